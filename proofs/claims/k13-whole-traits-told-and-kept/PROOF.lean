import PyProof.Rows.All
import Wide.All
import OpenK.AllK
import Wide.FinOn
import HandS.ForMost
import HandS.ForExc
import HandS.Wide
import HandS.Flow
import HandS.TryMany
import HandS.IsInst
import HandS.WideBits
import HandS.TupAny
import HandS.More
import HandS.Comp
import HandS.EndBits
import HandS.Dict
import HandS.Style
import HandS.Star
import OpenK.KOps
import OpenK.KMeth
import HandS.Property
import HandS.Small
import HandS.ExcInit
import HandS.FStr
import HandS.Text
import HandS.TryOnly
import HandS.SortInts
import PySem.Challenge.RW_everyround_k13_whole_traits_told_and_kep
set_option Elab.async false
set_option linter.all false
set_option maxRecDepth 100000
set_option maxHeartbeats 4000000
namespace DL
open PySem PySem.Spec PyProof.Rows L2
open PySem.W (Frag)

/-- data: tuples, frozen lists, frozen objects and frozen dicts by value; what may change by its address -/
inductive D where
  | non | bl (b : Bool) | int (i : Int) | str (x : Str)
  | tup (xs : List D) | lst (xs : List D) | wls (xs : List D)
  | obj (c : Str) (ns : List Str) (vs : List D)
  | dct (ks vs : List D)
  | ref (a : Addr) | ty (n : String) | gv (n : Str)
/-- what stands at an address that may change -/
inductive HOD where
  | lst (xs : List D) | ins (c : Str) (ns : List Str) (vs : List D) | dK (kvs : List (Key × D)) | dT (kvs : List (List Key × D))
abbrev HH := Addr → Option HOD

/-- what the text's own global name n holds: a def, a class -/
def gaddr (K : Frag) (n : Str) : Option Addr := match PySem.W.nsIn K mainGlobals n with
  | some (some (.ref a)) => some a
  | _ => none
theorem gaddr_of {K : Frag} {n : Str} {a : Addr} (h : PySem.W.nsIn K mainGlobals n = some (some (.ref a))) : gaddr K n = some a := by unfold gaddr; rw [h]
def kD : Key → D
  | .inl i => .int i
  | .inr x => .str x

/-- a tuple that is read: tracked and frozen, or written -/
def FT (K : Frag) (H : Hp) (G : HH) (a : Addr) (xs : List V) : Prop := (H a = some (.tup xs) ∧ G a = none) ∨
  ∃ (o : Obj) (its : Array Value) (n : Nat), K.lookup a = some o ∧ o.cls = .type "tuple" ∧ o.data = .seq its n ∧ its.size ≤ sizeLine ∧ Vals xs its.toList
theorem FT.sq {K H G a xs} (h : FT K H G a xs) : SqT K H a xs := h.elim (fun z => .inl (.inl z.1)) .inr
/-- a list that nobody may change: the script, a list of the written part -/
def FW (K : Frag) (H : Hp) (G : HH) (a : Addr) (xs : List V) : Prop := (Rd H a (.lst xs) ∧ G a = none) ∨
  ∃ (o : Obj) (its : Array Value) (n : Nat), K.lookup a = some o ∧ o.cls = .type "list" ∧ o.dict = none ∧ o.data = .seq its n ∧ its.size ≤ sizeLine ∧ Vals xs its.toList
theorem FW.sq {K H G a xs} (h : FW K H G a xs) : SqL K H a xs := h.elim (fun z => .inl z.1) .inr

mutual
inductive Rp (K : Frag) (H : Hp) (G : HH) : D → V → Prop
  | non : Rp K H G .non .non
  | bl (b : Bool) : Rp K H G (.bl b) (.bl b)
  | int (i : Int) : Rp K H G (.int i) (.int i)
  | str (x : Str) : Rp K H G (.str x) (.str x)
  | ty (n : String) : Rp K H G (.ty n) (.ty n)
  | ref (a : Addr) : Rp K H G (.ref a) (.ref a)
  | tup {a : Addr} {xs : List V} {ds : List D} : FT K H G a xs → Rps K H G ds xs → Rp K H G (.tup ds) (.ref a)
  | lst {a : Addr} {xs : List V} {ds : List D} : H a = some (.lst xs) → G a = none → Rps K H G ds xs → Rp K H G (.lst ds) (.ref a)
  | wls {a : Addr} {xs : List V} {ds : List D} : FW K H G a xs → Rps K H G ds xs → Rp K H G (.wls ds) (.ref a)
  | gv {a : Addr} {n : Str} : gaddr K n = some a → Rp K H G (.gv n) (.ref a)
  | obj {a dx C : Addr} {c : Str} {ns : List Str} {xs : List V} {ds : List D} : gaddr K c = some C → H a = some (.ins C dx (ns.zip xs)) → G a = none → ns.length = xs.length → Rps K H G ds xs → Rp K H G (.obj c ns ds) (.ref a)
  | dK {a : Addr} {kvs : List (Key × V)} {ks ds : List D} : Rd H a (.dK kvs) → G a = none → ks = kvs.map (fun p => kD p.1) → Rps K H G ds (kvs.map (·.2)) → Rp K H G (.dct ks ds) (.ref a)
  | dT {a : Addr} {kvs : List (List Key × V)} {ks ds : List D} : Rd H a (.dT kvs) → G a = none → ks = kvs.map (fun p => D.tup (p.1.map kD)) → Rps K H G ds (kvs.map (·.2)) → Rp K H G (.dct ks ds) (.ref a)
inductive Rps (K : Frag) (H : Hp) (G : HH) : List D → List V → Prop
  | nil : Rps K H G [] []
  | cons {d : D} {v : V} {ds : List D} {vs : List V} : Rp K H G d v → Rps K H G ds vs → Rps K H G (d :: ds) (v :: vs)
end

/-- kinds that a lock may not touch -/
def plainO : HO → Bool
  | .dK _ => false
  | .dT _ => false
  | .frz _ _ => false
  | .set _ _ => false
  | _ => true
/-- a step: what was frozen stays, nothing that stood thaws -/
structure Stp (H : Hp) (G : HH) (H' : Hp) (G' : HH) : Prop where
  keep : ∀ b o, H b = some o → G b = none → plainO o = true → H' b = some o
  keepR : ∀ b o, Rd H b o → G b = none → Rd H' b o
  dom : ∀ b, H b ≠ none → G b = none → G' b = none
theorem rd_ne {H : Hp} {a : Addr} {o : HO} (h : Rd H a o) : H a ≠ none := by
  rcases h with h | ⟨_, h⟩ <;> rw [h] <;> simp
theorem ne_none {H : Hp} {a : Addr} {o : HO} (h : H a = some o) : H a ≠ none := by rw [h]; simp
theorem Stp.refl {H G} : Stp H G H G := ⟨fun _ _ h _ _ => h, fun _ _ h _ => h, fun _ _ h => h⟩
theorem Stp.there {H G H' G'} (s : Stp H G H' G') {b} (h : H b ≠ none) (g : G b = none) : H' b ≠ none := by
  cases e : H b with
  | none => exact absurd e h
  | some o => exact rd_ne (s.keepR b o (.inl e) g)
theorem Stp.trans {H G H1 G1 H2 G2} (a : Stp H G H1 G1) (b : Stp H1 G1 H2 G2) : Stp H G H2 G2 :=
  ⟨fun c o h g p => b.keep c o (a.keep c o h g p) (a.dom c (ne_none h) g) p, fun c o h g => b.keepR c o (a.keepR c o h g) (a.dom c (rd_ne h) g), fun c h g => b.dom c (a.there h g) (a.dom c h g)⟩
theorem FT.mono {K H G H' G' a xs} (s : Stp H G H' G') (h : FT K H G a xs) : FT K H' G' a xs :=
  h.elim (fun z => .inl ⟨s.keep _ _ z.1 z.2 rfl, s.dom _ (ne_none z.1) z.2⟩) .inr
theorem FW.mono {K H G H' G' a xs} (s : Stp H G H' G') (h : FW K H G a xs) : FW K H' G' a xs :=
  h.elim (fun z => .inl ⟨s.keepR _ _ z.1 z.2, s.dom _ (rd_ne z.1) z.2⟩) .inr
mutual
theorem Rp.mono {K H G H' G'} (s : Stp H G H' G') : ∀ {d v}, Rp K H G d v → Rp K H' G' d v
  | _, _, .non => .non
  | _, _, .bl b => .bl b
  | _, _, .int i => .int i
  | _, _, .str x => .str x
  | _, _, .ty n => .ty n
  | _, _, .ref a => .ref a
  | _, _, .tup h r => .tup (h.mono s) (Rps.mono s r)
  | _, _, .lst h g r => .lst (s.keep _ _ h g rfl) (s.dom _ (ne_none h) g) (Rps.mono s r)
  | _, _, .wls h r => .wls (h.mono s) (Rps.mono s r)
  | _, _, .gv h => .gv h
  | _, _, .obj hc h g e r => .obj hc (s.keep _ _ h g rfl) (s.dom _ (ne_none h) g) e (Rps.mono s r)
  | _, _, .dK h g e r => .dK (s.keepR _ _ h g) (s.dom _ (rd_ne h) g) e (Rps.mono s r)
  | _, _, .dT h g e r => .dT (s.keepR _ _ h g) (s.dom _ (rd_ne h) g) e (Rps.mono s r)
theorem Rps.mono {K H G H' G'} (s : Stp H G H' G') : ∀ {ds vs}, Rps K H G ds vs → Rps K H' G' ds vs
  | _, _, .nil => .nil
  | _, _, .cons a r => .cons (Rp.mono s a) (Rps.mono s r)
end
theorem Rps.length {K H G} : ∀ {ds vs}, Rps K H G ds vs → ds.length = vs.length
  | _, _, .nil => rfl
  | _, _, .cons _ r => by simp [Rps.length r]
theorem Rps.get {K H G} : ∀ {ds : List D} {vs : List V} {i : Nat} {d : D}, Rps K H G ds vs → ds[i]? = some d → ∃ v, vs[i]? = some v ∧ Rp K H G d v
  | _, _, _, _, .nil, e => by simp at e
  | _, _, 0, _, .cons a _, e => by simp at e; subst e; exact ⟨_, rfl, a⟩
  | _, _, i + 1, d, .cons _ r, e => by
    obtain ⟨v, h1, h2⟩ := Rps.get (i := i) (d := d) r (by simpa using e)
    exact ⟨v, by simpa using h1, h2⟩
theorem Rps.append {K H G} : ∀ {ds es : List D} {vs ws : List V}, Rps K H G ds vs → Rps K H G es ws → Rps K H G (ds ++ es) (vs ++ ws)
  | _, _, _, _, .nil, s => s
  | _, _, _, _, .cons r t, s => .cons r (Rps.append t s)
theorem Rps.take {K H G} : ∀ {ds : List D} {vs : List V} (n : Nat), Rps K H G ds vs → Rps K H G (ds.take n) (vs.take n)
  | _, _, 0, _ => by simp; exact .nil
  | _, _, _ + 1, .nil => .nil
  | _, _, n + 1, .cons r t => .cons r (Rps.take n t)
theorem Rps.drop {K H G} : ∀ {ds : List D} {vs : List V} (n : Nat), Rps K H G ds vs → Rps K H G (ds.drop n) (vs.drop n)
  | _, _, 0, r => r
  | _, _, _ + 1, .nil => .nil
  | _, _, n + 1, .cons r t => Rps.drop n t
theorem Rps.set {K H G} {d : D} {v : V} (r : Rp K H G d v) : ∀ {ds : List D} {vs : List V} (i : Nat), Rps K H G ds vs → Rps K H G (ds.set i d) (vs.set i v)
  | _, _, _, .nil => .nil
  | _, _, 0, .cons _ t => .cons r t
  | _, _, i + 1, .cons q t => .cons q (Rps.set r i t)
theorem Rps.ints {K H G} : ∀ {ns : List Int} {vs : List V}, Rps K H G (ns.map D.int) vs → vs = ns.map V.int
  | [], _, .nil => rfl
  | n :: ns, _, .cons a r => by cases a; rw [Rps.ints r]; rfl
theorem Rps.of_ints {K H G} : ∀ (ns : List Int), Rps K H G (ns.map D.int) (ns.map V.int)
  | [] => .nil
  | n :: ns => .cons (.int n) (Rps.of_ints ns)
theorem Rps.strs {K H G} : ∀ {ns : List Str} {vs : List V}, Rps K H G (ns.map D.str) vs → vs = ns.map V.str
  | [], _, .nil => rfl
  | n :: ns, _, .cons a r => by cases a; rw [Rps.strs r]; rfl
theorem Rps.of_strs {K H G} : ∀ (ns : List Str), Rps K H G (ns.map D.str) (ns.map V.str)
  | [] => .nil
  | n :: ns => .cons (.str n) (Rps.of_strs ns)
theorem Rps.bls {K H G} : ∀ {ns : List Bool} {vs : List V}, Rps K H G (ns.map D.bl) vs → vs = ns.map V.bl
  | [], _, .nil => rfl
  | n :: ns, _, .cons a r => by cases a; rw [Rps.bls r]; rfl

/-- the heap of what may change -/
def HR (K : Frag) (H : Hp) (G : HH) (p : Addr) : HOD → Prop
  | .lst ds => ∃ xs, H p = some (.lst xs) ∧ Rps K H G ds xs
  | .ins c ns ds => ∃ C dx xs, gaddr K c = some C ∧ H p = some (.ins C dx (ns.zip xs)) ∧ ns.length = xs.length ∧ Rps K H G ds xs
  | .dK kvs => ∃ xs : List (Key × V), H p = some (.dK xs) ∧ kvs.map (·.1) = xs.map (·.1) ∧ Rps K H G (kvs.map (·.2)) (xs.map (·.2))
  | .dT kvs => ∃ xs : List (List Key × V), H p = some (.dT xs) ∧ kvs.map (·.1) = xs.map (·.1) ∧ Rps K H G (kvs.map (·.2)) (xs.map (·.2))
def RelH (K : Frag) (H : Hp) (G : HH) : Prop := ∀ p o, G p = some o → HR K H G p o
theorem HR.ne {K H G p o} (h : HR K H G p o) : H p ≠ none := by
  cases o with
  | lst ds => obtain ⟨_, e, _⟩ := h; rw [e]; simp
  | ins C ns ds => obtain ⟨_, _, _, _, e, _⟩ := h; rw [e]; simp
  | dK kvs => obtain ⟨_, e, _⟩ := h; rw [e]; simp
  | dT kvs => obtain ⟨_, e, _⟩ := h; rw [e]; simp
theorem RelH.free {K H G p} (h : RelH K H G) (e : H p = none) : G p = none := by
  cases q : G p with
  | none => rfl
  | some o => exact absurd e (h p o q).ne
/-- the slots -/
abbrev SD := List (Option D)
structure SRp (K : Frag) (H : Hp) (G : HH) (σD : SD) (σ : L2.St) : Prop where
  len : σD.length = σ.length
  at_ : ∀ (i : Nat) (d : D), σD[i]? = some (some d) → ∃ v, σ[i]? = some (some v) ∧ Rp K H G d v
theorem SRp.mono {K : Frag} {H G H' G'} {σD : SD} {σ : L2.St} (s : Stp H G H' G') (h : SRp K H G σD σ) : SRp K H' G' σD σ :=
  ⟨h.len, fun i d e => let ⟨v, e1, r⟩ := h.at_ i d e; ⟨v, e1, r.mono s⟩⟩
theorem SRp.set {K : Frag} {H G} {σD : SD} {σ : L2.St} {d : D} {v : V} (h : SRp K H G σD σ) (i : Nat) (r : Rp K H G d v) : SRp K H G (σD.set i (some d)) (σ.set i (some v)) := by
  refine ⟨by simp [h.len], fun j e he => ?_⟩
  by_cases hj : i = j
  · subst hj
    have hlt : i < σD.length := by
      have := (List.getElem?_eq_some_iff.mp he).1
      simpa using this
    rw [List.getElem?_set_self hlt] at he
    cases he
    exact ⟨v, List.getElem?_set_self (by rw [← h.len]; exact hlt), r⟩
  · rw [List.getElem?_set_ne hj] at he
    obtain ⟨u, e1, r1⟩ := h.at_ j e he
    exact ⟨u, by rw [List.getElem?_set_ne hj]; exact e1, r1⟩

/-- an exception: its class by name, its fields -/
inductive XC where
  | own (n : Str) | bi (n : String)
structure XD where
  cls : XC
  ns : List Str
  vs : List D
def XC.is (K : Frag) : XC → Value → Prop
  | .own n, v => ∃ C, gaddr K n = some C ∧ v = .ref C
  | .bi n, v => v = .type n
def XRp (K : Frag) (H : Hp) (G : HH) (x : XD) (cls : Value) (d : Option Addr) : Prop := x.cls.is K cls ∧
  match d with
  | none => x.ns = [] ∧ x.vs = []
  | some a => ∃ xs, H a = some (.xd (x.ns.zip xs)) ∧ G a = none ∧ x.ns.length = xs.length ∧ Rps K H G x.vs xs
abbrev QD := D → HH → Prop
abbrev ED := XD → HH → Prop
abbrev TED := SD → HH → QD → ED → Prop
abbrev TTD := SD → HH → (Bool → HH → Prop) → ED → Prop
abbrev TAD := SD → HH → (List D → HH → Prop) → ED → Prop
/-- where an exception may go -/
def Exs (K : Frag) (W : WX) (σ : L2.St) (H : Hp) (G : HH) (E : ED) : Prop := ∀ x cls d H' G', Stp H G H' G' → RelH K H' G' → XRp K H' G' x cls d → E x G' → W cls d σ H'
theorem Exs.mono {K W σ H G H' G' E} (s : Stp H G H' G') (h : Exs K W σ H G E) : Exs K W σ H' G' E := fun x cls d H2 G2 s2 r2 p2 e2 => h x cls d H2 G2 (s.trans s2) r2 p2 e2
/-- what follows a value -/
def Ct (K : Frag) (H : Hp) (G : HH) (Q : VK) (QD : QD) : Prop := ∀ v H' d G', Stp H G H' G' → RelH K H' G' → Rp K H' G' d v → QD d G' → Q v H'
theorem Ct.mono {K H G H' G' Q QD} (s : Stp H G H' G') (h : Ct K H G Q QD) : Ct K H' G' Q QD := fun v H2 d G2 s2 r2 p2 q2 => h v H2 d G2 (s.trans s2) r2 p2 q2
theorem Ct.now {K H G Q QD d v} (h : Ct K H G Q QD) (r : RelH K H G) (p : Rp K H G d v) (q : QD d G) : Q v H := h v H d G Stp.refl r p q
def lft (K : Frag) (W : WX) (t : TED) : TE := fun σ H Q => ∃ σD G QD E, RelH K H G ∧ SRp K H G σD σ ∧ t σD G QD E ∧ Ct K H G Q QD ∧ Exs K W σ H G E
def lftT (K : Frag) (W : WX) (t : TTD) : TT := fun σ H Q => ∃ σD G QD E, RelH K H G ∧ SRp K H G σD σ ∧ t σD G QD E ∧ (∀ b H' G', Stp H G H' G' → RelH K H' G' → QD b G' → Q b H') ∧ Exs K W σ H G E
def lftA (K : Frag) (W : WX) (t : TAD) : TA := fun σ H Q => ∃ σD G QD E, RelH K H G ∧ SRp K H G σD σ ∧ t σD G QD E ∧ (∀ vs H' ds G', Stp H G H' G' → RelH K H' G' → Rps K H' G' ds vs → QD ds G' → Q vs H') ∧ Exs K W σ H G E
/-- the judgements over data -/
def DE (X : Cx) (W : WX) (e : Expr) (t : TED) : Prop := PE X e (lft X.K W t)
def DT (X : Cx) (W : WX) (e : Expr) (t : TTD) : Prop := PT X e (lftT X.K W t)
def DW (X : Cx) (W : WX) (e : Expr) (t : TTD) : Prop := PW X e (lftT X.K W t)
def DA (X : Cx) (W : WX) (es : List Expr) (t : TAD) : Prop := PA X es (lftA X.K W t)
theorem PE.imp {X : Cx} {e : Expr} {t t' : TE} (h : PE X e t) (i : ∀ σ H Q, t' σ H Q → t σ H Q) : PE X e t' := ⟨fun pins s σ H Q I q => h.run pins s σ H Q I (i σ H Q q)⟩
theorem PT.imp {X : Cx} {e : Expr} {t t' : TT} (h : PT X e t) (i : ∀ σ H Q, t' σ H Q → t σ H Q) : PT X e t' := ⟨fun pins s σ H Q I q => h.run pins s σ H Q I (i σ H Q q)⟩
theorem PW.imp {X : Cx} {e : Expr} {t t' : TT} (h : PW X e t) (i : ∀ σ H Q, t' σ H Q → t σ H Q) : PW X e t' := ⟨fun wh pins s σ H Q I q => h.run wh pins s σ H Q I (i σ H Q q)⟩
theorem PA.imp {X : Cx} {es : List Expr} {t t' : TA} (h : PA X es t) (i : ∀ σ H Q, t' σ H Q → t σ H Q) : PA X es t' := ⟨fun pos pins s σ H Q I q => h.run pos pins s σ H Q I (i σ H Q q)⟩

/-! ### names, constants -/
def dVar (i : Nat) : TED := fun σ G Q _ => ∃ d, σ[i]? = some (some d) ∧ Q d G
def dC (d : D) : TED := fun _ G Q _ => Q d G
variable {X : Cx} {W : WX}
theorem de_var (i : Nat) {x : Str} {pos : Pos} (hN : X.N[i]? = some x := by rfl) (hv : Vis X.env.scope x := by first | exact Or.inl rfl | exact Or.inr (Or.inl rfl) | exact Or.inr (Or.inr rfl)) (hd : (x == ("__debug__" : Str)) = false := by decide)
    (hcd : (x == ("__classdict__" : Str)) = false := by decide) : DE X W (.Name x pos) (dVar i) :=
  PE.imp (pe_var hN hv hd hcd) fun σ H Q ⟨σD, G, QD, E, hR, hS, ⟨d, e, q⟩, hq, he⟩ => by
    obtain ⟨v, ev, r⟩ := hS.at_ i d e
    exact ⟨v, ev, hq.now hR r q⟩
theorem lft_C {K W d v σ H Q} (r : ∀ H G, Rp K H G d v) (h : lft K W (dC d) σ H Q) : tC v σ H Q := by
  obtain ⟨σD, G, QD, E, hR, hS, q, hq, he⟩ := h
  exact hq.now hR (r H G) q
theorem de_int {i j pos} : DE X W (.Constant (.int i) j pos) (dC (.int i)) := PE.imp pe_int fun _ _ _ => lft_C fun _ _ => .int i
theorem de_bl {i j pos} : DE X W (.Constant (.bool i) j pos) (dC (.bl i)) := PE.imp pe_bl fun _ _ _ => lft_C fun _ _ => .bl i
theorem de_non {j pos} : DE X W (.Constant .none j pos) (dC .non) := PE.imp pe_non fun _ _ _ => lft_C fun _ _ => .non
theorem de_str {x j pos} : DE X W (.Constant (.str x) j pos) (dC (.str x)) := PE.imp pe_str fun _ _ _ => lft_C fun _ _ => .str x
/-- a global name's value -/
theorem de_glob {x : Str} {d : D} {v : V} {u : Value} {pos : Pos} (r : ∀ H G, Rp X.K H G d v) (hg : Gl X x) (hm : X.mg x = some u) (ru : RelV v u) (hd : (x == ("__debug__" : Str)) = false := by decide) : DE X W (.Name x pos) (dC d) :=
  PE.imp (pe_glob hg hm ru hd) fun _ _ _ => lft_C r

/-! ### operators by values -/
def OpSim (K : Frag) (r : R2) (rD : D → D → HH → QD → Prop) : Prop := ∀ x y H Q dx dy G QD, RelH K H G → Rp K H G dx x → Rp K H G dy y → rD dx dy G QD → Ct K H G Q QD → r x y H Q
def dOp (rD : D → D → HH → QD → Prop) (ta tb : TED) : TED := fun σ G Q E => ta σ G (fun x G1 => tb σ G1 (fun y G2 => rD x y G2 Q) E) E
theorem lft_op {K : Frag} {W : WX} {r rD ta tb σ H Q} (sim : OpSim K r rD) (h : lft K W (dOp rD ta tb) σ H Q) : tOp r (lft K W ta) (lft K W tb) σ H Q := by
  obtain ⟨σD, G, QD, E, hR, hS, ht, hq, he⟩ := h
  refine ⟨σD, G, _, E, hR, hS, ht, fun v1 H1 d1 G1 s1 r1 p1 q1 => ?_, he⟩
  refine ⟨σD, G1, _, E, r1, hS.mono s1, q1, fun v2 H2 d2 G2 s2 r2 p2 q2 => ?_, he.mono s1⟩
  exact sim _ _ _ _ _ _ _ _ r2 (p1.mono s2) p2 q2 (hq.mono (s1.trans s2))
theorem OpSim.or {K r r' rD rD'} (h : OpSim K r rD) (h' : OpSim K r' rD') : OpSim K (fun x y H Q => r x y H Q ∨ r' x y H Q) (fun x y G Q => rD x y G Q ∨ rD' x y G Q) :=
  fun x y H Q dx dy G QD hR px py q hq => q.elim (fun z => .inl (h x y H Q dx dy G QD hR px py z hq)) fun z => .inr (h' x y H Q dx dy G QD hR px py z hq)
/-- operators on two ints -/
def oI (C : Int → Int → Prop) (g : Int → Int → D) : D → D → HH → QD → Prop := fun x y G Q => ∃ i j, x = .int i ∧ y = .int j ∧ C i j ∧ Q (g i j) G
theorem sim_I {K : Frag} {C : Int → Int → Prop} {g : Int → Int → V} {gD : Int → Int → D} (hg : ∀ i j H G, Rp K H G (gD i j) (g i j)) : OpSim K (rI C g) (oI C gD) := fun x y H Q dx dy G QD hR px py q hq => by
  obtain ⟨i, j, rfl, rfl, c, q⟩ := q
  cases px; cases py
  exact ⟨i, j, rfl, rfl, c, hq.now hR (hg i j H G) q⟩
theorem sim_I0 {K : Frag} {g : Int → Int → V} {gD : Int → Int → D} (hg : ∀ i j H G, Rp K H G (gD i j) (g i j)) : OpSim K (rI0 g) (oI (fun _ _ => True) gD) := fun x y H Q dx dy G QD hR px py q hq => by
  obtain ⟨i, j, rfl, rfl, c, q⟩ := q
  cases px; cases py
  exact ⟨i, j, rfl, rfl, hq.now hR (hg i j H G) q⟩
end DL

namespace DL
open PySem PySem.Spec PyProof.Rows L2
open PySem.W (Frag)

/-! ### changes of the heaps -/
def gput (G : HH) (p : Addr) (o : HOD) : HH := fun b => if b = p then some o else G b
def gdel (G : HH) (p : Addr) : HH := fun b => if b = p then none else G b
theorem gput_same {G p o} : gput G p o p = some o := by unfold gput; rw [if_pos rfl]
theorem gput_ne {G : HH} {p b : Addr} {o} (h : b ≠ p) : gput G p o b = G b := by unfold gput; rw [if_neg h]
theorem gdel_same {G p} : gdel G p p = none := by unfold gdel; rw [if_pos rfl]
theorem gdel_ne {G : HH} {p b : Addr} (h : b ≠ p) : gdel G p b = G b := by unfold gdel; rw [if_neg h]
theorem gput_gput {G p o o'} : gput (gput G p o) p o' = gput G p o' := by
  funext b; unfold gput; split <;> rfl
theorem rd_new {H : Hp} {p b : Addr} {o u : HO} (hn : H p = none) (h : Rd H b u) : Rd (upd H p o) b u := by
  have hb : b ≠ p := fun e => rd_ne h (by rw [e]; exact hn)
  rcases h with h | ⟨o', h⟩
  · exact .inl (by rw [upd_ne hb]; exact h)
  · exact .inr ⟨o', by rw [upd_ne hb]; exact h⟩
/-- a new object, frozen at once -/
theorem Stp.new {H G p o} (hn : H p = none) : Stp H G (upd H p o) G :=
  ⟨fun b u h _ _ => by rw [upd_ne (ne_of_none h hn)]; exact h, fun b u h _ => rd_new hn h, fun b _ g => g⟩
theorem HR.at {K H G H' G' p o} (h : HR K H G p o) (s : Stp H G H' G') (e : H' p = H p) : HR K H' G' p o := by
  cases o with
  | lst ds => obtain ⟨xs, h1, r⟩ := h; exact ⟨xs, by rw [e]; exact h1, r.mono s⟩
  | ins c ns ds => obtain ⟨C, dx, xs, hc, h1, l, r⟩ := h; exact ⟨C, dx, xs, hc, by rw [e]; exact h1, l, r.mono s⟩
  | dK kvs => obtain ⟨xs, h1, l, r⟩ := h; exact ⟨xs, by rw [e]; exact h1, l, r.mono s⟩
  | dT kvs => obtain ⟨xs, h1, l, r⟩ := h; exact ⟨xs, by rw [e]; exact h1, l, r.mono s⟩
theorem RelH.new {K H G p o} (h : RelH K H G) (hn : H p = none) : RelH K (upd H p o) G := fun q u e =>
  (h q u e).at (Stp.new hn) (upd_ne fun z => (h q u e).ne (by rw [z]; exact hn))
/-- a new object that may change -/
theorem Stp.newM {H G p o od} (hn : H p = none) : Stp H G (upd H p o) (gput G p od) :=
  ⟨fun b u h _ _ => by rw [upd_ne (ne_of_none h hn)]; exact h, fun b u h _ => rd_new hn h, fun b hb g => by
    rw [gput_ne (fun z => hb (by rw [z]; exact hn))]; exact g⟩
theorem RelH.newM {K H G p o od} (h : RelH K H G) (hn : H p = none) (hr : HR K (upd H p o) (gput G p od) p od) : RelH K (upd H p o) (gput G p od) := fun q u e => by
  by_cases hq : q = p
  · subst hq; rw [gput_same] at e; cases e; exact hr
  · rw [gput_ne hq] at e
    exact (h q u e).at (Stp.newM hn) (upd_ne hq)
/-- a change -/
theorem Stp.put {H G p o od o0} (hp : G p = some o0) : Stp H G (upd H p o) (gput G p od) := by
  have ne : ∀ b, G b = none → b ≠ p := fun b g e => by rw [e, hp] at g; cases g
  refine ⟨fun b u h g _ => by rw [upd_ne (ne b g)]; exact h, fun b u h g => ?_, fun b _ g => by rw [gput_ne (ne b g)]; exact g⟩
  rcases h with h | ⟨o', h⟩
  · exact .inl (by rw [upd_ne (ne b g)]; exact h)
  · exact .inr ⟨o', by rw [upd_ne (ne b g)]; exact h⟩
theorem RelH.put {K H G p o od o0} (h : RelH K H G) (hp : G p = some o0) (hr : HR K (upd H p o) (gput G p od) p od) : RelH K (upd H p o) (gput G p od) := fun q u e => by
  by_cases hq : q = p
  · subst hq; rw [gput_same] at e; cases e; exact hr
  · rw [gput_ne hq] at e
    exact (h q u e).at (Stp.put hp) (upd_ne hq)
/-- freezing -/
theorem Stp.del {H G p} : Stp H G H (gdel G p) := ⟨fun _ _ h _ _ => h, fun _ _ h _ => h, fun b _ g => by
  by_cases hb : b = p
  · subst hb; exact gdel_same
  · rw [gdel_ne hb]; exact g⟩
theorem RelH.del {K H G p} (h : RelH K H G) : RelH K H (gdel G p) := fun q u e => by
  by_cases hq : q = p
  · subst hq; rw [gdel_same] at e; cases e
  · rw [gdel_ne hq] at e
    exact (h q u e).at Stp.del rfl

/-! ### displays -/
variable {X : Cx} {W : WX} {e a b c : Expr} {es : List Expr} {ta tb tc : TED} {t u : TAD} {pos : Pos}
def dNil : TAD := fun _ G Q _ => Q [] G
def dCons (ta : TED) (t : TAD) : TAD := fun σ G Q E => ta σ G (fun d G1 => t σ G1 (fun ds G2 => Q (d :: ds) G2) E) E
theorem da_nil : DA X W [] dNil := PA.imp pa_nil fun σ H Q ⟨σD, G, QD, E, hR, hS, q, hq, he⟩ => hq _ _ _ _ Stp.refl hR .nil q
theorem da_cons (ha : DE X W e ta) (hr : DA X W es t) (hs : starEach (e :: es) X.env = (false, eval e X.env) :: starEach es X.env := by rfl) : DA X W (e :: es) (dCons ta t) :=
  PA.imp (pa_cons ha hr hs) fun σ H Q ⟨σD, G, QD, E, hR, hS, q, hq, he⟩ => by
    refine ⟨σD, G, _, E, hR, hS, q, fun v1 H1 d1 G1 s1 r1 p1 q1 => ?_, he⟩
    refine ⟨σD, G1, _, E, r1, hS.mono s1, q1, fun vs H2 ds G2 s2 r2 p2 q2 => ?_, he.mono s1⟩
    exact hq _ _ _ _ (s1.trans s2) r2 (.cons (p1.mono s2) p2) q2
def dTup (t : TAD) : TED := fun σ G Q E => t σ G (fun ds G1 => ds.length ≤ sizeLine ∧ Q (.tup ds) G1) E
theorem de_tup {x1} (h : DA X W es t) : DE X W (.Tuple es x1 pos) (dTup t) :=
  PE.imp (pe_tup h) fun σ H Q ⟨σD, G, QD, E, hR, hS, q, hq, he⟩ => by
    refine ⟨σD, G, _, E, hR, hS, q, fun vs H1 ds G1 s1 r1 p1 ⟨l, q1⟩ => ⟨by rw [← p1.length]; exact l, fun p hp => ?_⟩, he⟩
    have s2 : Stp H1 G1 (upd H1 p (.tup vs)) G1 := .new hp
    exact hq _ _ _ _ (s1.trans s2) (r1.new hp) (.tup (.inl ⟨upd_same, r1.free hp⟩) (p1.mono s2)) q1
def dLst (t : TAD) : TED := fun σ G Q E => t σ G (fun ds G1 => ds.length ≤ sizeLine ∧ Q (.lst ds) G1) E
theorem de_lst {x1} (h : DA X W es t) : DE X W (.List es x1) (dLst t) :=
  PE.imp (pe_lst h) fun σ H Q ⟨σD, G, QD, E, hR, hS, q, hq, he⟩ => by
    refine ⟨σD, G, _, E, hR, hS, q, fun vs H1 ds G1 s1 r1 p1 ⟨l, q1⟩ => ⟨by rw [← p1.length]; exact l, fun p hp => ?_⟩, he⟩
    have s2 : Stp H1 G1 (upd H1 p (.lst vs)) G1 := .new hp
    exact hq _ _ _ _ (s1.trans s2) (r1.new hp) (.lst upd_same (r1.free hp) (p1.mono s2)) q1
/-- a list that will change -/
def dLstM (t : TAD) : TED := fun σ G Q E => t σ G (fun ds G1 => ds.length ≤ sizeLine ∧ ∀ p, G1 p = none → Q (.ref p) (gput G1 p (.lst ds))) E
theorem de_lstM {x1} (h : DA X W es t) : DE X W (.List es x1) (dLstM t) :=
  PE.imp (pe_lst h) fun σ H Q ⟨σD, G, QD, E, hR, hS, q, hq, he⟩ => by
    refine ⟨σD, G, _, E, hR, hS, q, fun vs H1 ds G1 s1 r1 p1 ⟨l, q1⟩ => ⟨by rw [← p1.length]; exact l, fun p hp => ?_⟩, he⟩
    have s2 : Stp H1 G1 (upd H1 p (.lst vs)) (gput G1 p (.lst ds)) := .newM hp
    exact hq _ _ _ _ (s1.trans s2) (r1.newM hp ⟨vs, upd_same, p1.mono s2⟩) (.ref p) (q1 p (r1.free hp))

/-! ### operators -/
def OpD (X : Cx) (f : Value → Value → Sem Value) (rD : D → D → HH → QD → Prop) : Prop := ∃ r, OpR X f r ∧ OpSim X.K r rD
theorem OpD.or {f r r'} (h : OpD X f r) (h' : OpD X f r') : OpD X f (fun x y G Q => r x y G Q ∨ r' x y G Q) :=
  let ⟨_, a1, a2⟩ := h; let ⟨_, b1, b2⟩ := h'; ⟨_, a1.or b1, a2.or b2⟩
theorem de_op {op : Operator} {rD} (o : OpD X (binaryOp op) rD) (ha : DE X W a ta) (hb : DE X W b tb) : DE X W (.BinOp a op b pos) (dOp rD ta tb) :=
  let ⟨_, h1, h2⟩ := o; PE.imp (pe_op h1 ha hb) fun _ _ _ => lft_op h2
theorem de_cmp {op : CmpOp} {rD} (o : OpD X (compareOp op) rD) (ha : DE X W a ta) (hb : DE X W b tb) (hm : behindInMarks op b = false) : DE X W (.Compare a [op] [b] pos) (dOp rD ta tb) :=
  let ⟨_, h1, h2⟩ := o; PE.imp (pe_cmpR h1 ha hb hm) fun _ _ _ => lft_op h2
/-- a value's reading as a test -/
def dTest (t : TED) : TTD := fun σ G Q E => t σ G (fun x G1 => ∃ k, x = .bl k ∧ Q k G1) E
theorem lft_test {t : TE} {tD : TED} {K : Frag} (i : ∀ σ H Q, lft K W tD σ H Q → t σ H Q) : ∀ σ H Q, lftT K W (dTest tD) σ H Q → tTest t σ H Q := fun σ H Q ⟨σD, G, QD, E, hR, hS, q, hq, he⟩ => by
  refine i σ H _ ⟨σD, G, _, E, hR, hS, q, fun v1 H1 d1 G1 s1 r1 p1 ⟨k, e, q1⟩ => ?_, he⟩
  subst e
  cases p1
  exact ⟨k, rfl, hq _ _ _ s1 r1 q1⟩
theorem dt_cmp {op : CmpOp} {rD} (o : OpD X (compareOp op) rD) (ha : DE X W a ta) (hb : DE X W b tb) (hm : behindInMarks op b = false) : DT X W (.Compare a [op] [b] pos) (dTest (dOp rD ta tb)) :=
  let ⟨_, h1, h2⟩ := o; PT.imp (pt_cmpR h1 ha hb hm) (lft_test fun _ _ _ => lft_op h2)
def dChain (r r' : D → D → HH → QD → Prop) (ta tb tc : TED) : TED := fun σ G Q E => ta σ G (fun x G1 => tb σ G1 (fun y G2 => r x y G2 fun z G3 => ∃ k, z = .bl k ∧ (if k = true then tc σ G3 (fun w G4 => r' y w G4 Q) E else Q (.bl false) G3)) E) E
theorem lft_chain {K : Frag} {r r' : R2} {rD rD' σ H Q} (sim : OpSim K r rD) (sim' : OpSim K r' rD') (h : lft K W (dChain rD rD' ta tb tc) σ H Q) : tChain r r' (lft K W ta) (lft K W tb) (lft K W tc) σ H Q := by
  obtain ⟨σD, G, QD, E, hR, hS, ht, hq, he⟩ := h
  refine ⟨σD, G, _, E, hR, hS, ht, fun v1 H1 d1 G1 s1 r1 p1 q1 => ?_, he⟩
  refine ⟨σD, G1, _, E, r1, hS.mono s1, q1, fun v2 H2 d2 G2 s2 r2 p2 q2 => ?_, he.mono s1⟩
  refine sim _ _ _ _ _ _ _ _ r2 (p1.mono s2) p2 q2 fun v3 H3 d3 G3 s3 r3 p3 ⟨k, e3, q3⟩ => ?_
  subst e3
  cases p3
  refine ⟨k, rfl, ?_⟩
  cases k with
  | true =>
    rw [if_pos rfl] at q3 ⊢
    refine ⟨σD, G3, _, E, r3, hS.mono ((s1.trans s2).trans s3), q3, fun v4 H4 d4 G4 s4 r4 p4 q4 => ?_, he.mono ((s1.trans s2).trans s3)⟩
    exact sim' _ _ _ _ _ _ _ _ r4 ((p2.mono s3).mono s4) p4 q4 (hq.mono (((s1.trans s2).trans s3).trans s4))
  | false =>
    rw [if_neg Bool.false_ne_true] at q3 ⊢
    exact hq _ _ _ _ ((s1.trans s2).trans s3) r3 (.bl false) q3
theorem de_chain {op op' : CmpOp} {rD rD'} (o : OpD X (compareOp op) rD) (o' : OpD X (compareOp op') rD') (ha : DE X W a ta) (hb : DE X W b tb) (hc : DE X W c tc)
    (hm : lastMarks [op, op'] [b, c] = false := by with_unfolding_all rfl) : DE X W (.Compare a [op, op'] [b, c] pos) (dChain rD rD' ta tb tc) :=
  let ⟨_, h1, h2⟩ := o; let ⟨_, h3, h4⟩ := o'; PE.imp (pe_chain h1 h3 ha hb hc hm) fun _ _ _ => lft_chain h2 h4
theorem dt_chain {op op' : CmpOp} {rD rD'} (o : OpD X (compareOp op) rD) (o' : OpD X (compareOp op') rD') (ha : DE X W a ta) (hb : DE X W b tb) (hc : DE X W c tc)
    (hm : lastMarks [op, op'] [b, c] = false := by with_unfolding_all rfl) : DT X W (.Compare a [op, op'] [b, c] pos) (dTest (dChain rD rD' ta tb tc)) :=
  let ⟨_, h1, h2⟩ := o; let ⟨_, h3, h4⟩ := o'; PT.imp (pt_chain h1 h3 ha hb hc hm) (lft_test fun _ _ _ => lft_chain h2 h4)
def dUn (r : D → HH → QD → Prop) (ta : TED) : TED := fun σ G Q E => ta σ G (fun x G1 => r x G1 Q) E
def uI (g : Int → D) : D → HH → QD → Prop := fun x G Q => ∃ i, x = .int i ∧ Q (g i) G
theorem de_neg (ha : DE X W a ta) : DE X W (.UnaryOp .USub a pos) (dUn (uI fun i => .int (-i)) ta) :=
  PE.imp (pe_un un_neg ha) fun σ H Q ⟨σD, G, QD, E, hR, hS, q, hq, he⟩ =>
    ⟨σD, G, _, E, hR, hS, q, fun v1 H1 d1 G1 s1 r1 p1 ⟨i, e, q1⟩ => by
      subst e; cases p1
      exact ⟨i, rfl, hq _ _ _ _ s1 r1 (.int _) q1⟩, he⟩

/-- a sequence that is read, and its items -/
inductive Sq (G : HH) : D → List D → Prop
  | tup (xs : List D) : Sq G (.tup xs) xs
  | lst (xs : List D) : Sq G (.lst xs) xs
  | wls (xs : List D) : Sq G (.wls xs) xs
  | ref {p : Addr} {xs : List D} : G p = some (.lst xs) → Sq G (.ref p) xs
/-- .. a list alone -/
inductive Ls (G : HH) : D → List D → Prop
  | lst (xs : List D) : Ls G (.lst xs) xs
  | ref {p : Addr} {xs : List D} : G p = some (.lst xs) → Ls G (.ref p) xs
theorem Sq.of {K H G d xs v} (s : Sq G d xs) (r : RelH K H G) (p : Rp K H G d v) : ∃ a vs, v = .ref a ∧ (SqL K H a vs ∨ SqT K H a vs) ∧ Rps K H G xs vs := by
  cases s with
  | tup => cases p with | tup h q => exact ⟨_, _, rfl, .inr h.sq, q⟩
  | lst => cases p with | lst h g q => exact ⟨_, _, rfl, .inl (SqL.of h), q⟩
  | wls => cases p with | wls h q => exact ⟨_, _, rfl, .inl h.sq, q⟩
  | ref e => cases p with | ref a => obtain ⟨vs, h, q⟩ := r _ _ e; exact ⟨_, vs, rfl, .inl (SqL.of h), q⟩
theorem Ls.of {K H G d xs v} (s : Ls G d xs) (r : RelH K H G) (p : Rp K H G d v) : ∃ a vs, v = .ref a ∧ H a = some (.lst vs) ∧ Rps K H G xs vs := by
  cases s with
  | lst => cases p with | lst h g q => exact ⟨_, _, rfl, h, q⟩
  | ref e => cases p with | ref a => obtain ⟨vs, h, q⟩ := r _ _ e; exact ⟨_, vs, rfl, h, q⟩
/-- a new frozen list of such values comes -/
theorem Ct.lst {K H G Q QD p vs ds} (h : Ct K H G Q QD) (r : RelH K H G) (hp : H p = none) (q : Rps K H G ds vs) (z : QD (.lst ds) G) : Q (.ref p) (upd H p (.lst vs)) :=
  h _ _ _ _ (Stp.new hp) (r.new hp) (.lst upd_same (r.free hp) (q.mono (Stp.new hp))) z
theorem Ct.tup {K H G Q QD p vs ds} (h : Ct K H G Q QD) (r : RelH K H G) (hp : H p = none) (q : Rps K H G ds vs) (z : QD (.tup ds) G) : Q (.ref p) (upd H p (.tup vs)) :=
  h _ _ _ _ (Stp.new hp) (r.new hp) (.tup (.inl ⟨upd_same, r.free hp⟩) (q.mono (Stp.new hp))) z

/-! + -/
def aStr : D → D → HH → QD → Prop := fun x y G Q => ∃ i j, x = .str i ∧ y = .str j ∧ i.length + j.length ≤ sizeLine ∧ Q (.str (i ++ j)) G
def aLst : D → D → HH → QD → Prop := fun x y G Q => ∃ xs ys, Ls G x xs ∧ Ls G y ys ∧ xs.length + ys.length ≤ sizeLine ∧ Q (.lst (xs ++ ys)) G
def aTup : D → D → HH → QD → Prop := fun x y G Q => ∃ xs ys, x = .tup xs ∧ y = .tup ys ∧ xs.length + ys.length ≤ sizeLine ∧ Q (.tup (xs ++ ys)) G
theorem oAddI : OpD X (binaryOp .Add) (oI (fun _ _ => True) fun i j => .int (i + j)) := ⟨_, op_add, sim_I0 fun i j _ _ => .int _⟩
theorem oAddStr : OpD X (binaryOp .Add) aStr := ⟨_, op_add_str, fun x y H Q dx dy G QD hR px py ⟨i, j, e1, e2, l, q⟩ hq => by
  subst e1; subst e2; cases px; cases py
  exact ⟨_, _, rfl, rfl, l, hq.now hR (.str _) q⟩⟩
theorem oAddLst : OpD X (binaryOp .Add) aLst := ⟨_, op_cat, fun x y H Q dx dy G QD hR px py ⟨xs, ys, e1, e2, l, q⟩ hq => by
  obtain ⟨a, vs, rfl, ha, ra⟩ := e1.of hR px
  obtain ⟨b, us, rfl, hb, rb⟩ := e2.of hR py
  exact ⟨_, _, _, _, rfl, rfl, ha, hb, by rw [← ra.length, ← rb.length]; exact l, fun p hp => hq.lst hR hp (ra.append rb) q⟩⟩
theorem oMulI : OpD X (binaryOp .Mult) (oI CMulX fun i j => .int (i * j)) := ⟨_, op_mulX, sim_I fun i j _ _ => .int _⟩
def mRep : D → D → HH → QD → Prop := fun x y G Q => ∃ xs k, Ls G x xs ∧ y = .int k ∧ -(2 ^ 63) ≤ k ∧ k < 2 ^ 63 ∧ xs.length * k.toNat ≤ sizeLine ∧ Q (.lst (List.replicate k.toNat xs).flatten) G
theorem Rps.rep {K H G ds vs} (r : Rps K H G ds vs) : ∀ n : Nat, Rps K H G (List.replicate n ds).flatten (List.replicate n vs).flatten
  | 0 => .nil
  | n + 1 => by rw [List.replicate_succ, List.replicate_succ, List.flatten_cons, List.flatten_cons]; exact r.append (Rps.rep r n)
theorem oMulL : OpD X (binaryOp .Mult) mRep := ⟨_, op_rep, fun x y H Q dx dy G QD hR px py ⟨xs, k, e1, e2, l1, l2, l, q⟩ hq => by
  subst e2; cases py
  obtain ⟨a, vs, rfl, ha, ra⟩ := e1.of hR px
  exact ⟨_, _, _, rfl, rfl, ha, l1, l2, by rw [← ra.length]; exact l, fun p hp => hq.lst hR hp (ra.rep _) q⟩⟩
theorem oSub : OpD X (binaryOp .Sub) (oI (fun _ _ => True) fun i j => .int (i - j)) := ⟨_, op_sub, sim_I0 fun i j _ _ => .int _⟩
theorem oDiv : OpD X (binaryOp .FloorDiv) (oI CDivW fun i j => .int (i / j)) := ⟨_, op_fdivW, sim_I fun i j _ _ => .int _⟩
theorem oDivN : OpD X (binaryOp .FloorDiv) (oI CDivN fun i j => .int (i.fdiv j)) := ⟨_, op_fdivN, sim_I fun i j _ _ => .int _⟩
theorem oMod : OpD X (binaryOp .Mod) (oI (fun _ j => 0 < j) fun i j => .int (i % j)) := ⟨_, op_mod, sim_I fun i j _ _ => .int _⟩
theorem oModN : OpD X (binaryOp .Mod) (oI (fun _ j => j ≠ 0) fun i j => .int (i.fmod j)) := ⟨_, op_modN, sim_I fun i j _ _ => .int _⟩
theorem oPow : OpD X (binaryOp .Pow) (oI CPow fun i j => .int (i ^ j.toNat)) := ⟨_, op_pow, sim_I fun i j _ _ => .int _⟩
theorem oShl : OpD X (binaryOp .LShift) (oI CShl fun i j => .int (i * 2 ^ j.toNat)) := ⟨_, op_shlW, sim_I fun i j _ _ => .int _⟩
theorem oAnd : OpD X (binaryOp .BitAnd) (oI (fun _ _ => True) fun i j => .int (Builtin.bitAnd i j)) := ⟨_, op_and, sim_I0 fun i j _ _ => .int _⟩
theorem oLt : OpD X (compareOp .Lt) (oI (fun _ _ => True) fun i j => .bl (decide (i < j))) := ⟨_, op_lt, sim_I0 fun i j _ _ => .bl _⟩
theorem oLe : OpD X (compareOp .LtE) (oI (fun _ _ => True) fun i j => .bl (decide (i ≤ j))) := ⟨_, op_le, sim_I0 fun i j _ _ => .bl _⟩
theorem oGt : OpD X (compareOp .Gt) (oI (fun _ _ => True) fun i j => .bl (decide (j < i))) := ⟨_, op_gt, sim_I0 fun i j _ _ => .bl _⟩
theorem oGe : OpD X (compareOp .GtE) (oI (fun _ _ => True) fun i j => .bl (decide (j ≤ i))) := ⟨_, op_ge, sim_I0 fun i j _ _ => .bl _⟩
end DL

namespace DL
open PySem PySem.Spec PyProof.Rows L2
open PySem.W (Frag)
variable {X : Cx} {W : WX} {e a b c : Expr} {es : List Expr} {ta tb tc : TED} {t u : TAD} {tA tB' : TTD} {pos : Pos} {rest : List Expr}

/-! ### scalars -/
def D.sc : D → Option V
  | .non => some .non
  | .bl b => some (.bl b)
  | .int i => some (.int i)
  | .str x => some (.str x)
  | _ => none
def scs : List D → Option (List V)
  | [] => some []
  | d :: r => match d.sc, scs r with
    | some v, some vs => some (v :: vs)
    | _, _ => none
theorem Rp.sc {K H G d v u} (p : Rp K H G d v) (h : d.sc = some u) : v = u := by
  cases d <;> simp [D.sc] at h <;> subst h <;> cases p <;> rfl
theorem Rps.scs {K H G} : ∀ {ds : List D} {vs us : List V}, Rps K H G ds vs → DL.scs ds = some us → vs = us
  | [], _, _, .nil, h => by simp [DL.scs] at h; exact h.symm
  | d :: ds, _, us, .cons p r, h => by
    unfold DL.scs at h
    split at h
    · rename_i v' vs' h1 h2
      cases h
      rw [p.sc h1, Rps.scs r h2]
    · cases h
theorem sc_flat {d : D} {u : V} (h : d.sc = some u) : flatV u = true := by
  cases d <;> simp [D.sc] at h <;> subst h <;> rfl
theorem scs_flat : ∀ {ds : List D} {us : List V}, scs ds = some us → us.all flatV = true
  | [], us, h => by simp [scs] at h; subst h; rfl
  | d :: ds, us, h => by
    unfold scs at h
    split at h
    · rename_i v' vs' h1 h2
      cases h
      simp [sc_flat h1]
      simpa using scs_flat h2
    · cases h
def eSc (neg : Bool) : D → D → HH → QD → Prop := fun x y G Q => ∃ u v, x.sc = some u ∧ y.sc = some v ∧ scal u v = true ∧ Q (.bl (if neg then !decide (u = v) else decide (u = v))) G
theorem oEqS : OpD X (compareOp .Eq) (eSc false) := ⟨_, op_eq, fun x y H Q dx dy G QD hR px py ⟨u, v, e1, e2, s, q⟩ hq => by
  cases px.sc e1; cases py.sc e2
  exact ⟨s, hq.now hR (.bl _) q⟩⟩
theorem oNeS : OpD X (compareOp .NotEq) (eSc true) := ⟨_, op_ne, fun x y H Q dx dy G QD hR px py ⟨u, v, e1, e2, s, q⟩ hq => by
  cases px.sc e1; cases py.sc e2
  exact ⟨s, hq.now hR (.bl _) q⟩⟩

/-! ### data of any depth -/
mutual
def D.py : D → Option PyData
  | .non => some .none
  | .bl b => some (.bool b)
  | .int i => some (.int i)
  | .str x => some (.str x)
  | .tup xs => (pys xs).map .tuple
  | .lst xs => (pys xs).map .list
  | .wls xs => (pys xs).map .list
  | .gv _ => none
  | .obj _ _ _ => none
  | .dct _ _ => none
  | .ref _ => none
  | .ty _ => none
def pys : List D → Option (List PyData)
  | [] => some []
  | d :: r => match d.py, pys r with
    | some p, some ps => some (p :: ps)
    | _, _ => none
end
mutual
theorem Rp.dp {K H G} : ∀ {d v p}, Rp K H G d v → d.py = some p → Dp K H v p
  | _, _, _, .non, h => by simp [D.py] at h; subst h; exact .non
  | _, _, _, .bl b, h => by simp [D.py] at h; subst h; exact .bl b
  | _, _, _, .int i, h => by simp [D.py] at h; subst h; exact .int i
  | _, _, _, .str x, h => by simp [D.py] at h; subst h; exact .str x
  | _, _, _, .ty n, h => by simp [D.py] at h
  | _, _, _, .ref a, h => by simp [D.py] at h
  | _, _, _, .tup f r, h => by
    unfold D.py at h
    cases e : pys _ with
    | none => rw [e] at h; simp at h
    | some ps => rw [e] at h; simp at h; subst h; exact .tup f.sq (Rps.dp r e)
  | _, _, _, .lst f g r, h => by
    unfold D.py at h
    cases e : pys _ with
    | none => rw [e] at h; simp at h
    | some ps => rw [e] at h; simp at h; subst h; exact .lst (SqL.of f) (Rps.dp r e)
  | _, _, _, .wls f r, h => by
    unfold D.py at h
    cases e : pys _ with
    | none => rw [e] at h; simp at h
    | some ps => rw [e] at h; simp at h; subst h; exact .lst f.sq (Rps.dp r e)
  | _, _, _, .gv _, h => by simp [D.py] at h
  | _, _, _, .obj _ _ _ _ _, h => by simp [D.py] at h
  | _, _, _, .dK _ _ _ _, h => by simp [D.py] at h
  | _, _, _, .dT _ _ _ _, h => by simp [D.py] at h
theorem Rps.dp {K H G} : ∀ {ds vs ps}, Rps K H G ds vs → pys ds = some ps → DpAll K H vs ps
  | _, _, _, .nil, h => by simp [pys] at h; subst h; exact .nil
  | _, _, _, .cons p r, h => by
    unfold pys at h
    split at h
    · rename_i p1 ps1 h1 h2
      cases h
      exact .cons (Rp.dp p h1) (Rps.dp r h2)
    · cases h
end
/-- data, or a list that may change, of data -/
inductive Py (G : HH) : D → PyData → Prop
  | of {d : D} {p : PyData} : d.py = some p → Py G d p
  | ref {a : Addr} {ds : List D} {ps : List PyData} : G a = some (.lst ds) → pys ds = some ps → Py G (.ref a) (.list ps)
theorem Py.dp {K H G d v p} (h : Py G d p) (r : RelH K H G) (q : Rp K H G d v) : Dp K H v p := by
  cases h with
  | of e => exact q.dp e
  | ref e1 e2 => cases q with | ref a => obtain ⟨vs, h, z⟩ := r _ _ e1; exact .lst (SqL.of h) (z.dp e2)
def ePy (neg : Bool) : D → D → HH → QD → Prop := fun x y G Q => ∃ d e, Py G x d ∧ Py G y e ∧ SeqAt.shaped d = true ∧ SeqAt.shaped e = true ∧ Q (.bl (if neg then !PyData.eqv d e else PyData.eqv d e)) G
theorem oEqP (hu : X.A.units + 64 < cLine) : OpD X (compareOp .Eq) (ePy false) := ⟨_, op_eqD hu, fun x y H Q dx dy G QD hR px py ⟨d, e, e1, e2, s1, s2, q⟩ hq => ⟨d, e, e1.dp hR px, e2.dp hR py, s1, s2, hq.now hR (.bl _) q⟩⟩
theorem oNeP (hu : X.A.units + 64 < cLine) : OpD X (compareOp .NotEq) (ePy true) := ⟨_, op_neD hu, fun x y H Q dx dy G QD hR px py ⟨d, e, e1, e2, s1, s2, q⟩ hq => ⟨d, e, e1.dp hR px, e2.dp hR py, s1, s2, hq.now hR (.bl _) q⟩⟩
/-- == and != of scalars or data -/
def eAny (neg : Bool) : D → D → HH → QD → Prop := fun x y G Q => eSc neg x y G Q ∨ ePy neg x y G Q
theorem oEq (hu : X.A.units + 64 < cLine) : OpD X (compareOp .Eq) (eAny false) := oEqS.or (oEqP hu)
theorem oNe (hu : X.A.units + 64 < cLine) : OpD X (compareOp .NotEq) (eAny true) := oNeS.or (oNeP hu)
/-- is None -/
def isN (neg : Bool) (ta : TED) : TED := fun σ G Q E => ta σ G (fun x G1 => ∃ k, (k = true → x = .non) ∧ (x = .non → k = true) ∧ Q (.bl (if neg then !k else k)) G1) E
theorem non_iff {K H G d v} (p : Rp K H G d v) {k : Bool} (h1 : k = true → d = .non) (h2 : d = .non → k = true) : decide (v = .non) = k := by
  by_cases e : d = .non
  · subst e; cases p; rw [h2 rfl]; simp
  · have hk : k = false := by cases k; rfl; exact absurd (h1 rfl) e
    rw [hk]
    refine decide_eq_false fun z => e ?_
    subst z; cases p; rfl
theorem de_isN {j pos'} (ha : DE X W a ta) : DE X W (.Compare a [.Is] [.Constant .none j pos'] pos) (isN false ta) :=
  PE.imp (pe_cmp (pc_isN ha)) fun σ H Q ⟨σD, G, QD, E, hR, hS, q, hq, he⟩ => ⟨σD, G, _, E, hR, hS, q, fun v1 H1 d1 G1 s1 r1 p1 ⟨k, k1, k2, q1⟩ => by
    dsimp only; rw [non_iff p1 k1 k2]; exact hq _ _ _ _ s1 r1 (.bl _) q1, he⟩
theorem de_notN {j pos'} (ha : DE X W a ta) : DE X W (.Compare a [.IsNot] [.Constant .none j pos'] pos) (isN true ta) :=
  PE.imp (pe_cmp (pc_notN ha)) fun σ H Q ⟨σD, G, QD, E, hR, hS, q, hq, he⟩ => ⟨σD, G, _, E, hR, hS, q, fun v1 H1 d1 G1 s1 r1 p1 ⟨k, k1, k2, q1⟩ => by
    dsimp only; rw [non_iff p1 k1 k2]; exact hq _ _ _ _ s1 r1 (.bl _) q1, he⟩
theorem dt_isN {j pos'} (ha : DE X W a ta) : DT X W (.Compare a [.Is] [.Constant .none j pos'] pos) (dTest (isN false ta)) :=
  PT.imp (pt_cmp (pc_isN ha)) (lft_test fun σ H Q ⟨σD, G, QD, E, hR, hS, q, hq, he⟩ => ⟨σD, G, _, E, hR, hS, q, fun v1 H1 d1 G1 s1 r1 p1 ⟨k, k1, k2, q1⟩ => by
    dsimp only; rw [non_iff p1 k1 k2]; exact hq _ _ _ _ s1 r1 (.bl _) q1, he⟩)
theorem dt_notN {j pos'} (ha : DE X W a ta) : DT X W (.Compare a [.IsNot] [.Constant .none j pos'] pos) (dTest (isN true ta)) :=
  PT.imp (pt_cmp (pc_notN ha)) (lft_test fun σ H Q ⟨σD, G, QD, E, hR, hS, q, hq, he⟩ => ⟨σD, G, _, E, hR, hS, q, fun v1 H1 d1 G1 s1 r1 p1 ⟨k, k1, k2, q1⟩ => by
    dsimp only; rw [non_iff p1 k1 k2]; exact hq _ _ _ _ s1 r1 (.bl _) q1, he⟩)

/-! ### in -/
def iSeq (neg : Bool) : D → D → HH → QD → Prop := fun x y G Q => ∃ xs u us, Sq G y xs ∧ x.sc = some u ∧ scs xs = some us ∧ Q (.bl (if neg then !inV u us else inV u us)) G
def iStr (neg : Bool) : D → D → HH → QD → Prop := fun x y G Q => ∃ i j, x = .str i ∧ y = .str j ∧ Q (.bl (if neg then !(!(Builtin.Str.occurrences j i 0 j.length 1).isEmpty) else !(Builtin.Str.occurrences j i 0 j.length 1).isEmpty)) G
theorem oInSeq : OpD X (compareOp .In) (iSeq false) := ⟨_, op_in_seq, fun x y H Q dx dy G QD hR px py ⟨xs, u, us, s, e1, e2, q⟩ hq => by
  obtain ⟨p, vs, rfl, h, r⟩ := s.of hR py
  cases px.sc e1; cases r.scs e2
  exact ⟨p, _, rfl, h, sc_flat e1, scs_flat e2, hq.now hR (.bl _) q⟩⟩
theorem oNotInSeq : OpD X (compareOp .NotIn) (iSeq true) := ⟨_, op_notIn_seq, fun x y H Q dx dy G QD hR px py ⟨xs, u, us, s, e1, e2, q⟩ hq => by
  obtain ⟨p, vs, rfl, h, r⟩ := s.of hR py
  cases px.sc e1; cases r.scs e2
  exact ⟨p, _, rfl, h, sc_flat e1, scs_flat e2, hq.now hR (.bl _) q⟩⟩
theorem oInStr : OpD X (compareOp .In) (iStr false) := ⟨_, op_in_str, fun x y H Q dx dy G QD hR px py ⟨i, j, e1, e2, q⟩ hq => by
  subst e1; subst e2; cases px; cases py
  exact ⟨_, _, rfl, rfl, hq.now hR (.bl _) q⟩⟩
theorem oNotInStr : OpD X (compareOp .NotIn) (iStr true) := ⟨_, op_notin_str, fun x y H Q dx dy G QD hR px py ⟨i, j, e1, e2, q⟩ hq => by
  subst e1; subst e2; cases px; cases py
  exact ⟨_, _, rfl, rfl, hq.now hR (.bl _) q⟩⟩
def iAny (neg : Bool) : D → D → HH → QD → Prop := fun x y G Q => iSeq neg x y G Q ∨ iStr neg x y G Q
theorem oIn : OpD X (compareOp .In) (iAny false) := oInSeq.or oInStr
theorem oNotIn : OpD X (compareOp .NotIn) (iAny true) := oNotInSeq.or oNotInStr

/-! ### and, or, not, if else -/
def dAndV (ta tb : TED) : TED := fun σ G Q E => ta σ G (fun x G1 => ∃ c, x = .bl c ∧ if c = true then tb σ G1 Q E else Q (.bl false) G1) E
def dOrV (ta tb : TED) : TED := fun σ G Q E => ta σ G (fun x G1 => ∃ c, x = .bl c ∧ if c = true then Q (.bl true) G1 else tb σ G1 Q E) E
def dNotV (ta : TED) : TED := fun σ G Q E => ta σ G (fun x G1 => ∃ c, x = .bl c ∧ Q (.bl (!c)) G1) E
theorem de_one {op} (h : DE X W a ta) : DE X W (.BoolOp op [a] pos) ta := pe_one h
theorem de_and (ha : DE X W a ta) (hb : DE X W (.BoolOp .And (b :: rest) pos) tb) : DE X W (.BoolOp .And (a :: b :: rest) pos) (dAndV ta tb) :=
  PE.imp (pe_and ha hb) fun σ H Q ⟨σD, G, QD, E, hR, hS, q, hq, he⟩ => ⟨σD, G, _, E, hR, hS, q, fun v1 H1 d1 G1 s1 r1 p1 ⟨k, e1, q1⟩ => by
    subst e1; cases p1
    refine ⟨k, rfl, ?_⟩
    cases k with
    | true => rw [if_pos rfl] at q1 ⊢; exact ⟨σD, G1, _, E, r1, hS.mono s1, q1, hq.mono s1, he.mono s1⟩
    | false => rw [if_neg Bool.false_ne_true] at q1 ⊢; exact hq _ _ _ _ s1 r1 (.bl _) q1, he⟩
theorem de_or (ha : DE X W a ta) (hb : DE X W (.BoolOp .Or (b :: rest) pos) tb) : DE X W (.BoolOp .Or (a :: b :: rest) pos) (dOrV ta tb) :=
  PE.imp (pe_or ha hb) fun σ H Q ⟨σD, G, QD, E, hR, hS, q, hq, he⟩ => ⟨σD, G, _, E, hR, hS, q, fun v1 H1 d1 G1 s1 r1 p1 ⟨k, e1, q1⟩ => by
    subst e1; cases p1
    refine ⟨k, rfl, ?_⟩
    cases k with
    | true => rw [if_pos rfl] at q1 ⊢; exact hq _ _ _ _ s1 r1 (.bl _) q1
    | false => rw [if_neg Bool.false_ne_true] at q1 ⊢; exact ⟨σD, G1, _, E, r1, hS.mono s1, q1, hq.mono s1, he.mono s1⟩, he⟩
theorem de_not (ha : DE X W a ta) : DE X W (.UnaryOp .Not a pos) (dNotV ta) :=
  PE.imp (pe_not ha) fun σ H Q ⟨σD, G, QD, E, hR, hS, q, hq, he⟩ => ⟨σD, G, _, E, hR, hS, q, fun v1 H1 d1 G1 s1 r1 p1 ⟨k, e1, q1⟩ => by
    subst e1; cases p1
    exact ⟨k, rfl, hq _ _ _ _ s1 r1 (.bl _) q1⟩, he⟩
def dAnd (t u : TTD) : TTD := fun σ G Q E => t σ G (fun c G1 => if c = true then u σ G1 Q E else Q false G1) E
def dOr (t u : TTD) : TTD := fun σ G Q E => t σ G (fun c G1 => if c = true then Q true G1 else u σ G1 Q E) E
def dNot (t : TTD) : TTD := fun σ G Q E => t σ G (fun c G1 => Q (!c) G1) E
theorem dw_and1 (ha : DT X W a tA) : DW X W (.BoolOp .And [a] pos) tA := pw_and1 ha
theorem dw_or1 (ha : DT X W a tA) : DW X W (.BoolOp .Or [a] pos) tA := pw_or1 ha
theorem dw_and (ha : DT X W a tA) (hb : DW X W (.BoolOp .And (b :: rest) pos) tB') : DW X W (.BoolOp .And (a :: b :: rest) pos) (dAnd tA tB') :=
  PW.imp (pw_and ha hb) fun σ H Q ⟨σD, G, QD, E, hR, hS, q, hq, he⟩ => ⟨σD, G, _, E, hR, hS, q, fun k H1 G1 s1 r1 q1 => by
    cases k with
    | true => rw [if_pos rfl] at q1 ⊢; exact ⟨σD, G1, _, E, r1, hS.mono s1, q1, fun b H2 G2 s2 r2 q2 => hq b H2 G2 (s1.trans s2) r2 q2, he.mono s1⟩
    | false => rw [if_neg Bool.false_ne_true] at q1 ⊢; exact hq _ _ _ s1 r1 q1, he⟩
theorem dw_or (ha : DT X W a tA) (hb : DW X W (.BoolOp .Or (b :: rest) pos) tB') : DW X W (.BoolOp .Or (a :: b :: rest) pos) (dOr tA tB') :=
  PW.imp (pw_or ha hb) fun σ H Q ⟨σD, G, QD, E, hR, hS, q, hq, he⟩ => ⟨σD, G, _, E, hR, hS, q, fun k H1 G1 s1 r1 q1 => by
    cases k with
    | true => rw [if_pos rfl] at q1 ⊢; exact hq _ _ _ s1 r1 q1
    | false => rw [if_neg Bool.false_ne_true] at q1 ⊢; exact ⟨σD, G1, _, E, r1, hS.mono s1, q1, fun b H2 G2 s2 r2 q2 => hq b H2 G2 (s1.trans s2) r2 q2, he.mono s1⟩, he⟩
theorem DW.pt {tA : TTD} (h : DW X W a tA) : DT X W a tA := PW.pt h
theorem dt_not (ha : DT X W a tA) : DT X W (.UnaryOp .Not a pos) (dNot tA) :=
  PT.imp (pt_not ha) fun σ H Q ⟨σD, G, QD, E, hR, hS, q, hq, he⟩ => ⟨σD, G, _, E, hR, hS, q, fun k H1 G1 s1 r1 q1 => hq _ _ _ s1 r1 q1, he⟩
def dIf (t : TTD) (ta tb : TED) : TED := fun σ G Q E => t σ G (fun c G1 => if c = true then ta σ G1 Q E else tb σ G1 Q E) E
theorem de_ifExp (hc : DT X W c tA) (ha : DE X W a ta) (hb : DE X W b tb) : DE X W (.IfExp c a b pos) (dIf tA ta tb) :=
  PE.imp (pe_ifExp hc ha hb) fun σ H Q ⟨σD, G, QD, E, hR, hS, q, hq, he⟩ => ⟨σD, G, _, E, hR, hS, q, fun k H1 G1 s1 r1 q1 => by
    cases k with
    | true => rw [if_pos rfl] at q1 ⊢; exact ⟨σD, G1, _, E, r1, hS.mono s1, q1, hq.mono s1, he.mono s1⟩
    | false => rw [if_neg Bool.false_ne_true] at q1 ⊢; exact ⟨σD, G1, _, E, r1, hS.mono s1, q1, hq.mono s1, he.mono s1⟩, he⟩
/-- the truth of a value -/
inductive Tru (G : HH) : D → Bool → Prop
  | non : Tru G .non false
  | bl (b : Bool) : Tru G (.bl b) b
  | int (i : Int) : Tru G (.int i) (i != 0)
  | str (x : Str) (h : x.length ≤ sizeLine) : Tru G (.str x) ((x.length : Int) != 0)
  | sq {d : D} {xs : List D} (h : Sq G d xs) : Tru G d (!xs.isEmpty)
theorem Tru.of {K H G d v k} (h : Tru G d k) (r : RelH K H G) (p : Rp K H G d v) : TruV K v H k := by
  cases h with
  | non => cases p; rfl
  | bl => cases p; rfl
  | int => cases p; rfl
  | str x h => cases p; exact ⟨h, rfl⟩
  | @sq d xs s =>
    obtain ⟨a, vs, rfl, h, q⟩ := s.of r p
    have e : (!vs.isEmpty) = !xs.isEmpty := by
      cases q <;> rfl
    rcases h with h | h
    · exact .inl ⟨vs, h, e.symm⟩
    · exact .inr (.inl ⟨vs, h, e.symm⟩)
def dTru (ta : TED) : TTD := fun σ G Q E => ta σ G (fun x G1 => ∃ k, Tru G1 x k ∧ Q k G1) E
theorem dt_tru (ha : DE X W a ta) (he : ∀ whole, isTrue a X.env whole = (do let v ← whole; standAt a.pos; holding [v] (truthy v)) := by intro _; rfl) : DT X W a (dTru ta) :=
  PT.imp (pt_truth ha he) fun σ H Q ⟨σD, G, QD, E, hR, hS, q, hq, he⟩ => ⟨σD, G, _, E, hR, hS, q, fun v1 H1 d1 G1 s1 r1 p1 ⟨k, k1, q1⟩ => ⟨k, k1.of r1 p1, hq _ _ _ s1 r1 q1⟩, he⟩

/-! ### items, slices -/
def xSq : D → D → HH → QD → Prop := fun x y G Q => ∃ xs i d, Sq G x xs ∧ y = .int i ∧ atI xs i = some d ∧ Q d G
def xStr : D → D → HH → QD → Prop := fun x y G Q => ∃ z i c, x = .str z ∧ y = .int i ∧ z.length ≤ sizeLine ∧ atI z.cps.toList i = some c ∧ Q (.str ⟨#[c]⟩) G
def xAny : D → D → HH → QD → Prop := fun x y G Q => xSq x y G Q ∨ xStr x y G Q
theorem Rps.atI {K H G ds vs i d} (r : Rps K H G ds vs) (h : L2.atI ds i = some d) : ∃ v, L2.atI vs i = some v ∧ Rp K H G d v := by
  unfold L2.atI at h ⊢
  rw [r.length] at h
  cases e : ixN vs.length i with
  | none => rw [e] at h; cases h
  | some j =>
    rw [e] at h
    exact r.get h
theorem sim_ix {K : Frag} : OpSim K (rIx K) xAny := fun x y H Q dx dy G QD hR px py q hq => by
  rcases q with ⟨xs, i, d, s, e2, h, q⟩ | ⟨z, i, c, e1, e2, l, h, q⟩
  · subst e2; cases py
    obtain ⟨p, vs, rfl, hs, r⟩ := s.of hR px
    obtain ⟨v, hv, rv⟩ := r.atI h
    rcases hs with hs | hs
    · exact .inl ⟨p, vs, i, v, rfl, rfl, hs, hv, hq.now hR rv q⟩
    · exact .inr (.inl ⟨p, vs, i, v, rfl, rfl, hs, hv, hq.now hR rv q⟩)
  · subst e1; subst e2; cases px; cases py
    exact .inr (.inr ⟨_, _, c, rfl, rfl, l, h, hq.now hR (.str _) q⟩)
theorem de_ix (ha : DE X W a ta) (hb : DE X W b tb) (hs : PlainIx b := by exact fun _ _ => rfl) : DE X W (.Subscript a b pos) (dOp xAny ta tb) :=
  PE.imp (pe_ix ix_seq ha hb hs) fun _ _ _ => lft_op sim_ix
def dcut (xs : List D) (lo hi : Option Int) : List D := (xs.drop (HT.sIx xs.length 0 lo)).take (HT.sIx xs.length xs.length hi - HT.sIx xs.length 0 lo)
theorem Rps.cut {K H G ds vs} (r : Rps K H G ds vs) (lo hi : Option Int) : Rps K H G (dcut ds lo hi) (cutV vs lo hi) := by
  unfold dcut cutV
  rw [r.length]
  exact (r.drop _).take _
abbrev TOD := SD → HH → (Option Int → HH → Prop) → ED → Prop
def lftO (K : Frag) (W : WX) (t : TOD) : TO := fun σ H Q => ∃ σD G QD E, RelH K H G ∧ SRp K H G σD σ ∧ t σD G QD E ∧ (∀ o H' G', Stp H G H' G' → RelH K H' G' → QD o G' → Q o H') ∧ Exs K W σ H G E
def DO (X : Cx) (W : WX) (e : Option Expr) (t : TOD) : Prop := PO X e (lftO X.K W t)
theorem PO.imp {X : Cx} {e : Option Expr} {t t' : TO} (h : PO X e t) (i : ∀ σ H Q, t' σ H Q → t σ H Q) : PO X e t' := ⟨fun pins s σ H Q I q => h.run pins s σ H Q I (i σ H Q q)⟩
def dNoPart : TOD := fun _ G Q _ => Q none G
def dPart (ta : TED) : TOD := fun σ G Q E => ta σ G (fun x G1 => ∃ i, x = .int i ∧ Q (some i) G1) E
theorem do_none : DO X W none dNoPart := PO.imp po_none fun σ H Q ⟨σD, G, QD, E, hR, hS, q, hq, he⟩ => hq _ _ _ Stp.refl hR q
theorem do_some (ha : DE X W a ta) : DO X W (some a) (dPart ta) := PO.imp (po_some ha) fun σ H Q ⟨σD, G, QD, E, hR, hS, q, hq, he⟩ =>
  ⟨σD, G, _, E, hR, hS, q, fun v1 H1 d1 G1 s1 r1 p1 ⟨i, e, q1⟩ => by subst e; cases p1; exact ⟨i, rfl, hq _ _ _ s1 r1 q1⟩, he⟩
/-- .. a list, whether it may change or not -/
inductive LsW (G : HH) : D → List D → Prop
  | lst (xs : List D) : LsW G (.lst xs) xs
  | wls (xs : List D) : LsW G (.wls xs) xs
  | ref {p : Addr} {xs : List D} : G p = some (.lst xs) → LsW G (.ref p) xs
theorem LsW.of {K H G d xs v} (s : LsW G d xs) (r : RelH K H G) (p : Rp K H G d v) : ∃ a vs, v = .ref a ∧ SqL K H a vs ∧ Rps K H G xs vs := by
  cases s with
  | lst => cases p with | lst h g q => exact ⟨_, _, rfl, SqL.of h, q⟩
  | wls => cases p with | wls h q => exact ⟨_, _, rfl, h.sq, q⟩
  | ref e => cases p with | ref a => obtain ⟨vs, h, q⟩ := r _ _ e; exact ⟨_, vs, rfl, SqL.of h, q⟩
/-- a slice: a list's, a tuple's, a text's -/
def slD : D → Option Int → Option Int → HH → QD → Prop := fun x lo hi G Q => (∃ xs, LsW G x xs ∧ Q (.lst (dcut xs lo hi)) G) ∨ (∃ xs, x = .tup xs ∧ Q (.tup (dcut xs lo hi)) G) ∨ ∃ z, x = .str z ∧ z.length ≤ sizeLine ∧ Q (.str (cutS z lo hi)) G
def dSl (ta : TED) (tl th : TOD) : TED := fun σ G Q E => ta σ G (fun x G1 => tl σ G1 (fun lo G2 => th σ G2 (fun hi G3 => slD x lo hi G3 Q) E) E) E
theorem cutV_whole {vs : List V} {lo hi} (h1 : HT.sIx vs.length 0 lo = 0) (h2 : HT.sIx vs.length vs.length hi = vs.length) : cutV vs lo hi = vs := by
  unfold cutV
  rw [h1, h2]
  simp
theorem de_sl {lo hi : Option Expr} {tl th : TOD} {p2} (ha : DE X W a ta) (hl : DO X W lo tl) (hh : DO X W hi th) : DE X W (.Subscript a (.Slice lo hi none p2) pos) (dSl ta tl th) :=
  PE.imp (pe_slice ((sl_list.or sl_tupA).or sl_str) ha hl hh) fun σ H Q ⟨σD, G, QD, E, hR, hS, q, hq, he⟩ => by
    refine ⟨σD, G, _, E, hR, hS, q, fun v1 H1 d1 G1 s1 r1 p1 q1 => ?_, he⟩
    refine ⟨σD, G1, _, E, r1, hS.mono s1, q1, fun o2 H2 G2 s2 r2 q2 => ?_, he.mono s1⟩
    refine ⟨σD, G2, _, E, r2, hS.mono (s1.trans s2), q2, fun o3 H3 G3 s3 r3 q3 => ?_, he.mono (s1.trans s2)⟩
    have p3 := (p1.mono s2).mono s3
    have hq3 := hq.mono ((s1.trans s2).trans s3)
    rcases q3 with ⟨xs, s, q3⟩ | ⟨xs, hx, q3⟩ | ⟨z, hx, l, q3⟩
    · obtain ⟨p, vs, rfl, hL, r⟩ := s.of r3 p3
      exact .inl (.inl ⟨p, vs, rfl, hL, fun q hq' => hq3.lst r3 hq' (r.cut _ _) q3⟩)
    · subst hx
      cases p3 with
      | tup f r =>
        refine .inl (.inr ⟨_, _, rfl, f.sq, fun hw => ?_, fun _ p hp => hq3.tup r3 hp (r.cut _ _) q3⟩)
        have e := cutV_whole hw.1 hw.2
        refine hq3.now r3 (.tup f ?_) q3
        have := r.cut o2 o3
        rw [e] at this
        exact this
    · subst hx; cases p3
      exact .inr ⟨_, rfl, l, hq3.now r3 (.str _) q3⟩
end DL

namespace DL
open PySem PySem.Spec PyProof.Rows L2
open PySem.W (Frag)
variable {X : Cx} {W : WX} {e a b c : Expr} {es : List Expr} {ta tb tc : TED} {t u : TAD} {tA tB' : TTD} {pos : Pos} {rest : List Expr}

/-! ### built-in functions by values -/
abbrev RCD := List D → HH → QD → Prop
def CallSim (K : Frag) (r : List V → Hp → VK → Prop) (rD : RCD) : Prop := ∀ xs H Q ds G QD, RelH K H G → Rps K H G ds xs → rD ds G QD → Ct K H G Q QD → r xs H Q
def CallD (X : Cx) (f : Value) (rD : RCD) : Prop := ∃ r, CallR X f r ∧ CallSim X.K r rD
theorem CallD.or {f r r'} (h : CallD X f r) (h' : CallD X f r') : CallD X f (fun x G Q => r x G Q ∨ r' x G Q) :=
  let ⟨_, a1, a2⟩ := h; let ⟨_, b1, b2⟩ := h'
  ⟨_, a1.or b1, fun xs H Q ds G QD hR hp q hq => q.elim (fun z => .inl (a2 _ _ _ _ _ _ hR hp z hq)) fun z => .inr (b2 _ _ _ _ _ _ hR hp z hq)⟩
def dCB (rD : RCD) (t : TAD) : TED := fun σ G Q E => t σ G (fun ds G1 => rD ds G1 Q) E
theorem lft_cb {K : Frag} {r rD σ H Q} (sim : CallSim K r rD) (h : lft K W (dCB rD t) σ H Q) : tCB r (lftA K W t) σ H Q := by
  obtain ⟨σD, G, QD, E, hR, hS, ht, hq, he⟩ := h
  exact ⟨σD, G, _, E, hR, hS, ht, fun vs H1 ds G1 s1 r1 p1 q1 => sim _ _ _ _ _ _ r1 p1 q1 (hq.mono s1), he⟩
theorem de_callB {id : String} {rD : RCD} {x : Str} {p : Pos} (hc : CallD X (.builtin id) rD) (hg : Gl X x) (hm : X.mg x = none) (hv : bootBuiltins x = some (.builtin id)) (ha : DA X W (e :: es) t) (hn : x ≠ "__name__" := by decide) (hdb : (x == ("__debug__" : Str)) = false := by decide)
    (he : starEach (e :: es) X.env = (false, eval e X.env) :: starEach es X.env := by rfl) (hpl : (backTo pos (starEach es X.env)).any (·.1) = false := by rfl) : DE X W (.Call (.Name x p) (e :: es) [] pos) (dCB rD t) :=
  let ⟨_, h1, h2⟩ := hc; PE.imp (pe_callB h1 hg hm hv ha hn hdb he hpl) fun _ _ _ => lft_cb h2
theorem de_callTy {T : String} {rD : RCD} {x : Str} {p : Pos} (hc : CallD X (.type T) rD) (hg : Gl X x) (hm : X.mg x = none) (hv : bootBuiltins x = some (.type T)) (ha : DA X W (e :: es) t) (hn : x ≠ "__name__" := by decide) (hdb : (x == ("__debug__" : Str)) = false := by decide)
    (he : starEach (e :: es) X.env = (false, eval e X.env) :: starEach es X.env := by rfl) (hpl : (backTo pos (starEach es X.env)).any (·.1) = false := by rfl) : DE X W (.Call (.Name x p) (e :: es) [] pos) (dCB rD t) :=
  let ⟨_, h1, h2⟩ := hc; PE.imp (pe_callTy h1 hg hm hv ha hn hdb he hpl) fun _ _ _ => lft_cb h2
theorem rps1 {K H G d xs} (h : Rps K H G [d] xs) : ∃ v, xs = [v] ∧ Rp K H G d v := by
  cases h with | cons a r => cases r; exact ⟨_, rfl, a⟩
theorem rps2 {K H G d e xs} (h : Rps K H G [d, e] xs) : ∃ v w, xs = [v, w] ∧ Rp K H G d v ∧ Rp K H G e w := by
  cases h with | cons a r => obtain ⟨w, rfl, b⟩ := rps1 r; exact ⟨_, w, rfl, a, b⟩
/-- a rule on one value -/
def c1 (r : D → HH → QD → Prop) : RCD := fun ds G Q => ∃ x, ds = [x] ∧ r x G Q
def c2 (r : D → D → HH → QD → Prop) : RCD := fun ds G Q => ∃ x y, ds = [x, y] ∧ r x y G Q
def kLenS : D → HH → QD → Prop := fun x G Q => ∃ xs, Sq G x xs ∧ Q (.int xs.length) G
def kLenT : D → HH → QD → Prop := fun x G Q => ∃ z, x = .str z ∧ z.length ≤ sizeLine ∧ Q (.int z.length) G
theorem cLenS : CallD X (.builtin "len") (c1 kLenS) := ⟨_, call_len_seq, fun xs H Q ds G QD hR hp ⟨x, e, xs', s, q⟩ hq => by
  subst e
  obtain ⟨v, rfl, p⟩ := rps1 hp
  obtain ⟨a, vs, rfl, h, r⟩ := s.of hR p
  exact ⟨a, vs, rfl, h, by rw [← r.length]; exact hq.now hR (.int _) q⟩⟩
theorem cLenT : CallD X (.builtin "len") (c1 kLenT) := ⟨_, call_len_str, fun xs H Q ds G QD hR hp ⟨x, e, z, ez, l, q⟩ hq => by
  subst e
  obtain ⟨v, rfl, p⟩ := rps1 hp
  subst ez
  cases p
  exact ⟨_, rfl, l, hq.now hR (.int _) q⟩⟩
def kLen : RCD := fun ds G Q => c1 kLenS ds G Q ∨ c1 kLenT ds G Q
theorem cLen : CallD X (.builtin "len") kLen := cLenS.or cLenT
def kI (g : Int → D) : D → HH → QD → Prop := fun x G Q => ∃ i, x = .int i ∧ Q (g i) G
def kAbs : RCD := c1 (kI fun i => .int (i.natAbs : Int))
theorem cAbs : CallD X (.builtin "abs") kAbs := ⟨_, call_abs, fun xs H Q ds G QD hR hp ⟨x, e, i, ei, q⟩ hq => by
  subst e
  obtain ⟨v, rfl, p⟩ := rps1 hp
  subst ei
  cases p
  refine ⟨i, rfl, hq.now hR (d := .int (i.natAbs : Int)) ?_ q⟩
  have : (if i < 0 then -i else i) = (i.natAbs : Int) := by split <;> omega
  rw [this]
  exact .int _⟩
def k2I (g : Int → Int → D) : D → D → HH → QD → Prop := fun x y G Q => ∃ i j, x = .int i ∧ y = .int j ∧ Q (g i j) G
def kMax2 : RCD := c2 (k2I fun i j => .int (max i j))
def kMin2 : RCD := c2 (k2I fun i j => .int (min i j))
theorem cMax2 (hc : X.calm = true) : CallD X (.builtin "max") kMax2 := ⟨_, call_max2 hc, fun xs H Q ds G QD hR hp ⟨x, y, e, i, j, ei, ej, q⟩ hq => by
  subst e
  obtain ⟨v, w, rfl, p, p'⟩ := rps2 hp
  subst ei; subst ej
  cases p; cases p'
  refine ⟨i, j, rfl, hq.now hR (d := .int (max i j)) ?_ q⟩
  have : (if j > i then j else i) = max i j := by split <;> omega
  rw [this]
  exact .int _⟩
theorem cMin2 (hc : X.calm = true) : CallD X (.builtin "min") kMin2 := ⟨_, call_min2 hc, fun xs H Q ds G QD hR hp ⟨x, y, e, i, j, ei, ej, q⟩ hq => by
  subst e
  obtain ⟨v, w, rfl, p, p'⟩ := rps2 hp
  subst ei; subst ej
  cases p; cases p'
  refine ⟨i, j, rfl, hq.now hR (d := .int (min i j)) ?_ q⟩
  have : (if j < i then j else i) = min i j := by split <;> omega
  rw [this]
  exact .int _⟩
def kInt : RCD := c1 fun x G Q => (∃ i, x = .int i ∧ Q (.int i) G) ∨ ∃ k, x = .bl k ∧ Q (.int (if k then 1 else 0)) G
theorem cInt : CallD X (.type "int") kInt := ⟨_, call_int1, fun xs H Q ds G QD hR hp ⟨x, e, q⟩ hq => by
  subst e
  obtain ⟨v, rfl, p⟩ := rps1 hp
  rcases q with ⟨i, ei, q⟩ | ⟨i, ei, q⟩ <;> subst ei <;> cases p
  · exact .inl ⟨i, rfl, hq.now hR (.int _) q⟩
  · exact .inr ⟨i, rfl, hq.now hR (.int _) q⟩⟩
def kBool : RCD := c1 fun x G Q => (∃ i, x = .int i ∧ Q (.bl (i != 0)) G) ∨ ∃ k, x = .bl k ∧ Q (.bl k) G
theorem cBool : CallD X (.type "bool") kBool := ⟨_, call_bool1, fun xs H Q ds G QD hR hp ⟨x, e, q⟩ hq => by
  subst e
  obtain ⟨v, rfl, p⟩ := rps1 hp
  rcases q with ⟨i, ei, q⟩ | ⟨i, ei, q⟩ <;> subst ei <;> cases p
  · exact .inl ⟨i, rfl, hq.now hR (.bl _) q⟩
  · exact .inr ⟨i, rfl, hq.now hR (.bl _) q⟩⟩
def kStr : RCD := c1 fun x G Q => ∃ i, x = .int i ∧ i.natAbs.log2 < 1920 ∧ Q (.str (toString i)) G
theorem cStr : CallD X (.type "str") kStr := ⟨_, call_str_int, fun xs H Q ds G QD hR hp ⟨x, e, i, ei, l, q⟩ hq => by
  subst e
  obtain ⟨v, rfl, p⟩ := rps1 hp
  subst ei; cases p
  exact ⟨i, rfl, l, hq.now hR (.str _) q⟩⟩
def kTuple : RCD := c1 fun x G Q => ∃ xs, Sq G x xs ∧ Q (.tup xs) G
theorem cTuple : CallD X (.type "tuple") kTuple := ⟨_, call_tuple_of, fun xs H Q ds G QD hR hp ⟨x, e, xs', s, q⟩ hq => by
  subst e
  obtain ⟨v, rfl, p⟩ := rps1 hp
  cases s with
  | tup => cases p with | tup f r => exact ⟨_, _, rfl, .inr ⟨f.sq, hq.now hR (.tup f r) q⟩⟩
  | lst => cases p with | lst h g r => exact ⟨_, _, rfl, .inl ⟨SqL.of h, fun l hl => hq.tup hR hl r q⟩⟩
  | wls => cases p with | wls h r => exact ⟨_, _, rfl, .inl ⟨h.sq, fun l hl => hq.tup hR hl r q⟩⟩
  | ref eg => cases p with | ref a => obtain ⟨vs, h, r⟩ := hR _ _ eg; exact ⟨_, _, rfl, .inl ⟨SqL.of h, fun l hl => hq.tup hR hl r q⟩⟩⟩
/-- list(..): a frozen copy -/
def kList : RCD := c1 fun x G Q => ∃ xs, Sq G x xs ∧ Q (.lst xs) G
theorem cList : CallD X (.type "list") kList := ⟨_, call_list_of, fun xs H Q ds G QD hR hp ⟨x, e, xs', s, q⟩ hq => by
  subst e
  obtain ⟨v, rfl, p⟩ := rps1 hp
  obtain ⟨a, vs, rfl, h, r⟩ := s.of hR p
  exact ⟨a, vs, rfl, h, fun l hl => hq.lst hR hl r q⟩⟩
/-- .. a copy that may change -/
def kListM : RCD := c1 fun x G Q => ∃ xs, Sq G x xs ∧ ∀ p, G p = none → Q (.ref p) (gput G p (.lst xs))
theorem cListM : CallD X (.type "list") kListM := ⟨_, call_list_of, fun xs H Q ds G QD hR hp ⟨x, e, xs', s, q⟩ hq => by
  subst e
  obtain ⟨v, rfl, p⟩ := rps1 hp
  obtain ⟨a, vs, rfl, h, r⟩ := s.of hR p
  exact ⟨a, vs, rfl, h, fun l hl => hq _ _ _ _ (Stp.newM (od := .lst xs') hl) (hR.newM (od := .lst xs') hl ⟨vs, upd_same, r.mono (Stp.newM hl)⟩) (.ref l) (q l (hR.free hl))⟩⟩
def kSum : RCD := c1 fun x G Q => ∃ ns : List Int, LsW G x (ns.map D.int) ∧ Q (.int ns.sum) G
theorem cSum (hc : X.calm = true) : CallD X (.builtin "sum") kSum := ⟨_, cr_sum hc, fun xs H Q ds G QD hR hp ⟨x, e, ns, s, q⟩ hq => by
  subst e
  obtain ⟨v, rfl, p⟩ := rps1 hp
  obtain ⟨a, vs, rfl, h, r⟩ := s.of hR p
  rw [r.ints] at h
  exact ⟨a, ns, rfl, h, hq.now hR (.int _) q⟩⟩
def kAny : RCD := c1 fun x G Q => ∃ bs : List Bool, LsW G x (bs.map D.bl) ∧ Q (.bl (bs.any id)) G
theorem cAny (hc : X.calm = true) : CallD X (.builtin "any") kAny := ⟨_, cr_any hc, fun xs H Q ds G QD hR hp ⟨x, e, ns, s, q⟩ hq => by
  subst e
  obtain ⟨v, rfl, p⟩ := rps1 hp
  obtain ⟨a, vs, rfl, h, r⟩ := s.of hR p
  rw [r.bls] at h
  exact ⟨a, ns, rfl, h, hq.now hR (.bl _) q⟩⟩
def kAll : RCD := c1 fun x G Q => ∃ bs : List Bool, LsW G x (bs.map D.bl) ∧ Q (.bl (bs.all id)) G
theorem cAll (hc : X.calm = true) : CallD X (.builtin "all") kAll := ⟨_, cr_all hc, fun xs H Q ds G QD hR hp ⟨x, e, ns, s, q⟩ hq => by
  subst e
  obtain ⟨v, rfl, p⟩ := rps1 hp
  obtain ⟨a, vs, rfl, h, r⟩ := s.of hR p
  rw [r.bls] at h
  exact ⟨a, ns, rfl, h, hq.now hR (.bl _) q⟩⟩
/-- repr of data -/
def Shw (d : PyData) : Prop := d.showable = true ∧ SeqAt.shaped d = true ∧ d.shown.length ≤ sizeLine
theorem call_reprD (hg : X.A.guards = some []) (hu : X.A.units + 70 < cLine) : CallR X (.builtin "repr") (fun xs H Q => ∃ v d, xs = [v] ∧ Dp X.K H v d ∧ Shw d ∧ Q (.str d.shown) H) := by
  intro pins s σ H xs us Q I r h
  obtain ⟨v, d, rfl, hd, ⟨hs, hsh, hz⟩, q⟩ := h
  obtain ⟨u, rfl, ru⟩ := vals1 r
  cases hd with
  | non =>
    cases ru
    simp only [PyData.shown] at q
    exact PySem.P.repr_of_none ⟨.str _, H, I.tok _, ⟨_, rfl⟩, q⟩
  | bl b =>
    cases ru
    simp only [PyData.shown] at q
    exact PySem.P.repr_of_bool ⟨.str _, H, I.tok _, ⟨_, rfl⟩, q⟩
  | int i =>
    obtain ⟨t, rfl⟩ := ru
    simp only [PyData.shown] at q
    refine PySem.P.repr_of_int ?_ ⟨.str _, H, I.tok _, ⟨_, rfl⟩, q⟩
    simpa [PyData.showable] using hs
  | str x =>
    obtain ⟨t, rfl⟩ := ru
    simp only [PyData.shown] at q hz
    exact PySem.P.repr_of_str ⟨.str _, H, I.tok _, ⟨_, rfl⟩, q⟩ hz
  | @lst a xs ds h1 h2 =>
    cases ru
    obtain ⟨as, rd⟩ := Dp.reads I (.list ds) (.ref a) (.ref a) (.lst h1 h2) rfl
    have hdp := SeqAt.depth_of_shaped hsh
    exact repr_of_reads' (h₀ := s.heap) rd hs (fun z => absurd (z.symm.trans (PyData.hasDict_of_canLay _ (SeqAt.canLay_of_shaped hsh))) (by decide)) hg (by omega) (fun _ _ z => z) (fun h' u tk k => ⟨.str _, H, I.kept k, ⟨u, rfl⟩, q⟩) hz
  | @tup a xs ds h1 h2 =>
    cases ru
    obtain ⟨as, rd⟩ := Dp.reads I (.tuple ds) (.ref a) (.ref a) (.tup h1 h2) rfl
    have hdp := SeqAt.depth_of_shaped hsh
    exact repr_of_reads' (h₀ := s.heap) rd hs (fun z => absurd (z.symm.trans (PyData.hasDict_of_canLay _ (SeqAt.canLay_of_shaped hsh))) (by decide)) hg (by omega) (fun _ _ z => z) (fun h' u tk k => ⟨.str _, H, I.kept k, ⟨u, rfl⟩, q⟩) hz
def kRepr : RCD := c1 fun x G Q => ∃ d, Py G x d ∧ Shw d ∧ Q (.str d.shown) G
theorem cRepr (hg : X.A.guards = some []) (hu : X.A.units + 70 < cLine) : CallD X (.builtin "repr") kRepr := ⟨_, call_reprD hg hu, fun xs H Q ds G QD hR hp ⟨x, e, d, hd, hs, q⟩ hq => by
  subst e
  obtain ⟨v, rfl, p⟩ := rps1 hp
  exact ⟨v, d, rfl, hd.dp hR p, hs, hq.now hR (.str _) q⟩⟩

/-! ### defs -/
/-- a def's promise over data -/
abbrev SpD := List D → HH → QD → ED → Prop
def lsp (K : Frag) (sp : SpD) : Sp := fun vs H Q E => ∃ ds G QD EX, RelH K H G ∧ Rps K H G ds vs ∧ sp ds G QD EX ∧ Ct K H G Q QD ∧
  ∀ x cls d H' G', Stp H G H' G' → RelH K H' G' → XRp K H' G' x cls d → EX x G' → E cls d H'
/-- as FnOk, where no repr is under way -/
structure FnG (P : Program) (w : World) (K : Frag) (mg : Str → Option Value) (base : Heap) (k : Nat) (f : Addr) (fd : FuncData) (ps : List Str) (sp : SpD) : Prop where
  len : ∀ ds G Q E, sp ds G Q E → ds.length = ps.length
  run : ∀ (A : Around) (outer : List Env) (s : Shared) (H : Hp) (args : Args) (us : List Value) (vs : List V) (Q : VK) (E : XK), A.guards = some [] → Room k A → Env0 P w K mg base A outer s H → BindsTo s fd args (ps.zip us) → Vals vs us → lsp K sp vs H Q E →
    codeAny (model P w) A (.call (.ref f) args) (CR (L2.CX P w) outer P w H s Q E) s
theorem FnG.llen {P w K mg base k f fd ps sp} (F : FnG P w K mg base k f fd ps sp) {vs H Q E} (h : lsp K sp vs H Q E) : vs.length = ps.length := by
  obtain ⟨ds, G, QD, EX, _, r, q, _⟩ := h
  rw [← r.length]
  exact F.len _ _ _ _ q
theorem FnG.mono {P w K mg base j k f fd ps sp} (F : FnG P w K mg base j f fd ps sp) (h : j ≤ k) : FnG P w K mg base k f fd ps sp :=
  ⟨F.len, fun A outer s H args us vs Q E hg hr => F.run A outer s H args us vs Q E hg (hr.mono h)⟩
theorem FnG.imp {P w K mg base k f fd ps sp sp'} (F : FnG P w K mg base k f fd ps sp) (h : ∀ ds G Q E, sp' ds G Q E → sp ds G Q E) : FnG P w K mg base k f fd ps sp' :=
  ⟨fun ds G Q E q => F.len ds G Q E (h _ _ _ _ q), fun A outer s H args us vs Q E hg hr he hb hv ⟨ds, G, QD, EX, a1, a2, a3, a4⟩ => F.run A outer s H args us vs Q E hg hr he hb hv ⟨ds, G, QD, EX, a1, a2, h _ _ _ _ a3, a4⟩⟩
section
variable {k : Nat} {f : Addr} {fd : FuncData} {ps : List Str} {sp : SpD} {x : Str} {p : Pos}
/-- the callee runs, whatever way it was reached -/
theorem run_any {pins : List (Addr × Obj)} {σ : L2.St} {H : Hp} {s : Shared} {Q : VK} {us : List Value} {vs : List V} {args : Args} (F : FnG X.prog X.w X.K X.mg X.base k f fd ps sp) (hg : X.A.guards = some []) (hr : Room k X.A) (tk : Takes X W)
    (I : Inv X pins σ H s) (hb : BindsTo s fd args (ps.zip us)) (r : Vals vs us) (h : lsp X.K sp vs H Q (WE W σ)) : codeAny (model X.prog X.w) X.A (.call (.ref f) args) (fun r s' => match r with | .ok (.ret u) => EP X pins σ Q u s' | .ok _ => False | .error e => X.xe e s') s := by
  refine codeAny_mono (F.run X.A X.stack s H args us vs Q (WE W σ) hg hr I.env0 hb r h) fun r s' hq => ?_
  cases r with
  | error e => exact passAt tk σ pins H s e s' I hq
  | ok fl =>
    cases fl with
    | ret u => exact I.after hq
    | next => exact False.elim hq
    | brk => exact False.elim hq
    | cont => exact False.elim hq
theorem run_call {pins : List (Addr × Obj)} {σ : L2.St} {H : Hp} {s : Shared} {Q : VK} {us : List Value} {vs : List V} (F : FnG X.prog X.w X.K X.mg X.base k f fd ps sp) (hg : X.A.guards = some []) (hr : Room k X.A) (hb : Binds X.K fd ps []) (tk : Takes X W)
    (I : Inv X pins σ H s) (r : Vals vs us) (h : lsp X.K sp vs H Q (WE W σ)) : wpAny (model X.prog X.w) X.A (call (.ref f) us) (EP X pins σ Q) X.xe s := by
  have hl : us.length = ps.length := by rw [← r.length]; exact F.llen h
  have b := hb s us I.kIn (by rw [List.append_nil]; exact hl)
  rw [List.append_nil] at b
  refine wpAny_call (codeAny_mono (run_any F hg hr tk I b r h) fun r s' hq => ?_)
  cases r with
  | error e => exact hq
  | ok fl =>
    cases fl with
    | ret u => exact hq
    | next => exact False.elim hq
    | brk => exact False.elim hq
    | cont => exact False.elim hq
/-- f(e, ..) -/
def dCall (sp : SpD) (t : TAD) : TED := fun σ G Q E => t σ G (fun ds G1 => sp ds G1 Q E) E
theorem lft_call {K : Frag} {σ H Q} (h : lft K W (dCall sp t) σ H Q) : tCallS (lsp K sp) (WE W) (lftA K W t) σ H Q := by
  obtain ⟨σD, G, QD, E, hR, hS, ht, hq, he⟩ := h
  exact ⟨σD, G, _, E, hR, hS, ht, fun vs H1 ds G1 s1 r1 p1 q1 => ⟨ds, G1, QD, E, r1, p1, q1, hq.mono s1, he.mono s1⟩, he⟩
theorem de_call (F : FnG X.prog X.w X.K X.mg X.base k f fd ps sp) (hgd : X.A.guards = some []) (hr : Room k X.A) (hg : Gl X x) (hm : X.mg x = some (.ref f)) (hk : PySem.W.keepIn X.K (.ref f) = true) (hb : Binds X.K fd ps []) (tk : Takes X W)
    (ha : DA X W (e :: es) t) (hdb : (x == ("__debug__" : Str)) = false := by decide) (he : starEach (e :: es) X.env = (false, eval e X.env) :: starEach es X.env := by rfl) (hpl : (backTo pos (starEach es X.env)).any (·.1) = false := by rfl) :
    DE X W (.Call (.Name x p) (e :: es) [] pos) (dCall sp t) := by
  refine PE.imp (t := tCallS (lsp X.K sp) (WE W) (lftA X.K W t)) ⟨fun pins s σ H Q I h => ?_⟩ fun _ _ _ => lft_call
  refine wpAny_Call_Name_kw (ld_glob I hg hm ?_ hdb)
  have ha' : PA X (e :: es) (lftA X.K W t) := ha
  exact PySem.W.callWith_K (h₀ := X.base) I.ok.mod.kin hk (thn (ha'.run pos pins s σ H _ I h) fun us s1 ⟨vs, H1, I1, r, q⟩ => ⟨I1.kIn, run_call F hgd hr hb tk I1 r q⟩) he hpl
theorem de_call0 (F : FnG X.prog X.w X.K X.mg X.base k f fd ps sp) (hgd : X.A.guards = some []) (hr : Room k X.A) (hg : Gl X x) (hm : X.mg x = some (.ref f)) (hk : PySem.W.keepIn X.K (.ref f) = true) (hb : Binds X.K fd ps []) (tk : Takes X W)
    (hdb : (x == ("__debug__" : Str)) = false := by decide) : DE X W (.Call (.Name x p) [] [] pos) (dCall sp dNil) := by
  refine PE.imp (t := tCallS (lsp X.K sp) (WE W) tNil) ⟨fun pins s σ H Q I h => ?_⟩ fun σ H Q ⟨σD, G, QD, E, hR, hS, q, hq, he⟩ => ⟨[], G, QD, E, hR, .nil, q, hq, he⟩
  refine wpAny_Call_Name_kw (ld_glob I hg hm ?_ hdb)
  exact PySem.W.callWith_K0 I.kIn hk (run_call (us := []) F hgd hr hb tk I .nil h)
end
end DL

namespace DL
open PySem PySem.Spec PyProof.Rows L2
open PySem.W (Frag)
variable {X : Cx} {W : WX} {e a b c : Expr} {es : List Expr} {ta tb tc : TED} {t u : TAD} {tA tB' : TTD} {pos : Pos} {st : Stmt} {rest body : List Stmt}

/-! ### statements -/
structure EndsD where
  nx : SD → HH → Prop
  rt : QD
  bk : SD → HH → Prop := fun _ _ => False
  ct : SD → HH → Prop := fun _ _ => False
  ex : XD → SD → HH → Prop := fun _ _ _ => False
abbrev TSD := EndsD → SD → HH → Prop
def Nx (K : Frag) (H : Hp) (G : HH) (P : SD → HH → Prop) (Q : L2.St → Hp → Prop) : Prop := ∀ σ' H' σD' G', Stp H G H' G' → RelH K H' G' → SRp K H' G' σD' σ' → P σD' G' → Q σ' H'
theorem Nx.mono {K H G H' G' P Q} (s : Stp H G H' G') (h : Nx K H G P Q) : Nx K H' G' P Q := fun σ2 H2 σD2 G2 s2 r2 p2 q2 => h σ2 H2 σD2 G2 (s.trans s2) r2 p2 q2
def ExS (K : Frag) (W : WX) (H : Hp) (G : HH) (E : XD → SD → HH → Prop) : Prop := ∀ x cls d σ' σD' H' G', Stp H G H' G' → RelH K H' G' → SRp K H' G' σD' σ' → XRp K H' G' x cls d → E x σD' G' → W cls d σ' H'
theorem ExS.mono {K W H G H' G' E} (s : Stp H G H' G') (h : ExS K W H G E) : ExS K W H' G' E := fun x cls d σ2 σD2 H2 G2 s2 r2 p2 x2 e2 => h x cls d σ2 σD2 H2 G2 (s.trans s2) r2 p2 x2 e2
theorem ExS.at {K W H G E σD σ} (h : ExS K W H G E) (hS : SRp K H G σD σ) : Exs K W σ H G (fun x G => E x σD G) := fun x cls d H' G' s r p e => h x cls d σ σD H' G' s r (hS.mono s) p e
structure EndR (K : Frag) (W : WX) (H : Hp) (G : HH) (DD : EndsD) (D : Ends) : Prop where
  nx : Nx K H G DD.nx D.nx
  rt : Ct K H G D.rt DD.rt
  bk : Nx K H G DD.bk D.bk
  ct : Nx K H G DD.ct D.ct
  ex : ExS K W H G DD.ex
theorem EndR.mono {K W H G H' G' DD D} (s : Stp H G H' G') (h : EndR K W H G DD D) : EndR K W H' G' DD D := ⟨h.nx.mono s, h.rt.mono s, h.bk.mono s, h.ct.mono s, h.ex.mono s⟩
def lftS (K : Frag) (W : WX) (t : TSD) : TS := fun D σ H => ∃ σD G DD, RelH K H G ∧ SRp K H G σD σ ∧ t DD σD G ∧ EndR K W H G DD D
def DS (X : Cx) (W : WX) (st : Stmt) (t : TSD) : Prop := PS X st (lftS X.K W t)
def DSs (X : Cx) (W : WX) (st : List Stmt) (t : TSD) : Prop := PSs X st (lftS X.K W t)
theorem PS.imp {X : Cx} {e : Stmt} {t t' : TS} (h : PS X e t) (i : ∀ D σ H, t' D σ H → t D σ H) : PS X e t' := ⟨fun pins s σ H D I q => h.run pins s σ H D I (i D σ H q)⟩
theorem PSs.imp {X : Cx} {e : List Stmt} {t t' : TS} (h : PSs X e t) (i : ∀ D σ H, t' D σ H → t D σ H) : PSs X e t' := ⟨fun pins s σ H D I q => h.run pins s σ H D I (i D σ H q)⟩
theorem PG.imp {X : Cx} {e : Expr} {t t' : TG} (h : PG X e t) (i : ∀ v σ H Q, t' v σ H Q → t v σ H Q) : PG X e t' := ⟨fun pins s σ H v u Q I r q => h.run pins s σ H v u Q I r (i v σ H Q q)⟩
theorem PGs.imp {X : Cx} {e : List Expr} {t t' : TGs} (h : PGs X e t) (i : ∀ v σ H Q, t' v σ H Q → t v σ H Q) : PGs X e t' := ⟨fun pins s σ H v u Q I r q => h.run pins s σ H v u Q I r (i v σ H Q q)⟩
theorem PI.imp {X : Cx} {tg e : Expr} {t t' : TI} (h : PI X tg e t) (i : ∀ σ H Q, t' σ H Q → t σ H Q) : PI X tg e t' := ⟨fun pins s σ H R I q => h.run pins s σ H R I (i σ H R q)⟩

def dNext : TSD := fun D σ G => D.nx σ G
def dSeq (t u : TSD) : TSD := fun D σ G => t { D with nx := u D } σ G
variable {tS uS : TSD}
theorem dss_nil : DSs X W [] dNext := PSs.imp pss_nil fun D σ H ⟨σD, G, DD, hR, hS, q, he⟩ => he.nx _ _ _ _ Stp.refl hR hS q
theorem dss_cons (h1 : DS X W st tS) (h2 : DSs X W rest uS) : DSs X W (st :: rest) (dSeq tS uS) := PSs.imp (pss_cons h1 h2) fun D σ H ⟨σD, G, DD, hR, hS, q, he⟩ => by
  refine ⟨σD, G, _, hR, hS, q, fun σ' H' σD' G' s r p z => ?_, he.rt, he.bk, he.ct, he.ex⟩
  exact ⟨σD', G', DD, r, p, z, he.mono s⟩
theorem dss_one (h1 : DS X W st tS) : DSs X W [st] tS := pss_one h1
def dBreak : TSD := fun D σ G => D.bk σ G
def dCont : TSD := fun D σ G => D.ct σ G
theorem ds_pass : DS X W (.Pass pos) dNext := PS.imp ps_pass fun D σ H ⟨σD, G, DD, hR, hS, q, he⟩ => he.nx _ _ _ _ Stp.refl hR hS q
theorem ds_break : DS X W (.Break pos) dBreak := PS.imp ps_break fun D σ H ⟨σD, G, DD, hR, hS, q, he⟩ => he.bk _ _ _ _ Stp.refl hR hS q
theorem ds_continue : DS X W (.Continue pos) dCont := PS.imp ps_continue fun D σ H ⟨σD, G, DD, hR, hS, q, he⟩ => he.ct _ _ _ _ Stp.refl hR hS q
def dDrop (ta : TED) : TSD := fun D σ G => ta σ G (fun _ G1 => D.nx σ G1) (fun x G1 => D.ex x σ G1)
theorem ds_expr (ha : DE X W a ta) (hs : swapsWith a none pos.line X.env = pure false := by rfl) : DS X W (.Expr a pos) (dDrop ta) := PS.imp (ps_expr ha hs) fun D σ H ⟨σD, G, DD, hR, hS, q, he⟩ =>
  ⟨σD, G, _, _, hR, hS, q, fun v H1 d G1 s r p z => he.nx _ _ _ _ s r (hS.mono s) z, he.ex.at hS⟩
def dRet (ta : TED) : TSD := fun D σ G => ta σ G D.rt (fun x G1 => D.ex x σ G1)
theorem ds_ret (ha : DE X W a ta) : DS X W (.Return (some a) pos) (dRet ta) := PS.imp (ps_ret ha) fun D σ H ⟨σD, G, DD, hR, hS, q, he⟩ =>
  ⟨σD, G, _, _, hR, hS, q, he.rt, he.ex.at hS⟩
/-- .. a list that was filled is frozen -/
def dRetF (ta : TED) : TSD := fun D σ G => ta σ G (fun d G1 => ∃ p xs, d = .ref p ∧ G1 p = some (.lst xs) ∧ D.rt (.lst xs) (gdel G1 p)) (fun x G1 => D.ex x σ G1)
theorem thaw_lst {K H G p xs} (hR : RelH K H G) (e : G p = some (.lst xs)) : Rp K H (gdel G p) (.lst xs) (.ref p) := by
  obtain ⟨vs, h, r⟩ := hR p _ e
  exact .lst h gdel_same (r.mono Stp.del)
theorem ds_retF (ha : DE X W a ta) : DS X W (.Return (some a) pos) (dRetF ta) := PS.imp (ps_ret ha) fun D σ H ⟨σD, G, DD, hR, hS, q, he⟩ =>
  ⟨σD, G, _, _, hR, hS, q, fun v H1 d G1 s r p ⟨q, xs, e1, e2, z⟩ => by
    subst e1; cases p
    exact he.rt _ _ _ _ (s.trans Stp.del) r.del (thaw_lst r e2) z, he.ex.at hS⟩
def dRetN : TSD := fun D _ G => D.rt .non G
theorem ds_retN : DS X W (.Return none pos) dRetN := PS.imp ps_retN fun D σ H ⟨σD, G, DD, hR, hS, q, he⟩ => he.rt.now hR .non q
def dIfS (c : TTD) (t u : TSD) : TSD := fun D σ G => c σ G (fun b G1 => if b = true then t D σ G1 else u D σ G1) (fun x G1 => D.ex x σ G1)
theorem ds_if {a b : List Stmt} (hc : DT X W c tA) (ha : DSs X W a tS) (hb : DSs X W b uS) : DS X W (.If c a b pos) (dIfS tA tS uS) := PS.imp (ps_if hc ha hb) fun D σ H ⟨σD, G, DD, hR, hS, q, he⟩ =>
  ⟨σD, G, _, _, hR, hS, q, fun k H1 G1 s r z => by
    cases k with
    | true => rw [if_pos rfl] at z ⊢; exact ⟨σD, G1, DD, r, hS.mono s, z, he.mono s⟩
    | false => rw [if_neg Bool.false_ne_true] at z ⊢; exact ⟨σD, G1, DD, r, hS.mono s, z, he.mono s⟩, he.ex.at hS⟩
/-- a list in slot i is frozen here -/
def dFrz (i : Nat) (t : TSD) : TSD := fun D σ G => ∃ p xs, σ[i]? = some (some (.ref p)) ∧ G p = some (.lst xs) ∧ t D (σ.set i (some (.lst xs))) (gdel G p)
theorem dss_frz (i : Nat) (h : DSs X W rest tS) : DSs X W rest (dFrz i tS) := PSs.imp h fun D σ H ⟨σD, G, DD, hR, hS, ⟨p, xs, e1, e2, q⟩, he⟩ => by
  obtain ⟨v, ev, r⟩ := hS.at_ i _ e1
  cases r
  refine ⟨σD.set i (some (.lst xs)), gdel G p, DD, hR.del, ?_, q, he.mono Stp.del⟩
  have z := (hS.mono (Stp.del (p := p))).set i (thaw_lst hR e2)
  have eσ : σ.set i (some (.ref p)) = σ := by
    apply List.ext_getElem?
    intro j
    by_cases hj : i = j
    · subst hj
      rw [List.getElem?_set_self (List.getElem?_eq_some_iff.mp ev).1, ev]
    · rw [List.getElem?_set_ne hj]
  rw [eσ] at z
  exact z

/-! ### targets -/
abbrev TGD := D → SD → HH → (SD → HH → Prop) → Prop
abbrev TGsD := List D → SD → HH → (SD → HH → Prop) → Prop
def lftG (K : Frag) (t : TGD) : TG := fun v σ H Q => ∃ d σD G QD, RelH K H G ∧ SRp K H G σD σ ∧ Rp K H G d v ∧ t d σD G QD ∧ Nx K H G QD Q
def lftGs (K : Frag) (t : TGsD) : TGs := fun vs σ H Q => ∃ ds σD G QD, RelH K H G ∧ SRp K H G σD σ ∧ Rps K H G ds vs ∧ t ds σD G QD ∧ Nx K H G QD Q
def DG (X : Cx) (e : Expr) (t : TGD) : Prop := PG X e (lftG X.K t)
def DGs (X : Cx) (es : List Expr) (t : TGsD) : Prop := PGs X es (lftGs X.K t)
def gdName (i : Nat) : TGD := fun d σ G Q => Q (σ.set i (some d)) G
theorem dg_name {i : Nat} {x : Str} (hN : X.N.Nodup) (hi : X.N[i]? = some x) (hx : Loc X.env.scope x) (hf : X.fn x = true ∨ X.env.scope.names.lookup x = some .local := by first | exact .inl rfl | exact .inr rfl | assumption) : DG X (.Name x pos) (gdName i) :=
  PG.imp (pg_name hN hi hx hf) fun v σ H Q ⟨d, σD, G, QD, hR, hS, p, q, hq⟩ => hq _ _ _ _ Stp.refl hR (hS.set i p) q
def gdNil : TGsD := fun ds σ G Q => ds = [] ∧ Q σ G
def gdCons (t : TGD) (u : TGsD) : TGsD := fun ds σ G Q => ∃ d r, ds = d :: r ∧ t d σ G (fun σ' G' => u r σ' G' Q)
theorem dgs_nil : DGs X [] gdNil := PGs.imp pgs_nil fun vs σ H Q ⟨ds, σD, G, QD, hR, hS, p, ⟨e, q⟩, hq⟩ => by
  subst e; cases p
  exact ⟨rfl, hq _ _ _ _ Stp.refl hR hS q⟩
theorem dgs_cons {tG : TGD} {uG : TGsD} (h1 : DG X e tG) (h2 : DGs X es uG) (hs : (assignEach (e :: es) X.env).map (·.2) = assign e X.env :: (assignEach es X.env).map (·.2) := by rfl) : DGs X (e :: es) (gdCons tG uG) :=
  PGs.imp (pgs_cons h1 h2 hs) fun vs σ H Q ⟨ds, σD, G, QD, hR, hS, p, ⟨d, r, e, q⟩, hq⟩ => by
    subst e
    cases p with
    | cons p1 p2 =>
      refine ⟨_, _, rfl, d, σD, G, _, hR, hS, p1, q, fun σ' H' σD' G' s r' p' z => ?_⟩
      exact ⟨_, σD', G', QD, r', p', p2.mono s, z, hq.mono s⟩
def gdTup (n : Nat) (t : TGsD) : TGD := fun d σ G Q => ∃ ds, d = .tup ds ∧ ds.length = n ∧ t ds σ G Q
theorem dg_tup {k n : Nat} {tG : TGsD} (hc : X.calm = true) (h : DGs X es tG) (hn : (assignEach es X.env).length = n := by rfl) (hst : (assignEach es X.env).findIdx? (·.1) = none := by rfl) : DG X (.Tuple es k pos) (gdTup n tG) :=
  PG.imp (pg_tup hc h hn hst) fun v σ H Q ⟨d, σD, G, QD, hR, hS, p, ⟨ds, e, l, q⟩, hq⟩ => by
    subst e
    cases p with
    | tup f r => exact ⟨_, _, rfl, f.sq, by rw [← r.length]; exact l, ds, σD, G, QD, hR, hS, r, q, hq⟩
/-- o[i] = .., a list -/
def gdSub (ta tb : TED) : TGD := fun d σ G Q => ta σ G (fun x G1 => tb σ G1 (fun y G2 => ∃ p xs k j, x = .ref p ∧ y = .int k ∧ G2 p = some (.lst xs) ∧ ixN xs.length k = some j ∧ Q σ (gput G2 p (.lst (xs.set j d)))) (fun _ _ => False)) (fun _ _ => False)
theorem exs0 {K σ H G} : Exs K (fun _ _ _ _ => False) σ H G (fun _ _ => False) := fun _ _ _ _ _ _ _ _ z => z
theorem dg_sub (ha : DE X (fun _ _ _ _ => False) a ta) (hb : DE X (fun _ _ _ _ => False) b tb) (hh : ∀ v, assign (.Subscript a b pos) X.env v = (do
      let ov ← holding [v] (eval a X.env)
      let iv ← holding [v, ov] (eval b X.env)
      standAt pos
      holding [v, ov, iv] (setItem ov iv v)
      release [v, ov, iv] []) := by intro _; rfl) : DG X (.Subscript a b pos) (gdSub ta tb) :=
  PG.imp (pg_sub ha hb set_list hh) fun v σ H Q ⟨d, σD, G, QD, hR, hS, p, q, hq⟩ => by
    refine ⟨σD, G, _, _, hR, hS, q, fun v1 H1 d1 G1 s1 r1 p1 q1 => ?_, exs0⟩
    refine ⟨σD, G1, _, _, r1, hS.mono s1, q1, fun v2 H2 d2 G2 s2 r2 p2 ⟨q, xs, k, j, e1, e2, e3, e4, z⟩ => ?_, exs0⟩
    subst e1; subst e2; cases p1; cases p2
    obtain ⟨vs, h, r⟩ := r2 _ _ e3
    have s3 := Stp.put (H := H2) (o := .lst (vs.set j v)) (od := .lst (xs.set j d)) e3
    have s12 := s1.trans s2
    exact ⟨_, _, k, j, rfl, rfl, h, by rw [← r.length]; exact e4, hq _ _ _ _ (s12.trans s3) (r2.put e3 ⟨_, upd_same, ((r.mono s3).set (by first | exact (p.mono s12).mono s3) j)⟩) ((hS.mono s12).mono s3) z⟩
def dAsg (ta : TED) (g : TGD) : TSD := fun D σ G => ta σ G (fun x G1 => g x σ G1 D.nx) (fun x G1 => D.ex x σ G1)
theorem ds_asg {tg : Expr} {g : TGD} (ha : DE X W a ta) (hg : DG X tg g) (hs : swapsWithSole [tg] a pos.line X.env = pure false := by rfl) (hw : swappedStores [tg] a X.env = pure none := by rfl)
    (h1 : (assignEach [tg] X.env).map (·.2) = [assign tg X.env] := by rfl) : DS X W (.Assign [tg] a pos) (dAsg ta g) := PS.imp (ps_asg ha hg hs hw h1) fun D σ H ⟨σD, G, DD, hR, hS, q, he⟩ =>
  ⟨σD, G, _, _, hR, hS, q, fun v H1 d G1 s r p z => ⟨d, σD, G1, DD.nx, r, hS.mono s, p, z, he.nx.mono s⟩, he.ex.at hS⟩
theorem ds_set {i : Nat} {x : Str} {pos' : Pos} (hN : X.N.Nodup) (hi : X.N[i]? = some x) (hx : Loc X.env.scope x) (ha : DE X W a ta) (hs : swapsWith a (some (.Name x pos')) pos.line X.env = pure false := by rfl) (hf : X.fn x = true ∨ X.env.scope.names.lookup x = some .local := by first | exact .inl rfl | exact .inr rfl | assumption) :
    DS X W (.Assign [.Name x pos'] a pos) (dAsg ta (gdName i)) := PS.imp (ps_set hN hi hx ha hs hf) fun D σ H ⟨σD, G, DD, hR, hS, q, he⟩ =>
  ⟨σD, G, _, _, hR, hS, q, fun v H1 d G1 s r p z => he.nx _ _ _ _ s r ((hS.mono s).set i p) z, he.ex.at hS⟩
/-- a, b = x, y -/
def dPar (i j : Nat) (t : TAD) : TSD := fun D σ G => t σ G (fun ds G1 => ∃ d e, ds = [d, e] ∧ D.nx ((σ.set i (some d)).set j (some e)) G1) (fun x G1 => D.ex x σ G1)
theorem ds_par {i j : Nat} {x y : Str} {px py pt : Pos} {kt k2 pt2} (hc : X.calm = true) (hN : X.N.Nodup) (hi : X.N[i]? = some x) (hj : X.N[j]? = some y) (hij : i ≠ j)
    (hx : X.env.scope.names.lookup x = some .local) (hy : X.env.scope.names.lookup y = some .local) (ha : DA X W [a, b] t)
    (hw : swappedStores [.Tuple [.Name x px, .Name y py] kt pt] (.Tuple [a, b] k2 pt2) X.env = pure (some [x, y]))
    (hs : swapsWithSole [.Tuple [.Name x px, .Name y py] kt pt] (.Tuple [a, b] k2 pt2) pos.line X.env = pure false := by rfl) :
    DS X W (.Assign [.Tuple [.Name x px, .Name y py] kt pt] (.Tuple [a, b] k2 pt2) pos) (dPar i j t) := PS.imp (ps_par hc hN hi hj hij hx hy ha hw hs) fun D σ H ⟨σD, G, DD, hR, hS, q, he⟩ =>
  ⟨σD, G, _, _, hR, hS, q, fun vs H1 ds G1 s r p ⟨d, e, e1, z⟩ => by
    subst e1
    obtain ⟨v, w, rfl, p1, p2⟩ := rps2 p
    exact ⟨v, w, rfl, he.nx _ _ _ _ s r (((hS.mono s).set i p1).set j p2) z⟩, he.ex.at hS⟩

/-! ### what a loop walks -/
abbrev TID := SD → HH → (List D → (HH → Prop) → HH → Prop) → ED → Prop
def ItR (K : Frag) (H : Hp) (G : HH) (J : It) (items : List D) (ok : HH → Prop) : Prop := ∀ i H2 G2, Stp H G H2 G2 → RelH K H2 G2 → ok G2 →
  (∀ d, items[i]? = some d → J.go i H2 ∧ ∀ x H3, J.yld i H2 x H3 → Stp H2 G2 H3 G2 ∧ RelH K H3 G2 ∧ Rp K H3 G2 d x) ∧ (items.length ≤ i → J.stop i H2)
def lftI (K : Frag) (W : WX) (t : TID) : TI := fun σ H R => ∃ σD G RD E, RelH K H G ∧ SRp K H G σD σ ∧ t σD G RD E ∧ (∀ J H' items ok G', Stp H G H' G' → RelH K H' G' → ItR K H' G' J items ok → RD items ok G' → R J H') ∧ Exs K W σ H G E
def DI (X : Cx) (W : WX) (tg e : Expr) (t : TID) : Prop := PI X tg e (lftI X.K W t)
def okT : HH → Prop := fun _ => True
variable {tg : Expr}
/-- a tuple -/
def iTupD (ta : TED) : TID := fun σ G R E => ta σ G (fun x G1 => ∃ xs, x = .tup xs ∧ R xs okT G1) E
theorem di_tup (ha : DE X W a ta) : DI X W tg a (iTupD ta) := PI.imp (pi_tup ha) fun σ H R ⟨σD, G, RD, E, hR, hS, q, hr, he⟩ =>
  ⟨σD, G, _, E, hR, hS, q, fun v H1 d G1 s r p ⟨xs, ex, z⟩ => by
    subst ex
    cases p with
    | @tup a vs _ f rr =>
      refine ⟨a, rfl, ⟨_, f.sq⟩, hr _ _ _ _ _ s r (fun i H2 G2 s2 r2 _ => ⟨fun d hd => ?_, fun hl => ?_⟩) z⟩
      · obtain ⟨x, hx, px⟩ := (rr.mono s2).get hd
        refine ⟨⟨_, x, (f.mono s2).sq, hx⟩, fun y H3 ⟨e3, hy⟩ => ?_⟩
        have := hy _ (f.mono s2).sq
        rw [hx] at this
        cases this
        rw [e3]
        exact ⟨Stp.refl, r2, px⟩
      · exact ⟨_, (f.mono s2).sq, by rw [← rr.length]; exact hl⟩, he⟩
/-- a list, frozen or to be left alone meanwhile -/
def okL (x : D) (xs : List D) : HH → Prop := fun G => LsW G x xs
def iLstD (ta : TED) : TID := fun σ G R E => ta σ G (fun x G1 => ∃ xs, LsW G1 x xs ∧ R xs (okL x xs) G1) E
theorem di_lst (ha : DE X W a ta) : DI X W tg a (iLstD ta) := PI.imp (pi_list ha) fun σ H R ⟨σD, G, RD, E, hR, hS, q, hr, he⟩ =>
  ⟨σD, G, _, E, hR, hS, q, fun v H1 d G1 s r p ⟨xs, ls, z⟩ => by
    obtain ⟨a, vs, rfl, h1, rr⟩ := ls.of r p
    refine ⟨a, rfl, ⟨_, h1⟩, hr _ _ _ _ _ s r (fun i H2 G2 s2 r2 ok2 => ?_) z⟩
    obtain ⟨a2, vs2, e2, h2, rr2⟩ := LsW.of ok2 r2 (p.mono s2)
    cases e2
    refine ⟨fun d hd => ?_, fun hl => ⟨_, h2, by rw [← rr2.length]; exact hl⟩⟩
    obtain ⟨x, hx, px⟩ := rr2.get hd
    refine ⟨⟨_, x, h2, hx⟩, fun y H3 ⟨e3, hy⟩ => ?_⟩
    have := hy _ h2
    rw [hx] at this
    cases this
    rw [e3]
    exact ⟨Stp.refl, r2, px⟩, he⟩
/-- range(n), range(a, b) -/
def rgItems (lo : Int) (n : Nat) : List D := (List.range n).map fun i : Nat => D.int (lo + (i : Int))
theorem rgItems_len {lo n} : (rgItems lo n).length = n := by simp [rgItems]
theorem itR_rng {K H G lo n} : ItR K H G (Itr lo n) (rgItems lo n) okT := fun i H2 G2 s2 r2 _ => ⟨fun d hd => by
    have hi : i < n := by
      have := (List.getElem?_eq_some_iff.mp hd).1
      simpa [rgItems] using this
    refine ⟨hi, fun y H3 ⟨e3, hy⟩ => ?_⟩
    have e : d = .int (lo + (i : Int)) := by
      simp [rgItems, hi] at hd
      exact hd.symm
    rw [e3, e, hy]
    exact ⟨Stp.refl, r2, .int _⟩, fun hl => by
    have : n ≤ i := by simpa [rgItems] using hl
    exact this⟩
def iRngD1 (t : TAD) : TID := fun σ G R E => t σ G (fun ds G1 => ∃ j : Int, ds = [.int j] ∧ -(2 ^ 62) ≤ j ∧ j < 2 ^ 62 ∧ R (rgItems 0 j.toNat) okT G1) E
def iRngD2 (t : TAD) : TID := fun σ G R E => t σ G (fun ds G1 => ∃ i j : Int, ds = [.int i, .int j] ∧ (-(2 ^ 62) ≤ i ∧ i < 2 ^ 62 ∧ -(2 ^ 62) ≤ j ∧ j < 2 ^ 62) ∧ R (rgItems i (j - i).toNat) okT G1) E
theorem di_rng1 {p : Pos} (hg : Gl X "range") (hm : X.mg "range" = none) (ha : DA X W [a] t) (hs : starEach [a] X.env = [(false, eval a X.env)] := by rfl) : DI X W tg (.Call (.Name "range" p) [a] [] pos) (iRngD1 t) :=
  PI.imp (pi_range1 hg hm ha hs) fun σ H R ⟨σD, G, RD, E, hR, hS, q, hr, he⟩ => ⟨σD, G, _, E, hR, hS, q, fun vs H1 ds G1 s r p ⟨j, e, l1, l2, z⟩ => by
    subst e
    obtain ⟨v, rfl, p1⟩ := rps1 p
    cases p1
    exact ⟨j, rfl, l1, l2, hr _ _ _ _ _ s r itR_rng z⟩, he⟩
theorem di_rng2 {p : Pos} (hg : Gl X "range") (hm : X.mg "range" = none) (ha : DA X W [a, b] t) (hs : starEach [a, b] X.env = [(false, eval a X.env), (false, eval b X.env)] := by rfl) (hs2 : starEach [b] X.env = [(false, eval b X.env)] := by rfl) :
    DI X W tg (.Call (.Name "range" p) [a, b] [] pos) (iRngD2 t) :=
  PI.imp (pi_range2 hg hm ha hs hs2) fun σ H R ⟨σD, G, RD, E, hR, hS, q, hr, he⟩ => ⟨σD, G, _, E, hR, hS, q, fun vs H1 ds G1 s r p ⟨i, j, e, l, z⟩ => by
    subst e
    obtain ⟨v, w, rfl, p1, p2⟩ := rps2 p
    cases p1; cases p2
    exact ⟨i, j, rfl, l, hr _ _ _ _ _ s r itR_rng z⟩, he⟩

/-! ### for -/
def dFor (wi : TID) (g : TGD) (tb : TSD) : TSD := fun DD σ G => wi σ G (fun items ok G1 => ∃ Iv : List D → SD → HH → Prop, Iv [] σ G1 ∧ (∀ pre σ G, Iv pre σ G → ok G) ∧
  (∀ pre x post σ G, items = pre ++ x :: post → Iv pre σ G → g x σ G (fun σ2 G2 => tb { DD with nx := Iv (pre ++ [x]), ct := Iv (pre ++ [x]), bk := DD.nx } σ2 G2)) ∧ (∀ σ G, Iv items σ G → DD.nx σ G)) (fun x G1 => DD.ex x σ G1)
theorem take_snoc {α : Type} {l : List α} {i : Nat} {x : α} (h : l[i]? = some x) : l.take (i + 1) = l.take i ++ [x] := by
  rw [List.take_succ, h]; rfl
theorem split_at {α : Type} {l : List α} {i : Nat} {x : α} (h : l[i]? = some x) : l = l.take i ++ x :: l.drop (i + 1) := by
  have hi := (List.getElem?_eq_some_iff.mp h).1
  have hx := (List.getElem?_eq_some_iff.mp h).2
  rw [← hx, ← List.drop_eq_getElem_cons hi, List.take_append_drop]
theorem ds_for {iter : Expr} {wi : TID} {g : TGD} (hp : PassesOwn (model X.prog X.w) X.A X.env X.xe) (hc : X.calm = true) (hi : DI X W tg iter wi) (hg : DG X tg g) (hb : DSs X W body tS)
    (hs : ∀ x, foldedSetIterable iter X.env x = pure x := by intro _; rfl) : DS X W (.For tg iter body [] pos) (dFor wi g tS) := PS.imp (ps_for hp hc hi hg hb hs) fun D σ H ⟨σD, G, DD, hR, hS, q, he⟩ => by
  refine ⟨σD, G, _, _, hR, hS, q, fun J H1 items ok G1 s1 r1 itr ⟨Iv, i0, iok, istep, iend⟩ => ?_, he.ex.at hS⟩
  refine ⟨fun i m σ' H' => m = items.length - i ∧ i ≤ items.length ∧ ∃ σD' G', Stp H1 G1 H' G' ∧ RelH X.K H' G' ∧ SRp X.K H' G' σD' σ' ∧ Iv (items.take i) σD' G', ⟨items.length, by simp, Nat.zero_le _, σD, G1, Stp.refl, r1, hS.mono s1, by simpa using i0⟩, ?_⟩
  rintro i m σ' H' ⟨rfl, hi, σD', G', s', r', p', iv⟩
  obtain ⟨j1, j2⟩ := itr i H' G' s' r' (iok _ _ _ iv)
  have s1' := s1.trans s'
  by_cases hlt : i < items.length
  · obtain ⟨d, hd⟩ : ∃ d, items[i]? = some d := ⟨items[i], List.getElem?_eq_getElem hlt⟩
    obtain ⟨jgo, jy⟩ := j1 d hd
    refine .inr ⟨jgo, fun σ'' H'' => ∃ σD'' G'', Stp H1 G1 H'' G'' ∧ RelH X.K H'' G'' ∧ SRp X.K H'' G'' σD'' σ'' ∧ Iv (items.take (i + 1)) σD'' G'', fun σ'' H'' z => ⟨items.length - (i + 1), by omega, rfl, hlt, z⟩, fun x H3 y => ?_⟩
    obtain ⟨s3, r3, px⟩ := jy x H3 y
    have stp := istep _ d _ σD' G' (split_at hd) iv
    refine ⟨d, σD', G', _, r3, p'.mono s3, px, stp, fun σ4 H4 σD4 G4 s4 r4 p4 z => ?_⟩
    have s04 := (s1'.trans s3).trans s4
    have s14 := (s'.trans s3).trans s4
    have nxt : Nx X.K H4 G4 (Iv (items.take i ++ [d])) (fun σ'' H'' => ∃ σD'' G'', Stp H1 G1 H'' G'' ∧ RelH X.K H'' G'' ∧ SRp X.K H'' G'' σD'' σ'' ∧ Iv (items.take (i + 1)) σD'' G'') := fun σ5 H5 σD5 G5 s5 r5 p5 z5 =>
      ⟨σD5, G5, s14.trans s5, r5, p5, by rw [take_snoc hd]; exact z5⟩
    exact ⟨σD4, G4, _, r4, p4, z, nxt, he.rt.mono s04, he.nx.mono s04, nxt, he.ex.mono s04⟩
  · have e : i = items.length := by omega
    subst e
    rw [List.take_length] at iv
    exact .inl ⟨j2 (Nat.le_refl _), he.nx _ _ _ _ s1' r' p' (iend _ _ iv)⟩

/-! ### while -/
def dWhile (c : TTD) (tb : TSD) : TSD := fun DD σ G => ∃ (Iv : SD → HH → Prop) (μ : SD → HH → Nat), Iv σ G ∧ ∀ σ G, Iv σ G →
  c σ G (fun b G1 => if b = true then tb { DD with nx := fun σ' G' => Iv σ' G' ∧ μ σ' G' < μ σ G, ct := fun σ' G' => Iv σ' G' ∧ μ σ' G' < μ σ G, bk := DD.nx } σ G1 else DD.nx σ G1) (fun x G1 => DD.ex x σ G1)
theorem ds_while (hp : PassesOwn (model X.prog X.w) X.A X.env X.xe) (hc : DT X W c tA) (hb : DSs X W body tS) : DS X W (.While c body [] pos) (dWhile tA tS) := PS.imp (ps_while hp hc hb) fun D σ H ⟨σD, G, DD, hR, hS, ⟨Iv, μ, i0, istep⟩, he⟩ => by
  refine ⟨fun m σ' H' => ∃ σD' G', m = μ σD' G' ∧ Stp H G H' G' ∧ RelH X.K H' G' ∧ SRp X.K H' G' σD' σ' ∧ Iv σD' G', ⟨_, σD, G, rfl, Stp.refl, hR, hS, i0⟩, ?_⟩
  rintro m σ' H' ⟨σD', G', rfl, s', r', p', iv⟩
  refine ⟨σD', G', _, _, r', p', istep _ _ iv, fun b H1 G1 s1 r1 z => ?_, (he.ex.mono s').at p'⟩
  have s01 := s'.trans s1
  cases b with
  | false => rw [if_neg Bool.false_ne_true] at z; dsimp only; rw [if_neg Bool.false_ne_true]; exact he.nx _ _ _ _ s01 r1 (p'.mono s1) z
  | true =>
    rw [if_pos rfl] at z
    dsimp only
    rw [if_pos rfl]
    refine ⟨fun σ'' H'' => ∃ σD'' G'', μ σD'' G'' < μ σD' G' ∧ Stp H G H'' G'' ∧ RelH X.K H'' G'' ∧ SRp X.K H'' G'' σD'' σ'' ∧ Iv σD'' G'', fun σ'' H'' ⟨a, b, l, s, r, p, i⟩ => ⟨_, l, a, b, rfl, s, r, p, i⟩, ?_⟩
    have nxt : Nx X.K H1 G1 (fun σ'' G'' => Iv σ'' G'' ∧ μ σ'' G'' < μ σD' G') (fun σ'' H'' => ∃ σD'' G'', μ σD'' G'' < μ σD' G' ∧ Stp H G H'' G'' ∧ RelH X.K H'' G'' ∧ SRp X.K H'' G'' σD'' σ'' ∧ Iv σD'' G'') := fun σ5 H5 σD5 G5 s5 r5 p5 z5 =>
      ⟨σD5, G5, z5.2, s01.trans s5, r5, p5, z5.1⟩
    exact ⟨σD', G1, _, r1, p'.mono s1, z, nxt, he.rt.mono s01, he.nx.mono s01, nxt, he.ex.mono s01⟩
end DL

namespace DL
open PySem PySem.Spec PyProof.Rows L2
open PySem.W (Frag)
variable {X : Cx} {W : WX} {e a b c o : Expr} {es : List Expr} {ta tb tc to : TED} {t u : TAD} {tA tB' : TTD} {pos apos cpos : Pos} {st : Stmt} {rest body : List Stmt}

/-! ### methods of built-in types -/
structure MtD (X : Cx) (T id : String) (ty : D → HH → Prop) (rD : D → List D → HH → QD → Prop) : Prop where
  tyv : ∀ H G d v, RelH X.K H G → Rp X.K H G d v → ty d G → tyV X.K T v H
  rule : ∃ r, MtR X id r ∧ ∀ x xs H Q d ds G QD, RelH X.K H G → Rp X.K H G d x → Rps X.K H G ds xs → rD d ds G QD → Ct X.K H G Q QD → r x xs H Q
def dBM (ty : D → HH → Prop) (rD : D → List D → HH → QD → Prop) (to : TED) (t : TAD) : TED := fun σ G Q E => to σ G (fun x G1 => ty x G1 ∧ t σ G1 (fun ds G2 => rD x ds G2 Q) E) E
def dBM0 (ty : D → HH → Prop) (rD : D → List D → HH → QD → Prop) (to : TED) : TED := fun σ G Q E => to σ G (fun x G1 => ty x G1 ∧ rD x [] G1 Q) E
section
variable {T id : String} {name : Str} {ty : D → HH → Prop} {rD : D → List D → HH → QD → Prop}
theorem de_bm (pa : PlainAttrs T) (slot : Slot T name id) (hty : typeOf (.builtin id) = pure (.type "method_descriptor")) (m : MtD X T id ty rD) (ho : DE X W o to) (ha : DA X W (e :: es) t)
    (hbase : attributeBase o name X.env (eval o X.env) = eval o X.env := by rfl)
    (hfew : ((backTo cpos (starEach (e :: es) X.env)).all (fun x => !x.1) && (backToKw cpos (keywordEach [] X.env)).all (fun x => x.1.isSome)
      && decide ((e :: es).length + ([] : List Keyword).length + (if ([] : List Keyword).isEmpty then 0 else 1) < 30)) = true := by rfl)
    (hline : (apos.endLine == cpos.line) = true := by rfl) (hs : starEach (e :: es) X.env = (false, eval e X.env) :: starEach es X.env := by rfl) (hplain : (backTo cpos (starEach es X.env)).any (·.1) = false := by rfl) :
    DE X W (.Call (.Attribute o name apos) (e :: es) [] cpos) (dBM ty rD to t) :=
  let ⟨_, h1, h2⟩ := m.rule
  PE.imp (pe_bm pa slot hty h1 ho ha hbase hfew hline hs hplain) fun σ H Q ⟨σD, G, QD, E, hR, hS, q, hq, he⟩ => by
    refine ⟨σD, G, _, E, hR, hS, q, fun v H1 d G1 s1 r1 p1 ⟨t1, q1⟩ => ⟨m.tyv _ _ _ _ r1 p1 t1, ?_⟩, he⟩
    refine ⟨σD, G1, _, E, r1, hS.mono s1, q1, fun us H2 ds G2 s2 r2 p2 q2 => ?_, he.mono s1⟩
    exact h2 _ _ _ _ _ _ _ _ r2 (p1.mono s2) p2 q2 (hq.mono (s1.trans s2))
theorem de_bm0 (pa : PlainAttrs T) (slot : Slot T name id) (hty : typeOf (.builtin id) = pure (.type "method_descriptor")) (m : MtD X T id ty rD) (ho : DE X W o to)
    (hbase : attributeBase o name X.env (eval o X.env) = eval o X.env := by rfl) (hline : (apos.endLine == cpos.line) = true := by rfl) : DE X W (.Call (.Attribute o name apos) [] [] cpos) (dBM0 ty rD to) :=
  let ⟨_, h1, h2⟩ := m.rule
  PE.imp (pe_bm0 pa slot hty h1 ho hbase hline) fun σ H Q ⟨σD, G, QD, E, hR, hS, q, hq, he⟩ =>
    ⟨σD, G, _, E, hR, hS, q, fun v H1 d G1 s1 r1 p1 ⟨t1, q1⟩ => ⟨m.tyv _ _ _ _ r1 p1 t1, h2 _ _ _ _ _ _ _ _ r1 p1 .nil q1 (hq.mono s1)⟩, he⟩
end
/-- a list that may change -/
def tyL : D → HH → Prop := fun x G => ∃ p xs, x = .ref p ∧ G p = some (.lst xs)
theorem tyL_v {K H G d v} (r : RelH K H G) (p : Rp K H G d v) (h : tyL d G) : tyV K "list" v H := by
  obtain ⟨q, xs, e1, e2⟩ := h
  subst e1; cases p
  obtain ⟨vs, h, _⟩ := r _ _ e2
  exact .inl ⟨rfl, _, SqL.of h⟩
def mAppend : D → List D → HH → QD → Prop := fun x ds G Q => ∃ p xs y, x = .ref p ∧ ds = [y] ∧ G p = some (.lst xs) ∧ xs.length < sizeLine ∧ Q .non (gput G p (.lst (xs ++ [y])))
theorem mdAppend : MtD X "list" "list.append" tyL mAppend := ⟨fun _ _ _ _ => tyL_v, _, mt_append, fun x us H Q d ds G QD hR hp hps ⟨p, xs, y, e1, e2, e3, l, q⟩ hq => by
  subst e1; subst e2; cases hp
  obtain ⟨w, rfl, py⟩ := rps1 hps
  obtain ⟨vs, h, rr⟩ := hR _ _ e3
  have s3 := Stp.put (H := H) (o := .lst (vs ++ [w])) (od := .lst (xs ++ [y])) e3
  exact ⟨p, vs, w, rfl, rfl, h, by rw [← rr.length]; exact l, hq _ _ _ _ s3 (hR.put e3 ⟨_, upd_same, (rr.mono s3).append (.cons (py.mono s3) .nil)⟩) .non q⟩⟩
def mPop : D → List D → HH → QD → Prop := fun x ds G Q => ∃ p xs y, x = .ref p ∧ ds = [] ∧ G p = some (.lst (xs ++ [y])) ∧ Q y (gput G p (.lst xs))
theorem Rps.dropLast {K H G} {ds : List D} {vs : List V} (r : Rps K H G ds vs) : Rps K H G ds.dropLast vs.dropLast := by
  rw [List.dropLast_eq_take, List.dropLast_eq_take, r.length]
  exact r.take _
theorem mdPop : MtD X "list" "list.pop" tyL mPop := ⟨fun _ _ _ _ => tyL_v, _, mt_pop, fun x us H Q d ds G QD hR hp hps ⟨p, xs, y, e1, e2, e3, q⟩ hq => by
  subst e1; subst e2; cases hp; cases hps
  obtain ⟨vs, h, rr⟩ := hR _ _ e3
  have hl : vs.length = xs.length + 1 := by rw [← rr.length]; simp
  obtain ⟨w, hw, pw⟩ := rr.get (i := xs.length) (d := y) (by simp)
  have s3 := Stp.put (H := H) (o := .lst vs.dropLast) (od := .lst xs) e3
  have rd := rr.dropLast
  rw [List.dropLast_concat] at rd
  exact ⟨p, vs, w, rfl, rfl, h, by rw [hl]; simpa using hw, hq _ _ _ _ s3 (hR.put e3 ⟨_, upd_same, rd.mono s3⟩) (pw.mono s3) q⟩⟩
def mExtend : D → List D → HH → QD → Prop := fun x ds G Q => ∃ p xs y ys, x = .ref p ∧ ds = [y] ∧ G p = some (.lst xs) ∧ Ls G y ys ∧ xs.length + ys.length ≤ sizeLine ∧ Q .non (gput G p (.lst (xs ++ ys)))
theorem mdExtend : MtD X "list" "list.extend" tyL mExtend := ⟨fun _ _ _ _ => tyL_v, _, mt_extend, fun x us H Q d ds G QD hR hp hps ⟨p, xs, y, ys, e1, e2, e3, ls, l, q⟩ hq => by
  subst e1; subst e2; cases hp
  obtain ⟨w, rfl, py⟩ := rps1 hps
  obtain ⟨vs, h, rr⟩ := hR _ _ e3
  obtain ⟨b, us, rfl, hb, rb⟩ := ls.of hR py
  have s3 := Stp.put (H := H) (o := .lst (vs ++ us)) (od := .lst (xs ++ ys)) e3
  exact ⟨p, b, vs, us, rfl, rfl, h, hb, by rw [← rr.length, ← rb.length]; exact l, hq _ _ _ _ s3 (hR.put e3 ⟨_, upd_same, (rr.append rb).mono s3⟩) .non q⟩⟩
theorem de_append (ho : DE X W o to) (ha : DA X W (e :: es) t)
    (hbase : attributeBase o "append" X.env (eval o X.env) = eval o X.env := by rfl)
    (hfew : ((backTo cpos (starEach (e :: es) X.env)).all (fun x => !x.1) && (backToKw cpos (keywordEach [] X.env)).all (fun x => x.1.isSome)
      && decide ((e :: es).length + ([] : List Keyword).length + (if ([] : List Keyword).isEmpty then 0 else 1) < 30)) = true := by rfl)
    (hline : (apos.endLine == cpos.line) = true := by rfl) (hs : starEach (e :: es) X.env = (false, eval e X.env) :: starEach es X.env := by rfl) (hplain : (backTo cpos (starEach es X.env)).any (·.1) = false := by rfl) :
    DE X W (.Call (.Attribute o "append" apos) (e :: es) [] cpos) (dBM tyL mAppend to t) := de_bm PySem.F.plainAttrs_list PySem.F.slot_list_append PySem.F.type_list_append mdAppend ho ha hbase hfew hline hs hplain
theorem de_extend (ho : DE X W o to) (ha : DA X W (e :: es) t)
    (hbase : attributeBase o "extend" X.env (eval o X.env) = eval o X.env := by rfl)
    (hfew : ((backTo cpos (starEach (e :: es) X.env)).all (fun x => !x.1) && (backToKw cpos (keywordEach [] X.env)).all (fun x => x.1.isSome)
      && decide ((e :: es).length + ([] : List Keyword).length + (if ([] : List Keyword).isEmpty then 0 else 1) < 30)) = true := by rfl)
    (hline : (apos.endLine == cpos.line) = true := by rfl) (hs : starEach (e :: es) X.env = (false, eval e X.env) :: starEach es X.env := by rfl) (hplain : (backTo cpos (starEach es X.env)).any (·.1) = false := by rfl) :
    DE X W (.Call (.Attribute o "extend" apos) (e :: es) [] cpos) (dBM tyL mExtend to t) := de_bm PySem.F.plainAttrs_list PySem.F.slot_list_extend PySem.F.type_list_extend mdExtend ho ha hbase hfew hline hs hplain
theorem de_pop (ho : DE X W o to) (hbase : attributeBase o "pop" X.env (eval o X.env) = eval o X.env := by rfl) (hline : (apos.endLine == cpos.line) = true := by rfl) :
    DE X W (.Call (.Attribute o "pop" apos) [] [] cpos) (dBM0 tyL mPop to) := de_bm0 PySem.F.plainAttrs_list PySem.F.slot_list_pop PySem.F.type_list_pop mdPop ho hbase hline

/-! ### comprehensions -/
abbrev W0 : WX := fun _ _ _ _ => False
/-- the slots of the block's own names forgotten -/
def wipeD (σ : SD) : List Nat → SD
  | [] => σ
  | v :: vs => (wipeD σ vs).set v none
theorem SRp.wipe {K H G} {σD : SD} {σ : L2.St} (h : SRp K H G σD σ) : ∀ vs, SRp K H G (wipeD σD vs) (L2.wipe σ vs)
  | [] => h
  | v :: vs => by
    have ih := SRp.wipe h vs
    unfold wipeD L2.wipe
    refine ⟨by simp [ih.len], fun j d e => ?_⟩
    by_cases hj : v = j
    · subst hj
      have hlt : v < (wipeD σD vs).length := by
        have := (List.getElem?_eq_some_iff.mp e).1
        simpa using this
      rw [List.getElem?_set_self hlt] at e
      cases e
    · rw [List.getElem?_set_ne hj] at e ⊢
      exact ih.at_ j d e
/-- the targets: a name, a tuple of targets -/
inductive Tgt where
  | nm (i : Nat) | tp (ts : List Tgt)
mutual
def Tgt.slots : Tgt → List Nat
  | .nm i => [i]
  | .tp ts => slotsL ts
def slotsL : List Tgt → List Nat
  | [] => []
  | t :: ts => t.slots ++ slotsL ts
end
mutual
def Tgt.put : Tgt → D → SD → Option SD
  | .nm i, d, σ => some (σ.set i (some d))
  | .tp ts, .tup ds, σ => putL ts ds σ
  | .tp _, _, _ => none
def putL : List Tgt → List D → SD → Option SD
  | [], [], σ => some σ
  | t :: ts, d :: ds, σ => (t.put d σ).bind (putL ts ds)
  | _, _, _ => none
end
mutual
def Tgt.v (K : Frag) : Tgt → TG
  | .nm i => gName i
  | .tp ts => gTup K ts.length (tgtL K ts)
def tgtL (K : Frag) : List Tgt → TGs
  | [] => gNil
  | t :: ts => gCons (t.v K) (tgtL K ts)
end
theorem wipe_in {σ : L2.St} {i : Nat} : ∀ {vs : List Nat}, i ∈ vs → i < σ.length → (L2.wipe σ vs)[i]? = some none
  | v :: vs, h, hl => by
    unfold L2.wipe
    by_cases hv : v = i
    · subst hv
      exact List.getElem?_set_self (by rw [wipe_length]; exact hl)
    · rw [List.getElem?_set_ne hv]
      refine wipe_in ?_ hl
      rcases List.mem_cons.mp h with z | z
      · exact absurd z.symm hv
      · exact z
theorem wipe_eq {σ σ' : L2.St} {vs : List Nat} (hl : σ.length = σ'.length) (h : ∀ i, i ∉ vs → σ[i]? = σ'[i]?) : L2.wipe σ vs = L2.wipe σ' vs := by
  apply List.ext_getElem?
  intro i
  by_cases hi : i ∈ vs
  · by_cases hlt : i < σ.length
    · rw [wipe_in hi hlt, wipe_in hi (by omega)]
    · rw [List.getElem?_eq_none (by rw [wipe_length]; omega), List.getElem?_eq_none (by rw [wipe_length]; omega)]
  · rw [wipe_out hi, wipe_out hi]
    exact h i hi
/-- two frames that differ at these slots alone -/
def Aside (vs : List Nat) (σ σ' : L2.St) : Prop := σ.length = σ'.length ∧ ∀ i, i ∉ vs → σ[i]? = σ'[i]?
mutual
theorem Tgt.ok {K : Frag} {H : Hp} {G : HH} {vs : List Nat} : ∀ (t : Tgt) {d : D} {v : V} {σD σ2 : SD} {σ : L2.St} {Q : L2.St → Hp → Prop}, (∀ i ∈ t.slots, i ∈ vs) → Rp K H G d v → SRp K H G σD σ → t.put d σD = some σ2 →
    (∀ σ', SRp K H G σ2 σ' → Aside vs σ σ' → Q σ' H) → t.v K v σ H Q
  | .nm i, d, v, σD, σ2, σ, Q, hs, p, h, e, k => by
    simp only [Tgt.put, Option.some.injEq] at e
    subst e
    simp only [Tgt.v]
    refine k _ (h.set i p) ⟨by simp, fun j hj => ?_⟩
    rw [List.getElem?_set_ne]
    intro z
    exact hj (z ▸ hs i (by simp [Tgt.slots]))
  | .tp ts, d, v, σD, σ2, σ, Q, hs, p, h, e, k => by
    cases d with
    | tup ds =>
      cases p with
      | @tup a xs _ f r =>
        simp only [Tgt.put] at e
        obtain ⟨h1, h2⟩ := putL_ok ts (fun i hi => hs i (by simpa [Tgt.slots] using hi)) r h e k
        simp only [Tgt.v]
        exact ⟨a, xs, rfl, f.sq, h2, h1⟩
    | _ => simp [Tgt.put] at e
theorem putL_ok {K : Frag} {H : Hp} {G : HH} {vs : List Nat} : ∀ (ts : List Tgt) {ds : List D} {us : List V} {σD σ2 : SD} {σ : L2.St} {Q : L2.St → Hp → Prop}, (∀ i ∈ slotsL ts, i ∈ vs) → Rps K H G ds us → SRp K H G σD σ → putL ts ds σD = some σ2 →
    (∀ σ', SRp K H G σ2 σ' → Aside vs σ σ' → Q σ' H) → tgtL K ts us σ H Q ∧ us.length = ts.length
  | [], ds, us, σD, σ2, σ, Q, hs, p, h, e, k => by
    cases ds with
    | nil =>
      cases p
      simp only [putL, Option.some.injEq] at e
      subst e
      exact ⟨⟨rfl, k σ h ⟨rfl, fun _ _ => rfl⟩⟩, rfl⟩
    | cons d ds => simp [putL] at e
  | t :: ts, ds, us, σD, σ2, σ, Q, hs, p, h, e, k => by
    cases ds with
    | nil => simp [putL] at e
    | cons d ds =>
      cases p with
      | cons p1 p2 =>
        simp only [putL] at e
        cases e1 : t.put d σD with
        | none => rw [e1] at e; cases e
        | some σ1 =>
          rw [e1] at e
          have e : putL ts ds σ1 = some σ2 := e
          have hs1 : ∀ i ∈ t.slots, i ∈ vs := fun i hi => hs i (by simp [slotsL, hi])
          have hs2 : ∀ i ∈ slotsL ts, i ∈ vs := fun i hi => hs i (by simp [slotsL, hi])
          have len : ∀ σ' , SRp K H G σ1 σ' → (tgtL K ts _ σ' H fun _ _ => True) ∧ _ := fun σ' h' => putL_ok ts (Q := fun _ _ => True) hs2 p2 h' e fun _ _ _ => trivial
          refine ⟨?_, ?_⟩
          · simp only [tgtL]
            refine ⟨_, _, rfl, Tgt.ok t hs1 p1 h e1 fun σ' h' a' => ?_⟩
            exact (putL_ok ts hs2 p2 h' e fun σ3 h3 a3 => k σ3 h3 ⟨a'.1.trans a3.1, fun i hi => (a'.2 i hi).trans (a3.2 i hi)⟩).1
          · have := putL_len ts e
            have l2 := p2.length
            simp at *
            omega
theorem putL_len : ∀ (ts : List Tgt) {ds : List D} {σD σ2 : SD}, putL ts ds σD = some σ2 → ds.length = ts.length
  | [], [], _, _, _ => rfl
  | [], _ :: _, _, _, h => by simp [putL] at h
  | _ :: _, [], _, _, h => by simp [putL] at h
  | t :: ts, d :: ds, σD, σ2, h => by
    simp only [putL] at h
    cases e1 : t.put d σD with
    | none => rw [e1] at h; cases h
    | some σ1 =>
      rw [e1] at h
      have := putL_len ts (show putL ts ds σ1 = some σ2 from h)
      simp [this]
end
/-- tests of a comprehension -/
def DTs (X : Cx) (W : WX) (ifs : List Expr) (t : TTD) : Prop := PTs X ifs (lftT X.K W t)
def dYes : TTD := fun _ G Q _ => Q true G
theorem dts_nil : DTs X W [] dYes := ⟨fun pins s σ H Q I ⟨σD, G, QD, E, hR, hS, q, hq, he⟩ => pts_nil.run pins s σ H Q I (hq _ _ _ Stp.refl hR q)⟩
theorem dts_one (h : DT X W c tA) : DTs X W [c] tA := pts_one h
/-- [e for g in it if c]; fr: the new list is frozen at the end -/
def dLc (fr : Bool) (wi : TID) (g : Tgt) (tt : TTD) (te : TED) (vs : List Nat) : TED := fun σ G Q E => wi σ G (fun items ok G1 => ∀ p, G1 p = none → ∃ Iv : List D → HH → Prop, Iv [] (gput G1 p (.lst [])) ∧ (∀ pre G, Iv pre G → ok G) ∧
  (∀ pre x post G, items = pre ++ x :: post → Iv pre G → ∃ σ2, g.put x (wipeD σ vs) = some σ2 ∧ tt σ2 G (fun b G3 => if b = true then te σ2 G3 (fun y G4 => ∃ acc, G4 p = some (.lst acc) ∧ acc.length < sizeLine ∧ Iv (pre ++ [x]) (gput G4 p (.lst (acc ++ [y])))) (fun _ _ => False) else Iv (pre ++ [x]) G3) (fun _ _ => False)) ∧
  (∀ G, Iv items G → ∃ acc, G p = some (.lst acc) ∧ (if fr = true then Q (.lst acc) (gdel G p) else Q (.ref p) G))) E
theorem de_lc {elt tg iter : Expr} {ifs : List Expr} {scope : Scope} {own : List (Str × Nat)} {wi : TID} {tt : TTD} {te : TED} (fr : Bool) (g : Tgt) (hc : X.calm = true) (hN : X.N.Nodup) (hi : DI X W tg iter wi) (ok : BlkOk X.N X.env.scope scope own)
    (hsl : ∀ i ∈ g.slots, i ∈ own.map (·.2))
    (hg : ∀ (s : Shared) (H : Hp) (C : Addr) (cl : List (Str × Addr)) (fp : List Addr), PG (X.blk s H scope (compEnvC scope cl C X.env) fp) tg (g.v X.K)) (ht : ∀ (s : Shared) (H : Hp) (C : Addr) (cl : List (Str × Addr)) (fp : List Addr), DTs (X.blk s H scope (compEnvC scope cl C X.env) fp) W0 ifs tt)
    (he : ∀ (s : Shared) (H : Hp) (C : Addr) (cl : List (Str × Addr)) (fp : List Addr), DE (X.blk s H scope (compEnvC scope cl C X.env) fp) W0 elt te) (hs : ∀ x, foldedSetIterable iter X.env x = pure x := by intro _; rfl) :
    DE X W (.ListComp elt [⟨tg, iter, ifs, 0⟩] scope pos) (dLc fr wi g tt te (own.map (·.2))) :=
  PE.imp (pe_lc (g := g.v X.K) (tt := lftT X.K W0 tt) (te := lft X.K W0 te) hc hN hi ok hg ht he hs) fun σ H Q ⟨σD, G, QD, E, hR, hS, q, hq, hE⟩ => by
    refine ⟨σD, G, _, E, hR, hS, q, fun J H1 items okk G1 s1 r1 itr z => ?_, hE⟩
    intro p hp
    obtain ⟨Iv, i0, iok, istep, iend⟩ := z p (r1.free hp)
    have sN := Stp.newM (G := G1) (o := .lst []) (od := .lst []) hp
    have rN := r1.newM (o := .lst []) (od := .lst []) hp ⟨[], upd_same, .nil⟩
    refine ⟨fun i m H' => m = items.length - i ∧ i ≤ items.length ∧ ∃ G', Stp H1 G1 H' G' ∧ RelH X.K H' G' ∧ Iv (items.take i) G', ⟨items.length, by simp, Nat.zero_le _, gput G1 p (.lst []), sN, rN, by simpa using i0⟩, ?_⟩
    rintro i m H' ⟨rfl, hi, G', s', r', iv⟩
    obtain ⟨j1, j2⟩ := itr i H' G' s' r' (iok _ _ iv)
    by_cases hlt : i < items.length
    · obtain ⟨d, hd⟩ : ∃ d, items[i]? = some d := ⟨items[i], List.getElem?_eq_getElem hlt⟩
      obtain ⟨jgo, jy⟩ := j1 d hd
      refine .inr ⟨jgo, fun H'' => ∃ G'', Stp H1 G1 H'' G'' ∧ RelH X.K H'' G'' ∧ Iv (items.take (i + 1)) G'', fun H'' z => ⟨items.length - (i + 1), by omega, rfl, hlt, z⟩, fun x H3 y => ?_⟩
      obtain ⟨s3, r3, px⟩ := jy x H3 y
      obtain ⟨σ2, hput, stp⟩ := istep _ d _ G' (split_at hd) iv
      have s13 := s'.trans s3
      have hw := ((hS.mono s1).mono s13).wipe (own.map (·.2))
      refine Tgt.ok g hsl px hw hput fun σ' h' a' => ⟨?_, ?_⟩
      · exact wipe_eq (by rw [← a'.1, wipe_length]) fun i hi => by rw [← a'.2 i hi, wipe_out hi]
      refine ⟨σ2, G', _, _, r3, h', stp, fun b H4 G4 s4 r4 z4 => ?_, exs0⟩
      cases b with
      | false =>
        dsimp only at z4 ⊢
        rw [if_neg Bool.false_ne_true] at z4 ⊢
        exact ⟨G4, s13.trans s4, r4, by rw [take_snoc hd]; exact z4⟩
      | true =>
        dsimp only at z4 ⊢
        rw [if_pos rfl] at z4 ⊢
        refine ⟨σ2, G4, _, _, r4, h'.mono s4, z4, fun w H5 dw G5 s5 r5 p5 ⟨acc, e5, l5, z5⟩ => ?_, exs0⟩
        obtain ⟨vs, h, rr⟩ := r5 _ _ e5
        have s6 := Stp.put (H := H5) (o := .lst (vs ++ [w])) (od := .lst (acc ++ [dw])) e5
        refine ⟨vs, h, by rw [← rr.length]; exact l5, gput G5 p (.lst (acc ++ [dw])), ((s13.trans s4).trans s5).trans s6, r5.put e5 ⟨_, upd_same, (rr.mono s6).append (.cons (p5.mono s6) .nil)⟩, ?_⟩
        rw [take_snoc hd]; exact z5
    · have e : i = items.length := by omega
      subst e
      rw [List.take_length] at iv
      refine .inl ⟨j2 (Nat.le_refl _), ?_⟩
      obtain ⟨acc, ea, z⟩ := iend _ iv
      have s1' := s1.trans s'
      cases fr with
      | true =>
        rw [if_pos rfl] at z
        exact hq _ _ _ _ (s1'.trans Stp.del) r'.del (thaw_lst r' ea) z
      | false =>
        rw [if_neg Bool.false_ne_true] at z
        exact hq _ _ _ _ s1' r' (.ref p) z
end DL

namespace DL
open PySem PySem.Spec PyProof.Rows L2
open PySem.W (Frag)

/-! ### a def keeps its promise -/
def startD (N : List Str) (ds : List D) : SD := ds.map some ++ List.replicate (N.length - ds.length) none
theorem SRp.start {K : Frag} {H G} {N : List Str} {ds : List D} {vs : List V} (r : Rps K H G ds vs) : SRp K H G (startD N ds) (L2.start N vs) := by
  have hl := r.length
  refine ⟨by simp [startD, L2.start, hl], fun i d e => ?_⟩
  unfold startD at e
  by_cases hi : i < ds.length
  · rw [List.getElem?_append_left (by simpa using hi), List.getElem?_map] at e
    cases e1 : ds[i]? with
    | none => rw [e1] at e; cases e
    | some d' =>
      rw [e1] at e
      cases e
      obtain ⟨v, hv, rv⟩ := r.get e1
      refine ⟨v, ?_, rv⟩
      unfold L2.start
      rw [List.getElem?_append_left (by rw [List.length_map]; omega), List.getElem?_map, hv]
      rfl
  · rw [List.getElem?_append_right (by simpa using hi), List.getElem?_replicate] at e
    split at e <;> cases e
section
variable {P : Program} {w : World} {K : Frag} {mg : Str → Option Value} {base : Heap}
/-- the wish of a def about exceptions -/
abbrev WD (E : XK) : WX := fun cls d _ H => E cls d H
theorem FunG.ok {x qual : Str} {st : Stmt} {f : Addr} {fd : FuncData} {N ps : List Str} {k : Nat} {sp : SpD} (F : Fun K x qual st f fd) (S : FnScope N ps (defScope st)) (len : ∀ ds G Q E, sp ds G Q E → ds.length = ps.length)
    (hbody : ∀ (cdv : Value) (A : Around) (outer : List Env) (s : Shared) (H : Hp) (E : XK), A.guards = some [] → Room k (A.deeper (envOfC qual (defScope st) s.heap.objs.size f cdv)) →
      ∃ t, DSs (cxOf (L2.CX P w) P w K mg base N qual (defScope st) f cdv A outer s H E) (WD E) (defBody st) t ∧
        ∀ ds G Q EX, sp ds G Q EX → t { nx := fun _ G' => Q .non G', rt := Q, ex := fun x _ G' => EX x G' } (startD N ds) G) : FnG P w K mg base (k + 1) f fd ps sp := by
  obtain ⟨oc, od, kV, doc, pm, an, cdv, ct, osl, rfl, lk, hcd⟩ := F.ex
  refine ⟨len, fun A outer s H args us vs Q E hgd hr e0 hb r hsp => ?_⟩
  obtain ⟨ds, G, QD, EX, hR, hrp, hq, hct, hex⟩ := hsp
  have inK : K.In s.heap := e0.mod.kin.keeps fun b o q => (e0.bs b o q).1
  have nolim : s.heap.NoLimit := e0.mod.nolimit.keeps fun b o q => (e0.bs b o q).1
  have hvl : vs.length = ps.length := by rw [← hrp.length]; exact len _ _ _ _ hq
  have kinds : ∀ y ∈ ps.zip us, (defScope st).names.lookup y.1 = some .local ∨ ((defScope st).names.lookup y.1 = some .cell ∧ ((cellsFrom (s.heap.objs.size + 1) (defScope st).names []).lookup y.1).isSome = true) := by
    rintro ⟨n, v⟩ hy
    rcases S.par n (List.of_mem_zip hy).1 with q | q
    · exact .inl q
    · exact .inr ⟨q, PySem.W.cellsFrom_some _ _ _ (.inl q)⟩
  refine codeAny_call_function hr.depth (inK _ _ lk) rfl S.co S.gen rfl (PySem.W.codeRec_of inK hcd) (hb _ _ _ _ ?_)
  refine wpAny_newFunctionEnv_cells S.kind kinds fun env henv s1 xc => ?_
  subst henv
  refine ⟨nolim.keeps xc.toInCall.keep, codeAny_func ?_⟩
  obtain ⟨t, ht, hv⟩ := hbody cdv A outer s H E hgd (hr.deeper _)
  have I0 := inv_start (CX := L2.CX P w) (E := E) S hr.hd e0 hvl r xc
  refine wpAny_mono (ht.run [] s1 (L2.start N vs) H { nx := fun _ H' => Q .non H', rt := Q } I0 ?_) (fun fl s' hs => ?_) fun e s' hs => hs
  · refine ⟨startD N ds, G, _, hR, SRp.start hrp, hv ds G QD EX hq, ⟨fun _ H' _ G' s r _ z => hct _ _ _ _ s r .non z, hct, fun _ _ _ _ _ _ _ z => z.elim, fun _ _ _ _ _ _ _ z => z.elim, fun x cls d _ _ H' G' s r _ p z => hex x cls d H' G' s r p z⟩⟩
  · cases fl with
    | ret u =>
      obtain ⟨v, σ', H', J, rv, q⟩ := hs
      exact ⟨v, H', J.os, J.bare, J.base, J.hok, rv, q⟩
    | next =>
      obtain ⟨σ', H', J, q⟩ := hs
      exact ⟨V.non, H', J.os, J.bare, J.base, J.hok, rfl, q⟩
    | brk => exact hs.elim fun _ ⟨_, _, z⟩ => z.elim
    | cont => exact hs.elim fun _ ⟨_, _, z⟩ => z.elim
end

/-! ### the law -/
/-- the bits of a script's numbers -/
def BB : Nat := 1048576
def Bits (ns : List Int) : Prop := ∀ z ∈ ns, z.natAbs < 2 ^ BB
theorem bits_of {z : Int} {b : Nat} (h : Builtin.Int.intBits z ≤ b) : z.natAbs < 2 ^ b := by
  unfold Builtin.Int.intBits at h
  by_cases e : z = 0
  · subst e; exact Nat.pos_of_ne_zero (by simp)
  · rw [if_neg (by simpa using e)] at h
    exact (Nat.log2_lt (by omega)).mp (by omega)
/-- what the law's def promises: of a script it gives True -/
def spLaw (n : Nat) : SpD := fun ds G Q _ => ∃ ns : List Int, ds = [.wls (ns.map D.int)] ∧ ns.length ≤ n ∧ Bits ns ∧ G = (fun _ => none) ∧ ∀ G', Q (.bl true) G'
theorem law_callG {P : Program} {w : World} {K : Frag} {mg mb : Str → Option Value} {n k : Nat} {fa a : Addr} {fd : FuncData} {x : Str} {s₁ : Shared} {vs : List Value} {ns : List Int}
    (KX : K.In s₁.heap) (hns : s₁.heap.Ns mainGlobals mg) (hb : s₁.heap.Ns builtinsNs mb) (hbb : ∀ x : Str, x ≠ "__name__" → mb x = bootBuiltins x) (hlim : s₁.heap.NoLimit) (hg : s₁.gens = #[])
    (ha : s₁.heap.get? a = some { cls := .type "list", data := .seq vs.toArray }) (hi : IntsAre vs ns) (hl : ns.length ≤ n) (hbt : Bits ns) (hn : n ≤ sizeLine) (hr : Room k callerA)
    (F : ∀ base : Heap, K.In base → base.Ns mainGlobals mg → FnG P w K mg base k fa fd [x] (spLaw n)) (hbind : ∀ (s : Shared) (u : Value), BindsTo s fd ⟨[u], []⟩ [(x, u)]) :
    codeAny (model P w) callerA (.call (.ref fa) ⟨[.ref a], []⟩) (fun r s' => r = .ok (.ret (.bool true)) ∧ OldK s₁.heap s'.heap ∧ s'.os = s₁.os ∧ AllBare s'.gens) s₁ := by
  have rv := vals_ints hi
  have lenV := hi.length
  have hl' : ns.length ≤ sizeLine := Nat.le_trans hl hn
  -- the abstract heap: the script locked, if it is none of the written part
  obtain ⟨H, hO, hS, hok, hA, hK⟩ : ∃ H : Hp, Only H ∧ (Rd H a (.lst (ns.map V.int)) ∨ ∃ (o : Obj) (its : Array Value) (n : Nat), K.lookup a = some o ∧ o.cls = .type "list" ∧ o.dict = none ∧ o.data = .seq its n ∧ its.size ≤ sizeLine ∧ Vals (ns.map V.int) its.toList) ∧
      HOk P w H s₁.heap ∧ (∀ b, H b ≠ none → b = a) ∧ (H a ≠ none → K.lookup a = none) := by
    cases hk : K.lookup a with
    | some o =>
      have e := KX a o hk
      rw [ha] at e
      cases e
      exact ⟨fun _ => none, fun _ => .inl rfl, .inr ⟨_, vs.toArray, _, rfl, rfl, rfl, rfl, by rw [List.size_toArray, lenV]; exact hl', by simpa using rv⟩, (by intro b u z; cases z), fun b z => absurd rfl z, fun z => absurd rfl z⟩
    | none =>
      refine ⟨fun b => if b = a then some (.frz { cls := .type "list", data := .seq vs.toArray } (.lst (ns.map V.int))) else none, fun b => ?_, .inl (.inr ⟨_, if_pos rfl⟩), fun b u z => ?_, fun b z => ?_, fun _ => rfl⟩
      · by_cases hb : b = a
        · exact .inr ⟨_, _, if_pos hb⟩
        · exact .inl (if_neg hb)
      · by_cases hb : b = a
        · have z' := (if_pos hb).symm.trans z
          cases z'
          subst hb
          exact ⟨ha, by rw [List.length_map]; exact hl', vs, _, rv, ha⟩
        · exact absurd ((if_neg hb).symm.trans z) (by simp)
      · by_cases hb : b = a
        · exact hb
        · exact absurd (if_neg hb) z
  have baseAt : ∀ {b : Addr} {o : Obj}, s₁.heap.get? b = some o → H b = none → (hidT s₁.heap H).get? b = some o := fun q z => hidT_get q z
  have noDict : ∀ {b : Addr} {o : Obj} {es : Array DictEntry} {ep : Nat}, s₁.heap.get? b = some o → o.data = .dict es ep → H b = none := by
    intro b o es ep q dd
    cases z : H b with
    | none => rfl
    | some u =>
      have eb : b = a := hA b (by rw [z]; simp)
      subst eb
      rw [ha] at q; cases q
      cases (show Data.seq vs.toArray _ = Data.dict es ep from dd)
  have nsB : ∀ {b : Addr} {m : Str → Option Value}, s₁.heap.Ns b m → (hidT s₁.heap H).Ns b m := by
    rintro b m ⟨o, es, ep, q, dd, rest⟩
    exact ⟨o, es, ep, baseAt q (noDict q dd), dd, rest⟩
  have inB : K.In (hidT s₁.heap H) := by
    intro b o q
    refine baseAt (KX b o q) ?_
    cases z : H b with
    | none => rfl
    | some u =>
      have eb : b = a := hA b (by rw [z]; simp)
      subst eb
      rw [hK (by rw [z]; simp)] at q; cases q
  have hM : Mod K mg (hidT s₁.heap H) := ⟨inB, nsB hns, ⟨mb, nsB hb, hbb⟩, let ⟨mc, z1, z2⟩ := hlim; ⟨mc, nsB z1, z2⟩⟩
  have e0 : Env0 P w K mg (hidT s₁.heap H) callerA [] s₁ H := ⟨rfl, hM, fun b o q => of_hidT q, Nat.le_of_eq (hidT_size _ _), trivial, fun b z => absurd (show b ∈ ([] : List Addr) from z) (by simp), hok, .of_eq hg⟩
  have hsp : lsp K (spLaw n) [.ref a] H (fun v _ => v = .bl true) fun _ _ _ => False := by
    refine ⟨[.wls (ns.map D.int)], fun _ => none, fun d _ => d = .bl true, fun _ _ => False, (by intro p o z; cases z), .cons (.wls ?_ (Rps.of_ints ns)) .nil, ⟨ns, rfl, hl, hbt, rfl, fun _ => rfl⟩, fun v H' d G' _ _ p z => ?_, fun _ _ _ _ _ _ _ _ z => z⟩
    · exact hS.elim (fun z => .inl ⟨z, rfl⟩) .inr
    · subst z; cases p; rfl
  refine codeAny_mono ((F _ inB (nsB hns)).run callerA [] s₁ H ⟨[.ref a], []⟩ [.ref a] [.ref a] _ _ rfl hr e0 (hbind s₁ (.ref a)) (.cons rfl .nil) hsp) fun r s' h => ?_
  cases r with
  | error e =>
    obtain ⟨_, _, _, _, _, _, _, _, _, _, _, _, z⟩ := h
    exact z.elim
  | ok fl =>
    cases fl with
    | next => exact False.elim h
    | brk => exact False.elim h
    | cont => exact False.elim h
    | ret u =>
      obtain ⟨v, H', os, bare, un, hok', r', q⟩ := h
      have q' : v = .bl true := q
      subst q'
      obtain rfl : u = Value.bool true := r'
      refine ⟨rfl, OldK.of_keep fun b o q => ?_, os, bare⟩
      cases z : H b with
      | none => exact un.keep b o q z (by intro y; exact absurd (show b ∈ ([] : List Addr) from y) (by simp)) (by simp)
      | some u =>
        rcases hO b with y | ⟨ob, xs, y⟩
        · rw [z] at y; cases y
        · obtain ⟨e1, _⟩ := hok b _ y
          obtain ⟨e2, _⟩ := hok' b _ (un.frzs b ob _ y)
          rw [q] at e1; cases e1
          exact e2
theorem walkG {l : PySem.W.OpenLaw} {n k : Nat} {q : Program} {loose : List Str} {XP : (Str → Option Value) → Heap → Prop} {YP : World → Heap → Prop} {d : DefRec} {K : Params → Frag} {x : Str}
    (hn : l.most = some n) (hn2 : n ≤ sizeLine) (hdf : d.params.defaults = []) (hr : Room k callerA) (hY : ∀ (w : World) (h : Heap), YP w h → (K w.params).In h)
    (F : ∀ (w : World) (mg : Str → Option Value) (fa : Addr) (h : Heap), (K w.params).In h → h.Ns mainGlobals mg → mg d.name = some (.ref fa) →
      ∃ fd : FuncData, (∀ (s : Shared) (u : Value), BindsTo s fd ⟨[u], []⟩ [(x, u)]) ∧
        ∀ base : Heap, (K w.params).In base → base.Ns mainGlobals mg → FnG l.prog w (K w.params) mg base k fa fd [x] (spLaw n)) :
    PySem.W.WalkO q loose XP YP l.row.toRowW d [] (fun f vs => PySem.call f vs) := by
  refine Att.attach_callB hn hdf fun w s₀ s₁ mg mb fa o pm cd doc a vs ns G Y ho hd hcd hmg hobj hints hlen hbits hg => ?_
  have KX := hY w _ Y
  obtain ⟨fd, hb, hF⟩ := F w mg fa _ KX G.T.g hmg
  exact law_callG KX G.T.g G.T.b G.T.builtins G.T.nolimit hg hobj hints hlen (fun z hz => bits_of (hbits z hz)) hn2 hr hF hb
end DL

namespace DL
open PySem PySem.Spec PyProof.Rows L2
open PySem.W (Frag)
variable {X : Cx} {W : WX} {e a b c o : Expr} {es : List Expr} {ta tb tc to : TED} {t u tk : TAD} {tA tB' : TTD} {pos apos cpos : Pos} {st : Stmt} {rest body : List Stmt} {kws : List Keyword}

/-! ### keywords -/
/-- the arguments in the parameters' order -/
def pick {α : Type} (perm : List Nat) (l : List α) : List α := perm.filterMap fun i => l[i]?
theorem Vals.pick : ∀ {perm : List Nat} {xs : List V} {us : List Value}, Vals xs us → Vals (DL.pick perm xs) (DL.pick perm us)
  | [], _, _, _ => .nil
  | i :: perm, xs, us, r => by
    have ih := Vals.pick (perm := perm) r
    unfold DL.pick at ih ⊢
    cases e : xs[i]? with
    | none =>
      rw [List.filterMap_cons_none e, List.filterMap_cons_none (r.none_of e)]
      exact ih
    | some x =>
      obtain ⟨y, hy, ry⟩ := r.get e
      rw [List.filterMap_cons_some e, List.filterMap_cons_some hy]
      exact .cons ry ih
theorem Rps.pick {K H G} : ∀ {perm : List Nat} {ds : List D} {vs : List V}, Rps K H G ds vs → Rps K H G (DL.pick perm ds) (DL.pick perm vs)
  | [], _, _, _ => .nil
  | i :: perm, ds, vs, r => by
    have ih := Rps.pick (perm := perm) r
    unfold DL.pick at ih ⊢
    cases e : ds[i]? with
    | none =>
      have e2 : vs[i]? = none := List.getElem?_eq_none (by rw [← r.length]; exact List.getElem?_eq_none_iff.mp e)
      rw [List.filterMap_cons_none e, List.filterMap_cons_none e2]
      exact ih
    | some x =>
      obtain ⟨y, hy, ry⟩ := r.get e
      rw [List.filterMap_cons_some e, List.filterMap_cons_some hy]
      exact .cons ry ih
structure KBd (K : Frag) (fd : FuncData) (ps : List Str) (n : Nat) (ks : List Str) (perm : List Nat) : Prop where
  to : ∀ (s : Shared) (us ws : List Value), K.In s.heap → us.length = n → ws.length = ks.length → BindsTo s fd ⟨us, ks.zip ws⟩ (ps.zip (pick perm (us ++ ws)))
theorem fun_kbd {K : Frag} {x qual : Str} {st : Stmt} {f : Addr} {fd : FuncData} {ps ks : List Str} {n : Nat} {perm : List Nat} (F : Fun K x qual st f fd)
    (h : ∀ (kV doc pm : Value) (an : Option Addr) (cdv ct : Value) (us ws : List Value), us.length = n → ws.length = ks.length → bindArgs (PySem.W.fnOf x qual (defArgs st) (defBody st) (defScope st) .none kV doc pm an cdv ct) ⟨us, ks.zip ws⟩ = pure (ps.zip (pick perm (us ++ ws)))) : KBd K fd ps n ks perm := by
  obtain ⟨oc, od, kV, doc, pm, an, cdv, ct, osl, rfl, _, _⟩ := F.ex
  exact ⟨fun s us ws _ h1 h2 => .of_eq (h kV doc pm an cdv ct us ws h1 h2)⟩
def DK (X : Cx) (W : WX) (kws : List Keyword) (t : TAD) : Prop := PK X kws (lftA X.K W t)
theorem PK.imp {X : Cx} {es : List Keyword} {t t' : TA} (h : PK X es t) (i : ∀ σ H Q, t' σ H Q → t σ H Q) : PK X es t' := ⟨fun pos pins s σ H Q I q => h.run pos pins s σ H Q I (i σ H Q q)⟩
theorem dk_nil : DK X W [] dNil := PK.imp pk_nil fun σ H Q ⟨σD, G, QD, E, hR, hS, q, hq, he⟩ => hq _ _ _ _ Stp.refl hR .nil q
theorem dk_cons {nm : Option Str} {kpos : Pos} (ha : DE X W a ta) (hr : DK X W kws t) : DK X W (⟨nm, a, kpos⟩ :: kws) (dCons ta t) :=
  PK.imp (pk_cons ha hr) fun σ H Q ⟨σD, G, QD, E, hR, hS, q, hq, he⟩ => by
    refine ⟨σD, G, _, E, hR, hS, q, fun v1 H1 d1 G1 s1 r1 p1 q1 => ?_, he⟩
    refine ⟨σD, G1, _, E, r1, hS.mono s1, q1, fun vs H2 ds G2 s2 r2 p2 q2 => ?_, he.mono s1⟩
    exact hq _ _ _ _ (s1.trans s2) r2 (.cons (p1.mono s2) p2) q2
def dCallK (n m : Nat) (perm : List Nat) (sp : SpD) (t tk : TAD) : TED := fun σ G Q E => t σ G (fun ds G1 => tk σ G1 (fun zs G2 => ds.length = n ∧ zs.length = m ∧ sp (pick perm (ds ++ zs)) G2 Q E) E) E
section
variable {k : Nat} {f : Addr} {fd : FuncData} {ps ks : List Str} {sp : SpD} {x : Str} {p : Pos} {n : Nat} {perm : List Nat}
theorem run_callK {pins : List (Addr × Obj)} {σ : L2.St} {H : Hp} {s : Shared} {Q : VK} {us ws : List Value} {vs : List V} (F : FnG X.prog X.w X.K X.mg X.base k f fd ps sp) (hg : X.A.guards = some []) (hr : Room k X.A) (hb : KBd X.K fd ps n ks perm) (tkw : Takes X W)
    (I : Inv X pins σ H s) (r : Vals vs (us ++ ws)) (h1 : us.length = n) (h2 : ws.length = ks.length) (h : lsp X.K sp (pick perm vs) H Q (WE W σ)) : wpAny (model X.prog X.w) X.A (call (.ref f) us (ks.zip ws)) (EP X pins σ Q) X.xe s := by
  refine wpAny_call (codeAny_mono (run_any F hg hr tkw I (hb.to s us ws I.kIn h1 h2) (Vals.pick r) h) fun r s' hq => ?_)
  cases r with
  | error e => exact hq
  | ok fl =>
    cases fl with
    | ret u => exact hq
    | next => exact False.elim hq
    | brk => exact False.elim hq
    | cont => exact False.elim hq
/-- what stands behind the arguments of a call with keywords -/
def tCK (n m : Nat) (perm : List Nat) (sp : Sp) (E : L2.St → XK) (t tk : TA) : TE := fun σ H Q => t σ H fun vs H1 => tk σ H1 fun zs H2 => vs.length = n ∧ zs.length = m ∧ sp (pick perm (vs ++ zs)) H2 Q (E σ)
theorem lft_callK {K : Frag} {m : Nat} {σ H Q} (h : lft K W (dCallK n m perm sp t tk) σ H Q) : tCK n m perm (lsp K sp) (WE W) (lftA K W t) (lftA K W tk) σ H Q := by
  obtain ⟨σD, G, QD, E, hR, hS, ht, hq, he⟩ := h
  refine ⟨σD, G, _, E, hR, hS, ht, fun vs H1 ds G1 s1 r1 p1 q1 => ?_, he⟩
  refine ⟨σD, G1, _, E, r1, hS.mono s1, q1, fun zs H2 es G2 s2 r2 p2 ⟨l1, l2, q2⟩ => ?_, he.mono s1⟩
  exact ⟨by rw [← p1.length]; exact l1, by rw [← p2.length]; exact l2, pick perm (ds ++ es), G2, QD, E, r2, Rps.pick ((p1.mono s2).append p2), q2, hq.mono (s1.trans s2), he.mono (s1.trans s2)⟩
theorem de_callK0 {m : Nat} (F : FnG X.prog X.w X.K X.mg X.base k f fd ps sp) (hgd : X.A.guards = some []) (hr : Room k X.A) (hg : Gl X x) (hm : X.mg x = some (.ref f)) (hk : PySem.W.keepIn X.K (.ref f) = true) (hb : KBd X.K fd ps 0 ks perm) (tkw : Takes X W) (hkw : DK X W kws tk)
    (hlen : ks.length = m := by rfl) (hall : (backToKw pos (keywordEach kws X.env)).all (·.1.isSome) = true := by rfl) (hks : (backToKw pos (keywordEach kws X.env)).filterMap (·.1) = ks := by rfl) (hdb : (x == ("__debug__" : Str)) = false := by decide)
    (hpl : ((backTo pos (starEach [] X.env)).any (·.1) || (backToKw pos (keywordEach kws X.env)).any (·.1.isNone)) = false := by rfl) :
    DE X W (.Call (.Name x p) [] kws pos) (dCallK 0 m perm sp dNil tk) := by
  subst hlen
  refine PE.imp (t := tCK 0 ks.length perm (lsp X.K sp) (WE W) tNil (lftA X.K W tk)) ⟨fun pins s σ H Q I h => ?_⟩ fun σ H Q h => ?_
  · refine wpAny_Call_Name_kw (ld_glob I hg hm ?_ hdb)
    refine PySem.W.callWith_KW0 (h₀ := X.base) I.ok.mod.kin hk hall ?_ hpl
    have hkw' : PK X kws (lftA X.K W tk) := hkw
    refine thn (hkw'.run pos pins s σ H _ I h) fun ws s2 ⟨zs, H2, I2, rz, l1, l2, q2⟩ => ⟨I2.kIn, ?_⟩
    rw [hks]
    exact run_callK (us := []) (vs := zs) F hgd hr hb tkw I2 rz rfl (by rw [← rz.length]; exact l2) (by simpa using q2)
  · obtain ⟨σD, G, QD, E, hR, hS, ht, hq, he⟩ := h
    refine ⟨σD, G, _, E, hR, hS, ht, fun zs H2 es G2 s2 r2 p2 ⟨l1, l2, q2⟩ => ?_, he⟩
    exact ⟨rfl, by rw [← p2.length]; exact l2, pick perm ([] ++ es), G2, QD, E, r2, Rps.pick (Rps.append .nil p2), q2, hq.mono s2, he.mono s2⟩
theorem de_callK {m : Nat} (F : FnG X.prog X.w X.K X.mg X.base k f fd ps sp) (hgd : X.A.guards = some []) (hr : Room k X.A) (hg : Gl X x) (hm : X.mg x = some (.ref f)) (hk : PySem.W.keepIn X.K (.ref f) = true) (hb : KBd X.K fd ps n ks perm) (tkw : Takes X W) (ha : DA X W (e :: es) t) (hkw : DK X W kws tk)
    (hlen : ks.length = m := by rfl) (hall : (backToKw pos (keywordEach kws X.env)).all (·.1.isSome) = true := by rfl) (hks : (backToKw pos (keywordEach kws X.env)).filterMap (·.1) = ks := by rfl) (hdb : (x == ("__debug__" : Str)) = false := by decide)
    (he : starEach (e :: es) X.env = (false, eval e X.env) :: starEach es X.env := by rfl)
    (hpl : ((backTo pos (starEach (e :: es) X.env)).any (·.1) || (backToKw pos (keywordEach kws X.env)).any (·.1.isNone)) = false := by rfl) :
    DE X W (.Call (.Name x p) (e :: es) kws pos) (dCallK n m perm sp t tk) := by
  subst hlen
  refine PE.imp (t := tCK n ks.length perm (lsp X.K sp) (WE W) (lftA X.K W t) (lftA X.K W tk)) ⟨fun pins s σ H Q I h => ?_⟩ fun _ _ _ => lft_callK
  refine wpAny_Call_Name_kw (ld_glob I hg hm ?_ hdb)
  have ha' : PA X (e :: es) (lftA X.K W t) := ha
  have hkw' : PK X kws (lftA X.K W tk) := hkw
  refine PySem.W.callWith_KW (h₀ := X.base) I.ok.mod.kin hk hall (thn (ha'.run pos pins s σ H _ I h) fun us s1 ⟨vs, H1, I1, r, q⟩ => ?_) hpl he
  refine thn (hkw'.run pos pins s1 σ H1 _ I1 q) fun ws s2 ⟨zs, H2, I2, rz, l1, l2, q2⟩ => ⟨I2.kIn, ?_⟩
  rw [hks]
  exact run_callK (us := us) F hgd hr hb tkw I2 (r.append rz) (by rw [← r.length]; exact l1) (by rw [← rz.length]; exact l2) q2
end

/-! ### sums of rules, by name -/
def aAny : D → D → HH → QD → Prop := fun x y G Q => oI (fun _ _ => True) (fun i j => .int (i + j)) x y G Q ∨ aStr x y G Q ∨ aLst x y G Q ∨ aTup x y G Q
theorem oAddTup : OpD X (binaryOp .Add) aTup := ⟨_, op_catA, fun x y H Q dx dy G QD hR px py ⟨xs, ys, e1, e2, l, q⟩ hq => by
  subst e1; subst e2
  cases px with
  | @tup a vs _ f r =>
    cases py with
    | @tup b us _ g r' =>
      refine ⟨a, b, vs, us, rfl, rfl, f.sq, g.sq, by rw [← r.length, ← r'.length]; exact l, fun e => ?_, fun _ e => ?_, fun _ _ p hp => hq.tup hR hp (r.append r') q⟩
      · subst e
        cases r
        exact hq.now hR (.tup g r') q
      · subst e
        cases r'
        rw [List.append_nil] at q
        exact hq.now hR (.tup f r) q⟩
theorem oAdd : OpD X (binaryOp .Add) aAny := oAddI.or (oAddStr.or (oAddLst.or oAddTup))
def mAny : D → D → HH → QD → Prop := fun x y G Q => oI CMulX (fun i j => .int (i * j)) x y G Q ∨ mRep x y G Q
theorem oMul : OpD X (binaryOp .Mult) mAny := oMulI.or oMulL
abbrev aSub := oI (fun _ _ => True) fun i j => .int (i - j)
abbrev aDiv := oI CDivW fun i j => .int (i / j)
abbrev aMod := oI (fun _ j => 0 < j) fun i j => .int (i % j)
abbrev aPow := oI CPow fun i j => .int (i ^ j.toNat)
abbrev aShl := oI CShl fun i j => .int (i * 2 ^ j.toNat)
abbrev aAnd := oI (fun _ _ => True) fun i j => .int (Builtin.bitAnd i j)
abbrev cLtI := oI (fun _ _ => True) fun i j => .bl (decide (i < j))
abbrev cLeI := oI (fun _ _ => True) fun i j => .bl (decide (i ≤ j))
abbrev cGtI := oI (fun _ _ => True) fun i j => .bl (decide (j < i))
abbrev cGeI := oI (fun _ _ => True) fun i j => .bl (decide (j ≤ i))
abbrev uNeg := uI fun i => .int (-i)
end DL

namespace DL
open PySem PySem.Spec PyProof.Rows L2
open PySem.W (Frag)
variable {X : Cx} {W : WX} {a b c o : Expr} {es : List Expr}

/-! ### name = [..] on one line -/
theorem lc_lift {K : Frag} {W : WX} {σ : L2.St} {H : Hp} {Q : VK} {wi : TID} {tt : TTD} {te : TED} {fr : Bool} {g : Tgt} {vs : List Nat} (hsl : ∀ i ∈ g.slots, i ∈ vs) (h : lft K W (dLc fr wi g tt te vs) σ H Q) : tLc (lftI K W wi) (g.v K) (lftT K W0 tt) (lft K W0 te) vs σ H Q := by
  obtain ⟨σD, G, QD, E, hR, hS, q, hq, hE⟩ := h
  refine ⟨σD, G, _, E, hR, hS, q, fun J H1 items okk G1 s1 r1 itr z => ?_, hE⟩
  intro p hp
  obtain ⟨Iv, i0, iok, istep, iend⟩ := z p (r1.free hp)
  have sN := Stp.newM (G := G1) (o := .lst []) (od := .lst []) hp
  have rN := r1.newM (o := .lst []) (od := .lst []) hp ⟨[], upd_same, .nil⟩
  refine ⟨fun i m H' => m = items.length - i ∧ i ≤ items.length ∧ ∃ G', Stp H1 G1 H' G' ∧ RelH K H' G' ∧ Iv (items.take i) G', ⟨items.length, by simp, Nat.zero_le _, gput G1 p (.lst []), sN, rN, by simpa using i0⟩, ?_⟩
  rintro i m H' ⟨rfl, hi, G', s', r', iv⟩
  obtain ⟨j1, j2⟩ := itr i H' G' s' r' (iok _ _ iv)
  by_cases hlt : i < items.length
  · obtain ⟨d, hd⟩ : ∃ d, items[i]? = some d := ⟨items[i], List.getElem?_eq_getElem hlt⟩
    obtain ⟨jgo, jy⟩ := j1 d hd
    refine .inr ⟨jgo, fun H'' => ∃ G'', Stp H1 G1 H'' G'' ∧ RelH K H'' G'' ∧ Iv (items.take (i + 1)) G'', fun H'' z => ⟨items.length - (i + 1), by omega, rfl, hlt, z⟩, fun x H3 y => ?_⟩
    obtain ⟨s3, r3, px⟩ := jy x H3 y
    obtain ⟨σ2, hput, stp⟩ := istep _ d _ G' (split_at hd) iv
    have s13 := s'.trans s3
    have hw := ((hS.mono s1).mono s13).wipe vs
    refine Tgt.ok g hsl px hw hput fun σ' h' a' => ⟨?_, ?_⟩
    · exact wipe_eq (by rw [← a'.1, wipe_length]) fun i hi => by rw [← a'.2 i hi, wipe_out hi]
    refine ⟨σ2, G', _, _, r3, h', stp, fun b H4 G4 s4 r4 z4 => ?_, exs0⟩
    cases b with
    | false =>
      dsimp only at z4 ⊢
      rw [if_neg Bool.false_ne_true] at z4 ⊢
      exact ⟨G4, s13.trans s4, r4, by rw [take_snoc hd]; exact z4⟩
    | true =>
      dsimp only at z4 ⊢
      rw [if_pos rfl] at z4 ⊢
      refine ⟨σ2, G4, _, _, r4, h'.mono s4, z4, fun w H5 dw G5 s5 r5 p5 ⟨acc, e5, l5, z5⟩ => ?_, exs0⟩
      obtain ⟨us, h, rr⟩ := r5 _ _ e5
      have s6 := Stp.put (H := H5) (o := .lst (us ++ [w])) (od := .lst (acc ++ [dw])) e5
      refine ⟨us, h, by rw [← rr.length]; exact l5, gput G5 p (.lst (acc ++ [dw])), ((s13.trans s4).trans s5).trans s6, r5.put e5 ⟨_, upd_same, (rr.mono s6).append (.cons (p5.mono s6) .nil)⟩, ?_⟩
      rw [take_snoc hd]; exact z5
  · have e : i = items.length := by omega
    subst e
    rw [List.take_length] at iv
    refine .inl ⟨j2 (Nat.le_refl _), ?_⟩
    obtain ⟨acc, ea, z⟩ := iend _ iv
    have s1' := s1.trans s'
    cases fr with
    | true =>
      rw [if_pos rfl] at z
      exact hq _ _ _ _ (s1'.trans Stp.del) r'.del (thaw_lst r' ea) z
    | false =>
      rw [if_neg Bool.false_ne_true] at z
      exact hq _ _ _ _ s1' r' (.ref p) z
theorem ds_setLc {i : Nat} {y : Str} {py : Pos} {elt tg iter : Expr} {ifs : List Expr} {scope : Scope} {own : List (Str × Nat)} {pos spos : Pos} {wi : TID} {tt : TTD} {te : TED} (hc : X.calm = true) (hN : X.N.Nodup) (hy : X.N[i]? = some y) (hyl : X.env.scope.names.lookup y = some .local)
    (hsw : swapsWith (.ListComp elt [⟨tg, iter, ifs, 0⟩] scope pos) (some (.Name y py)) spos.line X.env = pure true) (fr : Bool) (g : Tgt) (hi : DI X W tg iter wi) (ok : BlkOk X.N X.env.scope scope own)
    (hsl : ∀ i ∈ g.slots, i ∈ own.map (·.2))
    (hg : ∀ (s : Shared) (H : Hp) (C : Addr) (cl : List (Str × Addr)) (fp : List Addr), PG (X.blk s H scope (compEnvC scope cl C X.env) fp) tg (g.v X.K)) (ht : ∀ (s : Shared) (H : Hp) (C : Addr) (cl : List (Str × Addr)) (fp : List Addr), DTs (X.blk s H scope (compEnvC scope cl C X.env) fp) W0 ifs tt)
    (he : ∀ (s : Shared) (H : Hp) (C : Addr) (cl : List (Str × Addr)) (fp : List Addr), DE (X.blk s H scope (compEnvC scope cl C X.env) fp) W0 elt te) (hs : ∀ x, foldedSetIterable iter X.env x = pure x := by intro _; rfl) :
    DS X W (.Assign [.Name y py] (.ListComp elt [⟨tg, iter, ifs, 0⟩] scope pos) spos) (dAsg (dLc fr wi g tt te (own.map (·.2))) (gdName i)) :=
  PS.imp (ps_setLc (g := g.v X.K) (tt := lftT X.K W0 tt) (te := lft X.K W0 te) hc hN hy hyl hsw hi ok hg ht he hs) fun D σ H ⟨σD, G, DD, hR, hS, q, hE⟩ =>
    lc_lift (Q := fun x H1 => gName i x σ H1 D.nx) hsl ⟨σD, G, _, _, hR, hS, q, fun v H1 d G1 s r p z => hE.nx _ _ _ _ s r ((hS.mono s).set i p) z, hE.ex.at hS⟩

/-! ### steps -/
inductive GetAt : SD → Nat → D → Prop
  | z {d : D} {r : SD} : GetAt (some d :: r) 0 d
  | s {a : Option D} {r : SD} {i : Nat} {d : D} : GetAt r i d → GetAt (a :: r) (i + 1) d
theorem GetAt.at {σ i d} (h : GetAt σ i d) : σ[i]? = some (some d) := by
  induction h with
  | z => rfl
  | s _ ih => simpa using ih
inductive SetAt : SD → Nat → D → SD → Prop
  | z {a : Option D} {d : D} {r : SD} : SetAt (a :: r) 0 d (some d :: r)
  | s {a : Option D} {r r' : SD} {i : Nat} {d : D} : SetAt r i d r' → SetAt (a :: r) (i + 1) d (a :: r')
theorem SetAt.at {σ i d σ'} (h : SetAt σ i d σ') : σ.set i (some d) = σ' := by
  induction h with
  | z => rfl
  | s _ ih => simp [ih]
section
variable {σ σ' : SD} {G : HH} {Q : QD} {E : ED} {i j : Nat} {d d' : D} {ta tb : TED} {t u : TAD} {tA tB : TTD} {tS uS : TSD} {nx bk ct : SD → HH → Prop} {rt : QD} {ex : XD → SD → HH → Prop} {QT : Bool → HH → Prop} {QA : List D → HH → Prop} {N : SD → HH → Prop}
theorem st_var (h : GetAt σ i d) (q : Q d G) : dVar i σ G Q E := ⟨d, h.at, q⟩
theorem st_c (q : Q d G) : dC d σ G Q E := q
theorem st_op {rD} (h : ta σ G (fun x G1 => tb σ G1 (fun y G2 => rD x y G2 Q) E) E) : dOp rD ta tb σ G Q E := h
theorem st_un {rD} (h : ta σ G (fun x G1 => rD x G1 Q) E) : dUn rD ta σ G Q E := h
theorem st_nil (q : QA [] G) : dNil σ G QA E := q
theorem st_cons (h : ta σ G (fun d G1 => t σ G1 (fun ds G2 => QA (d :: ds) G2) E) E) : dCons ta t σ G QA E := h
theorem st_tup (h : t σ G (fun ds G1 => ds.length ≤ sizeLine ∧ Q (.tup ds) G1) E) : dTup t σ G Q E := h
theorem st_lst (h : t σ G (fun ds G1 => ds.length ≤ sizeLine ∧ Q (.lst ds) G1) E) : dLst t σ G Q E := h
theorem st_lstM (h : t σ G (fun ds G1 => ds.length ≤ sizeLine ∧ ∀ p, G1 p = none → Q (.ref p) (gput G1 p (.lst ds))) E) : dLstM t σ G Q E := h
theorem st_cb {rD : RCD} (h : t σ G (fun ds G1 => rD ds G1 Q) E) : dCB rD t σ G Q E := h
theorem st_call {sp : SpD} (h : t σ G (fun ds G1 => sp ds G1 Q E) E) : dCall sp t σ G Q E := h
theorem st_callK {n m perm} {sp : SpD} (h : t σ G (fun ds G1 => u σ G1 (fun zs G2 => ds.length = n ∧ zs.length = m ∧ sp (pick perm (ds ++ zs)) G2 Q E) E) E) : dCallK n m perm sp t u σ G Q E := h
theorem st_test (h : ta σ G (fun x G1 => ∃ k, x = .bl k ∧ QT k G1) E) : dTest ta σ G QT E := h
theorem st_bl {k} (q : QT k G) : ∃ k', D.bl k = .bl k' ∧ QT k' G := ⟨k, rfl, q⟩
theorem st_and (h : tA σ G (fun c G1 => if c = true then tB σ G1 QT E else QT false G1) E) : dAnd tA tB σ G QT E := h
theorem st_or (h : tA σ G (fun c G1 => if c = true then QT true G1 else tB σ G1 QT E) E) : dOr tA tB σ G QT E := h
theorem st_not (h : tA σ G (fun c G1 => QT (!c) G1) E) : dNot tA σ G QT E := h
theorem st_tru (h : ta σ G (fun x G1 => ∃ k, Tru G1 x k ∧ QT k G1) E) : dTru ta σ G QT E := h
theorem st_tru_bl {k} (q : QT k G) : ∃ k', Tru G (.bl k) k' ∧ QT k' G := ⟨k, .bl k, q⟩
theorem st_andV (h : ta σ G (fun x G1 => ∃ c, x = .bl c ∧ if c = true then tb σ G1 Q E else Q (.bl false) G1) E) : dAndV ta tb σ G Q E := h
theorem st_orV (h : ta σ G (fun x G1 => ∃ c, x = .bl c ∧ if c = true then Q (.bl true) G1 else tb σ G1 Q E) E) : dOrV ta tb σ G Q E := h
theorem st_notV (h : ta σ G (fun x G1 => ∃ c, x = .bl c ∧ Q (.bl (!c)) G1) E) : dNotV ta σ G Q E := h
theorem st_blq {k : Bool} {P : Bool → Prop} (q : P k) : ∃ c, D.bl k = .bl c ∧ P c := ⟨k, rfl, q⟩
theorem st_if (h : tA σ G (fun c G1 => if c = true then ta σ G1 Q E else tb σ G1 Q E) E) : dIf tA ta tb σ G Q E := h
theorem st_sl {tl th} (h : ta σ G (fun x G1 => tl σ G1 (fun lo G2 => th σ G2 (fun hi G3 => slD x lo hi G3 Q) E) E) E) : dSl ta tl th σ G Q E := h
theorem st_nopart {QO : Option Int → HH → Prop} (q : QO none G) : dNoPart σ G QO E := q
theorem st_part {QO : Option Int → HH → Prop} (h : ta σ G (fun x G1 => ∃ i, x = .int i ∧ QO (some i) G1) E) : dPart ta σ G QO E := h
theorem st_int {i : Int} {P : Int → Prop} (q : P i) : ∃ j, D.int i = .int j ∧ P j := ⟨i, rfl, q⟩
theorem st_isN {neg} (h : ta σ G (fun x G1 => ∃ k, (k = true → x = .non) ∧ (x = .non → k = true) ∧ Q (.bl (if neg then !k else k)) G1) E) : isN neg ta σ G Q E := h
-- statements
theorem st_seq (h : tS ⟨uS ⟨nx, rt, bk, ct, ex⟩, rt, bk, ct, ex⟩ σ G) : dSeq tS uS ⟨nx, rt, bk, ct, ex⟩ σ G := h
theorem st_next (h : nx σ G) : dNext ⟨nx, rt, bk, ct, ex⟩ σ G := h
theorem st_break (h : bk σ G) : dBreak ⟨nx, rt, bk, ct, ex⟩ σ G := h
theorem st_cont (h : ct σ G) : dCont ⟨nx, rt, bk, ct, ex⟩ σ G := h
theorem st_drop (h : ta σ G (fun _ G1 => nx σ G1) (fun x G1 => ex x σ G1)) : dDrop ta ⟨nx, rt, bk, ct, ex⟩ σ G := h
theorem st_ret (h : ta σ G rt (fun x G1 => ex x σ G1)) : dRet ta ⟨nx, rt, bk, ct, ex⟩ σ G := h
theorem st_retN (h : rt .non G) : dRetN ⟨nx, rt, bk, ct, ex⟩ σ G := h
theorem st_retF (h : ta σ G (fun d G1 => ∃ p xs, d = .ref p ∧ G1 p = some (.lst xs) ∧ rt (.lst xs) (gdel G1 p)) (fun x G1 => ex x σ G1)) : dRetF ta ⟨nx, rt, bk, ct, ex⟩ σ G := h
theorem st_ifS (h : tA σ G (fun b G1 => if b = true then tS ⟨nx, rt, bk, ct, ex⟩ σ G1 else uS ⟨nx, rt, bk, ct, ex⟩ σ G1) (fun x G1 => ex x σ G1)) : dIfS tA tS uS ⟨nx, rt, bk, ct, ex⟩ σ G := h
theorem st_asg {g : TGD} (h : ta σ G (fun x G1 => g x σ G1 nx) (fun x G1 => ex x σ G1)) : dAsg ta g ⟨nx, rt, bk, ct, ex⟩ σ G := h
theorem st_name (hs : SetAt σ i d σ') (h : N σ' G) : gdName i d σ G N := by unfold gdName; rw [hs.at]; exact h
theorem st_gtup {n ds} {tG : TGsD} (hl : ds.length = n) (h : tG ds σ G N) : gdTup n tG (.tup ds) σ G N := ⟨ds, rfl, hl, h⟩
theorem st_gnil (h : N σ G) : gdNil [] σ G N := ⟨rfl, h⟩
theorem st_gcons {tG : TGD} {uG : TGsD} {ds} (h : tG d σ G (fun σ' G' => uG ds σ' G' N)) : gdCons tG uG (d :: ds) σ G N := ⟨d, ds, rfl, h⟩
theorem st_gsub (h : ta σ G (fun x G1 => tb σ G1 (fun y G2 => ∃ p xs k j, x = .ref p ∧ y = .int k ∧ G2 p = some (.lst xs) ∧ ixN xs.length k = some j ∧ N σ (gput G2 p (.lst (xs.set j d)))) (fun _ _ => False)) (fun _ _ => False)) : gdSub ta tb d σ G N := h
theorem st_setat {p : Addr} {xs : List D} {k : Int} {jj : Nat} {P : HH → Prop} (hp : G p = some (.lst xs)) (hj : ixN xs.length k = some jj) (h : P (gput G p (.lst (xs.set jj d)))) : ∃ p' xs' k' j', D.ref p = .ref p' ∧ D.int k = .int k' ∧ G p' = some (.lst xs') ∧ ixN xs'.length k' = some j' ∧ P (gput G p' (.lst (xs'.set j' d))) := ⟨p, xs, k, jj, rfl, rfl, hp, hj, h⟩
theorem st_par (h : t σ G (fun ds G1 => ∃ d e, ds = [d, e] ∧ nx ((σ.set i (some d)).set j (some e)) G1) (fun x G1 => ex x σ G1)) : dPar i j t ⟨nx, rt, bk, ct, ex⟩ σ G := h
theorem st_par2 {e : D} {σ2 : SD} (h1 : SetAt σ i d σ') (h2 : SetAt σ' j e σ2) (h : N σ2 G) : ∃ d' e', [d, e] = [d', e'] ∧ N ((σ.set i (some d')).set j (some e')) G := ⟨d, e, rfl, by rw [h1.at, h2.at]; exact h⟩
theorem st_frz {p : Addr} {xs : List D} (hv : GetAt σ i (.ref p)) (hp : G p = some (.lst xs)) (hs : SetAt σ i (.lst xs) σ') (h : tS ⟨nx, rt, bk, ct, ex⟩ σ' (gdel G p)) : dFrz i tS ⟨nx, rt, bk, ct, ex⟩ σ G := ⟨p, xs, hv.at, hp, by rw [hs.at]; exact h⟩
-- what is walked
theorem st_iTup {R : List D → (HH → Prop) → HH → Prop} (h : ta σ G (fun x G1 => ∃ xs, x = .tup xs ∧ R xs okT G1) E) : iTupD ta σ G R E := h
theorem st_tupq {xs : List D} {P : List D → Prop} (q : P xs) : ∃ ys, D.tup xs = .tup ys ∧ P ys := ⟨xs, rfl, q⟩
theorem st_iLst {R : List D → (HH → Prop) → HH → Prop} (h : ta σ G (fun x G1 => ∃ xs, LsW G1 x xs ∧ R xs (okL x xs) G1) E) : iLstD ta σ G R E := h
theorem st_lsq {xs : List D} {P : List D → Prop} (q : P xs) : ∃ ys, LsW G (.lst xs) ys ∧ P ys := ⟨xs, .lst xs, q⟩
theorem st_wlsq {xs : List D} {P : List D → Prop} (q : P xs) : ∃ ys, LsW G (.wls xs) ys ∧ P ys := ⟨xs, .wls xs, q⟩
theorem st_rng1 {R : List D → (HH → Prop) → HH → Prop} (h : t σ G (fun ds G1 => ∃ j : Int, ds = [.int j] ∧ -(2 ^ 62) ≤ j ∧ j < 2 ^ 62 ∧ R (rgItems 0 j.toNat) okT G1) E) : iRngD1 t σ G R E := h
theorem st_rng1q {j : Int} {P : Int → Prop} (h1 : -(2 ^ 62) ≤ j) (h2 : j < 2 ^ 62) (h : P j) : ∃ j' : Int, [D.int j] = [.int j'] ∧ -(2 ^ 62) ≤ j' ∧ j' < 2 ^ 62 ∧ P j' := ⟨j, rfl, h1, h2, h⟩
theorem st_rng2 {R : List D → (HH → Prop) → HH → Prop} (h : t σ G (fun ds G1 => ∃ i j : Int, ds = [.int i, .int j] ∧ (-(2 ^ 62) ≤ i ∧ i < 2 ^ 62 ∧ -(2 ^ 62) ≤ j ∧ j < 2 ^ 62) ∧ R (rgItems i (j - i).toNat) okT G1) E) : iRngD2 t σ G R E := h
theorem st_rng2q {i j : Int} {P : Int → Int → Prop} (hh : -(2 ^ 62) ≤ i ∧ i < 2 ^ 62 ∧ -(2 ^ 62) ≤ j ∧ j < 2 ^ 62) (h : P i j) : ∃ i' j' : Int, [D.int i, D.int j] = [.int i', .int j'] ∧ (-(2 ^ 62) ≤ i' ∧ i' < 2 ^ 62 ∧ -(2 ^ 62) ≤ j' ∧ j' < 2 ^ 62) ∧ P i' j' := ⟨i, j, rfl, hh, h⟩
-- values
theorem st_oI {C : Int → Int → Prop} {g : Int → Int → D} {x y : Int} (hc : C x y) (h : Q (g x y) G) : oI C g (.int x) (.int y) G Q := ⟨x, y, rfl, rfl, hc, h⟩
theorem st_oI0 {g : Int → Int → D} {x y : Int} (h : Q (g x y) G) : oI (fun _ _ => True) g (.int x) (.int y) G Q := ⟨x, y, rfl, rfl, trivial, h⟩
theorem st_uI {g : Int → D} {x : Int} (h : Q (g x) G) : uI g (.int x) G Q := ⟨x, rfl, h⟩
theorem st_addI {x y : Int} (h : Q (.int (x + y)) G) : aAny (.int x) (.int y) G Q := .inl ⟨x, y, rfl, rfl, trivial, h⟩
theorem st_addS {x y : Str} (hl : x.length + y.length ≤ sizeLine) (h : Q (.str (x ++ y)) G) : aAny (.str x) (.str y) G Q := .inr (.inl ⟨x, y, rfl, rfl, hl, h⟩)
theorem st_addL {x y : D} {xs ys : List D} (h1 : Ls G x xs) (h2 : Ls G y ys) (hl : xs.length + ys.length ≤ sizeLine) (h : Q (.lst (xs ++ ys)) G) : aAny x y G Q := .inr (.inr (.inl ⟨xs, ys, h1, h2, hl, h⟩))
theorem st_addT {xs ys : List D} (hl : xs.length + ys.length ≤ sizeLine) (h : Q (.tup (xs ++ ys)) G) : aAny (.tup xs) (.tup ys) G Q := .inr (.inr (.inr ⟨xs, ys, rfl, rfl, hl, h⟩))
theorem st_mulI {x y : Int} (hc : CMulX x y) (h : Q (.int (x * y)) G) : mAny (.int x) (.int y) G Q := .inl ⟨x, y, rfl, rfl, hc, h⟩
theorem st_mulL {x : D} {xs : List D} {k : Int} (h1 : Ls G x xs) (hk : -(2 ^ 63) ≤ k ∧ k < 2 ^ 63) (hl : xs.length * k.toNat ≤ sizeLine) (h : Q (.lst (List.replicate k.toNat xs).flatten) G) : mAny x (.int k) G Q := .inr ⟨xs, k, h1, rfl, hk.1, hk.2, hl, h⟩
theorem st_eqI {x y : Int} (h : Q (.bl (decide (x = y))) G) : eAny false (.int x) (.int y) G Q := .inl ⟨_, _, rfl, rfl, rfl, by
  have e : decide (V.int x = V.int y) = decide (x = y) := by simp
  show Q (.bl (if false = true then _ else _)) G
  rw [if_neg Bool.false_ne_true, e]; exact h⟩
theorem st_neI {x y : Int} (h : Q (.bl (!decide (x = y))) G) : eAny true (.int x) (.int y) G Q := .inl ⟨_, _, rfl, rfl, rfl, by
  have e : decide (V.int x = V.int y) = decide (x = y) := by simp
  show Q (.bl (if true = true then _ else _)) G
  rw [if_pos rfl, e]; exact h⟩
theorem st_eqS {x y : Str} (h : Q (.bl (decide (x = y))) G) : eAny false (.str x) (.str y) G Q := .inl ⟨_, _, rfl, rfl, rfl, by
  have e : decide (V.str x = V.str y) = decide (x = y) := by simp
  show Q (.bl (if false = true then _ else _)) G
  rw [if_neg Bool.false_ne_true, e]; exact h⟩
theorem st_neS {x y : Str} (h : Q (.bl (!decide (x = y))) G) : eAny true (.str x) (.str y) G Q := .inl ⟨_, _, rfl, rfl, rfl, by
  have e : decide (V.str x = V.str y) = decide (x = y) := by simp
  show Q (.bl (if true = true then _ else _)) G
  rw [if_pos rfl, e]; exact h⟩
theorem st_eqP {x y : D} {p q : PyData} (h1 : Py G x p) (h2 : Py G y q) (s1 : SeqAt.shaped p = true) (s2 : SeqAt.shaped q = true) (h : Q (.bl (PyData.eqv p q)) G) : eAny false x y G Q := .inr ⟨p, q, h1, h2, s1, s2, h⟩
theorem st_neP {x y : D} {p q : PyData} (h1 : Py G x p) (h2 : Py G y q) (s1 : SeqAt.shaped p = true) (s2 : SeqAt.shaped q = true) (h : Q (.bl (!PyData.eqv p q)) G) : eAny true x y G Q := .inr ⟨p, q, h1, h2, s1, s2, h⟩
theorem st_ix {x : D} {xs : List D} {k : Int} (hs : Sq G x xs) (hk : atI xs k = some d) (h : Q d G) : xAny x (.int k) G Q := .inl ⟨xs, k, d, hs, rfl, hk, h⟩
theorem st_slL {x : D} {xs : List D} {lo hi : Option Int} (hs : LsW G x xs) (h : Q (.lst (dcut xs lo hi)) G) : slD x lo hi G Q := .inl ⟨xs, hs, h⟩
theorem st_slT {xs : List D} {lo hi : Option Int} (h : Q (.tup (dcut xs lo hi)) G) : slD (.tup xs) lo hi G Q := .inr (.inl ⟨xs, rfl, h⟩)
theorem st_slS {x : Str} {lo hi : Option Int} (hl : x.length ≤ sizeLine) (h : Q (.str (cutS x lo hi)) G) : slD (.str x) lo hi G Q := .inr (.inr ⟨x, rfl, hl, h⟩)
-- built-in functions
theorem st_len {x : D} {xs : List D} (hs : Sq G x xs) (h : Q (.int xs.length) G) : kLen [x] G Q := .inl ⟨x, rfl, xs, hs, h⟩
theorem st_lenT {z : Str} (hl : z.length ≤ sizeLine) (h : Q (.int z.length) G) : kLen [.str z] G Q := .inr ⟨_, rfl, z, rfl, hl, h⟩
theorem st_abs {x : Int} (h : Q (.int (x.natAbs : Int)) G) : kAbs [.int x] G Q := ⟨_, rfl, x, rfl, h⟩
theorem st_max2 {x y : Int} (h : Q (.int (max x y)) G) : kMax2 [.int x, .int y] G Q := ⟨_, _, rfl, x, y, rfl, rfl, h⟩
theorem st_min2 {x y : Int} (h : Q (.int (min x y)) G) : kMin2 [.int x, .int y] G Q := ⟨_, _, rfl, x, y, rfl, rfl, h⟩
theorem st_toInt {x : Int} (h : Q (.int x) G) : kInt [.int x] G Q := ⟨_, rfl, .inl ⟨x, rfl, h⟩⟩
theorem st_toIntB {k : Bool} (h : Q (.int (if k then 1 else 0)) G) : kInt [.bl k] G Q := ⟨_, rfl, .inr ⟨k, rfl, h⟩⟩
theorem st_bool {k : Bool} (h : Q (.bl k) G) : kBool [.bl k] G Q := ⟨_, rfl, .inr ⟨k, rfl, h⟩⟩
theorem st_strI {x : Int} (hl : x.natAbs.log2 < 1920) (h : Q (.str (toString x)) G) : kStr [.int x] G Q := ⟨_, rfl, x, rfl, hl, h⟩
theorem st_tuple {x : D} {xs : List D} (hs : Sq G x xs) (h : Q (.tup xs) G) : kTuple [x] G Q := ⟨x, rfl, xs, hs, h⟩
theorem st_list {x : D} {xs : List D} (hs : Sq G x xs) (h : Q (.lst xs) G) : kList [x] G Q := ⟨x, rfl, xs, hs, h⟩
theorem st_listM {x : D} {xs : List D} (hs : Sq G x xs) (h : ∀ p, G p = none → Q (.ref p) (gput G p (.lst xs))) : kListM [x] G Q := ⟨x, rfl, xs, hs, h⟩
theorem st_repr {x : D} {p : PyData} (hp : Py G x p) (hs : Shw p) (h : Q (.str p.shown) G) : kRepr [x] G Q := ⟨x, rfl, p, hp, hs, h⟩
theorem st_sum {x : D} {ns : List Int} (hs : LsW G x (ns.map D.int)) (h : Q (.int ns.sum) G) : kSum [x] G Q := ⟨x, rfl, ns, hs, h⟩
theorem st_any {x : D} {ns : List Bool} (hs : LsW G x (ns.map D.bl)) (h : Q (.bl (ns.any id)) G) : kAny [x] G Q := ⟨x, rfl, ns, hs, h⟩
theorem st_all {x : D} {ns : List Bool} (hs : LsW G x (ns.map D.bl)) (h : Q (.bl (ns.all id)) G) : kAll [x] G Q := ⟨x, rfl, ns, hs, h⟩
-- methods
theorem st_bm {ty rD} (h : ta σ G (fun x G1 => ty x G1 ∧ t σ G1 (fun ds G2 => rD x ds G2 Q) E) E) : dBM ty rD ta t σ G Q E := h
theorem st_bm0 {ty rD} (h : ta σ G (fun x G1 => ty x G1 ∧ rD x [] G1 Q) E) : dBM0 ty rD ta σ G Q E := h
theorem st_append {p : Addr} {xs : List D} (hp : G p = some (.lst xs)) (hl : xs.length < sizeLine) (h : Q .non (gput G p (.lst (xs ++ [d])))) : mAppend (.ref p) [d] G Q := ⟨p, xs, d, rfl, rfl, hp, hl, h⟩
theorem st_pop {p : Addr} {xs : List D} (hp : G p = some (.lst (xs ++ [d]))) (h : Q d (gput G p (.lst xs))) : mPop (.ref p) [] G Q := ⟨p, xs, d, rfl, rfl, hp, h⟩
theorem st_extend {p : Addr} {xs ys : List D} {y : D} (hp : G p = some (.lst xs)) (hy : Ls G y ys) (hl : xs.length + ys.length ≤ sizeLine) (h : Q .non (gput G p (.lst (xs ++ ys)))) : mExtend (.ref p) [y] G Q := ⟨p, xs, y, ys, rfl, rfl, hp, hy, hl, h⟩
-- ifs
theorem st_iteT {A B : Prop} (h : A) : if true = true then A else B := h
theorem st_iteF {A B : Prop} (h : B) : if false = true then A else B := by rw [if_neg Bool.false_ne_true]; exact h
theorem st_ite {p A B : Prop} [Decidable p] (h1 : p → A) (h2 : ¬ p → B) : if decide p = true then A else B := by
  by_cases h : p
  · rw [decide_eq_true h]; exact h1 h
  · rw [decide_eq_false h, if_neg Bool.false_ne_true]; exact h2 h
theorem st_iteN {p A B : Prop} [Decidable p] (h1 : ¬ p → A) (h2 : p → B) : if (!decide p) = true then A else B := by
  by_cases h : p
  · rw [decide_eq_true h]; exact h2 h
  · rw [decide_eq_false h]; exact h1 h
theorem st_iteB {b : Bool} {A B : Prop} (h1 : b = true → A) (h2 : b = false → B) : if b = true then A else B := by
  cases b
  · rw [if_neg Bool.false_ne_true]; exact h2 rfl
  · exact h1 rfl
/-- a test that leaves nothing but its value: both parts of and, or are joined -/
theorem st_join {b k : Bool} {F : Bool → HH → Prop} (h : F (b && k) G) : if b = true then F k G else F false G := by
  cases b
  · rw [if_neg Bool.false_ne_true]; exact h
  · exact h
theorem st_joinO {b k : Bool} {F : Bool → HH → Prop} (h : F (b || k) G) : if b = true then F true G else F k G := by
  cases b
  · rw [if_neg Bool.false_ne_true]; exact h
  · exact h
end
end DL

namespace DL
open PySem PySem.Spec PyProof.Rows L2
open PySem.W (Frag)

/-! ### data that may be shown: bounds -/
mutual
/-- ints below 2 ^ b, texts of right signs, no dicts, depth at most n -/
def fine (b : Nat) : Nat → PyData → Prop
  | _, .none => True
  | _, .bool _ => True
  | _, .int i => i.natAbs < 2 ^ b
  | _, .str x => PyData.strOk x = true
  | n + 1, .list xs => fineAll b n xs
  | n + 1, .tuple xs => fineAll b n xs
  | 0, .list _ => False
  | 0, .tuple _ => False
  | _, .dict _ => False
def fineAll (b : Nat) : Nat → List PyData → Prop
  | _, [] => True
  | n, x :: xs => fine b n x ∧ fineAll b n xs
end
theorem int_len {b : Nat} {i : Int} (h0 : 0 < b) (h : i.natAbs < 2 ^ b) : (PyData.shown (.int i)).length ≤ b + 1 := by
  simp only [PyData.shown]
  show (Str.ofString (toString i)).length ≤ b + 1
  rw [PySem.ofString_length]
  cases i with
  | ofNat n =>
    have := nat_repr_length_le (n := n) (k := b) h0 h
    show (Nat.repr n).length ≤ b + 1
    omega
  | negSucc n =>
    have := nat_repr_length_le (n := n + 1) (k := b) h0 h
    have e1 : "-".length = 1 := rfl
    show ("-" ++ Nat.repr (n + 1)).length ≤ b + 1
    rw [String.length_append]
    omega
mutual
theorem fine_look {b : Nat} (h0 : 0 < b) (hb : b ≤ 1900) : ∀ (n : Nat) (d : PyData), fine b n d → d.showable = true ∧ d.canLay0 = true ∧ d.leavesShort (b + 10) = true ∧ d.depth ≤ n
  | n, .none, _ => by simp [PyData.showable, PyData.canLay0, PyData.leavesShort, PyData.depth]
  | n, .bool _, _ => by simp [PyData.showable, PyData.canLay0, PyData.leavesShort, PyData.depth]
  | n, .int i, h => by
    have h : i.natAbs < 2 ^ b := by cases n <;> exact h
    have h1 := int_len h0 h
    have h2 : i.natAbs.log2 < 1920 := by
      by_cases hz : i.natAbs = 0
      · rw [hz]; decide
      · have := (Nat.log2_lt hz).mpr h
        omega
    simp only [PyData.showable, PyData.canLay0, PyData.leavesShort, PyData.depth]
    exact ⟨decide_eq_true h2, trivial, decide_eq_true (by omega), Nat.zero_le _⟩
  | n, .str x, h => by
    have h : PyData.strOk x = true := by cases n <;> exact h
    simp only [PyData.showable, PyData.canLay0, PyData.leavesShort, PyData.depth]
    refine ⟨trivial, h, ?_, Nat.zero_le _⟩
    rw [List.all_eq_true]
    intro c hc
    unfold PyData.strOk at h
    rw [← Array.all_toList, List.all_eq_true] at h
    have := h c hc
    have : c < 0x110000 := by simpa using this
    exact decide_eq_true (Nat.lt_trans this (by decide))
  | 0, .list _, h => by simp [fine] at h
  | 0, .tuple _, h => by simp [fine] at h
  | n + 1, .list xs, h => by
    simp only [fine] at h
    obtain ⟨h1, h2, h3, h4⟩ := fineAll_look h0 hb n xs h
    simp only [PyData.showable, PyData.canLay0, PyData.leavesShort, PyData.depth]
    exact ⟨h1, h2, h3, by omega⟩
  | n + 1, .tuple xs, h => by
    simp only [fine] at h
    obtain ⟨h1, h2, h3, h4⟩ := fineAll_look h0 hb n xs h
    simp only [PyData.showable, PyData.canLay0, PyData.leavesShort, PyData.depth]
    exact ⟨h1, h2, h3, by omega⟩
  | n, .dict _, h => by cases n <;> simp [fine] at h
theorem fineAll_look {b : Nat} (h0 : 0 < b) (hb : b ≤ 1900) : ∀ (n : Nat) (ds : List PyData), fineAll b n ds → PyData.showableAll ds = true ∧ PyData.canLayAll0 ds = true ∧ PyData.leavesShortAll (b + 10) ds = true ∧ PyData.depthAll ds ≤ n
  | n, [], _ => by simp [PyData.showableAll, PyData.canLayAll0, PyData.leavesShortAll, PyData.depthAll]
  | n, d :: ds, h => by
    simp only [fineAll] at h
    obtain ⟨a1, a2, a3, a4⟩ := fine_look h0 hb n d h.1
    obtain ⟨b1, b2, b3, b4⟩ := fineAll_look h0 hb n ds h.2
    simp only [PyData.showableAll, PyData.canLayAll0, PyData.leavesShortAll, PyData.depthAll, a1, a2, a3, b1, b2, b3, Bool.and_self, true_and]
    omega
end
theorem shaped_of {b n : Nat} {d : PyData} (h0 : 0 < b) (hb : b ≤ 1900) (hn : n ≤ 64) (h : fine b n d) : SeqAt.shaped d = true := by
  obtain ⟨_, h2, _, h4⟩ := fine_look h0 hb n d h
  unfold SeqAt.shaped
  rw [h2]
  exact decide_eq_true (by omega)
theorem shw_of {b n : Nat} {d : PyData} (h0 : 0 < b) (hb : b ≤ 1900) (hn : n ≤ 64) (h : fine b n d) (hz : (b + 12) * d.bulk + b + 10 ≤ 16777216) : Shw d := by
  obtain ⟨h1, h2, h3, h4⟩ := fine_look h0 hb n d h
  refine ⟨h1, shaped_of h0 hb hn h, ?_⟩
  have := PyData.shown_le_bulk (b + 10) (by omega) d h3
  have e : sizeLine = 16777216 := sizeLine_eq
  rw [e]
  have e2 : (b + 10 + 2) * d.bulk = (b + 12) * d.bulk := by rw [show b + 10 + 2 = b + 12 by omega]
  omega

/-! ### lists of scalars as data -/
theorem pys_ints : ∀ ns : List Int, pys (ns.map D.int) = some (ns.map PyData.int)
  | [] => rfl
  | n :: ns => by simp [pys, D.py, pys_ints ns]
theorem pys_strs : ∀ ns : List Str, pys (ns.map D.str) = some (ns.map PyData.str)
  | [] => rfl
  | n :: ns => by simp [pys, D.py, pys_strs ns]
theorem py_lstI (ns : List Int) : (D.lst (ns.map D.int)).py = some (.list (ns.map PyData.int)) := by simp [D.py, pys_ints]
theorem py_tupI (ns : List Int) : (D.tup (ns.map D.int)).py = some (.tuple (ns.map PyData.int)) := by simp [D.py, pys_ints]
theorem canLay_ints : ∀ ns : List Int, PyData.canLayAll0 (ns.map PyData.int) = true
  | [] => rfl
  | n :: ns => by simp [PyData.canLayAll0, PyData.canLay0, canLay_ints ns]
theorem depth_ints : ∀ ns : List Int, PyData.depthAll (ns.map PyData.int) = 0
  | [] => rfl
  | n :: ns => by simp [PyData.depthAll, PyData.depth, depth_ints ns]
theorem shaped_lstI (ns : List Int) : SeqAt.shaped (.list (ns.map PyData.int)) = true := by
  unfold SeqAt.shaped
  simp [PyData.canLay0, PyData.depth, canLay_ints, depth_ints]
theorem shaped_tupI (ns : List Int) : SeqAt.shaped (.tuple (ns.map PyData.int)) = true := by
  unfold SeqAt.shaped
  simp [PyData.canLay0, PyData.depth, canLay_ints, depth_ints]
theorem eqv_lst_nil (ds : List PyData) : PyData.eqv (.list ds) (.list []) = ds.isEmpty := by
  cases ds <;> simp [PyData.eqv, PyData.eqvAll]
theorem eqv_tup_nil (ds : List PyData) : PyData.eqv (.tuple ds) (.tuple []) = ds.isEmpty := by
  cases ds <;> simp [PyData.eqv, PyData.eqvAll]
theorem hu70 {k : Nat} {A : Around} (hr : Room k A) : A.units + 70 < cLine := by have := hr.un; omega
theorem hu64 {k : Nat} {A : Around} (hr : Room k A) : A.units + 64 < cLine := by have := hr.un; omega
/-! ### places -/
theorem atI_of {α : Type} {xs : List α} {k : Int} {n : Nat} {x : α} (e : k = (n : Int)) (h : xs[n]? = some x) : atI xs k = some x := by
  rw [e]; exact atI_nat h
theorem ixN_of {n : Nat} {k : Int} {j : Nat} (e : k = (j : Int)) (h : j < n) : ixN n k = some j := by
  unfold ixN
  rw [if_pos (by omega), if_pos (by omega)]
  congr 1
  omega
end DL

namespace DL
open PySem PySem.Spec PyProof.Rows L2
open PySem.W (Frag)
section
variable {σ σ' : SD} {G : HH} {Q : QD} {E : ED} {wi : TID} {g : TGD} {tb : TSD} {nx bk ct : SD → HH → Prop} {rt : QD} {ex : XD → SD → HH → Prop} {items : List D} {ok : HH → Prop} {tA : TTD}

/-! ### for, by an invariant -/
def ForG (items : List D) (ok : HH → Prop) (g : TGD) (tb : TSD) (nx : SD → HH → Prop) (rt : QD) (ex : XD → SD → HH → Prop) (σ : SD) (G : HH) : Prop := ∃ Iv : List D → SD → HH → Prop, Iv [] σ G ∧ (∀ pre σ G, Iv pre σ G → ok G) ∧
  (∀ pre x post σ G, items = pre ++ x :: post → Iv pre σ G → g x σ G (fun σ2 G2 => tb ⟨Iv (pre ++ [x]), rt, nx, Iv (pre ++ [x]), ex⟩ σ2 G2)) ∧ (∀ σ G, Iv items σ G → nx σ G)
theorem st_for (h : wi σ G (fun items ok G1 => ForG items ok g tb nx rt ex σ G1) (fun x G1 => ex x σ G1)) : dFor wi g tb ⟨nx, rt, bk, ct, ex⟩ σ G := h
/-- over items that are known, told by a list -/
theorem for_map {α : Type} {xs : List α} {c : α → D} (Iv : List α → SD → HH → Prop) (hok : ∀ pre σ G, Iv pre σ G → ok G) (h0 : Iv [] σ G)
    (hs : ∀ pre a post σ G, xs = pre ++ a :: post → Iv pre σ G → g (c a) σ G (fun σ2 G2 => tb ⟨Iv (pre ++ [a]), rt, nx, Iv (pre ++ [a]), ex⟩ σ2 G2)) (he : ∀ σ G, Iv xs σ G → nx σ G) : ForG (xs.map c) ok g tb nx rt ex σ G := by
  refine ⟨fun pre σ G => Iv (xs.take pre.length) σ G, by simpa using h0, fun pre σ G h => hok _ σ G h, fun pre x post σ G e iv => ?_, fun σ G iv => he σ G (by simpa using iv)⟩
  have hl : pre.length < xs.length := by
    have := congrArg List.length e
    simp at this
    omega
  have hx : xs[pre.length]? = some xs[pre.length] := List.getElem?_eq_getElem hl
  have e2 : x = c xs[pre.length] := by
    have : (xs.map c)[pre.length]? = some x := by rw [e]; simp
    rw [List.getElem?_map, hx] at this
    exact (Option.some.inj this).symm
  have hsp := split_at hx
  have tk := take_snoc hx
  subst e2
  have := hs _ _ _ σ G hsp iv
  have e3 : xs.take (pre ++ [c xs[pre.length]]).length = xs.take pre.length ++ [xs[pre.length]] := by
    rw [← tk]; simp
  have e4 : (fun σ G => Iv (xs.take (pre ++ [c xs[pre.length]]).length) σ G) = Iv (xs.take pre.length ++ [xs[pre.length]]) := by
    rw [e3]
  dsimp only
  have e5 : (fun σ G => Iv (xs.take (pre ++ [c xs[pre.length]]).length) σ G) = Iv (xs.take (pre ++ [c xs[pre.length]]).length) := rfl
  rw [e5] at e4
  rw [e4]
  exact this
/-- over a range -/
theorem for_rng {lo : Int} {n : Nat} (Iv : Nat → SD → HH → Prop) (h0 : Iv 0 σ G)
    (hs : ∀ (i : Nat) σ G, i < n → Iv i σ G → g (.int (lo + (i : Int))) σ G (fun σ2 G2 => tb ⟨Iv (i + 1), rt, nx, Iv (i + 1), ex⟩ σ2 G2)) (he : ∀ σ G, Iv n σ G → nx σ G) : ForG (rgItems lo n) okT g tb nx rt ex σ G := by
  refine for_map (xs := List.range n) (c := fun i : Nat => D.int (lo + (i : Int))) (fun pre σ G => Iv pre.length σ G) (fun _ _ _ _ => trivial) h0 (fun pre a post σ G e iv => ?_) (fun σ G iv => he σ G (by simpa using iv))
  have hl : pre.length < n := by
    have := congrArg List.length e
    simp at this
    omega
  have ea : a = pre.length := by
    have h1 : (List.range n)[pre.length]? = some a := by rw [e]; simp
    rw [List.getElem?_range hl] at h1
    exact (Option.some.inj h1).symm
  subst ea
  simpa using hs pre.length σ G hl iv
/-! ### while, by an invariant and a measure -/
theorem st_while (Iv : SD → HH → Prop) (μ : SD → HH → Nat) (h0 : Iv σ G)
    (hs : ∀ σ G, Iv σ G → tA σ G (fun b G1 => if b = true then tb ⟨fun σ' G' => Iv σ' G' ∧ μ σ' G' < μ σ G, rt, nx, fun σ' G' => Iv σ' G' ∧ μ σ' G' < μ σ G, ex⟩ σ G1 else nx σ G1) (fun x G1 => ex x σ G1)) : dWhile tA tb ⟨nx, rt, bk, ct, ex⟩ σ G := ⟨Iv, μ, h0, hs⟩
/-! ### comprehensions -/
def LcG (fr : Bool) (items : List D) (ok : HH → Prop) (g : Tgt) (tt : TTD) (te : TED) (vs : List Nat) (σ : SD) (G1 : HH) (Q : QD) : Prop := ∀ p, G1 p = none → ∃ Iv : List D → HH → Prop, Iv [] (gput G1 p (.lst [])) ∧ (∀ pre G, Iv pre G → ok G) ∧
  (∀ pre x post G, items = pre ++ x :: post → Iv pre G → ∃ σ2, g.put x (wipeD σ vs) = some σ2 ∧ tt σ2 G (fun b G3 => if b = true then te σ2 G3 (fun y G4 => ∃ acc, G4 p = some (.lst acc) ∧ acc.length < sizeLine ∧ Iv (pre ++ [x]) (gput G4 p (.lst (acc ++ [y])))) (fun _ _ => False) else Iv (pre ++ [x]) G3) (fun _ _ => False)) ∧
  (∀ G, Iv items G → ∃ acc, G p = some (.lst acc) ∧ (if fr = true then Q (.lst acc) (gdel G p) else Q (.ref p) G))
theorem st_lc {fr : Bool} {g : Tgt} {tt : TTD} {te : TED} {vs : List Nat} (h : wi σ G (fun items ok G1 => LcG fr items ok g tt te vs σ G1 Q) E) : dLc fr wi g tt te vs σ G Q E := h
theorem gdel_gput {G : HH} {p : Addr} {o : HOD} (h : G p = none) : gdel (gput G p o) p = G := by
  funext b
  by_cases hb : b = p
  · subst hb; rw [gdel_same, h]
  · rw [gdel_ne hb, gput_ne hb]
/-- what okL asks beside a new object -/
theorem ok_put {x : D} {xs : List D} {p : Addr} {o : HOD} (hp : G p = none) (h : LsW G x xs) : LsW (gput G p o) x xs := by
  cases h with
  | lst => exact .lst _
  | wls => exact .wls _
  | ref e => exact .ref (by rw [gput_ne (fun z => by rw [z, hp] at e; cases e)]; exact e)
/-- each element by itself, nothing changes: items told by xs, kept where k says, f what comes -/
theorem lc_pure {α : Type} {xs : List α} {c : α → D} {g : Tgt} {tt : TTD} {te : TED} {vs : List Nat} (k : α → Bool) (f : α → D) (hok : ∀ p acc, G p = none → ok (gput G p (.lst acc))) (hl : xs.length ≤ sizeLine)
    (hs : ∀ a, a ∈ xs → ∀ p acc, G p = none → ∃ σ2, g.put (c a) (wipeD σ vs) = some σ2 ∧ ∀ QT : Bool → HH → Prop, QT (k a) (gput G p (.lst acc)) → tt σ2 (gput G p (.lst acc)) QT (fun _ _ => False))
    (he : ∀ a, a ∈ xs → k a = true → ∀ p acc, G p = none → ∀ σ2, g.put (c a) (wipeD σ vs) = some σ2 → ∀ Q' : QD, Q' (f a) (gput G p (.lst acc)) → te σ2 (gput G p (.lst acc)) Q' (fun _ _ => False))
    (hq : Q (.lst ((xs.filter k).map f)) G) : LcG true (xs.map c) ok g tt te vs σ G Q := by
  intro p hp
  refine ⟨fun pre G' => G' = gput G p (.lst (((xs.take pre.length).filter k).map f)), by simp, fun pre G' h => by rw [h]; exact hok p _ hp, fun pre x post G' e iv => ?_, fun G' iv => ?_⟩
  · subst iv
    have hlt : pre.length < xs.length := by
      have := congrArg List.length e
      simp at this
      omega
    have hx : xs[pre.length]? = some xs[pre.length] := List.getElem?_eq_getElem hlt
    have e2 : x = c xs[pre.length] := by
      have : (xs.map c)[pre.length]? = some x := by rw [e]; simp
      rw [List.getElem?_map, hx] at this
      exact (Option.some.inj this).symm
    subst e2
    have hm : xs[pre.length] ∈ xs := List.getElem_mem hlt
    obtain ⟨σ2, h1, h2⟩ := hs _ hm p (((xs.take pre.length).filter k).map f) hp
    refine ⟨σ2, h1, h2 _ ?_⟩
    have tk : xs.take (pre ++ [c xs[pre.length]]).length = xs.take pre.length ++ [xs[pre.length]] := by
      have := take_snoc hx
      simpa using this
    cases ek : k xs[pre.length] with
    | true =>
      rw [if_pos rfl]
      refine he _ hm ek p _ hp σ2 h1 _ ⟨_, gput_same, ?_, ?_⟩
      · have a1 := List.length_filter_le k (xs.take pre.length)
        rw [List.length_map]
        rw [List.length_take] at a1
        omega
      · dsimp only
        rw [gput_gput, tk, List.filter_append, List.map_append]
        simp [ek]
    | false =>
      rw [if_neg Bool.false_ne_true]
      dsimp only
      rw [tk, List.filter_append, List.map_append]
      simp [ek]
  · subst iv
    refine ⟨_, gput_same, ?_⟩
    rw [if_pos rfl, gdel_gput hp]
    simpa using hq
/-- .. without a test -/
theorem lc_map {α : Type} {xs : List α} {c : α → D} {g : Tgt} {te : TED} {vs : List Nat} (f : α → D) (hok : ∀ p acc, G p = none → ok (gput G p (.lst acc))) (hl : xs.length ≤ sizeLine)
    (he : ∀ a, a ∈ xs → ∀ p acc, G p = none → ∃ σ2, g.put (c a) (wipeD σ vs) = some σ2 ∧ ∀ Q' : QD, Q' (f a) (gput G p (.lst acc)) → te σ2 (gput G p (.lst acc)) Q' (fun _ _ => False))
    (hq : Q (.lst (xs.map f)) G) : LcG true (xs.map c) ok g dYes te vs σ G Q := by
  refine lc_pure (fun _ => true) f hok hl (fun a ha p acc hp => ?_) (fun a ha _ p acc hp σ2 e2 Q' q => ?_) (by rw [List.filter_eq_self.mpr (by simp)]; exact hq)
  · obtain ⟨σ2, h1, _⟩ := he a ha p acc hp
    exact ⟨σ2, h1, fun QT q => q⟩
  · obtain ⟨σ3, h1, h2⟩ := he a ha p acc hp
    rw [e2] at h1
    cases h1
    exact h2 Q' q
/-- the second part of an and: what it comes to where it is asked -/
theorem st_andP {tB : TTD} {QT : Bool → HH → Prop} {c k : Bool} (h1 : c = true → ∀ QT' : Bool → HH → Prop, QT' k G → tB σ G QT' E) (h : QT (c && k) G) : if c = true then tB σ G QT E else QT false G := by
  cases c
  · rw [if_neg Bool.false_ne_true]; exact h
  · exact h1 rfl QT h
theorem st_orP {tB : TTD} {QT : Bool → HH → Prop} {c k : Bool} (h1 : c = false → ∀ QT' : Bool → HH → Prop, QT' k G → tB σ G QT' E) (h : QT (c || k) G) : if c = true then QT true G else tB σ G QT E := by
  cases c
  · rw [if_neg Bool.false_ne_true]; exact h1 rfl QT h
  · exact h
end
end DL

namespace DL
open PySem PySem.Spec PyProof.Rows L2
open PySem.W (Frag)
variable {X : Cx} {W : WX} {e f i o a b c value : Expr} {es : List Expr} {ta tb tc td ty tx tv to : TED} {t u : TAD} {tA tB' : TTD} {pos pos' apos cpos : Pos}

/-! ### dicts: keys are ints and texts, or tuples of them -/
section
variable {κ : Type} [DecidableEq κ]
def kget (kvs : List (κ × D)) (k : κ) : Option D := (kvs.find? fun kv => decide (kv.1 = k)).map (·.2)
def kput (kvs : List (κ × D)) (k : κ) (v : D) : List (κ × D) := if (kvs.any fun kv => decide (kv.1 = k)) = true then kvs.map (fun kv => if kv.1 = k then (kv.1, v) else kv) else kvs ++ [(k, v)]
/-- the same keys, values alike -/
def KRp (K : Frag) (H : Hp) (G : HH) (kvs : List (κ × D)) (xs : List (κ × V)) : Prop := kvs.map (·.1) = xs.map (·.1) ∧ Rps K H G (kvs.map (·.2)) (xs.map (·.2))
theorem KRp.nil {K H G} : KRp K H G ([] : List (κ × D)) [] := ⟨rfl, .nil⟩
theorem KRp.get {K H G} {k : κ} : ∀ {kvs : List (κ × D)} {xs : List (κ × V)}, KRp K H G kvs xs → (kget kvs k = none ∧ valV xs k = none) ∨ ∃ d v, kget kvs k = some d ∧ valV xs k = some v ∧ Rp K H G d v
  | [], [], _ => .inl ⟨rfl, rfl⟩
  | [], _ :: _, ⟨e, _⟩ => by simp at e
  | _ :: _, [], ⟨e, _⟩ => by simp at e
  | (k1, d) :: kvs, (k2, v) :: xs, ⟨e, r⟩ => by
    simp only [List.map_cons, List.cons.injEq] at e
    obtain ⟨e1, e2⟩ := e
    subst e1
    cases r with
    | cons r1 r2 =>
      by_cases hk : k1 = k
      · exact .inr ⟨d, v, by simp [kget, hk], by simp [valV, hk], r1⟩
      · have ih := KRp.get (k := k) (kvs := kvs) (xs := xs) ⟨e2, r2⟩
        have a1 : kget ((k1, d) :: kvs) k = kget kvs k := by simp [kget, List.find?_cons, hk]
        have a2 : valV ((k1, v) :: xs) k = valV xs k := by simp [valV, List.find?_cons, hk]
        rw [a1, a2]
        exact ih
theorem KRp.any {K H G} {k : κ} {kvs : List (κ × D)} {xs : List (κ × V)} (h : KRp K H G kvs xs) : (kvs.any fun kv => decide (kv.1 = k)) = xs.any fun kv => decide (kv.1 = k) := by
  have e := h.1
  have a1 : (kvs.any fun kv => decide (kv.1 = k)) = (kvs.map (·.1)).any fun z => decide (z = k) := by rw [List.any_map]; rfl
  have a2 : (xs.any fun kv => decide (kv.1 = k)) = (xs.map (·.1)).any fun z => decide (z = k) := by rw [List.any_map]; rfl
  rw [a1, a2, e]
theorem KRp.repl {K H G} {k : κ} {d : D} {v : V} (r : Rp K H G d v) : ∀ {kvs : List (κ × D)} {xs : List (κ × V)}, KRp K H G kvs xs → KRp K H G (kvs.map (fun kv => if kv.1 = k then (kv.1, d) else kv)) (xs.map (fun kv => if kv.1 = k then (kv.1, v) else kv))
  | [], [], _ => .nil
  | [], _ :: _, ⟨e, _⟩ => by simp at e
  | _ :: _, [], ⟨e, _⟩ => by simp at e
  | (k1, d1) :: kvs, (k2, v1) :: xs, ⟨e, q⟩ => by
    simp only [List.map_cons, List.cons.injEq] at e
    obtain ⟨e1, e2⟩ := e
    subst e1
    cases q with
    | cons r1 r2 =>
      obtain ⟨b1, b2⟩ := KRp.repl (k := k) r (kvs := kvs) (xs := xs) ⟨e2, r2⟩
      by_cases hk : k1 = k
      · simp only [List.map_cons, hk, if_true]
        exact ⟨by simp [b1], .cons r b2⟩
      · simp only [List.map_cons, hk, if_false]
        exact ⟨by simp [b1], .cons r1 b2⟩
theorem KRp.put {K H G} {k : κ} {d : D} {v : V} {kvs : List (κ × D)} {xs : List (κ × V)} (h : KRp K H G kvs xs) (r : Rp K H G d v) : KRp K H G (kput kvs k d) (putK xs k v) := by
  unfold kput putK
  rw [h.any]
  split
  · exact h.repl r
  · exact ⟨by simp [h.1], by rw [List.map_append, List.map_append]; exact h.2.append (.cons r .nil)⟩
theorem KRp.mono {K H G H' G'} {kvs : List (κ × D)} {xs : List (κ × V)} (s : Stp H G H' G') (h : KRp K H G kvs xs) : KRp K H' G' kvs xs := ⟨h.1, h.2.mono s⟩
theorem KRp.length {K H G} {kvs : List (κ × D)} {xs : List (κ × V)} (h : KRp K H G kvs xs) : kvs.length = xs.length := by
  have := congrArg List.length h.1
  simpa using this
theorem kget_cons {p : κ × D} {r : List (κ × D)} {j : κ} : kget (p :: r) j = if p.1 = j then some p.2 else kget r j := by
  by_cases h : p.1 = j <;> simp [kget, List.find?_cons, h]
theorem kget_any (k : κ) : ∀ kvs : List (κ × D), (kvs.any fun kv => decide (kv.1 = k)) = (kget kvs k).isSome
  | [] => rfl
  | p :: r => by
    rw [kget_cons, List.any_cons, kget_any k r]
    by_cases h : p.1 = k <;> simp [h]
theorem kget_map (k j : κ) (y : D) : ∀ kvs : List (κ × D), kget (kvs.map fun kv => if kv.1 = k then (kv.1, y) else kv) j = (kget kvs j).map fun x => if j = k then y else x
  | [] => rfl
  | p :: r => by
    have e : (if p.1 = k then (p.1, y) else p).1 = p.1 := by split <;> rfl
    rw [List.map_cons, kget_cons, kget_cons, kget_map k j y r, e]
    by_cases h : p.1 = j
    · subst h
      by_cases hk : p.1 = k <;> simp [hk]
    · simp [h]
theorem kget_snoc (k j : κ) (y : D) : ∀ kvs : List (κ × D), kget kvs k = none → kget (kvs ++ [(k, y)]) j = if j = k then some y else kget kvs j
  | [], _ => by
    rw [List.nil_append, kget_cons]
    by_cases h : k = j
    · subst h; simp
    · have h' : ¬ j = k := fun z => h z.symm
      simp [h, h']
  | p :: r, e => by
    rw [kget_cons] at e
    by_cases hp : p.1 = k
    · rw [if_pos hp] at e; cases e
    · rw [if_neg hp] at e
      rw [List.cons_append, kget_cons, kget_snoc k j y r e, kget_cons]
      by_cases h : p.1 = j
      · subst h
        simp [hp]
      · simp [h]
theorem kget_put (kvs : List (κ × D)) (k j : κ) (y : D) : kget (kput kvs k y) j = if j = k then some y else kget kvs j := by
  unfold kput
  rw [kget_any]
  cases e : kget kvs k with
  | none => simp only [Option.isSome_none, Bool.false_eq_true, if_false]; exact kget_snoc k j y kvs e
  | some v =>
    simp only [Option.isSome_some, if_true]
    rw [kget_map]
    by_cases h : j = k
    · subst h; rw [e]; simp
    · simp [h]
theorem length_kput (kvs : List (κ × D)) (k : κ) (v : D) : (kput kvs k v).length ≤ kvs.length + 1 := by
  unfold kput
  split <;> simp
theorem keys_kput (kvs : List (κ × D)) (k : κ) (v : D) : (kput kvs k v).map (·.1) = if (kget kvs k).isSome = true then kvs.map (·.1) else kvs.map (·.1) ++ [k] := by
  unfold kput
  rw [kget_any]
  split
  · rw [List.map_map]
    refine List.map_congr_left fun a _ => ?_
    dsimp only [Function.comp]
    split <;> rfl
  · simp
end
/-- the key that a scalar is -/
def dkey : D → Option Key
  | .int i => some (.inl i)
  | .str x => some (.inr x)
  | _ => none
theorem dkey_of {K H G d v k} (p : Rp K H G d v) (h : dkey d = some k) : v = kV k := by
  cases p <;> simp [dkey] at h <;> subst h <;> rfl
/-- what a dict at x says of the key y -/
def DAt (G : HH) (x y : D) (r : Option D) : Prop := ∃ p kvs k, x = .ref p ∧ G p = some (.dK kvs) ∧ dkey y = some k ∧ r = kget kvs k
theorem DAt.of {K H G x y r vx vy} (h : DAt G x y r) (hR : RelH K H G) (px : Rp K H G x vx) (py : Rp K H G y vy) : ∃ a o, vx = .ref a ∧ DGet H a vy o ∧ ((r = none ∧ o = none) ∨ ∃ d v, r = some d ∧ o = some v ∧ Rp K H G d v) := by
  obtain ⟨p, kvs, k, e1, e2, e3, e4⟩ := h
  subst e1; cases px
  obtain ⟨xs, h1, h2⟩ := hR _ _ e2
  rw [dkey_of py e3]
  exact ⟨p, _, rfl, DGet.k h1, by rw [e4]; exact KRp.get (k := k) h2⟩
def dDGet (td ty : TED) : TED := fun σ G Q E => td σ G (fun x G1 => ty σ G1 (fun y G2 => ∃ v, DAt G2 x y (some v) ∧ Q v G2) E) E
theorem de_dget (hu : X.A.units + 1 < cLine) (ho : DE X W o td) (hi : DE X W i ty) (hs : NoSl i := by exact fun _ _ => rfl) : DE X W (.Subscript o i pos) (dDGet td ty) :=
  PE.imp (pe_dget hu ho hi hs) fun σ H Q ⟨σD, G, QD, E, hR, hS, q, hq, hE⟩ => by
    refine ⟨σD, G, _, E, hR, hS, q, fun v1 H1 d1 G1 s1 r1 p1 q1 => ?_, hE⟩
    refine ⟨σD, G1, _, E, r1, hS.mono s1, q1, fun v2 H2 d2 G2 s2 r2 p2 ⟨v, hd, q2⟩ => ?_, hE.mono s1⟩
    obtain ⟨a, o, e1, g, z⟩ := hd.of r2 (p1.mono s2) p2
    rcases z with ⟨z, _⟩ | ⟨d, w, e2, e3, pw⟩
    · cases z
    · cases e2; subst e3
      exact ⟨a, w, e1, g, hq _ _ _ _ (s1.trans s2) r2 pw q2⟩
def dDIn (neg : Bool) (ty td : TED) : TED := fun σ G Q E => ty σ G (fun y G1 => td σ G1 (fun x G2 => ∃ r, DAt G2 x y r ∧ Q (.bl (if neg then !r.isSome else r.isSome)) G2) E) E
theorem dAt_some {K H G r} {o : Option V} (z : (r = none ∧ o = none) ∨ ∃ (d : D) (v : V), r = some d ∧ o = some v ∧ Rp K H G d v) : o.isSome = r.isSome := by
  rcases z with ⟨rfl, rfl⟩ | ⟨d, v, rfl, rfl, _⟩ <;> rfl
theorem pc_din' (hu : X.A.units + 1 < cLine) (hi : DE X W i ty) (ho : DE X W o td) : PC X .In i o (lft X.K W (dDIn false ty td)) := by
  have h := pc_din hu hi ho
  refine ⟨fun pins s σ H Q I ⟨σD, G, QD, E, hR, hS, q, hq, hE⟩ => h.run pins s σ H Q I ?_⟩
  refine ⟨σD, G, _, E, hR, hS, q, fun v1 H1 d1 G1 s1 r1 p1 q1 => ?_, hE⟩
  refine ⟨σD, G1, _, E, r1, hS.mono s1, q1, fun v2 H2 d2 G2 s2 r2 p2 ⟨r, hd, q2⟩ => ?_, hE.mono s1⟩
  obtain ⟨a, o, e1, g, z⟩ := hd.of r2 p2 (p1.mono s2)
  refine ⟨a, o, e1, g, ?_⟩
  rw [dAt_some z]
  exact hq _ _ _ _ (s1.trans s2) r2 (.bl _) q2
theorem pc_dnotin' (hu : X.A.units + 1 < cLine) (hi : DE X W i ty) (ho : DE X W o td) : PC X .NotIn i o (lft X.K W (dDIn true ty td)) := by
  have h := pc_dnotin hu hi ho
  refine ⟨fun pins s σ H Q I ⟨σD, G, QD, E, hR, hS, q, hq, hE⟩ => h.run pins s σ H Q I ?_⟩
  refine ⟨σD, G, _, E, hR, hS, q, fun v1 H1 d1 G1 s1 r1 p1 q1 => ?_, hE⟩
  refine ⟨σD, G1, _, E, r1, hS.mono s1, q1, fun v2 H2 d2 G2 s2 r2 p2 ⟨r, hd, q2⟩ => ?_, hE.mono s1⟩
  obtain ⟨a, o, e1, g, z⟩ := hd.of r2 p2 (p1.mono s2)
  refine ⟨a, o, e1, g, ?_⟩
  rw [dAt_some z]
  exact hq _ _ _ _ (s1.trans s2) r2 (.bl _) q2
theorem de_din (hu : X.A.units + 1 < cLine) (hi : DE X W i ty) (ho : DE X W o td) (h1 : behindInMarks .In o = false := by rfl) : DE X W (.Compare i [.In] [o] pos) (dDIn false ty td) := pe_cmp (pc_din' hu hi ho) h1
theorem de_dnotin (hu : X.A.units + 1 < cLine) (hi : DE X W i ty) (ho : DE X W o td) (h1 : behindInMarks .NotIn o = false := by rfl) : DE X W (.Compare i [.NotIn] [o] pos) (dDIn true ty td) := pe_cmp (pc_dnotin' hu hi ho) h1
theorem dt_din (hu : X.A.units + 1 < cLine) (hi : DE X W i ty) (ho : DE X W o td) (h1 : behindInMarks .In o = false := by rfl) : DT X W (.Compare i [.In] [o] pos) (dTest (dDIn false ty td)) := PT.imp (pt_cmp (pc_din' hu hi ho) h1) (lft_test fun σ H Q h => h)
theorem dt_dnotin (hu : X.A.units + 1 < cLine) (hi : DE X W i ty) (ho : DE X W o td) (h1 : behindInMarks .NotIn o = false := by rfl) : DT X W (.Compare i [.NotIn] [o] pos) (dTest (dDIn true ty td)) := PT.imp (pt_cmp (pc_dnotin' hu hi ho) h1) (lft_test fun σ H Q h => h)
/-- d.get(k), d.get(k, x) -/
def IsDD (G : HH) (x : D) : Prop := ∃ p kvs, x = .ref p ∧ G p = some (.dK kvs)
theorem IsDD.of {K H G x v} (h : IsDD G x) (hR : RelH K H G) (px : Rp K H G x v) : ∃ a, v = .ref a ∧ IsD H a := by
  obtain ⟨p, kvs, e1, e2⟩ := h
  subst e1; cases px
  obtain ⟨xs, h1, _⟩ := hR _ _ e2
  exact ⟨p, rfl, .inl ⟨xs, .inl h1⟩⟩
def dDGet1 (td ty : TED) : TED := fun σ G Q E => td σ G (fun x G1 => IsDD G1 x ∧ ty σ G1 (fun y G2 => ∃ r, DAt G2 x y r ∧ Q (r.getD .non) G2) E) E
def dDGet2 (td ty tx : TED) : TED := fun σ G Q E => td σ G (fun x G1 => IsDD G1 x ∧ ty σ G1 (fun y G2 => tx σ G2 (fun z G3 => ∃ r, DAt G3 x y r ∧ Q (r.getD z) G3) E) E) E
theorem dAt_getD {K H G r w z} {o : Option V} (h : (r = none ∧ o = none) ∨ ∃ (d : D) (v : V), r = some d ∧ o = some v ∧ Rp K H G d v) (pz : Rp K H G z w) : Rp K H G (r.getD z) (o.getD w) := by
  rcases h with ⟨rfl, rfl⟩ | ⟨d, v, rfl, rfl, p⟩
  · exact pz
  · exact p
theorem de_dget1 (hu : X.A.units + 1 < cLine) (ho : DE X W o td) (he : DE X W e ty) (m : M1 X o "get" apos e cpos) : DE X W (.Call (.Attribute o "get" apos) [e] [] cpos) (dDGet1 td ty) :=
  PE.imp (pe_dget1 hu ho he m) fun σ H Q ⟨σD, G, QD, E, hR, hS, q, hq, hE⟩ => by
    refine ⟨σD, G, _, E, hR, hS, q, fun v1 H1 d1 G1 s1 r1 p1 ⟨hi, q1⟩ => ?_, hE⟩
    obtain ⟨a, e1, hd⟩ := hi.of r1 p1
    refine ⟨a, e1, hd, σD, G1, _, E, r1, hS.mono s1, q1, fun v2 H2 d2 G2 s2 r2 p2 ⟨r, hd, q2⟩ => ?_, hE.mono s1⟩
    obtain ⟨a', o, e2, g, z⟩ := hd.of r2 (p1.mono s2) p2
    have : a' = a := by rw [e1] at e2; cases e2; rfl
    subst this
    exact ⟨o, g, hq _ _ _ _ (s1.trans s2) r2 (dAt_getD z .non) q2⟩
theorem de_dget2 (hu : X.A.units + 1 < cLine) (ho : DE X W o td) (he : DE X W e ty) (hf : DE X W f tx) (m : M2 X o "get" apos e f cpos) : DE X W (.Call (.Attribute o "get" apos) [e, f] [] cpos) (dDGet2 td ty tx) :=
  PE.imp (pe_dget2 hu ho he hf m) fun σ H Q ⟨σD, G, QD, E, hR, hS, q, hq, hE⟩ => by
    refine ⟨σD, G, _, E, hR, hS, q, fun v1 H1 d1 G1 s1 r1 p1 ⟨hi, q1⟩ => ?_, hE⟩
    obtain ⟨a, e1, hd⟩ := hi.of r1 p1
    refine ⟨a, e1, hd, σD, G1, _, E, r1, hS.mono s1, q1, fun v2 H2 d2 G2 s2 r2 p2 q2 => ?_, hE.mono s1⟩
    refine ⟨σD, G2, _, E, r2, hS.mono (s1.trans s2), q2, fun v3 H3 d3 G3 s3 r3 p3 ⟨r, hd, q3⟩ => ?_, hE.mono (s1.trans s2)⟩
    obtain ⟨a', o, e2, g, z⟩ := hd.of r3 (p1.mono (s2.trans s3)) (p2.mono s3)
    have : a' = a := by rw [e1] at e2; cases e2; rfl
    subst this
    exact ⟨o, g, hq _ _ _ _ ((s1.trans s2).trans s3) r3 (dAt_getD z p3) q3⟩
/-- {} -/
def dDNew : TED := fun _ G Q _ => ∀ p, G p = none → Q (.ref p) (gput G p (.dK []))
theorem de_dnew : DE X W (.Dict [] [] pos) dDNew := PE.imp pe_dnewK fun σ H Q ⟨σD, G, QD, E, hR, hS, q, hq, hE⟩ => fun p hp =>
  hq _ _ _ _ (Stp.newM (od := .dK []) hp) (hR.newM (od := .dK []) hp ⟨[], upd_same, rfl, .nil⟩) (.ref p) (q p (hR.free hp))
/-- d[k] = v -/
def dDPut (td ty tv : TED) : TSD := fun D σ G => tv σ G (fun v G1 => td σ G1 (fun x G2 => ty σ G2 (fun y G3 => ∃ p kvs k, x = .ref p ∧ G3 p = some (.dK kvs) ∧ dkey y = some k ∧ kvs.length < sizeLine ∧ D.nx σ (gput G3 p (.dK (kput kvs k v)))) (fun x G' => D.ex x σ G')) (fun x G' => D.ex x σ G')) (fun x G' => D.ex x σ G')
theorem ds_dput (hu : X.A.units + 1 < cLine) (ho : DE X W o td) (hi : DE X W i ty) (hv : DE X W value tv) (hs : swapsWith value (some (.Subscript o i pos')) pos.line X.env = pure false := by rfl) : DS X W (.Assign [.Subscript o i pos'] value pos) (dDPut td ty tv) :=
  PS.imp (ps_dput hu ho hi hv hs) fun D σ H ⟨σD, G, DD, hR, hS, q, he⟩ => by
    refine ⟨σD, G, _, _, hR, hS, q, fun v1 H1 d1 G1 s1 r1 p1 q1 => ?_, he.ex.at hS⟩
    refine ⟨σD, G1, _, _, r1, hS.mono s1, q1, fun v2 H2 d2 G2 s2 r2 p2 q2 => ?_, (he.ex.at hS).mono s1⟩
    refine ⟨σD, G2, _, _, r2, hS.mono (s1.trans s2), q2, fun v3 H3 d3 G3 s3 r3 p3 q3 => ?_, (he.ex.at hS).mono (s1.trans s2)⟩
    obtain ⟨p, kvs, k, e1, e2, e3, l, z⟩ := q3
    have p2' := p2.mono s3
    subst e1; cases p2'
    obtain ⟨xs, h1, h2⟩ := r3 _ _ e2
    have h2 : KRp X.K H3 G3 kvs xs := h2
    have s4 := Stp.put (H := H3) (o := .dK (putK xs k v1)) (od := .dK (kput kvs k d1)) e2
    refine ⟨p, _, rfl, ?_, he.nx _ _ _ _ (((s1.trans s2).trans s3).trans s4) (r3.put e2 ⟨_, upd_same, ?_⟩) (hS.mono (((s1.trans s2).trans s3).trans s4)) z⟩
    · rw [dkey_of p3 e3]
      exact DPut.k h1 (by rw [← h2.length]; exact l)
    · exact (h2.mono s4).put (p1.mono ((s2.trans s3).trans s4))
/-- a, b, c = x, y, z -/
def dPar3 (i j l : Nat) (t : TAD) : TSD := fun D σ G => t σ G (fun ds G1 => ∃ d e f, ds = [d, e, f] ∧ D.nx (((σ.set i (some d)).set j (some e)).set l (some f)) G1) (fun x G1 => D.ex x σ G1)
theorem rps3 {K H G d e f xs} (h : Rps K H G [d, e, f] xs) : ∃ v w u, xs = [v, w, u] ∧ Rp K H G d v ∧ Rp K H G e w ∧ Rp K H G f u := by
  cases h with | cons a r => obtain ⟨w, u, rfl, b, c⟩ := rps2 r; exact ⟨_, w, u, rfl, a, b, c⟩
theorem ds_par3 {i j l : Nat} {x y z : Str} {px py pz pt : Pos} {kt k2 pt2} (hc : X.calm = true) (hN : X.N.Nodup) (hi : X.N[i]? = some x) (hj : X.N[j]? = some y) (hl : X.N[l]? = some z) (hij : i ≠ j) (hil : i ≠ l) (hjl : j ≠ l)
    (hx : X.env.scope.names.lookup x = some .local) (hy : X.env.scope.names.lookup y = some .local) (hz : X.env.scope.names.lookup z = some .local) (ha : DA X W [a, b, c] t)
    (hw : swappedStores [.Tuple [.Name x px, .Name y py, .Name z pz] kt pt] (.Tuple [a, b, c] k2 pt2) X.env = pure (some [x, y, z]))
    (hs : swapsWithSole [.Tuple [.Name x px, .Name y py, .Name z pz] kt pt] (.Tuple [a, b, c] k2 pt2) pos.line X.env = pure false := by rfl) :
    DS X W (.Assign [.Tuple [.Name x px, .Name y py, .Name z pz] kt pt] (.Tuple [a, b, c] k2 pt2) pos) (dPar3 i j l t) := PS.imp (ps_par3 hc hN hi hj hl hij hil hjl hx hy hz ha hw hs) fun D σ H ⟨σD, G, DD, hR, hS, q, he⟩ =>
  ⟨σD, G, _, _, hR, hS, q, fun vs H1 ds G1 s r p ⟨d, e, f, e1, z⟩ => by
    subst e1
    obtain ⟨v, w, u, rfl, p1, p2, p3⟩ := rps3 p
    exact ⟨v, w, u, rfl, he.nx _ _ _ _ s r ((((hS.mono s).set i p1).set j p2).set l p3) z⟩, he.ex.at hS⟩
/-- xs + ys, a list that may change -/
def aLstM : D → D → HH → QD → Prop := fun x y G Q => ∃ xs ys, Ls G x xs ∧ Ls G y ys ∧ xs.length + ys.length ≤ sizeLine ∧ ∀ p, G p = none → Q (.ref p) (gput G p (.lst (xs ++ ys)))
theorem oAddLstM : OpD X (binaryOp .Add) aLstM := ⟨_, op_cat, fun x y H Q dx dy G QD hR px py ⟨xs, ys, e1, e2, l, q⟩ hq => by
  obtain ⟨a, vs, rfl, ha, ra⟩ := e1.of hR px
  obtain ⟨b, us, rfl, hb, rb⟩ := e2.of hR py
  exact ⟨_, _, _, _, rfl, rfl, ha, hb, by rw [← ra.length, ← rb.length]; exact l, fun p hp => hq _ _ _ _ (Stp.newM (od := .lst (xs ++ ys)) hp) (hR.newM (od := .lst (xs ++ ys)) hp ⟨vs ++ us, upd_same, (ra.append rb).mono (Stp.newM hp)⟩) (.ref p) (q p (hR.free hp))⟩⟩
/-- [x] * n, a list that may change -/
def mRepM : D → D → HH → QD → Prop := fun x y G Q => ∃ xs k, Ls G x xs ∧ y = .int k ∧ -(2 ^ 63) ≤ k ∧ k < 2 ^ 63 ∧ xs.length * k.toNat ≤ sizeLine ∧ ∀ p, G p = none → Q (.ref p) (gput G p (.lst (List.replicate k.toNat xs).flatten))
theorem oRepM : OpD X (binaryOp .Mult) mRepM := ⟨_, op_rep, fun x y H Q dx dy G QD hR px py ⟨xs, k, e1, e2, h1, h2, l, q⟩ hq => by
  obtain ⟨a, vs, rfl, ha, ra⟩ := e1.of hR px
  subst e2; cases py
  exact ⟨_, _, _, rfl, rfl, ha, h1, h2, by rw [← ra.length]; exact l, fun p hp => hq _ _ _ _ (Stp.newM (od := .lst (List.replicate k.toNat xs).flatten) hp) (hR.newM (od := .lst (List.replicate k.toNat xs).flatten) hp ⟨_, upd_same, (ra.rep _).mono (Stp.newM hp)⟩) (.ref p) (q p (hR.free hp))⟩⟩
/-! ### steps -/
section
variable {σ σ' : SD} {G : HH} {Q : QD} {E : ED} {d x y z : D} {ta tb : TED} {nx bk ct : SD → HH → Prop} {rt : QD} {ex : XD → SD → HH → Prop} {N : SD → HH → Prop} {p : Addr} {kvs : List (Key × D)} {k : Key} {v : D}
theorem st_addLM {xs ys : List D} (h1 : Ls G x xs) (h2 : Ls G y ys) (hl : xs.length + ys.length ≤ sizeLine) (h : ∀ p, G p = none → Q (.ref p) (gput G p (.lst (xs ++ ys)))) : aLstM x y G Q := ⟨xs, ys, h1, h2, hl, h⟩
theorem st_repM {xs : List D} {k : Int} (h1 : Ls G x xs) (hk : -(2 ^ 63) ≤ k ∧ k < 2 ^ 63) (hl : xs.length * k.toNat ≤ sizeLine) (h : ∀ p, G p = none → Q (.ref p) (gput G p (.lst (List.replicate k.toNat xs).flatten))) : mRepM x (.int k) G Q := ⟨xs, k, h1, rfl, hk.1, hk.2, hl, h⟩
theorem st_dget (h : td σ G (fun x G1 => ty σ G1 (fun y G2 => ∃ v, DAt G2 x y (some v) ∧ Q v G2) E) E) : dDGet td ty σ G Q E := h
theorem st_dgetq {P : D → Prop} (hp : G p = some (.dK kvs)) (hk : dkey y = some k) (hv : kget kvs k = some v) (h : P v) : ∃ v, DAt G (.ref p) y (some v) ∧ P v := ⟨v, ⟨p, kvs, k, rfl, hp, hk, hv.symm⟩, h⟩
theorem st_din {neg : Bool} (h : ty σ G (fun y G1 => td σ G1 (fun x G2 => ∃ r, DAt G2 x y r ∧ Q (.bl (if neg then !r.isSome else r.isSome)) G2) E) E) : dDIn neg ty td σ G Q E := h
theorem st_dinq {P : Option D → Prop} (hp : G p = some (.dK kvs)) (hk : dkey y = some k) (h : P (kget kvs k)) : ∃ r, DAt G (.ref p) y r ∧ P r := ⟨_, ⟨p, kvs, k, rfl, hp, hk, rfl⟩, h⟩
theorem st_dget1 (h : td σ G (fun x G1 => IsDD G1 x ∧ ty σ G1 (fun y G2 => ∃ r, DAt G2 x y r ∧ Q (r.getD .non) G2) E) E) : dDGet1 td ty σ G Q E := h
theorem st_dget2 (h : td σ G (fun x G1 => IsDD G1 x ∧ ty σ G1 (fun y G2 => tx σ G2 (fun z G3 => ∃ r, DAt G3 x y r ∧ Q (r.getD z) G3) E) E) E) : dDGet2 td ty tx σ G Q E := h
theorem st_isDD {P : Prop} (hp : G p = some (.dK kvs)) (h : P) : IsDD G (.ref p) ∧ P := ⟨⟨p, kvs, rfl, hp⟩, h⟩
theorem st_dnew (h : ∀ p, G p = none → Q (.ref p) (gput G p (.dK []))) : dDNew σ G Q E := h
theorem st_dput {tv : TED} (h : tv σ G (fun v G1 => td σ G1 (fun x G2 => ty σ G2 (fun y G3 => ∃ p kvs k, x = .ref p ∧ G3 p = some (.dK kvs) ∧ dkey y = some k ∧ kvs.length < sizeLine ∧ nx σ (gput G3 p (.dK (kput kvs k v)))) (fun x G' => ex x σ G')) (fun x G' => ex x σ G')) (fun x G' => ex x σ G')) : dDPut td ty tv ⟨nx, rt, bk, ct, ex⟩ σ G := h
theorem st_dputq {P : HH → Prop} (hp : G p = some (.dK kvs)) (hk : dkey y = some k) (hl : kvs.length < sizeLine) (h : P (gput G p (.dK (kput kvs k v)))) : ∃ p' kvs' k', D.ref p = .ref p' ∧ G p' = some (.dK kvs') ∧ dkey y = some k' ∧ kvs'.length < sizeLine ∧ P (gput G p' (.dK (kput kvs' k' v))) := ⟨p, kvs, k, rfl, hp, hk, hl, h⟩
theorem st_par3 {i j l : Nat} {t : TAD} (h : t σ G (fun ds G1 => ∃ d e f, ds = [d, e, f] ∧ nx (((σ.set i (some d)).set j (some e)).set l (some f)) G1) (fun x G1 => ex x σ G1)) : dPar3 i j l t ⟨nx, rt, bk, ct, ex⟩ σ G := h
theorem st_par3q {i j l : Nat} {e f : D} {σ1 σ2 σ3 : SD} (h1 : SetAt σ i d σ1) (h2 : SetAt σ1 j e σ2) (h3 : SetAt σ2 l f σ3) (h : N σ3 G) : ∃ d' e' f', [d, e, f] = [d', e', f'] ∧ N (((σ.set i (some d')).set j (some e')).set l (some f')) G := ⟨d, e, f, rfl, by rw [h1.at, h2.at, h3.at]; exact h⟩
end
end DL

namespace DL
open PySem PySem.Spec PyProof.Rows L2
open PySem.W (Frag)
/-- all but q as it was -/
def But (p : Addr) (G G' : HH) : Prop := ∀ b, b ≠ p → G' b = G b
theorem But.refl {p : Addr} {G : HH} : But p G G := fun _ _ => rfl
theorem But.trans {p : Addr} {G G1 G2 : HH} (a : But p G G1) (b : But p G1 G2) : But p G G2 := fun c h => (b c h).trans (a c h)
theorem But.put {p : Addr} {G G1 : HH} {o : HOD} (a : But p G G1) : But p G (gput G1 p o) := fun c h => (gput_ne h).trans (a c h)
section
variable {σ : SD} {G : HH} {Q : QD} {E : ED}
/-- a comprehension whose elements are drawn (at q), K draws each -/
theorem lc_dr {α : Type} {xs : List α} {c : α → D} {g : Tgt} {te : TED} {vs : List Nat} {ok : HH → Prop} {q : Addr} {N : Nat} (Dr : HH → Nat → Prop) (hat : ∀ {G G' M}, G' q = G q → Dr G M → Dr G' M) (hne : ∀ {G M}, Dr G M → G q ≠ none) (K : Nat) (P : D → Prop)
    (hd : Dr G N) (hok : ∀ G' : HH, (∀ b, b ≠ q → G b ≠ none → G' b = G b) → ok G') (hl : xs.length ≤ sizeLine)
    (he : ∀ a, a ∈ xs → ∀ (G' : HH) (M : Nat), Dr G' M → M + K ≤ N + K * xs.length → (∀ b, b ≠ q → G b ≠ none → G' b = G b) → ∃ σ2, g.put (c a) (wipeD σ vs) = some σ2 ∧
      ∀ Q' : QD, (∀ d G'', P d → Dr G'' (M + K) → But q G' G'' → Q' d G'') → te σ2 G' Q' (fun _ _ => False))
    (hq : ∀ ds G', ds.length = xs.length → (∀ d ∈ ds, P d) → Dr G' (N + K * xs.length) → But q G G' → Q (.lst ds) G') : LcG true (xs.map c) ok g dYes te vs σ G Q := by
  intro p hp
  have hqp : q ≠ p := fun z => hne hd (z ▸ hp)
  refine ⟨fun pre G' => ∃ acc, G' p = some (.lst acc) ∧ acc.length = pre.length ∧ (∀ d ∈ acc, P d) ∧ pre.length ≤ xs.length ∧ Dr G' (N + K * pre.length) ∧ ∀ b, b ≠ q → b ≠ p → G' b = G b, ⟨[], gput_same, rfl, by simp, Nat.zero_le _, hat (gput_ne hqp) hd, fun b _ h => gput_ne h⟩, ?_, ?_, ?_⟩
  · rintro pre G' ⟨acc, h1, h2, h3, h4, h5, h6⟩
    exact hok G' fun b hb hn => h6 b hb fun z => hn (z ▸ hp)
  · rintro pre x post G' e ⟨acc, h1, h2, h3, h4, h5, h6⟩
    have hlt : pre.length < xs.length := by
      have := congrArg List.length e
      simp at this
      omega
    have hx : xs[pre.length]? = some xs[pre.length] := List.getElem?_eq_getElem hlt
    have e2 : x = c xs[pre.length] := by
      have : (xs.map c)[pre.length]? = some x := by rw [e]; simp
      rw [List.getElem?_map, hx] at this
      exact (Option.some.inj this).symm
    subst e2
    have hK : K * (pre.length + 1) ≤ K * xs.length := Nat.mul_le_mul_left _ hlt
    rw [Nat.mul_add, Nat.mul_one] at hK
    obtain ⟨σ2, a1, a2⟩ := he _ (List.getElem_mem hlt) G' _ h5 (by omega) fun b hb hn => h6 b hb fun z => hn (z ▸ hp)
    refine ⟨σ2, a1, ?_⟩
    dsimp only [dYes]
    rw [if_pos rfl]
    refine a2 _ fun d G'' hP hD hB => ⟨acc, by rw [hB p hqp.symm]; exact h1, by omega, acc ++ [d], gput_same, by simp [h2], ?_, by simp; omega, ?_, fun b hb hb2 => by rw [gput_ne hb2, hB b hb, h6 b hb hb2]⟩
    · intro z hz
      rcases List.mem_append.mp hz with hz | hz
      · exact h3 z hz
      · rw [List.mem_singleton.mp hz]; exact hP
    · refine hat (gput_ne hqp) ?_
      rw [List.length_append, List.length_singleton, Nat.mul_add, Nat.mul_one, ← Nat.add_assoc]
      exact hD
  · rintro G' ⟨acc, h1, h2, h3, h4, h5, h6⟩
    rw [List.length_map] at h2 h5
    refine ⟨acc, h1, ?_⟩
    rw [if_pos rfl]
    refine hq acc _ h2 h3 (hat (gdel_ne hqp) h5) fun b hb => ?_
    by_cases hb2 : b = p
    · subst hb2; rw [gdel_same, hp]
    · rw [gdel_ne hb2]; exact h6 b hb hb2
end
section
variable {σ : SD} {G : HH} {g : TGD} {tb : TSD} {nx : SD → HH → Prop} {rt : QD} {ex : XD → SD → HH → Prop}
theorem for_rng0 {n : Nat} (Iv : Nat → SD → HH → Prop) (h0 : Iv 0 σ G)
    (hs : ∀ (i : Nat) σ G, i < n → Iv i σ G → g (.int (i : Int)) σ G (fun σ2 G2 => tb ⟨Iv (i + 1), rt, nx, Iv (i + 1), ex⟩ σ2 G2)) (he : ∀ σ G, Iv n σ G → nx σ G) : ForG (rgItems 0 n) okT g tb nx rt ex σ G :=
  for_rng Iv h0 (fun i σ G hi iv => by rw [Int.zero_add]; exact hs i σ G hi iv) he
end
section
variable {G : HH} {p : Addr} {P : Prop} {xs : List D}
theorem st_tru_blq {k : Bool} {P : Bool → Prop} (q : P k) : ∃ k', Tru G (.bl k) k' ∧ P k' := ⟨k, .bl k, q⟩
theorem st_tyL (hp : G p = some (.lst xs)) (h : P) : tyL (.ref p) G ∧ P := ⟨⟨p, xs, rfl, hp⟩, h⟩
end
theorem least (P : Nat → Prop) : ∀ m, P m → ∃ k, P k ∧ ∀ j, P j → k ≤ j := by
  intro m
  induction m using Nat.strongRecOn with
  | _ m ih =>
    intro h
    by_cases hk : ∃ k, k < m ∧ P k
    · obtain ⟨k, h1, h2⟩ := hk
      exact ih k h1 h2
    · exact ⟨m, h, fun j hj => Nat.le_of_not_lt fun z => hk ⟨j, z, hj⟩⟩
section
variable {σ : SD} {G : HH} {tb : TSD} {tA : TTD} {nx bk ct : SD → HH → Prop} {rt : QD} {ex : XD → SD → HH → Prop}
/-- the least measure at which an invariant holds -/
noncomputable def lst (Iv : Nat → SD → HH → Prop) (σ : SD) (G : HH) (h : ∃ m, Iv m σ G) : Nat := Classical.choose (least (fun m => Iv m σ G) (Classical.choose h) (Classical.choose_spec h))
theorem lst_ok (Iv : Nat → SD → HH → Prop) (σ : SD) (G : HH) (h : ∃ m, Iv m σ G) : Iv (lst Iv σ G h) σ G ∧ ∀ j, Iv j σ G → lst Iv σ G h ≤ j := Classical.choose_spec (least (fun m => Iv m σ G) (Classical.choose h) (Classical.choose_spec h))
open Classical in
/-- while, by an invariant that has its own measure -/
theorem st_whileN (Iv : Nat → SD → HH → Prop) (m0 : Nat) (h0 : Iv m0 σ G)
    (hs : ∀ (m : Nat) (σ : SD) (G : HH) (nx' : SD → HH → Prop), Iv m σ G → (∀ m' σ' G', m' < m → Iv m' σ' G' → nx' σ' G') → tA σ G (fun b G1 => if b = true then tb ⟨nx', rt, nx, nx', ex⟩ σ G1 else nx σ G1) (fun x G1 => ex x σ G1)) : dWhile tA tb ⟨nx, rt, bk, ct, ex⟩ σ G := by
  refine st_while (fun σ G => ∃ m, Iv m σ G) (fun σ G => if h : ∃ m, Iv m σ G then lst Iv σ G h else 0) ⟨m0, h0⟩ fun σ G hi => ?_
  refine hs _ σ G _ (lst_ok Iv σ G hi).1 fun m' σ' G' hm' hi' => ⟨⟨m', hi'⟩, ?_⟩
  rw [dif_pos ⟨m', hi'⟩, dif_pos hi]
  exact Nat.lt_of_le_of_lt ((lst_ok Iv σ' G' ⟨m', hi'⟩).2 m' hi') hm'
end
section
variable {σ : SD} {G : HH} {Q : QD} {ok : HH → Prop}
/-- each element by itself into a list that may change -/
theorem lc_mapM {α : Type} {xs : List α} {c : α → D} {g : Tgt} {te : TED} {vs : List Nat} (f : α → D) (hok : ∀ p acc, G p = none → ok (gput G p (.lst acc))) (hl : xs.length ≤ sizeLine)
    (he : ∀ a, a ∈ xs → ∀ p acc, G p = none → ∃ σ2, g.put (c a) (wipeD σ vs) = some σ2 ∧ ∀ Q' : QD, Q' (f a) (gput G p (.lst acc)) → te σ2 (gput G p (.lst acc)) Q' (fun _ _ => False))
    (hq : ∀ p, G p = none → Q (.ref p) (gput G p (.lst (xs.map f)))) : LcG false (xs.map c) ok g dYes te vs σ G Q := by
  intro p hp
  refine ⟨fun pre G' => G' = gput G p (.lst ((xs.take pre.length).map f)), by simp, fun pre G' h => by rw [h]; exact hok p _ hp, fun pre x post G' e iv => ?_, fun G' iv => ?_⟩
  · subst iv
    have hlt : pre.length < xs.length := by
      have := congrArg List.length e
      simp at this
      omega
    have hx : xs[pre.length]? = some xs[pre.length] := List.getElem?_eq_getElem hlt
    have e2 : x = c xs[pre.length] := by
      have : (xs.map c)[pre.length]? = some x := by rw [e]; simp
      rw [List.getElem?_map, hx] at this
      exact (Option.some.inj this).symm
    subst e2
    obtain ⟨σ2, h1, h2⟩ := he _ (List.getElem_mem hlt) p ((xs.take pre.length).map f) hp
    refine ⟨σ2, h1, ?_⟩
    dsimp only [dYes]
    rw [if_pos rfl]
    have tk : xs.take (pre ++ [c xs[pre.length]]).length = xs.take pre.length ++ [xs[pre.length]] := by
      have := take_snoc hx
      simpa using this
    refine h2 _ ⟨_, gput_same, ?_, ?_⟩
    · rw [List.length_map, List.length_take]
      omega
    · rw [gput_gput, tk, List.map_append]
      rfl
  · subst iv
    refine ⟨_, gput_same, ?_⟩
    rw [if_neg Bool.false_ne_true]
    simpa using hq p hp
end
theorem bulkAll_le {B : Nat} : ∀ {xs : List PyData}, (∀ x ∈ xs, x.bulk ≤ B) → PyData.bulkAll xs ≤ (B + 1) * xs.length
  | [], _ => by simp [PyData.bulkAll]
  | x :: xs, h => by
    have a1 := h x (by simp)
    have a2 := bulkAll_le (xs := xs) fun y hy => h y (by simp [hy])
    simp only [PyData.bulkAll, List.length_cons, Nat.mul_add]
    omega
theorem fineAll_of {b n : Nat} : ∀ {xs : List PyData}, (∀ x ∈ xs, fine b n x) → fineAll b n xs
  | [], _ => by simp [fineAll]
  | x :: xs, h => by
    simp only [fineAll]
    exact ⟨h x (by simp), fineAll_of fun y hy => h y (by simp [hy])⟩
theorem pys_map {α : Type} {f : α → D} {g : α → PyData} (h : ∀ a, (f a).py = some (g a)) : ∀ xs : List α, pys (xs.map f) = some (xs.map g)
  | [] => rfl
  | x :: xs => by simp [pys, h x, pys_map h xs]
theorem st_neSame {x : Str} {A B : Prop} (h : B) : if (!decide (x = x)) = true then A else B := by
  rw [decide_eq_true (rfl : x = x)]; exact h
theorem st_eqSame {x : Str} {A B : Prop} (h : A) : if decide (x = x) = true then A else B := by
  rw [decide_eq_true (rfl : x = x)]; exact h
end DL

namespace DL
open PySem PySem.Spec PyProof.Rows L2
open PySem.W (Frag)
variable {X : Cx} {W : WX} {e o a b c value : Expr} {es : List Expr} {ta tb tc to tv : TED} {t u : TAD} {tA tB' : TTD} {pos pos' apos cpos : Pos}

/-! ### instances of own classes -/
/-- the value of a field -/
def lk (f : Str) : List Str → List D → Option D
  | n :: ns, d :: ds => if n = f then some d else lk f ns ds
  | _, _ => none
/-- a field stored -/
def stF (f : Str) (y : D) : List Str → List D → List Str × List D
  | n :: ns, d :: ds => if n = f then (n :: ns, y :: ds) else ((n :: (stF f y ns ds).1), (d :: (stF f y ns ds).2))
  | _, _ => ([f], [y])
theorem lk_zip {K H G} {f : Str} : ∀ {ns : List Str} {ds : List D} {xs : List V}, Rps K H G ds xs → ns.length = xs.length → (lk f ns ds = none ∧ (ns.zip xs).lookup f = none) ∨ ∃ d v, lk f ns ds = some d ∧ (ns.zip xs).lookup f = some v ∧ Rp K H G d v
  | [], _, _, _, _ => .inl ⟨by cases ‹List D› <;> rfl, rfl⟩
  | n :: ns, _, _, .nil, h => by simp at h
  | n :: ns, d :: ds, v :: xs, .cons r rs, h => by
    have ih := lk_zip (f := f) (ns := ns) rs (by simpa using h)
    by_cases e : n = f
    · subst e
      refine .inr ⟨d, v, by simp [lk], ?_, r⟩
      simp [List.zip_cons_cons, List.lookup]
    · have a1 : lk f (n :: ns) (d :: ds) = lk f ns ds := by simp [lk, e]
      have hb : (f == n) = false := beq_eq_false_iff_ne.mpr fun z => e z.symm
      have a2 : ((n :: ns).zip (v :: xs)).lookup f = (ns.zip xs).lookup f := by simp only [List.zip_cons_cons, List.lookup, hb]
      rw [a1, a2]
      exact ih
theorem stF_zip {K H G} {f : Str} {y : D} {w : V} (ry : Rp K H G y w) : ∀ {ns : List Str} {ds : List D} {xs : List V}, Rps K H G ds xs → ns.length = xs.length → ∃ zs, putF f w (ns.zip xs) = (stF f y ns ds).1.zip zs ∧ (stF f y ns ds).1.length = zs.length ∧ Rps K H G (stF f y ns ds).2 zs
  | [], _, [], .nil, _ => ⟨[w], rfl, rfl, .cons ry .nil⟩
  | [], _, _ :: _, _, h => by simp at h
  | n :: ns, _, _, .nil, h => by simp at h
  | n :: ns, d :: ds, v :: xs, .cons r rs, h => by
    obtain ⟨zs, e1, e2, e3⟩ := stF_zip (f := f) ry (ns := ns) rs (by simpa using h)
    by_cases e : n = f
    · refine ⟨w :: xs, ?_, ?_, ?_⟩
      · simp [putF, stF, e]
      · simp [stF, e]; simpa using h
      · simp only [stF, e, if_true]; exact .cons ry rs
    · refine ⟨v :: zs, ?_, ?_, ?_⟩
      · simp only [List.zip_cons_cons, putF, stF, e, if_false, e1]
      · simp only [stF, e, if_false, List.length_cons, e2]
      · simp only [stF, e, if_false]; exact .cons r e3
inductive InsD (G : HH) : D → Str → List Str → List D → Prop
  | obj (c : Str) (ns : List Str) (ds : List D) : InsD G (.obj c ns ds) c ns ds
  | ref {p : Addr} {c : Str} {ns : List Str} {ds : List D} : G p = some (.ins c ns ds) → InsD G (.ref p) c ns ds
theorem InsD.of {K H G x c ns ds v} (h : InsD G x c ns ds) (hR : RelH K H G) (p : Rp K H G x v) : ∃ a C dx xs, v = .ref a ∧ gaddr K c = some C ∧ H a = some (.ins C dx (ns.zip xs)) ∧ ns.length = xs.length ∧ Rps K H G ds xs := by
  cases h with
  | obj => cases p with | obj h1 h2 h3 h4 h5 => exact ⟨_, _, _, _, rfl, h1, h2, h4, h5⟩
  | ref e => cases p with | ref a => obtain ⟨C, dx, xs, h1, h2, h3, h4⟩ := hR _ _ e; exact ⟨_, C, dx, xs, rfl, h1, h2, h3, h4⟩
/-- of the classes cs one may read and store the field f -/
def FldOk (K : Frag) (cs : List Str) (f : Str) : Prop := ∀ c ∈ cs, ∀ C, gaddr K c = some C → Cls K C ∧ NoAttr K C f
def dFld (cs : List Str) (f : Str) (ta : TED) : TED := fun σ G Q E => ta σ G (fun x G1 => ∃ c ns ds d, InsD G1 x c ns ds ∧ c ∈ cs ∧ lk f ns ds = some d ∧ Q d G1) E
theorem de_fld {cs : List Str} {f : Str} (hF : FldOk X.K cs f) (ha : DE X W a ta) (hb : attributeBase a f X.env (eval a X.env) = eval a X.env := by rfl) : DE X W (.Attribute a f pos) (dFld cs f ta) :=
  PE.imp (pe_fld ha hb) fun σ H Q ⟨σD, G, QD, E, hR, hS, q, hq, hE⟩ => by
    refine ⟨σD, G, _, E, hR, hS, q, fun v1 H1 d1 G1 s1 r1 p1 ⟨c, ns, ds, d, hi, hc, hl, q1⟩ => ?_, hE⟩
    obtain ⟨a, C, dx, xs, rfl, h1, h2, h3, h4⟩ := hi.of r1 p1
    rcases lk_zip (f := f) h4 h3 with ⟨z, _⟩ | ⟨d', v, e1, e2, p2⟩
    · rw [hl] at z; cases z
    · rw [hl] at e1; cases e1
      obtain ⟨k1, k2⟩ := hF c hc C h1
      exact ⟨a, C, dx, _, v, rfl, h2, k1, k2, e2, hq _ _ _ _ s1 r1 p2 q1⟩
def dSetF (cs : List Str) (f : Str) (to tv : TED) : TSD := fun D σ G => tv σ G (fun y G1 => to σ G1 (fun x G2 => ∃ p c ns ds, x = .ref p ∧ G2 p = some (.ins c ns ds) ∧ c ∈ cs ∧ ns.length < 1000 ∧ D.nx σ (gput G2 p (.ins c (stF f y ns ds).1 (stF f y ns ds).2))) (fun x G' => D.ex x σ G')) (fun x G' => D.ex x σ G')
theorem ds_setF {cs : List Str} {f : Str} (hF : FldOk X.K cs f) (ho : DE X W o to) (hv : DE X W value tv) (hs : swapsWith value (some (.Attribute o f pos')) pos.line X.env = pure false := by rfl) : DS X W (.Assign [.Attribute o f pos'] value pos) (dSetF cs f to tv) :=
  PS.imp (ps_fld ho hv hs) fun D σ H ⟨σD, G, DD, hR, hS, q, he⟩ => by
    refine ⟨σD, G, _, _, hR, hS, q, fun v1 H1 d1 G1 s1 r1 p1 q1 => ?_, he.ex.at hS⟩
    refine ⟨σD, G1, _, _, r1, hS.mono s1, q1, fun v2 H2 d2 G2 s2 r2 p2 ⟨p, c, ns, ds, e1, e2, hc, l, z⟩ => ?_, (he.ex.at hS).mono s1⟩
    subst e1; cases p2
    obtain ⟨C, dx, xs, h1, h2, h3, h4⟩ := r2 _ _ e2
    obtain ⟨k1, k2⟩ := hF c hc C h1
    have s3 := Stp.put (H := H2) (o := .ins C dx (putF f v1 (ns.zip xs))) (od := .ins c (stF f d1 ns ds).1 (stF f d1 ns ds).2) e2
    obtain ⟨zs, z1, z2, z3⟩ := stF_zip (f := f) (p1.mono (s2.trans s3)) (h4.mono s3) h3
    refine ⟨p, C, dx, _, rfl, h2, k1, k2, by rw [List.length_zip]; omega, he.nx _ _ _ _ ((s1.trans s2).trans s3) (r2.put e2 ⟨C, dx, zs, h1, by rw [upd_same, z1], z2, z3⟩) (hS.mono ((s1.trans s2).trans s3)) z⟩

/-! ### a def run in any surrounding -/
section
variable {k : Nat} {f C : Addr} {fd : FuncData} {ps : List Str} {sp : SpD}
theorem guards_make {A : Around} (h : A.guards = some []) (C : Addr) (us : List Value) (kw : List (Str × Value)) : (A.under (.builtin "type.__call__" ⟨.ref C :: us, kw⟩)).guards = some [] := by
  first | exact h | (simpa [Around.under, Code.envs, Code.isFrame, pushEnvs] using h)
theorem run_makeG {pins : List (Addr × Obj)} {σ : L2.St} {H : Hp} {s : Shared} {Q : VK} {us : List Value} {vs : List V} (M : Mk X.K C f) (F : FnG X.prog X.w X.K X.mg X.base k f fd ps sp) (hg : X.A.guards = some []) (hr : Room (k + 1) X.A) (hb : Binds X.K fd ps []) (tk : Takes X W)
    (I : Inv X pins σ H s) (r : Vals vs us)
    (h : ∀ x dx, H x = none → H dx = none → dx ≠ x → lsp X.K sp (.ref x :: vs) (upd (upd H dx (.own x)) x (.ins C dx [])) (fun v H2 => v = .non ∧ Q (.ref x) H2) (WE W σ)) :
    wpAny (model X.prog X.w) X.A (call (.ref C) us) (EP X pins σ Q) X.xe s := by
  have hq := h (s.heap.objs.size + 1) s.heap.objs.size (I.hok.fresh (Nat.le_succ _)) (I.hok.fresh (Nat.le_refl _)) (Nat.ne_of_lt (Nat.lt_succ_self _))
  have I2 := Inv.made (C := C) I
  have r2 : Vals (V.ref (s.heap.objs.size + 1) :: vs) (Value.ref (s.heap.objs.size + 1) :: us) := .cons rfl r
  have hl : (Value.ref (s.heap.objs.size + 1) :: us).length = ps.length := by rw [← r2.length]; exact F.llen hq
  have b := hb _ (Value.ref (s.heap.objs.size + 1) :: us) I2.kIn (by rw [List.append_nil]; exact hl)
  rw [List.append_nil] at b
  refine wpAny_call (make_map (f := f) I.kIn M.makes M.init (beq_iff_eq.mp M.fn) (codeAny_mono (F.run _ X.stack _ _ ⟨Value.ref (s.heap.objs.size + 1) :: us, []⟩ _ _ _ (WE W σ) (guards_make hg C us []) (hr.make C us []) (I2.env0.make C us []) b r2 hq) fun r s' hq' => ?_))
  cases r with
  | error e => exact passAt tk σ pins _ _ e s' I2 hq'
  | ok fl =>
    cases fl with
    | ret u =>
      obtain ⟨v, H', I3, rv, ev, q3⟩ := I2.after hq'
      subst ev
      exact ⟨rv, ⟨V.ref (s.heap.objs.size + 1), H', I3, rfl, q3⟩⟩
    | next => exact False.elim hq'
    | brk => exact False.elim hq'
    | cont => exact False.elim hq'
/-- C(..): a new instance, then __init__; fr: it is frozen behind -/
def dMake (fr : Bool) (c : Str) (sp : SpD) (t : TAD) : TED := fun σ G Q E => t σ G (fun ds G1 => ∀ p, G1 p = none → sp (.ref p :: ds) (gput G1 p (.ins c [] []))
  (fun v G2 => v = .non ∧ if fr = true then ∃ ns vs, G2 p = some (.ins c ns vs) ∧ Q (.obj c ns vs) (gdel G2 p) else Q (.ref p) G2) E) E
theorem upd_comm {H : Hp} {a b : Addr} {u v : HO} (h : a ≠ b) : upd (upd H a u) b v = upd (upd H b v) a u := by
  funext c
  by_cases h1 : c = a
  · subst h1
    rw [upd_ne h, upd_same, upd_same]
  · by_cases h2 : c = b
    · subst h2
      rw [upd_same, upd_ne h1, upd_same]
    · rw [upd_ne h2, upd_ne h1, upd_ne h1, upd_ne h2]
theorem thaw_ins {K H G c p ns ds} (hR : RelH K H G) (e : G p = some (.ins c ns ds)) : Rp K H (gdel G p) (.obj c ns ds) (.ref p) := by
  obtain ⟨C, dx, xs, h1, h2, h3, h4⟩ := hR _ _ e
  exact .obj h1 h2 gdel_same h3 (h4.mono Stp.del)
theorem lft_make {K : Frag} {c : Str} {C : Addr} {fr : Bool} {σ : L2.St} {H : Hp} {Q : VK} (hC : gaddr K c = some C) (h : lft K W (dMake fr c sp t) σ H Q) :
    lftA K W t σ H fun vs H1 => ∀ x dx, H1 x = none → H1 dx = none → dx ≠ x → lsp K sp (.ref x :: vs) (upd (upd H1 dx (.own x)) x (.ins C dx [])) (fun v H2 => v = .non ∧ Q (.ref x) H2) (WE W σ) := by
  obtain ⟨σD, G, QD, E, hR, hS, q, hq, hE⟩ := h
  refine ⟨σD, G, _, E, hR, hS, q, fun vs H1 ds G1 s1 r1 p1 q1 => ?_, hE⟩
  intro x dx hx hdx hne
  have s2 := Stp.new (G := G1) (o := .own x) hdx
  have r2 := r1.new (o := .own x) hdx
  have hx2 : (upd H1 dx (.own x)) x = none := by rw [upd_ne (fun z => hne z.symm)]; exact hx
  have s3 := Stp.newM (G := G1) (o := .ins C dx []) (od := .ins c [] []) hx2
  have r3 := r2.newM (o := .ins C dx []) (od := .ins c [] []) hx2 ⟨C, dx, [], hC, by rw [upd_same]; rfl, rfl, .nil⟩
  have s23 := s2.trans s3
  refine ⟨.ref x :: ds, gput G1 x (.ins c [] []), _, E, r3, .cons (.ref x) (p1.mono s23), q1 x (r1.free hx), fun v H4 d G4 s4 r4 p4 ⟨e4, z4⟩ => ?_, fun xd cls d H4 G4 s4 r4 p4 z4 => hE _ _ _ _ _ ((s1.trans s23).trans s4) r4 p4 z4⟩
  subst e4; cases p4
  refine ⟨rfl, ?_⟩
  cases fr with
  | true =>
    rw [if_pos rfl] at z4
    obtain ⟨ns, ws, e5, z5⟩ := z4
    exact hq _ _ _ _ ((s1.trans s23).trans (s4.trans Stp.del)) r4.del (thaw_ins r4 e5) z5
  | false =>
    rw [if_neg Bool.false_ne_true] at z4
    exact hq _ _ _ _ ((s1.trans s23).trans s4) r4 (.ref x) z4
theorem de_make {c x : Str} {p : Pos} (fr : Bool) (hC : gaddr X.K c = some C) (M : Mk X.K C f) (F : FnG X.prog X.w X.K X.mg X.base k f fd ps sp) (hgd : X.A.guards = some []) (hr : Room (k + 1) X.A) (hg : Gl X x) (hm : X.mg x = some (.ref C)) (hb : Binds X.K fd ps []) (tk : Takes X W)
    (ha : DA X W (e :: es) t) (hdb : (x == ("__debug__" : Str)) = false := by decide) (he : starEach (e :: es) X.env = (false, eval e X.env) :: starEach es X.env := by rfl) (hpl : (backTo pos (starEach es X.env)).any (·.1) = false := by rfl) :
    DE X W (.Call (.Name x p) (e :: es) [] pos) (dMake fr c sp t) := by
  have ha' : PA X (e :: es) (lftA X.K W t) := ha
  refine ⟨fun pins s σ H Q I h => ?_⟩
  refine wpAny_Call_Name_kw (ld_glob I hg hm ?_ hdb)
  exact PySem.W.callWith_K (h₀ := X.base) I.ok.mod.kin M.kp (thn (ha'.run pos pins s σ H _ I (lft_make hC h)) fun us s1 ⟨vs, H1, I1, r, q⟩ => ⟨I1.kIn, run_makeG M F hgd hr hb tk I1 r q⟩) he hpl
theorem de_make0 {c x : Str} {p : Pos} (fr : Bool) (hC : gaddr X.K c = some C) (M : Mk X.K C f) (F : FnG X.prog X.w X.K X.mg X.base k f fd ps sp) (hgd : X.A.guards = some []) (hr : Room (k + 1) X.A) (hg : Gl X x) (hm : X.mg x = some (.ref C)) (hb : Binds X.K fd ps []) (tk : Takes X W)
    (hdb : (x == ("__debug__" : Str)) = false := by decide) : DE X W (.Call (.Name x p) [] [] pos) (dMake fr c sp dNil) := by
  refine ⟨fun pins s σ H Q I h => ?_⟩
  refine wpAny_Call_Name_kw (ld_glob I hg hm ?_ hdb)
  have h2 := lft_make hC h
  obtain ⟨σD, G, QD, E, hR, hS, q, hq, hE⟩ := h2
  exact PySem.W.callWith_K0 I.kIn M.kp (run_makeG (us := []) (vs := []) M F hgd hr hb tk I .nil (hq [] H [] G Stp.refl hR .nil q))
/-- o.m(..) -/
def dMeth (c m : Str) (sp : SpD) (ta : TED) (t : TAD) : TED := fun σ G Q E => ta σ G (fun x G1 => ∃ ns ds, InsD G1 x c ns ds ∧ lk m ns ds = none ∧ t σ G1 (fun as G2 => sp (x :: as) G2 Q E) E) E
theorem de_meth {c m : Str} {pl : Sem Bool} (hC : gaddr X.K c = some C) (hcl : Cls X.K C) (hm : Meth X.K C m f) (F : FnG X.prog X.w X.K X.mg X.base k f fd ps sp) (hgd : X.A.guards = some []) (hr : Room k X.A) (hb : Binds X.K fd ps []) (tk : Takes X W) (ho : DE X W o to) (ha : DA X W (e :: es) t)
    (hst : starEach (e :: es) X.env = (false, eval e X.env) :: starEach es X.env := by rfl) (hpl : (backTo pos (starEach es X.env)).any (·.1) = false := by rfl)
    (ht : eval (.Call (.Attribute o m apos) (e :: es) [] pos) X.env = (do
      let ov ← eval o X.env
      standAt apos.atName
      let (f, first) ← holding [ov] (getMethod ov m pl)
      callWith pos f first (backTo pos (starEach (e :: es) X.env)) (backToKw pos (keywordEach [] X.env))) := by rfl) :
    DE X W (.Call (.Attribute o m apos) (e :: es) [] pos) (dMeth c m sp to t) := by
  have ha' : PA X (e :: es) (lftA X.K W t) := ha
  have ho' : PE X o (lft X.K W to) := ho
  refine ⟨fun pins s σ H Q I ⟨σD, G, QD, E, hR, hS, q, hq, hE⟩ => ?_⟩
  refine PySem.W.methodCall_KW (pl := pl) (thn (ho'.run pins s σ H (fun v H1 => ∃ d G1, Stp H G H1 G1 ∧ RelH X.K H1 G1 ∧ Rp X.K H1 G1 d v ∧ ∃ ns ds, InsD G1 d c ns ds ∧ lk m ns ds = none ∧ t σD G1 (fun as G2 => sp (d :: as) G2 QD E) E) I ⟨σD, G, _, E, hR, hS, q, fun v H1 d G1 s1 r1 p1 z => ⟨d, G1, s1, r1, p1, z⟩, hE⟩) fun u s1 ⟨x, H1, I1, rx, d, G1, s1', r1, p1, ns, ds, hi, hl, q1⟩ => ?_) ht
  obtain ⟨a, C', dx, xs, ex, h1, h2, h3, h4⟩ := hi.of r1 p1
  rw [hC] at h1; cases h1
  subst ex
  obtain rfl : u = Value.ref a := rx
  have hl' : (ns.zip xs).lookup m = none := by
    rcases lk_zip (f := m) h4 h3 with ⟨_, z⟩ | ⟨d', v, e1, _, _⟩
    · exact z
    · rw [hl] at e1; cases e1
  refine getmeth_ok I1 h2 hcl hm hl' ?_
  refine PySem.W.callWith_K (first := [.ref a]) (h₀ := X.base) I.ok.mod.kin hm.kp (thn (ha'.run pos pins s1 σ H1 (fun vs H2 => lsp X.K sp (.ref a :: vs) H2 Q (WE W σ)) I1 ⟨σD, G1, _, E, r1, hS.mono s1', q1, fun vs H2 as G2 s2 r2 p2 q2 => ?_, hE.mono s1'⟩) fun us s2 ⟨vs, H2, I2, r, q2⟩ => ⟨I2.kIn, ?_⟩) hst hpl
  · exact ⟨d :: as, G2, QD, E, r2, .cons (p1.mono s2) p2, q2, hq.mono (s1'.trans s2), fun xd cls d' H' G' s' r' p' z' => hE _ _ _ _ _ ((s1'.trans s2).trans s') r' p' z'⟩
  · exact run_call F hgd hr hb tk I2 (us := Value.ref a :: us) (vs := V.ref a :: vs) (.cons rfl r) q2
theorem de_meth0 {c m : Str} {pl : Sem Bool} (hC : gaddr X.K c = some C) (hcl : Cls X.K C) (hm : Meth X.K C m f) (F : FnG X.prog X.w X.K X.mg X.base k f fd ps sp) (hgd : X.A.guards = some []) (hr : Room k X.A) (hb : Binds X.K fd ps []) (tk : Takes X W) (ho : DE X W o to)
    (ht : eval (.Call (.Attribute o m apos) [] [] pos) X.env = (do
      let ov ← eval o X.env
      standAt apos.atName
      let (f, first) ← holding [ov] (getMethod ov m pl)
      callWith pos f first (backTo pos (starEach [] X.env)) (backToKw pos (keywordEach [] X.env))) := by rfl) :
    DE X W (.Call (.Attribute o m apos) [] [] pos) (dMeth c m sp to dNil) := by
  have ho' : PE X o (lft X.K W to) := ho
  refine ⟨fun pins s σ H Q I ⟨σD, G, QD, E, hR, hS, q, hq, hE⟩ => ?_⟩
  refine PySem.W.methodCall_KW (pl := pl) (thn (ho'.run pins s σ H (fun v H1 => ∃ d G1, Stp H G H1 G1 ∧ RelH X.K H1 G1 ∧ Rp X.K H1 G1 d v ∧ ∃ ns ds, InsD G1 d c ns ds ∧ lk m ns ds = none ∧ sp [d] G1 QD E) I ⟨σD, G, _, E, hR, hS, q, fun v H1 d G1 s1 r1 p1 z => ⟨d, G1, s1, r1, p1, z⟩, hE⟩) fun u s1 ⟨x, H1, I1, rx, d, G1, s1', r1, p1, ns, ds, hi, hl, q1⟩ => ?_) ht
  obtain ⟨a, C', dx, xs, ex, h1, h2, h3, h4⟩ := hi.of r1 p1
  rw [hC] at h1; cases h1
  subst ex
  obtain rfl : u = Value.ref a := rx
  have hl' : (ns.zip xs).lookup m = none := by
    rcases lk_zip (f := m) h4 h3 with ⟨_, z⟩ | ⟨d', v, e1, _, _⟩
    · exact z
    · rw [hl] at e1; cases e1
  refine getmeth_ok I1 h2 hcl hm hl' ?_
  exact PySem.W.callWith_K0 (first := [.ref a]) I1.kIn hm.kp (run_call F hgd hr hb tk I1 (us := [.ref a]) (vs := [.ref a]) (.cons rfl .nil) ⟨[d], G1, QD, E, r1, .cons p1 .nil, q1, hq.mono s1', fun xd cls d' H' G' s' r' p' z' => hE _ _ _ _ _ (s1'.trans s') r' p' z'⟩)
end
end DL

namespace DL
open PySem PySem.Spec PyProof.Rows L2
open PySem.W (Frag)
variable {X : Cx} {W : WX} {e o a b c value : Expr} {es : List Expr} {ta tb tc to tv : TED} {t u : TAD} {tA tB' : TTD} {pos pos' apos cpos : Pos}

theorem vref (a : Addr) : RelV (V.ref a) (Value.ref a) := rfl
/-! ### special methods that raise nothing -/
theorem fr_of {pins : List (Addr × Obj)} {σ : L2.St} {H : Hp} {s : Shared} (I : Inv X pins σ H s) : ∃ m, Fr X.base X.env.locals s.heap m := by
  obtain ⟨m, hm, _⟩ := I.loc
  exact ⟨m, hm, I.bk, Nat.le_trans I.ok.bsz I.ok.above⟩
theorem inst_of {pins : List (Addr × Obj)} {σ : L2.St} {H : Hp} {s : Shared} {a C dx : Addr} {fs : List (Str × V)} (I : Inv X pins σ H s) (h : H a = some (.ins C dx fs)) : ∃ ox od, PySem.W.InstAt s.heap a ox C od ∧ ox.data = .plain := by
  obtain ⟨mA, O, _⟩ := ins_get I.hok h
  obtain ⟨od, J, _⟩ := O.look
  exact ⟨_, _, J, rfl⟩
section
variable {k : Nat} {f C : Addr} {fd : FuncData} {ps : List Str} {sp : SpD}
theorem run_at {A' : Around} {pins : List (Addr × Obj)} {σ : L2.St} {H : Hp} {s : Shared} {Q : VK} {us : List Value} {vs : List V} (F : FnG X.prog X.w X.K X.mg X.base k f fd ps sp) (hg : A'.guards = some []) (hr : Room k A') (e0 : Env0 X.prog X.w X.K X.mg X.base A' X.stack s H) (hb : Binds X.K fd ps [])
    (I : Inv X pins σ H s) (r : Vals vs us) (h : lsp X.K sp vs H Q E0) : wpAny (model X.prog X.w) A' (call (.ref f) us) (EP X pins σ Q) X.xe s := by
  have hl : us.length = ps.length := by rw [← r.length]; exact F.llen h
  have b := hb s us I.kIn (by rw [List.append_nil]; exact hl)
  rw [List.append_nil] at b
  refine wpAny_call (codeAny_mono (F.run A' X.stack s H ⟨us, []⟩ us vs Q E0 hg hr e0 b r h) fun r s' hq => ?_)
  cases r with
  | error e => exact passL pins σ H s e s' I hq
  | ok fl =>
    cases fl with
    | ret u => exact I.after hq
    | next => exact False.elim hq
    | brk => exact False.elim hq
    | cont => exact False.elim hq
/-- an own promise, read at V: with nothing raised -/
theorem lsp0 {K : Frag} {H : Hp} {G : HH} {ds : List D} {vs : List V} {QD : QD} {Q : VK} (hR : RelH K H G) (hp : Rps K H G ds vs) (q : sp ds G QD (fun _ _ => False)) (hq : Ct K H G Q QD) : lsp K sp vs H Q E0 :=
  ⟨ds, G, QD, _, hR, hp, q, hq, fun _ _ _ _ _ _ _ _ z => z⟩
/-- y in o -/
def rInO (neg : Bool) (c : Str) (sp : SpD) : D → D → HH → QD → Prop := fun x y G Q => ∃ ns ds, InsD G y c ns ds ∧ sp [y, x] G (fun v G1 => ∃ b, v = .bl b ∧ Q (.bl (if neg then !b else b)) G1) (fun _ _ => False)
theorem guards_in1 {A : Around} (h : A.guards = some []) : A.in1.guards = some [] := h
theorem oInO {c : Str} (hC : gaddr X.K c = some C) (hm : Meth X.K C "__contains__" f) (F : FnG X.prog X.w X.K X.mg X.base k f fd ps sp) (hg : X.A.guards = some []) (hr : Room k X.A) (hb : Binds X.K fd ps []) : OpD X (compareOp .In) (rInO false c sp) :=
  ⟨fun x y H Q => ∃ a dx fs, y = .ref a ∧ H a = some (.ins C dx fs) ∧ lsp X.K sp [y, x] H (fun v H1 => ∃ b, v = .bl b ∧ Q (.bl b) H1) E0, fun pins s σ H x y v u Q I rx ry ⟨a, dx, fs, ey, ha, q⟩ => by
    subst ey
    obtain rfl : u = Value.ref a := ry
    obtain ⟨m, fr⟩ := fr_of I
    obtain ⟨ox, od, J, _⟩ := inst_of I ha
    refine PySem.W.in_K fr I.ok.mod.kin J hm.at_ hm.fn (wpAny_mono (run_at F hg hr I.env0 hb I (us := [.ref a, v]) (.cons (vref a) (.cons rx .nil)) q) (fun r s' hr' => ?_) fun _ _ z => z)
    obtain ⟨w, H', J', rw', b, ew, q'⟩ := hr'
    subst ew
    obtain rfl : r = Value.bool b := rw'
    exact wpAny_truthy_bool ⟨.bl b, H', J', rfl, q'⟩, fun x y H Q dx dy G QD hR px py ⟨ns, ds, hi, q⟩ hq => by
    obtain ⟨a, C', dx', xs, e1, h1, h2, h3, h4⟩ := hi.of hR py
    rw [hC] at h1; cases h1
    refine ⟨a, dx', _, e1, h2, lsp0 hR (.cons py (.cons px .nil)) q fun v H' d G' s' r' p' ⟨b, e, z⟩ => ?_⟩
    subst e; cases p'
    exact ⟨b, rfl, hq _ _ _ _ s' r' (.bl _) z⟩⟩
theorem oNotInO {c : Str} (hC : gaddr X.K c = some C) (hm : Meth X.K C "__contains__" f) (F : FnG X.prog X.w X.K X.mg X.base k f fd ps sp) (hg : X.A.guards = some []) (hr : Room k X.A) (hb : Binds X.K fd ps []) : OpD X (compareOp .NotIn) (rInO true c sp) :=
  ⟨fun x y H Q => ∃ a dx fs, y = .ref a ∧ H a = some (.ins C dx fs) ∧ lsp X.K sp [y, x] H (fun v H1 => ∃ b, v = .bl b ∧ Q (.bl (!b)) H1) E0, fun pins s σ H x y v u Q I rx ry ⟨a, dx, fs, ey, ha, q⟩ => by
    subst ey
    obtain rfl : u = Value.ref a := ry
    obtain ⟨m, fr⟩ := fr_of I
    obtain ⟨ox, od, J, _⟩ := inst_of I ha
    refine PySem.W.notIn_K fr I.ok.mod.kin J hm.at_ hm.fn (wpAny_mono (run_at F hg hr I.env0 hb I (us := [.ref a, v]) (.cons (vref a) (.cons rx .nil)) q) (fun r s' hr' => ?_) fun _ _ z => z)
    obtain ⟨w, H', J', rw', b, ew, q'⟩ := hr'
    subst ew
    obtain rfl : r = Value.bool b := rw'
    exact wpAny_truthy_bool ⟨.bl (!b), H', J', rfl, q'⟩, fun x y H Q dx dy G QD hR px py ⟨ns, ds, hi, q⟩ hq => by
    obtain ⟨a, C', dx', xs, e1, h1, h2, h3, h4⟩ := hi.of hR py
    rw [hC] at h1; cases h1
    refine ⟨a, dx', _, e1, h2, lsp0 hR (.cons py (.cons px .nil)) q fun v H' d G' s' r' p' ⟨b, e, z⟩ => ?_⟩
    subst e; cases p'
    exact ⟨b, rfl, hq _ _ _ _ s' r' (.bl _) z⟩⟩
/-- len(o) -/
def kLenO (c : Str) (sp : SpD) : RCD := c1 fun x G Q => ∃ ns ds, InsD G x c ns ds ∧ sp [x] G (fun v G1 => ∃ n : Int, v = .int n ∧ 0 ≤ n ∧ n < 2 ^ 63 ∧ Q (.int n) G1) (fun _ _ => False)
theorem cLenO {c : Str} (hC : gaddr X.K c = some C) (hm : Meth X.K C "__len__" f) (F : FnG X.prog X.w X.K X.mg X.base k f fd ps sp) (hg : X.A.guards = some []) (hr : Room (k + 1) X.A) (hb : Binds X.K fd ps []) : CallD X (.builtin "len") (kLenO c sp) :=
  ⟨fun xs H Q => ∃ a dx fs, xs = [.ref a] ∧ H a = some (.ins C dx fs) ∧ lsp X.K sp [.ref a] H (fun v H1 => ∃ n : Int, v = .int n ∧ 0 ≤ n ∧ n < 2 ^ 63 ∧ Q (.int n) H1) E0, fun pins s σ H xs us Q I r ⟨a, dx, fs, ex, ha, q⟩ => by
    subst ex
    obtain ⟨u, rfl, ru⟩ := vals1 r
    obtain rfl : u = Value.ref a := ru
    obtain ⟨m, fr⟩ := fr_of I
    obtain ⟨ox, od, J, _⟩ := inst_of I ha
    refine PySem.W.len_K fr I.ok.mod.kin J hm.at_ hm.fn (wpAny_mono (run_at F (guards_in1 hg) hr.in1 I.env0.in1 hb I (us := [.ref a]) (.cons (vref a) .nil) q) (fun r s' hr' => ?_) fun _ _ z => z)
    obtain ⟨w, H', J', rw', n, ew, h0, h1, q'⟩ := hr'
    subst ew
    obtain ⟨tk, rfl⟩ := rw'
    exact ⟨⟨h0, h1⟩, .int n, H', J'.tok _, ⟨_, rfl⟩, q'⟩, fun xs H Q ds G QD hR hp ⟨x, e, ns, ds', hi, q⟩ hq => by
    subst e
    obtain ⟨v, rfl, px⟩ := rps1 hp
    obtain ⟨a, C', dx', xs', e1, h1, h2, h3, h4⟩ := hi.of hR px
    rw [hC] at h1; cases h1
    subst e1
    refine ⟨a, dx', _, rfl, h2, lsp0 hR (.cons px .nil) q fun v H' d G' s' r' p' ⟨n, e, z0, z1, z⟩ => ?_⟩
    subst e; cases p'
    exact ⟨n, rfl, z0, z1, hq _ _ _ _ s' r' (.int _) z⟩⟩
/-- repr(o) -/
def kReprO (c : Str) (sp : SpD) : RCD := c1 fun x G Q => ∃ ns ds, InsD G x c ns ds ∧ sp [x] G (fun v G1 => ∃ z, v = .str z ∧ Q (.str z) G1) (fun _ _ => False)
theorem cReprO {c : Str} (hC : gaddr X.K c = some C) (hm : Meth X.K C "__repr__" f) (F : FnG X.prog X.w X.K X.mg X.base k f fd ps sp) (hg : X.A.guards = some []) (hr : Room (k + 1) X.A) (hb : Binds X.K fd ps []) : CallD X (.builtin "repr") (kReprO c sp) :=
  ⟨fun xs H Q => ∃ a dx fs, xs = [.ref a] ∧ H a = some (.ins C dx fs) ∧ lsp X.K sp [.ref a] H (fun v H1 => ∃ z, v = .str z ∧ Q (.str z) H1) E0, fun pins s σ H xs us Q I r ⟨a, dx, fs, ex, ha, q⟩ => by
    subst ex
    obtain ⟨u, rfl, ru⟩ := vals1 r
    obtain rfl : u = Value.ref a := ru
    obtain ⟨m, fr⟩ := fr_of I
    obtain ⟨ox, od, J, _⟩ := inst_of I ha
    have hu : X.A.in1.units < cLine := by have := hr.in1.un; omega
    refine PySem.W.repr_K hu fr I.ok.mod.kin J hm.at_ hm.fn (wpAny_mono (run_at F (guards_in1 hg) hr.in1 I.env0.in1 hb I (us := [.ref a]) (.cons (vref a) .nil) q) (fun r s' hr' => ?_) fun _ _ z => z)
    obtain ⟨w, H', J', rw', n, ew, q'⟩ := hr'
    subst ew
    obtain ⟨tk, rfl⟩ := rw'
    exact ⟨.str n, H', J', ⟨_, rfl⟩, q'⟩, fun xs H Q ds G QD hR hp ⟨x, e, ns, ds', hi, q⟩ hq => by
    subst e
    obtain ⟨v, rfl, px⟩ := rps1 hp
    obtain ⟨a, C', dx', xs', e1, h1, h2, h3, h4⟩ := hi.of hR px
    rw [hC] at h1; cases h1
    subst e1
    refine ⟨a, dx', _, rfl, h2, lsp0 hR (.cons px .nil) q fun v H' d G' s' r' p' ⟨n, e, z⟩ => ?_⟩
    subst e; cases p'
    exact ⟨n, rfl, hq _ _ _ _ s' r' (.str _) z⟩⟩
end
end DL

namespace DL
open PySem PySem.Spec PyProof.Rows L2
open PySem.W (Frag)
variable {X : Cx} {W : WX} {e o a b c value : Expr} {es : List Expr} {ta tb tc to tv : TED} {t u : TAD} {tA tB' : TTD} {pos pos' apos cpos : Pos}
section
variable {k : Nat} {f g C p : Addr} {fd : FuncData} {ps : List Str} {sp : SpD}
/-! ### properties -/
theorem getpropG {n : Str} {pins : List (Addr × Obj)} {σ : L2.St} {H : Hp} {s : Shared} {Q : VK} {a dx : Addr} {fs : List (Str × V)} {bb : Bool} {E' : Value → Shared → Prop} (I : Inv X pins σ H s) (ea : H a = some (.ins C dx fs)) (cl : Cls X.K C) (hp : PropOf X.K C n p g)
    (F : FnG X.prog X.w X.K X.mg X.base k g fd ps sp) (hg : X.A.guards = some []) (hr : Room (k + 1) X.A) (hb : Binds X.K fd ps []) (h : lsp X.K sp [.ref a] H Q E0) :
    wpAny (model X.prog X.w) X.A (getAttr (.ref a) n bb) (EP X pins σ Q) E' s := by
  obtain ⟨mA, O, _, _, _, _⟩ := ins_get I.hok ea
  obtain ⟨od, J, _⟩ := O.look
  obtain ⟨rest, hrec⟩ := hp.rec_
  have I1 := I.tok (s.toks + 1)
  have hl : [Value.ref a].length = ps.length := F.llen h
  have b1 := hb { s with toks := s.toks + 1 } [Value.ref a] I1.kIn (by rw [List.append_nil]; exact hl)
  rw [List.append_nil] at b1
  have hc : (PySem.W.clsIn X.K C).isSome = true := by
    obtain ⟨cd, hc, _⟩ := PySem.W.any_some cl.hd
    rw [hc]
    rfl
  refine PySem.W.get_bind I.kIn J (PySem.W.plainGet_of (cl.get n)).1 (PySem.W.findObj_data hc hp.at_ hp.get hp.tak) (PySem.W.plainGet_of (cl.get n)).2 (wpAny_call (PySem.W.prop_get (s := { s with toks := s.toks + 1 }) I.kIn hrec ?_))
  refine codeAny_mono (F.run X.A.in1 X.stack { s with toks := s.toks + 1 } H ⟨[.ref a], []⟩ [.ref a] [.ref a] Q E0 (guards_in1 hg) hr.in1 I1.env0.in1 b1 (.cons (vref a) .nil) h) fun r s' hq => ?_
  cases r with
  | error er => exact False.elim (passL (X := X.nox) pins σ H { s with toks := s.toks + 1 } er s' (I1.wish _) hq)
  | ok fl =>
    cases fl with
    | ret u =>
      obtain ⟨v, H', I3, rv, q3⟩ := I1.after hq
      show wpAny _ _ (handedOut u) _ _ _
      rw [PySem.W.handedOut_of (handed_of rv)]
      exact wpAny_pure ⟨v, H', I3, rv, q3⟩
    | next => exact False.elim hq
    | brk => exact False.elim hq
    | cont => exact False.elim hq
def dProp (c : Str) (sp : SpD) (ta : TED) : TED := fun σ G Q E => ta σ G (fun x G1 => ∃ ns ds, InsD G1 x c ns ds ∧ sp [x] G1 Q (fun _ _ => False)) E
theorem de_prop {c n : Str} (hC : gaddr X.K c = some C) (cl : Cls X.K C) (hp : PropOf X.K C n p g) (F : FnG X.prog X.w X.K X.mg X.base k g fd ps sp) (hg : X.A.guards = some []) (hr : Room (k + 1) X.A) (hb : Binds X.K fd ps []) (ha : DE X W a ta)
    (hab : attributeBase a n X.env (eval a X.env) = eval a X.env := by rfl) : DE X W (.Attribute a n pos) (dProp c sp ta) := by
  have ha' : PE X a (lft X.K W ta) := ha
  refine ⟨fun pins s σ H Q I ⟨σD, G, QD, E, hR, hS, q, hq, hE⟩ => ?_⟩
  refine attr_of hab (thn (ha'.run pins s σ H (fun v H1 => ∃ d G1, Stp H G H1 G1 ∧ RelH X.K H1 G1 ∧ Rp X.K H1 G1 d v ∧ ∃ ns ds, InsD G1 d c ns ds ∧ sp [d] G1 QD (fun _ _ => False)) I ⟨σD, G, _, E, hR, hS, q, fun v H1 d G1 s1 r1 p1 z => ⟨d, G1, s1, r1, p1, z⟩, hE⟩) fun u s1 ⟨x, H1, I1, rx, d, G1, s1', r1, p1, ns, ds, hi, q1⟩ => ?_)
  obtain ⟨a, C', dx, xs, ex, h1, h2, h3, h4⟩ := hi.of r1 p1
  rw [hC] at h1; cases h1
  subst ex
  obtain rfl : u = Value.ref a := rx
  exact getpropG I1 h2 cl hp F hg hr hb (lsp0 r1 (.cons p1 .nil) q1 (hq.mono s1'))
/-! ### the truth of an instance with __bool__ -/
def dTruO (c : Str) (sp : SpD) (ta : TED) : TTD := fun σ G Q E => ta σ G (fun x G1 => ∃ ns ds, InsD G1 x c ns ds ∧ sp [x] G1 (fun v G2 => ∃ b, v = .bl b ∧ Q b G2) (fun _ _ => False)) E
theorem truthyO {c : Str} {pins : List (Addr × Obj)} {σ : L2.St} {H : Hp} {s : Shared} {a dx : Addr} {fs : List (Str × V)} {Q : Bool → Hp → Prop} (hm : Meth X.K C "__bool__" f) (F : FnG X.prog X.w X.K X.mg X.base k f fd ps sp) (hg : X.A.guards = some []) (hr : Room k X.A) (hb : Binds X.K fd ps []) (I : Inv X pins σ H s) (ea : H a = some (.ins C dx fs))
    (h : lsp X.K sp [.ref a] H (fun v H1 => ∃ b, v = .bl b ∧ Q b H1) E0) : wpAny (model X.prog X.w) X.A (truthy (.ref a)) (fun b s' => ∃ H', Inv X pins σ H' s' ∧ Q b H') X.xe s := by
  obtain ⟨m, fr⟩ := fr_of I
  obtain ⟨ox, od, J, _⟩ := inst_of I ea
  refine PySem.W.truthy_K fr I.ok.mod.kin J hm.at_ hm.fn (wpAny_mono (run_at F hg hr I.env0 hb I (us := [.ref a]) (.cons (vref a) .nil) h) (fun r s' hr' => ?_) fun _ _ z => z)
  obtain ⟨w, H', J', rw', b, ew, q'⟩ := hr'
  subst ew
  obtain rfl : r = Value.bool b := rw'
  exact ⟨H', J', q'⟩
theorem dt_truO {c : Str} (hC : gaddr X.K c = some C) (hm : Meth X.K C "__bool__" f) (F : FnG X.prog X.w X.K X.mg X.base k f fd ps sp) (hg : X.A.guards = some []) (hr : Room k X.A) (hb : Binds X.K fd ps []) (ha : DE X W a ta)
    (he : ∀ whole, isTrue a X.env whole = (do let v ← whole; standAt a.pos; holding [v] (truthy v)) := by intro _; rfl) : DT X W a (dTruO c sp ta) := by
  have ha' : PE X a (lft X.K W ta) := ha
  refine ⟨fun pins s σ H Q I ⟨σD, G, QD, E, hR, hS, q, hq, hE⟩ => ?_⟩
  refine isTrue_plain (thn (ha'.run pins s σ H (fun v H1 => ∃ d G1, Stp H G H1 G1 ∧ RelH X.K H1 G1 ∧ Rp X.K H1 G1 d v ∧ ∃ ns ds, InsD G1 d c ns ds ∧ sp [d] G1 (fun v G2 => ∃ b, v = .bl b ∧ QD b G2) (fun _ _ => False)) I ⟨σD, G, _, E, hR, hS, q, fun v H1 d G1 s1 r1 p1 z => ⟨d, G1, s1, r1, p1, z⟩, hE⟩) fun u s1 ⟨x, H1, I1, rx, d, G1, s1', r1, p1, ns, ds, hi, q1⟩ => ?_) (he _)
  obtain ⟨a, C', dx, xs, ex, h1, h2, h3, h4⟩ := hi.of r1 p1
  rw [hC] at h1; cases h1
  subst ex
  obtain rfl : u = Value.ref a := rx
  exact truthyO (c := c) hm F hg hr hb I1 h2 (lsp0 r1 (.cons p1 .nil) q1 fun v H' d G' s' r' p' ⟨b, e, z⟩ => by
    subst e; cases p'
    exact ⟨b, rfl, hq _ _ _ (s1'.trans s') r' z⟩)
/-! ### operators of own classes -/
def dOpO (c : Str) (sp : SpD) (ta tb : TED) : TED := fun σ G Q E => ta σ G (fun x G1 => tb σ G1 (fun y G2 => ∃ ns ds ns' ds', InsD G2 x c ns ds ∧ InsD G2 y c ns' ds' ∧ sp [x, y] G2 Q E) E) E
theorem InsD.mono' {K H G H' G' x c ns ds v} (h : InsD G' x c ns ds) (hR : RelH K H' G') (s : Stp H G H' G') (p : Rp K H G x v) : Rp K H' G' x v := p.mono s
theorem de_opO {c : Str} {op : Operator} {m : Str} (hC : gaddr X.K c = some C) (hsf : PySem.W.selfFirst X.K C = true) (hm : Meth X.K C m f) (em : PySem.dunder op.info.2 = m) (F : FnG X.prog X.w X.K X.mg X.base k f fd ps sp) (hg : X.A.guards = some []) (hr : Room k X.A) (hb : Binds X.K fd ps []) (tk : Takes X W)
    (ha : DE X W a ta) (hb' : DE X W b tb) : DE X W (.BinOp a op b pos) (dOpO c sp ta tb) := by
  have ha1 : PE X a (lft X.K W ta) := ha
  have hb1 : PE X b (lft X.K W tb) := hb'
  refine ⟨fun pins s σ H Q I ⟨σD, G, QD, E, hR, hS, q, hq, hE⟩ => ?_⟩
  refine wpAny_BinOp (binT ha1 hb1 (R := fun x y H2 => ∃ aa dx fs bb dy gs, x = .ref aa ∧ y = .ref bb ∧ H2 aa = some (.ins C dx fs) ∧ H2 bb = some (.ins C dy gs) ∧ lsp X.K sp [x, y] H2 Q (WE W σ)) I ?_ fun v u s2 x y H2 I2 rx ry ⟨aa, dx, fs, bb, dy, gs, ex, ey, ea, eb, hl⟩ => ?_)
  · refine ⟨σD, G, _, E, hR, hS, q, fun v1 H1 d1 G1 s1 r1 p1 q1 => ?_, hE⟩
    refine ⟨σD, G1, _, E, r1, hS.mono s1, q1, fun v2 H2 d2 G2 s2 r2 p2 ⟨ns, ds, ns', ds', hi, hj, q2⟩ => ?_, hE.mono s1⟩
    have p1' := p1.mono s2
    obtain ⟨aa, C1, dx, xs, e1, h1, h2, _, _⟩ := hi.of r2 p1'
    obtain ⟨bb, C2, dy, ys, e2, k1, k2, _, _⟩ := hj.of r2 p2
    rw [hC] at h1 k1; cases h1; cases k1
    exact ⟨aa, dx, _, bb, dy, _, e1, e2, h2, k2, [d1, d2], G2, QD, E, r2, .cons p1' (.cons p2 .nil), q2, hq.mono (s1.trans s2), fun xd cls d' H' G' s' r' p' z' => hE _ _ _ _ _ ((s1.trans s2).trans s') r' p' z'⟩
  · subst ex; subst ey
    obtain rfl : v = Value.ref aa := rx
    obtain rfl : u = Value.ref bb := ry
    obtain ⟨m', fr⟩ := fr_of I2
    obtain ⟨ox, od, J, _⟩ := inst_of I2 ea
    obtain ⟨oy, oe, J2, _⟩ := inst_of I2 eb
    refine PySem.W.binop_K fr I2.ok.mod.kin J J2.type hsf (by rw [em]; exact hm.at_) hm.fn (wpAny_mono (run_call F hg hr hb tk I2 (us := [.ref aa, .ref bb]) (vs := [.ref aa, .ref bb]) (.cons (vref aa) (.cons (vref bb) .nil)) hl) (fun r s' hr' => ?_) fun _ _ z => z)
    obtain ⟨w, H', J', rw', q'⟩ := hr'
    cases r <;> first | exact ⟨w, H', J', rw', q'⟩ | (cases w <;> first | exact (nomatch rw') | (obtain ⟨_, z⟩ := rw'; cases z))
end
end DL

namespace DL
open PySem PySem.Spec PyProof.Rows L2
open PySem.W (Frag)
variable {X : Cx} {W : WX} {e o a b c value : Expr} {es : List Expr} {ta tb tc to tv : TED} {t u : TAD} {tA tB' : TTD} {pos pos' apos cpos : Pos}
/-! ### errors of own classes: raised -/
theorem Rps.reverse {K H G} : ∀ {ds : List D} {vs : List V}, Rps K H G ds vs → Rps K H G ds.reverse vs.reverse
  | _, _, .nil => .nil
  | _, _, .cons a r => by rw [List.reverse_cons, List.reverse_cons]; exact (Rps.reverse r).append (.cons a .nil)
/-- what __init__ leaves: the fields, the last one first -/
def spExc (C : Addr) (fns : List Str) : Sp := fun vs H Q _ => ∃ a ws, vs = .ref a :: ws ∧ ws.length = fns.length ∧ H a = some (exo a C none) ∧ ∀ dx, H dx = none → dx ≠ a → Q .non (upd (upd H dx (exd dx (fns.reverse.zip ws.reverse))) a (exo a C (some dx)))
section
variable {P : Program} {w : World} {K : Frag} {mg : Str → Option Value} {base : Heap}
theorem fn_exc1 {C : Addr} {qual p f : Str} {st : Stmt} {fI : Addr} {fd : FuncData} (T : OexC K C) (no : PySem.W.findIn K (.ref C) f = some none) (F : Fun K "__init__" qual st fI fd) (S : FnScope ["self", p] ["self", p] (defScope st))
    (hd : (p == ("__debug__" : Str)) = false) (hcd : (p == ("__classdict__" : Str)) = false) (hl : (defScope st).names.lookup p = some .local) (hs : (defScope st).names.lookup ("self" : Str) = some .local)
    (hb : ∃ q1 q2 q3 q4, defBody st = [.Assign [.Attribute (.Name "self" q1) f q2] (.Name p q3) q4]) :
    FnOk P w K mg base CX0 1 fI fd ["self", p] (spExc C [f]) := by
  obtain ⟨q1, q2, q3, q4, hb⟩ := hb
  refine F.ok (k := 0) S ?_ fun cdv A outer s H vs Q E hr hsp => ?_
  · rintro vs H Q E ⟨a, ws, rfl, h1, _⟩
    simpa using h1
  obtain ⟨a, ws, rfl, h1, h2, hq⟩ := hsp
  obtain ⟨v, rfl⟩ : ∃ v, ws = [v] := by
    cases ws with
    | nil => simp at h1
    | cons v r => cases r with
      | nil => exact ⟨v, rfl⟩
      | cons _ _ => simp at h1
  refine ⟨_, by rw [hb]; exact pss_one (ps_ost (pe_var (i := 0) rfl (Or.inl hs)) (pe_var (i := 1) rfl (Or.inl hl) hd hcd) (by rfl)), ?_⟩
  refine ⟨v, rfl, .ref a, rfl, a, C, rfl, T, no, .inl ⟨h2, fun dx hdx hne => hq dx hdx hne⟩⟩
theorem fn_exc2 {C : Addr} {qual p q f g : Str} {st : Stmt} {fI : Addr} {fd : FuncData} (T : OexC K C) (no : PySem.W.findIn K (.ref C) f = some none) (no2 : PySem.W.findIn K (.ref C) g = some none) (F : Fun K "__init__" qual st fI fd) (S : FnScope ["self", p, q] ["self", p, q] (defScope st))
    (hd : (p == ("__debug__" : Str)) = false) (hcd : (p == ("__classdict__" : Str)) = false) (hl : (defScope st).names.lookup p = some .local) (hs : (defScope st).names.lookup ("self" : Str) = some .local)
    (hd2 : (q == ("__debug__" : Str)) = false) (hcd2 : (q == ("__classdict__" : Str)) = false) (hl2 : (defScope st).names.lookup q = some .local)
    (hb : ∃ q1 q2 q3 q4 r1 r2 r3 r4, defBody st = [.Assign [.Attribute (.Name "self" q1) f q2] (.Name p q3) q4, .Assign [.Attribute (.Name "self" r1) g r2] (.Name q r3) r4]) :
    FnOk P w K mg base CX0 1 fI fd ["self", p, q] (spExc C [f, g]) := by
  obtain ⟨q1, q2, q3, q4, r1, r2, r3, r4, hb⟩ := hb
  refine F.ok (k := 0) S ?_ fun cdv A outer s H vs Q E hr hsp => ?_
  · rintro vs H Q E ⟨a, ws, rfl, h1, _⟩
    simpa using h1
  obtain ⟨a, ws, rfl, h1, h2, hq⟩ := hsp
  obtain ⟨v, v', rfl⟩ : ∃ v v', ws = [v, v'] := by
    cases ws with
    | nil => simp at h1
    | cons v r => cases r with
      | nil => simp at h1
      | cons v' r => cases r with
        | nil => exact ⟨v, v', rfl⟩
        | cons _ _ => simp at h1
  refine ⟨_, by rw [hb]; exact pss_cons (ps_ost (pe_var (i := 0) rfl (Or.inl hs)) (pe_var (i := 1) rfl (Or.inl hl) hd hcd) (by rfl)) (pss_one (ps_ost (pe_var (i := 0) rfl (Or.inl hs)) (pe_var (i := 2) rfl (Or.inl hl2) hd2 hcd2) (by rfl))), ?_⟩
  refine ⟨v, rfl, .ref a, rfl, a, C, rfl, T, no, .inl ⟨h2, fun dx hdx hne => ?_⟩⟩
  refine ⟨v', rfl, .ref a, rfl, a, C, rfl, T, no2, .inr ⟨dx, [(f, v)], upd_same, by rw [upd_ne hne]; exact upd_same, by simp, ?_⟩⟩
  have e : upd (upd (upd H dx (exd dx [(f, v)])) a (exo a C (some dx))) dx (exd dx ((g, v') :: [(f, v)])) = upd (upd H dx (exd dx ([f, g].reverse.zip [v, v'].reverse))) a (exo a C (some dx)) := by
    funext b
    by_cases hb : b = dx
    · subst hb; rw [upd_same, upd_ne hne, upd_same]; rfl
    · by_cases ha : b = a
      · subst ha; rw [upd_ne hb, upd_same, upd_same]
      · rw [upd_ne hb, upd_ne ha, upd_ne hb, upd_ne ha, upd_ne hb]
  show Q .non _
  rw [e]
  exact hq dx hdx hne
end
def dRaise (c : Str) (fns : List Str) (t : TAD) : TSD := fun D σ G => t σ G (fun ds G1 => ds.length = fns.length ∧ D.ex ⟨.own c, fns.reverse, ds.reverse⟩ σ G1) (fun x G' => D.ex x σ G')
section
variable {k : Nat} {C fI : Addr} {fd : FuncData} {ps : List Str} {c x : Str} {p : Pos} {fns : List Str}
theorem ds_raise (hc : X.calm = true) (tk : Takes X W) (hC : gaddr X.K c = some C) (T : OexC X.K C) (iC : PySem.W.findIn X.K (.ref C) "__init__" = some (some (.ref fI))) (tI : PySem.W.typeIn X.K (.ref fI) = some (.type "function"))
    (F1 : FnOk X.prog X.w X.K X.mg X.base CX0 k fI fd ps (spExc C fns)) (hr : Room (k + 1) X.A) (hb : Binds X.K fd ps []) (hg : Gl X x) (hm : X.mg x = some (.ref C)) (hn : fns.length ≤ 1000) (ha : DA X W (e :: es) t)
    (hdb : (x == ("__debug__" : Str)) = false := by decide) (he : starEach (e :: es) X.env = (false, eval e X.env) :: starEach es X.env := by rfl) (hpl : (backTo pos' (starEach es X.env)).any (·.1) = false := by rfl) :
    DS X W (.Raise (some (.Call (.Name x p) (e :: es) [] pos')) none pos) (dRaise c fns t) := by
  refine PS.imp (ps_raise hc tk (pmk_oex (pos := pos') T iC tI F1 hr hb .nil (fun _ _ _ _ _ _ _ z => z.elim) hg hm ha hdb he hpl)) fun D σ H ⟨σD, G, DD, hR, hS, q, hE⟩ => ?_
  refine ⟨σD, G, _, _, hR, hS, q, fun vs H1 ds G1 s1 r1 p1 ⟨hl, z⟩ => ?_, hE.ex.at hS⟩
  refine ⟨by rw [← p1.length]; omega, fun a ha => ⟨a, vs ++ [], rfl, by rw [List.append_nil, ← p1.length]; exact hl, upd_same, fun dx hdx hne => ⟨rfl, dx, _, upd_same, by rw [upd_ne hne]; exact upd_same, by rw [← hdx, upd_ne hne], ?_⟩⟩⟩
  rw [List.append_nil]
  have hd1 : H1 dx = none := by rw [← hdx, upd_ne hne]
  have e : upd (del (upd (upd (upd H1 a (exo a C none)) dx (exd dx (fns.reverse.zip vs.reverse))) a (exo a C (some dx))) a) dx (.xd (fns.reverse.zip vs.reverse)) = upd H1 dx (.xd (fns.reverse.zip vs.reverse)) := by
    funext b
    by_cases hb : b = dx
    · subst hb; rw [upd_same, upd_same]
    · rw [upd_ne hb, upd_ne hb]
      by_cases hba : b = a
      · subst hba; rw [del_same, ha]
      · rw [del_ne hba, upd_ne hba, upd_ne hb, upd_ne hba]
  rw [e]
  have s2 := Stp.new (G := G1) (o := .xd (fns.reverse.zip vs.reverse)) hd1
  exact hE.ex ⟨.own c, fns.reverse, ds.reverse⟩ _ _ _ σD _ G1 (s1.trans s2) (r1.new hd1) (hS.mono (s1.trans s2)) ⟨⟨C, hC, rfl⟩, vs.reverse, upd_same, r1.free hd1, by rw [List.length_reverse, List.length_reverse, ← p1.length]; exact hl.symm, (p1.mono s2).reverse⟩ z
end
end DL

namespace DL
open PySem PySem.Spec PyProof.Rows L2
open PySem.W (Frag)
variable {X : Cx} {W : WX} {e o a b c value : Expr} {es : List Expr} {ta tb tc to tv : TED} {t u : TAD} {tA tB' : TTD} {pos pos' apos cpos : Pos}
/-! ### defs f(a, .., *v) -/
/-- as FnG, by the arguments as they are given -/
def FnS (P : Program) (w : World) (K : Frag) (mg : Str → Option Value) (base : Heap) (k : Nat) (f : Addr) (sp : SpD) : Prop :=
  ∀ (A : Around) (outer : List Env) (s : Shared) (H : Hp) (us : List Value) (vs : List V) (Q : VK) (E : XK), A.guards = some [] → Room k A → Env0 P w K mg base A outer s H → Vals vs us → lsp K sp vs H Q E →
    codeAny (model P w) A (.call (.ref f) ⟨us, []⟩) (CR (L2.CX P w) outer P w H s Q E) s
/-- what is left over is a new tuple -/
def starSp (m : Nat) (sp : SpD) : SpD := fun ds G Q E => m ≤ ds.length ∧ ds.length ≤ sizeLine ∧ sp (ds.take m ++ [.tup (ds.drop m)]) G Q E
section
variable {P : Program} {w : World} {K : Frag} {mg : Str → Option Value} {base : Heap}
theorem FunG.star {x qual : Str} {st : Stmt} {f : Addr} {fd : FuncData} {N ps : List Str} {pv : Str} {k : Nat} {sp : SpD} (F : Fun K x qual st f fd) (S : FnScope N (ps ++ [pv]) (defScope st))
    (hb : ∀ us rest : List Value, us.length = ps.length → bindArgs fd ⟨us ++ rest, []⟩ = (newTuple rest >>= fun t => pure (ps.zip us ++ [(pv, t)])))
    (len : ∀ ds G Q E, sp ds G Q E → ds.length = ps.length + 1)
    (hbody : ∀ (cdv : Value) (A : Around) (outer : List Env) (s : Shared) (H : Hp) (E : XK), A.guards = some [] → Room k (A.deeper (envOfC qual (defScope st) s.heap.objs.size f cdv)) →
      ∃ t, DSs (cxOf (L2.CX P w) P w K mg base N qual (defScope st) f cdv A outer s H E) (WD E) (defBody st) t ∧
        ∀ ds G Q EX, sp ds G Q EX → t { nx := fun _ G' => Q .non G', rt := Q, ex := fun x _ G' => EX x G' } (startD N ds) G) : FnS P w K mg base (k + 1) f (starSp ps.length sp) := by
  obtain ⟨oc, od, kV, doc, pm, an, cdv, ct, osl, rfl, lk, hcd⟩ := F.ex
  intro A outer s H us vs Q E hgd hr e0 r ⟨ds, G, QD, EX, hR, hrp, ⟨hlen, hz, hq⟩, hct, hex⟩
  have hlv := hrp.length
  have hlu := r.length
  have hn : H s.heap.objs.size = Option.none := e0.hok.fresh (Nat.le_refl _)
  have hl1 : (us.take ps.length).length = ps.length := by rw [List.length_take]; omega
  have hl2 : (us.drop ps.length).length ≤ sizeLine := by rw [List.length_drop]; omega
  have r1 : Vals (vs.take ps.length) (us.take ps.length) := by
    obtain ⟨u1, u2, eu, a1, a2⟩ := StX.vals_split (ws := vs.take ps.length) (rest := vs.drop ps.length) (by rw [List.take_append_drop]; exact r)
    have : u1 = us.take ps.length := by
      rw [eu, List.take_append_of_le_length (by rw [← a1.length, List.length_take]; omega), List.take_of_length_le (by rw [← a1.length, List.length_take]; omega)]
    rw [← this]; exact a1
  have r2 : Vals (vs.drop ps.length) (us.drop ps.length) := by
    obtain ⟨u1, u2, eu, a1, a2⟩ := StX.vals_split (ws := vs.take ps.length) (rest := vs.drop ps.length) (by rw [List.take_append_drop]; exact r)
    have hu1 : u1.length = ps.length := by rw [← a1.length, List.length_take]; omega
    have : u2 = us.drop ps.length := by
      rw [eu, ← hu1, List.drop_left]
    rw [← this]; exact a2
  have eus : us = us.take ps.length ++ us.drop ps.length := (List.take_append_drop _ _).symm
  refine StX.run_bnd lk hcd S hr e0 (G := fun xs H2 => ∃ p, H p = Option.none ∧ xs = vs.take ps.length ++ [V.ref p] ∧ H2 = upd H p (.tup (vs.drop ps.length))) (fun A' Ex Q' h => ?_) fun s2 H2 xs ⟨p, hp, ex, eH⟩ hr' => ?_
  · rw [eus, hb _ _ hl1]
    refine wpAny_bind (wpAny_newTuple (wpAny_pure ?_) hl2)
    have new : ObjOk P w (upd H s.heap.objs.size (.tup (vs.drop ps.length))) (s.heap.push ({ cls := .type "tuple", data := .seq (us.drop ps.length).toArray } : Obj)) s.heap.objs.size (.tup (vs.drop ps.length)) := ⟨by rw [r2.length]; exact hl2, us.drop ps.length, r2, ⟨_, Heap.get?_push_size _ rfl, rfl, _, rfl⟩⟩
    have un := StX.un_laid (fs := frs outer) (s := s) (o := ({ cls := .type "tuple", data := .seq (us.drop ps.length).toArray } : Obj)) (u := .tup (vs.drop ps.length)) hn
    have z := h _ _ (vs.take ps.length ++ [V.ref s.heap.objs.size]) (us.take ps.length ++ [Value.ref s.heap.objs.size]) (StX.env0_laid e0 new) un rfl (fun e s' => StX.cxUp outer s H _ _ E e s' un (fun b o q => Heap.get?_push_of_some _ q) rfl) (r1.append (.cons rfl .nil))
      (by rw [List.length_append, List.length_append, r1.length, hl1] <;> rfl) ⟨_, hn, rfl, rfl⟩
    rw [List.zip_append hl1.symm] at z
    exact z
  · subst ex eH
    obtain ⟨t, ht, hv⟩ := hbody cdv A outer s2 (upd H p (.tup (vs.drop ps.length))) E hgd hr'
    refine ⟨_, ht, startD N (ds.take ps.length ++ [.tup (ds.drop ps.length)]), G, _, hR.new hp, ?_, hv _ G QD EX hq, ?_⟩
    · refine SRp.start (((hrp.take _).mono (Stp.new hp)).append (.cons (.tup (.inl ⟨upd_same, hR.free hp⟩) ((hrp.drop _).mono (Stp.new hp))) .nil))
    · have s0 := Stp.new (G := G) (o := .tup (vs.drop ps.length)) hp
      exact ⟨fun _ H' _ G' s r _ z => hct _ _ _ _ (s0.trans s) r .non z, fun v H' d G' s r p' q => hct v H' d G' (s0.trans s) r p' q, fun _ _ _ _ _ _ _ z => z.elim, fun _ _ _ _ _ _ _ z => z.elim, fun x cls d _ _ H' G' s r _ p' z => hex x cls d H' G' (s0.trans s) r p' z⟩
end
section
variable {k : Nat} {f C : Addr} {sp : SpD} {c x : Str} {p sp_ : Pos}
theorem run_makeS {pins : List (Addr × Obj)} {σ : L2.St} {H : Hp} {s : Shared} {Q : VK} {us : List Value} {vs : List V} (M : Mk X.K C f) (F : FnS X.prog X.w X.K X.mg X.base k f sp) (hg : X.A.guards = some []) (hr : Room (k + 1) X.A) (tk : Takes X W)
    (I : Inv X pins σ H s) (r : Vals vs us)
    (h : ∀ x dx, H x = none → H dx = none → dx ≠ x → lsp X.K sp (.ref x :: vs) (upd (upd H dx (.own x)) x (.ins C dx [])) (fun v H2 => v = .non ∧ Q (.ref x) H2) (WE W σ)) :
    wpAny (model X.prog X.w) X.A (call (.ref C) us) (EP X pins σ Q) X.xe s := by
  have hq := h (s.heap.objs.size + 1) s.heap.objs.size (I.hok.fresh (Nat.le_succ _)) (I.hok.fresh (Nat.le_refl _)) (Nat.ne_of_lt (Nat.lt_succ_self _))
  have I2 := Inv.made (C := C) I
  have r2 : Vals (V.ref (s.heap.objs.size + 1) :: vs) (Value.ref (s.heap.objs.size + 1) :: us) := .cons rfl r
  refine wpAny_call (make_map (f := f) I.kIn M.makes M.init (beq_iff_eq.mp M.fn) (codeAny_mono (F _ X.stack _ _ (Value.ref (s.heap.objs.size + 1) :: us) _ _ (WE W σ) (guards_make hg C us []) (hr.make C us []) (I2.env0.make C us []) r2 hq) fun r s' hq' => ?_))
  cases r with
  | error e => exact passAt tk σ pins _ _ e s' I2 hq'
  | ok fl =>
    cases fl with
    | ret u =>
      obtain ⟨v, H', I3, rv, ev, q3⟩ := I2.after hq'
      subst ev
      exact ⟨rv, ⟨V.ref (s.heap.objs.size + 1), H', I3, rfl, q3⟩⟩
    | next => exact False.elim hq'
    | brk => exact False.elim hq'
    | cont => exact False.elim hq'
theorem de_makeS (fr : Bool) (hC : gaddr X.K c = some C) (M : Mk X.K C f) (F : FnS X.prog X.w X.K X.mg X.base k f sp) (hgd : X.A.guards = some []) (hr : Room (k + 1) X.A) (hg : Gl X x) (hm : X.mg x = some (.ref C)) (tk : Takes X W)
    (ha : DA X W (e :: es) t) (hdb : (x == ("__debug__" : Str)) = false := by decide) (he : starEach (e :: es) X.env = (false, eval e X.env) :: starEach es X.env := by rfl) (hpl : (backTo pos (starEach es X.env)).any (·.1) = false := by rfl) :
    DE X W (.Call (.Name x p) (e :: es) [] pos) (dMake fr c sp t) := by
  have ha' : PA X (e :: es) (lftA X.K W t) := ha
  refine ⟨fun pins s σ H Q I h => ?_⟩
  refine wpAny_Call_Name_kw (ld_glob I hg hm ?_ hdb)
  exact PySem.W.callWith_K (h₀ := X.base) I.ok.mod.kin M.kp (thn (ha'.run pos pins s σ H _ I (lft_make hC h)) fun us s1 ⟨vs, H1, I1, r, q⟩ => ⟨I1.kIn, run_makeS M F hgd hr tk I1 r q⟩) he hpl
theorem de_makeS0 (fr : Bool) (hC : gaddr X.K c = some C) (M : Mk X.K C f) (F : FnS X.prog X.w X.K X.mg X.base k f sp) (hgd : X.A.guards = some []) (hr : Room (k + 1) X.A) (hg : Gl X x) (hm : X.mg x = some (.ref C)) (tk : Takes X W)
    (hdb : (x == ("__debug__" : Str)) = false := by decide) : DE X W (.Call (.Name x p) [] [] pos) (dMake fr c sp dNil) := by
  refine ⟨fun pins s σ H Q I h => ?_⟩
  refine wpAny_Call_Name_kw (ld_glob I hg hm ?_ hdb)
  obtain ⟨σD, G, QD, E, hR, hS, q, hq, hE⟩ := lft_make hC h
  exact PySem.W.callWith_K0 I.kIn M.kp (run_makeS (us := []) (vs := []) M F hgd hr tk I .nil (hq [] H [] G Stp.refl hR .nil q))
/-- *e as the only argument -/
def dStar1 (ta : TED) : TAD := fun σ G Q E => ta σ G (fun x G1 => ∃ xs, Sq G1 x xs ∧ Q xs G1) E
theorem de_makeS1 (fr : Bool) (hC : gaddr X.K c = some C) (M : Mk X.K C f) (F : FnS X.prog X.w X.K X.mg X.base k f sp) (hgd : X.A.guards = some []) (hr : Room (k + 1) X.A) (hg : Gl X x) (hm : X.mg x = some (.ref C)) (tk : Takes X W)
    (he : DE X W e ta) (hdb : (x == ("__debug__" : Str)) = false := by decide) (hst : starEach [.Starred e sp_] X.env = [(true, eval e X.env)] := by rfl) :
    DE X W (.Call (.Name x p) [.Starred e sp_] [] pos) (dMake fr c sp (dStar1 ta)) := by
  have he' : PE X e (lft X.K W ta) := he
  refine ⟨fun pins s σ H Q I h => ?_⟩
  refine wpAny_Call_Name_kw (ld_glob I hg hm ?_ hdb)
  obtain ⟨σD, G, QD, E, hR, hS, q, hq, hE⟩ := lft_make hC h
  refine PySem.W.callWith_S (h₀ := X.base) I.ok.mod.kin M.kp (thn (he'.run pins s σ H (fun v H1 => ∃ d G1 xs, Stp H G H1 G1 ∧ RelH X.K H1 G1 ∧ Rp X.K H1 G1 d v ∧ Sq G1 d xs ∧ QD xs G1) I ⟨σD, G, _, E, hR, hS, q, fun v H1 d G1 s1 r1 p1 ⟨xs, z1, z2⟩ => ⟨d, G1, xs, s1, r1, p1, z1, z2⟩, hE⟩) fun v s1 ⟨y, H1, I1, ry, d, G1, xs, s1', r1, p1, z1, z2⟩ => ?_) hst
  obtain ⟨a, vs, ey, hsq, hrs⟩ := z1.of r1 p1
  subst ey
  obtain rfl : v = Value.ref a := ry
  exact StX.star_any I1 (hsq.elim .inr .inl) fun us s2 I2 rv => ⟨I2.kIn, run_makeS M F hgd hr tk I2 rv (hq vs H1 xs G1 s1' r1 hrs z2)⟩
end
end DL

namespace DL
open PySem PySem.Spec PyProof.Rows L2
open PySem.W (Frag)
variable {X : Cx} {W : WX} {e o a b c value : Expr} {es : List Expr} {ta tb tc to tv : TED} {t u : TAD} {tA tB' : TTD} {pos pos' apos cpos : Pos}
/-! ### texts: methods -/
def tyS : D → HH → Prop := fun x _ => ∃ z, x = .str z
theorem tyS_v {K H G d v} (p : Rp K H G d v) (h : tyS d G) : tyV K "str" v H := by
  obtain ⟨z, e⟩ := h
  subst e; cases p
  rfl
def mJoin : D → List D → HH → QD → Prop := fun x ds G Q => ∃ a y, ∃ ys : List Str, x = .str a ∧ ds = [y] ∧ Sq G y (ys.map D.str) ∧ (ys.map (·.length)).sum + ys.length * a.length ≤ 16777216 ∧ Q (.str (Txt.join a ys)) G
theorem mdJoin : MtD X "str" "str.join" tyS mJoin := ⟨fun _ _ _ _ _ p h => tyS_v p h, _, mt_join, fun x us H Q d ds G QD hR hp hps ⟨a, y, ys, e1, e2, e3, l, q⟩ hq => by
  subst e1; subst e2; cases hp
  obtain ⟨w, rfl, py⟩ := rps1 hps
  obtain ⟨p, vs, rfl, h, r⟩ := e3.of hR py
  rw [r.strs] at h
  exact ⟨a, p, ys, rfl, rfl, h, l, hq.now hR (.str _) q⟩⟩
theorem de_join (ho : DE X W o to) (ha : DA X W (e :: es) t)
    (hbase : attributeBase o "join" X.env (eval o X.env) = eval o X.env := by rfl)
    (hfew : ((backTo cpos (starEach (e :: es) X.env)).all (fun x => !x.1) && (backToKw cpos (keywordEach [] X.env)).all (fun x => x.1.isSome)
      && decide ((e :: es).length + ([] : List Keyword).length + (if ([] : List Keyword).isEmpty then 0 else 1) < 30)) = true := by rfl)
    (hline : (apos.endLine == cpos.line) = true := by rfl) (hs : starEach (e :: es) X.env = (false, eval e X.env) :: starEach es X.env := by rfl) (hplain : (backTo cpos (starEach es X.env)).any (·.1) = false := by rfl) :
    DE X W (.Call (.Attribute o "join" apos) (e :: es) [] cpos) (dBM tyS mJoin to t) := de_bm PySem.F.plainAttrs_str PySem.F.slot_str_join PySem.F.type_str_join mdJoin ho ha hbase hfew hline hs hplain
theorem st_join' {G : HH} {Q : QD} {a : Str} {y : D} {ys : List Str} (h : Sq G y (ys.map D.str)) (hl : (ys.map (·.length)).sum + ys.length * a.length ≤ 16777216) (q : Q (.str (Txt.join a ys)) G) : mJoin (.str a) [y] G Q := ⟨a, y, ys, rfl, rfl, h, hl, q⟩
theorem st_tyS {G : HH} {z : Str} {P : Prop} (h : P) : tyS (.str z) G ∧ P := ⟨⟨z, rfl⟩, h⟩
/-! ### f-texts -/
def dJs : List TED → Str → SD → HH → (Str → HH → Prop) → ED → Prop
  | [], acc, _, G, Q, _ => Q acc G
  | t :: ts, acc, σ, G, Q, E => t σ G (fun x G1 => ∃ y, x = .str y ∧ (acc ++ y).length ≤ sizeLine ∧ dJs ts (acc ++ y) σ G1 Q E) E
inductive DJ (X : Cx) (W : WX) : List Expr → List TED → Prop
  | nil : DJ X W [] []
  | cons {e : Expr} {t : TED} {es : List Expr} {ts : List TED} (h : DE X W e t) (r : DJ X W es ts) : DJ X W (e :: es) (t :: ts)
theorem DJ.pj {es : List Expr} {ts : List TED} (h : DJ X W es ts) : PJ X es (ts.map (lft X.K W)) := by
  induction h with
  | nil => exact .nil
  | cons h r ih => exact .cons h ih
theorem dJs_to {K : Frag} {σD : SD} {σ : L2.St} {QD : Str → HH → Prop} {E : ED} {Q : Str → Hp → Prop} : ∀ (ts : List TED) (acc : Str) (H : Hp) (G : HH), RelH K H G → SRp K H G σD σ → dJs ts acc σD G QD E → (∀ z H' G', Stp H G H' G' → RelH K H' G' → QD z G' → Q z H') → Exs K W σ H G E → tJs (ts.map (lft K W)) acc σ H Q
  | [], acc, H, G, hR, hS, q, hq, hE => hq _ _ _ Stp.refl hR q
  | t :: ts, acc, H, G, hR, hS, q, hq, hE => ⟨σD, G, _, E, hR, hS, q, fun v H1 d G1 s1 r1 p1 ⟨y, e, l, z⟩ => by
      subst e; cases p1
      exact ⟨y, rfl, l, dJs_to ts _ H1 G1 r1 (hS.mono s1) z (fun z H' G' s r q => hq z H' G' (s1.trans s) r q) (hE.mono s1)⟩, hE⟩
def dFStr (ts : List TED) : TED := fun σ G Q E => dJs ts Str.empty σ G (fun z G1 => Q (.str z) G1) E
theorem de_fstr {v1 v2 : Expr} {rest : List Expr} {ts : List TED} (h : DJ X W (v1 :: v2 :: rest) ts) : DE X W (.JoinedStr (v1 :: v2 :: rest) pos) (dFStr ts) :=
  PE.imp (pe_joined h.pj) fun σ H Q ⟨σD, G, QD, E, hR, hS, q, hq, hE⟩ => dJs_to ts _ H G hR hS q (fun z H' G' s r q => hq _ _ _ _ s r (.str z) q) hE
def dFmt (ta : TED) : TED := fun σ G Q E => ta σ G (fun x G1 => (∃ y : Str, x = .str y ∧ y.length ≤ sizeLine ∧ Q (.str y) G1) ∨ ∃ i : Int, x = .int i ∧ i.natAbs.log2 < 1920 ∧ Q (.str (toString i)) G1) E
theorem de_fmt (ha : DE X W a ta) : DE X W (.FormattedValue a (-1) none pos) (dFmt ta) := PE.imp (pe_fmt ha) fun σ H Q ⟨σD, G, QD, E, hR, hS, q, hq, hE⟩ =>
  ⟨σD, G, _, E, hR, hS, q, fun v H1 d G1 s1 r1 p1 z => by
    rcases z with ⟨y, e, l, z⟩ | ⟨i, e, l, z⟩ <;> subst e <;> cases p1
    · exact .inl ⟨y, rfl, l, hq _ _ _ _ s1 r1 (.str _) z⟩
    · exact .inr ⟨i, rfl, l, hq _ _ _ _ s1 r1 (.str _) z⟩, hE⟩
end DL

namespace DL
open PySem PySem.Spec PyProof.Rows L2
open PySem.W (Frag)
variable {X : Cx} {W : WX} {e o a b c value : Expr} {es : List Expr} {ta tb tc to tv : TED} {t u : TAD} {tA tB' : TTD} {pos pos' apos cpos : Pos}
/-! ### isinstance -/
theorem de_bltn {x : Str} {T : String} (hg : Gl X x) (hm : X.mg x = none) (hv : bootBuiltins x = some (.type T)) (hn : x ≠ "__name__" := by decide) (hd : (x == ("__debug__" : Str)) = false := by decide) : DE X W (.Name x pos) (dC (.ty T)) :=
  PE.imp (pe_bltn (v := .ty T) hg hm hv rfl hn hd) fun _ _ _ => lft_C fun _ _ => .ty T
theorem de_gv {x : Str} {A : Addr} (h : gaddr X.K x = some A) (hg : Gl X x) (hm : X.mg x = some (.ref A)) (hd : (x == ("__debug__" : Str)) = false := by decide) : DE X W (.Name x pos) (dC (.gv x)) :=
  PE.imp (pe_glob (v := .ref A) hg hm rfl hd) fun _ _ _ => lft_C fun _ _ => .gv h
/-- what kind a value is -/
inductive Kd where
  | bi (T : String) | own (c : Str)
inductive TyD (G : HH) : D → Kd → Prop
  | non : TyD G .non (.bi "NoneType")
  | bl (b : Bool) : TyD G (.bl b) (.bi "bool")
  | int (i : Int) : TyD G (.int i) (.bi "int")
  | str (x : Str) : TyD G (.str x) (.bi "str")
  | tup (xs : List D) : TyD G (.tup xs) (.bi "tuple")
  | lst (xs : List D) : TyD G (.lst xs) (.bi "list")
  | ref {p : Addr} {xs : List D} : G p = some (.lst xs) → TyD G (.ref p) (.bi "list")
  | dict {p : Addr} {kvs : List (Key × D)} : G p = some (.dK kvs) → TyD G (.ref p) (.bi "dict")
def Kd.is (K : Frag) : Kd → Value → Prop
  | .bi T, t => t = .type T
  | .own c, t => ∃ C, gaddr K c = some C ∧ t = .ref C
theorem TyD.of {K H G d v k} (h : TyD G d k) (hR : RelH K H G) (p : Rp K H G d v) : ∃ t, TyX K H v t ∧ k.is K t := by
  cases h with
  | non => cases p; exact ⟨_, .base .non, rfl⟩
  | bl => cases p; exact ⟨_, .base (.bl _), rfl⟩
  | int => cases p; exact ⟨_, .base (.int _), rfl⟩
  | str => cases p; exact ⟨_, .base (.str _), rfl⟩
  | tup =>
    cases p with
    | tup f r =>
      rcases f with ⟨f, _⟩ | ⟨o, its, n, f1, f2, _⟩
      · exact ⟨_, .base (.tup f), rfl⟩
      · exact ⟨_, .kTuple f1 f2, rfl⟩
  | lst => cases p with | lst f g r => exact ⟨_, .base (.lst f), rfl⟩
  | ref e => cases p; obtain ⟨xs, f, _⟩ := hR _ _ e; exact ⟨_, .base (.lst f), rfl⟩
  | dict e => cases p; obtain ⟨xs, f, _⟩ := hR _ _ e; exact ⟨_, .base (.dK f), rfl⟩
/-- isinstance(x, T), T a built-in class -/
def kIsi : RCD := c2 fun x y G Q => ∃ k T b, TyD G x (.bi k) ∧ y = .ty T ∧ kitB k T = some b ∧ Q (.bl b) G
theorem cIsi : CallD X (.builtin "isinstance") kIsi := ⟨_, call_isi, fun xs H Q ds G QD hR hp ⟨x, y, e, k, T, b, ht, ey, hk, q⟩ hq => by
  subst e
  obtain ⟨v, w, rfl, p1, p2⟩ := rps2 hp
  subst ey; cases p2
  obtain ⟨t, h1, h2⟩ := ht.of hR p1
  obtain rfl : t = .type k := h2
  exact ⟨v, .ty T, _, _, b, rfl, .ty T, h1, kit_ty hk, hq.now hR (.bl _) q⟩⟩
/-- what isinstance asks of the class of an instance -/
structure ClsI (K : Frag) (C : Addr) : Prop where
  cl : Cls K C
  ha : PySem.W.findIn K (.ref C) "__class__" = some (some (.builtin "object.__class__"))
  hn : PySem.W.specialIn K (.builtin "object.__class__") "__get__" = some (some (.builtin "getset_descriptor.__get__"))
  ht : PySem.W.takesIn K (.builtin "object.__class__") = some true
  hm : PySem.W.mroIn K C (.type "object") = some true
/-- isinstance(x, C), C an own class: what the table says of x's kind -/
def kIsiO (bi : List (String × Bool)) (ow : List (Str × Bool)) (c : Str) : RCD := c2 fun x y G Q => y = .gv c ∧ ((∃ k b, TyD G x (.bi k) ∧ (k, b) ∈ bi ∧ Q (.bl b) G) ∨ ∃ c' ns ds b, InsD G x c' ns ds ∧ (c', b) ∈ ow ∧ Q (.bl b) G)
theorem cIsiO {bi : List (String × Bool)} {ow : List (Str × Bool)} {c : Str} {C : Addr} (hC : gaddr X.K c = some C) (hb : ∀ p ∈ bi, PySem.W.kitOne X.K (.type p.1) (.ref C) = some p.2) (ho : ∀ p ∈ ow, ∀ C', gaddr X.K p.1 = some C' → ClsI X.K C' ∧ PySem.W.kitOne X.K (.ref C') (.ref C) = some p.2) : CallD X (.builtin "isinstance") (kIsiO bi ow c) :=
  ⟨_, call_isi, fun xs H Q ds G QD hR hp ⟨x, y, e, ey, z⟩ hq => by
    subst e
    obtain ⟨v, w, rfl, p1, p2⟩ := rps2 hp
    subst ey
    cases p2 with
    | gv hg =>
      rw [hC] at hg; cases hg
      rcases z with ⟨k, b, ht, hm, q⟩ | ⟨c', ns, ds, b, hi, hm, q⟩
      · obtain ⟨t, h1, h2⟩ := ht.of hR p1
        obtain rfl : t = .type k := h2
        exact ⟨v, .ref C, _, _, b, rfl, .own C, h1, hb _ hm, hq.now hR (.bl _) q⟩
      · obtain ⟨a, C', dx, xs, e, h1, h2, h3, h4⟩ := hi.of hR p1
        subst e
        obtain ⟨k1, k2⟩ := ho _ hm C' h1
        exact ⟨.ref a, .ref C, _, _, b, rfl, .own C, .base (.ins h2 k1.cl k1.ha k1.hn k1.ht k1.hm), k2, hq.now hR (.bl _) q⟩⟩
end DL

namespace PySem
open Sem (wp)
section
variable {prog : Program} {w : World} {A : Around} {E : Value → Shared → Prop} {s : Shared}
/-- bool(x), by what the truth of x comes to -/
theorem dl_bool_new {x : Value} {R : Result → Shared → Prop} (h : wpAny (model prog w) A.in1 (truthy x) (fun b s' => R (.ok (.ret (.bool b))) s') (fun e s' => R (.error e) s') s) :
    wpAny (model prog w) A.in1 (Builtin.«bool.__new__» ⟨[.type "bool", x], []⟩) (fun fin s' => match fin with | .done f => R (.ok f) s' | .again c' => c'.quiet = true ∧ codeAny (model prog w) A c' R s') (fun e s' => R (.error e) s') s := by
  have f1 := F.conv_sub_bool
  refine wpAny_mono (Q := fun fin s' => ∃ v, fin = .done (.ret v) ∧ R (.ok (.ret v)) s') (E := fun e s' => R (.error e) s') ?_ (fun fin s' h' => by obtain ⟨v, rfl, hv⟩ := h'; exact hv) fun _ _ x => x
  repeat (any_goals (first | assumption | (with_reducible refine wpAny_mono h (fun b s' hb => ?_) fun _ _ z => z) | wp_step))
  all_goals first | exact ⟨_, rfl, hb⟩ | skip
theorem dl_call_bool {x : Value} {Q : Value → Shared → Prop} (h : wpAny (model prog w) A.in1.in1 (truthy x) (fun b s' => Q (.bool b) s') E s) : wpAny (model prog w) A (call (.type "bool") [x]) Q E s := by
  have ft := F.called_bool
  obtain ⟨c, tl, hmro⟩ := ft.mro
  have hmade := ft.made
  have hsub := ft.sub
  refine wpAny_call (codeAny_of_tree ?_)
  show wpAny _ _ (callAny (.type "bool") _) _ _ _
  refine wpAny_pure ⟨Code.quiet_builtin _ (by decide +kernel), codeAny_builtin F.entry_type_call ?_⟩
  rw [Around.under_plain (weight_type_call_type "bool" [x] []) (units_type_call_type "bool" [x] [])]
  have h1 := ft.notType
  have h2 := ft.canCreate
  repeat (any_goals (first | assumption | wp_step))
  refine codeAny_mono (codeAny_call_builtin ft.plain F.entry_bool_new (wpAny_of_eq (F.newCall_bool_1 x) (dl_bool_new (R := wants (fun obj s₁ => s₁.TypeIs obj "bool" ∧ Q obj s₁) E) (wpAny_mono h (fun b s' hb => ⟨by first | exact typeIs_bool _ _ | exact rfl | trivial, hb⟩) fun _ _ z => z)))) fun r s₁ hr => ?_
  cases r with
  | error e => exact hr
  | ok fl =>
    cases fl with
    | ret obj =>
      obtain ⟨hT, hq⟩ := hr
      have hli := ft.init.lookup
      have hbi := ft.init.bind obj
      have hom := object_init_meets (rest := [x]) (self := obj) ft.init.lookup ft.made F.newNe_bool
      repeat (any_goals (first | assumption | wp_step))
      refine codeAny_mono (codeAny_call_builtin ft.init.plain F.entry_object_init (ft.init.check _ _ _ _ _ _ _ _ hT (F.args_object_init_2 obj x) (hom prog w A.in1 (wants (fun r s₂ => r = .none ∧ Q obj s₂) E) s₁ ⟨hT, rfl, hq⟩))) fun r₂ s₂ hr₂ => ?_
      cases r₂ with
      | error e => exact hr₂
      | ok fl₂ =>
        cases fl₂ with
        | ret r =>
          obtain ⟨rfl, hq⟩ := hr₂
          repeat (any_goals (first | assumption | wp_step))
        | _ => exact hr₂.elim
    | _ => exact hr.elim
end
end PySem
namespace DL
open PySem PySem.Spec PyProof.Rows L2
open PySem.W (Frag)
section
variable {X : Cx} {k : Nat} {f C : Addr} {fd : FuncData} {ps : List Str} {sp : SpD}
/-- bool(o) -/
def kBoolO (c : Str) (sp : SpD) : RCD := c1 fun x G Q => ∃ ns ds, InsD G x c ns ds ∧ sp [x] G (fun v G1 => ∃ b, v = .bl b ∧ Q (.bl b) G1) (fun _ _ => False)
theorem cBoolO {c : Str} (hC : gaddr X.K c = some C) (hm : Meth X.K C "__bool__" f) (F : FnG X.prog X.w X.K X.mg X.base k f fd ps sp) (hg : X.A.guards = some []) (hr : Room (k + 2) X.A) (hb : Binds X.K fd ps []) : CallD X (.type "bool") (kBoolO c sp) :=
  ⟨fun xs H Q => ∃ a dx fs, xs = [.ref a] ∧ H a = some (.ins C dx fs) ∧ lsp X.K sp [.ref a] H (fun v H1 => ∃ b, v = .bl b ∧ Q (.bl b) H1) E0, fun pins s σ H xs us Q I r ⟨a, dx, fs, ex, ha, q⟩ => by
    subst ex
    obtain ⟨u, rfl, ru⟩ := vals1 r
    obtain rfl : u = Value.ref a := ru
    obtain ⟨m, fr⟩ := fr_of I
    obtain ⟨ox, od, J, _⟩ := inst_of I ha
    refine PySem.dl_call_bool (PySem.W.truthy_K fr I.ok.mod.kin J hm.at_ hm.fn (wpAny_mono (run_at F (guards_in1 (guards_in1 hg)) hr.in1.in1 I.env0.in1.in1 hb I (us := [.ref a]) (.cons (vref a) .nil) q) (fun r s' hr' => ?_) fun _ _ z => z))
    obtain ⟨w, H', J', rw', b, ew, q'⟩ := hr'
    subst ew
    obtain rfl : r = Value.bool b := rw'
    exact ⟨.bl b, H', J', rfl, q'⟩, fun xs H Q ds G QD hR hp ⟨x, e, ns, ds', hi, q⟩ hq => by
    subst e
    obtain ⟨v, rfl, px⟩ := rps1 hp
    obtain ⟨a, C', dx', xs', e1, h1, h2, h3, h4⟩ := hi.of hR px
    rw [hC] at h1; cases h1
    subst e1
    refine ⟨a, dx', _, rfl, h2, lsp0 hR (.cons px .nil) q fun v H' d G' s' r' p' ⟨n, e, z⟩ => ?_⟩
    subst e; cases p'
    exact ⟨n, rfl, hq _ _ _ _ s' r' (.bl _) z⟩⟩
end
end DL

namespace DL
open PySem PySem.Spec PyProof.Rows L2
open PySem.W (Frag)
theorem lk_here {f : Str} {ns : List Str} {d : D} {ds : List D} : lk f (f :: ns) (d :: ds) = some d := by simp [lk]
theorem lk_next {f n : Str} {ns : List Str} {d e : D} {ds : List D} (h : n ≠ f) (k : lk f ns ds = some e) : lk f (n :: ns) (d :: ds) = some e := by simp [lk, h, k]
theorem lk_nil {f : Str} {ds : List D} : lk f [] ds = none := by cases ds <;> rfl
theorem lk_not {f n : Str} {ns : List Str} {d : D} {ds : List D} (h : n ≠ f) (k : lk f ns ds = none) : lk f (n :: ns) (d :: ds) = none := by simp [lk, h, k]
/-! ### steps: own classes -/
section
variable {σ σ' : SD} {G : HH} {Q : QD} {E : ED} {d x y z : D} {ta tb to tv : TED} {t : TAD} {nx bk ct : SD → HH → Prop} {rt : QD} {ex : XD → SD → HH → Prop} {QT : Bool → HH → Prop} {p : Addr} {c f m : Str} {ns fns : List Str} {ds as : List D} {cs : List Str} {sp : SpD}
theorem st_raise (h : t σ G (fun ds G1 => ds.length = fns.length ∧ ex ⟨.own c, fns.reverse, ds.reverse⟩ σ G1) (fun x G' => ex x σ G')) : dRaise c fns t ⟨nx, rt, bk, ct, ex⟩ σ G := h
theorem st_raise1 {P : XD → Prop} {c f : Str} (h : P ⟨.own c, [f], [d]⟩) : [d].length = [f].length ∧ P ⟨.own c, [f].reverse, [d].reverse⟩ := ⟨rfl, h⟩
theorem st_raise2 {P : XD → Prop} {c f g : Str} {e : D} (h : P ⟨.own c, [g, f], [e, d]⟩) : [d, e].length = [f, g].length ∧ P ⟨.own c, [f, g].reverse, [d, e].reverse⟩ := ⟨rfl, h⟩
theorem st_fld (h : ta σ G (fun x G1 => ∃ c ns ds d, InsD G1 x c ns ds ∧ c ∈ cs ∧ lk f ns ds = some d ∧ Q d G1) E) : dFld cs f ta σ G Q E := h
theorem st_fldO {P : D → Prop} (hc : c ∈ cs) (hl : lk f ns ds = some d) (h : P d) : ∃ c' ns' ds' d', InsD G (.obj c ns ds) c' ns' ds' ∧ c' ∈ cs ∧ lk f ns' ds' = some d' ∧ P d' := ⟨c, ns, ds, d, .obj c ns ds, hc, hl, h⟩
theorem st_fldR {P : D → Prop} (hp : G p = some (.ins c ns ds)) (hc : c ∈ cs) (hl : lk f ns ds = some d) (h : P d) : ∃ c' ns' ds' d', InsD G (.ref p) c' ns' ds' ∧ c' ∈ cs ∧ lk f ns' ds' = some d' ∧ P d' := ⟨c, ns, ds, d, .ref hp, hc, hl, h⟩
theorem st_setF (h : tv σ G (fun y G1 => to σ G1 (fun x G2 => ∃ p c ns ds, x = .ref p ∧ G2 p = some (.ins c ns ds) ∧ c ∈ cs ∧ ns.length < 1000 ∧ nx σ (gput G2 p (.ins c (stF f y ns ds).1 (stF f y ns ds).2))) (fun x G' => ex x σ G')) (fun x G' => ex x σ G')) : dSetF cs f to tv ⟨nx, rt, bk, ct, ex⟩ σ G := h
theorem st_setFq {P : HH → Prop} (hp : G p = some (.ins c ns ds)) (hc : c ∈ cs) (hn : ns.length < 1000) (h : P (gput G p (.ins c (stF f y ns ds).1 (stF f y ns ds).2))) : ∃ p' c' ns' ds', D.ref p = .ref p' ∧ G p' = some (.ins c' ns' ds') ∧ c' ∈ cs ∧ ns'.length < 1000 ∧ P (gput G p' (.ins c' (stF f y ns' ds').1 (stF f y ns' ds').2)) := ⟨p, c, ns, ds, rfl, hp, hc, hn, h⟩
theorem st_make {fr : Bool} (h : t σ G (fun ds G1 => ∀ p, G1 p = none → sp (.ref p :: ds) (gput G1 p (.ins c [] [])) (fun v G2 => v = .non ∧ if fr = true then ∃ ns vs, G2 p = some (.ins c ns vs) ∧ Q (.obj c ns vs) (gdel G2 p) else Q (.ref p) G2) E) E) : dMake fr c sp t σ G Q E := h
theorem st_meth (h : ta σ G (fun x G1 => ∃ ns ds, InsD G1 x c ns ds ∧ lk m ns ds = none ∧ t σ G1 (fun as G2 => sp (x :: as) G2 Q E) E) E) : dMeth c m sp ta t σ G Q E := h
theorem st_methO {P : D → Prop} (hl : lk m ns ds = none) (h : P (.obj c ns ds)) : ∃ ns' ds', InsD G (.obj c ns ds) c ns' ds' ∧ lk m ns' ds' = none ∧ P (.obj c ns ds) := ⟨ns, ds, .obj c ns ds, hl, h⟩
theorem st_prop (h : ta σ G (fun x G1 => ∃ ns ds, InsD G1 x c ns ds ∧ sp [x] G1 Q (fun _ _ => False)) E) : dProp c sp ta σ G Q E := h
theorem st_insO {P : Prop} (h : P) : ∃ ns' ds', InsD G (.obj c ns ds) c ns' ds' ∧ P := ⟨ns, ds, .obj c ns ds, h⟩
theorem st_truO (h : ta σ G (fun x G1 => ∃ ns ds, InsD G1 x c ns ds ∧ sp [x] G1 (fun v G2 => ∃ b, v = .bl b ∧ QT b G2) (fun _ _ => False)) E) : dTruO c sp ta σ G QT E := h
theorem st_inO {neg : Bool} (h : sp [.obj c ns ds, x] G (fun v G1 => ∃ b, v = .bl b ∧ Q (.bl (if neg then !b else b)) G1) (fun _ _ => False)) : rInO neg c sp x (.obj c ns ds) G Q := ⟨ns, ds, .obj c ns ds, h⟩
theorem st_lenO (h : sp [.obj c ns ds] G (fun v G1 => ∃ n : Int, v = .int n ∧ 0 ≤ n ∧ n < 2 ^ 63 ∧ Q (.int n) G1) (fun _ _ => False)) : kLenO c sp [.obj c ns ds] G Q := ⟨_, rfl, ns, ds, .obj c ns ds, h⟩
theorem st_reprO (h : sp [.obj c ns ds] G (fun v G1 => ∃ z, v = .str z ∧ Q (.str z) G1) (fun _ _ => False)) : kReprO c sp [.obj c ns ds] G Q := ⟨_, rfl, ns, ds, .obj c ns ds, h⟩
theorem st_boolO (h : sp [.obj c ns ds] G (fun v G1 => ∃ b, v = .bl b ∧ Q (.bl b) G1) (fun _ _ => False)) : kBoolO c sp [.obj c ns ds] G Q := ⟨_, rfl, ns, ds, .obj c ns ds, h⟩
theorem st_opO (h : ta σ G (fun x G1 => tb σ G1 (fun y G2 => ∃ ns ds ns' ds', InsD G2 x c ns ds ∧ InsD G2 y c ns' ds' ∧ sp [x, y] G2 Q E) E) E) : dOpO c sp ta tb σ G Q E := h
theorem st_opOq {P : Prop} {ns2 : List Str} {ds2 : List D} (h : P) : ∃ n1 d1 n2 d2, InsD G (.obj c ns ds) c n1 d1 ∧ InsD G (.obj c ns2 ds2) c n2 d2 ∧ P := ⟨ns, ds, ns2, ds2, .obj c ns ds, .obj c ns2 ds2, h⟩
theorem st_isi {k T : String} {b : Bool} (ht : TyD G x (.bi k)) (hk : kitB k T = some b) (h : Q (.bl b) G) : kIsi [x, .ty T] G Q := ⟨_, _, rfl, k, T, b, ht, rfl, hk, h⟩
theorem st_fstr {ts : List TED} (h : dJs ts Str.empty σ G (fun z G1 => Q (.str z) G1) E) : dFStr ts σ G Q E := h
theorem st_js {ts : List TED} {acc : Str} {QS : Str → HH → Prop} (h : ta σ G (fun x G1 => ∃ y, x = .str y ∧ (acc ++ y).length ≤ sizeLine ∧ dJs ts (acc ++ y) σ G1 QS E) E) : dJs (ta :: ts) acc σ G QS E := h
theorem st_jsq {acc w : Str} {P : Str → Prop} (hl : (acc ++ w).length ≤ sizeLine) (h : P w) : ∃ y, D.str w = .str y ∧ (acc ++ y).length ≤ sizeLine ∧ P y := ⟨w, rfl, hl, h⟩
theorem st_jsn {acc : Str} {QS : Str → HH → Prop} (h : QS acc G) : dJs [] acc σ G QS E := h
theorem st_fmt (h : ta σ G (fun x G1 => (∃ y : Str, x = .str y ∧ y.length ≤ sizeLine ∧ Q (.str y) G1) ∨ ∃ i : Int, x = .int i ∧ i.natAbs.log2 < 1920 ∧ Q (.str (toString i)) G1) E) : dFmt ta σ G Q E := h
theorem st_fmtS {P : Prop} {a : Str} {R : Str → HH → Prop} (hl : a.length ≤ sizeLine) (h : R a G) : (∃ y : Str, D.str a = .str y ∧ y.length ≤ sizeLine ∧ R y G) ∨ ∃ i : Int, D.str a = .int i ∧ i.natAbs.log2 < 1920 ∧ R (toString i) G := .inl ⟨a, rfl, hl, h⟩
end
end DL

namespace DL
open PySem PySem.Spec PyProof.Rows L2
open PySem.W (Frag)
/-! ### a def's walk, in short -/
/-- the promise sp is kept by the body's reading t -/
abbrev VC (sp : SpD) (N : List Str) (t : TSD) : Prop := ∀ ds G Q EX, sp ds G Q EX → t { nx := fun _ G' => Q .non G', rt := Q, ex := fun x _ G' => EX x G' } (startD N ds) G
abbrev LN (sp : SpD) (n : Nat) : Prop := ∀ ds G Q E, sp ds G Q E → ds.length = n
/-- an expression gives d, whatever follows -/
def EvE (t : TED) (σ : SD) (G : HH) (d : D) : Prop := ∀ (Q : QD) (E : ED), Q d G → t σ G Q E
def EvT (t : TTD) (σ : SD) (G : HH) (b : Bool) : Prop := ∀ (Q : Bool → HH → Prop) (E : ED), Q b G → t σ G Q E
section
variable {σ : SD} {G : HH} {Q : QD} {QT : Bool → HH → Prop} {E : ED} {ta tb : TED} {tA tB : TTD} {a b : Bool}
theorem st_andE (ha : EvT tA σ G a) (hb : a = true → EvT tB σ G b) (h : QT (a && b) G) : dAnd tA tB σ G QT E := by
  refine ha _ _ ?_
  cases a
  · rw [if_neg Bool.false_ne_true]; exact h
  · rw [if_pos rfl]; exact hb rfl _ _ (by simpa using h)
theorem st_orE (ha : EvT tA σ G a) (hb : a = false → EvT tB σ G b) (h : QT (a || b) G) : dOr tA tB σ G QT E := by
  refine ha _ _ ?_
  cases a
  · rw [if_neg Bool.false_ne_true]; exact hb rfl _ _ (by simpa using h)
  · rw [if_pos rfl]; exact h
theorem st_andVE (ha : EvE ta σ G (.bl a)) (hb : a = true → EvE tb σ G (.bl b)) (h : Q (.bl (a && b)) G) : dAndV ta tb σ G Q E := by
  refine ha _ _ ⟨a, rfl, ?_⟩
  cases a
  · rw [if_neg Bool.false_ne_true]; exact h
  · rw [if_pos rfl]; exact hb rfl _ _ (by simpa using h)
theorem st_orVE (ha : EvE ta σ G (.bl a)) (hb : a = false → EvE tb σ G (.bl b)) (h : Q (.bl (a || b)) G) : dOrV ta tb σ G Q E := by
  refine ha _ _ ⟨a, rfl, ?_⟩
  cases a
  · rw [if_neg Bool.false_ne_true]; exact hb rfl _ _ (by simpa using h)
  · rw [if_pos rfl]; exact h
/-- x if c else y, of one kind -/
theorem st_ifE {c : Bool} {α : Type} (k : α → D) {x y : α} (hc : EvT tA σ G c) (ha : c = true → EvE ta σ G (k x)) (hb : c = false → EvE tb σ G (k y)) (h : Q (k (if c = true then x else y)) G) : dIf tA ta tb σ G Q E := by
  refine hc _ _ ?_
  cases c
  · rw [if_neg Bool.false_ne_true] at h ⊢; exact hb rfl _ _ h
  · rw [if_pos rfl] at h ⊢; exact ha rfl _ _ h
end
/-! ### slots that a loop changes -/
def setL : SD → List Nat → List (Option D) → SD
  | σ, k :: ks, v :: vs => setL (σ.set k v) ks vs
  | σ, _, _ => σ
def getL (σ : SD) (ks : List Nat) : List (Option D) := ks.map fun k => (σ[k]?).getD none
theorem fin_set {σ σ2 : SD} {ks : List Nat} {I : List (Option D) → Prop} (h : σ2 = setL σ ks (getL σ2 ks)) (hI : I (getL σ2 ks)) : ∃ vs, σ2 = setL σ ks vs ∧ I vs := ⟨_, h, hI⟩
section
variable {σ : SD} {G : HH} {g : TGD} {tb : TSD} {nx bk ct : SD → HH → Prop} {rt : QD} {ex : XD → SD → HH → Prop} {ok : HH → Prop} {tA : TTD}
theorem for_set {α : Type} {xs : List α} {c : α → D} (ks : List Nat) (Iv : List α → List (Option D) → HH → Prop) (hok : ∀ pre vs G', Iv pre vs G' → ok G') (h0 : σ = setL σ ks (getL σ ks)) (h1 : Iv [] (getL σ ks) G)
    (hs : ∀ pre a post vs G', xs = pre ++ a :: post → Iv pre vs G' → g (c a) (setL σ ks vs) G' (fun σ2 G2 => tb ⟨fun σ3 G3 => ∃ vs', σ3 = setL σ ks vs' ∧ Iv (pre ++ [a]) vs' G3, rt, nx, fun σ3 G3 => ∃ vs', σ3 = setL σ ks vs' ∧ Iv (pre ++ [a]) vs' G3, ex⟩ σ2 G2))
    (he : ∀ vs G', Iv xs vs G' → nx (setL σ ks vs) G') : ForG (xs.map c) ok g tb nx rt ex σ G := by
  refine for_map (fun pre σ3 G3 => ∃ vs', σ3 = setL σ ks vs' ∧ Iv pre vs' G3) (fun pre σ3 G3 ⟨vs, _, h⟩ => hok pre vs G3 h) ⟨_, h0, h1⟩ (fun pre a post σ3 G3 e ⟨vs, e2, h⟩ => ?_) (fun σ3 G3 ⟨vs, e2, h⟩ => ?_)
  · subst e2; exact hs pre a post vs G3 e h
  · subst e2; exact he vs G3 h
theorem for_rng_set {n : Nat} (ks : List Nat) (Iv : Nat → List (Option D) → HH → Prop) (h0 : σ = setL σ ks (getL σ ks)) (h1 : Iv 0 (getL σ ks) G)
    (hs : ∀ (i : Nat) vs G', i < n → Iv i vs G' → g (.int (i : Int)) (setL σ ks vs) G' (fun σ2 G2 => tb ⟨fun σ3 G3 => ∃ vs', σ3 = setL σ ks vs' ∧ Iv (i + 1) vs' G3, rt, nx, fun σ3 G3 => ∃ vs', σ3 = setL σ ks vs' ∧ Iv (i + 1) vs' G3, ex⟩ σ2 G2))
    (he : ∀ vs G', Iv n vs G' → nx (setL σ ks vs) G') : ForG (rgItems 0 n) okT g tb nx rt ex σ G := by
  refine for_rng0 (fun i σ3 G3 => ∃ vs', σ3 = setL σ ks vs' ∧ Iv i vs' G3) ⟨_, h0, h1⟩ (fun i σ3 G3 hi ⟨vs, e2, h⟩ => ?_) (fun σ3 G3 ⟨vs, e2, h⟩ => ?_)
  · subst e2; exact hs i vs G3 hi h
  · subst e2; exact he vs G3 h
theorem for_rngL_set {lo : Int} {n : Nat} (ks : List Nat) (Iv : Nat → List (Option D) → HH → Prop) (h0 : σ = setL σ ks (getL σ ks)) (h1 : Iv 0 (getL σ ks) G)
    (hs : ∀ (i : Nat) vs G', i < n → Iv i vs G' → g (.int (lo + (i : Int))) (setL σ ks vs) G' (fun σ2 G2 => tb ⟨fun σ3 G3 => ∃ vs', σ3 = setL σ ks vs' ∧ Iv (i + 1) vs' G3, rt, nx, fun σ3 G3 => ∃ vs', σ3 = setL σ ks vs' ∧ Iv (i + 1) vs' G3, ex⟩ σ2 G2))
    (he : ∀ vs G', Iv n vs G' → nx (setL σ ks vs) G') : ForG (rgItems lo n) okT g tb nx rt ex σ G := by
  refine for_rng (fun i σ3 G3 => ∃ vs', σ3 = setL σ ks vs' ∧ Iv i vs' G3) ⟨_, h0, h1⟩ (fun i σ3 G3 hi ⟨vs, e2, h⟩ => ?_) (fun σ3 G3 ⟨vs, e2, h⟩ => ?_)
  · subst e2; exact hs i vs G3 hi h
  · subst e2; exact he vs G3 h
/-- while, by an invariant with its own measure -/
theorem while_set (ks : List Nat) (Iv : Nat → List (Option D) → HH → Prop) (m0 : Nat) (h0 : σ = setL σ ks (getL σ ks)) (h1 : Iv m0 (getL σ ks) G)
    (hs : ∀ (m : Nat) vs G' (nx' : SD → HH → Prop), Iv m vs G' → (∀ m' vs' G2, m' < m → Iv m' vs' G2 → nx' (setL σ ks vs') G2) → tA (setL σ ks vs) G' (fun b G1 => if b = true then tb ⟨nx', rt, nx, nx', ex⟩ (setL σ ks vs) G1 else nx (setL σ ks vs) G1) (fun x G1 => ex x (setL σ ks vs) G1)) :
    dWhile tA tb ⟨nx, rt, bk, ct, ex⟩ σ G := by
  refine st_whileN (fun m σ3 G3 => ∃ vs', σ3 = setL σ ks vs' ∧ Iv m vs' G3) m0 ⟨_, h0, h1⟩ fun m σ3 G3 nx' ⟨vs, e, h⟩ hn => ?_
  subst e
  exact hs m vs G3 nx' h fun m' vs' G2 hm' h' => hn m' _ G2 hm' ⟨vs', rfl, h'⟩
/-- as one may end a turn: the slots as they stand -/
theorem while_go {σ2 : SD} {ks : List Nat} {m m' : Nat} {Iv : Nat → List (Option D) → HH → Prop} {nx' : SD → HH → Prop} (hn : ∀ m' vs' G2, m' < m → Iv m' vs' G2 → nx' (setL σ ks vs') G2) (h : σ2 = setL σ ks (getL σ2 ks)) (hm : m' < m) (hI : Iv m' (getL σ2 ks) G) : nx' σ2 G := by
  rw [h]; exact hn m' _ G hm hI
end
/-! ### comprehensions whose parts are found by themselves -/
section
variable {σ : SD} {G : HH} {Q : QD} {ok : HH → Prop} {g : Tgt} {tt : TTD} {te : TED} {vs : List Nat}
theorem lc_ev {α : Type} {xs : List α} {c : α → D} {k : α → Bool} {f : α → D} (hok : ∀ p acc, G p = none → ok (gput G p (.lst acc))) (hl : xs.length ≤ sizeLine)
    (hs : ∀ a, a ∈ xs → ∀ p acc, G p = none → ∃ σ2, g.put (c a) (wipeD σ vs) = some σ2 ∧ EvT tt σ2 (gput G p (.lst acc)) (k a) ∧ (k a = true → EvE te σ2 (gput G p (.lst acc)) (f a)))
    (hq : Q (.lst ((xs.filter k).map f)) G) : LcG true (xs.map c) ok g tt te vs σ G Q := by
  refine lc_pure k f hok hl (fun a ha p acc hp => ?_) (fun a ha hk p acc hp σ2 e2 Q' q => ?_) hq
  · obtain ⟨σ2, h1, h2, _⟩ := hs a ha p acc hp
    exact ⟨σ2, h1, fun QT q => h2 QT _ q⟩
  · obtain ⟨σ3, h1, _, h3⟩ := hs a ha p acc hp
    rw [e2] at h1; cases h1
    exact h3 hk Q' _ q
theorem lc_evY {α : Type} {xs : List α} {c : α → D} {f : α → D} (hok : ∀ p acc, G p = none → ok (gput G p (.lst acc))) (hl : xs.length ≤ sizeLine)
    (hs : ∀ a, a ∈ xs → ∀ p acc, G p = none → ∃ σ2, g.put (c a) (wipeD σ vs) = some σ2 ∧ EvE te σ2 (gput G p (.lst acc)) (f a))
    (hq : Q (.lst (xs.map f)) G) : LcG true (xs.map c) ok g dYes te vs σ G Q :=
  lc_map f hok hl (fun a ha p acc hp => (hs a ha p acc hp).imp fun σ2 h => ⟨h.1, fun Q' q => h.2 Q' _ q⟩) hq
/-- .. with a constructor told: the f that comes is k of something -/
theorem lc_evK {α β : Type} {xs : List α} {c : α → D} {k : α → Bool} (kf : β → D) {f : α → β} (hok : ∀ p acc, G p = none → ok (gput G p (.lst acc))) (hl : xs.length ≤ sizeLine)
    (hs : ∀ a, a ∈ xs → ∀ p acc, G p = none → ∃ σ2, g.put (c a) (wipeD σ vs) = some σ2 ∧ EvT tt σ2 (gput G p (.lst acc)) (k a) ∧ (k a = true → EvE te σ2 (gput G p (.lst acc)) (kf (f a))))
    (hq : Q (.lst (((xs.filter k).map f).map kf)) G) : LcG true (xs.map c) ok g tt te vs σ G Q :=
  lc_ev (f := fun a => kf (f a)) hok hl hs (by rw [List.map_map] at hq; exact hq)
theorem lc_evYK {α β : Type} {xs : List α} {c : α → D} (kf : β → D) {f : α → β} (hok : ∀ p acc, G p = none → ok (gput G p (.lst acc))) (hl : xs.length ≤ sizeLine)
    (hs : ∀ a, a ∈ xs → ∀ p acc, G p = none → ∃ σ2, g.put (c a) (wipeD σ vs) = some σ2 ∧ EvE te σ2 (gput G p (.lst acc)) (kf (f a)))
    (hq : Q (.lst ((xs.map f).map kf)) G) : LcG true (xs.map c) ok g dYes te vs σ G Q :=
  lc_evY (f := fun a => kf (f a)) hok hl hs (by rw [List.map_map] at hq; exact hq)
end
section
variable {p : Addr} {G G' : HH} {q : Addr} {o : HOD}
theorem But.at (b : But p G G') (h : q ≠ p) (e : G q = some o) : G' q = some o := (b q h).trans e
theorem But.atN (b : But p G G') (h : q ≠ p) (e : G q = none) : G' q = none := (b q h).trans e
end
end DL

namespace DL
open PySem PySem.Spec PyProof.Rows L2
open PySem.W (Frag)
/-! ### what is walked, by its value: a tuple, a list, a text -/
/-- what iter(..) of a value comes to -/
def ItV (X : Cx) (tg : Expr) (r : V → Hp → (It → Hp → Prop) → Prop) : Prop :=
  ∀ (pins : List (Addr × Obj)) (σ : L2.St) (R : It → Hp → Prop) (x : V) (v : Value) (H1 : Hp) (s1 : Shared), Inv X pins σ H1 s1 → RelV x v → r x H1 R → wpAny (model X.prog X.w) X.A (pyIter v) (PIE X pins σ tg R) X.xe s1
theorem pi_itv {X : Cx} {tg e : Expr} {te : TE} {r : V → Hp → (It → Hp → Prop) → Prop} (he : PE X e te) (i : ItV X tg r) : PI X tg e (fun σ H R => te σ H fun x H1 => r x H1 R) :=
  ⟨fun pins s σ H R I h => thn (he.run pins s σ H _ I h) fun v s1 ⟨x, H1, I1, r1, q1⟩ => i pins σ R x v H1 s1 I1 r1 q1⟩
theorem ItV.or {X : Cx} {tg : Expr} {r r' : V → Hp → (It → Hp → Prop) → Prop} (a : ItV X tg r) (b : ItV X tg r') : ItV X tg (fun x H R => r x H R ∨ r' x H R) :=
  fun pins σ R x v H1 s1 I q h => h.elim (a pins σ R x v H1 s1 I q) (b pins σ R x v H1 s1 I q)
/-- any rule for an expression serves for its value -/
theorem itv_of {X : Cx} {tg : Expr} {r : V → Hp → (It → Hp → Prop) → Prop} (h : ∀ (x : V) (v : Value) (pins : List (Addr × Obj)) (σ : L2.St) (R : It → Hp → Prop) (H1 : Hp) (s1 : Shared), Inv X pins σ H1 s1 → RelV x v → r x H1 R →
    wpAny (model X.prog X.w) X.A (pyIter v) (PIE X pins σ tg R) X.xe s1) : ItV X tg r := fun pins σ R x v H1 s1 I q z => h x v pins σ R H1 s1 I q z
theorem fp_one {X : Cx} {pins : List (Addr × Obj)} {H : Hp} {a : Addr} (h : FpOk X pins H a) : ∀ b ∈ [a], FpOk X pins H b := fun b hb => by rw [List.mem_singleton.mp hb]; exact h
theorem itv_list {X : Cx} {tg : Expr} : ItV X tg (fun x H R => ∃ a, x = .ref a ∧ (∃ xs, SqL X.K H a xs) ∧ R (Itl X.K a) H) := by
  rintro pins σ R x v H1 s1 I r1 ⟨a, rfl, ⟨xs, hq⟩, q⟩
  cases r1
  obtain ⟨its, rv, p, hz⟩ := I.list hq
  refine wpAny_pyIter_list p.isList ⟨s1.heap.objs.size, [_], fun i h => h.IsListIter s1.heap.objs.size a i, Itl X.K a, H1, rfl, ?_, turn_list a _, ?_, fp_one (I.fpOk (Nat.le_refl _) (I.hok.fresh (Nat.le_refl _))), q⟩
  · exact Inv.kept (t' := s1.toks) I fun b o e => Heap.get?_push_of_some _ e
  · exact ⟨_, Heap.get?_push_size _ rfl, rfl, rfl⟩
theorem itv_tup {X : Cx} {tg : Expr} : ItV X tg (fun x H R => ∃ a, x = .ref a ∧ (∃ xs, SqT X.K H a xs) ∧ R (Itt X.K a) H) := by
  rintro pins σ R x v H1 s1 I r1 ⟨a, rfl, ⟨xs, hq⟩, q⟩
  cases r1
  obtain ⟨its, rv, p, hz⟩ := I.tuple hq
  refine wpAny_pyIter_tuple (items := its.toArray) p ⟨s1.heap.objs.size, [_], fun i h => h.IsTupleIter s1.heap.objs.size a i, Itt X.K a, H1, rfl, ?_, turn_tuple a _, ?_, fp_one (I.fpOk (Nat.le_refl _) (I.hok.fresh (Nat.le_refl _))), q⟩
  · exact Inv.kept (t' := s1.toks) I fun b o e => Heap.get?_push_of_some _ e
  · exact ⟨_, Heap.get?_push_size _ rfl, rfl, rfl⟩
theorem itv_str {X : Cx} {tg : Expr} : ItV X tg (fun v H R => ∃ x, v = .str x ∧ R (Its x) H) := by
  rintro pins σ R x v H1 s1 I r1 ⟨z, rfl, q⟩
  obtain ⟨t, rfl⟩ := r1
  cases ha : z.cps.all (· < 128) with
  | false => exact wpAny_pyIter_wide ha (pi_one (tk := s1.toks) I _ (turn_str _ z t "str_iterator" (.inr rfl)) ⟨_, Heap.get?_push_size _ rfl, rfl, rfl⟩ q)
  | true => exact wpAny_pyIter_ascii ha (pi_one (tk := s1.toks) I _ (turn_str _ z t "str_ascii_iterator" (.inl rfl)) ⟨_, Heap.get?_push_size _ rfl, rfl, rfl⟩ q)
/-- the signs of a text -/
def chrs (z : Str) : List D := z.cps.toList.map fun c => D.str ⟨#[c]⟩
/-- data that is walked: its items, and what must stay meanwhile -/
def SqI (x : D) (G : HH) (R : List D → (HH → Prop) → HH → Prop) : Prop := (∃ xs, x = .tup xs ∧ R xs okT G) ∨ (∃ xs, LsW G x xs ∧ R xs (okL x xs) G) ∨ ∃ z, x = .str z ∧ R (chrs z) okT G
def iSqD (ta : TED) : TID := fun σ G R E => ta σ G (fun x G1 => SqI x G1 R) E
section
variable {X : Cx} {W : WX} {tg a : Expr} {ta : TED}
theorem di_sq (ha : DE X W a ta) : DI X W tg a (iSqD ta) := PI.imp (pi_itv ha (itv_tup.or (itv_list.or itv_str))) fun σ H R ⟨σD, G, RD, E, hR, hS, q, hr, he⟩ =>
  ⟨σD, G, _, E, hR, hS, q, fun v H1 d G1 s r p z => by
    rcases z with ⟨xs, rfl, z⟩ | ⟨xs, ls, z⟩ | ⟨x, rfl, z⟩
    · cases p with
      | @tup a vs _ f rr =>
        refine Or.inl ⟨a, rfl, ⟨_, f.sq⟩, hr _ _ _ _ _ s r (fun i H2 G2 s2 r2 _ => ⟨fun d hd => ?_, fun hl => ⟨_, (f.mono s2).sq, by rw [← rr.length]; exact hl⟩⟩) z⟩
        obtain ⟨y, hx, px⟩ := (rr.mono s2).get hd
        refine ⟨⟨_, y, (f.mono s2).sq, hx⟩, fun u H3 ⟨e3, hy⟩ => ?_⟩
        have t := hy _ (f.mono s2).sq
        rw [hx] at t
        cases t
        subst e3
        exact ⟨Stp.refl, r2, px⟩
    · obtain ⟨b, vs, rfl, h1, rr⟩ := ls.of r p
      refine Or.inr (Or.inl ⟨b, rfl, ⟨_, h1⟩, hr _ _ _ _ _ s r (fun i H2 G2 s2 r2 ok2 => ?_) z⟩)
      obtain ⟨c, us, e2, h2, r3⟩ := LsW.of ok2 r2 (p.mono s2)
      cases e2
      refine ⟨fun d hd => ?_, fun hl => ⟨_, h2, by rw [← r3.length]; exact hl⟩⟩
      obtain ⟨y, hx, px⟩ := r3.get hd
      refine ⟨⟨_, y, h2, hx⟩, fun u H3 ⟨e3, hy⟩ => ?_⟩
      have t := hy _ h2
      rw [hx] at t
      cases t
      subst e3
      exact ⟨Stp.refl, r2, px⟩
    · cases p
      refine Or.inr (Or.inr ⟨x, rfl, hr _ _ _ _ _ s r (fun i H2 G2 s2 r2 _ => ⟨fun d hd => ?_, fun hl => ?_⟩) z⟩)
      · unfold chrs at hd
        rw [List.getElem?_map, Array.getElem?_toList] at hd
        cases e : x.cps[i]? with
        | none => rw [e] at hd; cases hd
        | some c =>
          rw [e] at hd
          cases hd
          refine ⟨(Array.getElem?_eq_some_iff.mp e).1, fun u H3 ⟨e3, c', ec, eu⟩ => ?_⟩
          rw [e] at ec
          cases ec
          subst e3; subst eu
          exact ⟨Stp.refl, r2, .str _⟩
      · unfold chrs at hl
        show x.cps.size ≤ i
        simpa using hl, he⟩
end
section
variable {σ : SD} {G : HH} {E : ED} {ta : TED} {R : List D → (HH → Prop) → HH → Prop}
theorem st_iSq (h : ta σ G (fun x G1 => SqI x G1 R) E) : iSqD ta σ G R E := h
theorem st_sqT {xs : List D} (h : R xs okT G) : SqI (.tup xs) G R := .inl ⟨xs, rfl, h⟩
theorem st_sqL {x : D} {xs : List D} (hl : LsW G x xs) (h : R xs (okL x xs) G) : SqI x G R := .inr (.inl ⟨xs, hl, h⟩)
theorem st_sqS {z : Str} (h : R (chrs z) okT G) : SqI (.str z) G R := .inr (.inr ⟨z, rfl, h⟩)
end
section
variable {σ : SD} {G : HH} {Q : QD} {ok : HH → Prop} {g : Tgt} {tt : TTD} {te : TED} {vs : List Nat} {fr : Bool} {gg : TGD} {tb : TSD} {nx : SD → HH → Prop} {rt : QD} {ex : XD → SD → HH → Prop}
theorem lc_mark {items : List D} (h : LcG fr items ok g tt te vs σ G Q) : LcG fr items ok g tt te vs σ G Q := h
/-- the items told by a list -/
theorem lc_of {α : Type} {items : List D} (xs : List α) (c : α → D) (e : items = xs.map c) (h : LcG fr (xs.map c) ok g tt te vs σ G Q) : LcG fr items ok g tt te vs σ G Q := by rw [e]; exact h
theorem for_of {α : Type} {items : List D} (xs : List α) (c : α → D) (e : items = xs.map c) (h : ForG (xs.map c) ok gg tb nx rt ex σ G) : ForG items ok gg tb nx rt ex σ G := by rw [e]; exact h
theorem rg_map (n : Nat) : rgItems 0 n = (List.range n).map fun i : Nat => D.int (i : Int) := by
  unfold rgItems
  exact List.map_congr_left fun a _ => by rw [Int.zero_add]
theorem lc_rg {n : Nat} (h : LcG fr ((List.range n).map fun i : Nat => D.int (i : Int)) ok g tt te vs σ G Q) : LcG fr (rgItems 0 n) ok g tt te vs σ G Q := by rw [rg_map]; exact h
end
end DL

namespace DL
open PySem PySem.Spec PyProof.Rows L2
open PySem.W (Frag)
/-! ### lists told by lists -/
section
variable {G : HH} {Q : QD} {α : Type} {c : α → D}
theorem st_addLm {a b : List α} (hl : a.length + b.length ≤ sizeLine) (h : Q (.lst ((a ++ b).map c)) G) : aAny (.lst (a.map c)) (.lst (b.map c)) G Q :=
  st_addL (.lst _) (.lst _) (by rw [List.length_map, List.length_map]; exact hl) (by rw [← List.map_append]; exact h)
theorem st_addTm {a b : List α} (hl : a.length + b.length ≤ sizeLine) (h : Q (.tup ((a ++ b).map c)) G) : aAny (.tup (a.map c)) (.tup (b.map c)) G Q :=
  st_addT (by rw [List.length_map, List.length_map]; exact hl) (by rw [← List.map_append]; exact h)
theorem rep_one {d : D} : ∀ n : Nat, (List.replicate n [d]).flatten = List.replicate n d
  | 0 => rfl
  | n + 1 => by rw [List.replicate_succ, List.flatten_cons, rep_one n, List.replicate_succ]; rfl
theorem map_rep {a : α} : ∀ n : Nat, List.replicate n (c a) = (List.replicate n a).map c := fun n => by rw [List.map_replicate]
/-- [x] * k -/
theorem st_mul1 {a : α} {k : Int} (hk : -(2 ^ 63) ≤ k ∧ k < 2 ^ 63) (hl : k.toNat ≤ sizeLine) (h : Q (.lst ((List.replicate k.toNat a).map c)) G) : mAny (.lst [c a]) (.int k) G Q :=
  st_mulL (.lst _) hk (by simpa using hl) (by rw [rep_one, map_rep]; exact h)
/-- [x] * int(b) -/
theorem st_mulB {a : α} {b : Bool} (h : Q (.lst ((if b = true then [a] else []).map c)) G) : mAny (.lst [c a]) (.int (if b = true then 1 else 0)) G Q := by
  cases b
  · exact st_mul1 ⟨by decide, by decide⟩ (by rw [sizeLine_eq]; decide) h
  · exact st_mul1 ⟨by decide, by decide⟩ (by rw [sizeLine_eq]; decide) h
end
/-! ### data, its == and its repr -/
mutual
/-- data of depth n at most -/
def gd : Nat → D → Prop
  | _, .non => True
  | _, .bl _ => True
  | _, .int _ => True
  | _, .str x => PyData.strOk x = true
  | n + 1, .tup xs => gds n xs
  | n + 1, .lst xs => gds n xs
  | n + 1, .wls xs => gds n xs
  | _, _ => False
def gds : Nat → List D → Prop
  | _, [] => True
  | n, x :: xs => gd n x ∧ gds n xs
end
mutual
def D.pyd : D → PyData
  | .non => .none
  | .bl b => .bool b
  | .int i => .int i
  | .str x => .str x
  | .tup xs => .tuple (pyds xs)
  | .lst xs => .list (pyds xs)
  | .wls xs => .list (pyds xs)
  | _ => .none
def pyds : List D → List PyData
  | [] => []
  | x :: xs => x.pyd :: pyds xs
end
mutual
theorem gd_py : ∀ (n : Nat) (d : D), gd n d → d.py = some d.pyd ∧ d.pyd.canLay0 = true ∧ d.pyd.depth ≤ n
  | n, .non, _ => by simp [D.py, D.pyd, PyData.canLay0, PyData.depth]
  | n, .bl b, _ => by simp [D.py, D.pyd, PyData.canLay0, PyData.depth]
  | n, .int b, _ => by simp [D.py, D.pyd, PyData.canLay0, PyData.depth]
  | n, .str x, h => by
    have h : PyData.strOk x = true := by cases n <;> exact h
    simp [D.py, D.pyd, PyData.canLay0, PyData.depth, h]
  | 0, .tup _, h => by simp [gd] at h
  | 0, .lst _, h => by simp [gd] at h
  | 0, .wls _, h => by simp [gd] at h
  | n + 1, .tup xs, h => by
    simp only [gd] at h
    have ih := gds_py n xs h
    simp [D.py, D.pyd, PyData.canLay0, PyData.depth, ih.1, ih.2.1]
    have := ih.2.2
    omega
  | n + 1, .lst xs, h => by
    simp only [gd] at h
    have ih := gds_py n xs h
    simp [D.py, D.pyd, PyData.canLay0, PyData.depth, ih.1, ih.2.1]
    have := ih.2.2
    omega
  | n + 1, .wls xs, h => by
    simp only [gd] at h
    have ih := gds_py n xs h
    simp [D.py, D.pyd, PyData.canLay0, PyData.depth, ih.1, ih.2.1]
    have := ih.2.2
    omega
  | 0, .obj _ _ _, h => by simp [gd] at h
  | 0, .dct _ _, h => by simp [gd] at h
  | 0, .ref _, h => by simp [gd] at h
  | 0, .ty _, h => by simp [gd] at h
  | 0, .gv _, h => by simp [gd] at h
  | n + 1, .obj _ _ _, h => by simp [gd] at h
  | n + 1, .dct _ _, h => by simp [gd] at h
  | n + 1, .ref _, h => by simp [gd] at h
  | n + 1, .ty _, h => by simp [gd] at h
  | n + 1, .gv _, h => by simp [gd] at h
theorem gds_py : ∀ (n : Nat) (ds : List D), gds n ds → pys ds = some (pyds ds) ∧ PyData.canLayAll0 (pyds ds) = true ∧ PyData.depthAll (pyds ds) ≤ n
  | n, [], _ => by simp [pys, pyds, PyData.canLayAll0, PyData.depthAll]
  | n, d :: ds, h => by
    simp only [gds] at h
    have a := gd_py n d h.1
    have b := gds_py n ds h.2
    simp [pys, pyds, PyData.canLayAll0, PyData.depthAll, a.1, a.2.1, b.1, b.2.1]
    have := a.2.2; have := b.2.2
    omega
end
theorem gd_shaped {n : Nat} {d : D} (h : gd n d) (hn : n ≤ 64) : SeqAt.shaped d.pyd = true := by
  have a := gd_py n d h
  unfold SeqAt.shaped
  rw [a.2.1]
  have := a.2.2
  simp; omega
theorem gd_tup {n : Nat} {xs : List D} : gd (n + 1) (.tup xs) = gds n xs := by simp only [gd]
theorem gd_lst {n : Nat} {xs : List D} : gd (n + 1) (.lst xs) = gds n xs := by simp only [gd]
theorem gds_map {α : Type} {n : Nat} {c : α → D} : ∀ {xs : List α}, (∀ a ∈ xs, gd n (c a)) → gds n (xs.map c)
  | [], _ => by simp [gds]
  | x :: xs, h => by
    rw [List.map_cons]
    simp only [gds]
    exact ⟨h x (by simp), gds_map fun a ha => h a (by simp [ha])⟩
theorem pyds_map {α : Type} {c : α → D} : ∀ xs : List α, pyds (xs.map c) = xs.map fun a => (c a).pyd
  | [] => by simp [pyds]
  | x :: xs => by simp [pyds, pyds_map xs]
mutual
theorem gd_mono {n m : Nat} (h : n ≤ m) : ∀ d : D, gd n d → gd m d
  | .non, _ => by cases m <;> simp [gd]
  | .bl _, _ => by cases m <;> simp [gd]
  | .int _, _ => by cases m <;> simp [gd]
  | .str x, g => by
    have g : PyData.strOk x = true := by cases n <;> exact g
    cases m <;> exact g
  | .tup xs, g => by
    cases n with
    | zero => simp [gd] at g
    | succ n =>
      cases m with
      | zero => omega
      | succ m => simp only [gd] at g ⊢; exact gds_mono (by omega) xs g
  | .lst xs, g => by
    cases n with
    | zero => simp [gd] at g
    | succ n =>
      cases m with
      | zero => omega
      | succ m => simp only [gd] at g ⊢; exact gds_mono (by omega) xs g
  | .wls xs, g => by
    cases n with
    | zero => simp [gd] at g
    | succ n =>
      cases m with
      | zero => omega
      | succ m => simp only [gd] at g ⊢; exact gds_mono (by omega) xs g
  | .obj _ _ _, g => by cases n <;> simp [gd] at g
  | .dct _ _, g => by cases n <;> simp [gd] at g
  | .ref _, g => by cases n <;> simp [gd] at g
  | .ty _, g => by cases n <;> simp [gd] at g
  | .gv _, g => by cases n <;> simp [gd] at g
theorem gds_mono {n m : Nat} (h : n ≤ m) : ∀ ds : List D, gds n ds → gds m ds
  | [], _ => by simp [gds]
  | d :: ds, g => by
    simp only [gds] at g ⊢
    exact ⟨gd_mono h d g.1, gds_mono h ds g.2⟩
end
/-- == of data -/
def eqD (x y : D) : Bool := PyData.eqv x.pyd y.pyd
section
variable {G : HH} {Q : QD}
theorem st_eqD {x y : D} (n : Nat) (h1 : gd n x) (h2 : gd n y) (hn : n ≤ 64) (h : Q (.bl (eqD x y)) G) : eAny false x y G Q :=
  st_eqP (Py.of (gd_py n x h1).1) (Py.of (gd_py n y h2).1) (gd_shaped h1 hn) (gd_shaped h2 hn) h
theorem st_neD {x y : D} (n : Nat) (h1 : gd n x) (h2 : gd n y) (hn : n ≤ 64) (h : Q (.bl (!eqD x y)) G) : eAny true x y G Q :=
  st_neP (Py.of (gd_py n x h1).1) (Py.of (gd_py n y h2).1) (gd_shaped h1 hn) (gd_shaped h2 hn) h
end
theorem eqvAll_dec {α : Type} {f : α → PyData} (h : ∀ a b, PyData.eqv (f a) (f b) = true ↔ a = b) : ∀ xs ys : List α, PyData.eqvAll (xs.map f) (ys.map f) = true ↔ xs = ys
  | [], [] => by simp [PyData.eqvAll]
  | [], _ :: _ => by simp [PyData.eqvAll]
  | _ :: _, [] => by simp [PyData.eqvAll]
  | x :: xs, y :: ys => by
    simp only [List.map_cons, PyData.eqvAll, Bool.and_eq_true, h x y, eqvAll_dec h xs ys, List.cons.injEq]
theorem eqv_int {i j : Int} : PyData.eqv (.int i) (.int j) = true ↔ i = j := by simp [PyData.eqv]
theorem eqv_str {i j : Str} : PyData.eqv (.str i) (.str j) = true ↔ i = j := by simp [PyData.eqv]
theorem eqv_bool {i j : Bool} : PyData.eqv (.bool i) (.bool j) = true ↔ i = j := by simp [PyData.eqv]
theorem eqD_tup {α : Type} {c : α → D} (h : ∀ a b, eqD (c a) (c b) = true ↔ a = b) (xs ys : List α) : eqD (.tup (xs.map c)) (.tup (ys.map c)) = true ↔ xs = ys := by
  show PyData.eqv (D.pyd _) (D.pyd _) = true ↔ _
  simp only [D.pyd, PyData.eqv, pyds_map]
  exact eqvAll_dec h xs ys
theorem eqD_lst {α : Type} {c : α → D} (h : ∀ a b, eqD (c a) (c b) = true ↔ a = b) (xs ys : List α) : eqD (.lst (xs.map c)) (.lst (ys.map c)) = true ↔ xs = ys := by
  show PyData.eqv (D.pyd _) (D.pyd _) = true ↔ _
  simp only [D.pyd, PyData.eqv, pyds_map]
  exact eqvAll_dec h xs ys
theorem eqD_int {i j : Int} : eqD (.int i) (.int j) = true ↔ i = j := eqv_int
theorem eqD_str {i j : Str} : eqD (.str i) (.str j) = true ↔ i = j := eqv_str
theorem eqD_bl {i j : Bool} : eqD (.bl i) (.bl j) = true ↔ i = j := eqv_bool
theorem dec_of {b : Bool} {p : Prop} [Decidable p] (h : b = true ↔ p) : b = decide p := by
  by_cases hp : p
  · rw [decide_eq_true hp]; exact h.mpr hp
  · rw [decide_eq_false hp]
    cases b
    · rfl
    · exact absurd (h.mp rfl) hp
/-! repr -/
mutual
/-- ints below 2 ^ b -/
def sm (b : Nat) : D → Prop
  | .int i => i.natAbs < 2 ^ b
  | .tup xs => sms b xs
  | .lst xs => sms b xs
  | .wls xs => sms b xs
  | _ => True
def sms (b : Nat) : List D → Prop
  | [] => True
  | x :: xs => sm b x ∧ sms b xs
end
mutual
/-- how much there is of it -/
def D.bulk : D → Nat
  | .str x => x.cps.size + 1
  | .tup xs => bulks xs + 1
  | .lst xs => bulks xs + 1
  | .wls xs => bulks xs + 1
  | _ => 1
def bulks : List D → Nat
  | [] => 0
  | x :: xs => x.bulk + bulks xs + 1
end
theorem sms_map {α : Type} {b : Nat} {c : α → D} : ∀ {xs : List α}, (∀ a ∈ xs, sm b (c a)) → sms b (xs.map c)
  | [], _ => by simp [sms]
  | x :: xs, h => by
    rw [List.map_cons]
    simp only [sms]
    exact ⟨h x (by simp), sms_map fun a ha => h a (by simp [ha])⟩
theorem bulks_map {α : Type} {B : Nat} {c : α → D} : ∀ {xs : List α}, (∀ a ∈ xs, (c a).bulk ≤ B) → bulks (xs.map c) ≤ (B + 1) * xs.length
  | [], _ => by simp [bulks]
  | x :: xs, h => by
    have h1 := h x (by simp)
    have h2 := bulks_map (xs := xs) fun a ha => h a (by simp [ha])
    simp only [List.map_cons, bulks, List.length_cons, Nat.mul_add]
    omega
mutual
theorem fine_of {b : Nat} : ∀ (n : Nat) (d : D), gd n d → sm b d → fine b n d.pyd
  | n, .non, _, _ => by cases n <;> simp [D.pyd, fine]
  | n, .bl _, _, _ => by cases n <;> simp [D.pyd, fine]
  | n, .int i, _, h => by
    simp only [sm] at h
    cases n <;> simpa only [D.pyd, fine] using h
  | n, .str x, h, _ => by cases n <;> exact h
  | 0, .tup _, h, _ => by simp [gd] at h
  | 0, .lst _, h, _ => by simp [gd] at h
  | 0, .wls _, h, _ => by simp [gd] at h
  | n + 1, .tup xs, h, g => by
    simp only [gd, sm] at h g
    simp only [D.pyd, fine]
    exact fines_of n xs h g
  | n + 1, .lst xs, h, g => by
    simp only [gd, sm] at h g
    simp only [D.pyd, fine]
    exact fines_of n xs h g
  | n + 1, .wls xs, h, g => by
    simp only [gd, sm] at h g
    simp only [D.pyd, fine]
    exact fines_of n xs h g
  | n, .obj _ _ _, h, _ => by cases n <;> simp [gd] at h
  | n, .dct _ _, h, _ => by cases n <;> simp [gd] at h
  | n, .ref _, h, _ => by cases n <;> simp [gd] at h
  | n, .ty _, h, _ => by cases n <;> simp [gd] at h
  | n, .gv _, h, _ => by cases n <;> simp [gd] at h
theorem fines_of {b : Nat} : ∀ (n : Nat) (ds : List D), gds n ds → sms b ds → fineAll b n (pyds ds)
  | n, [], _, _ => by simp [pyds, fineAll]
  | n, d :: ds, h, g => by
    simp only [gds, sms] at h g
    simp only [pyds, fineAll]
    exact ⟨fine_of n d h.1 g.1, fines_of n ds h.2 g.2⟩
end
mutual
theorem bulk_le : ∀ d : D, d.pyd.bulk ≤ d.bulk
  | .non => by simp [D.pyd, PyData.bulk]
  | .bl _ => by simp [D.pyd, PyData.bulk]
  | .int _ => by simp [D.pyd, PyData.bulk]
  | .str x => by simp [D.pyd, PyData.bulk, D.bulk]
  | .tup xs => by
    have := bulks_le xs
    simp only [D.pyd, PyData.bulk, D.bulk]; omega
  | .lst xs => by
    have := bulks_le xs
    simp only [D.pyd, PyData.bulk, D.bulk]; omega
  | .wls xs => by
    have := bulks_le xs
    simp only [D.pyd, PyData.bulk, D.bulk]; omega
  | .obj _ _ _ => by simp [D.pyd, PyData.bulk]
  | .dct _ _ => by simp [D.pyd, PyData.bulk]
  | .ref _ => by simp [D.pyd, PyData.bulk]
  | .ty _ => by simp [D.pyd, PyData.bulk]
  | .gv _ => by simp [D.pyd, PyData.bulk]
theorem bulks_le : ∀ ds : List D, PyData.bulkAll (pyds ds) ≤ bulks ds
  | [] => by simp [pyds, PyData.bulkAll]
  | d :: ds => by
    have h1 := bulk_le d
    have h2 := bulks_le ds
    simp only [pyds, PyData.bulkAll, bulks]; omega
end
/-- data whose repr fits: of depth 60, ints below 2 ^ b, so much of it -/
structure Rpr (b B : Nat) (d : D) : Prop where
  g : gd 60 d
  s : sm b d
  z : d.bulk ≤ B
theorem Rpr.shw {b B : Nat} {d : D} (h : Rpr b B d) (h0 : 0 < b ∧ b ≤ 1900) (hB : (b + 12) * B + b + 10 ≤ 16777216) : Shw d.pyd := by
  refine shw_of (b := b) (n := 60) h0.1 h0.2 (by decide) (fine_of 60 d h.g h.s) ?_
  have := Nat.mul_le_mul_left (b + 12) (Nat.le_trans (bulk_le d) h.z)
  omega
theorem st_reprD {G : HH} {Q : QD} {x : D} (b B : Nat) (h : Rpr b B x) (h0 : 0 < b ∧ b ≤ 1900) (hB : (b + 12) * B + b + 10 ≤ 16777216) (q : Q (.str x.pyd.shown) G) : kRepr [x] G Q :=
  st_repr (Py.of (gd_py 60 x h.g).1) (h.shw h0 hB) q
theorem Rpr.bl {b : Bool} : Rpr 64 10 (.bl b) := ⟨by simp [gd], by simp [sm], by simp [D.bulk]⟩
theorem Rpr.int {i : Int} {b : Nat} (h : i.natAbs < 2 ^ b) : Rpr b 10 (.int i) := ⟨by simp [gd], by simpa only [sm] using h, by simp [D.bulk]⟩
theorem st_reprB {G : HH} {Q : QD} {x : Bool} (q : Q (.str (D.bl x).pyd.shown) G) : kRepr [.bl x] G Q := st_reprD 64 10 .bl (by decide) (by decide) q
theorem st_reprI {G : HH} {Q : QD} {x : Int} (h : x.natAbs < 2 ^ 64) (q : Q (.str (D.int x).pyd.shown) G) : kRepr [.int x] G Q := st_reprD 64 10 (.int h) (by decide) (by decide) q
theorem st_iteF' {b : Bool} {A B : Prop} (h : b = false) (q : B) : if b = true then A else B := by rw [h, if_neg Bool.false_ne_true]; exact q
theorem st_iteT' {b : Bool} {A B : Prop} (h : b = true) (q : A) : if b = true then A else B := by rw [h, if_pos rfl]; exact q
theorem st_sz {xs : List D} {P : Prop} (h : xs.length ≤ sizeLine) (q : P) : xs.length ≤ sizeLine ∧ P := ⟨h, q⟩
theorem ne_sn {G : HH} {p q : Addr} {o : HOD} (h : G p = some o) (h' : G q = none) : p ≠ q := by intro e; rw [e, h'] at h; cases h
section
variable {G : HH} {Q : QD} {α : Type} {c : α → D} {xs : List α}
theorem st_lenLm (h : Q (.int xs.length) G) : kLen [.lst (xs.map c)] G Q := st_len (.lst _) (by rw [List.length_map]; exact h)
theorem st_lenTm (h : Q (.int xs.length) G) : kLen [.tup (xs.map c)] G Q := st_len (.tup _) (by rw [List.length_map]; exact h)
theorem st_lenWm (h : Q (.int xs.length) G) : kLen [.wls (xs.map c)] G Q := st_len (.wls _) (by rw [List.length_map]; exact h)
end
theorem st_strq {x : Str} {P : Str → Prop} (q : P x) : ∃ z, D.str x = .str z ∧ P z := ⟨x, rfl, q⟩
theorem st_addSl {G : HH} {Q : QD} {x y : Str} (hl : x.length + y.length ≤ 16777216) (h : Q (.str (x ++ y)) G) : aAny (.str x) (.str y) G Q := st_addS (by rw [sizeLine_eq]; exact hl) h
theorem sz_small {n : Nat} (h : n ≤ 1000) : n ≤ sizeLine := by rw [sizeLine_eq]; omega
/-- f(a, *v): how it binds -/
theorem fun_star1 {K : Frag} {x qual : Str} {st : Stmt} {f : Addr} {fd : FuncData} {p1 pv : Str} (F : Fun K x qual st f fd)
    (h0 : ∀ (kV doc pm : Value) (an : Option Addr) (cdv ct : Value) (a : Value), bindArgs (PySem.W.fnOf x qual (defArgs st) (defBody st) (defScope st) .none kV doc pm an cdv ct) ⟨[a], []⟩ = (newTuple [] >>= fun t => pure [(p1, a), (pv, t)]))
    (h1 : ∀ (kV doc pm : Value) (an : Option Addr) (cdv ct : Value) (a r : Value) (rs : List Value), bindArgs (PySem.W.fnOf x qual (defArgs st) (defBody st) (defScope st) .none kV doc pm an cdv ct) ⟨a :: r :: rs, []⟩ = (newTuple (r :: rs) >>= fun t => pure [(p1, a), (pv, t)])) :
    ∀ us rest : List Value, us.length = 1 → bindArgs fd ⟨us ++ rest, []⟩ = (newTuple rest >>= fun t => pure (([p1] : List Str).zip us ++ [(pv, t)])) := by
  obtain ⟨oc, od, kV, doc, pm, an, cdv, ct, osl, rfl, lk, hcd⟩ := F.ex
  intro us rest hl
  match us, rest, hl with
  | [a], [], _ => exact h0 kV doc pm an cdv ct a
  | [a], r :: rs, _ => exact h1 kV doc pm an cdv ct a r rs
end DL

namespace DL
open PySem PySem.Spec PyProof.Rows L2
open PySem.W (Frag)
/-! ### calls and methods of instances of several classes; defs as values -/
section
variable {X : Cx} {W : WX} {fe e o : Expr} {es : List Expr} {tf to : TED} {t : TAD} {pos apos : Pos}
/-- classes whose instances may be called -/
def CTab (X : Cx) (k : Nat) (tb : List (Str × SpD)) : Prop := ∀ p ∈ tb, ∃ C g fd ps, gaddr X.K p.1 = some C ∧ StX.CallO X.K C g ∧ FnG X.prog X.w X.K X.mg X.base k g fd ps p.2 ∧ Binds X.K fd ps []
/-- defs that are called as values -/
def FTab (X : Cx) (k : Nat) (tb : List (Str × SpD)) : Prop := ∀ p ∈ tb, ∃ f fd ps, gaddr X.K p.1 = some f ∧ PySem.W.keepIn X.K (.ref f) = true ∧ FnG X.prog X.w X.K X.mg X.base k f fd ps p.2 ∧ Binds X.K fd ps []
/-- classes that have a method -/
def MTab (X : Cx) (k : Nat) (m : Str) (tb : List (Str × SpD)) : Prop := ∀ p ∈ tb, ∃ C f fd ps, gaddr X.K p.1 = some C ∧ Cls X.K C ∧ Meth X.K C m f ∧ FnG X.prog X.w X.K X.mg X.base k f fd ps p.2 ∧ Binds X.K fd ps []
def dCallV (tbo tbf : List (Str × SpD)) (tf : TED) (t : TAD) : TED := fun σ G Q E => tf σ G (fun x G1 => (∃ c sp ns ds, InsD G1 x c ns ds ∧ (c, sp) ∈ tbo ∧ t σ G1 (fun as G2 => (∃ ns ds, InsD G2 x c ns ds) ∧ sp (x :: as) G2 Q E) E) ∨ ∃ c sp, x = .gv c ∧ (c, sp) ∈ tbf ∧ t σ G1 (fun as G2 => sp as G2 Q E) E) E
theorem de_callV {k : Nat} {tbo tbf : List (Str × SpD)} (ho : CTab X k tbo) (hf : FTab X k tbf) (hgd : X.A.guards = some []) (hr : Room k X.A) (tk : Takes X W) (hfe : DE X W fe tf) (ha : DA X W (e :: es) t)
    (ht : eval (.Call fe (e :: es) [] pos) X.env = (do callWith pos (← eval fe X.env) [] (backTo pos (starEach (e :: es) X.env)) (backToKw pos (keywordEach [] X.env))) := by rfl)
    (he : starEach (e :: es) X.env = (false, eval e X.env) :: starEach es X.env := by rfl) (hpl : (backTo pos (starEach es X.env)).any (·.1) = false := by rfl) : DE X W (.Call fe (e :: es) [] pos) (dCallV tbo tbf tf t) := by
  have ha' : PA X (e :: es) (lftA X.K W t) := ha
  have hf' : PE X fe (lft X.K W tf) := hfe
  refine ⟨fun pins s σ H Q I ⟨σD, G, QD, E, hR, hS, q, hq, hE⟩ => ?_⟩
  refine Call_ (thn (hf'.run pins s σ H (fun v H1 => ∃ d G1, Stp H G H1 G1 ∧ RelH X.K H1 G1 ∧ Rp X.K H1 G1 d v ∧ ((∃ c sp ns ds, InsD G1 d c ns ds ∧ (c, sp) ∈ tbo ∧ t σD G1 (fun as G2 => (∃ ns ds, InsD G2 d c ns ds) ∧ sp (d :: as) G2 QD E) E) ∨ ∃ c sp, d = .gv c ∧ (c, sp) ∈ tbf ∧ t σD G1 (fun as G2 => sp as G2 QD E) E)) I ⟨σD, G, _, E, hR, hS, q, fun v H1 d G1 s1 r1 p1 z => ⟨d, G1, s1, r1, p1, z⟩, hE⟩) fun u s1 ⟨x, H1, I1, rx, d, G1, s1', r1, p1, z⟩ => ?_) ht
  rcases z with ⟨c, sp, ns0, ds0, hi0, hm, q1⟩ | ⟨c, sp, rfl, hm, q1⟩
  · obtain ⟨C, g, fd, ps, hC, co, F, hb⟩ := ho _ hm
    obtain ⟨a, _, _, _, ex, _, _, _, _⟩ := hi0.of r1 p1
    subst ex
    obtain rfl : u = Value.ref a := rx
    refine StX.callO_with (thn (ha'.run pos pins s1 σ H1 (fun vs H2 => (∃ dx fs, H2 a = some (.ins C dx fs)) ∧ lsp X.K sp (.ref a :: vs) H2 Q (WE W σ)) I1 ⟨σD, G1, _, E, r1, hS.mono s1', q1, fun vs H2 as G2 s2 r2 p2 ⟨⟨ns, ds, hi⟩, q2⟩ => ?_, hE.mono s1'⟩) fun us s2 ⟨vs, H2, I2, r, ⟨dx2, fs2, hi2⟩, q2⟩ => ?_) he hpl
    · have p3 := p1.mono s2
      obtain ⟨b, C', dx, xs, ex, h1, h2, h3, h4⟩ := hi.of r2 p3
      cases ex
      have hCC : C' = C := by rw [hC] at h1; exact (Option.some.inj h1).symm
      subst hCC
      exact ⟨⟨_, _, h2⟩, d :: as, G2, QD, E, r2, .cons p3 p2, q2, hq.mono (s1'.trans s2), fun xd cls d' H' G' s' r' p' z' => hE _ _ _ _ _ ((s1'.trans s2).trans s') r' p' z'⟩
    · obtain ⟨ox, od, J, hd⟩ := StX.insC_at I2 (Or.inr ⟨_, _, hi2⟩)
      refine ⟨⟨C, ox, od, J, hd⟩, ?_⟩
      have rv : Vals (V.ref a :: vs) (Value.ref a :: us) := .cons (vref a) r
      have hl : (Value.ref a :: us).length = ps.length := by rw [← rv.length]; exact F.llen q2
      have b := hb s2 (Value.ref a :: us) I2.kIn (by rw [List.append_nil]; exact hl)
      rw [List.append_nil] at b
      refine wpAny_call (PySem.W.kco_code I2.kIn J hd co.at_ co.fn co.fi (codeAny_mono (run_any F hgd hr tk I2 b rv q2) fun r s' hq' => ?_))
      cases r with
      | error e => exact hq'
      | ok fl =>
        cases fl with
        | ret u => exact hq'
        | next => exact False.elim hq'
        | brk => exact False.elim hq'
        | cont => exact False.elim hq'
  · obtain ⟨f, fd, ps, hC, hk, F, hb⟩ := hf _ hm
    cases p1 with
    | gv e1 =>
      rename_i a
      have hCC : a = f := by rw [show gaddr X.K c = some f from hC] at e1; exact (Option.some.inj e1).symm
      subst hCC
      obtain rfl : u = Value.ref a := rx
      refine PySem.W.callWith_K (first := []) (h₀ := X.base) I.ok.mod.kin hk (thn (ha'.run pos pins s1 σ H1 (fun vs H2 => lsp X.K sp vs H2 Q (WE W σ)) I1 ⟨σD, G1, _, E, r1, hS.mono s1', q1, fun vs H2 as G2 s2 r2 p2 q2 => ?_, hE.mono s1'⟩) fun us s2 ⟨vs, H2, I2, r, q2⟩ => ⟨I2.kIn, ?_⟩) he hpl
      · exact ⟨as, G2, QD, E, r2, p2, q2, hq.mono (s1'.trans s2), fun xd cls d' H' G' s' r' p' z' => hE _ _ _ _ _ ((s1'.trans s2).trans s') r' p' z'⟩
      · exact run_call F hgd hr hb tk I2 r q2
/-- o.m(..), o of one of several classes -/
def dMethV (m : Str) (tb : List (Str × SpD)) (ta : TED) (t : TAD) : TED := fun σ G Q E => ta σ G (fun x G1 => ∃ c sp ns ds, InsD G1 x c ns ds ∧ lk m ns ds = none ∧ (c, sp) ∈ tb ∧ t σ G1 (fun as G2 => sp (x :: as) G2 Q E) E) E
theorem de_methV {m : Str} {k : Nat} {tb : List (Str × SpD)} {pl : Sem Bool} (hT : MTab X k m tb) (hgd : X.A.guards = some []) (hr : Room k X.A) (tk : Takes X W) (ho : DE X W o to) (ha : DA X W (e :: es) t)
    (hst : starEach (e :: es) X.env = (false, eval e X.env) :: starEach es X.env := by rfl) (hpl : (backTo pos (starEach es X.env)).any (·.1) = false := by rfl)
    (ht : eval (.Call (.Attribute o m apos) (e :: es) [] pos) X.env = (do
      let ov ← eval o X.env
      standAt apos.atName
      let (f, first) ← holding [ov] (getMethod ov m pl)
      callWith pos f first (backTo pos (starEach (e :: es) X.env)) (backToKw pos (keywordEach [] X.env))) := by rfl) :
    DE X W (.Call (.Attribute o m apos) (e :: es) [] pos) (dMethV m tb to t) := by
  have ha' : PA X (e :: es) (lftA X.K W t) := ha
  have ho' : PE X o (lft X.K W to) := ho
  refine ⟨fun pins s σ H Q I ⟨σD, G, QD, E, hR, hS, q, hq, hE⟩ => ?_⟩
  refine PySem.W.methodCall_KW (pl := pl) (thn (ho'.run pins s σ H (fun v H1 => ∃ d G1, Stp H G H1 G1 ∧ RelH X.K H1 G1 ∧ Rp X.K H1 G1 d v ∧ ∃ c sp ns ds, InsD G1 d c ns ds ∧ lk m ns ds = none ∧ (c, sp) ∈ tb ∧ t σD G1 (fun as G2 => sp (d :: as) G2 QD E) E) I ⟨σD, G, _, E, hR, hS, q, fun v H1 d G1 s1 r1 p1 z => ⟨d, G1, s1, r1, p1, z⟩, hE⟩) fun u s1 ⟨x, H1, I1, rx, d, G1, s1', r1, p1, c, sp, ns, ds, hi, hl, hm, q1⟩ => ?_) ht
  obtain ⟨a, C', dx, xs, ex, h1, h2, h3, h4⟩ := hi.of r1 p1
  obtain ⟨C, f, fd, ps, hC, hcl, hme, F, hb⟩ := hT _ hm
  have hCC : C' = C := by rw [hC] at h1; exact (Option.some.inj h1).symm
  subst hCC
  subst ex
  obtain rfl : u = Value.ref a := rx
  have hl' : (ns.zip xs).lookup m = none := by
    rcases lk_zip (f := m) h4 h3 with ⟨_, z⟩ | ⟨d', v, e1, _, _⟩
    · exact z
    · rw [hl] at e1; cases e1
  refine getmeth_ok I1 h2 hcl hme hl' ?_
  refine PySem.W.callWith_K (first := [.ref a]) (h₀ := X.base) I.ok.mod.kin hme.kp (thn (ha'.run pos pins s1 σ H1 (fun vs H2 => lsp X.K sp (.ref a :: vs) H2 Q (WE W σ)) I1 ⟨σD, G1, _, E, r1, hS.mono s1', q1, fun vs H2 as G2 s2 r2 p2 q2 => ?_, hE.mono s1'⟩) fun us s2 ⟨vs, H2, I2, r, q2⟩ => ⟨I2.kIn, ?_⟩) hst hpl
  · exact ⟨d :: as, G2, QD, E, r2, .cons (p1.mono s2) p2, q2, hq.mono (s1'.trans s2), fun xd cls d' H' G' s' r' p' z' => hE _ _ _ _ _ ((s1'.trans s2).trans s') r' p' z'⟩
  · exact run_call F hgd hr hb tk I2 (us := Value.ref a :: us) (vs := V.ref a :: vs) (.cons rfl r) q2
end
/-! ### C(.., k = ..) -/
section
variable {X : Cx} {W : WX} {k n : Nat} {f C : Addr} {fd : FuncData} {ps ks : List Str} {perm : List Nat} {sp : SpD} {e : Expr} {es : List Expr} {kws : List Keyword} {t tk : TAD} {pos : Pos}
theorem run_makeKG {pins : List (Addr × Obj)} {σ : L2.St} {H : Hp} {s : Shared} {Q : VK} {us ws : List Value} {vs : List V} (M : Mk X.K C f) (F : FnG X.prog X.w X.K X.mg X.base k f fd ps sp) (hg : X.A.guards = some []) (hr : Room (k + 1) X.A) (hb : KBd X.K fd ps (n + 1) ks perm) (tk : Takes X W)
    (I : Inv X pins σ H s) (r : Vals vs (us ++ ws)) (l1 : us.length = n) (l2 : ws.length = ks.length)
    (h : ∀ x dx, H x = none → H dx = none → dx ≠ x → lsp X.K sp (pick perm (.ref x :: vs)) (upd (upd H dx (.own x)) x (.ins C dx [])) (fun v H2 => v = .non ∧ Q (.ref x) H2) (WE W σ)) :
    wpAny (model X.prog X.w) X.A (call (.ref C) us (ks.zip ws)) (EP X pins σ Q) X.xe s := by
  have hq := h (s.heap.objs.size + 1) s.heap.objs.size (I.hok.fresh (Nat.le_succ _)) (I.hok.fresh (Nat.le_refl _)) (Nat.ne_of_lt (Nat.lt_succ_self _))
  have I2 := Inv.made (C := C) I
  have r2 : Vals (V.ref (s.heap.objs.size + 1) :: vs) ((Value.ref (s.heap.objs.size + 1) :: us) ++ ws) := .cons (vref _) r
  have b := hb.to _ (Value.ref (s.heap.objs.size + 1) :: us) ws I2.kIn (by simp [l1]) l2
  refine wpAny_call (make_map (f := f) I.kIn M.makes M.init (beq_iff_eq.mp M.fn) (codeAny_mono (F.run _ X.stack _ _ ⟨Value.ref (s.heap.objs.size + 1) :: us, ks.zip ws⟩ _ _ _ (WE W σ) (guards_make hg C us _) (hr.make C us _) (I2.env0.make C us _) b (Vals.pick r2) hq) fun r s' hq' => ?_))
  cases r with
  | error e => exact passAt tk σ pins _ _ e s' I2 hq'
  | ok fl =>
    cases fl with
    | ret u =>
      obtain ⟨v, H', I3, rv, ev, q3⟩ := I2.after hq'
      subst ev
      exact ⟨rv, ⟨V.ref (s.heap.objs.size + 1), H', I3, rfl, q3⟩⟩
    | next => exact False.elim hq'
    | brk => exact False.elim hq'
    | cont => exact False.elim hq'
def dMakeK (fr : Bool) (c : Str) (n m : Nat) (perm : List Nat) (sp : SpD) (t tk : TAD) : TED := fun σ G Q E => t σ G (fun ds G1 => tk σ G1 (fun zs G2 => ds.length = n ∧ zs.length = m ∧ ∀ p, G2 p = none → sp (pick perm (.ref p :: (ds ++ zs))) (gput G2 p (.ins c [] []))
  (fun v G3 => v = .non ∧ if fr = true then ∃ ns vs, G3 p = some (.ins c ns vs) ∧ Q (.obj c ns vs) (gdel G3 p) else Q (.ref p) G3) E) E) E
/-- a new instance, and what its making comes to -/
theorem lsp_make {K : Frag} {c : Str} {fr : Bool} {σ : L2.St} {H : Hp} {G : HH} {Q : VK} {QD : QD} {E : ED} {vs : List V} {ds : List D} (hC : gaddr K c = some C) (hR : RelH K H G) (hp : Rps K H G ds vs) (hq : Ct K H G Q QD) (hE : Exs K W σ H G E)
    (q : ∀ p, G p = none → sp (pick perm (.ref p :: ds)) (gput G p (.ins c [] [])) (fun v G3 => v = .non ∧ if fr = true then ∃ ns vs, G3 p = some (.ins c ns vs) ∧ QD (.obj c ns vs) (gdel G3 p) else QD (.ref p) G3) E) :
    ∀ x dx, H x = none → H dx = none → dx ≠ x → lsp K sp (pick perm (.ref x :: vs)) (upd (upd H dx (.own x)) x (.ins C dx [])) (fun v H2 => v = .non ∧ Q (.ref x) H2) (WE W σ) := by
  intro x dx hx hdx hne
  have s2 := Stp.new (G := G) (o := .own x) hdx
  have r2 := hR.new (o := .own x) hdx
  have hx2 : (upd H dx (.own x)) x = none := by rw [upd_ne (fun z => hne z.symm)]; exact hx
  have s3 := Stp.newM (G := G) (o := .ins C dx []) (od := .ins c [] []) hx2
  have r3 := r2.newM (o := .ins C dx []) (od := .ins c [] []) hx2 ⟨C, dx, [], hC, by rw [upd_same]; rfl, rfl, .nil⟩
  have s23 := s2.trans s3
  refine ⟨pick perm (.ref x :: ds), gput G x (.ins c [] []), _, E, r3, Rps.pick (.cons (.ref x) (hp.mono s23)), q x (hR.free hx), fun v H4 d G4 s4 r4 p4 ⟨e4, z4⟩ => ?_, fun xd cls d H4 G4 s4 r4 p4 z4 => hE _ _ _ _ _ (s23.trans s4) r4 p4 z4⟩
  subst e4; cases p4
  refine ⟨rfl, ?_⟩
  cases fr with
  | true =>
    rw [if_pos rfl] at z4
    obtain ⟨ns, ws, e5, z5⟩ := z4
    exact hq _ _ _ _ (s23.trans (s4.trans Stp.del)) r4.del (thaw_ins r4 e5) z5
  | false =>
    rw [if_neg Bool.false_ne_true] at z4
    exact hq _ _ _ _ (s23.trans s4) r4 (.ref x) z4
theorem de_makeK0 {c x : Str} {p : Pos} {m : Nat} (fr : Bool) (hC : gaddr X.K c = some C) (M : Mk X.K C f) (F : FnG X.prog X.w X.K X.mg X.base k f fd ps sp) (hgd : X.A.guards = some []) (hr : Room (k + 1) X.A) (hg : Gl X x) (hm : X.mg x = some (.ref C)) (hb : KBd X.K fd ps 1 ks perm) (tkw : Takes X W) (hkw : DK X W kws tk)
    (hlen : ks.length = m := by rfl) (hall : (backToKw pos (keywordEach kws X.env)).all (·.1.isSome) = true := by rfl) (hks : (backToKw pos (keywordEach kws X.env)).filterMap (·.1) = ks := by rfl) (hdb : (x == ("__debug__" : Str)) = false := by decide)
    (hpl : ((backTo pos (starEach [] X.env)).any (·.1) || (backToKw pos (keywordEach kws X.env)).any (·.1.isNone)) = false := by rfl) :
    DE X W (.Call (.Name x p) [] kws pos) (dMakeK fr c 0 m perm sp dNil tk) := by
  subst hlen
  refine ⟨fun pins s σ H Q I ⟨σD, G, QD, E, hR, hS, ht, hq, hE⟩ => ?_⟩
  refine wpAny_Call_Name_kw (ld_glob I hg hm ?_ hdb)
  have hkw' : PK X kws (lftA X.K W tk) := hkw
  refine PySem.W.callWith_KW0 (h₀ := X.base) I.ok.mod.kin M.kp hall ?_ hpl
  refine thn (hkw'.run pos pins s σ H (fun zs H2 => zs.length = ks.length ∧ ∀ x dx, H2 x = none → H2 dx = none → dx ≠ x → lsp X.K sp (pick perm (.ref x :: zs)) (upd (upd H2 dx (.own x)) x (.ins C dx [])) (fun v H3 => v = .non ∧ Q (.ref x) H3) (WE W σ)) I
    ⟨σD, G, _, E, hR, hS, ht, fun zs H2 es G2 s2 r2 p2 ⟨_, l2, q2⟩ => ⟨by rw [← p2.length]; exact l2, lsp_make hC r2 p2 (hq.mono s2) (hE.mono s2) q2⟩, hE⟩) fun ws s2 ⟨zs, H2, I2, rz, l2, q2⟩ => ⟨I2.kIn, ?_⟩
  rw [hks]
  exact run_makeKG (us := []) (n := 0) M F hgd hr hb tkw I2 (by simpa using rz) rfl (by rw [← rz.length]; exact l2) q2
theorem de_makeK {c x : Str} {p : Pos} {m : Nat} (fr : Bool) (hC : gaddr X.K c = some C) (M : Mk X.K C f) (F : FnG X.prog X.w X.K X.mg X.base k f fd ps sp) (hgd : X.A.guards = some []) (hr : Room (k + 1) X.A) (hg : Gl X x) (hm : X.mg x = some (.ref C)) (hb : KBd X.K fd ps (n + 1) ks perm) (tkw : Takes X W) (ha : DA X W (e :: es) t) (hkw : DK X W kws tk)
    (hlen : ks.length = m := by rfl) (hall : (backToKw pos (keywordEach kws X.env)).all (·.1.isSome) = true := by rfl) (hks : (backToKw pos (keywordEach kws X.env)).filterMap (·.1) = ks := by rfl) (hdb : (x == ("__debug__" : Str)) = false := by decide)
    (he : starEach (e :: es) X.env = (false, eval e X.env) :: starEach es X.env := by rfl)
    (hpl : ((backTo pos (starEach (e :: es) X.env)).any (·.1) || (backToKw pos (keywordEach kws X.env)).any (·.1.isNone)) = false := by rfl) :
    DE X W (.Call (.Name x p) (e :: es) kws pos) (dMakeK fr c n m perm sp t tk) := by
  subst hlen
  refine ⟨fun pins s σ H Q I ⟨σD, G, QD, E, hR, hS, ht, hq, hE⟩ => ?_⟩
  refine wpAny_Call_Name_kw (ld_glob I hg hm ?_ hdb)
  have ha' : PA X (e :: es) (lftA X.K W t) := ha
  have hkw' : PK X kws (lftA X.K W tk) := hkw
  refine PySem.W.callWith_KW (h₀ := X.base) I.ok.mod.kin M.kp hall (thn (ha'.run pos pins s σ H (fun vs H1 => lftA X.K W tk σ H1 fun zs H2 => vs.length = n ∧ zs.length = ks.length ∧ ∀ x dx, H2 x = none → H2 dx = none → dx ≠ x → lsp X.K sp (pick perm (.ref x :: (vs ++ zs))) (upd (upd H2 dx (.own x)) x (.ins C dx [])) (fun v H3 => v = .non ∧ Q (.ref x) H3) (WE W σ)) I
    ⟨σD, G, _, E, hR, hS, ht, fun vs H1 ds G1 s1 r1 p1 q1 => ⟨σD, G1, _, E, r1, hS.mono s1, q1, fun zs H2 es G2 s2 r2 p2 ⟨l1, l2, q2⟩ => ⟨by rw [← p1.length]; exact l1, by rw [← p2.length]; exact l2, lsp_make hC r2 ((p1.mono s2).append p2) (hq.mono (s1.trans s2)) (hE.mono (s1.trans s2)) q2⟩, hE.mono s1⟩, hE⟩) fun us s1 ⟨vs, H1, I1, r, q⟩ => ?_) hpl he
  refine thn (hkw'.run pos pins s1 σ H1 _ I1 q) fun ws s2 ⟨zs, H2, I2, rz, l1, l2, q2⟩ => ⟨I2.kIn, ?_⟩
  rw [hks]
  exact run_makeKG (us := us) M F hgd hr hb tkw I2 (r.append rz) (by rw [← r.length]; exact l1) (by rw [← rz.length]; exact l2) q2
end
section
variable {X : Cx} {k j : Nat} {c m : Str} {C f : Addr} {fd : FuncData} {ps : List Str} {sp : SpD} {tb : List (Str × SpD)}
theorem CTab.nil : CTab X k [] := fun _ h => by cases h
theorem CTab.cons (hC : gaddr X.K c = some C) (co : StX.CallO X.K C f) (F : FnG X.prog X.w X.K X.mg X.base j f fd ps sp) (hk : j ≤ k) (hb : Binds X.K fd ps []) (r : CTab X k tb) : CTab X k ((c, sp) :: tb) := fun p hp => by
  rcases List.mem_cons.mp hp with rfl | hp
  · exact ⟨C, f, fd, ps, hC, co, F.mono hk, hb⟩
  · exact r p hp
theorem FTab.nil : FTab X k [] := fun _ h => by cases h
theorem FTab.cons (hC : gaddr X.K c = some f) (kp : PySem.W.keepIn X.K (.ref f) = true) (F : FnG X.prog X.w X.K X.mg X.base j f fd ps sp) (hk : j ≤ k) (hb : Binds X.K fd ps []) (r : FTab X k tb) : FTab X k ((c, sp) :: tb) := fun p hp => by
  rcases List.mem_cons.mp hp with rfl | hp
  · exact ⟨f, fd, ps, hC, kp, F.mono hk, hb⟩
  · exact r p hp
theorem MTab.nil : MTab X k m [] := fun _ h => by cases h
theorem MTab.cons (hC : gaddr X.K c = some C) (cl : Cls X.K C) (me : Meth X.K C m f) (F : FnG X.prog X.w X.K X.mg X.base j f fd ps sp) (hk : j ≤ k) (hb : Binds X.K fd ps []) (r : MTab X k m tb) : MTab X k m ((c, sp) :: tb) := fun p hp => by
  rcases List.mem_cons.mp hp with rfl | hp
  · exact ⟨C, f, fd, ps, hC, cl, me, F.mono hk, hb⟩
  · exact r p hp
end
section
variable {σ : SD} {G : HH} {Q : QD} {E : ED} {tf : TED} {t tk : TAD} {tbo tbf tb : List (Str × SpD)} {c m : Str} {sp : SpD} {ns : List Str} {ds : List D}
theorem st_callV (h : tf σ G (fun x G1 => (∃ c sp ns ds, InsD G1 x c ns ds ∧ (c, sp) ∈ tbo ∧ t σ G1 (fun as G2 => (∃ ns ds, InsD G2 x c ns ds) ∧ sp (x :: as) G2 Q E) E) ∨ ∃ c sp, x = .gv c ∧ (c, sp) ∈ tbf ∧ t σ G1 (fun as G2 => sp as G2 Q E) E) E) : dCallV tbo tbf tf t σ G Q E := h
theorem st_callVq {P : Prop} (sp : SpD) (hm : (c, sp) ∈ tbo) (h : t σ G (fun as G2 => (∃ ns2 ds2, InsD G2 (.obj c ns ds) c ns2 ds2) ∧ sp (.obj c ns ds :: as) G2 Q E) E) : (∃ c' sp ns' ds', InsD G (.obj c ns ds) c' ns' ds' ∧ (c', sp) ∈ tbo ∧ t σ G (fun as G2 => (∃ ns2 ds2, InsD G2 (.obj c ns ds) c' ns2 ds2) ∧ sp (.obj c ns ds :: as) G2 Q E) E) ∨ P :=
  .inl ⟨c, sp, ns, ds, .obj c ns ds, hm, h⟩
theorem st_callVf {P : Prop} (sp : SpD) (hm : (c, sp) ∈ tbf) (h : t σ G (fun as G2 => sp as G2 Q E) E) : P ∨ ∃ c' sp, D.gv c = .gv c' ∧ (c', sp) ∈ tbf ∧ t σ G (fun as G2 => sp as G2 Q E) E := .inr ⟨c, sp, rfl, hm, h⟩
theorem st_insQ {P : Prop} (h : P) : (∃ ns2 ds2, InsD G (.obj c ns ds) c ns2 ds2) ∧ P := ⟨⟨ns, ds, .obj c ns ds⟩, h⟩
theorem st_methV {ta : TED} (h : ta σ G (fun x G1 => ∃ c sp ns ds, InsD G1 x c ns ds ∧ lk m ns ds = none ∧ (c, sp) ∈ tb ∧ t σ G1 (fun as G2 => sp (x :: as) G2 Q E) E) E) : dMethV m tb ta t σ G Q E := h
theorem st_methVq (sp : SpD) (hl : lk m ns ds = none) (hm : (c, sp) ∈ tb) (h : t σ G (fun as G2 => sp (.obj c ns ds :: as) G2 Q E) E) : ∃ c' sp ns' ds', InsD G (.obj c ns ds) c' ns' ds' ∧ lk m ns' ds' = none ∧ (c', sp) ∈ tb ∧ t σ G (fun as G2 => sp (.obj c ns ds :: as) G2 Q E) E := ⟨c, sp, ns, ds, .obj c ns ds, hl, hm, h⟩
theorem st_makeK {fr : Bool} {n k : Nat} {perm : List Nat} (h : t σ G (fun ds G1 => tk σ G1 (fun zs G2 => ds.length = n ∧ zs.length = k ∧ ∀ p, G2 p = none → sp (pick perm (.ref p :: (ds ++ zs))) (gput G2 p (.ins c [] []))
  (fun v G3 => v = .non ∧ if fr = true then ∃ ns vs, G3 p = some (.ins c ns vs) ∧ Q (.obj c ns vs) (gdel G3 p) else Q (.ref p) G3) E) E) E) : dMakeK fr c n k perm sp t tk σ G Q E := h
end
end DL

namespace DL
open PySem PySem.Spec PyProof.Rows L2
open PySem.W (Frag)
section
variable {X : Cx} {W : WX} {o : Expr} {to : TED} {apos pos : Pos}
/-- x.bit_length() -/
def bitsI : D → HH → QD → Prop := uI fun i => .int (Builtin.Int.intBits i : Nat)
theorem de_bits (ho : DE X W o to) (hbase : attributeBase o "bit_length" X.env (eval o X.env) = eval o X.env := by rfl) (hline : (apos.endLine == pos.line) = true := by rfl) : DE X W (.Call (.Attribute o "bit_length" apos) [] [] pos) (dUn bitsI to) :=
  PE.imp (pe_bits ho hbase hline) fun σ H Q ⟨σD, G, QD, E, hR, hS, q, hq, he⟩ =>
    ⟨σD, G, _, E, hR, hS, q, fun v1 H1 d1 G1 s1 r1 p1 ⟨i, e, q1⟩ => by
      subst e; cases p1
      exact ⟨i, rfl, hq _ _ _ _ s1 r1 (.int _) q1⟩, he⟩
theorem st_bits {G : HH} {Q : QD} {i : Int} (h : Q (.int (Builtin.Int.intBits i : Nat)) G) : bitsI (.int i) G Q := ⟨i, rfl, h⟩
end
/-! ### how many bits -/
/-- below 2 ^ b, as a name of its own -/
@[irreducible] def Bt (b : Nat) (x : Int) : Prop := x.natAbs < 2 ^ b
theorem Bt.of {b : Nat} {x : Int} (h : x.natAbs < 2 ^ b) : Bt b x := by unfold Bt; exact h
theorem Bt.to {b : Nat} {x : Int} (h : Bt b x) : x.natAbs < 2 ^ b := by unfold Bt at h; exact h
theorem Bt.mono {a b : Nat} {x : Int} (h : Bt a x) (l : a ≤ b) : Bt b x := .of (Nat.lt_of_lt_of_le h.to (Nat.pow_le_pow_right (by decide) l))
theorem Bt.nat {b : Nat} {n : Nat} (h : n < 2 ^ b) : Bt b (n : Int) := .of (by rw [Int.natAbs_natCast]; exact h)
theorem Bt.neg {b : Nat} {x : Int} (h : Bt b x) : Bt b (-x) := .of (by rw [Int.natAbs_neg]; exact h.to)
theorem Bt.abs {b : Nat} {x : Int} (h : Bt b x) : Bt b (x.natAbs : Int) := .of (by rw [Int.natAbs_natCast]; exact h.to)
theorem Bt.add {a b : Nat} {x y : Int} (h : Bt a x) (k : Bt b y) : Bt (max a b + 1) (x + y) := by
  have h1 := (h.mono (Nat.le_max_left a b)).to
  have h2 := (k.mono (Nat.le_max_right a b)).to
  refine .of ?_
  rw [Nat.pow_succ]
  generalize 2 ^ max a b = B at *
  omega
theorem Bt.sub {a b : Nat} {x y : Int} (h : Bt a x) (k : Bt b y) : Bt (max a b + 1) (x - y) := by
  rw [Int.sub_eq_add_neg]; exact h.add k.neg
theorem Bt.mul {a b : Nat} {x y : Int} (h : Bt a x) (k : Bt b y) : Bt (a + b) (x * y) := by
  refine .of ?_
  rw [Int.natAbs_mul, Nat.pow_add]
  exact Nat.mul_lt_mul'' h.to k.to
theorem Bt.shl {a : Nat} {x : Int} (h : Bt a x) (n : Nat) : Bt (a + n) (x * 2 ^ n) := by
  refine .of ?_
  rw [Int.natAbs_mul, Nat.pow_add]
  have e : ((2 : Int) ^ n).natAbs = 2 ^ n := by rw [Int.natAbs_pow]; rfl
  rw [e]
  exact Nat.mul_lt_mul_of_pos_right h.to (Nat.two_pow_pos n)
theorem Bt.le {a : Nat} {x y : Int} (h : Bt a y) (l : x.natAbs ≤ y.natAbs) : Bt a x := .of (Nat.lt_of_le_of_lt l h.to)
theorem natAbs_div_le (x : Int) {y : Int} (h : 0 < y) : (x / y).natAbs ≤ x.natAbs := by
  have h1 : 0 ≤ x → 0 ≤ x / y ∧ x / y ≤ x := fun z => ⟨Int.ediv_nonneg z (by omega), Int.ediv_le_self y z⟩
  have h2 : x < 0 → x ≤ x / y ∧ x / y ≤ 0 := fun z => by
    refine ⟨Int.le_ediv_of_mul_le h ?_, ?_⟩
    · have q := Int.mul_nonneg (show 0 ≤ -x by omega) (show 0 ≤ y - 1 by omega)
      rw [Int.neg_mul, Int.mul_sub, Int.mul_one] at q
      omega
    · have q := Int.ediv_neg_of_neg_of_pos z h
      exact Int.le_of_lt q
  by_cases z : 0 ≤ x
  · have := h1 z; omega
  · have := h2 (by omega); omega
theorem Bt.div {a : Nat} {x : Int} (h : Bt a x) {y : Int} (k : 0 < y) : Bt a (x / y) := h.le (natAbs_div_le x k)
theorem Bt.mod {b : Nat} {x y : Int} (k : 0 < y) (h : Bt b y) : Bt b (x % y) := h.le (by
  have h1 := Int.emod_nonneg x (show y ≠ 0 by omega)
  have h2 := Int.emod_lt_of_pos x k
  omega)
theorem Bt.pow {a : Nat} {x : Int} (h : Bt a x) : ∀ n : Nat, Bt (a * n + 1) (x ^ n)
  | 0 => .of (by simp)
  | n + 1 => by
    rw [Int.pow_succ]
    exact (((Bt.pow h n).mul h).mono (by rw [Nat.mul_add]; omega))
theorem cmul_bt {a b : Nat} {x y : Int} (h : Bt a x) (k : Bt b y) (l : a + b ≤ 134217728) : CMulX x y := mulx_ok h.to k.to l
theorem cshl_bt {a n : Nat} {x : Int} (h : Bt a x) (l : a + n ≤ 134217728) : CShl x (n : Int) := shl_ok h.to l
theorem log2_lt_of {n b : Nat} (h : n < 2 ^ b) (hb : 0 < b) : n.log2 < b := by
  by_cases hz : n = 0
  · subst hz; exact hb
  · exact (Nat.log2_lt hz).mpr h
theorem cdiv_bt {a : Nat} {x y : Int} (h : 0 < y) (k : Bt a y) (l : a ≤ 9000) : CDivW x y := ⟨h, log2_lt_of (k.mono l).to (by decide)⟩
theorem cpow_bt {x : Int} {n : Nat} (h : Bt 64 x) (l : n ≤ 1000000) : CPow x (n : Int) := ⟨by omega, by omega, h.to⟩
theorem bt_two (n : Nat) : Bt (n + 1) ((2 : Int) ^ n) := .of (by
  rw [Int.natAbs_pow]
  exact Nat.pow_lt_pow_right (by decide) (by omega))
section
variable {G : HH} {Q : QD}
theorem eqD_nilL (xs : List D) : eqD (.lst xs) (.lst []) = xs.isEmpty := by cases xs <;> simp [eqD, D.pyd, PyData.eqv, pyds, PyData.eqvAll]
theorem eqD_nilT (xs : List D) : eqD (.tup xs) (.tup []) = xs.isEmpty := by cases xs <;> simp [eqD, D.pyd, PyData.eqv, pyds, PyData.eqvAll]
theorem st_neL0 {xs : List D} (h : gds 59 xs) (q : Q (.bl (!xs.isEmpty)) G) : eAny true (.lst xs) (.lst []) G Q := st_neD 60 (by rw [gd_lst]; exact h) (by simp [gd, gds]) (by decide) (by rw [eqD_nilL]; exact q)
theorem st_eqL0 {xs : List D} (h : gds 59 xs) (q : Q (.bl xs.isEmpty) G) : eAny false (.lst xs) (.lst []) G Q := st_eqD 60 (by rw [gd_lst]; exact h) (by simp [gd, gds]) (by decide) (by rw [eqD_nilL]; exact q)
theorem st_neT0 {xs : List D} (h : gds 59 xs) (q : Q (.bl (!xs.isEmpty)) G) : eAny true (.tup xs) (.tup []) G Q := st_neD 60 (by rw [gd_tup]; exact h) (by simp [gd, gds]) (by decide) (by rw [eqD_nilT]; exact q)
theorem st_eqT0 {xs : List D} (h : gds 59 xs) (q : Q (.bl xs.isEmpty) G) : eAny false (.tup xs) (.tup []) G Q := st_eqD 60 (by rw [gd_tup]; exact h) (by simp [gd, gds]) (by decide) (by rw [eqD_nilT]; exact q)
theorem gds_int {n : Nat} (xs : List Int) : gds n (xs.map D.int) := gds_map fun _ _ => by cases n <;> simp [gd]
theorem gds_dN {n : Nat} (xs : List Nat) : gds n (xs.map fun i : Nat => D.int (i : Int)) := gds_map fun _ _ => by cases n <;> simp [gd]
theorem st_neLI {xs : List Int} (q : Q (.bl (!xs.isEmpty)) G) : eAny true (.lst (xs.map D.int)) (.lst []) G Q := st_neL0 (gds_int xs) (by rw [show (xs.map D.int).isEmpty = xs.isEmpty by cases xs <;> rfl]; exact q)
theorem st_eqLI {xs : List Int} (q : Q (.bl xs.isEmpty) G) : eAny false (.lst (xs.map D.int)) (.lst []) G Q := st_eqL0 (gds_int xs) (by rw [show (xs.map D.int).isEmpty = xs.isEmpty by cases xs <;> rfl]; exact q)
end
/-! ### a cut: what holds where ways meet -/
section
variable {t : TSD} {σ : SD} {G : HH} {nx bk ct : SD → HH → Prop} {rt : QD} {ex : XD → SD → HH → Prop}
theorem st_cut (ks : List Nat) (I : List (Option D) → HH → Prop) (h : ∀ nx' : SD → HH → Prop, (∀ vs G', I vs G' → nx' (setL σ ks vs) G') → t ⟨nx', rt, bk, ct, ex⟩ σ G) (hc : ∀ vs G', I vs G' → nx (setL σ ks vs) G') : t ⟨nx, rt, bk, ct, ex⟩ σ G := h nx hc
theorem cut_fin {σ2 : SD} {ks : List Nat} {I : List (Option D) → HH → Prop} (hn : ∀ vs G', I vs G' → nx (setL σ ks vs) G') (e : σ2 = setL σ ks (getL σ2 ks)) (hI : I (getL σ2 ks) G) : nx σ2 G := by rw [e]; exact hn _ _ hI
end
section
variable {G : HH} {Q : QD} {T : String} {b : Bool}
theorem st_isiI {i : Int} (hk : kitB "int" T = some b) (h : Q (.bl b) G) : kIsi [.int i, .ty T] G Q := st_isi (.int i) hk h
theorem st_isiB {i : Bool} (hk : kitB "bool" T = some b) (h : Q (.bl b) G) : kIsi [.bl i, .ty T] G Q := st_isi (.bl i) hk h
theorem st_isiS {i : Str} (hk : kitB "str" T = some b) (h : Q (.bl b) G) : kIsi [.str i, .ty T] G Q := st_isi (.str i) hk h
theorem st_isiN (hk : kitB "NoneType" T = some b) (h : Q (.bl b) G) : kIsi [.non, .ty T] G Q := st_isi .non hk h
theorem st_isiT {xs : List D} (hk : kitB "tuple" T = some b) (h : Q (.bl b) G) : kIsi [.tup xs, .ty T] G Q := st_isi (.tup xs) hk h
theorem st_isiL {xs : List D} (hk : kitB "list" T = some b) (h : Q (.bl b) G) : kIsi [.lst xs, .ty T] G Q := st_isi (.lst xs) hk h
end
/-! ### making, by a name -/
def MkR (fr : Bool) (c : Str) (sp : SpD) (ds : List D) (G1 : HH) (Q : QD) (E : ED) : Prop := ∀ p, G1 p = none → sp (.ref p :: ds) (gput G1 p (.ins c [] []))
  (fun v G2 => v = .non ∧ if fr = true then ∃ ns vs, G2 p = some (.ins c ns vs) ∧ Q (.obj c ns vs) (gdel G2 p) else Q (.ref p) G2) E
def MkRK (fr : Bool) (c : Str) (n m : Nat) (perm : List Nat) (sp : SpD) (ds zs : List D) (G2 : HH) (Q : QD) (E : ED) : Prop := ds.length = n ∧ zs.length = m ∧ ∀ p, G2 p = none → sp (pick perm (.ref p :: (ds ++ zs))) (gput G2 p (.ins c [] []))
  (fun v G3 => v = .non ∧ if fr = true then ∃ ns vs, G3 p = some (.ins c ns vs) ∧ Q (.obj c ns vs) (gdel G3 p) else Q (.ref p) G3) E
section
variable {fr : Bool} {c : Str} {sp : SpD} {t tk : TAD} {σ : SD} {G : HH} {Q : QD} {E : ED} {n m : Nat} {perm : List Nat}
theorem st_mk (h : t σ G (fun ds G1 => MkR fr c sp ds G1 Q E) E) : dMake fr c sp t σ G Q E := h
theorem st_mkK (h : t σ G (fun ds G1 => tk σ G1 (fun zs G2 => MkRK fr c n m perm sp ds zs G2 Q E) E) E) : dMakeK fr c n m perm sp t tk σ G Q E := h
end
section
variable {σ : SD} {G : HH} {Q : QD} {E : ED} {ta tb tc : TED} {r r' : D → D → HH → QD → Prop}
theorem st_chainE {x y w : D} {k1 k2 : Bool} (ha : EvE ta σ G x) (hb : EvE tb σ G y) (hc : EvE tc σ G w) (h1 : ∀ Q : QD, Q (.bl k1) G → r x y G Q) (h2 : k1 = true → ∀ Q : QD, Q (.bl k2) G → r' y w G Q) (h : Q (.bl (k1 && k2)) G) : dChain r r' ta tb tc σ G Q E := by
  refine ha _ _ (hb _ _ (h1 _ ⟨k1, rfl, ?_⟩))
  cases k1
  · rw [if_neg Bool.false_ne_true]; exact h
  · rw [if_pos rfl]; exact hc _ _ (h2 rfl _ (by simpa using h))
end
theorem st_isim {x : D} {T : String} {G : HH} {Q : QD} (h : kIsi [x, .ty T] G Q) : kIsi [x, .ty T] G Q := h
theorem st_iteNT {A B : Prop} (q : B) : if (!true) = true then A else B := q
theorem st_iteNF {A B : Prop} (q : A) : if (!false) = true then A else B := q
/-- what is never asked -/
theorem FnG.no {P : Program} {w : World} {K : Frag} {mg : Str → Option Value} {base : Heap} {k : Nat} {f : Addr} {fd : FuncData} {ps : List Str} {sp : SpD} (h : ∀ ds G Q E, ¬ sp ds G Q E) : FnG P w K mg base k f fd ps sp :=
  ⟨fun ds G Q E z => absurd z (h ds G Q E), fun A outer s H args us vs Q E _ _ _ _ _ ⟨ds, G, QD, EX, _, _, z, _⟩ => absurd z (h ds G QD EX)⟩
end DL

namespace DL
open PySem PySem.Spec PyProof.Rows L2
open PySem.W (Frag)
/-! ### C() where no __init__ is written -/
structure MkN (K : Frag) (C : Addr) : Prop where
  makes : PySem.W.makesIn K C = true
  init : PySem.W.findIn K (.ref C) "__init__" = some (some (.builtin "object.__init__"))
  kp : PySem.W.keepIn K (.ref C) = true
section
variable {X : Cx} {W : WX} {C : Addr} {pos : Pos}
theorem run_makeN {pins : List (Addr × Obj)} {σ : L2.St} {H : Hp} {s : Shared} {Q : VK} (M : MkN X.K C) (I : Inv X pins σ H s)
    (h : ∀ x dx, H x = none → H dx = none → dx ≠ x → Q (.ref x) (upd (upd H dx (.own x)) x (.ins C dx []))) :
    wpAny (model X.prog X.w) X.A (call (.ref C) []) (EP X pins σ Q) X.xe s := by
  have hq := h (s.heap.objs.size + 1) s.heap.objs.size (I.hok.fresh (Nat.le_succ _)) (I.hok.fresh (Nat.le_refl _)) (Nat.ne_of_lt (Nat.lt_succ_self _))
  have I2 := Inv.made (C := C) I
  refine wpAny_call (make_map0 I.kIn M.makes M.init (fun self => PySem.W.Looks.of_pure (PySem.W.oi_bind self)) ?_)
  have Y := PySem.W.makes_of (M := model X.prog X.w) I.kIn M.makes
  have e2 : ((s.heap.push PySem.W.emptyDict).push (PySem.W.instObj C s.heap.objs.size)).get? (s.heap.objs.size + 1) = some (PySem.W.instObj C s.heap.objs.size) := by
    have z := Heap.get?_push_size (s.heap.push PySem.W.emptyDict) (o := PySem.W.instObj C s.heap.objs.size) rfl
    rwa [Heap.size_push] at z
  have t1 : PySem.W.Looks (model X.prog X.w) ((s.heap.push PySem.W.emptyDict).push (PySem.W.instObj C s.heap.objs.size)) (typeOf (.ref (s.heap.objs.size + 1))) (.ref C) := (PySem.W.Looks.ld e2).andThen .now
  have t2 : PySem.W.Looks (model X.prog X.w) ((s.heap.push PySem.W.emptyDict).push (PySem.W.instObj C s.heap.objs.size)) (isInstance (.ref (s.heap.objs.size + 1)) (.type "object")) true :=
    t1.andThen (Y.top.keeps fun b o e => Heap.get?_push_of_some _ (Heap.get?_push_of_some _ e))
  refine codeAny_call_builtin PySem.W.oi_plain PySem.W.entry_oi (@PySem.W.check_slot (model X.prog X.w) _ _ _ "object.__init__" "object" "__init__" (.ref (s.heap.objs.size + 1)) [] [] _ PySem.W.oi_kind PySem.W.oi_split t2 (PySem.W.oi_args (.ref (s.heap.objs.size + 1))) ?_)
  rw [PySem.W.oi_run]
  exact wpAny_pure ⟨rfl, ⟨V.ref (s.heap.objs.size + 1), _, I2, rfl, hq⟩⟩
def dNew (c : Str) : TED := fun _ G Q _ => Q (.obj c [] []) G
theorem de_new {c x : Str} {p : Pos} (hC : gaddr X.K c = some C) (M : MkN X.K C) (hg : Gl X x) (hm : X.mg x = some (.ref C))
    (hdb : (x == ("__debug__" : Str)) = false := by decide) : DE X W (.Call (.Name x p) [] [] pos) (dNew c) := by
  refine ⟨fun pins s σ H Q I ⟨σD, G, QD, E, hR, hS, q, hq, hE⟩ => ?_⟩
  refine wpAny_Call_Name_kw (ld_glob I hg hm ?_ hdb)
  refine PySem.W.callWith_K0 I.kIn M.kp (run_makeN M I fun x dx hx hdx hne => ?_)
  have s2 := Stp.new (G := G) (o := .own x) hdx
  have r2 := hR.new (o := .own x) hdx
  have hx2 : (upd H dx (.own x)) x = none := by rw [upd_ne (fun z => hne z.symm)]; exact hx
  have s3 := Stp.new (G := G) (o := .ins C dx []) hx2
  have r3 := r2.new (o := .ins C dx []) hx2
  exact hq _ _ _ _ (s2.trans s3) r3 (Rp.obj (ns := []) (xs := []) hC upd_same (hR.free hx) rfl .nil) q
theorem st_new {σ : SD} {G : HH} {Q : QD} {E : ED} {c : Str} (q : Q (.obj c [] []) G) : dNew c σ G Q E := q
end
theorem st_eqDiff {x y : Str} {A B : Prop} (h : ¬ x = y) (q : B) : if decide (x = y) = true then A else B := by rw [decide_eq_false h, if_neg Bool.false_ne_true]; exact q
theorem st_neDiff {x y : Str} {A B : Prop} (h : ¬ x = y) (q : A) : if (!decide (x = y)) = true then A else B := by rw [decide_eq_false h]; exact q
end DL

namespace DL
open PySem PySem.Spec PyProof.Rows L2
open PySem.W (Frag)
section
variable {X : Cx} {W : WX} {pos : Pos}
/-- a, b, .. = a list of that length -/
def gdLst (n : Nat) (t : TGsD) : TGD := fun d σ G Q => ∃ ds, LsW G d ds ∧ ds.length = n ∧ t ds σ G Q
theorem dg_lst {es : List Expr} {k n : Nat} {tG : TGsD} (hc : X.calm = true) (h : DGs X es tG) (hn : (assignEach es X.env).length = n := by rfl) (hst : (assignEach es X.env).findIdx? (·.1) = none := by rfl) : DG X (.Tuple es k pos) (gdLst n tG) :=
  PG.imp (pg_lst hc h hn hst) fun v σ H Q ⟨d, σD, G, QD, hR, hS, p, ⟨ds, e, l, q⟩, hq⟩ => by
    obtain ⟨a, vs, e1, hs, r⟩ := e.of hR p
    exact ⟨a, vs, e1, hs, by rw [← r.length]; exact l, ds, σD, G, QD, hR, hS, r, q, hq⟩
end
theorem st_glst {n : Nat} {ds : List D} {tG : TGsD} {σ : SD} {G : HH} {N : SD → HH → Prop} (hl : ds.length = n) (h : tG ds σ G N) : gdLst n tG (.lst ds) σ G N := ⟨ds, .lst _, hl, h⟩
theorem st_glstR {n : Nat} {p : Addr} {ds : List D} {tG : TGsD} {σ : SD} {G : HH} {N : SD → HH → Prop} (e : G p = some (.lst ds)) (hl : ds.length = n) (h : tG ds σ G N) : gdLst n tG (.ref p) σ G N := ⟨ds, .ref e, hl, h⟩
end DL

namespace DL
open PySem PySem.Spec PyProof.Rows L2
open PySem.W (Frag)
/-- isinstance's table at one class, in parts that k_is knows -/
theorem kit_same {K : Frag} {t c : Value} (e : (t == c) = true) : PySem.W.kitOne K t c = some true := by
  unfold PySem.W.kitOne
  rw [if_pos e]
theorem kit_ref {K : Frag} {t : Value} {C : Addr} {b : Bool} (e : (t == .ref C) = false) (h1 : (PySem.W.clsIn K C).isSome = true) (h2 : PySem.W.typeIn K (.ref C) = some (.type "type")) (h3 : PySem.W.subIn K t (.ref C) = some b) : PySem.W.kitOne K t (.ref C) = some b := by
  unfold PySem.W.kitOne
  rw [e, if_neg Bool.false_ne_true]
  show (if ((PySem.W.clsIn K C).isSome && PySem.W.typeIn K (.ref C) == some (.type "type")) = true then PySem.W.subIn K t (.ref C) else none) = some b
  rw [h1, h2, if_pos (by first | rfl | decide)]
  exact h3
/-! ### o.f(..): a field that is called -/
section
variable {X : Cx} {W : WX} {e o : Expr} {es : List Expr} {to : TED} {t : TAD} {pos apos : Pos}
theorem getfldm_ok {pins : List (Addr × Obj)} {s : Shared} {σ : L2.St} {H : Hp} {a C dx : Addr} {fs : List (Str × V)} {f : Str} {v : V} {A : Around} {E : Value → Shared → Prop} {pl : Sem Bool} {Q : Value × List Value → Shared → Prop} (I : Inv X pins σ H s) (h : H a = some (.ins C dx fs)) (c : Cls X.K C) (n : NoAttr X.K C f) (l : fs.lookup f = some v) (q : ∀ u s', Inv X pins σ H s' → RelV v u → Q (u, []) s') :
    wpAny (model X.prog X.w) A (getMethod (.ref a) f pl) Q E s := by
  obtain ⟨mA, O, _⟩ := ins_get I.hok h
  obtain ⟨od, J, hl⟩ := O.look
  exact PySem.W.method_usual (r := none) I.kIn J (PySem.W.plainGet_of (c.get f)).1 (PySem.W.plainGet_of (c.get f)).2 n rfl (getattr_ok I h c n l q)
theorem run_callV {pins : List (Addr × Obj)} {s1 : Shared} {σ : L2.St} {H1 : Hp} {σD : SD} {G1 : HH} {Q : VK} {QD : QD} {E : ED} {u : Value} {x : V} {d : D} {k : Nat} {tbo tbf : List (Str × SpD)} (ho : CTab X k tbo) (hf : FTab X k tbf) (hgd : X.A.guards = some []) (hr : Room k X.A) (tk : Takes X W) (ha : DA X W (e :: es) t)
    (I1 : Inv X pins σ H1 s1) (rx : RelV x u) (r1 : RelH X.K H1 G1) (hS : SRp X.K H1 G1 σD σ) (p1 : Rp X.K H1 G1 d x)
    (z : (∃ c sp ns ds, InsD G1 d c ns ds ∧ (c, sp) ∈ tbo ∧ t σD G1 (fun as G2 => (∃ ns ds, InsD G2 d c ns ds) ∧ sp (d :: as) G2 QD E) E) ∨ ∃ c sp, d = .gv c ∧ (c, sp) ∈ tbf ∧ t σD G1 (fun as G2 => sp as G2 QD E) E)
    (hq : Ct X.K H1 G1 Q QD) (hE : Exs X.K W σ H1 G1 E)
    (he : starEach (e :: es) X.env = (false, eval e X.env) :: starEach es X.env := by rfl) (hpl : (backTo pos (starEach es X.env)).any (·.1) = false := by rfl) :
    wpAny (model X.prog X.w) X.A (callWith pos u [] (backTo pos (starEach (e :: es) X.env)) []) (EP X pins σ Q) X.xe s1 := by
  have ha' : PA X (e :: es) (lftA X.K W t) := ha
  rcases z with ⟨c, sp, ns0, ds0, hi0, hm, q1⟩ | ⟨c, sp, rfl, hm, q1⟩
  · obtain ⟨C, g, fd, ps, hC, co, F, hb⟩ := ho _ hm
    obtain ⟨a, _, _, _, ex, _, _, _, _⟩ := hi0.of r1 p1
    subst ex
    obtain rfl : u = Value.ref a := rx
    refine StX.callO_with (thn (ha'.run pos pins s1 σ H1 (fun vs H2 => (∃ dx fs, H2 a = some (.ins C dx fs)) ∧ lsp X.K sp (.ref a :: vs) H2 Q (WE W σ)) I1 ⟨σD, G1, _, E, r1, hS, q1, fun vs H2 as G2 s2 r2 p2 ⟨⟨ns, ds, hi⟩, q2⟩ => ?_, hE⟩) fun us s2 ⟨vs, H2, I2, r, ⟨dx2, fs2, hi2⟩, q2⟩ => ?_) he hpl
    · have p3 := p1.mono s2
      obtain ⟨b, C', dx, xs, ex, h1, h2, h3, h4⟩ := hi.of r2 p3
      cases ex
      have hCC : C' = C := by rw [hC] at h1; exact (Option.some.inj h1).symm
      subst hCC
      exact ⟨⟨_, _, h2⟩, d :: as, G2, QD, E, r2, .cons p3 p2, q2, hq.mono s2, fun xd cls d' H' G' s' r' p' z' => hE _ _ _ _ _ (s2.trans s') r' p' z'⟩
    · obtain ⟨ox, od, J, hd⟩ := StX.insC_at I2 (Or.inr ⟨_, _, hi2⟩)
      refine ⟨⟨C, ox, od, J, hd⟩, ?_⟩
      have rv : Vals (V.ref a :: vs) (Value.ref a :: us) := .cons (vref a) r
      have hl : (Value.ref a :: us).length = ps.length := by rw [← rv.length]; exact F.llen q2
      have b := hb s2 (Value.ref a :: us) I2.kIn (by rw [List.append_nil]; exact hl)
      rw [List.append_nil] at b
      refine wpAny_call (PySem.W.kco_code I2.kIn J hd co.at_ co.fn co.fi (codeAny_mono (run_any F hgd hr tk I2 b rv q2) fun r s' hq' => ?_))
      cases r with
      | error e => exact hq'
      | ok fl =>
        cases fl with
        | ret u => exact hq'
        | next => exact False.elim hq'
        | brk => exact False.elim hq'
        | cont => exact False.elim hq'
  · obtain ⟨f, fd, ps, hC, hk, F, hb⟩ := hf _ hm
    cases p1 with
    | gv e1 =>
      rename_i a
      have hCC : a = f := by rw [show gaddr X.K c = some f from hC] at e1; exact (Option.some.inj e1).symm
      subst hCC
      obtain rfl : u = Value.ref a := rx
      refine PySem.W.callWith_K (first := []) (h₀ := X.base) I1.ok.mod.kin hk (thn (ha'.run pos pins s1 σ H1 (fun vs H2 => lsp X.K sp vs H2 Q (WE W σ)) I1 ⟨σD, G1, _, E, r1, hS, q1, fun vs H2 as G2 s2 r2 p2 q2 => ?_, hE⟩) fun us s2 ⟨vs, H2, I2, r, q2⟩ => ⟨I2.kIn, ?_⟩) he hpl
      · exact ⟨as, G2, QD, E, r2, p2, q2, hq.mono s2, fun xd cls d' H' G' s' r' p' z' => hE _ _ _ _ _ (s2.trans s') r' p' z'⟩
      · exact run_call F hgd hr hb tk I2 r q2
theorem de_callF {cs : List Str} {m : Str} {k : Nat} {tbo tbf : List (Str × SpD)} {pl : Sem Bool} (hF : FldOk X.K cs m) (ho : CTab X k tbo) (hf : FTab X k tbf) (hgd : X.A.guards = some []) (hr : Room k X.A) (tk : Takes X W) (hoe : DE X W o to) (ha : DA X W (e :: es) t)
    (hst : starEach (e :: es) X.env = (false, eval e X.env) :: starEach es X.env := by rfl) (hpl : (backTo pos (starEach es X.env)).any (·.1) = false := by rfl)
    (ht : eval (.Call (.Attribute o m apos) (e :: es) [] pos) X.env = (do
      let ov ← eval o X.env
      standAt apos.atName
      let (f, first) ← holding [ov] (getMethod ov m pl)
      callWith pos f first (backTo pos (starEach (e :: es) X.env)) (backToKw pos (keywordEach [] X.env))) := by rfl) :
    DE X W (.Call (.Attribute o m apos) (e :: es) [] pos) (dCallV tbo tbf (dFld cs m to) t) := by
  have ho' : PE X o (lft X.K W to) := hoe
  refine ⟨fun pins s σ H Q I ⟨σD, G, QD, E, hR, hS, q, hq, hE⟩ => ?_⟩
  refine PySem.W.methodCall_KW (pl := pl) (thn (ho'.run pins s σ H (fun v H1 => ∃ d G1, Stp H G H1 G1 ∧ RelH X.K H1 G1 ∧ Rp X.K H1 G1 d v ∧ ∃ c ns ds d', InsD G1 d c ns ds ∧ c ∈ cs ∧ lk m ns ds = some d' ∧ ((∃ c sp ns ds, InsD G1 d' c ns ds ∧ (c, sp) ∈ tbo ∧ t σD G1 (fun as G2 => (∃ ns ds, InsD G2 d' c ns ds) ∧ sp (d' :: as) G2 QD E) E) ∨ ∃ c sp, d' = .gv c ∧ (c, sp) ∈ tbf ∧ t σD G1 (fun as G2 => sp as G2 QD E) E)) I ⟨σD, G, _, E, hR, hS, q, fun v H1 d G1 s1 r1 p1 z => ⟨d, G1, s1, r1, p1, z⟩, hE⟩) fun u s1 ⟨x, H1, I1, rx, d, G1, s1', r1, p1, c, ns, ds, d', hi, hc, hl, z⟩ => ?_) ht
  obtain ⟨a, C, dx, xs, rfl, h1, h2, h3, h4⟩ := hi.of r1 p1
  rcases lk_zip (f := m) h4 h3 with ⟨y, _⟩ | ⟨d2, v, e1, e2, p2⟩
  · rw [hl] at y; cases y
  · rw [hl] at e1; cases e1
    obtain ⟨k1, k2⟩ := hF c hc C h1
    obtain rfl : u = Value.ref a := rx
    exact getfldm_ok I1 h2 k1 k2 e2 fun u' s2 I2 ru => run_callV ho hf hgd hr tk ha I2 ru r1 (hS.mono s1') p2 z (hq.mono s1') (hE.mono s1') hst hpl
end
end DL

namespace DL
open PySem PySem.Spec PyProof.Rows L2
open PySem.W (Frag)
section
variable {X : Cx}
/-- sorted(ints) -/
def kSortI : RCD := c1 fun x G Q => ∃ ns : List Int, LsW G x (ns.map D.int) ∧ ∀ ms : List Int, ms.Perm ns → ms.Pairwise (· ≤ ·) → Q (.lst (ms.map D.int)) G
theorem cSortI : CallD X (.builtin "sorted") kSortI := ⟨_, cr_sortedI, fun xs H Q ds G QD hR hp ⟨x, e, ns, s, q⟩ hq => by
  subst e
  obtain ⟨v, rfl, p⟩ := rps1 hp
  obtain ⟨a, vs, rfl, h, r⟩ := s.of hR p
  rw [r.ints] at h
  exact ⟨a, ns, rfl, h, fun ns' l hp hs hl => hq.lst hR hl (Rps.of_ints ns') (q ns' hp hs)⟩⟩
end
theorem st_sortI {G : HH} {Q : QD} {x : D} {ns : List Int} (h : LsW G x (ns.map D.int)) (q : ∀ ms : List Int, ms.Perm ns → ms.Pairwise (· ≤ ·) → Q (.lst (ms.map D.int)) G) : kSortI [x] G Q := ⟨x, rfl, ns, h, q⟩
/-- a comprehension that takes nothing -/
theorem lc_none {σ : SD} {G : HH} {Q : QD} {ok : HH → Prop} {g : Tgt} {tt : TTD} {te : TED} {vs : List Nat} {α : Type} {xs : List α} {c : α → D} (hok : ∀ p acc, G p = none → ok (gput G p (.lst acc))) (hl : xs.length ≤ sizeLine)
    (hs : ∀ a, a ∈ xs → ∀ p acc, G p = none → ∃ σ2, g.put (c a) (wipeD σ vs) = some σ2 ∧ EvT tt σ2 (gput G p (.lst acc)) false) (hq : Q (.lst []) G) : LcG true (xs.map c) ok g tt te vs σ G Q :=
  lc_ev (k := fun _ => false) (f := fun _ => .non) hok hl (fun a ha p acc hp => (hs a ha p acc hp).imp fun σ2 h => ⟨h.1, h.2, fun z => by cases z⟩) (by
    rw [show xs.filter (fun _ => false) = [] from List.filter_eq_nil_iff.mpr (by simp)]
    exact hq)
theorem atI_cons {x : D} {xs : List D} : atI (x :: xs) 0 = some x := by
  unfold atI
  have : ixN (x :: xs).length 0 = some 0 := by
    unfold ixN
    simp
  rw [this]
  rfl
theorem dcut_init (xs : List D) (y : D) : dcut (xs ++ [y]) none (some (-1)) = xs := by
  unfold dcut HT.sIx
  simp
  rw [show (-1 + ((xs.length : Int) + 1)).toNat = xs.length by omega, List.take_append_of_le_length (Nat.le_refl _), List.take_length]
theorem scs_ints : ∀ l : List Int, scs (l.map D.int) = some (l.map V.int)
  | [] => rfl
  | x :: l => by
    rw [List.map_cons, scs, scs_ints l]
    rfl
theorem inV_ints (z : Int) (l : List Int) : inV (.int z) (l.map V.int) = decide (z ∈ l) := by
  induction l with
  | nil => simp [inV]
  | cons x l ih =>
    simp only [inV, List.map_cons, List.any_cons] at ih ⊢
    rw [ih]
    show ((x == z) || _) = _
    by_cases h : x = z
    · subst h; simp
    · have h' : ¬ z = x := fun z => h z.symm
      simp [h, h']
theorem st_inI {G : HH} {Q : QD} {z : Int} {y : D} {l : List Int} (h : Sq G y (l.map D.int)) (q : Q (.bl (decide (z ∈ l))) G) : iAny false (.int z) y G Q :=
  .inl ⟨_, _, _, h, rfl, scs_ints l, by rw [if_neg Bool.false_ne_true, inV_ints]; exact q⟩
theorem st_notInI {G : HH} {Q : QD} {z : Int} {y : D} {l : List Int} (h : Sq G y (l.map D.int)) (q : Q (.bl (!decide (z ∈ l))) G) : iAny true (.int z) y G Q :=
  .inl ⟨_, _, _, h, rfl, scs_ints l, by rw [if_pos rfl, inV_ints]; exact q⟩
theorem st_ne00 {G : HH} {Q : QD} (q : Q (.bl false) G) : eAny true (.lst []) (.lst []) G Q := st_neLI (xs := []) q
theorem st_eq00 {G : HH} {Q : QD} (q : Q (.bl true) G) : eAny false (.lst []) (.lst []) G Q := st_eqLI (xs := []) q
end DL

namespace DL
open PySem PySem.Spec PyProof.Rows L2
open PySem.W (Frag)
/-- what stood there stands there -/
def Kp (G G' : HH) : Prop := ∀ b, G b ≠ none → G' b = G b
theorem Kp.refl {G : HH} : Kp G G := fun _ _ => rfl
theorem Kp.trans {G G1 G2 : HH} (a : Kp G G1) (b : Kp G1 G2) : Kp G G2 := fun c h => (b c (by rw [a c h]; exact h)).trans (a c h)
theorem Kp.at {G G' : HH} (a : Kp G G') {p : Addr} {o : HOD} (h : G p = some o) : G' p = some o := (a p (by rw [h]; simp)).trans h
theorem Kp.new {G : HH} {p : Addr} {o : HOD} (h : G p = none) : Kp G (gput G p o) := fun b hb => gput_ne fun e => hb (by rw [e]; exact h)
theorem Kp.put {G G1 : HH} {p : Addr} {o : HOD} (a : Kp G G1) (h : G p = none) : Kp G (gput G1 p o) := fun b hb => (gput_ne fun e => hb (by rw [e]; exact h)).trans (a b hb)
theorem Kp.del {G G1 : HH} {p : Addr} (a : Kp G G1) (h : G p = none) : Kp G (gdel G1 p) := fun b hb => (gdel_ne fun e => hb (by rw [e]; exact h)).trans (a b hb)
/-- .. but for p -/
def Bk (p : Addr) (G G' : HH) : Prop := ∀ b, b ≠ p → G b ≠ none → G' b = G b
theorem Bk.refl {p : Addr} {G : HH} : Bk p G G := fun _ _ _ => rfl
theorem Bk.trans {p : Addr} {G G1 G2 : HH} (a : Bk p G G1) (b : Bk p G1 G2) : Bk p G G2 := fun c h k => (b c h (by rw [a c h k]; exact k)).trans (a c h k)
theorem Bk.at {p : Addr} {G G' : HH} (a : Bk p G G') {q : Addr} {o : HOD} (n : q ≠ p) (h : G q = some o) : G' q = some o := (a q n (by rw [h]; simp)).trans h
theorem But.bk {p : Addr} {G G' : HH} (a : But p G G') : Bk p G G' := fun b h _ => a b h
theorem Kp.bk {p : Addr} {G G' : HH} (a : Kp G G') : Bk p G G' := fun b _ h => a b h
section
variable {σ : SD} {G : HH} {Q : QD} {ok : HH → Prop} {g : Tgt} {tt : TTD} {te : TED} {vs : List Nat}
/-- a comprehension, by an invariant -/
theorem lc_gen {α : Type} {xs : List α} {c : α → D} (I : List α → List D → HH → Prop) (hl : xs.length ≤ sizeLine)
    (hI : ∀ pre acc G' G'' q, G q = none → (∀ b, b ≠ q → G'' b = G' b) → I pre acc G' → I pre acc G'') (h0 : I [] [] G)
    (hok : ∀ pre acc G', I pre acc G' → ok G')
    (hs : ∀ pre a post G' acc p, G p = none → xs = pre ++ a :: post → I pre acc G' → G' p = some (.lst acc) → ∃ σ2, g.put (c a) (wipeD σ vs) = some σ2 ∧
      ∀ (KT : D → HH → Prop) (KF : HH → Prop), (∀ y G4, G4 p = some (.lst acc) → I (pre ++ [a]) (acc ++ [y]) G4 → KT y G4) → (∀ G3, G3 p = some (.lst acc) → I (pre ++ [a]) acc G3 → KF G3) →
      tt σ2 G' (fun b G3 => if b = true then te σ2 G3 KT (fun _ _ => False) else KF G3) (fun _ _ => False))
    (hq : ∀ acc G', I xs acc G' → acc.length ≤ xs.length → Q (.lst acc) G') : LcG true (xs.map c) ok g tt te vs σ G Q := by
  intro p hp
  refine ⟨fun pre G' => ∃ ys acc, pre = ys.map c ∧ ys <+: xs ∧ G' p = some (.lst acc) ∧ acc.length ≤ ys.length ∧ I ys acc G', ⟨[], [], rfl, List.nil_prefix, gput_same, Nat.le_refl _, hI _ _ _ _ p hp (fun b h => gput_ne h) h0⟩, ?_, ?_, ?_⟩
  · rintro pre G' ⟨ys, acc, rfl, _, _, _, h⟩
    exact hok _ _ _ h
  · rintro pre x post G' e ⟨ys, acc, rfl, ⟨zs, rfl⟩, h1, h2, h3⟩
    rw [List.map_append] at e
    have e := List.append_cancel_left e
    cases zs with
    | nil => cases e
    | cons a zs =>
      rw [List.map_cons] at e
      injection e with e1 e2
      subst e1
      obtain ⟨σ2, a1, a2⟩ := hs ys a zs G' acc p hp rfl h3 h1
      have hpre : ys ++ [a] <+: ys ++ a :: zs := ⟨zs, by simp⟩
      refine ⟨σ2, a1, a2 _ _ (fun y G4 b1 b2 => ⟨acc, b1, ?_, ys ++ [a], acc ++ [y], by simp, hpre, gput_same, by simp; omega, hI _ _ _ _ p hp (fun b h => gput_ne h) b2⟩) (fun G3 b1 b2 => ⟨ys ++ [a], acc, by simp, hpre, b1, by simp; omega, b2⟩)⟩
      have := hl
      rw [List.length_append, List.length_cons] at this
      omega
  · rintro G' ⟨ys, acc, e, hp', h1, h2, h3⟩
    have hlen : ys.length = xs.length := by
      have := congrArg List.length e
      simpa using this.symm
    have : ys = xs := hp'.eq_of_length hlen
    subst this
    refine ⟨acc, h1, ?_⟩
    rw [if_pos rfl]
    exact hq acc _ (hI _ _ _ _ p hp (fun b h => gdel_ne h) h3) h2
/-- .. whose parts leave things behind -/
theorem lc_kp {α : Type} {xs : List α} {c : α → D} (k : α → Bool) (f : α → D) (hl : xs.length ≤ sizeLine) (hok : ∀ G', Kp G G' → ok G')
    (hs : ∀ a, a ∈ xs → ∀ G', Kp G G' → ∃ σ2, g.put (c a) (wipeD σ vs) = some σ2 ∧ ∀ (KT : D → HH → Prop) (KF : HH → Prop), (k a = true → ∀ G4, Kp G' G4 → KT (f a) G4) → (k a = false → ∀ G3, Kp G' G3 → KF G3) →
      tt σ2 G' (fun b G3 => if b = true then te σ2 G3 KT (fun _ _ => False) else KF G3) (fun _ _ => False))
    (hq : ∀ G', Kp G G' → Q (.lst ((xs.filter k).map f)) G') : LcG true (xs.map c) ok g tt te vs σ G Q := by
  refine lc_gen (fun pre acc G' => acc = (pre.filter k).map f ∧ Kp G G') hl (fun pre acc G' G'' q hq' hb ⟨h1, h2⟩ => ⟨h1, fun b hn => (hb b fun e => hn (e ▸ hq')).trans (h2 b hn)⟩) ⟨rfl, .refl⟩ (fun _ _ G' h => hok G' h.2) ?_ ?_
  · rintro pre a post G' acc p hp rfl ⟨rfl, hk⟩ hG
    obtain ⟨σ2, a1, a2⟩ := hs a (by simp) G' hk
    refine ⟨σ2, a1, fun KT KF b1 b2 => a2 KT KF (fun e G4 h4 => b1 _ _ (h4.at hG) ⟨?_, hk.trans h4⟩) (fun e G3 h3 => b2 _ (h3.at hG) ⟨?_, hk.trans h3⟩)⟩
    · rw [List.filter_append, List.map_append]; simp [e]
    · rw [List.filter_append, List.map_append]; simp [e]
  · rintro acc G' ⟨rfl, hk⟩ _
    exact hq G' hk
theorem lc_kpN {α : Type} {xs : List α} {c : α → D} (hl : xs.length ≤ sizeLine) (hok : ∀ G', Kp G G' → ok G')
    (hs : ∀ a, a ∈ xs → ∀ G', Kp G G' → ∃ σ2, g.put (c a) (wipeD σ vs) = some σ2 ∧ ∀ QT : Bool → HH → Prop, (∀ G3, Kp G' G3 → QT false G3) → tt σ2 G' QT (fun _ _ => False))
    (hq : ∀ G', Kp G G' → Q (.lst []) G') : LcG true (xs.map c) ok g tt te vs σ G Q :=
  lc_kp (fun _ => false) (fun _ => .non) hl hok (fun a ha G' hk => (hs a ha G' hk).imp fun σ2 h => ⟨h.1, fun KT KF _ h2 => h.2 _ fun G3 h3 => by rw [if_neg Bool.false_ne_true]; exact h2 rfl G3 h3⟩) (fun G' hk => by
    rw [show xs.filter (fun _ => false) = [] from List.filter_eq_nil_iff.mpr (by simp)]
    exact hq G' hk)
end
theorem LsW.kp {G G' : HH} {x : D} {xs : List D} (h : Kp G G') (l : LsW G x xs) : LsW G' x xs := by
  cases l with
  | lst => exact .lst _
  | wls => exact .wls _
  | ref e => exact .ref (h.at e)
theorem LsW.bk {p : Addr} {G G' : HH} {q : Addr} {xs : List D} (h : Bk p G G') (n : q ≠ p) (l : LsW G (.ref q) xs) : LsW G' (.ref q) xs := by
  cases l with
  | ref e => exact .ref (h.at n e)
end DL

namespace DL
open PySem PySem.Spec PyProof.Rows L2
open PySem.W (Frag)
/-! ### o.m(.., k = ..), o of one of several classes -/
section
variable {X : Cx} {W : WX} {e o : Expr} {es : List Expr} {kws : List Keyword} {to : TED} {t tk : TAD} {pos apos : Pos}
def MTabK (X : Cx) (k : Nat) (m : Str) (n : Nat) (ks : List Str) (perm : List Nat) (tb : List (Str × SpD)) : Prop := ∀ p ∈ tb, ∃ C f fd ps, gaddr X.K p.1 = some C ∧ Cls X.K C ∧ Meth X.K C m f ∧ FnG X.prog X.w X.K X.mg X.base k f fd ps p.2 ∧ KBd X.K fd ps (n + 1) ks perm
def dMethVK (m : Str) (n l : Nat) (perm : List Nat) (tb : List (Str × SpD)) (ta : TED) (t tk : TAD) : TED := fun σ G Q E => ta σ G (fun x G1 => ∃ c sp ns ds, InsD G1 x c ns ds ∧ lk m ns ds = none ∧ (c, sp) ∈ tb ∧ t σ G1 (fun as G2 => tk σ G2 (fun zs G3 => as.length = n ∧ zs.length = l ∧ sp (pick perm (x :: (as ++ zs))) G3 Q E) E) E) E
theorem de_methVK0 {m : Str} {k l : Nat} {ks : List Str} {perm : List Nat} {tb : List (Str × SpD)} {pl : Sem Bool} (hT : MTabK X k m 0 ks perm tb) (hgd : X.A.guards = some []) (hr : Room k X.A) (tkw : Takes X W) (ho : DE X W o to) (hkw : DK X W kws tk)
    (hlen : ks.length = l := by rfl) (hall : (backToKw pos (keywordEach kws X.env)).all (·.1.isSome) = true := by rfl) (hks : (backToKw pos (keywordEach kws X.env)).filterMap (·.1) = ks := by rfl)
    (hpl : ((backTo pos (starEach [] X.env)).any (·.1) || (backToKw pos (keywordEach kws X.env)).any (·.1.isNone)) = false := by rfl)
    (ht : eval (.Call (.Attribute o m apos) [] kws pos) X.env = (do
      let ov ← eval o X.env
      standAt apos.atName
      let (f, first) ← holding [ov] (getMethod ov m pl)
      callWith pos f first (backTo pos (starEach [] X.env)) (backToKw pos (keywordEach kws X.env))) := by rfl) :
    DE X W (.Call (.Attribute o m apos) [] kws pos) (dMethVK m 0 l perm tb to dNil tk) := by
  subst hlen
  have hkw' : PK X kws (lftA X.K W tk) := hkw
  have ho' : PE X o (lft X.K W to) := ho
  refine ⟨fun pins s σ H Q I ⟨σD, G, QD, E, hR, hS, q, hq, hE⟩ => ?_⟩
  refine PySem.W.methodCall_KW (pl := pl) (thn (ho'.run pins s σ H (fun v H1 => ∃ d G1, Stp H G H1 G1 ∧ RelH X.K H1 G1 ∧ Rp X.K H1 G1 d v ∧ ∃ c sp ns ds, InsD G1 d c ns ds ∧ lk m ns ds = none ∧ (c, sp) ∈ tb ∧ tk σD G1 (fun zs G3 => ([] : List D).length = 0 ∧ zs.length = ks.length ∧ sp (pick perm (d :: ([] ++ zs))) G3 QD E) E) I ⟨σD, G, _, E, hR, hS, q, fun v H1 d G1 s1 r1 p1 z => ⟨d, G1, s1, r1, p1, z⟩, hE⟩) fun u s1 ⟨x, H1, I1, rx, d, G1, s1', r1, p1, c, sp, ns, ds, hi, hl, hm, q1⟩ => ?_) ht
  obtain ⟨a, C', dx, xs, ex, h1, h2, h3, h4⟩ := hi.of r1 p1
  obtain ⟨C, f, fd, ps, hC, hcl, hme, F, hb⟩ := hT _ hm
  have hCC : C' = C := by rw [hC] at h1; exact (Option.some.inj h1).symm
  subst hCC
  subst ex
  obtain rfl : u = Value.ref a := rx
  have hl' : (ns.zip xs).lookup m = none := by
    rcases lk_zip (f := m) h4 h3 with ⟨_, z⟩ | ⟨d', v, e1, _, _⟩
    · exact z
    · rw [hl] at e1; cases e1
  refine getmeth_ok I1 h2 hcl hme hl' ?_
  refine PySem.W.callWith_KW0 (first := [.ref a]) (h₀ := X.base) I.ok.mod.kin hme.kp hall (thn (hkw'.run pos pins s1 σ H1 (fun zs H2 => zs.length = ks.length ∧ lsp X.K sp (pick perm (V.ref a :: zs)) H2 Q (WE W σ)) I1 ⟨σD, G1, _, E, r1, hS.mono s1', q1, fun zs H2 as G2 s2 r2 p2 ⟨_, l2, q2⟩ => ?_, hE.mono s1'⟩) fun ws s2 ⟨zs, H2, I2, rz, l2, q2⟩ => ⟨I2.kIn, ?_⟩) hpl
  · exact ⟨by rw [← p2.length]; exact l2, pick perm (d :: as), G2, QD, E, r2, Rps.pick (.cons (p1.mono s2) p2), by simpa using q2, hq.mono (s1'.trans s2), fun xd cls d' H' G' s' r' p' z' => hE _ _ _ _ _ ((s1'.trans s2).trans s') r' p' z'⟩
  · rw [hks]
    exact run_callK F hgd hr hb tkw I2 (us := [Value.ref a]) (vs := V.ref a :: zs) (.cons rfl rz) rfl (by rw [← rz.length]; exact l2) q2
theorem MTabK.nil {k n : Nat} {m : Str} {ks : List Str} {perm : List Nat} : MTabK X k m n ks perm [] := fun _ h => by cases h
theorem MTabK.cons {j k n : Nat} {m c : Str} {ks : List Str} {perm : List Nat} {tb : List (Str × SpD)} {sp : SpD} {C f : Addr} {fd : FuncData} {ps : List Str} (hC : gaddr X.K c = some C) (cl : Cls X.K C) (me : Meth X.K C m f) (F : FnG X.prog X.w X.K X.mg X.base j f fd ps sp) (hk : j ≤ k) (hb : KBd X.K fd ps (n + 1) ks perm) (r : MTabK X k m n ks perm tb) : MTabK X k m n ks perm ((c, sp) :: tb) := fun p hp => by
  rcases List.mem_cons.mp hp with rfl | hp
  · exact ⟨C, f, fd, ps, hC, cl, me, F.mono hk, hb⟩
  · exact r p hp
end
section
variable {σ : SD} {G : HH} {Q : QD} {E : ED} {ta : TED} {t tk : TAD} {m c : Str} {n l : Nat} {perm : List Nat} {tb : List (Str × SpD)} {ns : List Str} {ds : List D}
theorem st_methVK (h : ta σ G (fun x G1 => ∃ c sp ns ds, InsD G1 x c ns ds ∧ lk m ns ds = none ∧ (c, sp) ∈ tb ∧ t σ G1 (fun as G2 => tk σ G2 (fun zs G3 => as.length = n ∧ zs.length = l ∧ sp (pick perm (x :: (as ++ zs))) G3 Q E) E) E) E) : dMethVK m n l perm tb ta t tk σ G Q E := h
theorem st_methVKq (sp : SpD) (hl : lk m ns ds = none) (hm : (c, sp) ∈ tb) (h : t σ G (fun as G2 => tk σ G2 (fun zs G3 => as.length = n ∧ zs.length = l ∧ sp (pick perm (.obj c ns ds :: (as ++ zs))) G3 Q E) E) E) :
    ∃ c' sp ns' ds', InsD G (.obj c ns ds) c' ns' ds' ∧ lk m ns' ds' = none ∧ (c', sp) ∈ tb ∧ t σ G (fun as G2 => tk σ G2 (fun zs G3 => as.length = n ∧ zs.length = l ∧ sp (pick perm (.obj c ns ds :: (as ++ zs))) G3 Q E) E) E := ⟨c, sp, ns, ds, .obj c ns ds, hl, hm, h⟩
end
end DL

namespace DL
open PySem PySem.Spec PyProof.Rows L2
open PySem.W (Frag)
/-! ### {k: v, ..}, keys numbers or texts -/
def mergeD (kvs more : List (Key × D)) : List (Key × D) := more.foldl (fun acc kv => kput acc kv.1 kv.2) kvs
theorem KRp.merge {K : Frag} {H : Hp} {G : HH} : ∀ {mk : List (Key × D)} {mx : List (Key × V)} {kvs : List (Key × D)} {xs : List (Key × V)}, KRp K H G mk mx → KRp K H G kvs xs → KRp K H G (mergeD kvs mk) (mergeK xs mx)
  | [], [], _, _, _, h => h
  | [], _ :: _, _, _, m, _ => by have := m.1; cases this
  | _ :: _, [], _, _, m, _ => by have := m.1; cases this
  | (k, d) :: mk, (k', v) :: mx, kvs, xs, ⟨m1, m2⟩, h => by
    simp only [List.map_cons] at m1 m2
    injection m1 with e1 e2
    subst e1
    cases m2 with
    | cons a r => exact KRp.merge (mk := mk) (mx := mx) ⟨e2, r⟩ (h.put a)
def dPairs : List (TED × TED) → SD → HH → (List (D × D) → HH → Prop) → ED → Prop
  | [], _, G, Q, _ => Q [] G
  | (tk, tv) :: r, σ, G, Q, E => tk σ G (fun x G1 => tv σ G1 (fun y G2 => dPairs r σ G2 (fun ps G3 => Q ((x, y) :: ps) G3) E) E) E
def DPs (X : Cx) (W : WX) (pos : Pos) (keys : List (Option Expr)) (values : List Expr) (trs : List (TED × TED)) : Prop := PPs X pos keys values (trs.map fun p => (lft X.K W p.1, lft X.K W p.2))
section
variable {X : Cx} {W : WX} {pos : Pos}
theorem dps_nil : DPs X W pos [] [] [] := pps_nil
theorem dps_cons {k v : Expr} {ks : List (Option Expr)} {vs : List Expr} {tk tv : TED} {trs : List (TED × TED)} (hk : DE X W k tk) (hv : DE X W v tv) (hr : DPs X W pos ks vs trs) : DPs X W pos (some k :: ks) (v :: vs) ((tk, tv) :: trs) := pps_cons hk hv hr
theorem dPairs_to {K : Frag} {σD : SD} {σ : L2.St} {E : ED} : ∀ (trs : List (TED × TED)) {QP : List (D × D) → HH → Prop} {Q : List (V × V) → Hp → Prop} (H : Hp) (G : HH), RelH K H G → SRp K H G σD σ → dPairs trs σD G QP E →
    (∀ ps H' pd G', Stp H G H' G' → RelH K H' G' → Rps K H' G' (pd.map (·.1)) (ps.map (·.1)) → Rps K H' G' (pd.map (·.2)) (ps.map (·.2)) → QP pd G' → Q ps H') → Exs K W σ H G E → tPairs (trs.map fun p => (lft K W p.1, lft K W p.2)) σ H Q
  | [], QP, Q, H, G, hR, hS, q, hq, hE => hq [] H [] G Stp.refl hR .nil .nil q
  | (tk, tv) :: r, QP, Q, H, G, hR, hS, q, hq, hE => by
    refine ⟨σD, G, _, E, hR, hS, q, fun x H1 dx G1 s1 r1 p1 q1 => ?_, hE⟩
    refine ⟨σD, G1, _, E, r1, hS.mono s1, q1, fun y H2 dy G2 s2 r2 p2 q2 => ?_, hE.mono s1⟩
    exact dPairs_to r H2 G2 r2 (hS.mono (s1.trans s2)) q2 (fun ps H' pd G' s' r' k1 k2 q' => hq ((x, y) :: ps) H' ((dx, dy) :: pd) G' ((s1.trans s2).trans s') r' (.cons (p1.mono (s2.trans s')) k1) (.cons (p2.mono s') k2) q') (hE.mono (s1.trans s2))
theorem keys_of {K : Frag} {H : Hp} {G : HH} : ∀ {ks : List Key} {vs : List V}, Rps K H G (ks.map kD) vs → vs = ks.map kV
  | [], _, .nil => rfl
  | .inl i :: ks, _, .cons a r => by cases a; rw [keys_of r]; rfl
  | .inr x :: ks, _, .cons a r => by cases a; rw [keys_of r]; rfl
def dDisp (trs : List (TED × TED)) : TED := fun σ G Q E => ∀ p, G p = none → dPairs trs σ (gput G p (.dK [])) (fun ps G2 => G2 p = some (.dK []) ∧ ∃ kvs : List (Key × D), ps = kvs.map (fun kv => (kD kv.1, kv.2)) ∧ kvs.length ≤ 15 ∧ Q (.ref p) (gput G2 p (.dK (mergeD [] kvs)))) E
theorem de_disp {keys : List (Option Expr)} {values : List Expr} {trs : List (TED × TED)} (h : DPs X W pos keys values trs) (hall : keys.all (·.isSome) = true := by rfl) (hl : keys.length = values.length := by rfl) (h0 : keys ≠ [] := by exact fun z => by cases z)
    (h15 : keys.length ≤ 15 := by decide) : DE X W (.Dict keys values pos) (dDisp trs) :=
  PE.imp (pe_disp h hall hl h0 h15) fun σ H Q ⟨σD, G, QD, E, hR, hS, q, hq, hE⟩ => fun p hp => by
    have s1 : Stp H G (upd H p (.dK [])) (gput G p (.dK [])) := .newM hp
    have r1 : RelH X.K (upd H p (.dK [])) (gput G p (.dK [])) := hR.newM hp ⟨[], upd_same, rfl, .nil⟩
    refine dPairs_to trs _ _ r1 (hS.mono s1) (q p (hR.free hp)) (fun ps H2 pd G2 s2 r2 k1 k2 ⟨e, kvs, ep, hlen, q2⟩ => ?_) (hE.mono s1)
    subst ep
    rw [List.map_map] at k1 k2
    have k1' : Rps X.K H2 G2 ((kvs.map (·.1)).map kD) (ps.map (·.1)) := by rw [List.map_map]; exact k1
    have ek := keys_of k1'
    have hH : H2 p = some (.dK []) := by
      obtain ⟨xs, e1, e2, _⟩ := r2 p _ e
      cases xs with
      | nil => exact e1
      | cons a b => cases e2
    have hlp : ps.length = kvs.length := by have := congrArg List.length ek; simpa using this
    refine ⟨hH, (kvs.map (·.1)).zip (ps.map (·.2)), ?_, by simp; omega, ?_⟩
    · refine List.ext_getElem? fun i => ?_
      have := congrArg (fun l => l[i]?) ek
      simp only [List.getElem?_map, List.getElem?_zip_eq_some, Option.map_map] at this ⊢
      rw [List.zip, List.getElem?_zipWith]
      simp only [List.getElem?_map]
      cases e1 : ps[i]? with
      | none =>
        cases e2 : kvs[i]? with
        | none => rfl
        | some kv => rw [e1, e2] at this; cases this
      | some pq =>
        cases e2 : kvs[i]? with
        | none => rw [e1, e2] at this; cases this
        | some kv =>
          rw [e1, e2] at this
          simp at this
          obtain ⟨a, b⟩ := pq
          simp only [Option.map_some]
          simp at this ⊢
          exact this
    · have kr : KRp X.K H2 G2 kvs ((kvs.map (·.1)).zip (ps.map (·.2))) := by
        constructor
        · rw [List.map_fst_zip (by simp [hlp])]
        · rw [List.map_snd_zip (by simp [hlp])]; exact k2
      have km := kr.merge (K := X.K) (kvs := []) (xs := []) .nil
      have s3 : Stp H2 G2 (upd H2 p (.dK (mergeK [] ((kvs.map (·.1)).zip (ps.map (·.2)))))) (gput G2 p (.dK (mergeD [] kvs))) := .put e
      exact hq _ _ _ _ ((s1.trans s2).trans s3) (r2.put e ⟨_, upd_same, (km.mono s3).1, (km.mono s3).2⟩) (.ref p) q2
end
section
variable {σ : SD} {G : HH} {Q : QD} {E : ED} {tk tv : TED} {trs : List (TED × TED)}
theorem st_disp (h : ∀ p, G p = none → dPairs trs σ (gput G p (.dK [])) (fun ps G2 => G2 p = some (.dK []) ∧ ∃ kvs : List (Key × D), ps = kvs.map (fun kv => (kD kv.1, kv.2)) ∧ kvs.length ≤ 15 ∧ Q (.ref p) (gput G2 p (.dK (mergeD [] kvs)))) E) : dDisp trs σ G Q E := h
theorem st_prs {QP : List (D × D) → HH → Prop} (h : tk σ G (fun x G1 => tv σ G1 (fun y G2 => dPairs trs σ G2 (fun ps G3 => QP ((x, y) :: ps) G3) E) E) E) : dPairs ((tk, tv) :: trs) σ G QP E := h
theorem st_prn {QP : List (D × D) → HH → Prop} (h : QP [] G) : dPairs [] σ G QP E := h
end
theorem st_eqB {a b : Bool} {G : HH} {Q : QD} (h : Q (.bl (decide (a = b))) G) : eAny false (.bl a) (.bl b) G Q := .inl ⟨_, _, rfl, rfl, rfl, by
  have : decide (V.bl a = V.bl b) = decide (a = b) := by cases a <;> cases b <;> decide
  simpa [this] using h⟩
theorem st_neB {a b : Bool} {G : HH} {Q : QD} (h : Q (.bl (!decide (a = b))) G) : eAny true (.bl a) (.bl b) G Q := .inl ⟨_, _, rfl, rfl, rfl, by
  have : decide (V.bl a = V.bl b) = decide (a = b) := by cases a <;> cases b <;> decide
  simpa [this] using h⟩
end DL

namespace LW
open PySem PySem.Spec PyProof.Rows L2 DL
open PySem.W (Frag)
/-! short ways through the steps (local to this text) -/
local macro_rules | `(tactic| walk_at "get") => `(tactic| first | exact GetAt.z | (refine' GetAt.s ?k3; (case k3 => walk_at "get")))
local macro_rules | `(tactic| walk_at "put") => `(tactic| first | exact SetAt.z | (refine' SetAt.s ?k3; (case k3 => walk_at "put")))
local macro_rules | `(tactic| walk_at "ne") => `(tactic| first | assumption | (refine Ne.symm ?_; assumption) | exact ne_sn (by assumption) (by assumption) | exact Ne.symm (ne_sn (by assumption) (by assumption)))
local macro_rules | `(tactic| walk_at "hp") => `(tactic| first | assumption | exact gput_same | exact gdel_same | (refine' (gput_ne ?k4).trans ?k5; (case k4 => walk_at "ne"); (case k5 => walk_at "hp")) | (refine' (gdel_ne ?k4).trans ?k5; (case k4 => walk_at "ne"); (case k5 => walk_at "hp")))
local macro_rules | `(tactic| walk_at "sq") => `(tactic| first | with_reducible exact Sq.tup _ | with_reducible exact Sq.lst _ | with_reducible exact Sq.wls _ | with_reducible exact LsW.lst _ | with_reducible exact LsW.wls _ | with_reducible exact Ls.lst _ | ((with_reducible refine' Sq.ref ?k6); (case k6 => walk_at "hp")) | ((with_reducible refine' LsW.ref ?k6); (case k6 => walk_at "hp")) | ((with_reducible refine' Ls.ref ?k6); (case k6 => walk_at "hp")))
local macro_rules | `(tactic| walk_at "sz") => `(tactic| first | decide | omega | (simp only [List.length_append, List.length_cons, List.length_nil, List.length_map, sizeLine_eq]; omega) | (simp only [List.length_append, List.length_cons, List.length_nil, List.length_map, sizeLine_eq]; split <;> simp only [List.length_append, List.length_cons, List.length_nil, List.length_map] <;> omega))
local macro_rules | `(tactic| walk_at "lk") => `(tactic| first | exact lk_here | exact lk_nil | ((refine' lk_next ?n1 ?n2); (case n1 => decide +kernel); (case n2 => walk_at "lk")) | ((refine' lk_not ?n1 ?n2); (case n1 => decide +kernel); (case n2 => walk_at "lk")))
local macro_rules | `(tactic| walk_at "b1") => `(tactic| first
  | with_reducible refine st_iSq ?_ | with_reducible refine st_sqT ?_ | ((with_reducible refine' st_sqL ?k1 ?k2); (case k1 => walk_at "sq")) | with_reducible refine st_sqS ?_
  | with_reducible refine st_seq ?_ | with_reducible refine st_asg ?_
  | ((with_reducible refine' st_var ?k1 ?k2); (case k1 => walk_at "get"))
  | with_reducible refine st_c ?_ | with_reducible refine st_op ?_
  | with_reducible refine st_cons ?_ | with_reducible refine st_nil ?_
  | ((with_reducible refine' st_name ?k1 ?k2); (case k1 => walk_at "put"))
  | with_reducible refine st_oI0 ?_ | with_reducible refine st_addI ?_
  | with_reducible refine st_call ?_ | with_reducible refine st_cb ?_ | with_reducible refine st_callK ?_
  | with_reducible refine st_test ?_ | with_reducible refine st_bl ?_ | with_reducible refine st_blq ?_
  | with_reducible refine st_not ?_
  | with_reducible refine st_tru ?_ | with_reducible refine st_tru_blq ?_
  | with_reducible refine st_notV ?_
  | with_reducible refine st_sl ?_ | with_reducible refine st_nopart ?_ | with_reducible refine st_part ?_ | with_reducible refine st_int ?_
  | with_reducible refine st_next ?_ | with_reducible refine st_break ?_ | with_reducible refine st_cont ?_
  | with_reducible refine st_for ?_ | with_reducible refine st_lc ?_
  | ((with_reducible refine' st_setat ?k1 ?k2 ?k3); (case k1 => walk_at "hp"); (case k2 => first | assumption | rfl))
  | with_reducible refine st_drop ?_ | with_reducible refine st_ret ?_ | with_reducible refine st_retN ?_ | with_reducible refine st_retF ?_
  | with_reducible refine st_neSame ?_ | with_reducible refine st_eqSame ?_
  | ((with_reducible refine' st_eqDiff ?k1 ?k2); (case k1 => decide +kernel)) | ((with_reducible refine' st_neDiff ?k1 ?k2); (case k1 => decide +kernel))
  | with_reducible refine st_ifS ?_ | with_reducible refine st_iteT ?_ | with_reducible refine st_iteF ?_ | with_reducible refine st_iteNT ?_ | with_reducible refine st_iteNF ?_
  | with_reducible refine st_gtup rfl ?_ | with_reducible refine st_glst rfl ?_ | with_reducible refine st_gnil ?_ | with_reducible refine st_gcons ?_ | with_reducible refine st_gsub ?_
  | with_reducible refine st_par ?_ | with_reducible refine st_iTup ?_ | with_reducible refine st_tupq ?_ | with_reducible refine st_iLst ?_ | with_reducible refine st_lsq ?_ | with_reducible refine st_wlsq ?_
  | with_reducible refine st_rng1 ?_ | with_reducible refine st_rng2 ?_ | ((with_reducible refine' st_rng1q ?k1 ?k2 ?k3); (case k1 => walk_at "sz"); (case k2 => walk_at "sz"))
  | ((with_reducible refine' st_rng2q ?k1 ?k2); (case k1 => (refine ⟨?_, ?_, ?_, ?_⟩ <;> walk_at "sz")))
  | ((with_reducible refine' st_par2 ?k1 ?k2 ?k3); (case k1 => walk_at "put"); (case k2 => walk_at "put"))
  | with_reducible refine st_un ?_ | with_reducible refine st_uI ?_
  | ((with_reducible refine' st_mulI ?k1 ?k2); (case k1 => first | with_reducible assumption | decide))
  | ((with_reducible refine' st_oI ?k1 ?k2); (case k1 => first | with_reducible assumption | omega | decide | (refine ⟨?_, ?_, ?_⟩ <;> first | decide | omega)))
  | with_reducible refine st_eqI ?_ | with_reducible refine st_neI ?_ | with_reducible refine st_eqS ?_ | with_reducible refine st_neS ?_
  | with_reducible refine st_abs ?_ | with_reducible refine st_max2 ?_ | with_reducible refine st_min2 ?_ | with_reducible refine st_toInt ?_ | with_reducible refine st_toIntB ?_ | with_reducible refine st_bool ?_
  | ((with_reducible refine' st_tuple ?k1 ?k2); (case k1 => walk_at "sq"))
  | ((with_reducible refine' st_list ?k1 ?k2); (case k1 => walk_at "sq"))
  | with_reducible refine st_tup ⟨by walk_at "sz", ?_⟩ | with_reducible refine st_lst ?_ | with_reducible refine st_lstM ?_ | with_reducible refine st_tup ?_
  | ((with_reducible refine' st_sz ?k1 ?k2); (case k1 => walk_at "sz"))
  | with_reducible refine st_bm ?_ | with_reducible refine st_bm0 ?_
  | with_reducible refine st_fstr ?_ | with_reducible refine st_js ?_ | with_reducible refine st_jsn ?_ | with_reducible refine st_fmt ?_
  | with_reducible refine st_raise ?_ | with_reducible refine st_raise1 ?_ | with_reducible refine st_raise2 ?_ | with_reducible refine st_fld ?_ | with_reducible refine st_setF ?_ | with_reducible refine st_mk ?_ | with_reducible refine st_meth ?_ | with_reducible refine st_prop ?_ | with_reducible refine st_truO ?_ | with_reducible refine st_opO ?_
  | ((with_reducible refine' st_fldO ?fa1 ?fa2 ?fa3); (case fa1 => simp); (case fa2 => walk_at "lk"))
  | ((with_reducible refine' st_fldR ?fb1 ?fb2 ?fb3 ?fb4); (case fb1 => walk_at "hp"); (case fb2 => simp); (case fb3 => walk_at "lk"))
  | ((with_reducible refine' st_setFq ?fc1 ?fc2 ?fc3 ?fc4); (case fc1 => walk_at "hp"); (case fc2 => simp); (case fc3 => first | decide | simp); (try simp +decide only [stF, if_false, if_true]))
  | ((with_reducible refine' st_methO ?fd1 ?fd2); (case fd1 => walk_at "lk"))
  | ((with_reducible refine' st_frz ?k1 ?k2 ?k3 ?k4); (case k1 => walk_at "get"); (case k2 => walk_at "hp"); (case k3 => walk_at "put"))
  | ((with_reducible refine' st_tyL ?k1 ?k2); (case k1 => walk_at "hp"))
  | ((with_reducible refine' st_append ?k1 ?k2 ?k3); (case k1 => walk_at "hp"); (case k2 => walk_at "sz"))
  | with_reducible refine st_dget ?_ | with_reducible refine st_din ?_ | with_reducible refine st_dget1 ?_ | with_reducible refine st_dget2 ?_ | with_reducible refine st_dnew ?_ | with_reducible refine st_dput ?_ | with_reducible refine st_par3 ?_
  | ((with_reducible refine' st_isDD ?k1 ?k2); (case k1 => walk_at "hp"))
  | ((with_reducible refine' st_dinq ?k1 ?k2 ?k3); (case k1 => walk_at "hp"); (case k2 => rfl))
  | ((with_reducible refine' st_par3q ?k1 ?k2 ?k3 ?k4); (case k1 => walk_at "put"); (case k2 => walk_at "put"); (case k3 => walk_at "put"))
  | ((with_reducible refine' st_slL ?k1 ?k2); (case k1 => walk_at "sq")) | with_reducible refine st_slT ?_
  | ((with_reducible refine' st_ix ?k1 ?k2 ?k3); (case k1 => walk_at "sq"); (case k2 => first | assumption | rfl)))
local macro_rules | `(tactic| walk_at "z1") => `(tactic| first
  | with_reducible refine st_and ?_ | with_reducible refine st_or ?_ | with_reducible refine st_andV ?_ | with_reducible refine st_orV ?_ | with_reducible refine st_if ?_
  | ((with_reducible refine' st_len ?k1 ?k2); (case k1 => walk_at "sq"))
  | ((with_reducible refine' st_addL ?k1 ?k2 ?k3 ?k4); (case k1 => walk_at "sq"); (case k2 => walk_at "sq"); (case k3 => walk_at "sz"))
  | ((with_reducible refine' st_addT ?k1 ?k2); (case k1 => walk_at "sz")))
local macro_rules | `(tactic| walk_at "d1") => `(tactic| first | walk_at "b1" | walk_at "z1")
local macro_rules | `(tactic| walk_at "d") => `(tactic| repeat walk_at "d1")

/-! ### texts in rows of texts -/
theorem scs_strs : ∀ l : List Str, scs (l.map D.str) = some (l.map V.str)
  | [] => rfl
  | x :: l => by simp [scs, D.sc, scs_strs l]
theorem inV_strs (a : Str) : ∀ l : List Str, inV (.str a) (l.map V.str) = decide (a ∈ l)
  | [] => rfl
  | x :: l => by
    have ih := inV_strs a l
    unfold inV at ih ⊢
    rw [List.map_cons, List.any_cons, ih]
    show ((x == a) || _) = _
    by_cases h : x = a
    · subst h; simp
    · have h' : ¬ a = x := fun z => h z.symm
      simp [h, h']
theorem st_inT {G : HH} {Q : QD} {a : Str} {y : D} {l : List Str} (h : Sq G y (l.map D.str)) (q : Q (.bl (decide (a ∈ l))) G) : iAny false (.str a) y G Q :=
  .inl ⟨_, _, _, h, rfl, scs_strs l, by rw [if_neg Bool.false_ne_true, inV_strs]; exact q⟩
theorem st_notInT {G : HH} {Q : QD} {a : Str} {y : D} {l : List Str} (h : Sq G y (l.map D.str)) (q : Q (.bl (!decide (a ∈ l))) G) : iAny true (.str a) y G Q :=
  .inl ⟨_, _, _, h, rfl, scs_strs l, by rw [if_pos rfl, inV_strs]; exact q⟩
theorem st_inS1 {G : HH} {Q : QD} {x a0 : Str} (q : Q (.bl (decide (x ∈ ([a0] : List Str)))) G) : iAny false (.str x) (.tup [.str a0]) G Q := st_inT (l := [a0]) (.tup _) q
theorem st_notInS1 {G : HH} {Q : QD} {x a0 : Str} (q : Q (.bl (!decide (x ∈ ([a0] : List Str)))) G) : iAny true (.str x) (.tup [.str a0]) G Q := st_notInT (l := [a0]) (.tup _) q
theorem st_inS2 {G : HH} {Q : QD} {x a0 a1 : Str} (q : Q (.bl (decide (x ∈ ([a0, a1] : List Str)))) G) : iAny false (.str x) (.tup [.str a0, .str a1]) G Q := st_inT (l := [a0, a1]) (.tup _) q
theorem st_notInS2 {G : HH} {Q : QD} {x a0 a1 : Str} (q : Q (.bl (!decide (x ∈ ([a0, a1] : List Str)))) G) : iAny true (.str x) (.tup [.str a0, .str a1]) G Q := st_notInT (l := [a0, a1]) (.tup _) q
theorem st_inS3 {G : HH} {Q : QD} {x a0 a1 a2 : Str} (q : Q (.bl (decide (x ∈ ([a0, a1, a2] : List Str)))) G) : iAny false (.str x) (.tup [.str a0, .str a1, .str a2]) G Q := st_inT (l := [a0, a1, a2]) (.tup _) q
theorem st_notInS3 {G : HH} {Q : QD} {x a0 a1 a2 : Str} (q : Q (.bl (!decide (x ∈ ([a0, a1, a2] : List Str)))) G) : iAny true (.str x) (.tup [.str a0, .str a1, .str a2]) G Q := st_notInT (l := [a0, a1, a2]) (.tup _) q
theorem st_inS4 {G : HH} {Q : QD} {x a0 a1 a2 a3 : Str} (q : Q (.bl (decide (x ∈ ([a0, a1, a2, a3] : List Str)))) G) : iAny false (.str x) (.tup [.str a0, .str a1, .str a2, .str a3]) G Q := st_inT (l := [a0, a1, a2, a3]) (.tup _) q
theorem st_notInS4 {G : HH} {Q : QD} {x a0 a1 a2 a3 : Str} (q : Q (.bl (!decide (x ∈ ([a0, a1, a2, a3] : List Str)))) G) : iAny true (.str x) (.tup [.str a0, .str a1, .str a2, .str a3]) G Q := st_notInT (l := [a0, a1, a2, a3]) (.tup _) q
theorem st_inS5 {G : HH} {Q : QD} {x a0 a1 a2 a3 a4 : Str} (q : Q (.bl (decide (x ∈ ([a0, a1, a2, a3, a4] : List Str)))) G) : iAny false (.str x) (.tup [.str a0, .str a1, .str a2, .str a3, .str a4]) G Q := st_inT (l := [a0, a1, a2, a3, a4]) (.tup _) q
theorem st_notInS5 {G : HH} {Q : QD} {x a0 a1 a2 a3 a4 : Str} (q : Q (.bl (!decide (x ∈ ([a0, a1, a2, a3, a4] : List Str)))) G) : iAny true (.str x) (.tup [.str a0, .str a1, .str a2, .str a3, .str a4]) G Q := st_notInT (l := [a0, a1, a2, a3, a4]) (.tup _) q
theorem st_inS6 {G : HH} {Q : QD} {x a0 a1 a2 a3 a4 a5 : Str} (q : Q (.bl (decide (x ∈ ([a0, a1, a2, a3, a4, a5] : List Str)))) G) : iAny false (.str x) (.tup [.str a0, .str a1, .str a2, .str a3, .str a4, .str a5]) G Q := st_inT (l := [a0, a1, a2, a3, a4, a5]) (.tup _) q
theorem st_notInS6 {G : HH} {Q : QD} {x a0 a1 a2 a3 a4 a5 : Str} (q : Q (.bl (!decide (x ∈ ([a0, a1, a2, a3, a4, a5] : List Str)))) G) : iAny true (.str x) (.tup [.str a0, .str a1, .str a2, .str a3, .str a4, .str a5]) G Q := st_notInT (l := [a0, a1, a2, a3, a4, a5]) (.tup _) q
/-! ### trait sets -/
def WDS : List Str := ["odd", "two", "still", "merge"]
abbrev v_WORDS : D := .tup (WDS.map D.str)
def wsOf (ws : List Str) : List Str := WDS.filter fun w => decide (w ∈ ws) || (decide (w = "still") && decide (("merge" : Str) ∈ ws))
/-- the object of a trait set -/
abbrev trO (held : List Str) : D := .obj "Traits" ["held"] [.tup (held.map D.str)]
/-- the word at fault -/
def badOf (ws : List Str) : Option Str := match ws.find? fun w => !decide (w ∈ WDS) with
  | some w => some w
  | none => if ("merge" : Str) ∈ ws ∧ ("two" : Str) ∈ ws then some ("merge" : Str) else none

/-! more short ways -/
local macro_rules | `(tactic| walk_at "d1") => `(tactic| first | walk_at "b1" | walk_at "x1" | walk_at "z1")
local macro_rules | `(tactic| walk_at "ev") => `(tactic| (intro Qe Ee qe; (repeat walk_at "d1"); exact qe))
local macro_rules | `(tactic| walk_at "evh") => `(tactic| (intro he Qe Ee qe; (repeat walk_at "d1"); exact qe))
local macro_rules | `(tactic| walk_at "x1") => `(tactic| first
  | ((with_reducible refine' st_andE ?w1 ?w2 ?w3); (case w1 => walk_at "ev"); (case w2 => walk_at "evh"))
  | ((with_reducible refine' st_orE ?w1 ?w2 ?w3); (case w1 => walk_at "ev"); (case w2 => walk_at "evh"))
  | ((with_reducible refine' st_andVE ?w1 ?w2 ?w3); (case w1 => walk_at "ev"); (case w2 => walk_at "evh"))
  | ((with_reducible refine' st_orVE ?w1 ?w2 ?w3); (case w1 => walk_at "ev"); (case w2 => walk_at "evh"))
  | ((with_reducible refine' st_ifE D.int ?w1 ?w2 ?w3 ?w4); (case w1 => walk_at "ev"); (case w2 => walk_at "evh"); (case w3 => walk_at "evh"))
  | ((with_reducible refine' st_ifE D.str ?w1 ?w2 ?w3 ?w4); (case w1 => walk_at "ev"); (case w2 => walk_at "evh"); (case w3 => walk_at "evh"))
  | ((with_reducible refine' st_ifE D.bl ?w1 ?w2 ?w3 ?w4); (case w1 => walk_at "ev"); (case w2 => walk_at "evh"); (case w3 => walk_at "evh"))
  | ((with_reducible refine' st_ifE D.tup ?w1 ?w2 ?w3 ?w4); (case w1 => walk_at "ev"); (case w2 => walk_at "evh"); (case w3 => walk_at "evh"))
  | ((with_reducible refine' st_addLm ?w1 ?w2); (case w1 => walk_at "sz"))
  | ((with_reducible refine' st_addTm ?w1 ?w2); (case w1 => walk_at "sz"))
  | with_reducible refine st_lenLm ?_ | with_reducible refine st_lenTm ?_ | with_reducible refine st_lenWm ?_ | with_reducible refine st_tyS ?_ | with_reducible refine st_strq ?_ | walk_at "isi"
  | ((with_reducible refine' st_chainE ?w1 ?w2 ?w3 ?w4 ?w5 ?w6); (case w1 => walk_at "ev"); (case w2 => walk_at "ev"); (case w3 => walk_at "ev"); (case w4 => (intro Qe qe; walk_at "d1"; exact qe)); (case w5 => (intro he Qe qe; walk_at "d1"; exact qe))) | with_reducible refine st_neLI ?_ | with_reducible refine st_eqLI ?_ | with_reducible refine st_bits ?_ | with_reducible refine st_callV ?_ | with_reducible refine st_new ?_ | with_reducible refine st_insQ ?_ | with_reducible refine st_methV ?_ | with_reducible refine st_mkK ?_
  | with_reducible refine st_mulB ?_ | with_reducible refine st_reprB ?_ | ((with_reducible refine' st_reprI ?w1 ?w2); (case w1 => omega))
  | ((with_reducible refine' st_inT ?w1 ?w2); (case w1 => walk_at "sq"))
  | ((with_reducible refine' st_notInT ?w1 ?w2); (case w1 => walk_at "sq")))
local macro_rules | `(tactic| walk_at "x1") => `(tactic| first | with_reducible refine st_prs ?_ | with_reducible refine st_eqB ?_ | with_reducible refine st_neB ?_ | with_reducible refine st_prn ?_ | with_reducible refine st_methVK ?_)
local macro_rules | `(tactic| walk_at "x1") => `(tactic| first | with_reducible refine st_ne00 ?_ | with_reducible refine st_eq00 ?_)
local macro_rules | `(tactic| walk_at "x1") => `(tactic| first | with_reducible refine st_inS1 ?_ | with_reducible refine st_notInS1 ?_ | with_reducible refine st_inS2 ?_ | with_reducible refine st_notInS2 ?_ | with_reducible refine st_inS3 ?_ | with_reducible refine st_notInS3 ?_ | with_reducible refine st_inS4 ?_ | with_reducible refine st_notInS4 ?_ | with_reducible refine st_inS5 ?_ | with_reducible refine st_notInS5 ?_ | with_reducible refine st_inS6 ?_ | with_reducible refine st_notInS6 ?_)
local macro_rules | `(tactic| walk_at "ok") => `(tactic| first | exact fun _ _ _ => trivial | exact fun _ _ _ => LsW.lst _ | exact fun _ _ _ => LsW.wls _ | exact fun _ _ hp => ok_put hp (by walk_at "sq"))
local macro_rules | `(tactic| walk_at "put1") => `(tactic| (refine ⟨_, rfl, ?_⟩; dsimp only [wipeD, Tgt.put, putL, Option.bind, List.set]))
local macro_rules | `(tactic| walk_at "el") => `(tactic| (intro ea eha ep eacc ehp; walk_at "put1"; walk_at "ev"))
local macro_rules | `(tactic| walk_at "el2") => `(tactic| (intro ea eha ep eacc ehp; walk_at "put1"; (refine' ⟨?wa, ?wb⟩); (case wa => walk_at "ev"); (case wb => walk_at "evh")))
local macro_rules | `(tactic| walk_at "lc") => `(tactic| first
  | ((with_reducible refine' lc_evYK D.str ?w1 ?w2 ?w3 ?w4); (case w1 => walk_at "ok"); (case w2 => walk_at "sz"); (case w3 => walk_at "el"))
  | ((with_reducible refine' lc_evYK D.bl ?w1 ?w2 ?w3 ?w4); (case w1 => walk_at "ok"); (case w2 => walk_at "sz"); (case w3 => walk_at "el"))
  | ((with_reducible refine' lc_evYK D.int ?w1 ?w2 ?w3 ?w4); (case w1 => walk_at "ok"); (case w2 => walk_at "sz"); (case w3 => walk_at "el"))
  | ((with_reducible refine' lc_evY ?w1 ?w2 ?w3 ?w4); (case w1 => walk_at "ok"); (case w2 => walk_at "sz"); (case w3 => walk_at "el"))
  | ((with_reducible refine' lc_evK D.str ?w1 ?w2 ?w3 ?w4); (case w1 => walk_at "ok"); (case w2 => walk_at "sz"); (case w3 => walk_at "el2"))
  | ((with_reducible refine' lc_evK D.bl ?w1 ?w2 ?w3 ?w4); (case w1 => walk_at "ok"); (case w2 => walk_at "sz"); (case w3 => walk_at "el2"))
  | ((with_reducible refine' lc_evK D.int ?w1 ?w2 ?w3 ?w4); (case w1 => walk_at "ok"); (case w2 => walk_at "sz"); (case w3 => walk_at "el2"))
  | ((with_reducible refine' lc_ev ?w1 ?w2 ?w3 ?w4); (case w1 => walk_at "ok"); (case w2 => walk_at "sz"); (case w3 => walk_at "el2")))
local macro_rules | `(tactic| walk_at "lcs") => `(tactic| first
  | refine lc_of [_, _, _, _] D.str rfl ?_ | refine lc_of [_, _] D.str rfl ?_ | refine lc_of [_, _, _] D.str rfl ?_ | refine lc_of [_] D.str rfl ?_
  | refine lc_of [_, _, _, _] D.int rfl ?_ | refine lc_of [_, _] D.int rfl ?_ | refine lc_of [_, _, _] D.int rfl ?_ | refine lc_of [_] D.int rfl ?_ | with_reducible refine lc_rg ?_)
local macro_rules | `(tactic| walk_at "x1") => `(tactic| ((with_reducible refine lc_mark ?_); first
  | walk_at "lc" | (walk_at "lcs"; walk_at "lc")); (try simp only [List.map_id']))
local macro_rules | `(tactic| walk_at "isi") => `(tactic| ((with_reducible refine st_isim ?_); first
  | ((with_reducible refine' st_isiI (b := true) ?w1 ?w2); (case w1 => with_unfolding_all rfl))
  | ((with_reducible refine' st_isiB (b := true) ?w1 ?w2); (case w1 => with_unfolding_all rfl))
  | ((with_reducible refine' st_isiS (b := true) ?w1 ?w2); (case w1 => with_unfolding_all rfl))
  | ((with_reducible refine' st_isiN (b := true) ?w1 ?w2); (case w1 => with_unfolding_all rfl))
  | ((with_reducible refine' st_isiT (b := true) ?w1 ?w2); (case w1 => with_unfolding_all rfl))
  | ((with_reducible refine' st_isiL (b := true) ?w1 ?w2); (case w1 => with_unfolding_all rfl))
  | ((with_reducible refine' st_isiI (b := false) ?w1 ?w2); (case w1 => with_unfolding_all rfl))
  | ((with_reducible refine' st_isiB (b := false) ?w1 ?w2); (case w1 => with_unfolding_all rfl))
  | ((with_reducible refine' st_isiS (b := false) ?w1 ?w2); (case w1 => with_unfolding_all rfl))
  | ((with_reducible refine' st_isiN (b := false) ?w1 ?w2); (case w1 => with_unfolding_all rfl))
  | ((with_reducible refine' st_isiT (b := false) ?w1 ?w2); (case w1 => with_unfolding_all rfl))
  | ((with_reducible refine' st_isiL (b := false) ?w1 ?w2); (case w1 => with_unfolding_all rfl))))
-- the start of a walk: walk_at "go NAME"
local macro_rules | `(tactic| walk_at $s:str) => do
  let t := s.getString
  if t.startsWith "go " then
    let x := (t.drop 3).toString
    let a := Lean.mkIdent (Lean.Name.mkSimple ("t_" ++ x))
    let n := Lean.mkIdent (Lean.Name.mkSimple ("N_" ++ x))
    `(tactic| (simp only [startD, $n:ident, List.map_cons, List.map_nil, List.length_cons, List.length_nil, List.cons_append, List.nil_append, List.replicate, Nat.reduceAdd, Nat.reduceSub]; unfold $a; walk_at "d"))
  else if t.startsWith "gi " then
    let x := (t.drop 3).toString
    let a := Lean.mkIdent (Lean.Name.mkSimple ("t_" ++ x))
    let n := Lean.mkIdent (Lean.Name.mkSimple ("N_" ++ x))
    `(tactic| (simp only [startD, $n:ident, List.map_cons, List.map_nil, List.length_cons, List.length_nil, List.cons_append, List.nil_append, List.replicate, Nat.reduceAdd, Nat.reduceSub]; unfold $a; walk_at "di"))
  else Lean.Macro.throwUnsupported
local macro_rules | `(tactic| walk_at "sl") => `(tactic| (dsimp only [setL, List.set]; walk_at "d"))
local macro_rules | `(tactic| walk_at "fin") => `(tactic| refine fin_set rfl ?_)
local macro_rules | `(tactic| walk_at "di") => `(tactic| repeat ((fail_if_success (with_reducible refine st_ifS ?_)); walk_at "d1"))
local macro_rules | `(tactic| walk_at "nope") => `(tactic| refine st_iteF' (by simp [*]) ?_)
local macro_rules | `(tactic| walk_at "yep") => `(tactic| refine st_iteT' (by simp [*]) ?_)

theorem divW {i m : Int} (h0 : 0 < m) (h1 : m < 2 ^ 64) : CDivW i m := wide_div (b := 64) h0 (by omega) (by decide) (by decide)
theorem mulW64 {i j : Int} (h1 : i.natAbs < 2 ^ 64) (h2 : j.natAbs < 2 ^ 64) : CMulX i j := mulx_ok h1 h2 (by decide)

/-! ### drawing: a deck -/
/-- a deck at p, after at most N draws -/
def Feed (G : HH) (p : Addr) (N : Nat) : Prop := ∃ (cells : List Int) (k x n : Int), G p = some (.lst [.lst (cells.map D.int), .int k, .int x, .int n]) ∧ 0 ≤ k ∧ 0 ≤ x ∧ 0 ≤ n ∧ n ≤ (N : Int) ∧ cells.length ≤ 63
theorem Feed.mono {G : HH} {p : Addr} {N M : Nat} (h : Feed G p N) (l : N ≤ M) : Feed G p M := by
  obtain ⟨cs, k, x, n, h1, h2, h3, h4, h5, h6⟩ := h
  exact ⟨cs, k, x, n, h1, h2, h3, h4, by omega, h6⟩
theorem Feed.at {G G' : HH} {p : Addr} {N : Nat} (h : Feed G p N) (e : G' p = G p) : Feed G' p N := by
  obtain ⟨cs, k, x, n, h1, h2⟩ := h
  exact ⟨cs, k, x, n, by rw [e]; exact h1, h2⟩
def N_law_deck : List Str := ["_law_script"]
def t_law_deck : TSD := (dRet (dLstM (dCons (dCB kList (dCons (dSl (dVar 0) dNoPart (dPart (dC (.int 63)))) dNil)) (dCons (dC (.int 0)) (dCons (dC (.int 0)) (dCons (dC (.int 0)) dNil))))))
def sp_law_deck : SpD := fun ds G Q _ => ∃ ns : List Int, ds = [.wls (ns.map D.int)] ∧ ns.length ≤ 63 ∧ ∀ p G', G p = none → Feed G' p 0 → But p G G' → Q (.ref p) G'
theorem len_law_deck : LN sp_law_deck 1 := by rintro ds G Q E ⟨n, rfl, _⟩; rfl
theorem cutD_map {α : Type} {c : α → D} {xs : List α} {lo hi : Option Int} : dcut (xs.map c) lo hi = ((xs.drop (HT.sIx xs.length 0 lo)).take (HT.sIx xs.length xs.length hi - HT.sIx xs.length 0 lo)).map c := by
  unfold dcut
  rw [List.length_map, ← List.map_drop, ← List.map_take]
theorem vc_law_deck : VC sp_law_deck N_law_deck t_law_deck := by
  rintro ds G Q EX ⟨ns, rfl, h1, hq⟩
  walk_at "go law_deck"
  rw [cutD_map]
  have hl : ((ns.drop (HT.sIx ns.length 0 none)).take (HT.sIx ns.length ns.length (some 63) - HT.sIx ns.length 0 none)).length ≤ 63 := by rw [List.length_take, List.length_drop]; omega
  generalize (ns.drop (HT.sIx ns.length 0 none)).take (HT.sIx ns.length ns.length (some 63) - HT.sIx ns.length 0 none) = cs at hl
  walk_at "d"
  intro p hp
  exact hq p _ hp ⟨cs, 0, 0, 0, gput_same, by omega, by omega, by omega, by omega, hl⟩ (But.put But.refl)
def sp_law_draw : SpD := fun ds G Q _ => ∃ (p : Addr) (m : Int) (N : Nat), ds = [.ref p, .int m] ∧ Feed G p N ∧ N ≤ 2 ^ 30 ∧ 0 < m ∧ m < 2 ^ 64 ∧
  ∀ r G', 0 ≤ r → r < m → Feed G' p (N + 1) → But p G G' → Q (.int r) G'
theorem len_law_draw : LN sp_law_draw 2 := by rintro ds G Q E ⟨p, m, N, rfl, _⟩; rfl
def N_law_draw : List Str := ["_law_deck_here", "_law_many", "_law_cell", "_law_mixed", "_law_found"]
abbrev t_law_draw_1 : TSD := (dSeq (dAsg (dOp aMod (dCB kInt (dCons (dOp xAny (dVar 0) (dC (.int 2))) dNil)) (dVar 1)) (gdName 4))
  (dSeq (dAsg (dOp aDiv (dOp xAny (dVar 0) (dC (.int 2))) (dVar 1)) (gdSub (dVar 0) (dC (.int 2))))
  (dRet (dVar 4))))
abbrev t_law_draw_2 : TSD := (dAsg (dOp xAny (dOp xAny (dVar 0) (dC (.int 0))) (dOp aMod (dCB kInt (dCons (dOp xAny (dVar 0) (dC (.int 1))) dNil)) (dCB kLen (dCons (dOp xAny (dVar 0) (dC (.int 0))) dNil)))) (gdName 2))
abbrev t_law_draw_3 : TSD := (dSeq (dAsg (dOp aDiv (dCB kAbs (dCons (dVar 2) dNil)) (dVar 1)) (gdSub (dVar 0) (dC (.int 2))))
  (dRet (dOp aMod (dCB kInt (dCons (dCB kAbs (dCons (dVar 2) dNil)) dNil)) (dVar 1))))
abbrev t_law_draw_4 : TSD := (dSeq (dAsg (dOp aMod (dOp aPow (dCB kInt (dCons (dOp aAny (dOp mAny (dVar 3) (dOp aAny (dOp mAny (dC (.int 2)) (dOp xAny (dVar 0) (dC (.int 3)))) (dC (.int 3)))) (dC (.int 7907))) dNil)) (dC (.int 3))) (dC (.int 2147483587))) (gdName 3))
  (dRet (dOp aMod (dOp aDiv (dVar 3) (dC (.int 64))) (dVar 1))))
abbrev t_law_draw_5 : TSD := (dSeq (dAsg (dOp aMod (dOp aPow (dCB kInt (dCons (dOp aAny (dOp aMod (dCB kInt (dCons (dVar 2) dNil)) (dC (.int 2147483629))) (dOp mAny (dC (.int 104723)) (dOp xAny (dVar 0) (dC (.int 3))))) dNil)) (dC (.int 5))) (dC (.int 2147483647))) (gdName 3))
  t_law_draw_4)
abbrev t_law_draw_6 : TSD := (dSeq (dIfS (dAnd (dTest (dOp cGeI (dCB kAbs (dCons (dVar 2) dNil)) (dOp aPow (dC (.int 10)) (dC (.int 18))))) (dTest (dOp cLeI (dOp xAny (dVar 0) (dC (.int 1))) (dCB kLen (dCons (dOp xAny (dVar 0) (dC (.int 0))) dNil)))))
  t_law_draw_3
  dNext)
  t_law_draw_5)
abbrev t_law_draw_7 : TSD := (dSeq (dIfS (dTest (dOp (eAny true) (dOp xAny (dVar 0) (dC (.int 0))) (dLst dNil)))
  t_law_draw_2
  dNext)
  (dSeq (dAsg (dOp aAny (dOp xAny (dVar 0) (dC (.int 1))) (dC (.int 1))) (gdSub (dVar 0) (dC (.int 1))))
  t_law_draw_6))
def t_law_draw : TSD := (dSeq (dAsg (dOp aAny (dOp xAny (dVar 0) (dC (.int 3))) (dC (.int 1))) (gdSub (dVar 0) (dC (.int 3))))
  (dSeq (dIfS (dTest (dOp cGtI (dOp xAny (dVar 0) (dC (.int 2))) (dC (.int 0))))
  t_law_draw_1
  dNext)
  (dSeq (dAsg (dC (.int 31)) (gdName 2))
  t_law_draw_7)))
theorem vc_law_draw : VC sp_law_draw N_law_draw t_law_draw := by
  rintro ds G Q EX ⟨p, m, N, rfl, ⟨cs, k, x, n, hp, hk, hx, hn, hnN, hlen⟩, hN, hm, hm2, hq⟩
  have dm : ∀ z : Int, CDivW z m := fun z => cdiv_bt hm (a := 64) (.of (by omega)) (by decide)
  have done : ∀ (r : Int) (cs' : List Int) (k' x' : Int) (G' : HH), 0 ≤ r → r < m → G' p = some (.lst [.lst (cs'.map D.int), .int k', .int x', .int (n + 1)]) → 0 ≤ k' → 0 ≤ x' → cs'.length ≤ 63 → But p G G' → Q (.int r) G' := fun r cs' k' x' G' h1 h2 h3 h4 h5 h6 h7 =>
    hq r G' h1 h2 ⟨cs', k', x', n + 1, h3, h4, h5, by omega, by omega, h6⟩ h7
  walk_at "go law_draw"
  refine st_ite (fun hx0 => ?_) (fun hx0 => ?_)
  · walk_at "d"
    refine st_oI (dm _) ?_
    walk_at "d"
    exact done _ cs k (x / m) _ (Int.emod_nonneg _ (by omega)) (Int.emod_lt_of_pos _ hm) gput_same hk (Int.ediv_nonneg hx (by omega)) hlen (But.put (But.put But.refl))
  walk_at "di"
  refine st_cut [2] (fun vs G' => ∃ c : Int, vs = [some (.int c)] ∧ G' p = some (.lst [.lst (cs.map D.int), .int k, .int x, .int (n + 1)]) ∧ But p G G') (fun nx' hn => ?_) ?_
  · walk_at "d"
    cases hcs : cs with
    | nil =>
      subst hcs
      walk_at "d"
      exact cut_fin hn rfl ⟨_, rfl, gput_same, But.put But.refl⟩
    | cons c0 cr =>
      rw [← hcs]
      have hl0 : 0 < cs.length := by rw [hcs]; simp
      walk_at "d"
      rw [show (!cs.isEmpty) = true by rw [hcs]; rfl]
      walk_at "d"
      have h1 := Int.emod_nonneg k (show (cs.length : Int) ≠ 0 by omega)
      have h2 := Int.emod_lt_of_pos k (show (0 : Int) < (cs.length : Int) by omega)
      obtain ⟨j, ej, hj⟩ : ∃ j : Nat, k % (cs.length : Int) = (j : Int) ∧ j < cs.length := ⟨(k % (cs.length : Int)).toNat, by omega, by omega⟩
      refine st_ix (Sq.lst _) (atI_of (x := D.int cs[j]) ej (by rw [List.getElem?_map, List.getElem?_eq_getElem hj]; rfl)) ?_
      walk_at "d"
      exact cut_fin hn rfl ⟨_, rfl, gput_same, But.put But.refl⟩
  · rintro vs G1 ⟨c, rfl, hG, hB⟩
    walk_at "sl"
    refine st_iteB (fun _ => ?_) (fun _ => ?_)
    · walk_at "d"
      refine st_oI (dm _) ?_
      walk_at "d"
      exact done _ cs (k + 1) _ _ (Int.emod_nonneg _ (by omega)) (Int.emod_lt_of_pos _ hm) gput_same (by omega) (Int.ediv_nonneg (by omega) (by omega)) hlen (hB.put.put)
    · walk_at "d"
      have a1 := Int.emod_nonneg c (show (2147483629 : Int) ≠ 0 by decide)
      have a2 := Int.emod_lt_of_pos c (show (0 : Int) < 2147483629 by decide)
      refine st_mulI (mulW64 (by omega) (by omega)) ?_
      walk_at "d"
      have b1 := Int.emod_nonneg ((c % 2147483629 + 104723 * (n + 1)) ^ Int.toNat 5) (show (2147483647 : Int) ≠ 0 by decide)
      have b2 := Int.emod_lt_of_pos ((c % 2147483629 + 104723 * (n + 1)) ^ Int.toNat 5) (show (0 : Int) < 2147483647 by decide)
      generalize (c % 2147483629 + 104723 * (n + 1)) ^ Int.toNat 5 % 2147483647 = u at b1 b2
      refine st_mulI (mulW64 (by omega) (by omega)) ?_
      walk_at "d"
      refine st_mulI (mulW64 (by omega) (by omega)) ?_
      walk_at "d"
      have b3 : 0 ≤ u * (2 * (n + 1) + 3) := Int.mul_nonneg b1 (by omega)
      have b4 : u * (2 * (n + 1) + 3) ≤ 2147483646 * (2 * (n + 1) + 3) := Int.mul_le_mul_of_nonneg_right (by omega) (by omega)
      refine st_oI ⟨by decide, by decide, by omega⟩ ?_
      walk_at "d"
      refine st_oI (cdiv_bt (a := 7) (by decide) (.of (by decide)) (by decide)) ?_
      walk_at "d"
      exact done _ cs (k + 1) x _ (Int.emod_nonneg _ (by omega)) (Int.emod_lt_of_pos _ hm) gput_same (by omega) hx hlen (hB.put)

theorem Feed.some {G : HH} {p : Addr} {N : Nat} (h : Feed G p N) : G p ≠ none := by
  obtain ⟨x, cs, k, n, h1, h2⟩ := h
  rw [h1]; simp
theorem Feed.ne {G : HH} {p q : Addr} {N : Nat} (h : Feed G p N) (e : G q = none) : p ≠ q := by
  intro z; exact h.some (z ▸ e)
theorem Feed.put {G : HH} {p q : Addr} {N : Nat} {o : HOD} (h : Feed G p N) (e : p ≠ q) : Feed (gput G q o) p N := h.at (gput_ne e)
theorem Feed.del {G : HH} {p q : Addr} {N : Nat} (h : Feed G p N) (e : p ≠ q) : Feed (gdel G q) p N := h.at (gdel_ne e)
theorem st_draw {G : HH} {Q : QD} {E : ED} {p : Addr} {m : Int} {N : Nat} (h : Feed G p N) (hN : N ≤ 2 ^ 30) (h0 : 0 < m) (h1 : m < 2 ^ 64) (k : ∀ (r : Nat) G', (r : Int) < m → Feed G' p (N + 1) → But p G G' → Q (.int (r : Int)) G') : sp_law_draw [.ref p, .int m] G Q E :=
  ⟨p, m, N, rfl, h, hN, h0, h1, fun r G' r0 r1 hd hb => by
    obtain ⟨j, rfl⟩ := Int.eq_ofNat_of_zero_le r0
    exact k j G' r1 hd hb⟩
/-- a comprehension over a range whose elements are drawn -/
theorem lc_feed {σ : SD} {G : HH} {Q : QD} {J : Nat} {g : Tgt} {te : TED} {vs : List Nat} {p : Addr} {N : Nat} (K : Nat) (P : D → Prop) (hd : Feed G p N) (hl : J ≤ sizeLine)
    (he : ∀ (a : Nat), a < J → ∀ (G' : HH) (M : Nat), Feed G' p M → M + K ≤ N + K * J → (∀ b, b ≠ p → G b ≠ none → G' b = G b) → ∃ σ2, g.put (.int (a : Int)) (wipeD σ vs) = some σ2 ∧
      ∀ Q' : QD, (∀ d G'', P d → Feed G'' p (M + K) → But p G' G'' → Q' d G'') → te σ2 G' Q' (fun _ _ => False))
    (hq : ∀ ds G', ds.length = J → (∀ d ∈ ds, P d) → Feed G' p (N + K * J) → But p G G' → Q (.lst ds) G') : LcG true (rgItems 0 J) okT g dYes te vs σ G Q := by
  have e : rgItems 0 J = (List.range J).map fun a : Nat => D.int (a : Int) := by
    unfold rgItems
    refine List.map_congr_left fun a _ => ?_
    rw [Int.zero_add]
  rw [e]
  refine lc_dr (fun G M => Feed G p M) (fun e h => h.at e) (fun h => h.some) K P hd (fun _ _ => trivial) (by rw [List.length_range]; exact hl) (fun a ha G' M h1 h2 h3 => he a (List.mem_range.mp ha) G' M h1 (by rw [List.length_range] at h2; exact h2) h3) (fun ds G' h1 h2 h3 h4 => hq ds G' (by rw [List.length_range] at h1; exact h1) h2 (by rw [List.length_range] at h3; exact h3) h4)


/-! ### one of some -/
def N_law_one : List Str := ["_law_deck_here", "_law_items"]
def t_law_one : TSD := (dRet (dOp xAny (dVar 1) (dCall sp_law_draw (dCons (dVar 0) (dCons (dCB kLen (dCons (dVar 1) dNil)) dNil)))))
def sp_law_one : SpD := fun ds G Q _ => ∃ (p : Addr) (x : D) (xs : List D) (N : Nat), ds = [.ref p, x] ∧ Feed G p N ∧ N ≤ 2 ^ 30 ∧ 0 < xs.length ∧ xs.length < 2 ^ 60 ∧ (∀ G', But p G G' → Sq G' x xs) ∧
  ∀ d G', d ∈ xs → Feed G' p (N + 1) → But p G G' → Q d G'
theorem len_law_one : ∀ ds G Q E, sp_law_one ds G Q E → ds.length = 2 := by rintro ds G Q E ⟨p, m, N, xs, rfl, _⟩; rfl
theorem vc_law_one : ∀ ds G Q EX, sp_law_one ds G Q EX → t_law_one { nx := fun _ G' => Q .non G', rt := Q, ex := fun x _ G' => EX x G' } (startD N_law_one ds) G := by
  rintro ds G Q EX ⟨p, x, xs, N, rfl, hd, hN, h0, h1, hs, hq⟩
  show t_law_one _ [some (D.ref p), some x] _
  unfold t_law_one
  walk_at "d"
  refine st_len (hs _ But.refl) ?_
  walk_at "d"
  refine ⟨p, xs.length, N, rfl, hd, hN, by omega, by omega, fun r G' r0 r1 hd' hb => ?_⟩
  obtain ⟨j, rfl⟩ := Int.eq_ofNat_of_zero_le r0
  have hj : j < xs.length := by omega
  exact st_ix (hs _ hb) (atI_nat (List.getElem?_eq_getElem hj)) (hq _ _ (List.getElem_mem hj) hd' hb)
theorem st_oneL {G : HH} {Q : QD} {E : ED} {p : Addr} {xs : List D} {N : Nat} (h : Feed G p N) (hN : N ≤ 2 ^ 30) (h0 : 0 < xs.length ∧ xs.length < 2 ^ 60) (k : ∀ d G', d ∈ xs → Feed G' p (N + 1) → But p G G' → Q d G') : sp_law_one [.ref p, .lst xs] G Q E :=
  ⟨p, _, xs, N, rfl, h, hN, h0.1, h0.2, fun _ _ => .lst xs, k⟩
theorem st_oneM {α : Type} {c : α → D} {l : List α} {G : HH} {Q : QD} {E : ED} {p : Addr} {N : Nat} (h : Feed G p N) (hN : N ≤ 2 ^ 30) (h0 : 0 < l.length ∧ l.length < 2 ^ 60) (k : ∀ a G', a ∈ l → Feed G' p (N + 1) → But p G G' → Q (c a) G') : sp_law_one [.ref p, .lst (l.map c)] G Q E :=
  st_oneL h hN (by rw [List.length_map]; exact h0) fun d G' hd h1 h2 => by
    obtain ⟨a, ha, rfl⟩ := List.mem_map.mp hd
    exact k a G' ha h1 h2

/-! ### a size with a sign -/
def sgn (x s : Int) : Int := if x < 0 then 0 - s else s
def sp_signed : SpD := fun ds G Q _ => ∃ x s : Int, ds = [.int x, .int s] ∧ Q (.int (sgn x s)) G
theorem len_signed : LN sp_signed 2 := by rintro ds G Q E ⟨s, w, rfl, _⟩; rfl
def N_signed : List Str := ["number", "size"]
def t_signed : TSD := (dRet (dIf (dTest (dOp cLtI (dVar 0) (dC (.int 0)))) (dOp aSub (dC (.int 0)) (dVar 1)) (dVar 1)))
theorem vc_signed : VC sp_signed N_signed t_signed := by
  rintro ds G Q EX ⟨x, s, rfl, hq⟩
  walk_at "go signed"
  unfold sgn at hq
  simpa using hq
section
variable {G : HH} {Q : QD} {E : ED}
theorem st_signed {x s : Int} (h : Q (.int (sgn x s)) G) : sp_signed [.int x, .int s] G Q E := ⟨x, s, rfl, h⟩
end

/-! ### the roundings to bits -/
abbrev bl (x : Int) : Nat := Builtin.Int.intBits x
theorem bl_le {x : Int} {n : Nat} : x.natAbs < 2 ^ n ↔ bl x ≤ n := ⟨fun h => PyProof.Rows.intBits_le h, fun h => bits_of h⟩
theorem bl_abs (x : Int) : bl (x.natAbs : Int) = bl x := Nat.le_antisymm (bl_le.mp (by rw [Int.natAbs_natCast]; exact bl_le.mpr (Nat.le_refl _))) (bl_le.mp (by have := bl_le.mpr (Nat.le_refl (bl (x.natAbs : Int))); rwa [Int.natAbs_natCast] at this))
theorem bt_bl {b : Nat} {x : Int} (h : Bt b x) : bl x ≤ b := bl_le.mp h.to
/-- the unit of a number of so many bits -/
def unitI (x w : Int) : Int := 2 ^ (bl x - w.toNat)
theorem unitI_pos (x w : Int) : 0 < unitI x w := Int.pow_pos (by decide)
theorem unitI_abs (x w : Int) : unitI (x.natAbs : Int) w = unitI x w := by unfold unitI; rw [bl_abs]
theorem unitI_bt {b : Nat} {x : Int} (h : Bt b x) (w : Int) : Bt (b + 1) (unitI x w) := (bt_two _).mono (by have := bt_bl h; omega)
def many (x u : Int) : Int := (x.natAbs : Int) / u
def rNear (w x : Int) : Int := sgn x ((if 2 * ((x.natAbs : Int) - many x (unitI x w) * unitI x w) > unitI x w ∨ 2 * ((x.natAbs : Int) - many x (unitI x w) * unitI x w) = unitI x w ∧ many x (unitI x w) % 2 = 1 then many x (unitI x w) + 1 else many x (unitI x w)) * unitI x w)
def rCut (w x : Int) : Int := sgn x (many x (unitI x w) * unitI x w)
def rUp (w x : Int) : Int := 0 - (0 - x) / unitI x w * unitI x w
def rDown (w x : Int) : Int := x / unitI x w * unitI x w
def rSticky (w x : Int) : Int := sgn x ((if many x (unitI x w) * unitI x w < (x.natAbs : Int) ∧ many x (unitI x w) % 2 = 0 then many x (unitI x w) + 1 else many x (unitI x w)) * unitI x w)
def sp_unit_of : SpD := fun ds G Q _ => ∃ s w : Int, ds = [.int s, .int w] ∧ 0 ≤ w ∧ w < 100 ∧ Bt 8000 s ∧ Q (.int (unitI s w)) G
theorem len_unit_of : LN sp_unit_of 2 := by rintro ds G Q E ⟨s, w, rfl, _⟩; rfl
def N_unit_of : List Str := ["size", "bits"]
def t_unit_of : TSD := (dRet (dOp aShl (dC (.int 1)) (dCB kMax2 (dCons (dC (.int 0)) (dCons (dOp aSub (dUn bitsI (dVar 0)) (dVar 1)) dNil)))))
theorem vc_unit_of : VC sp_unit_of N_unit_of t_unit_of := by
  rintro ds G Q EX ⟨s, w, rfl, hw, hw2, hs, hq⟩
  walk_at "go unit_of"
  have hb := bt_bl hs
  have e : max (0 : Int) ((bl s : Int) - w) = ((bl s - w.toNat : Nat) : Int) := by omega
  refine st_oI (by rw [e]; exact cshl_bt (a := 1) (.of (by decide)) (by omega)) ?_
  rw [e, Int.one_mul]
  exact hq
section
variable {G : HH} {Q : QD} {E : ED}
theorem st_unit {s w : Int} (hw : 0 ≤ w ∧ w < 100) (hs : Bt 8000 s) (h : Q (.int (unitI s w)) G) : sp_unit_of [.int s, .int w] G Q E := ⟨s, w, rfl, hw.1, hw.2, hs, h⟩
end
/-- a number of bits as a rounding has it -/
abbrev bitO (c : Str) (w : Int) : D := .obj c ["bits"] [.int w]
def spInit (c : Str) : SpD := fun ds G Q _ => ∃ (p : Addr) (w : Int), ds = [.ref p, .int w] ∧ G p = some (.ins c [] []) ∧ Q .non (gput G p (.ins c ["bits"] [.int w]))
def spCall (c : Str) (f : Int → Int → Int) : SpD := fun ds G Q _ => ∃ w x : Int, ds = [bitO c w, .int x] ∧ 1 ≤ w ∧ w ≤ 60 ∧ Bt 7000 x ∧ Q (.int (f w x)) G
theorem len_spInit {c : Str} : LN (spInit c) 2 := by rintro ds G Q E ⟨s, w, rfl, _⟩; rfl
theorem len_spCall {c : Str} {f : Int → Int → Int} : LN (spCall c f) 2 := by rintro ds G Q E ⟨s, w, rfl, _⟩; rfl
theorem many_div (x w : Int) (b : Nat) (h : Bt b x) : Bt b (many x (unitI x w)) := (h.abs).div (unitI_pos x w)
theorem umul (x w : Int) (h : Bt 7000 x) {y : Int} (k : Bt 7010 y) : CMulX y (unitI x w) := cmul_bt k (unitI_bt h w) (by decide)
theorem udiv (x w : Int) (h : Bt 7000 x) (y : Int) : CDivW y (unitI x w) := cdiv_bt (unitI_pos x w) (unitI_bt h w) (by decide)
abbrev sp_Nearest_init : SpD := spInit "Nearest"
abbrev sp_Cut_init : SpD := spInit "Cut"
abbrev sp_Up_init : SpD := spInit "Up"
abbrev sp_Down_init : SpD := spInit "Down"
abbrev sp_Sticky_init : SpD := spInit "Sticky"
theorem len_Nearest_init : LN sp_Nearest_init 2 := len_spInit
theorem len_Cut_init : LN sp_Cut_init 2 := len_spInit
theorem len_Up_init : LN sp_Up_init 2 := len_spInit
theorem len_Down_init : LN sp_Down_init 2 := len_spInit
theorem len_Sticky_init : LN sp_Sticky_init 2 := len_spInit
def N_Nearest_init : List Str := ["self", "bits"]
def t_Nearest_init : TSD := (dSetF ["Nearest"] "bits" (dVar 0) (dVar 1))
def N_Cut_init : List Str := ["self", "bits"]
def t_Cut_init : TSD := (dSetF ["Cut"] "bits" (dVar 0) (dVar 1))
def N_Up_init : List Str := ["self", "bits"]
def t_Up_init : TSD := (dSetF ["Up"] "bits" (dVar 0) (dVar 1))
def N_Down_init : List Str := ["self", "bits"]
def t_Down_init : TSD := (dSetF ["Down"] "bits" (dVar 0) (dVar 1))
def N_Sticky_init : List Str := ["self", "bits"]
def t_Sticky_init : TSD := (dSetF ["Sticky"] "bits" (dVar 0) (dVar 1))
theorem vc_Nearest_init : VC sp_Nearest_init N_Nearest_init t_Nearest_init := by
  rintro ds G Q EX ⟨p, w, rfl, hp, hq⟩
  walk_at "go Nearest_init"
  exact hq
theorem vc_Cut_init : VC sp_Cut_init N_Cut_init t_Cut_init := by
  rintro ds G Q EX ⟨p, w, rfl, hp, hq⟩
  walk_at "go Cut_init"
  exact hq
theorem vc_Up_init : VC sp_Up_init N_Up_init t_Up_init := by
  rintro ds G Q EX ⟨p, w, rfl, hp, hq⟩
  walk_at "go Up_init"
  exact hq
theorem vc_Down_init : VC sp_Down_init N_Down_init t_Down_init := by
  rintro ds G Q EX ⟨p, w, rfl, hp, hq⟩
  walk_at "go Down_init"
  exact hq
theorem vc_Sticky_init : VC sp_Sticky_init N_Sticky_init t_Sticky_init := by
  rintro ds G Q EX ⟨p, w, rfl, hp, hq⟩
  walk_at "go Sticky_init"
  exact hq
abbrev sp_Nearest_call : SpD := spCall "Nearest" rNear
abbrev sp_Cut_call : SpD := spCall "Cut" rCut
abbrev sp_Up_call : SpD := spCall "Up" rUp
abbrev sp_Down_call : SpD := spCall "Down" rDown
abbrev sp_Sticky_call : SpD := spCall "Sticky" rSticky
theorem len_Nearest_call : LN sp_Nearest_call 2 := len_spCall
theorem len_Cut_call : LN sp_Cut_call 2 := len_spCall
theorem len_Up_call : LN sp_Up_call 2 := len_spCall
theorem len_Down_call : LN sp_Down_call 2 := len_spCall
theorem len_Sticky_call : LN sp_Sticky_call 2 := len_spCall
def N_Nearest_call : List Str := ["self", "number", "size", "unit", "many", "rest"]
abbrev t_Nearest_call_1 : TSD := (dSeq (dIfS (dOr (dTest (dOp cGtI (dVar 5) (dVar 3))) (dAnd (dTest (dOp (eAny false) (dVar 5) (dVar 3))) (dTest (dOp (eAny false) (dOp aMod (dVar 4) (dC (.int 2))) (dC (.int 1))))))
  (dAsg (dOp aAny (dVar 4) (dC (.int 1))) (gdName 4))
  dNext)
  (dRet (dCall sp_signed (dCons (dVar 1) (dCons (dOp mAny (dVar 4) (dVar 3)) dNil)))))
abbrev t_Nearest_call_2 : TSD := (dSeq (dAsg (dOp aDiv (dVar 2) (dVar 3)) (gdName 4))
  (dSeq (dAsg (dOp mAny (dC (.int 2)) (dOp aSub (dVar 2) (dOp mAny (dVar 4) (dVar 3)))) (gdName 5))
  t_Nearest_call_1))
def t_Nearest_call : TSD := (dSeq (dAsg (dCB kAbs (dCons (dVar 1) dNil)) (gdName 2))
  (dSeq (dAsg (dCall sp_unit_of (dCons (dVar 2) (dCons (dFld ["Nearest"] "bits" (dVar 0)) dNil))) (gdName 3))
  t_Nearest_call_2))
def N_Cut_call : List Str := ["self", "number", "size", "unit"]
abbrev t_Cut_call_1 : TSD := (dSeq (dAsg (dCall sp_unit_of (dCons (dVar 2) (dCons (dFld ["Cut"] "bits" (dVar 0)) dNil))) (gdName 3))
  (dRet (dCall sp_signed (dCons (dVar 1) (dCons (dOp mAny (dOp aDiv (dVar 2) (dVar 3)) (dVar 3)) dNil)))))
def t_Cut_call : TSD := (dSeq (dAsg (dCB kAbs (dCons (dVar 1) dNil)) (gdName 2))
  t_Cut_call_1)
def N_Up_call : List Str := ["self", "number", "unit"]
def t_Up_call : TSD := (dSeq (dAsg (dCall sp_unit_of (dCons (dCB kAbs (dCons (dVar 1) dNil)) (dCons (dFld ["Up"] "bits" (dVar 0)) dNil))) (gdName 2))
  (dRet (dOp aSub (dC (.int 0)) (dOp mAny (dOp aDiv (dOp aSub (dC (.int 0)) (dVar 1)) (dVar 2)) (dVar 2)))))
def N_Down_call : List Str := ["self", "number", "unit"]
def t_Down_call : TSD := (dSeq (dAsg (dCall sp_unit_of (dCons (dCB kAbs (dCons (dVar 1) dNil)) (dCons (dFld ["Down"] "bits" (dVar 0)) dNil))) (gdName 2))
  (dRet (dOp mAny (dOp aDiv (dVar 1) (dVar 2)) (dVar 2))))
def N_Sticky_call : List Str := ["self", "number", "size", "unit", "many"]
abbrev t_Sticky_call_1 : TSD := (dSeq (dIfS (dAnd (dTest (dOp cLtI (dOp mAny (dVar 4) (dVar 3)) (dVar 2))) (dTest (dOp (eAny false) (dOp aMod (dVar 4) (dC (.int 2))) (dC (.int 0)))))
  (dAsg (dOp aAny (dVar 4) (dC (.int 1))) (gdName 4))
  dNext)
  (dRet (dCall sp_signed (dCons (dVar 1) (dCons (dOp mAny (dVar 4) (dVar 3)) dNil)))))
abbrev t_Sticky_call_2 : TSD := (dSeq (dAsg (dCall sp_unit_of (dCons (dVar 2) (dCons (dFld ["Sticky"] "bits" (dVar 0)) dNil))) (gdName 3))
  (dSeq (dAsg (dOp aDiv (dVar 2) (dVar 3)) (gdName 4))
  t_Sticky_call_1))
def t_Sticky_call : TSD := (dSeq (dAsg (dCB kAbs (dCons (dVar 1) dNil)) (gdName 2))
  t_Sticky_call_2)
theorem vc_Down_call : VC sp_Down_call N_Down_call t_Down_call := by
  rintro ds G Q EX ⟨w, x, rfl, h1, h2, hx, hq⟩
  walk_at "go Down_call"
  refine st_unit ⟨by omega, by omega⟩ (hx.abs.mono (by decide)) ?_
  rw [unitI_abs]
  walk_at "d"
  refine st_oI (udiv x w hx _) ?_
  walk_at "d"
  refine st_mulI (umul x w hx ((hx.div (unitI_pos x w)).mono (by decide))) hq
theorem vc_Up_call : VC sp_Up_call N_Up_call t_Up_call := by
  rintro ds G Q EX ⟨w, x, rfl, h1, h2, hx, hq⟩
  walk_at "go Up_call"
  refine st_unit ⟨by omega, by omega⟩ (hx.abs.mono (by decide)) ?_
  rw [unitI_abs]
  walk_at "d"
  refine st_oI (udiv x w hx _) ?_
  walk_at "d"
  have h0 : Bt 7000 (0 - x) := by rw [Int.zero_sub]; exact hx.neg
  refine st_mulI (umul x w hx ((h0.div (unitI_pos x w)).mono (by decide))) ?_
  walk_at "d"
  exact hq
theorem vc_Cut_call : VC sp_Cut_call N_Cut_call t_Cut_call := by
  rintro ds G Q EX ⟨w, x, rfl, h1, h2, hx, hq⟩
  walk_at "go Cut_call"
  refine st_unit ⟨by omega, by omega⟩ (hx.abs.mono (by decide)) ?_
  rw [unitI_abs]
  walk_at "d"
  refine st_oI (udiv x w hx _) ?_
  walk_at "d"
  refine st_mulI (umul x w hx ((many_div x w _ hx).mono (by decide))) ?_
  walk_at "d"
  exact st_signed hq
theorem vc_Sticky_call : VC sp_Sticky_call N_Sticky_call t_Sticky_call := by
  rintro ds G Q EX ⟨w, x, rfl, h1, h2, hx, hq⟩
  walk_at "go Sticky_call"
  refine st_unit ⟨by omega, by omega⟩ (hx.abs.mono (by decide)) ?_
  rw [unitI_abs]
  walk_at "d"
  refine st_oI (udiv x w hx _) ?_
  have hm := many_div x w _ hx
  walk_at "di"
  refine st_cut [4] (fun vs G' => vs = [some (.int (if many x (unitI x w) * unitI x w < (x.natAbs : Int) ∧ many x (unitI x w) % 2 = 0 then many x (unitI x w) + 1 else many x (unitI x w)))] ∧ G' = G) (fun nx' hn => ?_) ?_
  · refine st_ifS (st_andE (a := decide (many x (unitI x w) * unitI x w < (x.natAbs : Int))) (b := decide (many x (unitI x w) % 2 = 0)) ?_ ?_ ?_)
    · intro Q' E' q'
      walk_at "d"
      refine st_mulI (umul x w hx (hm.mono (by decide))) ?_
      walk_at "d"
      exact q'
    · walk_at "evh"
    · refine st_iteB (fun hb => ?_) (fun hb => ?_)
      · walk_at "d"
        refine cut_fin hn rfl ⟨?_, rfl⟩
        rw [if_pos (by simpa using hb)]
        rfl
      · walk_at "d"
        refine cut_fin hn rfl ⟨?_, rfl⟩
        rw [if_neg (by simpa using hb)]
        rfl
  · rintro vs G1 ⟨rfl, rfl⟩
    have hm2 : Bt 7002 (if many x (unitI x w) * unitI x w < (x.natAbs : Int) ∧ many x (unitI x w) % 2 = 0 then many x (unitI x w) + 1 else many x (unitI x w)) := by
      split
      · exact (hm.add (Bt.of (b := 1) (x := 1) (by decide))).mono (by decide)
      · exact hm.mono (by decide)
    walk_at "sl"
    refine st_mulI (umul x w hx (hm2.mono (by decide))) ?_
    walk_at "d"
    exact st_signed hq
theorem vc_Nearest_call : VC sp_Nearest_call N_Nearest_call t_Nearest_call := by
  rintro ds G Q EX ⟨w, x, rfl, h1, h2, hx, hq⟩
  walk_at "go Nearest_call"
  refine st_unit ⟨by omega, by omega⟩ (hx.abs.mono (by decide)) ?_
  rw [unitI_abs]
  walk_at "d"
  refine st_oI (udiv x w hx _) ?_
  have hm := many_div x w _ hx
  walk_at "d"
  refine st_mulI (umul x w hx (hm.mono (by decide))) ?_
  walk_at "d"
  have hu := unitI_bt hx w
  refine st_mulI (cmul_bt (Bt.of (b := 2) (x := 2) (by decide)) (hx.abs.sub (hm.mul hu)) (by decide)) ?_
  walk_at "di"
  refine st_cut [4] (fun vs G' => vs = [some (.int (if 2 * ((x.natAbs : Int) - many x (unitI x w) * unitI x w) > unitI x w ∨ 2 * ((x.natAbs : Int) - many x (unitI x w) * unitI x w) = unitI x w ∧ many x (unitI x w) % 2 = 1 then many x (unitI x w) + 1 else many x (unitI x w)))] ∧ G' = G) (fun nx' hn => ?_) ?_
  · walk_at "d"
    refine st_iteB (fun hb => ?_) (fun hb => ?_)
    · walk_at "d"
      refine cut_fin hn rfl ⟨?_, rfl⟩
      rw [if_pos (by simpa [many] using hb)]
      rfl
    · walk_at "d"
      refine cut_fin hn rfl ⟨?_, rfl⟩
      rw [if_neg (by simpa [many] using hb)]
      rfl
  · rintro vs G1 ⟨rfl, rfl⟩
    have hm2 : Bt 7002 (if 2 * ((x.natAbs : Int) - many x (unitI x w) * unitI x w) > unitI x w ∨ 2 * ((x.natAbs : Int) - many x (unitI x w) * unitI x w) = unitI x w ∧ many x (unitI x w) % 2 = 1 then many x (unitI x w) + 1 else many x (unitI x w)) := by
      split
      · exact (hm.add (Bt.of (b := 1) (x := 1) (by decide))).mono (by decide)
      · exact hm.mono (by decide)
    walk_at "sl"
    refine st_mulI (umul x w hx (hm2.mono (by decide))) ?_
    walk_at "d"
    exact st_signed hq

/-! ### numbers that the law draws -/
theorem st_drawI {G : HH} {Q : QD} {E : ED} {p : Addr} {m : Int} {N : Nat} (h : Feed G p N) (hN : N ≤ 2 ^ 30) (h0 : 0 < m ∧ m < 2 ^ 64) (k : ∀ (r : Int) G', 0 ≤ r → r < m → Feed G' p (N + 1) → But p G G' → Q (.int r) G') : sp_law_draw [.ref p, .int m] G Q E :=
  ⟨p, m, N, rfl, h, hN, h0.1, h0.2, k⟩
def sp_law_sum : SpD := fun ds G Q _ => ∃ (p : Addr) (k N : Nat), ds = [.ref p, .int (k : Int)] ∧ k ≤ 1000 ∧ Feed G p N ∧ N ≤ 2 ^ 29 ∧ ∀ (r : Int) G', 0 ≤ r → Bt (20 * k) r → Feed G' p (N + k) → But p G G' → Q (.int r) G'
theorem len_law_sum : LN sp_law_sum 2 := by rintro ds G Q E ⟨p, k, N, rfl, _⟩; rfl
def N_law_sum : List Str := ["_law_deck_here", "_law_places", "_law_found", "_law_turn"]
abbrev t_law_sum_1 : TSD := (dSeq (dFor (iRngD1 (dCons (dVar 1) dNil)) (gdName 3)
  (dAsg (dOp aAny (dOp mAny (dVar 2) (dC (.int 1000000))) (dCall sp_law_draw (dCons (dVar 0) (dCons (dC (.int 1000000)) dNil)))) (gdName 2)))
  (dRet (dVar 2)))
def t_law_sum : TSD := (dSeq (dAsg (dC (.int 0)) (gdName 2))
  t_law_sum_1)
theorem sum_step {i : Nat} {f d : Int} (h0 : 0 ≤ f) (h : Bt (20 * i) f) (d0 : 0 ≤ d) (d1 : d < 1000000) : Bt (20 * (i + 1)) (f * 1000000 + d) := by
  have h := h.to
  refine .of ?_
  rw [Nat.mul_add, Nat.pow_add]
  generalize 2 ^ (20 * i) = B at *
  have e : 2 ^ (20 * 1) = 1048576 := by decide
  rw [e]
  omega
theorem vc_law_sum : VC sp_law_sum N_law_sum t_law_sum := by
  rintro ds G Q EX ⟨p, k, N, rfl, hk, hF, hN, hq⟩
  walk_at "go law_sum"
  refine for_rng_set (n := k) [2, 3] (fun i vs G' => (∃ f v, vs = [some (.int f), v] ∧ 0 ≤ f ∧ Bt (20 * i) f) ∧ Feed G' p (N + i) ∧ But p G G') rfl ⟨⟨0, _, rfl, by omega, .of (by decide)⟩, hF, .refl⟩ ?_ ?_
  · rintro i vs G1 hi ⟨⟨f, v, rfl, hf0, hf⟩, hF1, hB1⟩
    walk_at "sl"
    refine st_mulI (cmul_bt hf (Bt.of (b := 20) (x := 1000000) (by decide)) (by omega)) ?_
    walk_at "d"
    refine st_drawI hF1 (by omega) (by decide) fun r G2 r0 r1 hF2 hB2 => ?_
    walk_at "d"
    walk_at "fin"
    exact ⟨⟨_, _, rfl, by omega, sum_step hf0 hf r0 r1⟩, hF2, hB1.trans hB2⟩
  · rintro vs G1 ⟨⟨f, v, rfl, hf0, hf⟩, hF1, hB1⟩
    walk_at "sl"
    exact hq _ _ hf0 hf hF1 hB1
def sp_law_bits : SpD := fun ds G Q _ => ∃ (p : Addr) (N : Nat), ds = [.ref p] ∧ Feed G p N ∧ N ≤ 2 ^ 29 ∧ ∀ (w : Int) G', 1 ≤ w → w ≤ 60 → Feed G' p (N + 3) → But p G G' → Q (.int w) G'
theorem len_law_bits : LN sp_law_bits 1 := by rintro ds G Q E ⟨p, N, rfl, _⟩; rfl
def N_law_bits : List Str := ["_law_deck_here"]
def t_law_bits : TSD := (dRet (dOp aAny (dC (.int 1)) (dOp xAny (dLst (dCons (dC (.int 0)) (dCons (dC (.int 59)) (dCons (dCall sp_law_draw (dCons (dVar 0) (dCons (dC (.int 60)) dNil))) (dCons (dCall sp_law_draw (dCons (dVar 0) (dCons (dC (.int 8)) dNil))) dNil))))) (dCall sp_law_draw (dCons (dVar 0) (dCons (dC (.int 4)) dNil))))))
theorem vc_law_bits : VC sp_law_bits N_law_bits t_law_bits := by
  rintro ds G Q EX ⟨p, N, rfl, hF, hN, hq⟩
  walk_at "go law_bits"
  refine st_drawI hF (by omega) (by decide) fun a G1 a0 a1 hF1 hB1 => ?_
  walk_at "d"
  refine st_drawI hF1 (by omega) (by decide) fun b G2 b0 b1 hF2 hB2 => ?_
  walk_at "d"
  refine st_draw hF2 (by omega) (by decide) (by decide) fun r G3 hr hF3 hB3 => ?_
  have hB := (hB1.trans hB2).trans hB3
  match r, hr with
  | 0, _ => walk_at "d"; exact hq _ _ (by omega) (by omega) hF3 hB
  | 1, _ => walk_at "d"; exact hq _ _ (by omega) (by omega) hF3 hB
  | 2, _ => walk_at "d"; exact hq _ _ (by omega) (by omega) hF3 hB
  | 3, _ => walk_at "d"; exact hq _ _ (by omega) (by omega) hF3 hB

def sp_law_near : SpD := fun ds G Q _ => ∃ (p : Addr) (w : Int) (N : Nat), ds = [.ref p, .int w] ∧ 1 ≤ w ∧ w ≤ 60 ∧ Feed G p N ∧ N ≤ 2 ^ 27 ∧ ∀ (x : Int) G', Bt 300 x → Feed G' p (N + 40) → But p G G' → Q (.int x) G'
theorem len_law_near : LN sp_law_near 2 := by rintro ds G Q E ⟨p, w, N, rfl, _⟩; rfl
def N_law_near : List Str := ["_law_deck_here", "_law_width", "_law_half", "_law_far", "_law_number", "_law_way", "_law_unit", "_law_step"]
abbrev t_law_near_1 : TSD := (dSeq (dAsg (dOp xAny (dLst (dCons (dCall sp_law_draw (dCons (dVar 0) (dCons (dC (.int 300)) dNil))) (dCons (dOp aAny (dOp mAny (dVar 6) (dOp aShl (dC (.int 1)) (dVar 1))) (dVar 7)) (dCons (dOp mAny (dVar 6) (dVar 2)) (dCons (dOp aAny (dOp mAny (dVar 6) (dVar 2)) (dVar 7)) (dCons (dVar 3) dNil)))))) (dVar 5)) (gdName 4))
  (dRet (dIf (dTest (dOp (eAny false) (dCall sp_law_draw (dCons (dVar 0) (dCons (dC (.int 2)) dNil))) (dC (.int 0)))) (dVar 4) (dOp aSub (dC (.int 0)) (dVar 4)))))
abbrev t_law_near_2 : TSD := (dSeq (dAsg (dOp aAny (dOp mAny (dC (.int 2)) (dOp aSub (dOp aSub (dOp aShl (dC (.int 1)) (dVar 1)) (dC (.int 1))) (dOp aMod (dCB kInt (dCons (dCall sp_law_sum (dCons (dVar 0) (dCons (dC (.int 4)) dNil))) dNil)) (dOp aShl (dC (.int 1)) (dOp aSub (dVar 1) (dC (.int 1))))))) (dC (.int 1))) (gdName 2))
  (dSeq (dAsg (dCall sp_law_sum (dCons (dVar 0) (dCons (dCall sp_law_draw (dCons (dVar 0) (dCons (dC (.int 10)) dNil))) dNil))) (gdName 3))
  t_law_near_1))
def t_law_near : TSD := (dSeq (dPar3 5 6 7 (dCons (dCall sp_law_draw (dCons (dVar 0) (dCons (dC (.int 5)) dNil))) (dCons (dOp aShl (dC (.int 1)) (dCall sp_law_draw (dCons (dVar 0) (dCons (dC (.int 80)) dNil)))) (dCons (dOp aSub (dCall sp_law_draw (dCons (dVar 0) (dCons (dC (.int 5)) dNil))) (dC (.int 2))) dNil))))
  t_law_near_2)
theorem vc_law_near : VC sp_law_near N_law_near t_law_near := by
  rintro ds G Q EX ⟨p, w, N, rfl, hw1, hw2, hF, hN, hq⟩
  obtain ⟨n, rfl⟩ := Int.eq_ofNat_of_zero_le (show 0 ≤ w by omega)
  walk_at "go law_near"
  refine st_drawI hF (by omega) (by decide) fun way G1 way0 way1 hF1 hB1 => ?_
  walk_at "d"
  refine st_draw hF1 (by omega) (by decide) (by decide) fun sh G2 hsh hF2 hB2 => ?_
  walk_at "d"
  have one : Bt 1 (1 : Int) := .of (by decide)
  refine st_oI (cshl_bt one (by omega)) ?_
  walk_at "d"
  refine st_drawI hF2 (by omega) (by decide) fun st G3 st0 st1 hF3 hB3 => ?_
  walk_at "d"
  refine st_oI (cshl_bt one (by omega)) ?_
  walk_at "d"
  refine ⟨p, 4, _, rfl, by decide, hF3, by omega, fun s G4 s0 hs hF4 hB4 => ?_⟩
  walk_at "d"
  have en : ((n : Int) - 1) = ((n - 1 : Nat) : Int) := by omega
  rw [en]
  refine st_oI (cshl_bt one (by omega)) ?_
  rw [Int.toNat_natCast, Int.one_mul, Int.one_mul, Int.toNat_natCast]
  have up : (0 : Int) < 2 ^ (n - 1) := Int.pow_pos (by decide)
  refine st_oI up ?_
  have hm : Bt 62 (s % 2 ^ (n - 1)) := (Bt.mod up (bt_two (n - 1))).mono (by omega)
  have h2n : Bt 62 ((2 : Int) ^ n) := (bt_two n).mono (by omega)
  walk_at "d"
  have hh : Bt 65 ((2 : Int) ^ n - 1 - s % 2 ^ (n - 1)) := ((h2n.sub one).sub hm).mono (by decide)
  have two : Bt 2 (2 : Int) := .of (by decide)
  refine st_mulI (cmul_bt two hh (by decide)) ?_
  walk_at "d"
  have hhalf : Bt 70 (2 * ((2 : Int) ^ n - 1 - s % 2 ^ (n - 1)) + 1) := ((two.mul hh).add one).mono (by decide)
  generalize 2 * ((2 : Int) ^ n - 1 - s % 2 ^ (n - 1)) + 1 = half at hhalf
  refine st_draw hF4 (by omega) (by decide) (by decide) fun k G5 hk hF5 hB5 => ?_
  walk_at "d"
  refine ⟨p, k, _, rfl, by omega, hF5, by omega, fun far G6 far0 hfar hF6 hB6 => ?_⟩
  walk_at "d"
  refine st_drawI hF6 (by omega) (by decide) fun little G7 l0 l1 hF7 hB7 => ?_
  walk_at "d"
  refine st_oI (cshl_bt one (by omega)) ?_
  rw [Int.toNat_natCast, Int.one_mul, Int.toNat_natCast, Int.one_mul]
  have hu : Bt 81 ((2 : Int) ^ sh) := (bt_two sh).mono (by omega)
  have hst : Bt 3 (st - 2) := .of (by omega)
  refine st_mulI (cmul_bt hu h2n (by decide)) ?_
  walk_at "d"
  refine st_mulI (cmul_bt hu hhalf (by decide)) ?_
  walk_at "d"
  refine st_mulI (cmul_bt hu hhalf (by decide)) ?_
  walk_at "d"
  have hB := (((((hB1.trans hB2).trans hB3).trans hB4).trans hB5).trans hB6).trans hB7
  have pick : ∃ x : Int, atI [D.int little, D.int (2 ^ sh * 2 ^ n + (st - 2)), D.int (2 ^ sh * half), D.int (2 ^ sh * half + (st - 2)), D.int far] way = some (D.int x) ∧ Bt 290 x := by
    have c : way = 0 ∨ way = 1 ∨ way = 2 ∨ way = 3 ∨ way = 4 := by omega
    rcases c with rfl | rfl | rfl | rfl | rfl
    · exact ⟨_, rfl, (Bt.of (b := 20) (by omega)).mono (by decide)⟩
    · exact ⟨_, rfl, ((hu.mul h2n).add hst).mono (by decide)⟩
    · exact ⟨_, rfl, (hu.mul hhalf).mono (by decide)⟩
    · exact ⟨_, rfl, ((hu.mul hhalf).add hst).mono (by decide)⟩
    · exact ⟨_, rfl, hfar.mono (by omega)⟩
  obtain ⟨x, hx, hxb⟩ := pick
  refine st_ix (Sq.lst _) hx ?_
  walk_at "d"
  refine st_drawI hF7 (by omega) (by decide) fun b G9 b0 b1 hF9 hB9 => ?_
  walk_at "d"
  refine st_ite (fun hb => ?_) (fun hb => ?_)
  · walk_at "d"
    exact hq _ _ (hxb.mono (by decide)) (hF9.mono (by omega)) (hB.trans hB9)
  · walk_at "d"
    exact hq _ _ ((by rw [Int.zero_sub]; exact hxb.neg.mono (by decide))) (hF9.mono (by omega)) (hB.trans hB9)

theorem ints_of {P : Int → Prop} : ∀ {ds : List D}, (∀ d ∈ ds, ∃ w, d = D.int w ∧ P w) → ∃ ws : List Int, ds = ws.map D.int ∧ ∀ w ∈ ws, P w
  | [], _ => ⟨[], rfl, by simp⟩
  | d :: ds, h => by
    obtain ⟨w, rfl, hw⟩ := h d (by simp)
    obtain ⟨ws, rfl, hws⟩ := ints_of (ds := ds) fun e he => h e (by simp [he])
    refine ⟨w :: ws, rfl, fun z hz => ?_⟩
    rcases List.mem_cons.mp hz with rfl | hz
    · exact hw
    · exact hws z hz

/-- what is due -/
def rOf (k : Str) (w x : Int) : Int := if k = "Nearest" then rNear w x else if k = "Cut" then rCut w x else if k = "Up" then rUp w x else if k = "Down" then rDown w x else rSticky w x
def KNDS : List Str := ["Nearest", "Cut", "Up", "Down", "Sticky"]
/-- floor and rest of a number and of its opposite -/
theorem parts {x u : Int} (h : 0 < u) : ∃ q r p : Int, x / u = q ∧ q * u = p ∧ x = p + r ∧ 0 ≤ r ∧ r < u ∧ (0 ≤ x → (x.natAbs : Int) / u = q) ∧ (x < 0 → (x.natAbs : Int) / u = if r = 0 then -q else -q - 1) ∧ (0 - x) / u = (if r = 0 then -q else -q - 1) := by
  have e := Int.emod_add_mul_ediv x u
  have r0 := Int.emod_nonneg x (show u ≠ 0 by omega)
  have r1 := Int.emod_lt_of_pos x h
  have neg : (0 - x) / u = (if x % u = 0 then -(x / u) else -(x / u) - 1) := by
    split
    · rename_i hz
      refine ((Int.ediv_emod_unique h (q := -(x / u)) (r := 0)).mpr ⟨?_, by omega, by omega⟩).1
      rw [Int.mul_neg]; omega
    · rename_i hz
      refine ((Int.ediv_emod_unique h (q := -(x / u) - 1) (r := u - x % u)).mpr ⟨?_, by omega, by omega⟩).1
      rw [Int.mul_sub, Int.mul_neg, Int.mul_one]; omega
  refine ⟨x / u, x % u, x / u * u, rfl, rfl, by rw [Int.mul_comm]; omega, r0, r1, fun hx => ?_, fun hx => ?_, neg⟩
  · rw [show (x.natAbs : Int) = x by omega]
  · rw [show (x.natAbs : Int) = 0 - x by omega]; exact neg
theorem due_same (w x : Int) (h : x / unitI x w * unitI x w = x) : rNear w x = x ∧ rCut w x = x ∧ rUp w x = x ∧ rSticky w x = x := by
  have hu := unitI_pos x w
  unfold rNear rCut rUp rSticky many sgn
  generalize unitI x w = u at *
  obtain ⟨q, r, p, e1, e2, e3, r0, r1, ep, en, eo⟩ := parts (x := x) hu
  rw [e1, e2] at h
  have hr : r = 0 := by omega
  rw [if_pos hr] at en eo
  rw [eo]
  by_cases hx : x < 0
  · rw [if_pos hx, if_pos hx, if_pos hx, en hx, Int.neg_mul, e2]
    refine ⟨?_, by omega, by omega, ?_⟩
    · rw [if_neg (by omega), Int.neg_mul, e2]; omega
    · rw [if_neg (by omega), Int.neg_mul, e2]; omega
  · rw [if_neg hx, if_neg hx, if_neg hx, ep (by omega), e2, Int.neg_mul, e2]
    refine ⟨?_, by omega, by omega, ?_⟩
    · rw [if_neg (by omega), e2]; omega
    · rw [if_neg (by omega), e2]; omega
theorem rOf_same {k : Str} (hk : k ∈ KNDS) {w x : Int} (h : x / unitI x w * unitI x w = x) : rOf k w x = x := by
  obtain ⟨a, b, c, d⟩ := due_same w x h
  unfold rOf rDown
  split
  · exact a
  split
  · exact b
  split
  · exact c
  split
  · exact h
  · exact d
theorem up_due {w x : Int} (h : x / unitI x w * unitI x w ≠ x) : rUp w x = x / unitI x w * unitI x w + unitI x w := by
  have hu := unitI_pos x w
  unfold rUp
  generalize unitI x w = u at *
  obtain ⟨q, r, p, e1, e2, e3, r0, r1, ep, en, eo⟩ := parts (x := x) hu
  rw [e1, e2] at h ⊢
  rw [if_neg (by omega)] at eo
  rw [eo, Int.sub_mul, Int.neg_mul, e2]; omega
theorem cut_due {w x : Int} (h : x / unitI x w * unitI x w ≠ x) : rCut w x = if 0 < x then x / unitI x w * unitI x w else x / unitI x w * unitI x w + unitI x w := by
  have hu := unitI_pos x w
  unfold rCut sgn many
  generalize unitI x w = u at *
  obtain ⟨q, r, p, e1, e2, e3, r0, r1, ep, en, eo⟩ := parts (x := x) hu
  rw [e1, e2] at h ⊢
  rw [if_neg (by omega)] at en
  by_cases hx : x < 0
  · rw [if_pos hx, if_neg (by omega), en hx, Int.sub_mul, Int.neg_mul, e2]; omega
  · by_cases hz : x = 0
    · subst hz
      have : p = 0 := by
        have h1 : (0 : Int) / u = q := e1
        rw [Int.zero_ediv] at h1
        rw [← e2, ← h1, Int.zero_mul]
      omega
    · rw [if_neg hx, if_pos (by omega), ep (by omega), e2]
theorem sticky_due {w x : Int} (h : x / unitI x w * unitI x w ≠ x) : rSticky w x = if x / unitI x w % 2 = 1 then x / unitI x w * unitI x w else x / unitI x w * unitI x w + unitI x w := by
  have hu := unitI_pos x w
  unfold rSticky sgn many
  generalize unitI x w = u at *
  obtain ⟨q, r, p, e1, e2, e3, r0, r1, ep, en, eo⟩ := parts (x := x) hu
  rw [e1, e2] at h ⊢
  rw [if_neg (by omega)] at en
  by_cases hx : x < 0
  · rw [if_pos hx, en hx, Int.sub_mul, Int.neg_mul, e2]
    by_cases hq : q % 2 = 1
    · rw [if_pos hq, if_pos ⟨by omega, by omega⟩, show -q - 1 + 1 = -q by omega, Int.neg_mul, e2]; omega
    · rw [if_neg hq, if_neg (by omega), Int.sub_mul, Int.neg_mul, e2]; omega
  · rw [if_neg hx, ep (by omega), e2]
    by_cases hq : q % 2 = 1
    · rw [if_pos hq, if_neg (by omega), e2]
    · rw [if_neg hq, if_pos (by omega), Int.add_mul, e2]; omega
theorem near_due {w x : Int} (h : x / unitI x w * unitI x w ≠ x) : rNear w x = if 2 * x - x / unitI x w * unitI x w - (x / unitI x w * unitI x w + unitI x w) > 0 ∨ 2 * x - x / unitI x w * unitI x w - (x / unitI x w * unitI x w + unitI x w) = 0 ∧ x / unitI x w % 2 = 1 then x / unitI x w * unitI x w + unitI x w else x / unitI x w * unitI x w := by
  have hu := unitI_pos x w
  unfold rNear sgn many
  generalize unitI x w = u at *
  obtain ⟨q, r, p, e1, e2, e3, r0, r1, ep, en, eo⟩ := parts (x := x) hu
  rw [e1, e2] at h ⊢
  rw [if_neg (by omega)] at en
  by_cases hx : x < 0
  · rw [if_pos hx, en hx, Int.sub_mul, Int.neg_mul, e2]
    by_cases hq : 2 * r < u ∨ 2 * r = u ∧ q % 2 = 0
    · rw [if_pos (show 2 * ((x.natAbs : Int) - (-p - 1 * u)) > u ∨ 2 * ((x.natAbs : Int) - (-p - 1 * u)) = u ∧ (-q - 1) % 2 = 1 by omega), if_neg (by omega), show -q - 1 + 1 = -q by omega, Int.neg_mul, e2]; omega
    · rw [if_neg (show ¬ (2 * ((x.natAbs : Int) - (-p - 1 * u)) > u ∨ 2 * ((x.natAbs : Int) - (-p - 1 * u)) = u ∧ (-q - 1) % 2 = 1) by omega), if_pos (by omega), Int.sub_mul, Int.neg_mul, e2]; omega
  · rw [if_neg hx, ep (by omega), e2]
    by_cases hq : 2 * r > u ∨ 2 * r = u ∧ q % 2 = 1
    · rw [if_pos (show 2 * ((x.natAbs : Int) - p) > u ∨ 2 * ((x.natAbs : Int) - p) = u ∧ q % 2 = 1 by omega), if_pos (by omega), Int.add_mul, e2]; omega
    · rw [if_neg (show ¬ (2 * ((x.natAbs : Int) - p) > u ∨ 2 * ((x.natAbs : Int) - p) = u ∧ q % 2 = 1) by omega), if_neg (by omega), e2]

section
variable {G : HH} {Q : QD} {E : ED} {c : Str} {w : Int}
theorem st_mkBit (h : Q (bitO c w) G) : MkR true c (spInit c) [.int w] G Q E := by
  intro p hp
  refine ⟨p, w, rfl, gput_same, rfl, ?_⟩
  rw [if_pos rfl]
  refine ⟨_, _, gput_same, ?_⟩
  rw [gput_gput, gdel_gput hp]
  exact h
theorem st_mkBitK (h : Q (bitO c w) G) : MkRK true c 0 1 [0, 1] (spInit c) [] [.int w] G Q E := ⟨rfl, rfl, st_mkBit h⟩
end

/-! ### grids, clamps, wraps -/
abbrev gridO (s : Int) : D := .obj "Grid" ["step"] [.int s]
abbrev clampO (l h : Int) : D := .obj "Clamp" ["low", "high"] [.int l, .int h]
abbrev wrapO (m l : Int) : D := .obj "Wrap" ["modulus", "low"] [.int m, .int l]
def rGrid (s x : Int) : Int := sgn x ((2 * (x.natAbs : Int) + s) / (2 * s) * s)
def rClamp (l h x : Int) : Int := max l (min h x)
def rWrap (m l x : Int) : Int := l + (x - l) % m
def sp_Grid_init : SpD := fun ds G Q _ => ∃ (p : Addr) (s : Int), ds = [.ref p, .int s] ∧ G p = some (.ins "Grid" [] []) ∧ Q .non (gput G p (.ins "Grid" ["step"] [.int s]))
def sp_Clamp_init : SpD := fun ds G Q _ => ∃ (p : Addr) (l h : Int), ds = [.ref p, .int l, .int h] ∧ G p = some (.ins "Clamp" [] []) ∧ Q .non (gput G p (.ins "Clamp" ["low", "high"] [.int l, .int h]))
def sp_Wrap_init : SpD := fun ds G Q _ => ∃ (p : Addr) (m l : Int), ds = [.ref p, .int m, .int l] ∧ G p = some (.ins "Wrap" [] []) ∧ Q .non (gput G p (.ins "Wrap" ["modulus", "low"] [.int m, .int l]))
theorem len_Grid_init : LN sp_Grid_init 2 := by rintro ds G Q E ⟨p, s, rfl, _⟩; rfl
theorem len_Clamp_init : LN sp_Clamp_init 3 := by rintro ds G Q E ⟨p, l, h, rfl, _⟩; rfl
theorem len_Wrap_init : LN sp_Wrap_init 3 := by rintro ds G Q E ⟨p, m, l, rfl, _⟩; rfl
def N_Grid_init : List Str := ["self", "step"]
def t_Grid_init : TSD := (dSetF ["Grid"] "step" (dVar 0) (dVar 1))
def N_Clamp_init : List Str := ["self", "low", "high"]
def t_Clamp_init : TSD := (dSeq (dSetF ["Clamp"] "low" (dVar 0) (dVar 1))
  (dSetF ["Clamp"] "high" (dVar 0) (dVar 2)))
def N_Wrap_init : List Str := ["self", "modulus", "low"]
def t_Wrap_init : TSD := (dSeq (dSetF ["Wrap"] "modulus" (dVar 0) (dVar 1))
  (dSetF ["Wrap"] "low" (dVar 0) (dVar 2)))
theorem vc_Grid_init : VC sp_Grid_init N_Grid_init t_Grid_init := by
  rintro ds G Q EX ⟨p, s, rfl, hp, hq⟩
  walk_at "go Grid_init"
  exact hq
theorem vc_Clamp_init : VC sp_Clamp_init N_Clamp_init t_Clamp_init := by
  rintro ds G Q EX ⟨p, l, h, rfl, hp, hq⟩
  walk_at "go Clamp_init"
  rw [gput_gput]
  exact hq
theorem vc_Wrap_init : VC sp_Wrap_init N_Wrap_init t_Wrap_init := by
  rintro ds G Q EX ⟨p, m, l, rfl, hp, hq⟩
  walk_at "go Wrap_init"
  rw [gput_gput]
  exact hq
def sp_Grid_call : SpD := fun ds G Q _ => ∃ s x : Int, ds = [gridO s, .int x] ∧ 1 ≤ s ∧ s ≤ 1000000000 ∧ Bt 7000 x ∧ Q (.int (rGrid s x)) G
def sp_Clamp_call : SpD := fun ds G Q _ => ∃ l h x : Int, ds = [clampO l h, .int x] ∧ Q (.int (rClamp l h x)) G
def sp_Wrap_call : SpD := fun ds G Q _ => ∃ m l x : Int, ds = [wrapO m l, .int x] ∧ 0 < m ∧ Q (.int (rWrap m l x)) G
theorem len_Grid_call : LN sp_Grid_call 2 := by rintro ds G Q E ⟨p, s, rfl, _⟩; rfl
theorem len_Clamp_call : LN sp_Clamp_call 2 := by rintro ds G Q E ⟨p, l, h, rfl, _⟩; rfl
theorem len_Wrap_call : LN sp_Wrap_call 2 := by rintro ds G Q E ⟨p, m, l, rfl, _⟩; rfl
def N_Grid_call : List Str := ["self", "number", "many"]
def t_Grid_call : TSD := (dSeq (dAsg (dOp aDiv (dOp aAny (dOp mAny (dC (.int 2)) (dCB kAbs (dCons (dVar 1) dNil))) (dFld ["Grid"] "step" (dVar 0))) (dOp mAny (dC (.int 2)) (dFld ["Grid"] "step" (dVar 0)))) (gdName 2))
  (dRet (dCall sp_signed (dCons (dVar 1) (dCons (dOp mAny (dVar 2) (dFld ["Grid"] "step" (dVar 0))) dNil)))))
def N_Clamp_call : List Str := ["self", "number"]
def t_Clamp_call : TSD := (dRet (dCB kMax2 (dCons (dFld ["Clamp"] "low" (dVar 0)) (dCons (dCB kMin2 (dCons (dFld ["Clamp"] "high" (dVar 0)) (dCons (dVar 1) dNil))) dNil))))
def N_Wrap_call : List Str := ["self", "number"]
def t_Wrap_call : TSD := (dRet (dOp aAny (dFld ["Wrap"] "low" (dVar 0)) (dOp aMod (dOp aSub (dVar 1) (dFld ["Wrap"] "low" (dVar 0))) (dFld ["Wrap"] "modulus" (dVar 0)))))
theorem vc_Clamp_call : VC sp_Clamp_call N_Clamp_call t_Clamp_call := by
  rintro ds G Q EX ⟨l, h, x, rfl, hq⟩
  walk_at "go Clamp_call"
  exact hq
theorem vc_Wrap_call : VC sp_Wrap_call N_Wrap_call t_Wrap_call := by
  rintro ds G Q EX ⟨m, l, x, rfl, hm, hq⟩
  walk_at "go Wrap_call"
  exact hq
theorem vc_Grid_call : VC sp_Grid_call N_Grid_call t_Grid_call := by
  rintro ds G Q EX ⟨s, x, rfl, h1, h2, hx, hq⟩
  have two : Bt 2 (2 : Int) := .of (by decide)
  have bs : Bt 30 s := .of (by omega)
  walk_at "go Grid_call"
  refine st_mulI (cmul_bt two hx.abs (by decide)) ?_
  walk_at "d"
  refine st_mulI (cmul_bt two bs (by decide)) ?_
  walk_at "d"
  have ps : 0 < 2 * s := by omega
  refine st_oI (cdiv_bt ps (two.mul bs) (by decide)) ?_
  walk_at "d"
  have bn := (((two.mul hx.abs).add bs).div ps)
  refine st_mulI (cmul_bt bn bs (by decide)) ?_
  walk_at "d"
  exact st_signed hq
theorem grid_ok {s x : Int} (h : 0 < s) : rGrid s x % s = 0 ∧ (2 * ((rGrid s x - x).natAbs : Int) < s ∨ 2 * ((rGrid s x - x).natAbs : Int) = s ∧ (x.natAbs : Int) < ((rGrid s x).natAbs : Int)) := by
  unfold rGrid sgn
  have e := Int.emod_add_mul_ediv (2 * (x.natAbs : Int) + s) (2 * s)
  have r0 := Int.emod_nonneg (2 * (x.natAbs : Int) + s) (show 2 * s ≠ 0 by omega)
  have r1 := Int.emod_lt_of_pos (2 * (x.natAbs : Int) + s) (show 0 < 2 * s by omega)
  have q0 : 0 ≤ (2 * (x.natAbs : Int) + s) / (2 * s) := Int.ediv_nonneg (by omega) (by omega)
  generalize (2 * (x.natAbs : Int) + s) / (2 * s) = m at *
  have e2 : 2 * s * m = 2 * (m * s) := by rw [Int.mul_assoc, Int.mul_comm s m]
  rw [e2] at e
  have m0 : (m * s) % s = 0 := Int.mul_emod_left m s
  have p0 : 0 ≤ m * s := Int.mul_nonneg q0 (by omega)
  have m1 : (0 - m * s) % s = 0 := by rw [Int.zero_sub, ← Int.neg_mul]; exact Int.mul_emod_left _ s
  generalize m * s = p at *
  by_cases hx : x < 0
  · rw [if_pos hx]; refine ⟨m1, ?_⟩; omega
  · rw [if_neg hx]; refine ⟨m0, ?_⟩; omega
theorem wrap_ok {m l x : Int} (h : 0 < m) : l ≤ rWrap m l x ∧ rWrap m l x < l + m ∧ (rWrap m l x - x) % m = 0 := by
  unfold rWrap
  have r0 := Int.emod_nonneg (x - l) (show m ≠ 0 by omega)
  have r1 := Int.emod_lt_of_pos (x - l) h
  refine ⟨by omega, by omega, ?_⟩
  have e := Int.emod_add_mul_ediv (x - l) m
  have e2 : l + (x - l) % m - x = m * (-((x - l) / m)) := by rw [Int.mul_neg]; omega
  rw [e2]
  exact Int.mul_emod_right m _
section
variable {G : HH} {Q : QD} {E : ED}
theorem st_mkGrid {s : Int} (h : Q (gridO s) G) : MkR true "Grid" sp_Grid_init [.int s] G Q E := by
  intro p hp
  refine ⟨p, s, rfl, gput_same, rfl, ?_⟩
  rw [if_pos rfl]
  refine ⟨_, _, gput_same, ?_⟩
  rw [gput_gput, gdel_gput hp]
  exact h
theorem st_mkClamp {l u : Int} (h : Q (clampO l u) G) : MkR true "Clamp" sp_Clamp_init [.int l, .int u] G Q E := by
  intro p hp
  refine ⟨p, l, u, rfl, gput_same, rfl, ?_⟩
  rw [if_pos rfl]
  refine ⟨_, _, gput_same, ?_⟩
  rw [gput_gput, gdel_gput hp]
  exact h
theorem st_mkWrap {m l : Int} (h : Q (wrapO m l) G) : MkR true "Wrap" sp_Wrap_init [.int m, .int l] G Q E := by
  intro p hp
  refine ⟨p, m, l, rfl, gput_same, rfl, ?_⟩
  rw [if_pos rfl]
  refine ⟨_, _, gput_same, ?_⟩
  rw [gput_gput, gdel_gput hp]
  exact h
theorem st_mkGridK {s : Int} (h : Q (gridO s) G) : MkRK true "Grid" 0 1 [0, 1] sp_Grid_init [] [.int s] G Q E := ⟨rfl, rfl, st_mkGrid h⟩
theorem st_mkClampK {l u : Int} (h : Q (clampO l u) G) : MkRK true "Clamp" 0 2 [0, 2, 1] sp_Clamp_init [] [.int u, .int l] G Q E := ⟨rfl, rfl, st_mkClamp h⟩
theorem st_mkWrapK {m l : Int} (h : Q (wrapO m l) G) : MkRK true "Wrap" 0 2 [0, 2, 1] sp_Wrap_init [] [.int l, .int m] G Q E := ⟨rfl, rfl, st_mkWrap h⟩
theorem st_callGrid {s x : Int} (h1 : 1 ≤ s) (h2 : s ≤ 1000000000) (hx : Bt 7000 x) (h : Q (.int (rGrid s x)) G) : sp_Grid_call [gridO s, .int x] G Q E := ⟨s, x, rfl, h1, h2, hx, h⟩
theorem st_callClamp {l u x : Int} (h : Q (.int (rClamp l u x)) G) : sp_Clamp_call [clampO l u, .int x] G Q E := ⟨l, u, x, rfl, h⟩
theorem st_callWrap {m l x : Int} (hm : 0 < m) (h : Q (.int (rWrap m l x)) G) : sp_Wrap_call [wrapO m l, .int x] G Q E := ⟨m, l, x, rfl, hm, h⟩
end

/-! grids, clamps, wraps: macros -/
local macro_rules | `(tactic| walk_at "x1") => `(tactic| first
  | with_reducible refine st_mkGrid ?_ | with_reducible refine st_mkGridK ?_ | with_reducible refine st_mkClamp ?_ | with_reducible refine st_mkClampK ?_ | with_reducible refine st_mkWrap ?_ | with_reducible refine st_mkWrapK ?_
  | ((with_reducible refine' st_callGrid ?w1 ?w2 ?w3 ?w4); (case w1 => omega); (case w2 => omega); (case w3 => assumption))
  | with_reducible refine st_callClamp ?_
  | ((with_reducible refine' st_callWrap ?w1 ?w2); (case w1 => omega))
  | ((with_reducible refine' st_callVq _ ?w1 ?w2); (case w1 => exact List.mem_singleton.mpr rfl)))

/-! bounds on bits, found by themselves -/
local macro_rules | `(tactic| walk_at "btl") => `(tactic| first | decide | omega)
local macro_rules | `(tactic| walk_at "bt") => `(tactic| first
  | with_reducible assumption
  | ((with_reducible refine' Bt.mul ?b1 ?b2); (case b1 => walk_at "bt"); (case b2 => walk_at "bt"))
  | ((with_reducible refine' Bt.add ?b1 ?b2); (case b1 => walk_at "bt"); (case b2 => walk_at "bt"))
  | ((with_reducible refine' Bt.sub ?b1 ?b2); (case b1 => walk_at "bt"); (case b2 => walk_at "bt"))
  | ((with_reducible refine' Bt.neg ?b1); (case b1 => walk_at "bt"))
  | ((with_reducible refine' Bt.abs ?b1); (case b1 => walk_at "bt"))
  | ((with_reducible refine' Bt.div ?b1 ?b2); (case b1 => walk_at "bt"); (case b2 => walk_at "btl"))
  | with_reducible exact bt_two _
  | ((with_reducible refine' Bt.of (b := 64) ?b1); (case b1 => walk_at "btl"))
  | ((with_reducible refine' Bt.mod ?b1 ?b2); (case b1 => walk_at "btl"); (case b2 => walk_at "bt")))
local macro_rules | `(tactic| walk_at "cm") => `(tactic| ((with_reducible refine' cmul_bt ?c1 ?c2 ?c3); (case c1 => walk_at "bt"); (case c2 => walk_at "bt"); (case c3 => walk_at "btl")))
local macro_rules | `(tactic| walk_at "x1") => `(tactic| first
  | ((with_reducible refine' st_mulI ?k1 ?k2); (case k1 => walk_at "cm"))
  | ((with_reducible refine' st_oI ?k1 ?k2); (case k1 => first
    | ((with_reducible refine' cdiv_bt ?c1 ?c2 ?c3); (case c1 => walk_at "btl"); (case c2 => walk_at "bt"); (case c3 => walk_at "btl"))
    | ((with_reducible refine' cshl_bt ?c1 ?c2); (case c1 => walk_at "bt"); (case c2 => walk_at "btl")))))

def sp_Then_init : SpD := fun ds G Q _ => ∃ (p : Addr) (a b : D), ds = [.ref p, a, b] ∧ G p = some (.ins "Then" [] []) ∧ Q .non (gput G p (.ins "Then" ["first", "second"] [a, b]))
theorem len_Then_init : LN sp_Then_init 3 := by rintro ds G Q E ⟨p, a, b, rfl, _⟩; rfl
def N_Then_init : List Str := ["self", "first", "second"]
def t_Then_init : TSD := (dSeq (dSetF ["Then"] "first" (dVar 0) (dVar 1))
  (dSetF ["Then"] "second" (dVar 0) (dVar 2)))
theorem vc_Then_init : VC sp_Then_init N_Then_init t_Then_init := by
  rintro ds G Q EX ⟨p, a, b, rfl, hp, hq⟩
  walk_at "go Then_init"
  rw [gput_gput]
  exact hq
section
variable {G : HH} {Q : QD} {E : ED}
theorem st_mkThen {a b : D} (h : Q (.obj "Then" ["first", "second"] [a, b]) G) : MkR true "Then" sp_Then_init [a, b] G Q E := by
  intro p hp
  refine ⟨p, a, b, rfl, gput_same, rfl, ?_⟩
  rw [if_pos rfl]
  refine ⟨_, _, gput_same, ?_⟩
  rw [gput_gput, gdel_gput hp]
  exact h
theorem st_mkThenK {a b : D} (h : Q (.obj "Then" ["first", "second"] [a, b]) G) : MkRK true "Then" 0 2 [0, 2, 1] sp_Then_init [] [b, a] G Q E := ⟨rfl, rfl, st_mkThen h⟩
end

/-! ### roundings of all classes -/
inductive RS where
  | bit (k : Str) (w : Int) | grid (s : Int) | clamp (l h : Int) | wrap (m l : Int) | rnd | thn (a b : RS)
def RS.dep : RS → Nat
  | .thn a b => max a.dep b.dep + 1
  | _ => 0
def RS.size : RS → Nat
  | .thn a b => a.size + b.size
  | _ => 1
def RS.ok : RS → Prop
  | .bit k w => k ∈ KNDS ∧ 1 ≤ w ∧ w ≤ 60
  | .grid s => 1 ≤ s ∧ s ≤ 1000000000
  | .clamp l h => Bt 70 l ∧ Bt 70 h ∧ l < 0 ∧ 0 < h
  | .wrap m l => 2 ≤ m ∧ Bt 70 m ∧ Bt 70 l
  | .rnd => True
  | .thn a b => a.ok ∧ b.ok
def RS.kind : RS → Str
  | .bit k _ => k
  | .grid _ => "Grid"
  | .clamp _ _ => "Clamp"
  | .wrap _ _ => "Wrap"
  | .rnd => "Rounding"
  | .thn _ _ => "Then"
def RS.obj : RS → D
  | .bit k w => bitO k w
  | .grid s => gridO s
  | .clamp l h => clampO l h
  | .wrap m l => wrapO m l
  | .rnd => .obj "Rounding" [] []
  | .thn a b => .obj "Then" ["first", "second"] [a.obj, b.obj]
def RS.words : RS → D
  | .bit k w => .tup [.str k, .int w]
  | .grid s => .tup [.str "Grid", .int s]
  | .clamp l h => .tup [.str "Clamp", .int l, .int h]
  | .wrap m l => .tup [.str "Wrap", .int m, .int l]
  | .rnd => .tup [.str "Rounding"]
  | .thn a b => .tup [.str "Then", a.words, b.words]
def RS.f : RS → Int → Int
  | .bit k w, x => rOf k w x
  | .grid s, x => rGrid s x
  | .clamp l h, x => rClamp l h x
  | .wrap m l, x => rWrap m l x
  | .rnd, x => x
  | .thn a b, x => b.f (a.f x)
theorem RS.size_pos : ∀ r : RS, 1 ≤ r.size
  | .bit _ _ | .grid _ | .clamp _ _ | .wrap _ _ | .rnd => Nat.le_refl _
  | .thn a b => Nat.le_trans a.size_pos (Nat.le_add_right _ _)
/-- a rounding to bits gives a neighbour -/
theorem rOf_near {k : Str} (hk : k ∈ KNDS) (w x : Int) : ((rOf k w x - x).natAbs : Int) ≤ unitI x w := by
  have hu := unitI_pos x w
  by_cases h : x / unitI x w * unitI x w = x
  · rw [rOf_same hk h]; omega
  · have e := Int.emod_add_mul_ediv x (unitI x w)
    have r0 := Int.emod_nonneg x (show unitI x w ≠ 0 by omega)
    have r1 := Int.emod_lt_of_pos x hu
    rw [Int.mul_comm] at e
    have c : rOf k w x = x / unitI x w * unitI x w ∨ rOf k w x = x / unitI x w * unitI x w + unitI x w := by
      simp only [KNDS, List.mem_cons, List.not_mem_nil, or_false] at hk
      rcases hk with rfl | rfl | rfl | rfl | rfl
      · show rNear w x = _ ∨ rNear w x = _
        rw [near_due h]; split
        · exact .inr rfl
        · exact .inl rfl
      · show rCut w x = _ ∨ rCut w x = _
        rw [cut_due h]; split
        · exact .inl rfl
        · exact .inr rfl
      · show rUp w x = _ ∨ rUp w x = _
        exact .inr (up_due h)
      · exact .inl rfl
      · show rSticky w x = _ ∨ rSticky w x = _
        rw [sticky_due h]; split
        · exact .inl rfl
        · exact .inr rfl
    rcases c with c | c <;> rw [c] <;> omega
theorem unitI_bt' {b : Nat} {x w : Int} (h : Bt b x) (hw : 1 ≤ w) (hb : 1 ≤ b) : Bt b (unitI x w) := (bt_two _).mono (by have := bt_bl h; omega)
theorem RS.bt : ∀ {r : RS} {b : Nat} {x : Int}, r.ok → Bt b x → 80 ≤ b → Bt (b + r.size) (r.f x)
  | .bit k w, b, x, ⟨h1, h2, h3⟩, hx, hb => by
    have hu := (unitI_bt' hx h2 (by omega)).to
    have hn := rOf_near h1 w x
    have hx := hx.to
    have hp := unitI_pos x w
    refine .of ?_
    show (rOf k w x).natAbs < 2 ^ (b + 1)
    rw [Nat.pow_succ]
    generalize 2 ^ b = B at *
    omega
  | .grid s, b, x, ⟨h1, h2⟩, hx, hb => by
    have g := (grid_ok (s := s) (x := x) (by omega)).2
    have l : 2 ^ 31 ≤ 2 ^ b := Nat.pow_le_pow_right (by decide) (by omega)
    have hx := hx.to
    refine .of ?_
    show (rGrid s x).natAbs < 2 ^ (b + 1)
    rw [Nat.pow_succ]
    generalize 2 ^ b = B at *
    omega
  | .clamp l h, b, x, ⟨h1, h2, _⟩, hx, hb => by
    have a1 := (h1.mono (show 70 ≤ b + 1 by omega)).to
    have a2 := (h2.mono (show 70 ≤ b + 1 by omega)).to
    have a3 := (hx.mono (show b ≤ b + 1 by omega)).to
    refine .of ?_
    show (rClamp l h x).natAbs < 2 ^ (b + 1)
    unfold rClamp
    generalize 2 ^ (b + 1) = B at *
    omega
  | .wrap m l, b, x, ⟨h1, h2, h3⟩, hx, hb => by
    obtain ⟨w1, w2, _⟩ := wrap_ok (l := l) (x := x) (m := m) (by omega)
    have s := (h3.add h2).mono (show max 70 70 + 1 ≤ b + 1 by omega)
    have t := (h3.mono (show 70 ≤ b + 1 by omega)).to
    have s := s.to
    refine .of ?_
    show (rWrap m l x).natAbs < 2 ^ (b + 1)
    generalize 2 ^ (b + 1) = B at *
    omega
  | .rnd, b, x, _, hx, hb => hx.mono (by show b ≤ b + 1; omega)
  | .thn c d, b, x, ⟨h1, h2⟩, hx, hb => by
    have a := RS.bt h1 hx hb
    have e := RS.bt h2 a (by omega)
    exact e.mono (by show b + c.size + d.size ≤ b + (c.size + d.size); omega)
def sp_Rounding_call : SpD := fun ds G Q _ => ∃ x : Int, ds = [RS.rnd.obj, .int x] ∧ Q (.int x) G
theorem len_Rounding_call : LN sp_Rounding_call 2 := by rintro ds G Q E ⟨x, rfl, _⟩; rfl
def N_Rounding_call : List Str := ["self", "number"]
def t_Rounding_call : TSD := (dRet (dVar 1))
theorem vc_Rounding_call : VC sp_Rounding_call N_Rounding_call t_Rounding_call := by
  rintro ds G Q EX ⟨x, rfl, hq⟩
  walk_at "go Rounding_call"
  exact hq
/-- a rounding called -/
def sp_Then_call (d : Nat) : SpD := fun ds G Q _ => ∃ (a b : RS) (x : Int) (n : Nat), ds = [(RS.thn a b).obj, .int x] ∧ (RS.thn a b).dep ≤ d ∧ (RS.thn a b).ok ∧ Bt n x ∧ 80 ≤ n ∧ n + (RS.thn a b).size ≤ 7000 ∧ Q (.int ((RS.thn a b).f x)) G
theorem len_Then_call (d : Nat) : LN (sp_Then_call d) 2 := by rintro ds G Q E ⟨a, b, x, n, rfl, _⟩; rfl
theorem no_Then_call : ∀ ds G Q E, ¬ sp_Then_call 0 ds G Q E := by
  rintro ds G Q E ⟨a, b, x, n, rfl, h, _⟩
  simp [RS.dep] at h
/-- all classes whose objects are called -/
abbrev RT (rs : SpD) : List (Str × SpD) := [("Nearest", sp_Nearest_call), ("Cut", sp_Cut_call), ("Up", sp_Up_call), ("Down", sp_Down_call), ("Sticky", sp_Sticky_call), ("Grid", sp_Grid_call), ("Clamp", sp_Clamp_call), ("Wrap", sp_Wrap_call), ("Rounding", sp_Rounding_call), ("Then", rs)]
/-- what a rounding gives, whichever it is -/
theorem bit_tab {k : Str} (hk : k ∈ KNDS) (rs : SpD) : (k, spCall k (rOf k)) ∈ RT rs := by
  simp only [KNDS, List.mem_cons, List.not_mem_nil, or_false] at hk
  rcases hk with rfl | rfl | rfl | rfl | rfl
  · exact List.mem_cons_self ..
  · exact List.mem_cons_of_mem _ (List.mem_cons_self ..)
  · exact List.mem_cons_of_mem _ (List.mem_cons_of_mem _ (List.mem_cons_self ..))
  · exact List.mem_cons_of_mem _ (List.mem_cons_of_mem _ (List.mem_cons_of_mem _ (List.mem_cons_self ..)))
  · exact List.mem_cons_of_mem _ (List.mem_cons_of_mem _ (List.mem_cons_of_mem _ (List.mem_cons_of_mem _ (List.mem_cons_self ..))))
theorem st_callR {rs : SpD} {r : RS} {G : HH} {Q : QD} {E : ED} {σ : SD} {t : TAD} {P : Prop} {x : Int} {n d : Nat} (hrs : ∀ a b, r = .thn a b → rs = sp_Then_call d) (hd : r.dep ≤ d) (ok : r.ok) (hx : Bt n x) (h80 : 80 ≤ n) (hn : n + r.size ≤ 7000)
    (ht : ∀ Q' : List D → HH → Prop, Q' [.int x] G → t σ G Q' E) (q : Q (.int (r.f x)) G) :
    (∃ c' sp ns' ds', InsD G r.obj c' ns' ds' ∧ (c', sp) ∈ RT rs ∧ t σ G (fun as G2 => (∃ ns2 ds2, InsD G2 r.obj c' ns2 ds2) ∧ sp (r.obj :: as) G2 Q E) E) ∨ P := by
  have hb : Bt 7000 x := hx.mono (by have := r.size_pos; omega)
  cases r with
  | bit k w => exact .inl ⟨k, _, _, _, .obj _ _ _, bit_tab ok.1 rs, ht _ ⟨⟨_, _, .obj _ _ _⟩, w, x, rfl, ok.2.1, ok.2.2, hb, q⟩⟩
  | grid s => exact .inl ⟨"Grid", sp_Grid_call, _, _, .obj _ _ _, by simp, ht _ ⟨⟨_, _, .obj _ _ _⟩, s, x, rfl, ok.1, ok.2, hb, q⟩⟩
  | clamp l h => exact .inl ⟨"Clamp", sp_Clamp_call, _, _, .obj _ _ _, by simp, ht _ ⟨⟨_, _, .obj _ _ _⟩, l, h, x, rfl, q⟩⟩
  | wrap m l => exact .inl ⟨"Wrap", sp_Wrap_call, _, _, .obj _ _ _, by simp, ht _ ⟨⟨_, _, .obj _ _ _⟩, m, l, x, rfl, by have := ok.1; omega, q⟩⟩
  | rnd => exact .inl ⟨"Rounding", sp_Rounding_call, _, _, .obj _ _ _, by simp, ht _ ⟨⟨_, _, .obj _ _ _⟩, x, rfl, q⟩⟩
  | thn a b =>
    refine .inl ⟨"Then", rs, _, _, .obj _ _ _, by simp, ht _ ⟨⟨_, _, .obj _ _ _⟩, ?_⟩⟩
    rw [hrs a b rfl]
    exact ⟨a, b, x, n, rfl, hd, ok, hx, h80, hn, q⟩

def N_Then_call : List Str := ["self", "number"]
def t_Then_call (rs : SpD) : TSD := (dRet (dCallV [("Nearest", sp_Nearest_call), ("Cut", sp_Cut_call), ("Up", sp_Up_call), ("Down", sp_Down_call), ("Sticky", sp_Sticky_call), ("Grid", sp_Grid_call), ("Clamp", sp_Clamp_call), ("Wrap", sp_Wrap_call), ("Rounding", sp_Rounding_call), ("Then", rs)] [] (dFld ["Then"] "second" (dVar 0)) (dCons (dCallV [("Nearest", sp_Nearest_call), ("Cut", sp_Cut_call), ("Up", sp_Up_call), ("Down", sp_Down_call), ("Sticky", sp_Sticky_call), ("Grid", sp_Grid_call), ("Clamp", sp_Clamp_call), ("Wrap", sp_Wrap_call), ("Rounding", sp_Rounding_call), ("Then", rs)] [] (dFld ["Then"] "first" (dVar 0)) (dCons (dVar 1) dNil)) dNil)))
theorem vc_Then_call (d : Nat) : VC (sp_Then_call (d + 1)) N_Then_call (t_Then_call (sp_Then_call d)) := by
  rintro ds G Q EX ⟨a, b, x, n, rfl, hd, ok, hx, h80, hn, hq⟩
  have hd : max a.dep b.dep + 1 ≤ d + 1 := hd
  have hn : n + (a.size + b.size) ≤ 7000 := hn
  have pa := a.size_pos
  have pb := b.size_pos
  show t_Then_call (sp_Then_call d) _ (startD N_Then_call [.obj "Then" ["first", "second"] [a.obj, b.obj], .int x]) G
  walk_at "go Then_call"
  refine st_callR (rs := sp_Then_call d) (d := d) (x := a.f x) (fun _ _ _ => rfl) (by omega) ok.2 (RS.bt ok.1 hx h80) (by omega) (by omega) (fun Q' q => ?_) hq
  walk_at "d"
  refine st_callR (rs := sp_Then_call d) (d := d) (fun _ _ _ => rfl) (by omega) ok.1 hx h80 (by omega) (fun Q' q => ?_) ?_
  · walk_at "d"
    exact q
  · walk_at "d"
    exact q

/-! ### numbers of few digits -/
def Short (n : Nat) (x : Int) : Prop := ∃ k : Nat, (2 : Int) ^ k ∣ x ∧ x.natAbs < 2 ^ (n + k)
theorem short_neg {n : Nat} {x : Int} (h : Short n x) : Short n (-x) := by
  obtain ⟨k, h1, h2⟩ := h
  exact ⟨k, Int.dvd_neg.mpr h1, by rw [Int.natAbs_neg]; exact h2⟩
theorem short_zero (n : Nat) : Short n 0 := ⟨0, Int.dvd_zero _, by rw [Int.natAbs_zero]; exact Nat.two_pow_pos _⟩
theorem pow2_dvd {a b : Nat} (h : a ≤ b) : (2 : Int) ^ a ∣ 2 ^ b := ⟨2 ^ (b - a), by rw [← Int.pow_add]; congr 1; omega⟩
theorem pow2_cast (n : Nat) : (2 : Int) ^ n = ((2 ^ n : Nat) : Int) := by simp
theorem mul_le_div {x y u : Int} (hu : 0 < u) (h : u ∣ y) (hy : y ≤ x) : y ≤ x / u * u := by
  obtain ⟨c, rfl⟩ := h
  rw [Int.mul_comm u c] at hy ⊢
  exact Int.mul_le_mul_of_nonneg_right ((Int.le_ediv_iff_mul_le hu).mpr hy) (by omega)
theorem bl_lo {x : Int} (h : x ≠ 0) : ∃ b, bl x = b + 1 ∧ 2 ^ b ≤ x.natAbs := by
  cases e : bl x with
  | zero =>
    have := bl_le.mpr (Nat.le_of_eq e)
    simp at this
    omega
  | succ b => exact ⟨b, rfl, by
      rcases Nat.lt_or_ge x.natAbs (2 ^ b) with h | h
      · have := bl_le.mp h; omega
      · exact h⟩
theorem bl_neg (x : Int) : bl (-x) = bl x := by rw [← bl_abs (-x), Int.natAbs_neg, bl_abs]
theorem unitI_neg (x w : Int) : unitI (-x) w = unitI x w := by unfold unitI; rw [bl_neg]
theorem short_dvd {n b : Nat} {y : Int} (hs : Short n y) (h : b ≤ bl y) : (2 : Int) ^ (b - n) ∣ y := by
  obtain ⟨k, h1, h2⟩ := hs
  have := bl_le.mp h2
  exact Int.dvd_trans (pow2_dvd (by omega)) h1
theorem down_le (w x : Int) : rDown w x ≤ x := Int.ediv_mul_le x (by have := unitI_pos x w; omega)
theorem down_max {w x y : Int} (hw : 1 ≤ w) (hs : Short w.toNat y) (hy : y ≤ x) : y ≤ rDown w x := by
  unfold rDown
  have hu := unitI_pos x w
  rcases Nat.lt_or_ge (bl y) (bl x) with h | h
  · have hx : x ≠ 0 := by
      rintro rfl
      have : bl (0 : Int) ≤ 0 := bl_le.mp (by decide)
      omega
    obtain ⟨b, eb, hb⟩ := bl_lo hx
    have h2 : y.natAbs < 2 ^ b := bl_le.mpr (by omega)
    have d : unitI x w ∣ (2 : Int) ^ b := pow2_dvd (by omega)
    have c := pow2_cast b
    have := mul_le_div hu d (show (2 : Int) ^ b ≤ x by rw [c]; omega)
    omega
  · exact mul_le_div hu (short_dvd hs h) hy
theorem down_short {w x : Int} (hw : 1 ≤ w) : Short w.toNat (rDown w x) := by
  unfold rDown
  have hu := unitI_pos x w
  have h1 := Int.ediv_mul_le x (show unitI x w ≠ 0 by omega)
  have hb : x.natAbs < 2 ^ bl x := bl_le.mpr (Nat.le_refl _)
  by_cases k0 : bl x ≤ w.toNat
  · have e : unitI x w = 1 := by unfold unitI; rw [show bl x - w.toNat = 0 by omega]; rfl
    rw [e, Int.ediv_one, Int.mul_one]
    exact ⟨0, Int.one_dvd _, Nat.lt_of_lt_of_le hb (Nat.pow_le_pow_right (by decide) (by omega))⟩
  · by_cases ex : x / unitI x w * unitI x w = -(2 ^ bl x)
    · rw [ex]
      exact ⟨bl x, Int.dvd_neg.mpr (Int.dvd_refl _), by rw [Int.natAbs_neg, Int.natAbs_pow]; exact Nat.pow_lt_pow_right (by decide) (by omega)⟩
    · refine ⟨bl x - w.toNat, ⟨x / unitI x w, Int.mul_comm _ _⟩, ?_⟩
      rw [show w.toNat + (bl x - w.toNat) = bl x by omega]
      have c := pow2_cast (bl x)
      have d : unitI x w ∣ -(2 : Int) ^ bl x := Int.dvd_neg.mpr (pow2_dvd (Nat.sub_le _ _))
      have := mul_le_div hu d (show -(2 : Int) ^ bl x ≤ x by rw [c]; omega)
      rw [c] at this ex
      omega
theorem up_eq (w x : Int) : rUp w x = -rDown w (-x) := by unfold rUp rDown; rw [unitI_neg, Int.zero_sub, Int.zero_sub]
theorem up_neg (w x : Int) : rUp w (-x) = -rDown w x := by rw [up_eq, Int.neg_neg]
theorem up_ge (w x : Int) : x ≤ rUp w x := by have := down_le w (-x); rw [up_eq]; omega
theorem up_short {w x : Int} (hw : 1 ≤ w) : Short w.toNat (rUp w x) := by rw [up_eq]; exact short_neg (down_short hw)
theorem up_min {w x y : Int} (hw : 1 ≤ w) (hs : Short w.toNat y) (hy : x ≤ y) : rUp w x ≤ y := by
  have := down_max hw (short_neg hs) (show -y ≤ -x by omega)
  rw [up_eq]; omega
theorem down_mono {w x y : Int} (hw : 1 ≤ w) (h : x ≤ y) : rDown w x ≤ rDown w y := down_max hw (down_short hw) (Int.le_trans (down_le w x) h)
theorem up_mono {w x y : Int} (hw : 1 ≤ w) (h : x ≤ y) : rUp w x ≤ rUp w y := up_min hw (up_short hw) (Int.le_trans h (up_ge w y))
theorem short_eq {w x : Int} (hw : 1 ≤ w) (h : Short w.toNat x) : rDown w x = x ∧ rUp w x = x := ⟨Int.le_antisymm (down_le w x) (down_max hw h (Int.le_refl _)), Int.le_antisymm (up_min hw h (Int.le_refl _)) (up_ge w x)⟩
theorem rOf_short {w x : Int} {k : Str} (hk : k ∈ KNDS) (hw : 1 ≤ w) (h : Short w.toNat x) : rOf k w x = x := rOf_same hk (short_eq hw h).1
theorem cut_eq (w x : Int) : rCut w x = if 0 < x then rDown w x else rUp w x := by
  by_cases h : x / unitI x w * unitI x w = x
  · obtain ⟨_, b, c, _⟩ := due_same w x h
    rw [b, c, show rDown w x = x from h]; split <;> rfl
  · rw [cut_due h, up_due h]; rfl
theorem rOf_two {w x : Int} {k : Str} (hk : k ∈ KNDS) : rOf k w x = rDown w x ∨ rOf k w x = rUp w x := by
  by_cases h : x / unitI x w * unitI x w = x
  · exact .inl ((rOf_same hk h).trans h.symm)
  · rw [up_due h]
    simp only [KNDS, List.mem_cons, List.not_mem_nil, or_false] at hk
    rcases hk with rfl | rfl | rfl | rfl | rfl
    · show rNear w x = _ ∨ rNear w x = _
      rw [near_due h]; split
      · exact .inr rfl
      · exact .inl rfl
    · show rCut w x = _ ∨ rCut w x = _
      rw [cut_due h]; split
      · exact .inl rfl
      · exact .inr rfl
    · exact .inr (up_due h)
    · exact .inl rfl
    · show rSticky w x = _ ∨ rSticky w x = _
      rw [sticky_due h]; split
      · exact .inl rfl
      · exact .inr rfl
theorem rOf_is_short {w x : Int} {k : Str} (hk : k ∈ KNDS) (hw : 1 ≤ w) : Short w.toNat (rOf k w x) := by
  rcases rOf_two (w := w) (x := x) hk with h | h <;> rw [h]
  · exact down_short hw
  · exact up_short hw
theorem between {w x : Int} {k : Str} (hk : k ∈ KNDS) : rDown w x ≤ rOf k w x ∧ rOf k w x ≤ rUp w x := by
  have h1 := down_le w x
  have h2 := up_ge w x
  rcases rOf_two (w := w) (x := x) hk with h | h <;> rw [h] <;> omega
theorem rOf_mono {w x y : Int} {k : Str} (hk : k ∈ KNDS) (hw : 1 ≤ w) (h : x ≤ y) : rOf k w x ≤ rOf k w y := by
  have bx := between (w := w) (x := x) hk
  have by' := between (w := w) (x := y) hk
  have d := down_mono hw h
  have u := up_mono hw h
  by_cases ex : x / unitI x w * unitI x w = x
  · have := rOf_same hk ex
    have e1 : rDown w x = x := ex
    omega
  by_cases ey : y / unitI y w * unitI y w = y
  · have := rOf_same hk ey
    have e1 : rUp w y = y := (due_same w y ey).2.2.1
    omega
  by_cases c : rUp w x ≤ rDown w y
  · omega
  have c1 : rDown w y < x := by
    rcases Int.lt_or_le (rDown w y) x with z | z
    · exact z
    · exact absurd (up_min hw (down_short hw) z) c
  have c2 : y < rUp w x := by
    rcases Int.lt_or_le y (rUp w x) with z | z
    · exact z
    · exact absurd (down_max hw (up_short hw) z) c
  have e1 : rDown w y = rDown w x := Int.le_antisymm (down_max hw (down_short hw) (by omega)) d
  have e2 : rUp w y = rUp w x := Int.le_antisymm (up_min hw (up_short hw) (by omega)) u
  have fx := up_due ex
  have fy := up_due ey
  have eu : unitI y w = unitI x w := by
    have a1 : rDown w x = x / unitI x w * unitI x w := rfl
    have a2 : rDown w y = y / unitI y w * unitI y w := rfl
    omega
  have hu := unitI_pos x w
  have eq : y / unitI y w = x / unitI x w := by
    have : y / unitI y w * unitI y w = x / unitI x w * unitI x w := e1
    rw [eu] at this ⊢
    exact Int.eq_of_mul_eq_mul_right (by omega) this
  simp only [KNDS, List.mem_cons, List.not_mem_nil, or_false] at hk
  rcases hk with rfl | rfl | rfl | rfl | rfl
  · show rNear w x ≤ rNear w y
    rw [near_due ex, near_due ey, eq, eu]
    generalize x / unitI x w = q at *
    generalize q * unitI x w = p at *
    split <;> split <;> omega
  · have l0 : 0 ≤ y → 0 ≤ rDown w y := fun z => down_max hw (short_zero _) z
    have h0 : x ≤ 0 → rUp w x ≤ 0 := fun z => up_min hw (short_zero _) z
    show rCut w x ≤ rCut w y
    rw [cut_eq, cut_eq]
    split <;> split <;> omega
  · exact u
  · exact d
  · show rSticky w x ≤ rSticky w y
    rw [sticky_due ex, sticky_due ey, eq, eu]
    exact Int.le_refl _
/-- a number between its neighbours -/
theorem gap_facts {w x : Int} (hw : 1 ≤ w) (h : ¬ Short w.toNat x) : rDown w x < x ∧ x < rUp w x ∧ rUp w x - rDown w x = unitI x w ∧ rDown w x % unitI x w = 0 ∧ unitI x w * 2 ^ (w - 1).toNat ≤ x.natAbs ∧
    ((rNear w x - x).natAbs : Int) ≤ min (x - rDown w x) (rUp w x - x) ∧ ((rCut w x).natAbs : Int) ≤ min ((rDown w x).natAbs : Int) ((rUp w x).natAbs : Int) := by
  have ne : x / unitI x w * unitI x w ≠ x := fun e => h (by have := down_short (w := w) (x := x) hw; rw [show rDown w x = x from e] at this; exact this)
  have e1 := down_le w x
  have e2 := up_ge w x
  have hu := unitI_pos x w
  have e3 := up_due ne
  have e0 : rDown w x = x / unitI x w * unitI x w := rfl
  have lt := Int.lt_ediv_add_one_mul_self x hu
  rw [Int.add_mul, Int.one_mul] at lt
  have xne : x ≠ 0 := by rintro rfl; exact h (short_zero _)
  refine ⟨by omega, by omega, by omega, Int.mul_emod_left _ _, ?_, ?_, ?_⟩
  · obtain ⟨b, eb, hb⟩ := bl_lo xne
    have hlt : w.toNat < bl x := by
      rcases Nat.lt_or_ge w.toNat (bl x) with z | z
      · exact z
      · exact absurd ⟨0, Int.one_dvd _, bl_le.mpr z⟩ h
    unfold unitI
    rw [← Int.pow_add, show bl x - w.toNat + (w - 1).toNat = b by omega, pow2_cast]
    omega
  · rw [near_due ne]
    split <;> omega
  · have l0 : 0 ≤ x → 0 ≤ rDown w x := fun z => down_max hw (short_zero _) z
    have h0 : x ≤ 0 → rUp w x ≤ 0 := fun z => up_min hw (short_zero _) z
    rw [cut_eq]
    split <;> omega
/-- an odd number -/
theorem short_odd {n : Nat} {s : Int} (h : s % 2 = 1) : Short n s ↔ s.natAbs < 2 ^ n := by
  constructor
  · rintro ⟨k, h1, h2⟩
    cases k with
    | zero => exact h2
    | succ k =>
      obtain ⟨c, rfl⟩ := h1
      rw [Int.pow_succ, Int.mul_comm ((2 : Int) ^ k) 2, Int.mul_assoc, Int.mul_emod_right] at h
      cases h
  · exact fun h => ⟨0, Int.one_dvd _, h⟩
theorem short_half {n : Nat} {s : Int} (h : s % 2 = 0) (h0 : s ≠ 0) : Short n (s / 2) ↔ Short n s := by
  have e : s = 2 * (s / 2) := by omega
  constructor
  · rintro ⟨k, ⟨c, h1⟩, h2⟩
    refine ⟨k + 1, ⟨c, by rw [Int.pow_succ, Int.mul_comm _ 2, Int.mul_assoc, ← h1]; exact e⟩, ?_⟩
    rw [← Nat.add_assoc, Nat.pow_succ]
    omega
  · rintro ⟨k, ⟨c, h1⟩, h2⟩
    cases k with
    | zero =>
      exact ⟨0, Int.one_dvd _, by omega⟩
    | succ k =>
      refine ⟨k, ⟨c, ?_⟩, ?_⟩
      · rw [Int.pow_succ, Int.mul_comm _ 2, Int.mul_assoc] at h1
        omega
      · rw [← Nat.add_assoc, Nat.pow_succ] at h2
        omega

/-! the four words are unlike -/
theorem s_odd_two : ((("odd" : Str) = "two") : Prop) = False := eq_false (by decide +kernel)
theorem s_odd_still : ((("odd" : Str) = "still") : Prop) = False := eq_false (by decide +kernel)
theorem s_odd_merge : ((("odd" : Str) = "merge") : Prop) = False := eq_false (by decide +kernel)
theorem s_two_odd : ((("two" : Str) = "odd") : Prop) = False := eq_false (by decide +kernel)
theorem s_two_still : ((("two" : Str) = "still") : Prop) = False := eq_false (by decide +kernel)
theorem s_two_merge : ((("two" : Str) = "merge") : Prop) = False := eq_false (by decide +kernel)
theorem s_still_odd : ((("still" : Str) = "odd") : Prop) = False := eq_false (by decide +kernel)
theorem s_still_two : ((("still" : Str) = "two") : Prop) = False := eq_false (by decide +kernel)
theorem s_still_merge : ((("still" : Str) = "merge") : Prop) = False := eq_false (by decide +kernel)
theorem s_merge_odd : ((("merge" : Str) = "odd") : Prop) = False := eq_false (by decide +kernel)
theorem s_merge_two : ((("merge" : Str) = "two") : Prop) = False := eq_false (by decide +kernel)
theorem s_merge_still : ((("merge" : Str) = "still") : Prop) = False := eq_false (by decide +kernel)

/-! ### which traits roundings keep -/
def RS.keeps : RS → Str → Bool
  | .bit k _, x => decide (x = "two") || decide (x = "still") || (decide (x = "odd") && (decide (k = "Nearest") || decide (k = "Cut") || decide (k = "Sticky")))
  | .grid s, x => decide (s = 1) || decide (x = "odd") || decide (x = "still")
  | .clamp l h, x => decide (x = "still") || (decide (x = "odd") && decide (l + h = 0))
  | .wrap m l, x => if x = "odd" then decide (m % 2 = 1) && decide (l + m / 2 = 0) else decide (x = "still") || decide (x = "merge")
  | .rnd, _ => true
  | .thn a b, x => (decide (x = "odd") || decide (x = "two")) && a.keeps x && b.keeps x
def breaksB (r : RS) (n : Str) (x y : Int) : Bool :=
  if n = "odd" then !decide (r.f (0 - x) = 0 - r.f x) else if n = "two" then !decide (r.f (2 * x) = 2 * r.f x) else if n = "still" then !decide (r.f (r.f x) = r.f x) else !decide (r.f (r.f x + y) = r.f (x + y))
theorem brk_odd (r : RS) (x y : Int) : breaksB r "odd" x y = !decide (r.f (0 - x) = 0 - r.f x) := by simp [breaksB]
theorem brk_two (r : RS) (x y : Int) : breaksB r "two" x y = !decide (r.f (2 * x) = 2 * r.f x) := by simp [breaksB, s_odd_two, s_odd_still, s_odd_merge, s_two_odd, s_two_still, s_two_merge, s_still_odd, s_still_two, s_still_merge, s_merge_odd, s_merge_two, s_merge_still]
theorem brk_still (r : RS) (x y : Int) : breaksB r "still" x y = !decide (r.f (r.f x) = r.f x) := by simp [breaksB, s_odd_two, s_odd_still, s_odd_merge, s_two_odd, s_two_still, s_two_merge, s_still_odd, s_still_two, s_still_merge, s_merge_odd, s_merge_two, s_merge_still]
theorem brk_merge (r : RS) (x y : Int) : breaksB r "merge" x y = !decide (r.f (r.f x + y) = r.f (x + y)) := by simp [breaksB, s_odd_two, s_odd_still, s_odd_merge, s_two_odd, s_two_still, s_two_merge, s_still_odd, s_still_two, s_still_merge, s_merge_odd, s_merge_two, s_merge_still]
/-! odd -/
theorem sgn_neg {x A : Int} (h : x = 0 → A = 0) : sgn (0 - x) A = 0 - sgn x A := by
  unfold sgn
  by_cases hz : x = 0
  · have := h hz; subst hz; subst this; rfl
  · split <;> split <;> omega
theorem odd_near (w x : Int) : rNear w (0 - x) = 0 - rNear w x := by
  have hu := unitI_pos x w
  have e : ∀ A B : Int, A = B → sgn (0 - x) A = sgn (0 - x) B := fun A B h => by rw [h]
  unfold rNear
  rw [← sgn_neg]
  · refine e _ _ ?_
    unfold many
    rw [Int.zero_sub, unitI_neg, Int.natAbs_neg]
  · rintro rfl
    unfold many
    rw [show ((0 : Int).natAbs : Int) = 0 from rfl, Int.zero_ediv, Int.zero_mul, if_neg (by omega), Int.zero_mul]
theorem odd_cut (w x : Int) : rCut w (0 - x) = 0 - rCut w x := by
  have e : ∀ A B : Int, A = B → sgn (0 - x) A = sgn (0 - x) B := fun A B h => by rw [h]
  unfold rCut
  rw [← sgn_neg]
  · refine e _ _ ?_
    unfold many
    rw [Int.zero_sub, unitI_neg, Int.natAbs_neg]
  · rintro rfl
    unfold many
    rw [show ((0 : Int).natAbs : Int) = 0 from rfl, Int.zero_ediv, Int.zero_mul]
theorem odd_sticky (w x : Int) : rSticky w (0 - x) = 0 - rSticky w x := by
  have e : ∀ A B : Int, A = B → sgn (0 - x) A = sgn (0 - x) B := fun A B h => by rw [h]
  unfold rSticky
  rw [← sgn_neg]
  · refine e _ _ ?_
    unfold many
    rw [Int.zero_sub, unitI_neg, Int.natAbs_neg]
  · rintro rfl
    unfold many
    rw [show ((0 : Int).natAbs : Int) = 0 from rfl, Int.zero_ediv, Int.zero_mul, if_neg (by omega), Int.zero_mul]
theorem odd_grid {s : Int} (hs : 0 < s) (x : Int) : rGrid s (0 - x) = 0 - rGrid s x := by
  unfold rGrid
  rw [← sgn_neg]
  · rw [Int.zero_sub, Int.natAbs_neg]
  · rintro rfl
    rw [show ((0 : Int).natAbs : Int) = 0 from rfl, show (2 * (0 : Int) + s) / (2 * s) = 0 from Int.ediv_eq_zero_of_lt (by omega) (by omega), Int.zero_mul]
theorem wrap_uniq {m l x z : Int} (hm : 0 < m) (h1 : l ≤ z) (h2 : z < l + m) (h3 : (z - x) % m = 0) : z = rWrap m l x := by
  unfold rWrap
  have e : (z - l) % m = (x - l) % m := Int.emod_eq_emod_iff_emod_sub_eq_zero.mpr (by rw [show z - l - (x - l) = z - x by omega]; exact h3)
  have e2 : (z - l) % m = z - l := Int.emod_eq_of_lt (by omega) (by omega)
  omega
/-! two -/
theorem inexact13 {w x : Int} (hw : 1 ≤ w) (hs : ¬ Short w.toNat x) : x / unitI x w * unitI x w ≠ x := fun e => hs (by have := down_short (w := w) (x := x) hw; rw [show rDown w x = x from e] at this; exact this)
theorem bl_two {x : Int} (h : x ≠ 0) : bl (2 * x) = bl x + 1 := by
  obtain ⟨b, eb, hb⟩ := bl_lo h
  have hx : x.natAbs < 2 ^ bl x := bl_le.mpr (Nat.le_refl _)
  have h1 : bl (2 * x) ≤ bl x + 1 := bl_le.mp (by rw [Nat.pow_succ]; omega)
  have h2 : ¬ bl (2 * x) ≤ bl x := fun z => by
    have := bl_le.mpr z
    rw [eb, Nat.pow_succ] at this
    omega
  omega
theorem unit_two {w x : Int} (hw : 1 ≤ w) (hs : ¬ Short w.toNat x) : unitI (2 * x) w = 2 * unitI x w ∧ 2 * x / unitI (2 * x) w = x / unitI x w := by
  have hx : x ≠ 0 := by rintro rfl; exact hs (short_zero _)
  have hb : w.toNat < bl x := by
    rcases Nat.lt_or_ge w.toNat (bl x) with z | z
    · exact z
    · exact absurd ⟨0, Int.one_dvd _, bl_le.mpr z⟩ hs
  have e : unitI (2 * x) w = 2 * unitI x w := by
    unfold unitI
    rw [bl_two hx, show bl x + 1 - w.toNat = (bl x - w.toNat) + 1 by omega, Int.pow_succ, Int.mul_comm]
  exact ⟨e, by rw [e]; exact Int.mul_ediv_mul_of_pos x (unitI x w) (by decide)⟩
theorem short_twice {n : Nat} {x : Int} (h : Short n x) : Short n (2 * x) := by
  obtain ⟨k, ⟨c, h1⟩, h2⟩ := h
  refine ⟨k + 1, ⟨c, by rw [Int.pow_succ, Int.mul_comm _ 2, Int.mul_assoc, ← h1]⟩, ?_⟩
  rw [← Nat.add_assoc, Nat.pow_succ]; omega
theorem two_bits {w x : Int} {k : Str} (hk : k ∈ KNDS) (hw : 1 ≤ w) : rOf k w (2 * x) = 2 * rOf k w x := by
  by_cases hs : Short w.toNat x
  · rw [rOf_short hk hw hs, rOf_short hk hw (short_twice hs)]
  obtain ⟨e1, e2⟩ := unit_two hw hs
  have ne := inexact13 hw hs
  have e3 : x / unitI x w * (2 * unitI x w) = 2 * (x / unitI x w * unitI x w) := Int.mul_left_comm _ _ _
  have ne2 : 2 * x / unitI (2 * x) w * unitI (2 * x) w ≠ 2 * x := by rw [e2, e1, e3]; omega
  simp only [KNDS, List.mem_cons, List.not_mem_nil, or_false] at hk
  rcases hk with rfl | rfl | rfl | rfl | rfl
  · show rNear w (2 * x) = 2 * rNear w x
    rw [near_due ne, near_due ne2, e2, e1, e3]
    generalize x / unitI x w = q at *
    generalize q * unitI x w = p at *
    split <;> split <;> omega
  · show rCut w (2 * x) = 2 * rCut w x
    rw [cut_due ne, cut_due ne2, e2, e1, e3]
    generalize x / unitI x w = q at *
    generalize q * unitI x w = p at *
    split <;> split <;> omega
  · show rUp w (2 * x) = 2 * rUp w x
    rw [up_due ne, up_due ne2, e2, e1, e3]
    omega
  · show rDown w (2 * x) = 2 * rDown w x
    unfold rDown
    rw [e2, e1, e3]
  · show rSticky w (2 * x) = 2 * rSticky w x
    rw [sticky_due ne, sticky_due ne2, e2, e1, e3]
    generalize x / unitI x w = q at *
    generalize q * unitI x w = p at *
    split <;> omega
/-! still -/
theorem grid_mult {s x : Int} (hs : 0 < s) (h : x % s = 0) : rGrid s x = x := by
  obtain ⟨h1, h2⟩ := grid_ok (s := s) (x := x) hs
  have e : (rGrid s x - x) % s = 0 := by rw [Int.sub_emod, h1, h]; simp
  obtain ⟨c, hc⟩ := Int.dvd_of_emod_eq_zero e
  have : c = 0 := by
    rcases Int.lt_trichotomy c 0 with z | z | z
    · have : s * c ≤ s * (-1) := Int.mul_le_mul_of_nonneg_left (by omega) (by omega)
      omega
    · exact z
    · have : s * 1 ≤ s * c := Int.mul_le_mul_of_nonneg_left (by omega) (by omega)
      omega
  subst this
  omega
theorem grid_one (x : Int) : rGrid 1 x = x := grid_mult (by decide) (Int.emod_one x)
theorem wr_mod {m l a : Int} (h : 0 < m) : rWrap m l a % m = a % m := Int.emod_eq_emod_iff_emod_sub_eq_zero.mpr (wrap_ok h).2.2
theorem wr_eq {m l a b : Int} (h : a % m = b % m) : rWrap m l a = rWrap m l b := by
  unfold rWrap
  rw [Int.sub_emod a, h, ← Int.sub_emod]
theorem keeps_still {r : RS} (ok : r.ok) (h : r.keeps "still" = true) (x : Int) : r.f (r.f x) = r.f x := by
  cases r with
  | bit k w => exact rOf_short ok.1 ok.2.1 (rOf_is_short ok.1 ok.2.1)
  | grid s => exact grid_mult (by have := ok.1; omega) (grid_ok (by have := ok.1; omega)).1
  | clamp l u => obtain ⟨_, _, h1, h2⟩ := ok; show rClamp l u (rClamp l u x) = rClamp l u x; unfold rClamp; omega
  | wrap m l => exact wr_eq (wr_mod (by have := ok.1; omega))
  | rnd => rfl
  | thn a b => simp [RS.keeps, s_odd_two, s_odd_still, s_odd_merge, s_two_odd, s_two_still, s_two_merge, s_still_odd, s_still_two, s_still_merge, s_merge_odd, s_merge_two, s_merge_still] at h
theorem keeps_merge {r : RS} (ok : r.ok) (h : r.keeps "merge" = true) (x y : Int) : r.f (r.f x + y) = r.f (x + y) ∧ r.f (r.f x * y) = r.f (x * y) := by
  cases r with
  | bit k w => simp [RS.keeps, s_odd_two, s_odd_still, s_odd_merge, s_two_odd, s_two_still, s_two_merge, s_still_odd, s_still_two, s_still_merge, s_merge_odd, s_merge_two, s_merge_still] at h
  | grid s =>
    simp [RS.keeps, s_odd_two, s_odd_still, s_odd_merge, s_two_odd, s_two_still, s_two_merge, s_still_odd, s_still_two, s_still_merge, s_merge_odd, s_merge_two, s_merge_still] at h
    subst h
    show rGrid 1 (rGrid 1 x + y) = rGrid 1 (x + y) ∧ rGrid 1 (rGrid 1 x * y) = rGrid 1 (x * y)
    rw [grid_one x]; exact ⟨rfl, rfl⟩
  | clamp l u => simp [RS.keeps, s_odd_two, s_odd_still, s_odd_merge, s_two_odd, s_two_still, s_two_merge, s_still_odd, s_still_two, s_still_merge, s_merge_odd, s_merge_two, s_merge_still] at h
  | wrap m l =>
    have hm : 0 < m := by have := ok.1; omega
    exact ⟨wr_eq (by rw [Int.add_emod]; show (rWrap m l x % m + _) % m = _; rw [wr_mod hm, ← Int.add_emod]), wr_eq (by rw [Int.mul_emod]; show (rWrap m l x % m * _) % m = _; rw [wr_mod hm, ← Int.mul_emod])⟩
  | rnd => exact ⟨rfl, rfl⟩
  | thn a b => simp [RS.keeps, s_odd_two, s_odd_still, s_odd_merge, s_two_odd, s_two_still, s_two_merge, s_still_odd, s_still_two, s_still_merge, s_merge_odd, s_merge_two, s_merge_still] at h
theorem keeps_odd : ∀ {r : RS}, r.ok → r.keeps "odd" = true → ∀ x : Int, r.f (0 - x) = 0 - r.f x
  | .bit k w, ok, h, x => by
    simp [RS.keeps, s_odd_two, s_odd_still, s_odd_merge, s_two_odd, s_two_still, s_two_merge, s_still_odd, s_still_two, s_still_merge, s_merge_odd, s_merge_two, s_merge_still] at h
    rcases h with (h | h) | h <;> subst h
    · exact odd_near w x
    · exact odd_cut w x
    · exact odd_sticky w x
  | .grid s, ok, h, x => odd_grid (by have := ok.1; omega) x
  | .clamp l u, ok, h, x => by
    simp [RS.keeps, s_odd_two, s_odd_still, s_odd_merge, s_two_odd, s_two_still, s_two_merge, s_still_odd, s_still_two, s_still_merge, s_merge_odd, s_merge_two, s_merge_still] at h
    obtain ⟨_, _, h1, h2⟩ := ok
    show rClamp l u (0 - x) = 0 - rClamp l u x
    unfold rClamp; omega
  | .wrap m l, ok, h, x => by
    simp [RS.keeps, s_odd_two, s_odd_still, s_odd_merge, s_two_odd, s_two_still, s_two_merge, s_still_odd, s_still_two, s_still_merge, s_merge_odd, s_merge_two, s_merge_still] at h
    have hm : 0 < m := by have := ok.1; omega
    obtain ⟨w1, w2, w3⟩ := wrap_ok (l := l) (x := x) hm
    refine (wrap_uniq hm ?_ ?_ ?_).symm
    · show l ≤ 0 - rWrap m l x; omega
    · show 0 - rWrap m l x < l + m; omega
    · show (0 - rWrap m l x - (0 - x)) % m = 0
      rw [show 0 - rWrap m l x - (0 - x) = -(rWrap m l x - x) by omega]
      exact Int.emod_eq_zero_of_dvd (Int.dvd_neg.mpr (Int.dvd_of_emod_eq_zero w3))
  | .rnd, _, _, _ => rfl
  | .thn a b, ok, h, x => by
    simp [RS.keeps] at h
    show b.f (a.f (0 - x)) = 0 - b.f (a.f x)
    rw [keeps_odd ok.1 h.1, keeps_odd ok.2 h.2]
theorem keeps_two : ∀ {r : RS}, r.ok → r.keeps "two" = true → ∀ x : Int, r.f (2 * x) = 2 * r.f x
  | .bit k w, ok, h, x => two_bits ok.1 ok.2.1
  | .grid s, ok, h, x => by
    simp [RS.keeps, s_odd_two, s_odd_still, s_odd_merge, s_two_odd, s_two_still, s_two_merge, s_still_odd, s_still_two, s_still_merge, s_merge_odd, s_merge_two, s_merge_still] at h
    subst h
    show rGrid 1 (2 * x) = 2 * rGrid 1 x
    rw [grid_one, grid_one]
  | .clamp l u, ok, h, x => by simp [RS.keeps, s_odd_two, s_odd_still, s_odd_merge, s_two_odd, s_two_still, s_two_merge, s_still_odd, s_still_two, s_still_merge, s_merge_odd, s_merge_two, s_merge_still] at h
  | .wrap m l, ok, h, x => by simp [RS.keeps, s_odd_two, s_odd_still, s_odd_merge, s_two_odd, s_two_still, s_two_merge, s_still_odd, s_still_two, s_still_merge, s_merge_odd, s_merge_two, s_merge_still] at h
  | .rnd, _, _, _ => rfl
  | .thn a b, ok, h, x => by
    simp [RS.keeps, s_odd_two, s_odd_still, s_odd_merge, s_two_odd, s_two_still, s_two_merge, s_still_odd, s_still_two, s_still_merge, s_merge_odd, s_merge_two, s_merge_still] at h
    show b.f (a.f (2 * x)) = 2 * b.f (a.f x)
    rw [keeps_two ok.1 h.1, keeps_two ok.2 h.2]
/-- a kept trait is not broken -/
theorem kept_not {r : RS} (ok : r.ok) {n : Str} (hn : n ∈ WDS) (h : r.keeps n = true) (x y : Int) : breaksB r n x y = false := by
  simp only [WDS, List.mem_cons, List.not_mem_nil, or_false] at hn
  rcases hn with rfl | rfl | rfl | rfl
  · rw [brk_odd, keeps_odd ok h]; simp
  · rw [brk_two, keeps_two ok h]; simp
  · rw [brk_still, keeps_still ok h]; simp
  · rw [brk_merge, (keeps_merge ok h x y).1]; simp
/-! witnesses -/
theorem grid_at {s x c : Int} (hs : 0 < s) (hx : 0 ≤ x) (h1 : 2 * s * c ≤ 2 * x + s) (h2 : 2 * x + s < 2 * s * c + 2 * s) : rGrid s x = c * s := by
  unfold rGrid sgn
  rw [if_neg (by omega), show ((x.natAbs : Nat) : Int) = x by omega]
  have : (2 * x + s) / (2 * s) = c := ((Int.ediv_emod_unique (show 0 < 2 * s by omega) (q := c) (r := 2 * x + s - 2 * s * c)).mpr ⟨by omega, by omega, by omega⟩).1
  rw [this]
theorem pow_short {n : Nat} (h : 1 ≤ n) : Short n ((2 : Int) ^ n) := ⟨n, Int.dvd_refl _, by rw [Int.natAbs_pow]; exact Nat.pow_lt_pow_right (by decide) (by omega)⟩
/-- the number behind the greatest one of so many digits -/
theorem bits_next {w : Int} (hw : 1 ≤ w) : ¬ Short w.toNat (2 ^ w.toNat + 1) ∧ rDown w (2 ^ w.toNat + 1) = 2 ^ w.toNat ∧ rUp w (2 ^ w.toNat + 1) = 2 ^ w.toNat + 2 := by
  have p : (0 : Int) < 2 ^ w.toNat := Int.pow_pos (by decide)
  have e : (2 : Int) ^ w.toNat = 2 * 2 ^ (w.toNat - 1) := by rw [Int.mul_comm, ← Int.pow_succ]; congr 1; omega
  have hs : ¬ Short w.toNat (2 ^ w.toNat + 1) := by
    rw [short_odd (by omega)]
    have := pow2_cast w.toNat
    omega
  obtain ⟨g1, g2, g3, _⟩ := gap_facts hw hs
  have eb : bl ((2 : Int) ^ w.toNat + 1) = w.toNat + 1 := by
    have c := pow2_cast w.toNat
    have h1 : bl ((2 : Int) ^ w.toNat + 1) ≤ w.toNat + 1 := bl_le.mp (by
      have : 1 < 2 ^ w.toNat := Nat.one_lt_two_pow (by omega)
      rw [Nat.pow_succ]; omega)
    have h2 : ¬ bl ((2 : Int) ^ w.toNat + 1) ≤ w.toNat := fun z => by have := bl_le.mpr z; omega
    omega
  have eu : unitI (2 ^ w.toNat + 1) w = 2 := by unfold unitI; rw [eb, show w.toNat + 1 - w.toNat = 1 by omega]; rfl
  have h1 := down_max hw (pow_short (show 1 ≤ w.toNat by omega)) (show (2 : Int) ^ w.toNat ≤ 2 ^ w.toNat + 1 by omega)
  refine ⟨hs, by omega, by omega⟩
theorem wit_bits {k : Str} {w : Int} (ok : (RS.bit k w).ok) {n : Str} (hn : n ∈ WDS) (h : (RS.bit k w).keeps n = false) : breaksB (.bit k w) n (2 ^ w.toNat + 1) (0 - 2 ^ w.toNat) = true := by
  obtain ⟨hk, w1, w2⟩ := ok
  obtain ⟨b1, b2, b3⟩ := bits_next w1
  simp only [WDS, List.mem_cons, List.not_mem_nil, or_false] at hn
  rcases hn with rfl | rfl | rfl | rfl
  · simp [RS.keeps, s_odd_two, s_odd_still, s_odd_merge, s_two_odd, s_two_still, s_two_merge, s_still_odd, s_still_two, s_still_merge, s_merge_odd, s_merge_two, s_merge_still] at h
    rw [brk_odd]
    simp only [Bool.not_eq_true', decide_eq_false_iff_not]
    simp only [KNDS, List.mem_cons, List.not_mem_nil, or_false] at hk
    rcases hk with rfl | rfl | rfl | rfl | rfl
    · exact absurd rfl h.1.1
    · exact absurd rfl h.1.2
    · show ¬ rUp w (0 - (2 ^ w.toNat + 1)) = 0 - rUp w (2 ^ w.toNat + 1)
      rw [Int.zero_sub, up_neg, b2, b3]; omega
    · show ¬ rDown w (0 - (2 ^ w.toNat + 1)) = 0 - rDown w (2 ^ w.toNat + 1)
      have := up_neg w (-(2 ^ w.toNat + 1))
      rw [Int.neg_neg, b3] at this
      rw [Int.zero_sub, b2]; omega
    · exact absurd rfl h.2
  · simp [RS.keeps, s_odd_two, s_odd_still, s_odd_merge, s_two_odd, s_two_still, s_two_merge, s_still_odd, s_still_two, s_still_merge, s_merge_odd, s_merge_two, s_merge_still] at h
  · simp [RS.keeps, s_odd_two, s_odd_still, s_odd_merge, s_two_odd, s_two_still, s_two_merge, s_still_odd, s_still_two, s_still_merge, s_merge_odd, s_merge_two, s_merge_still] at h
  · rw [brk_merge]
    simp only [Bool.not_eq_true', decide_eq_false_iff_not]
    show ¬ rOf k w (rOf k w (2 ^ w.toNat + 1) + (0 - 2 ^ w.toNat)) = rOf k w (2 ^ w.toNat + 1 + (0 - 2 ^ w.toNat))
    have n1 : 1 ≤ w.toNat := by omega
    have e1 : (2 : Int) ^ w.toNat + 1 + (0 - 2 ^ w.toNat) = 1 := by omega
    have s1 : Short w.toNat 1 := ⟨0, Int.one_dvd _, by show 1 < 2 ^ (w.toNat + 0); exact Nat.one_lt_two_pow (by omega)⟩
    rw [e1, rOf_short hk w1 s1]
    rcases rOf_two (w := w) (x := 2 ^ w.toNat + 1) hk with z | z
    · rw [z, b2, show (2 : Int) ^ w.toNat + (0 - 2 ^ w.toNat) = 0 by omega, rOf_short hk w1 (short_zero _)]; decide
    · rw [z, b3, show (2 : Int) ^ w.toNat + 2 + (0 - 2 ^ w.toNat) = 2 by omega, rOf_short hk w1 (show Short w.toNat 2 from short_twice s1)]; decide
theorem wit_grid {s : Int} (ok : (RS.grid s).ok) {n : Str} (hn : n ∈ WDS) (h : (RS.grid s).keeps n = false) : breaksB (.grid s) n (if n = "two" then max 1 ((s - 1) / 2) else 1) (if n = "two" then 0 else max 1 ((s - 1) / 2)) = true := by
  obtain ⟨s1, s2⟩ := ok
  have hs : s ≠ 1 := by rintro rfl; simp [RS.keeps] at h
  have two : ∀ x c : Int, 0 ≤ x → 2 * s * c ≤ 2 * x + s → 2 * x + s < 2 * s * c + 2 * s → rGrid s x = c * s := fun x c => grid_at (by omega)
  simp only [WDS, List.mem_cons, List.not_mem_nil, or_false] at hn
  rcases hn with rfl | rfl | rfl | rfl
  · simp [RS.keeps] at h
  · rw [if_pos rfl, if_pos rfl, brk_two]
    simp only [Bool.not_eq_true', decide_eq_false_iff_not]
    show ¬ rGrid s (2 * max 1 ((s - 1) / 2)) = 2 * rGrid s (max 1 ((s - 1) / 2))
    by_cases h2 : s = 2
    · subst h2; decide
    · rw [two (max 1 ((s - 1) / 2)) 0 (by omega) (by omega) (by omega), two (2 * max 1 ((s - 1) / 2)) 1 (by omega) (by omega) (by omega)]; omega
  · simp [RS.keeps] at h
  · rw [if_neg (by simp [s_odd_two, s_odd_still, s_odd_merge, s_two_odd, s_two_still, s_two_merge, s_still_odd, s_still_two, s_still_merge, s_merge_odd, s_merge_two, s_merge_still]), if_neg (by simp [s_odd_two, s_odd_still, s_odd_merge, s_two_odd, s_two_still, s_two_merge, s_still_odd, s_still_two, s_still_merge, s_merge_odd, s_merge_two, s_merge_still]), brk_merge]
    simp only [Bool.not_eq_true', decide_eq_false_iff_not]
    show ¬ rGrid s (rGrid s 1 + max 1 ((s - 1) / 2)) = rGrid s (1 + max 1 ((s - 1) / 2))
    by_cases h2 : s = 2
    · subst h2; decide
    · rw [two 1 0 (by omega) (by omega) (by omega), Int.zero_mul, Int.zero_add, two (max 1 ((s - 1) / 2)) 0 (by omega) (by omega) (by omega), two (1 + max 1 ((s - 1) / 2)) 1 (by omega) (by omega) (by omega)]; omega
theorem wit_clamp {l u : Int} (ok : (RS.clamp l u).ok) {n : Str} (hn : n ∈ WDS) (h : (RS.clamp l u).keeps n = false) :
    breaksB (.clamp l u) n (if n = "two" then u else if n = "merge" then u + 1 else max u (0 - l) + 1) (if n = "merge" then -1 else 0) = true := by
  obtain ⟨_, _, h1, h2⟩ := ok
  simp only [WDS, List.mem_cons, List.not_mem_nil, or_false] at hn
  rcases hn with rfl | rfl | rfl | rfl
  · simp [RS.keeps, s_odd_two, s_odd_still, s_odd_merge, s_two_odd, s_two_still, s_two_merge, s_still_odd, s_still_two, s_still_merge, s_merge_odd, s_merge_two, s_merge_still] at h
    rw [brk_odd]
    simp only [Bool.not_eq_true', decide_eq_false_iff_not, s_odd_two, s_odd_still, s_odd_merge, s_two_odd, s_two_still, s_two_merge, s_still_odd, s_still_two, s_still_merge, s_merge_odd, s_merge_two, s_merge_still, if_false]
    show ¬ rClamp l u (0 - (max u (0 - l) + 1)) = 0 - rClamp l u (max u (0 - l) + 1)
    unfold rClamp; omega
  · rw [brk_two]
    simp only [Bool.not_eq_true', decide_eq_false_iff_not, if_true]
    show ¬ rClamp l u (2 * u) = 2 * rClamp l u u
    unfold rClamp; omega
  · simp [RS.keeps] at h
  · rw [brk_merge]
    simp only [Bool.not_eq_true', decide_eq_false_iff_not, s_odd_two, s_odd_still, s_odd_merge, s_two_odd, s_two_still, s_two_merge, s_still_odd, s_still_two, s_still_merge, s_merge_odd, s_merge_two, s_merge_still, if_false, if_true]
    show ¬ rClamp l u (rClamp l u (u + 1) + -1) = rClamp l u (u + 1 + -1)
    unfold rClamp; omega
def wrapWit (m l : Int) (n : Str) : Int := if (n = "two" ∧ 0 < l + m - 1) ∨ (n = "odd" ∧ 0 < l + (l + m - 1)) then l + m - 1 else l
theorem wit_wrap {m l : Int} (ok : (RS.wrap m l).ok) {n : Str} (hn : n ∈ WDS) (h : (RS.wrap m l).keeps n = false) : breaksB (.wrap m l) n (wrapWit m l n) 0 = true := by
  obtain ⟨h1, _, _⟩ := ok
  have hm : 0 < m := by omega
  have r := fun x => wrap_ok (l := l) (x := x) hm
  have top : rWrap m l (l + m - 1) = l + m - 1 := (wrap_uniq hm (by omega) (by omega) (by simp)).symm
  have low : rWrap m l l = l := (wrap_uniq hm (by omega) (by omega) (by simp)).symm
  simp only [WDS, List.mem_cons, List.not_mem_nil, or_false] at hn
  rcases hn with rfl | rfl | rfl | rfl
  · simp [RS.keeps, s_odd_two, s_odd_still, s_odd_merge, s_two_odd, s_two_still, s_two_merge, s_still_odd, s_still_two, s_still_merge, s_merge_odd, s_merge_two, s_merge_still] at h
    rw [brk_odd]
    simp only [Bool.not_eq_true', decide_eq_false_iff_not, wrapWit, s_odd_two, s_odd_still, s_odd_merge, s_two_odd, s_two_still, s_two_merge, s_still_odd, s_still_two, s_still_merge, s_merge_odd, s_merge_two, s_merge_still, false_and, false_or, true_and]
    show ¬ rWrap m l (0 - _) = 0 - rWrap m l _
    split
    · have := r (0 - (l + m - 1)); rw [top]; omega
    · have := r (0 - l); rw [low]; omega
  · rw [brk_two]
    simp only [Bool.not_eq_true', decide_eq_false_iff_not, wrapWit, s_odd_two, s_odd_still, s_odd_merge, s_two_odd, s_two_still, s_two_merge, s_still_odd, s_still_two, s_still_merge, s_merge_odd, s_merge_two, s_merge_still, false_and, or_false, true_and]
    show ¬ rWrap m l (2 * _) = 2 * rWrap m l _
    split
    · have := r (2 * (l + m - 1)); rw [top]; omega
    · have := r (2 * l); rw [low]; omega
  · simp [RS.keeps, s_odd_two, s_odd_still, s_odd_merge, s_two_odd, s_two_still, s_two_merge, s_still_odd, s_still_two, s_still_merge, s_merge_odd, s_merge_two, s_merge_still] at h
  · simp [RS.keeps, s_odd_two, s_odd_still, s_odd_merge, s_two_odd, s_two_still, s_two_merge, s_still_odd, s_still_two, s_still_merge, s_merge_odd, s_merge_two, s_merge_still] at h

theorem kp3 {k x : Str} {w : Int} (h : (decide (k = "Nearest") || decide (k = "Cut") || decide (k = "Sticky")) = true) : decide (x ∈ (["odd", "two", "still"] : List Str)) = (RS.bit k w).keeps x := by
  unfold RS.keeps
  rw [h]
  simp only [List.mem_cons, List.not_mem_nil, or_false, Bool.decide_or]
  cases decide (x = "odd") <;> cases decide (x = "two") <;> cases decide (x = "still") <;> rfl
theorem kp2 {k x : Str} {w : Int} (h : (decide (k = "Nearest") || decide (k = "Cut") || decide (k = "Sticky")) = false) : decide (x ∈ (["two", "still"] : List Str)) = (RS.bit k w).keeps x := by
  unfold RS.keeps
  rw [h]
  simp only [List.mem_cons, List.not_mem_nil, or_false, Bool.decide_or]
  cases decide (x = "odd") <;> cases decide (x = "two") <;> cases decide (x = "still") <;> rfl
def sp_Nearest_keeps : SpD := fun ds G Q _ => ∃ (w : Int) (x : Str), ds = [bitO "Nearest" w, .str x] ∧ Q (.bl ((RS.bit "Nearest" w).keeps x)) G
theorem len_Nearest_keeps : LN sp_Nearest_keeps 2 := by rintro ds G Q E ⟨w, x, rfl, _⟩; rfl
def N_Nearest_keeps : List Str := ["self", "word"]
def t_Nearest_keeps : TSD := (dRet (dOp (iAny false) (dVar 1) (dTup (dCons (dC (.str "odd")) (dCons (dC (.str "two")) (dCons (dC (.str "still")) dNil))))))
theorem vc_Nearest_keeps : VC sp_Nearest_keeps N_Nearest_keeps t_Nearest_keeps := by
  rintro ds G Q EX ⟨w, x, rfl, hq⟩
  walk_at "go Nearest_keeps"
  rw [show decide (x ∈ (["odd", "two", "still"] : List Str)) = (RS.bit "Nearest" w).keeps x from kp3 (by decide +kernel)]
  exact hq
def sp_Cut_keeps : SpD := fun ds G Q _ => ∃ (w : Int) (x : Str), ds = [bitO "Cut" w, .str x] ∧ Q (.bl ((RS.bit "Cut" w).keeps x)) G
theorem len_Cut_keeps : LN sp_Cut_keeps 2 := by rintro ds G Q E ⟨w, x, rfl, _⟩; rfl
def N_Cut_keeps : List Str := ["self", "word"]
def t_Cut_keeps : TSD := (dRet (dOp (iAny false) (dVar 1) (dTup (dCons (dC (.str "odd")) (dCons (dC (.str "two")) (dCons (dC (.str "still")) dNil))))))
theorem vc_Cut_keeps : VC sp_Cut_keeps N_Cut_keeps t_Cut_keeps := by
  rintro ds G Q EX ⟨w, x, rfl, hq⟩
  walk_at "go Cut_keeps"
  rw [show decide (x ∈ (["odd", "two", "still"] : List Str)) = (RS.bit "Cut" w).keeps x from kp3 (by decide +kernel)]
  exact hq
def sp_Sticky_keeps : SpD := fun ds G Q _ => ∃ (w : Int) (x : Str), ds = [bitO "Sticky" w, .str x] ∧ Q (.bl ((RS.bit "Sticky" w).keeps x)) G
theorem len_Sticky_keeps : LN sp_Sticky_keeps 2 := by rintro ds G Q E ⟨w, x, rfl, _⟩; rfl
def N_Sticky_keeps : List Str := ["self", "word"]
def t_Sticky_keeps : TSD := (dRet (dOp (iAny false) (dVar 1) (dTup (dCons (dC (.str "odd")) (dCons (dC (.str "two")) (dCons (dC (.str "still")) dNil))))))
theorem vc_Sticky_keeps : VC sp_Sticky_keeps N_Sticky_keeps t_Sticky_keeps := by
  rintro ds G Q EX ⟨w, x, rfl, hq⟩
  walk_at "go Sticky_keeps"
  rw [show decide (x ∈ (["odd", "two", "still"] : List Str)) = (RS.bit "Sticky" w).keeps x from kp3 (by decide +kernel)]
  exact hq
def sp_Up_keeps : SpD := fun ds G Q _ => ∃ (w : Int) (x : Str), ds = [bitO "Up" w, .str x] ∧ Q (.bl ((RS.bit "Up" w).keeps x)) G
theorem len_Up_keeps : LN sp_Up_keeps 2 := by rintro ds G Q E ⟨w, x, rfl, _⟩; rfl
def N_Up_keeps : List Str := ["self", "word"]
def t_Up_keeps : TSD := (dRet (dOp (iAny false) (dVar 1) (dTup (dCons (dC (.str "two")) (dCons (dC (.str "still")) dNil)))))
theorem vc_Up_keeps : VC sp_Up_keeps N_Up_keeps t_Up_keeps := by
  rintro ds G Q EX ⟨w, x, rfl, hq⟩
  walk_at "go Up_keeps"
  rw [show decide (x ∈ (["two", "still"] : List Str)) = (RS.bit "Up" w).keeps x from kp2 (by decide +kernel)]
  exact hq
def sp_Down_keeps : SpD := fun ds G Q _ => ∃ (w : Int) (x : Str), ds = [bitO "Down" w, .str x] ∧ Q (.bl ((RS.bit "Down" w).keeps x)) G
theorem len_Down_keeps : LN sp_Down_keeps 2 := by rintro ds G Q E ⟨w, x, rfl, _⟩; rfl
def N_Down_keeps : List Str := ["self", "word"]
def t_Down_keeps : TSD := (dRet (dOp (iAny false) (dVar 1) (dTup (dCons (dC (.str "two")) (dCons (dC (.str "still")) dNil)))))
theorem vc_Down_keeps : VC sp_Down_keeps N_Down_keeps t_Down_keeps := by
  rintro ds G Q EX ⟨w, x, rfl, hq⟩
  walk_at "go Down_keeps"
  rw [show decide (x ∈ (["two", "still"] : List Str)) = (RS.bit "Down" w).keeps x from kp2 (by decide +kernel)]
  exact hq
theorem or_two {x a b : Str} : decide (x ∈ ([a, b] : List Str)) = (decide (x = a) || decide (x = b)) := by simp only [List.mem_cons, List.not_mem_nil, or_false, Bool.decide_or]
def sp_Grid_keeps : SpD := fun ds G Q _ => ∃ (s : Int) (x : Str), ds = [gridO s, .str x] ∧ Q (.bl ((RS.grid s).keeps x)) G
theorem len_Grid_keeps : LN sp_Grid_keeps 2 := by rintro ds G Q E ⟨s, x, rfl, _⟩; rfl
def N_Grid_keeps : List Str := ["self", "word"]
def t_Grid_keeps : TSD := (dRet (dOrV (dOp (eAny false) (dFld ["Grid"] "step" (dVar 0)) (dC (.int 1))) (dOp (iAny false) (dVar 1) (dTup (dCons (dC (.str "odd")) (dCons (dC (.str "still")) dNil))))))
theorem vc_Grid_keeps : VC sp_Grid_keeps N_Grid_keeps t_Grid_keeps := by
  rintro ds G Q EX ⟨s, x, rfl, hq⟩
  walk_at "go Grid_keeps"
  rw [or_two, ← Bool.or_assoc]
  exact hq
def sp_Clamp_keeps : SpD := fun ds G Q _ => ∃ (l u : Int) (x : Str), ds = [clampO l u, .str x] ∧ Q (.bl ((RS.clamp l u).keeps x)) G
theorem len_Clamp_keeps : LN sp_Clamp_keeps 2 := by rintro ds G Q E ⟨l, u, x, rfl, _⟩; rfl
def N_Clamp_keeps : List Str := ["self", "word"]
def t_Clamp_keeps : TSD := (dRet (dOrV (dOp (eAny false) (dVar 1) (dC (.str "still"))) (dAndV (dOp (eAny false) (dVar 1) (dC (.str "odd"))) (dOp (eAny false) (dOp aAny (dFld ["Clamp"] "low" (dVar 0)) (dFld ["Clamp"] "high" (dVar 0))) (dC (.int 0))))))
theorem vc_Clamp_keeps : VC sp_Clamp_keeps N_Clamp_keeps t_Clamp_keeps := by
  rintro ds G Q EX ⟨l, u, x, rfl, hq⟩
  walk_at "go Clamp_keeps"
  exact hq
def sp_Wrap_keeps : SpD := fun ds G Q _ => ∃ (m l : Int) (x : Str), ds = [wrapO m l, .str x] ∧ Q (.bl ((RS.wrap m l).keeps x)) G
theorem len_Wrap_keeps : LN sp_Wrap_keeps 2 := by rintro ds G Q E ⟨m, l, x, rfl, _⟩; rfl
def N_Wrap_keeps : List Str := ["self", "word"]
abbrev t_Wrap_keeps_1 : TSD := (dRet (dAndV (dOp (eAny false) (dOp aMod (dFld ["Wrap"] "modulus" (dVar 0)) (dC (.int 2))) (dC (.int 1))) (dOp (eAny false) (dOp aAny (dFld ["Wrap"] "low" (dVar 0)) (dOp aDiv (dFld ["Wrap"] "modulus" (dVar 0)) (dC (.int 2)))) (dC (.int 0)))))
def t_Wrap_keeps : TSD := (dSeq (dIfS (dTest (dOp (eAny false) (dVar 1) (dC (.str "odd"))))
  t_Wrap_keeps_1
  dNext)
  (dRet (dOp (iAny false) (dVar 1) (dTup (dCons (dC (.str "still")) (dCons (dC (.str "merge")) dNil))))))
theorem vc_Wrap_keeps : VC sp_Wrap_keeps N_Wrap_keeps t_Wrap_keeps := by
  rintro ds G Q EX ⟨m, l, x, rfl, hq⟩
  have e : (RS.wrap m l).keeps x = if x = "odd" then decide (m % 2 = 1) && decide (l + m / 2 = 0) else decide (x = "still") || decide (x = "merge") := rfl
  rw [e] at hq
  walk_at "go Wrap_keeps"
  refine st_ite (fun h => ?_) (fun h => ?_)
  · rw [if_pos h] at hq
    walk_at "d"
    exact hq
  · rw [if_neg h] at hq
    walk_at "d"
    rw [or_two]
    exact hq
def sp_Rounding_keeps : SpD := fun ds G Q _ => ∃ (x : Str), ds = [RS.rnd.obj, .str x] ∧ x ∈ WDS ∧ Q (.bl true) G
theorem len_Rounding_keeps : LN sp_Rounding_keeps 2 := by rintro ds G Q E ⟨x, rfl, _⟩; rfl
def N_Rounding_keeps : List Str := ["self", "word"]
def t_Rounding_keeps : TSD := (dRet (dOp (iAny false) (dVar 1) (dTup (dCons (dC (.str "odd")) (dCons (dC (.str "two")) (dCons (dC (.str "still")) (dCons (dC (.str "merge")) dNil)))))))
theorem vc_Rounding_keeps : VC sp_Rounding_keeps N_Rounding_keeps t_Rounding_keeps := by
  rintro ds G Q EX ⟨x, rfl, hx, hq⟩
  walk_at "go Rounding_keeps"
  rw [show decide (x ∈ (["odd", "two", "still", "merge"] : List Str)) = true from decide_eq_true hx]
  exact hq
def sp_Then_keeps (d : Nat) : SpD := fun ds G Q _ => ∃ (a b : RS) (x : Str), ds = [(RS.thn a b).obj, .str x] ∧ (RS.thn a b).dep ≤ d ∧ (RS.thn a b).ok ∧ x ∈ WDS ∧ Q (.bl ((RS.thn a b).keeps x)) G
theorem len_Then_keeps (d : Nat) : LN (sp_Then_keeps d) 2 := by rintro ds G Q E ⟨a, b, x, rfl, _⟩; rfl
theorem no_Then_keeps : ∀ ds G Q E, ¬ sp_Then_keeps 0 ds G Q E := by
  rintro ds G Q E ⟨a, b, x, rfl, h, _⟩
  simp [RS.dep] at h
abbrev KT (rs : SpD) : List (Str × SpD) := [("Nearest", sp_Nearest_keeps), ("Cut", sp_Cut_keeps), ("Up", sp_Up_keeps), ("Down", sp_Down_keeps), ("Sticky", sp_Sticky_keeps), ("Grid", sp_Grid_keeps), ("Clamp", sp_Clamp_keeps), ("Wrap", sp_Wrap_keeps), ("Rounding", sp_Rounding_keeps), ("Then", rs)]
/-- the method keeps of a rounding, whichever it is -/
theorem keeps_at {r : RS} {rs : SpD} {d : Nat} (hrs : ∀ a b, r = .thn a b → rs = sp_Then_keeps d) (hd : r.dep ≤ d) (ok : r.ok) {x : Str} (hx : x ∈ WDS) : ∃ c sp ns ds, r.obj = .obj c ns ds ∧ lk "keeps" ns ds = none ∧ (c, sp) ∈ KT rs ∧ ∀ G Q E, Q (.bl (r.keeps x)) G → sp [r.obj, .str x] G Q E := by
  have l1 : ∀ v, lk "keeps" ["bits"] [v] = none := fun v => lk_not (by decide +kernel) lk_nil
  cases r with
  | bit k w =>
    have hk := ok.1
    simp only [KNDS, List.mem_cons, List.not_mem_nil, or_false] at hk
    rcases hk with rfl | rfl | rfl | rfl | rfl
    · exact ⟨_, sp_Nearest_keeps, _, _, rfl, l1 _, by simp, fun G Q E q => ⟨w, x, rfl, q⟩⟩
    · exact ⟨_, sp_Cut_keeps, _, _, rfl, l1 _, by simp, fun G Q E q => ⟨w, x, rfl, q⟩⟩
    · exact ⟨_, sp_Up_keeps, _, _, rfl, l1 _, by simp, fun G Q E q => ⟨w, x, rfl, q⟩⟩
    · exact ⟨_, sp_Down_keeps, _, _, rfl, l1 _, by simp, fun G Q E q => ⟨w, x, rfl, q⟩⟩
    · exact ⟨_, sp_Sticky_keeps, _, _, rfl, l1 _, by simp, fun G Q E q => ⟨w, x, rfl, q⟩⟩
  | grid s => exact ⟨_, sp_Grid_keeps, _, _, rfl, lk_not (by decide +kernel) lk_nil, by simp, fun G Q E q => ⟨s, x, rfl, q⟩⟩
  | clamp l h => exact ⟨_, sp_Clamp_keeps, _, _, rfl, lk_not (by decide +kernel) (lk_not (by decide +kernel) lk_nil), by simp, fun G Q E q => ⟨l, h, x, rfl, q⟩⟩
  | wrap m l => exact ⟨_, sp_Wrap_keeps, _, _, rfl, lk_not (by decide +kernel) (lk_not (by decide +kernel) lk_nil), by simp, fun G Q E q => ⟨m, l, x, rfl, q⟩⟩
  | rnd => exact ⟨_, sp_Rounding_keeps, _, _, rfl, lk_nil, by simp, fun G Q E q => ⟨x, rfl, hx, q⟩⟩
  | thn a b =>
    exact ⟨_, rs, _, _, rfl, lk_not (by decide +kernel) (lk_not (by decide +kernel) lk_nil), by simp, fun G Q E q => by rw [hrs a b rfl]; exact ⟨a, b, x, rfl, hd, ok, hx, q⟩⟩
section
variable {r : RS} {rs : SpD} {d : Nat} {σ : SD} {G : HH} {Q : QD} {E : ED} {t : TAD} {x : Str}
theorem st_keeps (hrs : ∀ a b, r = .thn a b → rs = sp_Then_keeps d) (hd : r.dep ≤ d) (ok : r.ok) (hx : x ∈ WDS) (ht : ∀ Q' : List D → HH → Prop, Q' [.str x] G → t σ G Q' E) (q : Q (.bl (r.keeps x)) G) :
    ∃ c' sp ns' ds', InsD G r.obj c' ns' ds' ∧ lk "keeps" ns' ds' = none ∧ (c', sp) ∈ KT rs ∧ t σ G (fun as G2 => sp (r.obj :: as) G2 Q E) E := by
  obtain ⟨c, sp, ns, ds, e, h1, h2, h3⟩ := keeps_at hrs hd ok hx
  refine ⟨c, sp, ns, ds, by rw [e]; exact .obj _ _ _, h1, h2, ht _ (h3 _ _ _ q)⟩
theorem st_keepsK (hrs : ∀ a b, r = .thn a b → rs = sp_Then_keeps d) (hd : r.dep ≤ d) (ok : r.ok) (hx : x ∈ WDS) (ht : ∀ Q' : List D → HH → Prop, Q' [.str x] G → t σ G Q' E) (q : Q (.bl (r.keeps x)) G) :
    ∃ c' sp ns' ds', InsD G r.obj c' ns' ds' ∧ lk "keeps" ns' ds' = none ∧ (c', sp) ∈ KT rs ∧ dNil σ G (fun as G2 => t σ G2 (fun zs G3 => as.length = 0 ∧ zs.length = 1 ∧ sp (pick [0, 1] (r.obj :: (as ++ zs))) G3 Q E) E) E := by
  obtain ⟨c, sp, ns, ds, e, h1, h2, h3⟩ := keeps_at hrs hd ok hx
  exact ⟨c, sp, ns, ds, by rw [e]; exact .obj _ _ _, h1, h2, ht _ ⟨rfl, rfl, h3 _ _ _ q⟩⟩
end
def N_Then_keeps : List Str := ["self", "word"]
def t_Then_keeps (rs : SpD) : TSD := (dRet (dAndV (dOp (iAny false) (dVar 1) (dTup (dCons (dC (.str "odd")) (dCons (dC (.str "two")) dNil)))) (dAndV (dMethV "keeps" [("Nearest", sp_Nearest_keeps), ("Cut", sp_Cut_keeps), ("Up", sp_Up_keeps), ("Down", sp_Down_keeps), ("Sticky", sp_Sticky_keeps), ("Grid", sp_Grid_keeps), ("Clamp", sp_Clamp_keeps), ("Wrap", sp_Wrap_keeps), ("Rounding", sp_Rounding_keeps), ("Then", rs)] (dFld ["Then"] "first" (dVar 0)) (dCons (dVar 1) dNil)) (dMethV "keeps" [("Nearest", sp_Nearest_keeps), ("Cut", sp_Cut_keeps), ("Up", sp_Up_keeps), ("Down", sp_Down_keeps), ("Sticky", sp_Sticky_keeps), ("Grid", sp_Grid_keeps), ("Clamp", sp_Clamp_keeps), ("Wrap", sp_Wrap_keeps), ("Rounding", sp_Rounding_keeps), ("Then", rs)] (dFld ["Then"] "second" (dVar 0)) (dCons (dVar 1) dNil)))))
theorem vc_Then_keeps (d : Nat) : VC (sp_Then_keeps (d + 1)) N_Then_keeps (t_Then_keeps (sp_Then_keeps d)) := by
  rintro ds G Q EX ⟨a, b, x, rfl, hd, ok, hx, hq⟩
  have hd : max a.dep b.dep + 1 ≤ d + 1 := hd
  show t_Then_keeps (sp_Then_keeps d) _ (startD N_Then_keeps [.obj "Then" ["first", "second"] [a.obj, b.obj], .str x]) G
  walk_at "go Then_keeps"
  rw [or_two]
  have e : (RS.thn a b).keeps x = ((decide (x = "odd") || decide (x = "two")) && a.keeps x && b.keeps x) := rfl
  rw [e] at hq
  refine st_iteB (fun h => ?_) (fun h => ?_)
  · rw [h, Bool.true_and] at hq
    walk_at "d"
    refine st_keeps (d := d) (fun _ _ _ => rfl) (by omega) ok.1 hx (fun Q' q => ?_) ?_
    · walk_at "d"
      exact q
    walk_at "d"
    refine st_iteB (fun h2 => ?_) (fun h2 => ?_)
    · rw [h2, Bool.true_and] at hq
      walk_at "d"
      refine st_keeps (d := d) (fun _ _ _ => rfl) (by omega) ok.2 hx (fun Q' q => ?_) hq
      walk_at "d"
      exact q
    · rw [h2, Bool.false_and] at hq
      exact hq
  · rw [h, Bool.false_and, Bool.false_and] at hq
    exact hq

def KINDS : List Str := ["Nearest", "Cut", "Up", "Down", "Sticky", "Grid", "Clamp", "Wrap", "Rounding", "Then"]
def sp_law_spec (d : Nat) : SpD := fun ds G Q _ => ∃ (p : Addr) (k N : Nat), ds = [.ref p, .int (k : Int)] ∧ k < d ∧ d ≤ 3 ∧ Feed G p N ∧ N + 20 * 3 ^ d ≤ 2 ^ 28 ∧ ∀ (r : RS) G', r.ok → r.dep ≤ k → r.size ≤ 2 ^ k → Feed G' p (N + 20 * 3 ^ d) → But p G G' → Q r.words G'
theorem len_law_spec (d : Nat) : LN (sp_law_spec d) 2 := by rintro ds G Q E ⟨p, k, N, rfl, _⟩; rfl
theorem no_law_spec : ∀ ds G Q E, ¬ sp_law_spec 0 ds G Q E := by
  rintro ds G Q E ⟨p, k, N, rfl, h, _⟩
  omega
def N_law_spec : List Str := ["_law_deck_here", "_law_deep", "_law_kinds", "_law_kind", "_law_low", "_law_high", "_law_modulus"]
def t_law_spec (rs : SpD) : TSD := (dSeq (dAsg (dLst (dCons (dC (.str "Nearest")) (dCons (dC (.str "Cut")) (dCons (dC (.str "Up")) (dCons (dC (.str "Down")) (dCons (dC (.str "Sticky")) (dCons (dC (.str "Grid")) (dCons (dC (.str "Clamp")) (dCons (dC (.str "Wrap")) (dCons (dC (.str "Rounding")) (dCons (dC (.str "Then")) dNil))))))))))) (gdName 2))
  (dSeq (dPar3 3 4 5 (dCons (dCall sp_law_one (dCons (dVar 0) (dCons (dVar 2) dNil))) (dCons (dOp aAny (dC (.int 1)) (dCall sp_law_draw (dCons (dVar 0) (dCons (dC (.int 9)) dNil)))) (dCons (dOp aAny (dC (.int 1)) (dCall sp_law_sum (dCons (dVar 0) (dCons (dC (.int 3)) dNil)))) dNil))))
  (dSeq (dIfS (dAnd (dTest (dOp (eAny false) (dVar 3) (dC (.str "Then")))) (dTest (dOp cGtI (dVar 1) (dC (.int 0)))))
  (dRet (dTup (dCons (dVar 3) (dCons (dCall rs (dCons (dVar 0) (dCons (dOp aSub (dVar 1) (dC (.int 1))) dNil))) (dCons (dCall rs (dCons (dVar 0) (dCons (dOp aSub (dVar 1) (dC (.int 1))) dNil))) dNil)))))
  dNext)
  (dSeq (dIfS (dTest (dOp (eAny false) (dVar 3) (dC (.str "Grid"))))
  (dRet (dTup (dCons (dVar 3) (dCons (dCall sp_law_one (dCons (dVar 0) (dCons (dLst (dCons (dC (.int 1)) (dCons (dC (.int 2)) (dCons (dOp aPow (dC (.int 10)) (dC (.int 9))) (dCons (dVar 4) (dCons (dOp aAny (dC (.int 1)) (dOp aMod (dCB kInt (dCons (dVar 5) dNil)) (dOp aPow (dC (.int 10)) (dC (.int 9))))) dNil)))))) dNil))) dNil))))
  dNext)
  (dSeq (dIfS (dTest (dOp (eAny false) (dVar 3) (dC (.str "Clamp"))))
  (dRet (dTup (dCons (dVar 3) (dCons (dOp aSub (dC (.int 0)) (dCall sp_law_one (dCons (dVar 0) (dCons (dLst (dCons (dVar 4) (dCons (dVar 5) dNil))) dNil)))) (dCons (dCall sp_law_one (dCons (dVar 0) (dCons (dLst (dCons (dVar 4) (dCons (dVar 5) (dCons (dOp aAny (dC (.int 1)) (dCall sp_law_draw (dCons (dVar 0) (dCons (dC (.int 9)) dNil)))) dNil)))) dNil))) dNil)))))
  dNext)
  (dSeq (dIfS (dTest (dOp (eAny false) (dVar 3) (dC (.str "Wrap"))))
  (dSeq (dAsg (dCall sp_law_one (dCons (dVar 0) (dCons (dLst (dCons (dOp aAny (dC (.int 1)) (dVar 4)) (dCons (dOp aAny (dC (.int 3)) (dOp mAny (dC (.int 2)) (dCall sp_law_draw (dCons (dVar 0) (dCons (dC (.int 9)) dNil))))) (dCons (dOp aAny (dC (.int 2)) (dOp aMod (dCB kInt (dCons (dVar 5) dNil)) (dOp aSub (dOp aPow (dC (.int 10)) (dC (.int 18))) (dC (.int 1))))) dNil)))) dNil))) (gdName 6))
  (dRet (dTup (dCons (dVar 3) (dCons (dVar 6) (dCons (dCall sp_law_one (dCons (dVar 0) (dCons (dLst (dCons (dOp aSub (dC (.int 0)) (dOp aDiv (dVar 6) (dC (.int 2)))) (dCons (dC (.int 0)) (dCons (dOp aSub (dVar 4) (dC (.int 5))) (dCons (dOp aSub (dVar 5) (dOp aPow (dC (.int 10)) (dC (.int 17)))) dNil))))) dNil))) dNil))))))
  dNext)
  (dRet (dIf (dTest (dOp (iAny false) (dVar 3) (dTup (dCons (dC (.str "Rounding")) (dCons (dC (.str "Then")) dNil))))) (dTup (dCons (dC (.str "Rounding")) dNil)) (dTup (dCons (dVar 3) (dCons (dCall sp_law_bits (dCons (dVar 0) dNil)) dNil)))))))))))
theorem vc_law_spec (d : Nat) : VC (sp_law_spec (d + 1)) N_law_spec (t_law_spec (sp_law_spec d)) := by
  rintro ds G Q EX ⟨p, k, N, rfl, hk, hd, hF, hN, hq⟩
  have e2 : 3 ^ (d + 1) = 3 * 3 ^ d := by rw [Nat.pow_succ, Nat.mul_comm]
  have e3 : 1 ≤ 3 ^ d := Nat.pos_of_ne_zero (by simp)
  rw [e2] at hN hq
  walk_at "go law_spec"
  refine st_oneM (c := D.str) (l := KINDS) hF (by omega) ⟨by decide, by decide⟩ fun kd G1 hkd hF1 hB1 => ?_
  walk_at "d"
  refine st_drawI hF1 (by omega) (by decide) fun lo G2 lo0 lo1 hF2 hB2 => ?_
  walk_at "d"
  refine ⟨p, 3, _, rfl, by decide, hF2, by omega, fun hi G3 hi0 hhi hF3 hB3 => ?_⟩
  walk_at "d"
  have b60 : Bt 62 (1 + hi) := ((Bt.of (b := 1) (x := 1) (by decide)).add hhi).mono (by decide)
  have e10 : (10 : Int) ^ (Int.toNat 9) = 1000000000 := by decide
  have h1 := Int.emod_nonneg (1 + hi) (show (10 : Int) ^ (Int.toNat 9) ≠ 0 by decide)
  have h2 := Int.emod_lt_of_pos (1 + hi) (show 0 < (10 : Int) ^ (Int.toNat 9) by decide)
  refine st_iteB (fun hb => ?_) (fun hb => ?_)
  · rw [Bool.and_eq_true, decide_eq_true_eq, decide_eq_true_eq] at hb
    obtain ⟨rfl, hk0⟩ := hb
    walk_at "d"
    have ek : ((k : Int) - 1) = ((k - 1 : Nat) : Int) := by omega
    rw [ek]
    refine ⟨p, k - 1, _, rfl, by omega, by omega, hF3, by omega, fun a G4 oa da sa hF4 hB4 => ?_⟩
    walk_at "d"
    rw [ek]
    refine ⟨p, k - 1, _, rfl, by omega, by omega, hF4, by omega, fun b G5 ob db sb hF5 hB5 => ?_⟩
    walk_at "d"
    have es : 2 ^ k = 2 * 2 ^ (k - 1) := by
      have : k = (k - 1) + 1 := by omega
      conv => lhs; rw [this, Nat.pow_succ, Nat.mul_comm]
    exact hq (.thn a b) G5 ⟨oa, ob⟩ (by show max a.dep b.dep + 1 ≤ k; omega) (by show a.size + b.size ≤ 2 ^ k; omega) (hF5.mono (by omega)) (((((hB1.trans hB2).trans hB3).trans hB4).trans hB5))
  have s1 : 1 ≤ 2 ^ k := Nat.one_le_two_pow
  walk_at "d"
  refine st_ite (fun hg => ?_) (fun hg => ?_)
  · subst hg
    walk_at "d"
    refine st_oneM (c := D.int) (l := [1, 2, 10 ^ (Int.toNat 9), 1 + lo, 1 + (1 + hi) % 10 ^ (Int.toNat 9)]) hF3 (by omega) ⟨by simp, by simp⟩ fun s G4 hs hF4 hB4 => ?_
    rw [e10] at *
    simp only [List.mem_cons, List.not_mem_nil, or_false] at hs
    walk_at "d"
    exact hq (.grid s) G4 ⟨by omega, by omega⟩ (Nat.zero_le _) s1 (hF4.mono (by omega)) ((((hB1.trans hB2).trans hB3).trans hB4))
  walk_at "d"
  refine st_ite (fun hc => ?_) (fun hc => ?_)
  · subst hc
    walk_at "d"
    refine st_oneM (c := D.int) (l := [1 + lo, 1 + hi]) hF3 (by omega) ⟨by simp, by simp⟩ fun u G4 hu hF4 hB4 => ?_
    walk_at "d"
    refine st_drawI hF4 (by omega) (by decide) fun t G5 t0 t1 hF5 hB5 => ?_
    walk_at "d"
    refine st_oneM (c := D.int) (l := [1 + lo, 1 + hi, 1 + t]) hF5 (by omega) ⟨by simp, by simp⟩ fun v G6 hv hF6 hB6 => ?_
    walk_at "d"
    have bl' : Bt 62 (1 + lo) := .of (by omega)
    have bt' : Bt 62 (1 + t) := .of (by omega)
    have hu' : 0 < u ∧ Bt 62 u := by
      simp only [List.mem_cons, List.not_mem_nil, or_false] at hu
      rcases hu with rfl | rfl
      · exact ⟨by omega, bl'⟩
      · exact ⟨by omega, b60⟩
    have hv' : 0 < v ∧ Bt 62 v := by
      simp only [List.mem_cons, List.not_mem_nil, or_false] at hv
      rcases hv with rfl | rfl | rfl
      · exact ⟨by omega, bl'⟩
      · exact ⟨by omega, b60⟩
      · exact ⟨by omega, bt'⟩
    exact hq (.clamp (0 - u) v) G6 ⟨by rw [Int.zero_sub]; exact hu'.2.neg.mono (by decide), hv'.2.mono (by decide), by omega, hv'.1⟩ (Nat.zero_le _) s1 (hF6.mono (by omega)) ((((((hB1.trans hB2).trans hB3).trans hB4).trans hB5).trans hB6))
  have e18 : (10 : Int) ^ (Int.toNat 18) = 1000000000000000000 := by decide
  have e17 : (10 : Int) ^ (Int.toNat 17) = 100000000000000000 := by decide
  have w1 := Int.emod_nonneg (1 + hi) (show (10 : Int) ^ (Int.toNat 18) - 1 ≠ 0 by decide)
  have w2 := Int.emod_lt_of_pos (1 + hi) (show 0 < (10 : Int) ^ (Int.toNat 18) - 1 by decide)
  walk_at "d"
  refine st_ite (fun hw => ?_) (fun hw => ?_)
  · subst hw
    walk_at "d"
    refine st_drawI hF3 (by omega) (by decide) fun t G4 t0 t1 hF4 hB4 => ?_
    walk_at "d"
    refine st_oneM (c := D.int) (l := [1 + (1 + lo), 3 + 2 * t, 2 + (1 + hi) % (10 ^ (Int.toNat 18) - 1)]) hF4 (by omega) ⟨by simp, by simp⟩ fun m G5 hm hF5 hB5 => ?_
    have hm' : 2 ≤ m ∧ Bt 66 m := by
      rw [e18] at *
      simp only [List.mem_cons, List.not_mem_nil, or_false] at hm
      exact ⟨by omega, .of (by omega)⟩
    have c1 : Bt 66 (m / 2) := hm'.2.div (by decide)
    walk_at "d"
    refine st_oneM (c := D.int) (l := [0 - m / 2, 0, 1 + lo - 5, 1 + hi - 10 ^ (Int.toNat 17)]) hF5 (by omega) ⟨by simp, by simp⟩ fun l G6 hl hF6 hB6 => ?_
    have hl' : Bt 70 l := by
      rw [e17] at hl
      simp only [List.mem_cons, List.not_mem_nil, or_false] at hl
      rcases hl with rfl | rfl | rfl | rfl
      · rw [Int.zero_sub]; exact c1.neg.mono (by decide)
      · exact .of (by decide)
      · exact .of (by omega)
      · exact (b60.sub (Bt.of (b := 60) (by decide))).mono (by decide)
    walk_at "d"
    exact hq (.wrap m l) G6 ⟨hm'.1, hm'.2.mono (by decide), hl'⟩ (Nat.zero_le _) s1 (hF6.mono (by omega)) ((((((hB1.trans hB2).trans hB3).trans hB4).trans hB5).trans hB6))
  walk_at "d"
  refine st_iteB (fun hr => ?_) (fun hr => ?_)
  · walk_at "d"
    exact hq .rnd G3 trivial (Nat.zero_le _) s1 (hF3.mono (by omega)) ((hB1.trans hB2).trans hB3)
  · walk_at "d"
    refine ⟨p, _, rfl, hF3, by omega, fun w G4 w0 w1 hF4 hB4 => ?_⟩
    walk_at "d"
    have hk : kd ∈ KNDS := by
      simp only [KINDS, List.mem_cons, List.not_mem_nil, or_false] at hkd
      simp only [decide_eq_false_iff_not, List.mem_cons, List.not_mem_nil, or_false, not_or] at hr
      simp only [KNDS, List.mem_cons, List.not_mem_nil, or_false]
      rcases hkd with h | h | h | h | h | h | h | h | h | h
      · exact .inl h
      · exact .inr (.inl h)
      · exact .inr (.inr (.inl h))
      · exact .inr (.inr (.inr (.inl h)))
      · exact .inr (.inr (.inr (.inr h)))
      · exact absurd h hg
      · exact absurd h hc
      · exact absurd h hw
      · exact absurd h hr.1
      · exact absurd h hr.2
    exact hq (.bit kd w) G4 ⟨hk, w0, w1⟩ (Nat.zero_le _) s1 (hF4.mono (by omega)) (((hB1.trans hB2).trans hB3).trans hB4)
def sp_law_built (d : Nat) : SpD := fun ds G Q _ => ∃ r : RS, ds = [r.words] ∧ r.dep < d ∧ r.ok ∧ Q r.obj G
theorem len_law_built (d : Nat) : LN (sp_law_built d) 1 := by rintro ds G Q E ⟨r, rfl, _⟩; rfl
theorem no_law_built : ∀ ds G Q E, ¬ sp_law_built 0 ds G Q E := by
  rintro ds G Q E ⟨r, rfl, h, _⟩
  omega
def N_law_built : List Str := ["_law_spec_here", "_law_kind"]
def t_law_built (rs : SpD) : TSD := (dSeq (dAsg (dOp xAny (dVar 0) (dC (.int 0))) (gdName 1))
  (dSeq (dIfS (dTest (dOp (eAny false) (dVar 1) (dC (.str "Nearest"))))
  (dRet (dMake true "Nearest" sp_Nearest_init (dCons (dOp xAny (dVar 0) (dC (.int 1))) dNil)))
  dNext)
  (dSeq (dIfS (dTest (dOp (eAny false) (dVar 1) (dC (.str "Cut"))))
  (dRet (dMake true "Cut" sp_Cut_init (dCons (dOp xAny (dVar 0) (dC (.int 1))) dNil)))
  dNext)
  (dSeq (dIfS (dTest (dOp (eAny false) (dVar 1) (dC (.str "Up"))))
  (dRet (dMake true "Up" sp_Up_init (dCons (dOp xAny (dVar 0) (dC (.int 1))) dNil)))
  dNext)
  (dSeq (dIfS (dTest (dOp (eAny false) (dVar 1) (dC (.str "Down"))))
  (dRet (dMake true "Down" sp_Down_init (dCons (dOp xAny (dVar 0) (dC (.int 1))) dNil)))
  dNext)
  (dSeq (dIfS (dTest (dOp (eAny false) (dVar 1) (dC (.str "Sticky"))))
  (dRet (dMake true "Sticky" sp_Sticky_init (dCons (dOp xAny (dVar 0) (dC (.int 1))) dNil)))
  dNext)
  (dSeq (dIfS (dTest (dOp (eAny false) (dVar 1) (dC (.str "Grid"))))
  (dRet (dMake true "Grid" sp_Grid_init (dCons (dOp xAny (dVar 0) (dC (.int 1))) dNil)))
  dNext)
  (dSeq (dIfS (dTest (dOp (eAny false) (dVar 1) (dC (.str "Clamp"))))
  (dRet (dMake true "Clamp" sp_Clamp_init (dCons (dOp xAny (dVar 0) (dC (.int 1))) (dCons (dOp xAny (dVar 0) (dC (.int 2))) dNil))))
  dNext)
  (dSeq (dIfS (dTest (dOp (eAny false) (dVar 1) (dC (.str "Wrap"))))
  (dRet (dMake true "Wrap" sp_Wrap_init (dCons (dOp xAny (dVar 0) (dC (.int 1))) (dCons (dOp xAny (dVar 0) (dC (.int 2))) dNil))))
  dNext)
  (dSeq (dIfS (dTest (dOp (eAny false) (dVar 1) (dC (.str "Then"))))
  (dRet (dMake true "Then" sp_Then_init (dCons (dCall rs (dCons (dOp xAny (dVar 0) (dC (.int 1))) dNil)) (dCons (dCall rs (dCons (dOp xAny (dVar 0) (dC (.int 2))) dNil)) dNil))))
  dNext)
  (dRet (dNew "Rounding"))))))))))))
local macro_rules | `(tactic| walk_at "x1") => `(tactic| first | with_reducible refine st_mkBit ?_ | with_reducible refine st_mkBitK ?_ | with_reducible refine st_mkThen ?_ | with_reducible refine st_mkThenK ?_)
theorem vc_law_built (d : Nat) : VC (sp_law_built (d + 1)) N_law_built (t_law_built (sp_law_built d)) := by
  rintro ds G Q EX ⟨r, rfl, hd, ok, hq⟩
  cases r with
  | bit k w =>
    obtain ⟨hk, w0, w1⟩ := ok
    show t_law_built (sp_law_built d) _ (startD N_law_built [.tup [.str k, .int w]]) G
    simp only [KNDS, List.mem_cons, List.not_mem_nil, or_false] at hk
    rcases hk with rfl | rfl | rfl | rfl | rfl
    · walk_at "go law_built"
      exact hq
    · walk_at "go law_built"
      exact hq
    · walk_at "go law_built"
      exact hq
    · walk_at "go law_built"
      exact hq
    · walk_at "go law_built"
      exact hq
  | grid s =>
    show t_law_built (sp_law_built d) _ (startD N_law_built [.tup [.str "Grid", .int s]]) G
    walk_at "go law_built"
    exact hq
  | clamp l h =>
    show t_law_built (sp_law_built d) _ (startD N_law_built [.tup [.str "Clamp", .int l, .int h]]) G
    walk_at "go law_built"
    exact hq
  | wrap m l =>
    show t_law_built (sp_law_built d) _ (startD N_law_built [.tup [.str "Wrap", .int m, .int l]]) G
    walk_at "go law_built"
    exact hq
  | rnd =>
    show t_law_built (sp_law_built d) _ (startD N_law_built [.tup [.str "Rounding"]]) G
    walk_at "go law_built"
    exact hq
  | thn a b =>
    have hd : max a.dep b.dep + 1 < d + 1 := hd
    show t_law_built (sp_law_built d) _ (startD N_law_built [.tup [.str "Then", a.words, b.words]]) G
    walk_at "go law_built"
    refine ⟨a, rfl, by omega, ok.1, ?_⟩
    walk_at "d"
    refine ⟨b, rfl, by omega, ok.2, ?_⟩
    walk_at "d"
    exact hq

def sp_law_about : SpD := fun ds G Q _ => ∃ (p : Addr) (r : RS) (N : Nat), ds = [.ref p, r.words] ∧ r.ok ∧ Feed G p N ∧ N ≤ 2 ^ 26 ∧ ∀ (x : Int) G', Bt 300 x → Feed G' p (N + 60) → But p G G' → Q (.int x) G'
theorem len_law_about : LN sp_law_about 2 := by rintro ds G Q E ⟨p, r, N, rfl, _⟩; rfl
def N_law_about : List Str := ["_law_deck_here", "_law_spec_here", "_law_many", "_law_width", "_law_step", "_law_number"]
abbrev t_law_about_1 : TSD := (dSeq (dAsg (dOp aAny (dOp aAny (dOp mAny (dOp xAny (dVar 1) (dC (.int 1))) (dVar 2)) (dCall sp_law_one (dCons (dVar 0) (dCons (dLst (dCons (dC (.int 0)) (dCons (dOp aDiv (dOp xAny (dVar 1) (dC (.int 1))) (dC (.int 2))) dNil))) dNil)))) (dVar 4)) (gdName 5))
  (dRet (dCall sp_law_one (dCons (dVar 0) (dCons (dLst (dCons (dVar 5) (dCons (dOp aSub (dC (.int 0)) (dVar 5)) dNil))) dNil)))))
abbrev t_law_about_2 : TSD := (dRet (dCall sp_law_one (dCons (dVar 0) (dCons (dLst (dCons (dOp aAny (dOp xAny (dVar 1) (dC (.int 1))) (dVar 4)) (dCons (dOp aAny (dOp xAny (dVar 1) (dC (.int 2))) (dVar 4)) (dCons (dVar 4) (dCons (dCall sp_law_near (dCons (dVar 0) (dCons (dVar 3) dNil))) dNil))))) dNil))))
abbrev t_law_about_3 : TSD := (dRet (dCall sp_law_one (dCons (dVar 0) (dCons (dLst (dCons (dOp aAny (dOp aAny (dOp xAny (dVar 1) (dC (.int 2))) (dOp mAny (dOp xAny (dVar 1) (dC (.int 1))) (dOp aSub (dVar 2) (dC (.int 20))))) (dVar 4)) (dCons (dOp aAny (dOp xAny (dVar 1) (dC (.int 2))) (dVar 4)) (dCons (dCall sp_law_near (dCons (dVar 0) (dCons (dVar 3) dNil))) dNil)))) dNil))))
abbrev t_law_about_4 : TSD := (dSeq (dIfS (dTest (dOp (eAny false) (dOp xAny (dVar 1) (dC (.int 0))) (dC (.str "Wrap"))))
  t_law_about_3
  dNext)
  (dRet (dCall sp_law_near (dCons (dVar 0) (dCons (dOp xAny (dVar 1) (dC (.int 1))) dNil)))))
abbrev t_law_about_5 : TSD := (dSeq (dIfS (dTest (dOp (eAny false) (dOp xAny (dVar 1) (dC (.int 0))) (dC (.str "Grid"))))
  t_law_about_1
  dNext)
  (dSeq (dIfS (dTest (dOp (eAny false) (dOp xAny (dVar 1) (dC (.int 0))) (dC (.str "Clamp"))))
  t_law_about_2
  dNext)
  t_law_about_4))
abbrev t_law_about_6 : TSD := (dSeq (dAsg (dCall sp_law_one (dCons (dVar 0) (dCons (dLst (dCons (dC (.int 0)) (dCons (dC (.int 1)) (dCons (dCall sp_law_draw (dCons (dVar 0) (dCons (dC (.int 40)) dNil))) (dCons (dCall sp_law_sum (dCons (dVar 0) (dCons (dC (.int 3)) dNil))) dNil))))) dNil))) (gdName 2))
  t_law_about_5)
abbrev t_law_about_7 : TSD := (dSeq (dIfS (dTest (dOp (iAny false) (dOp xAny (dVar 1) (dC (.int 0))) (dTup (dCons (dC (.str "Then")) (dCons (dC (.str "Rounding")) dNil)))))
  (dRet (dCall sp_law_near (dCons (dVar 0) (dCons (dVar 3) dNil))))
  dNext)
  t_law_about_6)
def t_law_about : TSD := (dSeq (dPar 3 4 (dCons (dCall sp_law_bits (dCons (dVar 0) dNil)) (dCons (dOp aSub (dCall sp_law_draw (dCons (dVar 0) (dCons (dC (.int 5)) dNil))) (dC (.int 2))) dNil)))
  t_law_about_7)
theorem st_near {G : HH} {Q : QD} {E : ED} {p : Addr} {w : Int} {N : Nat} (h1 : 1 ≤ w) (h2 : w ≤ 60) (hF : Feed G p N) (hN : N ≤ 2 ^ 27) (q : ∀ (x : Int) G', Bt 300 x → Feed G' p (N + 40) → But p G G' → Q (.int x) G') : sp_law_near [.ref p, .int w] G Q E := ⟨p, w, N, rfl, h1, h2, hF, hN, q⟩
theorem vc_law_about : VC sp_law_about N_law_about t_law_about := by
  rintro ds G Q EX ⟨p, r, N, rfl, ok, hF, hN, hq⟩
  cases r with
  | bit k w =>
    obtain ⟨hk, w0, w1⟩ := ok
    show t_law_about _ (startD N_law_about [.ref p, .tup [.str k, .int w]]) G
    walk_at "go law_about"
    refine ⟨p, _, rfl, hF, by omega, fun w2 G1 v0 v1 hF1 hB1 => ?_⟩
    walk_at "d"
    refine st_drawI hF1 (by omega) (by decide) fun st G2 s0 s1 hF2 hB2 => ?_
    walk_at "d"
    have h0 : ∀ y : Str, y ∈ (["Then", "Rounding", "Grid", "Clamp", "Wrap"] : List Str) → ¬ k = y := by
      intro y hy he
      subst he
      revert hk hy
      simp only [KNDS, List.mem_cons, List.not_mem_nil, or_false]
      rintro (rfl | rfl | rfl | rfl | rfl) <;> decide +kernel
    refine st_iteF' (by simp only [decide_eq_false_iff_not, List.mem_cons, List.not_mem_nil, or_false, not_or]; exact ⟨h0 _ (by simp), h0 _ (by simp)⟩) ?_
    walk_at "d"
    refine st_drawI hF2 (by omega) (by decide) fun m G3 m0 m1 hF3 hB3 => ?_
    walk_at "d"
    refine ⟨p, 3, _, rfl, by decide, hF3, by omega, fun f G4 f0 hf hF4 hB4 => ?_⟩
    walk_at "d"
    refine st_oneM (c := D.int) (l := [0, 1, m, f]) hF4 (by omega) ⟨by simp, by simp⟩ fun mn G5 _ hF5 hB5 => ?_
    walk_at "d"
    refine st_eqDiff (h0 _ (by simp)) ?_
    walk_at "d"
    refine st_eqDiff (h0 _ (by simp)) ?_
    walk_at "d"
    refine st_eqDiff (h0 _ (by simp)) ?_
    walk_at "d"
    exact st_near w0 w1 hF5 (by omega) fun x G6 hx hF6 hB6 => hq x G6 hx (hF6.mono (by omega)) (((((hB1.trans hB2).trans hB3).trans hB4).trans hB5).trans hB6)
  | grid s =>
    obtain ⟨h1, h2⟩ := ok
    have bs : Bt 30 s := .of (by omega)
    show t_law_about _ (startD N_law_about [.ref p, .tup [.str "Grid", .int s]]) G
    walk_at "go law_about"
    refine ⟨p, _, rfl, hF, by omega, fun w2 G1 v0 v1 hF1 hB1 => ?_⟩
    walk_at "d"
    refine st_drawI hF1 (by omega) (by decide) fun st G2 s0 s1 hF2 hB2 => ?_
    walk_at "d"
    refine st_iteF' (by decide +kernel) ?_
    walk_at "d"
    refine st_drawI hF2 (by omega) (by decide) fun m G3 m0 m1 hF3 hB3 => ?_
    walk_at "d"
    refine ⟨p, 3, _, rfl, by decide, hF3, by omega, fun f G4 f0 hf hF4 hB4 => ?_⟩
    walk_at "d"
    refine st_oneM (c := D.int) (l := [0, 1, m, f]) hF4 (by omega) ⟨by simp, by simp⟩ fun mn G5 hmn hF5 hB5 => ?_
    have bmn : Bt 60 mn := by
      simp only [List.mem_cons, List.not_mem_nil, or_false] at hmn
      rcases hmn with rfl | rfl | rfl | rfl
      · exact .of (by decide)
      · exact .of (by decide)
      · exact .of (by omega)
      · exact hf
    have mul : CMulX s mn := cmul_bt bs bmn (by decide)
    have dv : CDivW s 2 := cdiv_bt (a := 2) (by decide) (.of (by decide)) (by decide)
    walk_at "d"
    refine st_oneM (c := D.int) (l := [0, s / 2]) hF5 (by omega) ⟨by simp, by simp⟩ fun hf' G6 hhf hF6 hB6 => ?_
    walk_at "d"
    refine st_oneM (c := D.int) (l := [s * mn + hf' + (st - 2), 0 - (s * mn + hf' + (st - 2))]) hF6 (by omega) ⟨by simp, by simp⟩ fun x G7 hx hF7 hB7 => ?_
    have bhf : Bt 30 hf' := by
      have : Bt 30 (s / 2) := bs.div (by decide)
      simp only [List.mem_cons, List.not_mem_nil, or_false] at hhf
      rcases hhf with rfl | rfl
      · exact .of (by decide)
      · exact this
    have bx := ((bs.mul bmn).add bhf).add (Bt.of (b := 4) (x := st - 2) (by omega))
    refine hq x G7 ?_ (hF7.mono (by omega)) ((((((hB1.trans hB2).trans hB3).trans hB4).trans hB5).trans hB6).trans hB7)
    simp only [List.mem_cons, List.not_mem_nil, or_false] at hx
    rcases hx with rfl | rfl
    · exact bx.mono (by decide)
    · rw [Int.zero_sub]; exact bx.neg.mono (by decide)
  | clamp l h =>
    obtain ⟨c1, c2, _, _⟩ := ok
    show t_law_about _ (startD N_law_about [.ref p, .tup [.str "Clamp", .int l, .int h]]) G
    walk_at "go law_about"
    refine ⟨p, _, rfl, hF, by omega, fun w2 G1 v0 v1 hF1 hB1 => ?_⟩
    walk_at "d"
    refine st_drawI hF1 (by omega) (by decide) fun st G2 s0 s1 hF2 hB2 => ?_
    walk_at "d"
    refine st_iteF' (by decide +kernel) ?_
    walk_at "d"
    refine st_drawI hF2 (by omega) (by decide) fun m G3 m0 m1 hF3 hB3 => ?_
    walk_at "d"
    refine ⟨p, 3, _, rfl, by decide, hF3, by omega, fun f G4 f0 hf hF4 hB4 => ?_⟩
    walk_at "d"
    refine st_oneM (c := D.int) (l := [0, 1, m, f]) hF4 (by omega) ⟨by simp, by simp⟩ fun mn G5 hmn hF5 hB5 => ?_
    walk_at "d"
    refine st_near v0 v1 hF5 (by omega) fun y G6 hy hF6 hB6 => ?_
    walk_at "d"
    refine st_oneM (c := D.int) (l := [l + (st - 2), h + (st - 2), st - 2, y]) hF6 (by omega) ⟨by simp, by simp⟩ fun x G7 hx hF7 hB7 => ?_
    have bst := Bt.of (b := 4) (x := st - 2) (by omega)
    refine hq x G7 ?_ (hF7.mono (by omega)) ((((((hB1.trans hB2).trans hB3).trans hB4).trans hB5).trans hB6).trans hB7)
    simp only [List.mem_cons, List.not_mem_nil, or_false] at hx
    rcases hx with rfl | rfl | rfl | rfl
    · exact (c1.add bst).mono (by decide)
    · exact (c2.add bst).mono (by decide)
    · exact bst.mono (by decide)
    · exact hy
  | wrap m' l =>
    obtain ⟨c0, c1, c2⟩ := ok
    show t_law_about _ (startD N_law_about [.ref p, .tup [.str "Wrap", .int m', .int l]]) G
    walk_at "go law_about"
    refine ⟨p, _, rfl, hF, by omega, fun w2 G1 v0 v1 hF1 hB1 => ?_⟩
    walk_at "d"
    refine st_drawI hF1 (by omega) (by decide) fun st G2 s0 s1 hF2 hB2 => ?_
    walk_at "d"
    refine st_iteF' (by decide +kernel) ?_
    walk_at "d"
    refine st_drawI hF2 (by omega) (by decide) fun m G3 m0 m1 hF3 hB3 => ?_
    walk_at "d"
    refine ⟨p, 3, _, rfl, by decide, hF3, by omega, fun f G4 f0 hf hF4 hB4 => ?_⟩
    walk_at "d"
    refine st_oneM (c := D.int) (l := [0, 1, m, f]) hF4 (by omega) ⟨by simp, by simp⟩ fun mn G5 hmn hF5 hB5 => ?_
    have bmn : Bt 60 mn := by
      simp only [List.mem_cons, List.not_mem_nil, or_false] at hmn
      rcases hmn with rfl | rfl | rfl | rfl
      · exact .of (by decide)
      · exact .of (by decide)
      · exact .of (by omega)
      · exact hf
    have bm2 : Bt 62 (mn - 20) := (bmn.sub (Bt.of (b := 5) (by decide))).mono (by decide)
    have mul : CMulX m' (mn - 20) := cmul_bt c1 bm2 (by decide)
    walk_at "d"
    refine st_near v0 v1 hF5 (by omega) fun y G6 hy hF6 hB6 => ?_
    walk_at "d"
    refine st_oneM (c := D.int) (l := [l + m' * (mn - 20) + (st - 2), l + (st - 2), y]) hF6 (by omega) ⟨by simp, by simp⟩ fun x G7 hx hF7 hB7 => ?_
    have bst := Bt.of (b := 4) (x := st - 2) (by omega)
    refine hq x G7 ?_ (hF7.mono (by omega)) ((((((hB1.trans hB2).trans hB3).trans hB4).trans hB5).trans hB6).trans hB7)
    simp only [List.mem_cons, List.not_mem_nil, or_false] at hx
    rcases hx with rfl | rfl | rfl
    · exact ((c2.add (c1.mul bm2)).add bst).mono (by decide)
    · exact (c2.add bst).mono (by decide)
    · exact hy
  | rnd =>
    show t_law_about _ (startD N_law_about [.ref p, .tup [.str "Rounding"]]) G
    walk_at "go law_about"
    refine ⟨p, _, rfl, hF, by omega, fun w2 G1 v0 v1 hF1 hB1 => ?_⟩
    walk_at "d"
    refine st_drawI hF1 (by omega) (by decide) fun st G2 s0 s1 hF2 hB2 => ?_
    walk_at "d"
    refine st_iteT' (by decide +kernel) ?_
    walk_at "d"
    exact st_near v0 v1 hF2 (by omega) fun x G6 hx hF6 hB6 => hq x G6 hx (hF6.mono (by omega)) ((hB1.trans hB2).trans hB6)
  | thn a b =>
    show t_law_about _ (startD N_law_about [.ref p, .tup [.str "Then", a.words, b.words]]) G
    walk_at "go law_about"
    refine ⟨p, _, rfl, hF, by omega, fun w2 G1 v0 v1 hF1 hB1 => ?_⟩
    walk_at "d"
    refine st_drawI hF1 (by omega) (by decide) fun st G2 s0 s1 hF2 hB2 => ?_
    walk_at "d"
    refine st_iteT' (by decide +kernel) ?_
    walk_at "d"
    exact st_near v0 v1 hF2 (by omega) fun x G6 hx hF6 hB6 => hq x G6 hx (hF6.mono (by omega)) ((hB1.trans hB2).trans hB6)

def pr2 (a : Int × Int) : D := .tup [.int a.1, .int a.2]
theorem words_kind : ∀ r : RS, ∃ rest, r.words = .tup (.str r.kind :: rest)
  | .bit _ _ | .grid _ | .clamp _ _ | .wrap _ _ | .rnd | .thn _ _ => ⟨_, rfl⟩
def sp_law_breaks : SpD := fun ds G Q _ => ∃ (r : RS) (n : Str) (x y : Int), ds = [r.obj, .str n, .int x, .int y] ∧ r.ok ∧ r.dep ≤ 3 ∧ r.size ≤ 100 ∧ Bt 400 x ∧ Bt 400 y ∧ Q (.bl (breaksB r n x y)) G
theorem len_law_breaks : LN sp_law_breaks 4 := by rintro ds G Q E ⟨r, n, x, y, rfl, _⟩; rfl
def N_law_breaks : List Str := ["_law_rounding", "_law_name", "_law_x", "_law_y"]
abbrev t_law_breaks_1 : TSD := (dRet (dOp (eAny true) (dCallV [("Nearest", sp_Nearest_call), ("Cut", sp_Cut_call), ("Up", sp_Up_call), ("Down", sp_Down_call), ("Sticky", sp_Sticky_call), ("Grid", sp_Grid_call), ("Clamp", sp_Clamp_call), ("Wrap", sp_Wrap_call), ("Rounding", sp_Rounding_call), ("Then", (sp_Then_call 4))] [] (dVar 0) (dCons (dOp aSub (dC (.int 0)) (dVar 2)) dNil)) (dOp aSub (dC (.int 0)) (dCallV [("Nearest", sp_Nearest_call), ("Cut", sp_Cut_call), ("Up", sp_Up_call), ("Down", sp_Down_call), ("Sticky", sp_Sticky_call), ("Grid", sp_Grid_call), ("Clamp", sp_Clamp_call), ("Wrap", sp_Wrap_call), ("Rounding", sp_Rounding_call), ("Then", (sp_Then_call 4))] [] (dVar 0) (dCons (dVar 2) dNil)))))
abbrev t_law_breaks_2 : TSD := (dRet (dOp (eAny true) (dCallV [("Nearest", sp_Nearest_call), ("Cut", sp_Cut_call), ("Up", sp_Up_call), ("Down", sp_Down_call), ("Sticky", sp_Sticky_call), ("Grid", sp_Grid_call), ("Clamp", sp_Clamp_call), ("Wrap", sp_Wrap_call), ("Rounding", sp_Rounding_call), ("Then", (sp_Then_call 4))] [] (dVar 0) (dCons (dOp mAny (dC (.int 2)) (dVar 2)) dNil)) (dOp mAny (dC (.int 2)) (dCallV [("Nearest", sp_Nearest_call), ("Cut", sp_Cut_call), ("Up", sp_Up_call), ("Down", sp_Down_call), ("Sticky", sp_Sticky_call), ("Grid", sp_Grid_call), ("Clamp", sp_Clamp_call), ("Wrap", sp_Wrap_call), ("Rounding", sp_Rounding_call), ("Then", (sp_Then_call 4))] [] (dVar 0) (dCons (dVar 2) dNil)))))
abbrev t_law_breaks_3 : TSD := (dRet (dOp (eAny true) (dCallV [("Nearest", sp_Nearest_call), ("Cut", sp_Cut_call), ("Up", sp_Up_call), ("Down", sp_Down_call), ("Sticky", sp_Sticky_call), ("Grid", sp_Grid_call), ("Clamp", sp_Clamp_call), ("Wrap", sp_Wrap_call), ("Rounding", sp_Rounding_call), ("Then", (sp_Then_call 4))] [] (dVar 0) (dCons (dCallV [("Nearest", sp_Nearest_call), ("Cut", sp_Cut_call), ("Up", sp_Up_call), ("Down", sp_Down_call), ("Sticky", sp_Sticky_call), ("Grid", sp_Grid_call), ("Clamp", sp_Clamp_call), ("Wrap", sp_Wrap_call), ("Rounding", sp_Rounding_call), ("Then", (sp_Then_call 4))] [] (dVar 0) (dCons (dVar 2) dNil)) dNil)) (dCallV [("Nearest", sp_Nearest_call), ("Cut", sp_Cut_call), ("Up", sp_Up_call), ("Down", sp_Down_call), ("Sticky", sp_Sticky_call), ("Grid", sp_Grid_call), ("Clamp", sp_Clamp_call), ("Wrap", sp_Wrap_call), ("Rounding", sp_Rounding_call), ("Then", (sp_Then_call 4))] [] (dVar 0) (dCons (dVar 2) dNil))))
abbrev t_law_breaks_4 : TSD := (dRet (dOp (eAny true) (dCallV [("Nearest", sp_Nearest_call), ("Cut", sp_Cut_call), ("Up", sp_Up_call), ("Down", sp_Down_call), ("Sticky", sp_Sticky_call), ("Grid", sp_Grid_call), ("Clamp", sp_Clamp_call), ("Wrap", sp_Wrap_call), ("Rounding", sp_Rounding_call), ("Then", (sp_Then_call 4))] [] (dVar 0) (dCons (dOp aAny (dCallV [("Nearest", sp_Nearest_call), ("Cut", sp_Cut_call), ("Up", sp_Up_call), ("Down", sp_Down_call), ("Sticky", sp_Sticky_call), ("Grid", sp_Grid_call), ("Clamp", sp_Clamp_call), ("Wrap", sp_Wrap_call), ("Rounding", sp_Rounding_call), ("Then", (sp_Then_call 4))] [] (dVar 0) (dCons (dVar 2) dNil)) (dVar 3)) dNil)) (dCallV [("Nearest", sp_Nearest_call), ("Cut", sp_Cut_call), ("Up", sp_Up_call), ("Down", sp_Down_call), ("Sticky", sp_Sticky_call), ("Grid", sp_Grid_call), ("Clamp", sp_Clamp_call), ("Wrap", sp_Wrap_call), ("Rounding", sp_Rounding_call), ("Then", (sp_Then_call 4))] [] (dVar 0) (dCons (dOp aAny (dVar 2) (dVar 3)) dNil))))
abbrev t_law_breaks_5 : TSD := (dSeq (dIfS (dTest (dOp (eAny false) (dVar 1) (dC (.str "two"))))
  t_law_breaks_2
  dNext)
  (dSeq (dIfS (dTest (dOp (eAny false) (dVar 1) (dC (.str "still"))))
  t_law_breaks_3
  dNext)
  t_law_breaks_4))
def t_law_breaks : TSD := (dSeq (dIfS (dTest (dOp (eAny false) (dVar 1) (dC (.str "odd"))))
  t_law_breaks_1
  dNext)
  t_law_breaks_5)
theorem vc_law_breaks : VC sp_law_breaks N_law_breaks t_law_breaks := by
  rintro ds G Q EX ⟨r, n, x, y, rfl, ok, hd, hz, hx, hy, hq⟩
  have call : ∀ {Q : QD} {E : ED} {σ : SD} {t : TAD} {P : Prop} {z : Int}, Bt 1000 z → (∀ Q' : List D → HH → Prop, Q' [.int z] G → t σ G Q' E) → Q (.int (r.f z)) G →
      (∃ c' sp ns' ds', InsD G r.obj c' ns' ds' ∧ (c', sp) ∈ RT (sp_Then_call 4) ∧ t σ G (fun as G2 => (∃ ns2 ds2, InsD G2 r.obj c' ns2 ds2) ∧ sp (r.obj :: as) G2 Q E) E) ∨ P := fun hz ht q =>
    st_callR (rs := sp_Then_call 4) (d := 4) (n := 1000) (fun _ _ _ => rfl) (by omega) ok hz (by decide) (by omega) ht q
  have b0 : Bt 1000 x := hx.mono (by decide)
  have b1 : Bt 1000 (0 - x) := by rw [Int.zero_sub]; exact hx.neg.mono (by decide)
  have b2 : Bt 1000 (2 * x) := ((Bt.of (b := 2) (x := 2) (by decide)).mul hx).mono (by decide)
  have b3' : Bt 500 (r.f x) := (RS.bt ok hx (by decide)).mono (by omega)
  have b3 : Bt 1000 (r.f x) := b3'.mono (by decide)
  have b4 : Bt 1000 (r.f x + y) := (b3'.add hy).mono (by decide)
  have b5 : Bt 1000 (x + y) := (hx.add hy).mono (by decide)
  have m1 : CMulX 2 (r.f x) := cmul_bt (Bt.of (b := 2) (x := 2) (by decide)) b3 (by decide)
  have m2 : CMulX 2 x := cmul_bt (Bt.of (b := 2) (x := 2) (by decide)) hx (by decide)
  walk_at "go law_breaks"
  unfold breaksB at hq
  refine st_ite (fun h => ?_) (fun h => ?_)
  · rw [if_pos h] at hq
    walk_at "d"
    refine call b1 (fun Q' q => ?_) ?_
    · walk_at "d"
      exact q
    walk_at "d"
    refine call b0 (fun Q' q => ?_) ?_
    · walk_at "d"
      exact q
    walk_at "d"
    exact hq
  rw [if_neg h] at hq
  walk_at "d"
  refine st_ite (fun h => ?_) (fun h => ?_)
  · rw [if_pos h] at hq
    walk_at "d"
    refine call b2 (fun Q' q => ?_) ?_
    · walk_at "d"
      exact q
    walk_at "d"
    refine call b0 (fun Q' q => ?_) ?_
    · walk_at "d"
      exact q
    walk_at "d"
    exact hq
  rw [if_neg h] at hq
  walk_at "d"
  refine st_ite (fun h => ?_) (fun h => ?_)
  · rw [if_pos h] at hq
    walk_at "d"
    refine call b3 (fun Q' q => ?_) ?_
    · walk_at "d"
      refine call b0 (fun Q' q => ?_) ?_
      · walk_at "d"
        exact q
      walk_at "d"
      exact q
    walk_at "d"
    refine call b0 (fun Q' q => ?_) ?_
    · walk_at "d"
      exact q
    walk_at "d"
    exact hq
  rw [if_neg h] at hq
  walk_at "d"
  refine call b4 (fun Q' q => ?_) ?_
  · walk_at "d"
    refine call b0 (fun Q' q => ?_) ?_
    · walk_at "d"
      exact q
    walk_at "d"
    exact q
  walk_at "d"
  refine call b5 (fun Q' q => ?_) ?_
  · walk_at "d"
    exact q
  walk_at "d"
  exact hq

theorem map_of {α : Type} {c : α → D} {P : α → Prop} : ∀ {ds : List D}, (∀ d ∈ ds, ∃ w, d = c w ∧ P w) → ∃ ws : List α, ds = ws.map c ∧ ∀ w ∈ ws, P w
  | [], _ => ⟨[], rfl, by simp⟩
  | d :: ds, h => by
    obtain ⟨w, rfl, hw⟩ := h d (by simp)
    obtain ⟨ws, rfl, hws⟩ := map_of (ds := ds) fun e he => h e (by simp [he])
    refine ⟨w :: ws, rfl, fun z hz => ?_⟩
    rcases List.mem_cons.mp hz with rfl | hz
    · exact hw
    · exact hws z hz
def sp_law_pairs : SpD := fun ds G Q _ => ∃ (p : Addr) (r : RS) (N : Nat), ds = [.ref p, r.words] ∧ r.ok ∧ Feed G p N ∧ N ≤ 2 ^ 25 ∧ ∀ (ps : List (Int × Int)) G', ((∀ q ∈ ps, Bt 310 q.1 ∧ Bt 310 q.2)) → (ps.length ≤ 8) → Feed G' p (N + 300) → But p G G' → Q (.lst (ps.map pr2)) G'
theorem len_law_pairs : LN sp_law_pairs 2 := by rintro ds G Q E ⟨p, r, N, rfl, _⟩; rfl
def N_law_pairs : List Str := ["_law_deck_here", "_law_spec_here", "_law_some", "_law_k", "_law_x"]
abbrev t_law_pairs_1 : TSD := (dRet (dOp aAny (dLc true (iSqD (dVar 2)) (.nm 4) dYes (dTup (dCons (dVar 4) (dCons (dCall sp_law_one (dCons (dVar 0) (dCons (dVar 2) dNil))) dNil))) [4]) (dLst (dCons (dTup (dCons (dOp xAny (dVar 2) (dC (.int 0))) (dCons (dOp aSub (dC (.int 0)) (dOp xAny (dVar 2) (dC (.int 0)))) dNil))) (dCons (dTup (dCons (dOp aSub (dC (.int 0)) (dOp xAny (dVar 2) (dC (.int 1)))) (dCons (dOp aSub (dOp xAny (dVar 2) (dC (.int 1))) (dC (.int 1))) dNil))) dNil)))))
def t_law_pairs : TSD := (dSeq (dAsg (dOp aAny (dLc true (iRngD1 (dCons (dC (.int 4)) dNil)) (.nm 3) dYes (dCall sp_law_about (dCons (dVar 0) (dCons (dVar 1) dNil))) [3]) (dLst (dCons (dC (.int 0)) (dCons (dOp aAny (dC (.int 1)) (dCall sp_law_draw (dCons (dVar 0) (dCons (dC (.int 9)) dNil)))) dNil)))) (gdName 2))
  t_law_pairs_1)
theorem vc_law_pairs : VC sp_law_pairs N_law_pairs t_law_pairs := by
  rintro ds G Q EX ⟨p, r, N, rfl, ok, hF, hN, hq⟩
  walk_at "go law_pairs"
  refine lc_feed 60 (fun d => ∃ x, d = D.int x ∧ Bt 300 x) hF (by rw [sizeLine_eq]; decide) (fun a ha G9 M hF9 hM _ => ⟨_, rfl, fun Q' q' => ?_⟩) fun ds G1 e1 e2 hF1 hB1 => ?_
  · dsimp only [wipeD, List.set]
    walk_at "d"
    exact ⟨p, r, M, rfl, ok, hF9, by omega, fun x G5 hx hF5 hB5 => q' _ _ ⟨x, rfl, hx⟩ hF5 hB5⟩
  obtain ⟨xs, rfl, hxs⟩ := ints_of e2
  rw [List.length_map] at e1
  have e1 : xs.length = 4 := e1
  obtain ⟨x0, x1, x2, x3, rfl⟩ : ∃ x0 x1 x2 x3, xs = [x0, x1, x2, x3] := by
    match xs, e1 with
    | [a, b, c, d], _ => exact ⟨a, b, c, d, rfl⟩
  walk_at "d"
  refine st_drawI hF1 (by omega) (by decide) fun b G2 b0 b1 hF2 hB2 => ?_
  walk_at "d"
  rw [show [x0, x1, x2, x3].map D.int ++ [D.int 0, D.int (1 + b)] = [x0, x1, x2, x3, 0, 1 + b].map D.int from rfl]
  have hys : ∀ y ∈ [x0, x1, x2, x3, 0, 1 + b], Bt 310 y := by
    intro y hy
    have h := fun z hz => (hxs z hz).mono (show 300 ≤ 310 by decide)
    simp only [List.mem_cons, List.not_mem_nil, or_false] at hy
    rcases hy with rfl | rfl | rfl | rfl | rfl | rfl
    · exact h _ (by simp)
    · exact h _ (by simp)
    · exact h _ (by simp)
    · exact h _ (by simp)
    · exact (Bt.of (b := 1) (x := 0) (by decide)).mono (by decide)
    · exact (Bt.of (b := 5) (by omega)).mono (by decide)
  refine lc_dr (fun G M => Feed G p M) (fun e h => h.at e) (fun h => h.some) 1 (fun d => ∃ q : Int × Int, d = pr2 q ∧ (Bt 310 q.1 ∧ Bt 310 q.2)) hF2 (fun _ _ => .lst _) (by rw [sizeLine_eq]; show 6 ≤ _; omega) (fun a ha G' M hF' hM _ => ⟨_, rfl, fun Q' q' => ?_⟩) fun ds G9 e3 e4 hF9 hB9 => ?_
  · dsimp only [wipeD, List.set]
    walk_at "d"
    refine st_oneM (c := D.int) (l := [x0, x1, x2, x3, 0, 1 + b]) hF' (by simp only [List.length_cons, List.length_nil] at hM; omega) ⟨by simp, by simp⟩ fun y G5 hy hF5 hB5 => ?_
    walk_at "d"
    exact q' _ _ ⟨(a, y), rfl, hys _ ha, hys _ hy⟩ hF5 hB5
  obtain ⟨ps, rfl, hps⟩ := map_of e4
  rw [List.length_map] at e3
  have e3 : ps.length = 6 := e3
  have n0 : Bt 310 (0 - x0) := by rw [Int.zero_sub]; exact ((hxs x0 (by simp)).mono (by decide)).neg
  have n1 : Bt 310 (0 - x1) := by rw [Int.zero_sub]; exact ((hxs x1 (by simp)).mono (by decide)).neg
  have n2 : Bt 310 (x1 - 1) := ((hxs x1 (by simp)).sub (Bt.of (b := 1) (x := 1) (by decide))).mono (by decide)
  walk_at "d"
  rw [show ps.map pr2 ++ [D.tup [D.int x0, D.int (0 - x0)], D.tup [D.int (0 - x1), D.int (x1 - 1)]] = (ps ++ [(x0, 0 - x0), (0 - x1, x1 - 1)]).map pr2 from by rw [List.map_append]; rfl]
  refine hq _ G9 ?_ (by rw [List.length_append, e3]; exact Nat.le_refl 8) (hF9.mono (by show N + 60 * 4 + 1 + 1 * 6 ≤ _; omega)) ((hB1.trans hB2).trans hB9)
  intro q hq'
  rcases List.mem_append.mp hq' with hq' | hq'
  · exact hps q hq'
  · simp only [List.mem_cons, List.not_mem_nil, or_false] at hq'
    rcases hq' with rfl | rfl
    · exact ⟨(hxs x0 (by simp)).mono (by decide), n0⟩
    · exact ⟨n1, n2⟩

def lone : RS → Bool
  | .rnd => false
  | .thn _ _ => false
  | _ => true
def sp_law_witness : SpD := fun ds G Q _ => ∃ (r : RS) (n : Str), ds = [r.words, .str n] ∧ r.ok ∧ lone r = true ∧ n ∈ WDS ∧ r.keeps n = false ∧ ∀ x y G', Bt 100 x → Bt 100 y → breaksB r n x y = true → Kp G G' → Q (.tup [.int x, .int y]) G'
theorem len_law_witness : LN sp_law_witness 2 := by rintro ds G Q E ⟨r, n, rfl, _⟩; rfl
def N_law_witness : List Str := ["_law_spec_here", "_law_name", "_law_kind", "_law_bound", "_law_top"]
abbrev t_law_witness_1 : TSD := (dRet (dIf (dTest (dOp (eAny false) (dVar 1) (dC (.str "two")))) (dTup (dCons (dCB kMax2 (dCons (dC (.int 1)) (dCons (dOp aDiv (dOp aSub (dVar 3) (dC (.int 1))) (dC (.int 2))) dNil))) (dCons (dC (.int 0)) dNil))) (dTup (dCons (dC (.int 1)) (dCons (dCB kMax2 (dCons (dC (.int 1)) (dCons (dOp aDiv (dOp aSub (dVar 3) (dC (.int 1))) (dC (.int 2))) dNil))) dNil)))))
abbrev t_law_witness_2 : TSD := (dRet (dDGet (dDisp [((dC (.str "two")), (dTup (dCons (dOp xAny (dVar 0) (dC (.int 2))) (dCons (dC (.int 0)) dNil)))), ((dC (.str "merge")), (dTup (dCons (dOp aAny (dOp xAny (dVar 0) (dC (.int 2))) (dC (.int 1))) (dCons (dUn uNeg (dC (.int 1))) dNil)))), ((dC (.str "odd")), (dTup (dCons (dOp aAny (dCB kMax2 (dCons (dOp xAny (dVar 0) (dC (.int 2))) (dCons (dOp aSub (dC (.int 0)) (dVar 3)) dNil))) (dC (.int 1))) (dCons (dC (.int 0)) dNil))))]) (dVar 1)))
abbrev t_law_witness_3 : TSD := (dRet (dTup (dCons (dIf (dOr (dAnd (dTest (dOp (eAny false) (dVar 1) (dC (.str "two")))) (dTest (dOp cGtI (dVar 4) (dC (.int 0))))) (dAnd (dTest (dOp (eAny false) (dVar 1) (dC (.str "odd")))) (dTest (dOp cGtI (dOp aAny (dOp xAny (dVar 0) (dC (.int 2))) (dVar 4)) (dC (.int 0)))))) (dVar 4) (dOp xAny (dVar 0) (dC (.int 2)))) (dCons (dC (.int 0)) dNil))))
abbrev t_law_witness_4 : TSD := (dSeq (dIfS (dTest (dOp (eAny false) (dVar 2) (dC (.str "Wrap"))))
  (dSeq (dAsg (dOp aSub (dOp aAny (dOp xAny (dVar 0) (dC (.int 2))) (dVar 3)) (dC (.int 1))) (gdName 4))
  t_law_witness_3)
  dNext)
  (dRet (dTup (dCons (dOp aAny (dOp aShl (dC (.int 1)) (dVar 3)) (dC (.int 1))) (dCons (dOp aSub (dC (.int 0)) (dOp aShl (dC (.int 1)) (dVar 3))) dNil)))))
abbrev t_law_witness_5 : TSD := (dSeq (dIfS (dTest (dOp (eAny false) (dVar 2) (dC (.str "Grid"))))
  t_law_witness_1
  dNext)
  (dSeq (dIfS (dTest (dOp (eAny false) (dVar 2) (dC (.str "Clamp"))))
  t_law_witness_2
  dNext)
  t_law_witness_4))
def t_law_witness : TSD := (dSeq (dPar 2 3 (dCons (dOp xAny (dVar 0) (dC (.int 0))) (dCons (dOp xAny (dVar 0) (dC (.int 1))) dNil)))
  t_law_witness_5)
theorem vc_law_witness : VC sp_law_witness N_law_witness t_law_witness := by
  rintro ds G Q EX ⟨r, n, rfl, ok, hl, hn, hk, hq⟩
  cases r with
  | rnd => cases hl
  | thn a b => cases hl
  | bit k w =>
    have wit := wit_bits ok hn hk
    have ok2 := ok
    obtain ⟨hkk, w1, w2⟩ := ok
    obtain ⟨w', rfl⟩ := Int.eq_ofNat_of_zero_le (show 0 ≤ w by omega)
    rw [Int.toNat_natCast] at wit
    have b1 : Bt 61 ((2 : Int) ^ w') := (bt_two w').mono (by omega)
    have one : Bt 1 (1 : Int) := .of (by decide)
    have nk : ∀ y : Str, y ∈ (["Grid", "Clamp", "Wrap"] : List Str) → ¬ k = y := by
      intro y hy he
      subst he
      revert hkk hy
      simp only [KNDS, List.mem_cons, List.not_mem_nil, or_false]
      rintro (rfl | rfl | rfl | rfl | rfl) <;> decide +kernel
    have k1 := nk "Grid" (by simp)
    have k2 := nk "Clamp" (by simp)
    have k3 := nk "Wrap" (by simp)
    show t_law_witness _ (startD N_law_witness [.tup [.str k, .int (w' : Int)], .str n]) G
    walk_at "go law_witness"
    refine st_iteF' (decide_eq_false k1) ?_
    walk_at "d"
    refine st_iteF' (decide_eq_false k2) ?_
    walk_at "d"
    refine st_iteF' (decide_eq_false k3) ?_
    walk_at "d"
    rw [Int.one_mul, Int.toNat_natCast]
    exact hq _ _ _ ((b1.add one).mono (by decide)) (by rw [Int.zero_sub]; exact b1.neg.mono (by decide)) wit .refl
  | grid s =>
    have wit := wit_grid ok hn hk
    obtain ⟨s1, s2⟩ := ok
    show t_law_witness _ (startD N_law_witness [.tup [.str "Grid", .int s], .str n]) G
    walk_at "go law_witness"
    have bs : Bt 100 (max 1 ((s - 1) / 2)) := .of (by omega)
    have c0 : Bt 100 (0 : Int) := .of (by decide)
    have c1 : Bt 100 (1 : Int) := .of (by decide)
    by_cases h : n = "two"
    · rw [if_pos h, if_pos h] at wit
      rw [if_pos (decide_eq_true h)]
      exact hq _ _ _ bs c0 wit .refl
    · rw [if_neg h, if_neg h] at wit
      rw [if_neg (by rw [decide_eq_false h]; exact Bool.false_ne_true)]
      exact hq _ _ _ c1 bs wit .refl
  | clamp l u =>
    have wit := wit_clamp ok hn hk
    obtain ⟨b1, b2, h1, h2⟩ := ok
    show t_law_witness _ (startD N_law_witness [.tup [.str "Clamp", .int l, .int u], .str n]) G
    walk_at "go law_witness"
    refine st_disp fun d hd => ?_
    walk_at "d"
    refine ⟨gput_same, [(.inr "two", .tup [.int u, .int 0]), (.inr "merge", .tup [.int (u + 1), .int (-1)]), (.inr "odd", .tup [.int (max u (0 - l) + 1), .int 0])], rfl, by show 3 ≤ 15; omega, ?_⟩
    walk_at "d"
    have nl : Bt 71 (0 - l) := by rw [Int.zero_sub]; exact b1.neg.mono (by decide)
    have e1 : Bt 100 u := b2.mono (by decide)
    have e2 : Bt 100 (u + 1) := (b2.add (Bt.of (b := 1) (x := 1) (by decide))).mono (by decide)
    have e3 : Bt 100 (max u (0 - l) + 1) := by
      have a1 := (b2.mono (show 70 ≤ 71 by decide)).to
      have a2 := nl.to
      refine (Bt.of (b := 72) ?_).mono (by decide)
      rw [Nat.pow_succ]
      generalize 2 ^ 71 = B at *
      omega
    have c0 : Bt 100 (0 : Int) := .of (by decide)
    have c1 : Bt 100 (-1 : Int) := .of (by decide)
    have hkp : ∀ v, Kp G (gput (gput G d (HOD.dK [])) d v) := fun v => (Kp.new hd).put hd
    simp only [WDS, List.mem_cons, List.not_mem_nil, or_false] at hn
    rcases hn with rfl | rfl | rfl | rfl
    · refine st_dgetq gput_same rfl (v := .tup [.int (max u (0 - l) + 1), .int 0]) (by rfl) ?_
      exact hq _ _ _ e3 c0 (by simpa [s_odd_two, s_odd_still, s_odd_merge, s_two_odd, s_two_still, s_two_merge, s_still_odd, s_still_two, s_still_merge, s_merge_odd, s_merge_two, s_merge_still] using wit) (hkp _)
    · refine st_dgetq gput_same rfl (v := .tup [.int u, .int 0]) (by rfl) ?_
      exact hq _ _ _ e1 c0 (by simpa [s_odd_two, s_odd_still, s_odd_merge, s_two_odd, s_two_still, s_two_merge, s_still_odd, s_still_two, s_still_merge, s_merge_odd, s_merge_two, s_merge_still] using wit) (hkp _)
    · simp [RS.keeps] at hk
    · refine st_dgetq gput_same rfl (v := .tup [.int (u + 1), .int (-1)]) (by rfl) ?_
      exact hq _ _ _ e2 c1 (by simpa [s_odd_two, s_odd_still, s_odd_merge, s_two_odd, s_two_still, s_two_merge, s_still_odd, s_still_two, s_still_merge, s_merge_odd, s_merge_two, s_merge_still] using wit) (hkp _)
  | wrap m l =>
    have wit := wit_wrap ok hn hk
    obtain ⟨h1, b1, b2⟩ := ok
    show t_law_witness _ (startD N_law_witness [.tup [.str "Wrap", .int m, .int l], .str n]) G
    walk_at "go law_witness"
    have e : (if (decide (n = "two") && decide (0 < l + m - 1) || decide (n = "odd") && decide (0 < l + (l + m - 1))) = true then l + m - 1 else l) = wrapWit m l n := by
      unfold wrapWit
      simp only [Bool.or_eq_true, Bool.and_eq_true, decide_eq_true_eq]
    have top : Bt 100 (l + m - 1) := ((b2.add b1).sub (Bt.of (b := 1) (x := 1) (by decide))).mono (by decide)
    rw [e]
    refine hq _ _ _ ?_ (.of (by decide)) wit .refl
    unfold wrapWit
    split
    · exact top
    · exact b2.mono (by decide)

theorem keeps_wds (n : Str) (h : n ∈ WDS) : n = "odd" ∨ n = "two" ∨ n = "still" ∨ n = "merge" := by simpa [WDS] using h
/-- the list of the words kept -/
def sp_law_kept (d : Nat) : SpD := fun ds G Q _ => ∃ r : RS, ds = [r.words] ∧ r.dep < d ∧ r.ok ∧ ∀ ws : List Str, ws.length ≤ 4 → (∀ n ∈ WDS, decide (n ∈ ws) = r.keeps n) → Q (.lst (ws.map D.str)) G
theorem len_law_kept (d : Nat) : LN (sp_law_kept d) 1 := by rintro ds G Q E ⟨r, rfl, _⟩; rfl
theorem no_law_kept : ∀ ds G Q E, ¬ sp_law_kept 0 ds G Q E := by
  rintro ds G Q E ⟨r, rfl, h, _⟩
  omega
local macro_rules | `(tactic| walk_at "no") => `(tactic| (refine st_iteF' (by simp +decide) ?_; walk_at "d"))
local macro_rules | `(tactic| walk_at "ya") => `(tactic| (refine st_iteT' (by simp +decide) ?_; walk_at "d"))
def N_law_kept : List Str := ["_law_spec_here", "_law_kind", "_law_name"]
def t_law_kept (rs : SpD) : TSD := (dSeq (dAsg (dOp xAny (dVar 0) (dC (.int 0))) (gdName 1))
  (dSeq (dIfS (dTest (dOp (eAny false) (dVar 1) (dC (.str "Then"))))
  (dRet (dLc true (iSqD (dTup (dCons (dC (.str "odd")) (dCons (dC (.str "two")) dNil)))) (.nm 2) (dAnd (dTest (dOp (iAny false) (dVar 2) (dCall rs (dCons (dOp xAny (dVar 0) (dC (.int 1))) dNil)))) (dTest (dOp (iAny false) (dVar 2) (dCall rs (dCons (dOp xAny (dVar 0) (dC (.int 2))) dNil))))) (dVar 2) [2]))
  dNext)
  (dSeq (dIfS (dOr (dTest (dOp (eAny false) (dVar 1) (dC (.str "Rounding")))) (dAnd (dTest (dOp (eAny false) (dVar 1) (dC (.str "Grid")))) (dTest (dOp (eAny false) (dOp xAny (dVar 0) (dC (.int 1))) (dC (.int 1))))))
  (dRet (dLst (dCons (dC (.str "odd")) (dCons (dC (.str "two")) (dCons (dC (.str "still")) (dCons (dC (.str "merge")) dNil))))))
  dNext)
  (dSeq (dIfS (dTest (dOp (eAny false) (dVar 1) (dC (.str "Grid"))))
  (dRet (dLst (dCons (dC (.str "odd")) (dCons (dC (.str "still")) dNil))))
  dNext)
  (dSeq (dIfS (dTest (dOp (eAny false) (dVar 1) (dC (.str "Clamp"))))
  (dRet (dOp aAny (dLst (dCons (dC (.str "still")) dNil)) (dOp mAny (dLst (dCons (dC (.str "odd")) dNil)) (dCB kInt (dCons (dOp (eAny false) (dOp aAny (dOp xAny (dVar 0) (dC (.int 1))) (dOp xAny (dVar 0) (dC (.int 2)))) (dC (.int 0))) dNil)))))
  dNext)
  (dSeq (dIfS (dTest (dOp (eAny false) (dVar 1) (dC (.str "Wrap"))))
  (dRet (dOp aAny (dLst (dCons (dC (.str "still")) (dCons (dC (.str "merge")) dNil))) (dOp mAny (dLst (dCons (dC (.str "odd")) dNil)) (dCB kInt (dCons (dOp (eAny false) (dOp aAny (dOp xAny (dVar 0) (dC (.int 1))) (dOp mAny (dC (.int 2)) (dOp xAny (dVar 0) (dC (.int 2))))) (dC (.int 1))) dNil)))))
  dNext)
  (dRet (dOp aAny (dLst (dCons (dC (.str "two")) (dCons (dC (.str "still")) dNil))) (dOp mAny (dLst (dCons (dC (.str "odd")) dNil)) (dCB kInt (dCons (dOp (iAny false) (dVar 1) (dTup (dCons (dC (.str "Nearest")) (dCons (dC (.str "Cut")) (dCons (dC (.str "Sticky")) dNil))))) dNil)))))))))))
theorem vc_law_kept (d : Nat) : VC (sp_law_kept (d + 1)) N_law_kept (t_law_kept (sp_law_kept d)) := by
  rintro ds G Q EX ⟨r, rfl, hd, ok, hq⟩
  have hq2 : ∀ A B : List Str, (A ++ B).length ≤ 4 → (∀ n ∈ WDS, decide (n ∈ A ++ B) = r.keeps n) → Q (.lst (A.map D.str ++ B.map D.str)) G := fun A B h1 h2 => by have := hq (A ++ B) h1 h2; rwa [List.map_append] at this
  cases r with
  | bit k w =>
    have hkk := ok.1
    show t_law_kept (sp_law_kept d) _ (startD N_law_kept [.tup [.str k, .int w]]) G
    have nk : ∀ y : Str, y ∈ (["Grid", "Clamp", "Wrap", "Then", "Rounding"] : List Str) → ¬ k = y := by
      intro y hy he
      subst he
      revert hkk hy
      simp only [KNDS, List.mem_cons, List.not_mem_nil, or_false]
      rintro (rfl | rfl | rfl | rfl | rfl) <;> decide +kernel
    have k1 := nk "Grid" (by simp)
    have k2 := nk "Clamp" (by simp)
    have k3 := nk "Wrap" (by simp)
    have k4 := nk "Then" (by simp)
    have k5 := nk "Rounding" (by simp)
    walk_at "go law_kept"
    refine st_iteF' (decide_eq_false k4) ?_
    walk_at "d"
    refine st_iteF' (by rw [decide_eq_false k5, decide_eq_false k1]; rfl) ?_
    walk_at "d"
    refine st_iteF' (decide_eq_false k1) ?_
    walk_at "d"
    refine st_iteF' (decide_eq_false k2) ?_
    walk_at "d"
    refine st_iteF' (decide_eq_false k3) ?_
    walk_at "d"
    refine hq2 ["two", "still"] _ (by split <;> simp) fun n hn => ?_
    rcases keeps_wds n hn with rfl | rfl | rfl | rfl
    · by_cases h : k ∈ (["Nearest", "Cut", "Sticky"] : List Str)
      · simp only [h, decide_true, if_true]
        simp only [List.mem_cons, List.not_mem_nil, or_false] at h
        simp [RS.keeps, s_odd_two, s_odd_still, s_odd_merge, s_two_odd, s_two_still, s_two_merge, s_still_odd, s_still_two, s_still_merge, s_merge_odd, s_merge_two, s_merge_still]
        exact h.elim (fun z => .inl (.inl z)) (fun z => z.elim (fun y => .inl (.inr y)) .inr)
      · simp only [h, decide_false, Bool.false_eq_true, if_false]
        simp only [List.mem_cons, List.not_mem_nil, or_false] at h
        simp [RS.keeps, s_odd_two, s_odd_still, s_odd_merge, s_two_odd, s_two_still, s_two_merge, s_still_odd, s_still_two, s_still_merge, s_merge_odd, s_merge_two, s_merge_still]
        simp only [not_or] at h
        simp [h]
    · simp [RS.keeps, s_odd_two, s_odd_still, s_odd_merge, s_two_odd, s_two_still, s_two_merge, s_still_odd, s_still_two, s_still_merge, s_merge_odd, s_merge_two, s_merge_still]
    · simp [RS.keeps, s_odd_two, s_odd_still, s_odd_merge, s_two_odd, s_two_still, s_two_merge, s_still_odd, s_still_two, s_still_merge, s_merge_odd, s_merge_two, s_merge_still]
    · split <;> simp [RS.keeps, s_odd_two, s_odd_still, s_odd_merge, s_two_odd, s_two_still, s_two_merge, s_still_odd, s_still_two, s_still_merge, s_merge_odd, s_merge_two, s_merge_still]
  | grid s =>
    show t_law_kept (sp_law_kept d) _ (startD N_law_kept [.tup [.str "Grid", .int s]]) G
    walk_at "go law_kept"
    refine st_iteB (fun h => ?_) (fun h => ?_)
    · walk_at "d"
      refine hq ["odd", "two", "still", "merge"] (by decide) fun n hn => ?_
      have hs : s = 1 := by simpa [show ¬ (("Grid" : Str) = "Rounding") by decide +kernel] using h
      subst hs
      rcases keeps_wds n hn with rfl | rfl | rfl | rfl <;> simp [RS.keeps, s_odd_two, s_odd_still, s_odd_merge, s_two_odd, s_two_still, s_two_merge, s_still_odd, s_still_two, s_still_merge, s_merge_odd, s_merge_two, s_merge_still]
    · walk_at "d"
      refine hq ["odd", "still"] (by decide) fun n hn => ?_
      have hs : s ≠ 1 := by simpa [show ¬ (("Grid" : Str) = "Rounding") by decide +kernel] using h
      rcases keeps_wds n hn with rfl | rfl | rfl | rfl <;> simp [RS.keeps, s_odd_two, s_odd_still, s_odd_merge, s_two_odd, s_two_still, s_two_merge, s_still_odd, s_still_two, s_still_merge, s_merge_odd, s_merge_two, s_merge_still, hs]
  | clamp l u =>
    show t_law_kept (sp_law_kept d) _ (startD N_law_kept [.tup [.str "Clamp", .int l, .int u]]) G
    walk_at "go law_kept"
    walk_at "no"
    refine hq2 ["still"] _ (by split <;> simp) fun n hn => ?_
    rcases keeps_wds n hn with rfl | rfl | rfl | rfl <;> by_cases h : l + u = 0 <;> simp [RS.keeps, s_odd_two, s_odd_still, s_odd_merge, s_two_odd, s_two_still, s_two_merge, s_still_odd, s_still_two, s_still_merge, s_merge_odd, s_merge_two, s_merge_still, h]
  | wrap m l =>
    show t_law_kept (sp_law_kept d) _ (startD N_law_kept [.tup [.str "Wrap", .int m, .int l]]) G
    walk_at "go law_kept"
    walk_at "no"
    have bl2 : Bt 70 l := ok.2.2
    walk_at "d"
    refine hq2 ["still", "merge"] _ (by split <;> simp) fun n hn => ?_
    have e : (m + 2 * l = 1) ↔ (m % 2 = 1 ∧ l + m / 2 = 0) := by omega
    rcases keeps_wds n hn with rfl | rfl | rfl | rfl
    · by_cases h : m + 2 * l = 1
      · obtain ⟨e1, e2⟩ := e.mp h
        simp [RS.keeps, s_odd_two, s_odd_still, s_odd_merge, s_two_odd, s_two_still, s_two_merge, s_still_odd, s_still_two, s_still_merge, s_merge_odd, s_merge_two, s_merge_still, h, e1, e2]
      · have e3 : ¬ (m % 2 = 1 ∧ l + m / 2 = 0) := fun z => h (e.mpr z)
        simp only [h, decide_false, Bool.false_eq_true, if_false]
        simp [RS.keeps, s_odd_two, s_odd_still, s_odd_merge, s_two_odd, s_two_still, s_two_merge, s_still_odd, s_still_two, s_still_merge, s_merge_odd, s_merge_two, s_merge_still]
        intro z1 z2
        exact e3 ⟨z1, z2⟩
    · split <;> simp [RS.keeps, s_odd_two, s_odd_still, s_odd_merge, s_two_odd, s_two_still, s_two_merge, s_still_odd, s_still_two, s_still_merge, s_merge_odd, s_merge_two, s_merge_still]
    · simp [RS.keeps, s_odd_two, s_odd_still, s_odd_merge, s_two_odd, s_two_still, s_two_merge, s_still_odd, s_still_two, s_still_merge, s_merge_odd, s_merge_two, s_merge_still]
    · simp [RS.keeps, s_odd_two, s_odd_still, s_odd_merge, s_two_odd, s_two_still, s_two_merge, s_still_odd, s_still_two, s_still_merge, s_merge_odd, s_merge_two, s_merge_still]
  | rnd =>
    show t_law_kept (sp_law_kept d) _ (startD N_law_kept [.tup [.str "Rounding"]]) G
    walk_at "go law_kept"
    walk_at "ya"
    refine hq ["odd", "two", "still", "merge"] (by decide) fun n hn => ?_
    rcases keeps_wds n hn with rfl | rfl | rfl | rfl <;> simp [RS.keeps, s_odd_two, s_odd_still, s_odd_merge, s_two_odd, s_two_still, s_two_merge, s_still_odd, s_still_two, s_still_merge, s_merge_odd, s_merge_two, s_merge_still]
  | thn a b =>
    have hd : max a.dep b.dep + 1 < d + 1 := hd
    show t_law_kept (sp_law_kept d) _ (startD N_law_kept [.tup [.str "Then", a.words, b.words]]) G
    walk_at "go law_kept"
    refine lc_of (["odd", "two"] : List Str) D.str rfl ?_
    refine lc_evK D.str (k := fun n => a.keeps n && b.keeps n) (f := id) (fun _ _ _ => trivial) (by rw [sizeLine_eq]; decide) (fun n hn p acc hp => ⟨_, rfl, fun QT E q => ?_, fun _ Q' E q => ?_⟩) ?_
    · have hw : n ∈ WDS := by
        simp only [List.mem_cons, List.not_mem_nil, or_false] at hn
        rcases hn with rfl | rfl <;> simp [WDS]
      dsimp only [wipeD, List.set]
      walk_at "d"
      refine ⟨a, rfl, by omega, ok.1, fun wa _ ha => ?_⟩
      walk_at "d"
      rw [ha n hw]
      refine st_iteB (fun h => ?_) (fun h => ?_)
      · rw [h, Bool.true_and] at q
        walk_at "d"
        refine ⟨b, rfl, by omega, ok.2, fun wb _ hb => ?_⟩
        walk_at "d"
        rw [hb n hw]
        exact q
      · rw [h, Bool.false_and] at q
        exact q
    · dsimp only [wipeD, List.set]
      walk_at "d"
      exact q
    refine hq _ (Nat.le_trans (by rw [List.length_map]; exact List.length_filter_le _ _) (by decide)) fun n hn => ?_
    rw [List.map_id]
    rcases keeps_wds n hn with rfl | rfl | rfl | rfl <;> simp [RS.keeps, s_odd_two, s_odd_still, s_odd_merge, s_two_odd, s_two_still, s_two_merge, s_still_odd, s_still_two, s_still_merge, s_merge_odd, s_merge_two, s_merge_still, List.mem_filter]

def WDS2 : List Str := ["merge", "odd", "still", "two"]
theorem wds2 (n : Str) (h : n ∈ WDS2) : n ∈ WDS := by
  simp only [WDS2, List.mem_cons, List.not_mem_nil, or_false] at h
  simp only [WDS, List.mem_cons, List.not_mem_nil, or_false]
  rcases h with h | h | h | h <;> simp [h]
def sp_law_told_right : SpD := fun ds G Q _ => ∃ (r : RS), ds = [r.words, r.obj] ∧ r.ok ∧ r.dep ≤ 3 ∧ r.size ≤ 100 ∧ ∀ G', Kp G G' → Q (.bl true) G'
theorem len_law_told_right : LN sp_law_told_right 2 := by rintro ds G Q E ⟨r, rfl, _⟩; rfl
def N_law_told_right : List Str := ["_law_spec_here", "_law_made", "_law_kept_here", "_law_name", "_law_found", "_law_x", "_law_y", "_law_one_here"]
abbrev t_law_told_right_1 : TSD := (dSeq (dAsg (dCall sp_law_witness (dCons (dVar 0) (dCons (dVar 3) dNil))) (gdTup 2 (gdCons (gdName 5) (gdCons (gdName 6) gdNil))))
  (dIfS (dNot (dTru (dCall sp_law_breaks (dCons (dVar 1) (dCons (dVar 3) (dCons (dVar 5) (dCons (dVar 6) dNil)))))))
  (dRet (dC (.bl false)))
  dNext))
abbrev t_law_told_right_2 : TSD := (dIfS (dAnd (dTest (dOp (iAny true) (dVar 3) (dVar 2))) (dTest (dOp (eAny true) (dOp xAny (dVar 0) (dC (.int 0))) (dC (.str "Then")))))
  t_law_told_right_1
  dNext)
abbrev t_law_told_right_3 : TSD := (dSeq (dIfS (dTest (dOp (eAny true) (dLc true (iSqD (dVar 4)) (.nm 7) (dOr (dNot (dTru (dCB kIsi (dCons (dVar 7) (dCons (dC (.ty "bool")) dNil))))) (dTest (dOp (eAny true) (dVar 7) (dOp (iAny false) (dVar 3) (dVar 2))))) (dVar 7) [7]) (dLst dNil)))
  (dRet (dC (.bl false)))
  dNext)
  t_law_told_right_2)
abbrev t_law_told_right_4 : TSD := (dSeq (dAsg (dLst (dCons (dMethV "keeps" [("Nearest", sp_Nearest_keeps), ("Cut", sp_Cut_keeps), ("Up", sp_Up_keeps), ("Down", sp_Down_keeps), ("Sticky", sp_Sticky_keeps), ("Grid", sp_Grid_keeps), ("Clamp", sp_Clamp_keeps), ("Wrap", sp_Wrap_keeps), ("Rounding", sp_Rounding_keeps), ("Then", (sp_Then_keeps 4))] (dVar 1) (dCons (dVar 3) dNil)) (dCons (dMethVK "keeps" 0 1 [0, 1] [("Nearest", sp_Nearest_keeps), ("Cut", sp_Cut_keeps), ("Up", sp_Up_keeps), ("Down", sp_Down_keeps), ("Sticky", sp_Sticky_keeps), ("Grid", sp_Grid_keeps), ("Clamp", sp_Clamp_keeps), ("Wrap", sp_Wrap_keeps), ("Rounding", sp_Rounding_keeps), ("Then", (sp_Then_keeps 4))] (dVar 1) dNil (dCons (dVar 3) dNil)) dNil))) (gdName 4))
  t_law_told_right_3)
abbrev t_law_told_right_5 : TSD := (dSeq (dFor (iSqD (dTup (dCons (dC (.str "merge")) (dCons (dC (.str "odd")) (dCons (dC (.str "still")) (dCons (dC (.str "two")) dNil)))))) (gdName 3)
  t_law_told_right_4)
  (dRet (dC (.bl true))))
def t_law_told_right : TSD := (dSeq (dAsg (dCall (sp_law_kept 4) (dCons (dVar 0) dNil)) (gdName 2))
  t_law_told_right_5)
theorem vc_law_told_right : VC sp_law_told_right N_law_told_right t_law_told_right := by
  rintro ds G Q EX ⟨r, rfl, ok, hd, hz, hq⟩
  obtain ⟨rest, er⟩ := words_kind r
  have kd : ∀ {n : Str}, n ∈ WDS → r.keeps n = false → r.kind ≠ "Then" → lone r = true := fun {n} hn h hk => by
    cases r with
    | rnd => cases h
    | thn a b => exact absurd rfl hk
    | _ => rfl
  walk_at "go law_told_right"
  refine ⟨r, rfl, by omega, ok, fun ws hws hk => ?_⟩
  walk_at "d"
  refine for_of WDS2 D.str rfl ?_
  refine for_set [3, 4, 5, 6, 7] (fun pre vs G' => (∃ (u3 : Option D) (u4 : Option D) (u5 : Option D) (u6 : Option D) (u7 : Option D), vs = [u3, u4, u5, u6, u7]) ∧ Kp G G') (fun _ _ _ _ => trivial) rfl ⟨⟨_, _, _, _, _, rfl⟩, .refl⟩ ?_ ?_
  · rintro pre n post vs G1 en ⟨⟨u3, u4, u5, u6, u7, rfl⟩, hk1⟩
    walk_at "sl"
    have hn : n ∈ WDS := wds2 n (by rw [en]; simp)
    walk_at "d"
    refine st_keeps (d := 4) (fun _ _ _ => rfl) (by omega) ok hn (fun Q' q => ?_) ?_
    · walk_at "d"
      exact q
    walk_at "d"
    refine st_keepsK (d := 4) (fun _ _ _ => rfl) (by omega) ok hn (fun Q' q => ?_) ?_
    · walk_at "d"
      exact q
    walk_at "d"
    refine lc_of [r.keeps n, r.keeps n] D.bl rfl ?_
    refine lc_none (fun _ _ hp => ok_put hp (.lst _)) (by rw [sizeLine_eq]; show 2 ≤ _; omega) (fun z hz p acc hp => ⟨_, rfl, fun Q' E' q => ?_⟩) ?_
    · have hz : z = r.keeps n := by simpa using hz
      subst hz
      dsimp only [wipeD, List.set]
      walk_at "d"
      rw [hk n hn, decide_eq_true rfl]
      exact q
    walk_at "d"
    rw [hk n hn]
    refine st_iteB (fun h => ?_) (fun h => ?_)
    · have h : r.keeps n = false := by simpa using h
      walk_at "d"
      rw [er]
      refine st_ix (.tup _) atI_cons ?_
      walk_at "d"
      refine st_iteN (fun ht => ?_) (fun ht => ?_)
      · walk_at "d"
        rw [← er]
        refine ⟨r, n, rfl, ok, kd hn h ht, hn, h, fun x y G9 bx b_y hb hk9 => ?_⟩
        walk_at "d"
        refine ⟨r, n, x, y, rfl, ok, hd, hz, bx.mono (by decide), b_y.mono (by decide), ?_⟩
        rw [hb]
        walk_at "d"
        walk_at "fin"
        exact ⟨⟨_, _, _, _, _, rfl⟩, hk1.trans hk9⟩
      · walk_at "d"
        rw [← er]
        walk_at "fin"
        exact ⟨⟨_, _, _, _, _, rfl⟩, hk1⟩
    · walk_at "d"
      walk_at "fin"
      exact ⟨⟨_, _, _, _, _, rfl⟩, hk1⟩
  · rintro vs G1 ⟨⟨u3, u4, u5, u6, u7, rfl⟩, hk1⟩
    walk_at "sl"
    exact hq _ hk1

def sp_law_held : SpD := fun ds G Q _ => ∃ (r : RS) (ps : List (Int × Int)), ds = [r.obj, .lst (ps.map pr2)] ∧ r.ok ∧ r.dep ≤ 3 ∧ r.size ≤ 100 ∧ (∀ q ∈ ps, Bt 310 q.1 ∧ Bt 310 q.2) ∧ ps.length ≤ 8 ∧ Q (.bl true) G
theorem len_law_held : LN sp_law_held 2 := by rintro ds G Q E ⟨r, ps, rfl, _⟩; rfl
def N_law_held : List Str := ["_law_made", "_law_pairs_here", "_law_name", "_law_wrong", "_law_x", "_law_y"]
abbrev t_law_held_1 : TSD := (dIfS (dAnd (dTru (dMethV "keeps" [("Nearest", sp_Nearest_keeps), ("Cut", sp_Cut_keeps), ("Up", sp_Up_keeps), ("Down", sp_Down_keeps), ("Sticky", sp_Sticky_keeps), ("Grid", sp_Grid_keeps), ("Clamp", sp_Clamp_keeps), ("Wrap", sp_Wrap_keeps), ("Rounding", sp_Rounding_keeps), ("Then", (sp_Then_keeps 4))] (dVar 0) (dCons (dVar 2) dNil))) (dTest (dOp (eAny true) (dVar 3) (dLst dNil))))
  (dRet (dC (.bl false)))
  dNext)
abbrev t_law_held_2 : TSD := (dSeq (dAsg (dLc true (iSqD (dVar 1)) (.tp [(.nm 4), (.nm 5)]) (dTru (dCall sp_law_breaks (dCons (dVar 0) (dCons (dVar 2) (dCons (dVar 4) (dCons (dVar 5) dNil)))))) (dVar 4) [4, 5]) (gdName 3))
  t_law_held_1)
abbrev t_law_held_3 : TSD := (dRet (dOrV (dOp (eAny false) (dVar 3) (dLst dNil)) (dNotV (dMethV "keeps" [("Nearest", sp_Nearest_keeps), ("Cut", sp_Cut_keeps), ("Up", sp_Up_keeps), ("Down", sp_Down_keeps), ("Sticky", sp_Sticky_keeps), ("Grid", sp_Grid_keeps), ("Clamp", sp_Clamp_keeps), ("Wrap", sp_Wrap_keeps), ("Rounding", sp_Rounding_keeps), ("Then", (sp_Then_keeps 4))] (dVar 0) (dCons (dC (.str "merge")) dNil)))))
abbrev t_law_held_4 : TSD := (dSeq (dAsg (dLc true (iSqD (dVar 1)) (.tp [(.nm 4), (.nm 5)]) (dTest (dOp (eAny true) (dCallV [("Nearest", sp_Nearest_call), ("Cut", sp_Cut_call), ("Up", sp_Up_call), ("Down", sp_Down_call), ("Sticky", sp_Sticky_call), ("Grid", sp_Grid_call), ("Clamp", sp_Clamp_call), ("Wrap", sp_Wrap_call), ("Rounding", sp_Rounding_call), ("Then", (sp_Then_call 4))] [] (dVar 0) (dCons (dOp mAny (dCallV [("Nearest", sp_Nearest_call), ("Cut", sp_Cut_call), ("Up", sp_Up_call), ("Down", sp_Down_call), ("Sticky", sp_Sticky_call), ("Grid", sp_Grid_call), ("Clamp", sp_Clamp_call), ("Wrap", sp_Wrap_call), ("Rounding", sp_Rounding_call), ("Then", (sp_Then_call 4))] [] (dVar 0) (dCons (dVar 4) dNil)) (dVar 5)) dNil)) (dCallV [("Nearest", sp_Nearest_call), ("Cut", sp_Cut_call), ("Up", sp_Up_call), ("Down", sp_Down_call), ("Sticky", sp_Sticky_call), ("Grid", sp_Grid_call), ("Clamp", sp_Clamp_call), ("Wrap", sp_Wrap_call), ("Rounding", sp_Rounding_call), ("Then", (sp_Then_call 4))] [] (dVar 0) (dCons (dOp mAny (dVar 4) (dVar 5)) dNil)))) (dVar 4) [4, 5]) (gdName 3))
  t_law_held_3)
def t_law_held : TSD := (dSeq (dFor (iSqD (dTup (dCons (dC (.str "odd")) (dCons (dC (.str "two")) (dCons (dC (.str "still")) (dCons (dC (.str "merge")) dNil)))))) (gdName 2)
  t_law_held_2)
  t_law_held_4)
theorem vc_law_held : VC sp_law_held N_law_held t_law_held := by
  rintro ds G Q EX ⟨r, ps, rfl, ok, hd, hz, hp, hl, hq⟩
  have call : ∀ {G : HH} {Q : QD} {E : ED} {σ : SD} {t : TAD} {P : Prop} {z : Int}, Bt 2000 z → (∀ Q' : List D → HH → Prop, Q' [.int z] G → t σ G Q' E) → Q (.int (r.f z)) G →
      (∃ c' sp ns' ds', InsD G r.obj c' ns' ds' ∧ (c', sp) ∈ RT (sp_Then_call 4) ∧ t σ G (fun as G2 => (∃ ns2 ds2, InsD G2 r.obj c' ns2 ds2) ∧ sp (r.obj :: as) G2 Q E) E) ∨ P := fun hz ht q =>
    st_callR (rs := sp_Then_call 4) (d := 4) (n := 2000) (fun _ _ _ => rfl) (by omega) ok hz (by decide) (by omega) ht q
  have hl' : ps.length ≤ sizeLine := by rw [sizeLine_eq]; omega
  walk_at "go law_held"
  refine for_of WDS D.str rfl ?_
  refine for_set [2, 3, 4, 5] (fun pre vs G' => (∃ (u2 : Option D) (u3 : Option D) (u4 : Option D) (u5 : Option D), vs = [u2, u3, u4, u5]) ∧ G' = G) (fun _ _ _ _ => trivial) rfl ⟨⟨_, _, _, _, rfl⟩, rfl⟩ ?_ ?_
  · rintro pre n post vs G1 en ⟨⟨u2, u3, u4, u5, rfl⟩, hG⟩
    walk_at "sl"
    subst hG
    have hn : n ∈ WDS := by rw [en]; simp
    walk_at "d"
    refine lc_evK D.int (k := fun q => breaksB r n q.1 q.2) (f := Prod.fst) (fun _ _ hp => ok_put hp (.lst _)) hl' (fun q hq' p acc hp' => ⟨_, rfl, fun QT E q' => ?_, fun _ Q' E q' => ?_⟩) ?_
    · obtain ⟨b1, b2⟩ := hp q hq'
      dsimp only [wipeD, List.set]
      walk_at "d"
      refine ⟨r, n, q.1, q.2, rfl, ok, hd, hz, b1.mono (by decide), b2.mono (by decide), ?_⟩
      walk_at "d"
      exact q'
    · dsimp only [wipeD, List.set]
      walk_at "d"
      exact q'
    walk_at "d"
    refine st_keeps (d := 4) (fun _ _ _ => rfl) (by omega) ok hn (fun Q' q => ?_) ?_
    · walk_at "d"
      exact q
    walk_at "d"
    refine st_iteB (fun h => ?_) (fun h => ?_)
    · have e0 : ps.filter (fun q => breaksB r n q.1 q.2) = [] := List.filter_eq_nil_iff.mpr fun q _ => by rw [kept_not ok hn h]; decide
      rw [e0]
      walk_at "d"
      rw [show (!(([] : List (Int × Int)).map Prod.fst).isEmpty) = false from rfl]
      walk_at "d"
      walk_at "fin"
      exact ⟨⟨_, _, _, _, rfl⟩, rfl⟩
    · walk_at "d"
      walk_at "fin"
      exact ⟨⟨_, _, _, _, rfl⟩, rfl⟩
  · rintro vs G1 ⟨⟨u2, u3, u4, u5, rfl⟩, hG⟩
    walk_at "sl"
    subst hG
    walk_at "d"
    refine lc_evK D.int (k := fun q => !decide (r.f (r.f q.1 * q.2) = r.f (q.1 * q.2))) (f := Prod.fst) (fun _ _ hp => ok_put hp (.lst _)) hl' (fun q hq' p acc hp' => ⟨_, rfl, fun QT E q' => ?_, fun _ Q' E q' => ?_⟩) ?_
    · obtain ⟨b1, b2⟩ := hp q hq'
      have b3 : Bt 410 (r.f q.1) := (RS.bt ok b1 (by decide)).mono (by omega)
      have m1 : CMulX (r.f q.1) q.2 := cmul_bt b3 b2 (by decide)
      have m2 : CMulX q.1 q.2 := cmul_bt b1 b2 (by decide)
      dsimp only [wipeD, List.set]
      walk_at "d"
      refine call ((b3.mul b2).mono (by decide)) (fun Q' q9 => ?_) ?_
      · walk_at "d"
        refine call (b1.mono (by decide)) (fun Q' q8 => ?_) ?_
        · walk_at "d"
          exact q8
        walk_at "d"
        exact q9
      walk_at "d"
      refine call ((b1.mul b2).mono (by decide)) (fun Q' q9 => ?_) ?_
      · walk_at "d"
        exact q9
      walk_at "d"
      exact q'
    · dsimp only [wipeD, List.set]
      walk_at "d"
      exact q'
    walk_at "d"
    have hm : ("merge" : Str) ∈ WDS := by simp [WDS]
    refine st_iteB (fun h => hq) (fun h => ?_)
    walk_at "d"
    refine st_keeps (x := "merge") (d := 4) (fun _ _ _ => rfl) (by omega) ok hm (fun Q' q => ?_) ?_
    · walk_at "d"
      exact q
    walk_at "d"
    have e0 : r.keeps "merge" = false := by
      cases e : r.keeps "merge" with
      | false => rfl
      | true =>
        have : ps.filter (fun q => !decide (r.f (r.f q.1 * q.2) = r.f (q.1 * q.2))) = [] := List.filter_eq_nil_iff.mpr fun q _ => by rw [decide_eq_true (keeps_merge ok e q.1 q.2).2]; decide
        rw [this] at h
        cases h
    rw [e0]
    exact hq

abbrev sp_law : SpD := spLaw 63
theorem len_law : LN sp_law 1 := by rintro ds G Q E ⟨n, rfl, _⟩; rfl
theorem Feed.kp {G G' : HH} {p : Addr} {N : Nat} (h : Feed G p N) (k : Kp G G') : Feed G' p N := h.at (k p h.some)
def some13 : List RS := [.rnd, .grid 1, .grid 2, .clamp (-1) 1, .wrap 2 (-1), .wrap 3 (-1), .bit "Up" 1]
theorem some13_ok : ∀ r ∈ some13, r.ok ∧ r.dep ≤ 3 ∧ r.size ≤ 100 := by
  intro r hr
  simp only [some13, List.mem_cons, List.not_mem_nil, or_false] at hr
  rcases hr with rfl | rfl | rfl | rfl | rfl | rfl | rfl
  · exact ⟨trivial, by decide, by decide⟩
  · exact ⟨⟨by decide, by decide⟩, by decide, by decide⟩
  · exact ⟨⟨by decide, by decide⟩, by decide, by decide⟩
  · exact ⟨⟨.of (by decide), .of (by decide), by decide, by decide⟩, by decide, by decide⟩
  · exact ⟨⟨by decide, .of (by decide), .of (by decide)⟩, by decide, by decide⟩
  · exact ⟨⟨by decide, .of (by decide), .of (by decide)⟩, by decide, by decide⟩
  · exact ⟨⟨by simp [KNDS], by decide, by decide⟩, by decide, by decide⟩
def N_law : List Str := ["_law_script", "_law_deck_here", "_law_turn", "_law_some", "_law_spec_here", "_law_wrong", "_law_made", "_law_pairs_here", "_law_x", "_law_y"]
abbrev t_law_1 : TSD := (dSeq (dAsg (dLc true (iSqD (dVar 7)) (.tp [(.nm 8), (.nm 9)]) (dAnd (dTest (dOp (eAny false) (dOp xAny (dVar 4) (dC (.int 0))) (dC (.str "Wrap")))) (dTest (dOp (eAny true) (dOp aMod (dCB kInt (dCons (dOp aSub (dCallV [("Nearest", sp_Nearest_call), ("Cut", sp_Cut_call), ("Up", sp_Up_call), ("Down", sp_Down_call), ("Sticky", sp_Sticky_call), ("Grid", sp_Grid_call), ("Clamp", sp_Clamp_call), ("Wrap", sp_Wrap_call), ("Rounding", sp_Rounding_call), ("Then", (sp_Then_call 4))] [] (dVar 6) (dCons (dVar 8) dNil)) (dVar 8)) dNil)) (dOp xAny (dVar 4) (dC (.int 1)))) (dC (.int 0))))) (dVar 8) [8, 9]) (gdName 5))
  (dIfS (dTest (dOp (eAny true) (dVar 5) (dLst dNil)))
  (dRet (dC (.bl false)))
  dNext))
abbrev t_law_2 : TSD := (dSeq (dIfS (dOr (dNot (dTru (dCall sp_law_told_right (dCons (dVar 4) (dCons (dVar 6) dNil))))) (dNot (dTru (dCall sp_law_held (dCons (dVar 6) (dCons (dVar 7) dNil))))))
  (dRet (dC (.bl false)))
  dNext)
  t_law_1)
abbrev t_law_3 : TSD := (dSeq (dAsg (dTup (dCons (dCall (sp_law_built 4) (dCons (dVar 4) dNil)) (dCons (dCall sp_law_pairs (dCons (dVar 1) (dCons (dVar 4) dNil))) dNil))) (gdTup 2 (gdCons (gdName 6) (gdCons (gdName 7) gdNil))))
  t_law_2)
abbrev t_law_4 : TSD := (dRet (dOp (eAny false) (dLc true (iSqD (dVar 3)) (.nm 4) (dNot (dTru (dCall sp_law_told_right (dCons (dVar 4) (dCons (dCall (sp_law_built 4) (dCons (dVar 4) dNil)) dNil))))) (dVar 4) [4]) (dLst dNil)))
abbrev t_law_5 : TSD := (dSeq (dAsg (dLst (dCons (dTup (dCons (dC (.str "Rounding")) dNil)) (dCons (dTup (dCons (dC (.str "Grid")) (dCons (dC (.int 1)) dNil))) (dCons (dTup (dCons (dC (.str "Grid")) (dCons (dC (.int 2)) dNil))) (dCons (dTup (dCons (dC (.str "Clamp")) (dCons (dUn uNeg (dC (.int 1))) (dCons (dC (.int 1)) dNil)))) (dCons (dTup (dCons (dC (.str "Wrap")) (dCons (dC (.int 2)) (dCons (dUn uNeg (dC (.int 1))) dNil)))) (dCons (dTup (dCons (dC (.str "Wrap")) (dCons (dC (.int 3)) (dCons (dUn uNeg (dC (.int 1))) dNil)))) (dCons (dTup (dCons (dC (.str "Up")) (dCons (dC (.int 1)) dNil))) dNil)))))))) (gdName 3))
  t_law_4)
abbrev t_law_6 : TSD := (dSeq (dFor (iRngD1 (dCons (dC (.int 7)) dNil)) (gdName 2)
  (dSeq (dAsg (dCall (sp_law_spec 3) (dCons (dVar 1) (dCons (dC (.int 2)) dNil))) (gdName 4))
  t_law_3))
  t_law_5)
def t_law : TSD := (dSeq (dAsg (dCall sp_law_deck (dCons (dVar 0) dNil)) (gdName 1))
  t_law_6)
theorem vc_law : VC sp_law N_law t_law := by
  rintro ds G Q EX ⟨ns, rfl, h1, hbt, rfl, hq⟩
  walk_at "go law"
  refine ⟨ns, rfl, h1, fun p G' hp hf hb => ?_⟩
  walk_at "d"
  refine for_rng_set (n := 7) [2, 4, 5, 6, 7, 8, 9] (fun i vs G' => (∃ (u2 : Option D) (u4 : Option D) (u5 : Option D) (u6 : Option D) (u7 : Option D) (u8 : Option D) (u9 : Option D), vs = [u2, u4, u5, u6, u7, u8, u9]) ∧ Feed G' p (1000 * i)) rfl ⟨⟨_, _, _, _, _, _, _, rfl⟩, hf⟩ ?_ ?_
  · rintro i vs G1 hi ⟨⟨u2, u4, u5, u6, u7, u8, u9, rfl⟩, hF1⟩
    walk_at "sl"
    refine ⟨p, 2, _, rfl, by omega, by omega, hF1, ?_, fun r G2 ok hd hz hF2 hB2 => ?_⟩
    walk_at "d"
    · show 1000 * i + 20 * 27 ≤ _; omega
    walk_at "d"
    have hz : r.size ≤ 4 := hz
    refine ⟨r, rfl, by omega, ok, ?_⟩
    walk_at "d"
    refine ⟨p, r, _, rfl, ok, hF2, by show 1000 * i + 20 * 27 ≤ _; omega, fun ps G3 hps hpl hF3 hB3 => ?_⟩
    walk_at "d"
    refine ⟨r, rfl, ok, by omega, by omega, fun G9 hk9 => ?_⟩
    walk_at "d"
    refine ⟨r, ps, rfl, ok, by omega, by omega, hps, hpl, ?_⟩
    walk_at "d"
    refine lc_none (fun _ _ hp => ok_put hp (.lst _)) (by rw [sizeLine_eq]; omega) (fun q hq' p3 acc hp3 => ⟨_, rfl, fun Q' E' q9 => ?_⟩) ?_
    · obtain ⟨b1, b2⟩ := hps q hq'
      dsimp only [wipeD, List.set]
      obtain ⟨rest, er⟩ := words_kind r
      walk_at "d"
      by_cases hw : r.kind = "Wrap"
      · obtain ⟨m, l, rfl⟩ : ∃ m l, r = .wrap m l := by
          cases r with
          | wrap m l => exact ⟨_, _, rfl⟩
          | bit k w =>
            have hk := ok.1
            have hw : k = "Wrap" := hw
            subst hw
            exact absurd hk (by decide +kernel)
          | grid s => exact absurd hw (show ¬ (("Grid" : Str) = "Wrap") by decide +kernel)
          | clamp l h => exact absurd hw (show ¬ (("Clamp" : Str) = "Wrap") by decide +kernel)
          | rnd => exact absurd hw (by decide +kernel)
          | thn a b => exact absurd hw (show ¬ (("Then" : Str) = "Wrap") by decide +kernel)
        have hm : 0 < m := by have := ok.1; omega
        show xAny (.tup [.str "Wrap", .int m, .int l]) _ _ _
        walk_at "d"
        refine st_callR (r := .wrap m l) (rs := sp_Then_call 4) (d := 4) (n := 400) (fun _ _ _ => rfl) (Nat.zero_le _) ok (b1.mono (by decide)) (by decide) (by simp only [RS.size]; omega) (fun Q8 q8 => ?_) ?_
        · walk_at "d"
          exact q8
        walk_at "d"
        refine st_ix (.tup _) (show atI [D.str "Wrap", D.int m, D.int l] 1 = some (D.int m) from rfl) ?_
        walk_at "d"
        have e0 : ((RS.wrap m l).f q.1 - q.1) % m = 0 := (wrap_ok (l := l) (x := q.1) hm).2.2
        rw [e0]
        exact q9
      · rw [er]
        refine st_ix (.tup _) atI_cons ?_
        walk_at "d"
        refine st_iteF' (decide_eq_false hw) ?_
        exact q9
    walk_at "d"
    walk_at "fin"
    exact ⟨⟨_, _, _, _, _, _, _, rfl⟩, (hF3.kp hk9).mono (by show 1000 * i + 20 * 27 + 300 ≤ _; omega)⟩
  · rintro vs G1 ⟨⟨u2, u4, u5, u6, u7, u8, u9, rfl⟩, hF1⟩
    walk_at "sl"
    walk_at "d"
    refine lc_of some13 RS.words rfl ?_
    refine lc_kpN (by rw [sizeLine_eq]; show 7 ≤ _; omega) (fun _ _ => .lst _) (fun r hr G9 hk => ⟨_, rfl, fun QT hQ => ?_⟩) fun G9 hk => ?_
    · obtain ⟨ok, hd, hz⟩ := some13_ok r hr
      dsimp only [wipeD, List.set]
      walk_at "d"
      refine ⟨r, rfl, by omega, ok, ?_⟩
      walk_at "d"
      refine ⟨r, rfl, ok, hd, hz, fun G10 hk10 => ?_⟩
      walk_at "d"
      exact hQ G10 hk10
    walk_at "d"
    exact hq _

def inCls (st : Stmt) (j : Nat) : Stmt := match st with
  | .ClassDef _ _ _ body _ _ _ _ _ _ _ => body.getD j (.Pass ⟨0, 0, 0, 0⟩)
  | _ => .Pass ⟨0, 0, 0, 0⟩
theorem fld_one {K : PySem.W.Frag} {c f : Str} {C : Addr} (a : PySem.W.nsIn K mainGlobals c = some (some (.ref C))) (k : Cls K C) (n : NoAttr K C f) : FldOk K [c] f := by
  intro c' hc C' hC'
  rw [List.mem_singleton.mp hc, gaddr_of a] at hC'
  cases hC'
  exact ⟨k, n⟩
def top (i : Nat) : Stmt := PySem.Challenge.pw_everyround_k13_whole_traits_told_and_kep.main.body.getD i (.Pass ⟨0, 0, 0, 0⟩)
abbrev s_law_deck : Stmt := top 14
theorem sc_law_deck : FnScope N_law_deck ["_law_script"] (defScope s_law_deck) := ⟨rfl, rfl, rfl, by decide +kernel, rfl, by decide +kernel, by decide +kernel⟩
abbrev s_law_draw : Stmt := top 15
theorem sc_law_draw : FnScope N_law_draw ["_law_deck_here", "_law_many"] (defScope s_law_draw) := ⟨rfl, rfl, rfl, by decide +kernel, rfl, by decide +kernel, by decide +kernel⟩
abbrev s_law_sum : Stmt := top 17
theorem sc_law_sum : FnScope N_law_sum ["_law_deck_here", "_law_places"] (defScope s_law_sum) := ⟨rfl, rfl, rfl, by decide +kernel, rfl, by decide +kernel, by decide +kernel⟩
abbrev s_law_one : Stmt := top 16
theorem sc_law_one : FnScope N_law_one ["_law_deck_here", "_law_items"] (defScope s_law_one) := ⟨rfl, rfl, rfl, by decide +kernel, rfl, by decide +kernel, by decide +kernel⟩
abbrev s_law_bits : Stmt := top 18
theorem sc_law_bits : FnScope N_law_bits ["_law_deck_here"] (defScope s_law_bits) := ⟨rfl, rfl, rfl, by decide +kernel, rfl, by decide +kernel, by decide +kernel⟩
abbrev s_law_spec : Stmt := top 20
theorem sc_law_spec : FnScope N_law_spec ["_law_deck_here", "_law_deep"] (defScope s_law_spec) := ⟨rfl, rfl, rfl, by decide +kernel, rfl, by decide +kernel, by decide +kernel⟩
abbrev s_Nearest_init : Stmt := inCls (top 4) 0
theorem sc_Nearest_init : FnScope N_Nearest_init ["self", "bits"] (defScope s_Nearest_init) := ⟨rfl, rfl, rfl, by decide +kernel, rfl, by decide +kernel, by decide +kernel⟩
abbrev s_Cut_init : Stmt := inCls (top 5) 0
theorem sc_Cut_init : FnScope N_Cut_init ["self", "bits"] (defScope s_Cut_init) := ⟨rfl, rfl, rfl, by decide +kernel, rfl, by decide +kernel, by decide +kernel⟩
abbrev s_Up_init : Stmt := inCls (top 6) 0
theorem sc_Up_init : FnScope N_Up_init ["self", "bits"] (defScope s_Up_init) := ⟨rfl, rfl, rfl, by decide +kernel, rfl, by decide +kernel, by decide +kernel⟩
abbrev s_Down_init : Stmt := inCls (top 7) 0
theorem sc_Down_init : FnScope N_Down_init ["self", "bits"] (defScope s_Down_init) := ⟨rfl, rfl, rfl, by decide +kernel, rfl, by decide +kernel, by decide +kernel⟩
abbrev s_Sticky_init : Stmt := inCls (top 8) 0
theorem sc_Sticky_init : FnScope N_Sticky_init ["self", "bits"] (defScope s_Sticky_init) := ⟨rfl, rfl, rfl, by decide +kernel, rfl, by decide +kernel, by decide +kernel⟩
abbrev s_Grid_init : Stmt := inCls (top 9) 0
theorem sc_Grid_init : FnScope N_Grid_init ["self", "step"] (defScope s_Grid_init) := ⟨rfl, rfl, rfl, by decide +kernel, rfl, by decide +kernel, by decide +kernel⟩
abbrev s_Clamp_init : Stmt := inCls (top 10) 0
theorem sc_Clamp_init : FnScope N_Clamp_init ["self", "low", "high"] (defScope s_Clamp_init) := ⟨rfl, rfl, rfl, by decide +kernel, rfl, by decide +kernel, by decide +kernel⟩
abbrev s_Wrap_init : Stmt := inCls (top 11) 0
theorem sc_Wrap_init : FnScope N_Wrap_init ["self", "modulus", "low"] (defScope s_Wrap_init) := ⟨rfl, rfl, rfl, by decide +kernel, rfl, by decide +kernel, by decide +kernel⟩
abbrev s_Then_init : Stmt := inCls (top 12) 0
theorem sc_Then_init : FnScope N_Then_init ["self", "first", "second"] (defScope s_Then_init) := ⟨rfl, rfl, rfl, by decide +kernel, rfl, by decide +kernel, by decide +kernel⟩
abbrev s_law_built : Stmt := top 21
theorem sc_law_built : FnScope N_law_built ["_law_spec_here"] (defScope s_law_built) := ⟨rfl, rfl, rfl, by decide +kernel, rfl, by decide +kernel, by decide +kernel⟩
abbrev s_law_near : Stmt := top 19
theorem sc_law_near : FnScope N_law_near ["_law_deck_here", "_law_width"] (defScope s_law_near) := ⟨rfl, rfl, rfl, by decide +kernel, rfl, by decide +kernel, by decide +kernel⟩
abbrev s_law_about : Stmt := top 22
theorem sc_law_about : FnScope N_law_about ["_law_deck_here", "_law_spec_here"] (defScope s_law_about) := ⟨rfl, rfl, rfl, by decide +kernel, rfl, by decide +kernel, by decide +kernel⟩
abbrev s_law_pairs : Stmt := top 24
theorem sc_law_pairs : FnScope N_law_pairs ["_law_deck_here", "_law_spec_here"] (defScope s_law_pairs) := ⟨rfl, rfl, rfl, by decide +kernel, rfl, by decide +kernel, by decide +kernel⟩
abbrev s_law_kept : Stmt := top 25
theorem sc_law_kept : FnScope N_law_kept ["_law_spec_here"] (defScope s_law_kept) := ⟨rfl, rfl, rfl, by decide +kernel, rfl, by decide +kernel, by decide +kernel⟩
abbrev s_Rounding_keeps : Stmt := inCls (top 3) 1
theorem sc_Rounding_keeps : FnScope N_Rounding_keeps ["self", "word"] (defScope s_Rounding_keeps) := ⟨rfl, rfl, rfl, by decide +kernel, rfl, by decide +kernel, by decide +kernel⟩
abbrev s_Wrap_keeps : Stmt := inCls (top 11) 2
theorem sc_Wrap_keeps : FnScope N_Wrap_keeps ["self", "word"] (defScope s_Wrap_keeps) := ⟨rfl, rfl, rfl, by decide +kernel, rfl, by decide +kernel, by decide +kernel⟩
abbrev s_Clamp_keeps : Stmt := inCls (top 10) 2
theorem sc_Clamp_keeps : FnScope N_Clamp_keeps ["self", "word"] (defScope s_Clamp_keeps) := ⟨rfl, rfl, rfl, by decide +kernel, rfl, by decide +kernel, by decide +kernel⟩
abbrev s_Grid_keeps : Stmt := inCls (top 9) 2
theorem sc_Grid_keeps : FnScope N_Grid_keeps ["self", "word"] (defScope s_Grid_keeps) := ⟨rfl, rfl, rfl, by decide +kernel, rfl, by decide +kernel, by decide +kernel⟩
abbrev s_Sticky_keeps : Stmt := inCls (top 8) 2
theorem sc_Sticky_keeps : FnScope N_Sticky_keeps ["self", "word"] (defScope s_Sticky_keeps) := ⟨rfl, rfl, rfl, by decide +kernel, rfl, by decide +kernel, by decide +kernel⟩
abbrev s_Down_keeps : Stmt := inCls (top 7) 2
theorem sc_Down_keeps : FnScope N_Down_keeps ["self", "word"] (defScope s_Down_keeps) := ⟨rfl, rfl, rfl, by decide +kernel, rfl, by decide +kernel, by decide +kernel⟩
abbrev s_Up_keeps : Stmt := inCls (top 6) 2
theorem sc_Up_keeps : FnScope N_Up_keeps ["self", "word"] (defScope s_Up_keeps) := ⟨rfl, rfl, rfl, by decide +kernel, rfl, by decide +kernel, by decide +kernel⟩
abbrev s_Cut_keeps : Stmt := inCls (top 5) 2
theorem sc_Cut_keeps : FnScope N_Cut_keeps ["self", "word"] (defScope s_Cut_keeps) := ⟨rfl, rfl, rfl, by decide +kernel, rfl, by decide +kernel, by decide +kernel⟩
abbrev s_Nearest_keeps : Stmt := inCls (top 4) 2
theorem sc_Nearest_keeps : FnScope N_Nearest_keeps ["self", "word"] (defScope s_Nearest_keeps) := ⟨rfl, rfl, rfl, by decide +kernel, rfl, by decide +kernel, by decide +kernel⟩
abbrev s_Then_keeps : Stmt := inCls (top 12) 2
theorem sc_Then_keeps : FnScope N_Then_keeps ["self", "word"] (defScope s_Then_keeps) := ⟨rfl, rfl, rfl, by decide +kernel, rfl, by decide +kernel, by decide +kernel⟩
abbrev s_law_witness : Stmt := top 26
theorem sc_law_witness : FnScope N_law_witness ["_law_spec_here", "_law_name"] (defScope s_law_witness) := ⟨rfl, rfl, rfl, by decide +kernel, rfl, by decide +kernel, by decide +kernel⟩
abbrev s_Rounding_call : Stmt := inCls (top 3) 0
theorem sc_Rounding_call : FnScope N_Rounding_call ["self", "number"] (defScope s_Rounding_call) := ⟨rfl, rfl, rfl, by decide +kernel, rfl, by decide +kernel, by decide +kernel⟩
abbrev s_Wrap_call : Stmt := inCls (top 11) 1
theorem sc_Wrap_call : FnScope N_Wrap_call ["self", "number"] (defScope s_Wrap_call) := ⟨rfl, rfl, rfl, by decide +kernel, rfl, by decide +kernel, by decide +kernel⟩
abbrev s_Clamp_call : Stmt := inCls (top 10) 1
theorem sc_Clamp_call : FnScope N_Clamp_call ["self", "number"] (defScope s_Clamp_call) := ⟨rfl, rfl, rfl, by decide +kernel, rfl, by decide +kernel, by decide +kernel⟩
abbrev s_signed : Stmt := top 2
theorem sc_signed : FnScope N_signed ["number", "size"] (defScope s_signed) := ⟨rfl, rfl, rfl, by decide +kernel, rfl, by decide +kernel, by decide +kernel⟩
abbrev s_Grid_call : Stmt := inCls (top 9) 1
theorem sc_Grid_call : FnScope N_Grid_call ["self", "number"] (defScope s_Grid_call) := ⟨rfl, rfl, rfl, by decide +kernel, rfl, by decide +kernel, by decide +kernel⟩
abbrev s_unit_of : Stmt := top 1
theorem sc_unit_of : FnScope N_unit_of ["size", "bits"] (defScope s_unit_of) := ⟨rfl, rfl, rfl, by decide +kernel, rfl, by decide +kernel, by decide +kernel⟩
abbrev s_Sticky_call : Stmt := inCls (top 8) 1
theorem sc_Sticky_call : FnScope N_Sticky_call ["self", "number"] (defScope s_Sticky_call) := ⟨rfl, rfl, rfl, by decide +kernel, rfl, by decide +kernel, by decide +kernel⟩
abbrev s_Down_call : Stmt := inCls (top 7) 1
theorem sc_Down_call : FnScope N_Down_call ["self", "number"] (defScope s_Down_call) := ⟨rfl, rfl, rfl, by decide +kernel, rfl, by decide +kernel, by decide +kernel⟩
abbrev s_Up_call : Stmt := inCls (top 6) 1
theorem sc_Up_call : FnScope N_Up_call ["self", "number"] (defScope s_Up_call) := ⟨rfl, rfl, rfl, by decide +kernel, rfl, by decide +kernel, by decide +kernel⟩
abbrev s_Cut_call : Stmt := inCls (top 5) 1
theorem sc_Cut_call : FnScope N_Cut_call ["self", "number"] (defScope s_Cut_call) := ⟨rfl, rfl, rfl, by decide +kernel, rfl, by decide +kernel, by decide +kernel⟩
abbrev s_Nearest_call : Stmt := inCls (top 4) 1
theorem sc_Nearest_call : FnScope N_Nearest_call ["self", "number"] (defScope s_Nearest_call) := ⟨rfl, rfl, rfl, by decide +kernel, rfl, by decide +kernel, by decide +kernel⟩
abbrev s_Then_call : Stmt := inCls (top 12) 1
theorem sc_Then_call : FnScope N_Then_call ["self", "number"] (defScope s_Then_call) := ⟨rfl, rfl, rfl, by decide +kernel, rfl, by decide +kernel, by decide +kernel⟩
abbrev s_law_breaks : Stmt := top 23
theorem sc_law_breaks : FnScope N_law_breaks ["_law_rounding", "_law_name", "_law_x", "_law_y"] (defScope s_law_breaks) := ⟨rfl, rfl, rfl, by decide +kernel, rfl, by decide +kernel, by decide +kernel⟩
abbrev s_law_told_right : Stmt := top 27
theorem sc_law_told_right : FnScope N_law_told_right ["_law_spec_here", "_law_made"] (defScope s_law_told_right) := ⟨rfl, rfl, rfl, by decide +kernel, rfl, by decide +kernel, by decide +kernel⟩
abbrev s_law_held : Stmt := top 28
theorem sc_law_held : FnScope N_law_held ["_law_made", "_law_pairs_here"] (defScope s_law_held) := ⟨rfl, rfl, rfl, by decide +kernel, rfl, by decide +kernel, by decide +kernel⟩
abbrev s_law : Stmt := top 29
theorem sc_law : FnScope N_law ["_law_script"] (defScope s_law) := ⟨rfl, rfl, rfl, by decide +kernel, rfl, by decide +kernel, by decide +kernel⟩
/-- what the top has written -/
structure Txt (K : PySem.W.Frag) (mg : Str → Option Value) where
  c_Then : Addr
  g_Then : gaddr K "Then" = some c_Then
  mc_Then : mg "Then" = some (.ref c_Then)
  c_Rounding : Addr
  g_Rounding : gaddr K "Rounding" = some c_Rounding
  mc_Rounding : mg "Rounding" = some (.ref c_Rounding)
  c_Wrap : Addr
  g_Wrap : gaddr K "Wrap" = some c_Wrap
  mc_Wrap : mg "Wrap" = some (.ref c_Wrap)
  c_Clamp : Addr
  g_Clamp : gaddr K "Clamp" = some c_Clamp
  mc_Clamp : mg "Clamp" = some (.ref c_Clamp)
  c_Grid : Addr
  g_Grid : gaddr K "Grid" = some c_Grid
  mc_Grid : mg "Grid" = some (.ref c_Grid)
  c_Sticky : Addr
  g_Sticky : gaddr K "Sticky" = some c_Sticky
  mc_Sticky : mg "Sticky" = some (.ref c_Sticky)
  c_Down : Addr
  g_Down : gaddr K "Down" = some c_Down
  mc_Down : mg "Down" = some (.ref c_Down)
  c_Up : Addr
  g_Up : gaddr K "Up" = some c_Up
  mc_Up : mg "Up" = some (.ref c_Up)
  c_Cut : Addr
  g_Cut : gaddr K "Cut" = some c_Cut
  mc_Cut : mg "Cut" = some (.ref c_Cut)
  c_Nearest : Addr
  g_Nearest : gaddr K "Nearest" = some c_Nearest
  mc_Nearest : mg "Nearest" = some (.ref c_Nearest)
  f_law_deck : Addr
  fd_law_deck : FuncData
  F_law_deck : Fun K "_law_deck" "_law_deck" s_law_deck f_law_deck fd_law_deck
  m_law_deck : mg "_law_deck" = some (.ref f_law_deck)
  b_law_deck : Binds K fd_law_deck ["_law_script"] []
  f_law_draw : Addr
  fd_law_draw : FuncData
  F_law_draw : Fun K "_law_draw" "_law_draw" s_law_draw f_law_draw fd_law_draw
  m_law_draw : mg "_law_draw" = some (.ref f_law_draw)
  b_law_draw : Binds K fd_law_draw ["_law_deck_here", "_law_many"] []
  f_law_sum : Addr
  fd_law_sum : FuncData
  F_law_sum : Fun K "_law_sum" "_law_sum" s_law_sum f_law_sum fd_law_sum
  m_law_sum : mg "_law_sum" = some (.ref f_law_sum)
  b_law_sum : Binds K fd_law_sum ["_law_deck_here", "_law_places"] []
  f_law_one : Addr
  fd_law_one : FuncData
  F_law_one : Fun K "_law_one" "_law_one" s_law_one f_law_one fd_law_one
  m_law_one : mg "_law_one" = some (.ref f_law_one)
  b_law_one : Binds K fd_law_one ["_law_deck_here", "_law_items"] []
  f_law_bits : Addr
  fd_law_bits : FuncData
  F_law_bits : Fun K "_law_bits" "_law_bits" s_law_bits f_law_bits fd_law_bits
  m_law_bits : mg "_law_bits" = some (.ref f_law_bits)
  b_law_bits : Binds K fd_law_bits ["_law_deck_here"] []
  f_law_spec : Addr
  fd_law_spec : FuncData
  F_law_spec : Fun K "_law_spec" "_law_spec" s_law_spec f_law_spec fd_law_spec
  m_law_spec : mg "_law_spec" = some (.ref f_law_spec)
  b_law_spec : Binds K fd_law_spec ["_law_deck_here", "_law_deep"] []
  f_Nearest_init : Addr
  fd_Nearest_init : FuncData
  F_Nearest_init : Fun K "__init__" "Nearest.__init__" s_Nearest_init f_Nearest_init fd_Nearest_init
  b_Nearest_init : Binds K fd_Nearest_init ["self", "bits"] []
  f_Cut_init : Addr
  fd_Cut_init : FuncData
  F_Cut_init : Fun K "__init__" "Cut.__init__" s_Cut_init f_Cut_init fd_Cut_init
  b_Cut_init : Binds K fd_Cut_init ["self", "bits"] []
  f_Up_init : Addr
  fd_Up_init : FuncData
  F_Up_init : Fun K "__init__" "Up.__init__" s_Up_init f_Up_init fd_Up_init
  b_Up_init : Binds K fd_Up_init ["self", "bits"] []
  f_Down_init : Addr
  fd_Down_init : FuncData
  F_Down_init : Fun K "__init__" "Down.__init__" s_Down_init f_Down_init fd_Down_init
  b_Down_init : Binds K fd_Down_init ["self", "bits"] []
  f_Sticky_init : Addr
  fd_Sticky_init : FuncData
  F_Sticky_init : Fun K "__init__" "Sticky.__init__" s_Sticky_init f_Sticky_init fd_Sticky_init
  b_Sticky_init : Binds K fd_Sticky_init ["self", "bits"] []
  f_Grid_init : Addr
  fd_Grid_init : FuncData
  F_Grid_init : Fun K "__init__" "Grid.__init__" s_Grid_init f_Grid_init fd_Grid_init
  b_Grid_init : Binds K fd_Grid_init ["self", "step"] []
  f_Clamp_init : Addr
  fd_Clamp_init : FuncData
  F_Clamp_init : Fun K "__init__" "Clamp.__init__" s_Clamp_init f_Clamp_init fd_Clamp_init
  b_Clamp_init : Binds K fd_Clamp_init ["self", "low", "high"] []
  f_Wrap_init : Addr
  fd_Wrap_init : FuncData
  F_Wrap_init : Fun K "__init__" "Wrap.__init__" s_Wrap_init f_Wrap_init fd_Wrap_init
  b_Wrap_init : Binds K fd_Wrap_init ["self", "modulus", "low"] []
  f_Then_init : Addr
  fd_Then_init : FuncData
  F_Then_init : Fun K "__init__" "Then.__init__" s_Then_init f_Then_init fd_Then_init
  b_Then_init : Binds K fd_Then_init ["self", "first", "second"] []
  f_law_built : Addr
  fd_law_built : FuncData
  F_law_built : Fun K "_law_built" "_law_built" s_law_built f_law_built fd_law_built
  m_law_built : mg "_law_built" = some (.ref f_law_built)
  b_law_built : Binds K fd_law_built ["_law_spec_here"] []
  f_law_near : Addr
  fd_law_near : FuncData
  F_law_near : Fun K "_law_near" "_law_near" s_law_near f_law_near fd_law_near
  m_law_near : mg "_law_near" = some (.ref f_law_near)
  b_law_near : Binds K fd_law_near ["_law_deck_here", "_law_width"] []
  f_law_about : Addr
  fd_law_about : FuncData
  F_law_about : Fun K "_law_about" "_law_about" s_law_about f_law_about fd_law_about
  m_law_about : mg "_law_about" = some (.ref f_law_about)
  b_law_about : Binds K fd_law_about ["_law_deck_here", "_law_spec_here"] []
  f_law_pairs : Addr
  fd_law_pairs : FuncData
  F_law_pairs : Fun K "_law_pairs" "_law_pairs" s_law_pairs f_law_pairs fd_law_pairs
  m_law_pairs : mg "_law_pairs" = some (.ref f_law_pairs)
  b_law_pairs : Binds K fd_law_pairs ["_law_deck_here", "_law_spec_here"] []
  f_law_kept : Addr
  fd_law_kept : FuncData
  F_law_kept : Fun K "_law_kept" "_law_kept" s_law_kept f_law_kept fd_law_kept
  m_law_kept : mg "_law_kept" = some (.ref f_law_kept)
  b_law_kept : Binds K fd_law_kept ["_law_spec_here"] []
  f_Rounding_keeps : Addr
  fd_Rounding_keeps : FuncData
  F_Rounding_keeps : Fun K "keeps" "Rounding.keeps" s_Rounding_keeps f_Rounding_keeps fd_Rounding_keeps
  b_Rounding_keeps : Binds K fd_Rounding_keeps ["self", "word"] []
  f_Wrap_keeps : Addr
  fd_Wrap_keeps : FuncData
  F_Wrap_keeps : Fun K "keeps" "Wrap.keeps" s_Wrap_keeps f_Wrap_keeps fd_Wrap_keeps
  b_Wrap_keeps : Binds K fd_Wrap_keeps ["self", "word"] []
  f_Clamp_keeps : Addr
  fd_Clamp_keeps : FuncData
  F_Clamp_keeps : Fun K "keeps" "Clamp.keeps" s_Clamp_keeps f_Clamp_keeps fd_Clamp_keeps
  b_Clamp_keeps : Binds K fd_Clamp_keeps ["self", "word"] []
  f_Grid_keeps : Addr
  fd_Grid_keeps : FuncData
  F_Grid_keeps : Fun K "keeps" "Grid.keeps" s_Grid_keeps f_Grid_keeps fd_Grid_keeps
  b_Grid_keeps : Binds K fd_Grid_keeps ["self", "word"] []
  f_Sticky_keeps : Addr
  fd_Sticky_keeps : FuncData
  F_Sticky_keeps : Fun K "keeps" "Sticky.keeps" s_Sticky_keeps f_Sticky_keeps fd_Sticky_keeps
  b_Sticky_keeps : Binds K fd_Sticky_keeps ["self", "word"] []
  f_Down_keeps : Addr
  fd_Down_keeps : FuncData
  F_Down_keeps : Fun K "keeps" "Down.keeps" s_Down_keeps f_Down_keeps fd_Down_keeps
  b_Down_keeps : Binds K fd_Down_keeps ["self", "word"] []
  f_Up_keeps : Addr
  fd_Up_keeps : FuncData
  F_Up_keeps : Fun K "keeps" "Up.keeps" s_Up_keeps f_Up_keeps fd_Up_keeps
  b_Up_keeps : Binds K fd_Up_keeps ["self", "word"] []
  f_Cut_keeps : Addr
  fd_Cut_keeps : FuncData
  F_Cut_keeps : Fun K "keeps" "Cut.keeps" s_Cut_keeps f_Cut_keeps fd_Cut_keeps
  b_Cut_keeps : Binds K fd_Cut_keeps ["self", "word"] []
  f_Nearest_keeps : Addr
  fd_Nearest_keeps : FuncData
  F_Nearest_keeps : Fun K "keeps" "Nearest.keeps" s_Nearest_keeps f_Nearest_keeps fd_Nearest_keeps
  b_Nearest_keeps : Binds K fd_Nearest_keeps ["self", "word"] []
  f_Then_keeps : Addr
  fd_Then_keeps : FuncData
  F_Then_keeps : Fun K "keeps" "Then.keeps" s_Then_keeps f_Then_keeps fd_Then_keeps
  b_Then_keeps : Binds K fd_Then_keeps ["self", "word"] []
  f_law_witness : Addr
  fd_law_witness : FuncData
  F_law_witness : Fun K "_law_witness" "_law_witness" s_law_witness f_law_witness fd_law_witness
  m_law_witness : mg "_law_witness" = some (.ref f_law_witness)
  b_law_witness : Binds K fd_law_witness ["_law_spec_here", "_law_name"] []
  f_Rounding_call : Addr
  fd_Rounding_call : FuncData
  F_Rounding_call : Fun K "__call__" "Rounding.__call__" s_Rounding_call f_Rounding_call fd_Rounding_call
  b_Rounding_call : Binds K fd_Rounding_call ["self", "number"] []
  f_Wrap_call : Addr
  fd_Wrap_call : FuncData
  F_Wrap_call : Fun K "__call__" "Wrap.__call__" s_Wrap_call f_Wrap_call fd_Wrap_call
  b_Wrap_call : Binds K fd_Wrap_call ["self", "number"] []
  f_Clamp_call : Addr
  fd_Clamp_call : FuncData
  F_Clamp_call : Fun K "__call__" "Clamp.__call__" s_Clamp_call f_Clamp_call fd_Clamp_call
  b_Clamp_call : Binds K fd_Clamp_call ["self", "number"] []
  f_signed : Addr
  fd_signed : FuncData
  F_signed : Fun K "signed" "signed" s_signed f_signed fd_signed
  m_signed : mg "signed" = some (.ref f_signed)
  b_signed : Binds K fd_signed ["number", "size"] []
  f_Grid_call : Addr
  fd_Grid_call : FuncData
  F_Grid_call : Fun K "__call__" "Grid.__call__" s_Grid_call f_Grid_call fd_Grid_call
  b_Grid_call : Binds K fd_Grid_call ["self", "number"] []
  f_unit_of : Addr
  fd_unit_of : FuncData
  F_unit_of : Fun K "unit_of" "unit_of" s_unit_of f_unit_of fd_unit_of
  m_unit_of : mg "unit_of" = some (.ref f_unit_of)
  b_unit_of : Binds K fd_unit_of ["size", "bits"] []
  f_Sticky_call : Addr
  fd_Sticky_call : FuncData
  F_Sticky_call : Fun K "__call__" "Sticky.__call__" s_Sticky_call f_Sticky_call fd_Sticky_call
  b_Sticky_call : Binds K fd_Sticky_call ["self", "number"] []
  f_Down_call : Addr
  fd_Down_call : FuncData
  F_Down_call : Fun K "__call__" "Down.__call__" s_Down_call f_Down_call fd_Down_call
  b_Down_call : Binds K fd_Down_call ["self", "number"] []
  f_Up_call : Addr
  fd_Up_call : FuncData
  F_Up_call : Fun K "__call__" "Up.__call__" s_Up_call f_Up_call fd_Up_call
  b_Up_call : Binds K fd_Up_call ["self", "number"] []
  f_Cut_call : Addr
  fd_Cut_call : FuncData
  F_Cut_call : Fun K "__call__" "Cut.__call__" s_Cut_call f_Cut_call fd_Cut_call
  b_Cut_call : Binds K fd_Cut_call ["self", "number"] []
  f_Nearest_call : Addr
  fd_Nearest_call : FuncData
  F_Nearest_call : Fun K "__call__" "Nearest.__call__" s_Nearest_call f_Nearest_call fd_Nearest_call
  b_Nearest_call : Binds K fd_Nearest_call ["self", "number"] []
  f_Then_call : Addr
  fd_Then_call : FuncData
  F_Then_call : Fun K "__call__" "Then.__call__" s_Then_call f_Then_call fd_Then_call
  b_Then_call : Binds K fd_Then_call ["self", "number"] []
  f_law_breaks : Addr
  fd_law_breaks : FuncData
  F_law_breaks : Fun K "_law_breaks" "_law_breaks" s_law_breaks f_law_breaks fd_law_breaks
  m_law_breaks : mg "_law_breaks" = some (.ref f_law_breaks)
  b_law_breaks : Binds K fd_law_breaks ["_law_rounding", "_law_name", "_law_x", "_law_y"] []
  f_law_told_right : Addr
  fd_law_told_right : FuncData
  F_law_told_right : Fun K "_law_told_right" "_law_told_right" s_law_told_right f_law_told_right fd_law_told_right
  m_law_told_right : mg "_law_told_right" = some (.ref f_law_told_right)
  b_law_told_right : Binds K fd_law_told_right ["_law_spec_here", "_law_made"] []
  f_law_held : Addr
  fd_law_held : FuncData
  F_law_held : Fun K "_law_held" "_law_held" s_law_held f_law_held fd_law_held
  m_law_held : mg "_law_held" = some (.ref f_law_held)
  b_law_held : Binds K fd_law_held ["_law_made", "_law_pairs_here"] []
  f_law : Addr
  fd_law : FuncData
  F_law : Fun K "law" "law" s_law f_law fd_law
  m_law : mg "law" = some (.ref f_law)
  b_law : Binds K fd_law ["_law_script"] []
  co_Then : StX.CallO K c_Then f_Then_call
  mk_Then : Mk K c_Then f_Then_init
  k_Then : Cls K c_Then
  o_Then_first : FldOk K ["Then"] "first"
  o_Then_second : FldOk K ["Then"] "second"
  ei_Then_keeps : Meth K c_Then "keeps" f_Then_keeps
  co_Rounding : StX.CallO K c_Rounding f_Rounding_call
  mkn_Rounding : MkN K c_Rounding
  k_Rounding : Cls K c_Rounding
  ei_Rounding_keeps : Meth K c_Rounding "keeps" f_Rounding_keeps
  co_Wrap : StX.CallO K c_Wrap f_Wrap_call
  mk_Wrap : Mk K c_Wrap f_Wrap_init
  k_Wrap : Cls K c_Wrap
  o_Wrap_modulus : FldOk K ["Wrap"] "modulus"
  o_Wrap_low : FldOk K ["Wrap"] "low"
  ei_Wrap_keeps : Meth K c_Wrap "keeps" f_Wrap_keeps
  co_Clamp : StX.CallO K c_Clamp f_Clamp_call
  mk_Clamp : Mk K c_Clamp f_Clamp_init
  k_Clamp : Cls K c_Clamp
  o_Clamp_low : FldOk K ["Clamp"] "low"
  o_Clamp_high : FldOk K ["Clamp"] "high"
  ei_Clamp_keeps : Meth K c_Clamp "keeps" f_Clamp_keeps
  co_Grid : StX.CallO K c_Grid f_Grid_call
  mk_Grid : Mk K c_Grid f_Grid_init
  k_Grid : Cls K c_Grid
  o_Grid_step : FldOk K ["Grid"] "step"
  ei_Grid_keeps : Meth K c_Grid "keeps" f_Grid_keeps
  co_Sticky : StX.CallO K c_Sticky f_Sticky_call
  mk_Sticky : Mk K c_Sticky f_Sticky_init
  k_Sticky : Cls K c_Sticky
  o_Sticky_bits : FldOk K ["Sticky"] "bits"
  ei_Sticky_keeps : Meth K c_Sticky "keeps" f_Sticky_keeps
  co_Down : StX.CallO K c_Down f_Down_call
  mk_Down : Mk K c_Down f_Down_init
  k_Down : Cls K c_Down
  o_Down_bits : FldOk K ["Down"] "bits"
  ei_Down_keeps : Meth K c_Down "keeps" f_Down_keeps
  co_Up : StX.CallO K c_Up f_Up_call
  mk_Up : Mk K c_Up f_Up_init
  k_Up : Cls K c_Up
  o_Up_bits : FldOk K ["Up"] "bits"
  ei_Up_keeps : Meth K c_Up "keeps" f_Up_keeps
  co_Cut : StX.CallO K c_Cut f_Cut_call
  mk_Cut : Mk K c_Cut f_Cut_init
  k_Cut : Cls K c_Cut
  o_Cut_bits : FldOk K ["Cut"] "bits"
  ei_Cut_keeps : Meth K c_Cut "keeps" f_Cut_keeps
  co_Nearest : StX.CallO K c_Nearest f_Nearest_call
  mk_Nearest : Mk K c_Nearest f_Nearest_init
  k_Nearest : Cls K c_Nearest
  o_Nearest_bits : FldOk K ["Nearest"] "bits"
  ei_Nearest_keeps : Meth K c_Nearest "keeps" f_Nearest_keeps
  kb_Then_keeps_1_word : KBd K fd_Then_keeps ["self", "word"] 1 ["word"] [0, 1]
  kb_Rounding_keeps_1_word : KBd K fd_Rounding_keeps ["self", "word"] 1 ["word"] [0, 1]
  kb_Wrap_keeps_1_word : KBd K fd_Wrap_keeps ["self", "word"] 1 ["word"] [0, 1]
  kb_Clamp_keeps_1_word : KBd K fd_Clamp_keeps ["self", "word"] 1 ["word"] [0, 1]
  kb_Grid_keeps_1_word : KBd K fd_Grid_keeps ["self", "word"] 1 ["word"] [0, 1]
  kb_Sticky_keeps_1_word : KBd K fd_Sticky_keeps ["self", "word"] 1 ["word"] [0, 1]
  kb_Down_keeps_1_word : KBd K fd_Down_keeps ["self", "word"] 1 ["word"] [0, 1]
  kb_Up_keeps_1_word : KBd K fd_Up_keeps ["self", "word"] 1 ["word"] [0, 1]
  kb_Cut_keeps_1_word : KBd K fd_Cut_keeps ["self", "word"] 1 ["word"] [0, 1]
  kb_Nearest_keeps_1_word : KBd K fd_Nearest_keeps ["self", "word"] 1 ["word"] [0, 1]
  n_range : mg "range" = none
  n_int : mg "int" = none
  n_list : mg "list" = none
  n_len : mg "len" = none
  n_abs : mg "abs" = none
  n_isinstance : mg "isinstance" = none
  n_bool : mg "bool" = none
  n_max : mg "max" = none
  n_min : mg "min" = none
section
variable {P : Program} {w : World} {K : PySem.W.Frag} {mg : Str → Option Value} {base : Heap}
theorem ok_law_deck (T : Txt K mg) : FnG P w K mg base 1 T.f_law_deck T.fd_law_deck ["_law_script"] sp_law_deck :=
  FunG.ok (N := N_law_deck) T.F_law_deck sc_law_deck len_law_deck fun cdv A outer s H E hA hr => ⟨t_law_deck, (by exact (dss_one (ds_ret (de_lstM (da_cons (de_callTy cList (by rfl) T.n_list (by decide +kernel) (da_cons (de_sl (de_var 0) do_none (do_some de_int)) da_nil)) (da_cons de_int (da_cons de_int (da_cons de_int da_nil)))))))), vc_law_deck⟩
theorem ok_law_draw (T : Txt K mg) : FnG P w K mg base 1 T.f_law_draw T.fd_law_draw ["_law_deck_here", "_law_many"] sp_law_draw :=
  FunG.ok (N := N_law_draw) T.F_law_draw sc_law_draw len_law_draw fun cdv A outer s H E hA hr => ⟨t_law_draw, (by exact (dss_cons (ds_asg (de_op oAdd (de_ix (de_var 0) de_int) de_int) (dg_sub (de_var 0) de_int))
  (dss_cons (ds_if (dt_cmp oGt (de_ix (de_var 0) de_int) de_int (nomark _))
  (dss_cons (ds_set (i := 4) sc_law_draw.nd rfl (Or.inl rfl) (de_op oMod (de_callTy cInt (by rfl) T.n_int (by decide +kernel) (da_cons (de_ix (de_var 0) de_int) da_nil)) (de_var 1)))
  (dss_cons (ds_asg (de_op oDiv (de_ix (de_var 0) de_int) (de_var 1)) (dg_sub (de_var 0) de_int))
  (dss_one (ds_ret (de_var 4)))))
  dss_nil)
  (dss_cons (ds_set (i := 2) sc_law_draw.nd rfl (Or.inl rfl) de_int)
  (dss_cons (ds_if (dt_cmp (oNe (hu64 hr)) (de_ix (de_var 0) de_int) (de_lst da_nil) (nomark _))
  (dss_one (ds_set (i := 2) sc_law_draw.nd rfl (Or.inl rfl) (de_ix (de_ix (de_var 0) de_int) (de_op oMod (de_callTy cInt (by rfl) T.n_int (by decide +kernel) (da_cons (de_ix (de_var 0) de_int) da_nil)) (de_callB cLen (by rfl) T.n_len (by decide +kernel) (da_cons (de_ix (de_var 0) de_int) da_nil))))))
  dss_nil)
  (dss_cons (ds_asg (de_op oAdd (de_ix (de_var 0) de_int) de_int) (dg_sub (de_var 0) de_int))
  (dss_cons (ds_if (DW.pt (dw_and (dt_cmp oGe (de_callB cAbs (by rfl) T.n_abs (by decide +kernel) (da_cons (de_var 2) da_nil)) (de_op oPow de_int de_int) (nomark _)) (dw_and1 (dt_cmp oLe (de_ix (de_var 0) de_int) (de_callB cLen (by rfl) T.n_len (by decide +kernel) (da_cons (de_ix (de_var 0) de_int) da_nil)) (nomark _)))))
  (dss_cons (ds_asg (de_op oDiv (de_callB cAbs (by rfl) T.n_abs (by decide +kernel) (da_cons (de_var 2) da_nil)) (de_var 1)) (dg_sub (de_var 0) de_int))
  (dss_one (ds_ret (de_op oMod (de_callTy cInt (by rfl) T.n_int (by decide +kernel) (da_cons (de_callB cAbs (by rfl) T.n_abs (by decide +kernel) (da_cons (de_var 2) da_nil)) da_nil)) (de_var 1)))))
  dss_nil)
  (dss_cons (ds_set (i := 3) sc_law_draw.nd rfl (Or.inl rfl) (de_op oMod (de_op oPow (de_callTy cInt (by rfl) T.n_int (by decide +kernel) (da_cons (de_op oAdd (de_op oMod (de_callTy cInt (by rfl) T.n_int (by decide +kernel) (da_cons (de_var 2) da_nil)) de_int) (de_op oMul de_int (de_ix (de_var 0) de_int))) da_nil)) de_int) de_int))
  (dss_cons (ds_set (i := 3) sc_law_draw.nd rfl (Or.inl rfl) (de_op oMod (de_op oPow (de_callTy cInt (by rfl) T.n_int (by decide +kernel) (da_cons (de_op oAdd (de_op oMul (de_var 3) (de_op oAdd (de_op oMul de_int (de_ix (de_var 0) de_int)) de_int)) de_int) da_nil)) de_int) de_int))
  (dss_one (ds_ret (de_op oMod (de_op oDiv (de_var 3) de_int) (de_var 1))))))))))))), vc_law_draw⟩
theorem ok_law_sum (T : Txt K mg) : FnG P w K mg base 2 T.f_law_sum T.fd_law_sum ["_law_deck_here", "_law_places"] sp_law_sum :=
  FunG.ok (N := N_law_sum) T.F_law_sum sc_law_sum len_law_sum fun cdv A outer s H E hA hr => ⟨t_law_sum, (by exact (dss_cons (ds_set (i := 2) sc_law_sum.nd rfl (Or.inl rfl) de_int)
  (dss_cons (ds_for (passes_of rfl) rfl (di_rng1 (by rfl) T.n_range (da_cons (de_var 1) da_nil)) (dg_name sc_law_sum.nd (i := 3) rfl (Or.inl rfl))
  (dss_one (ds_set (i := 2) sc_law_sum.nd rfl (Or.inl rfl) (de_op oAdd (de_op oMul (de_var 2) de_int) (de_call (ok_law_draw T) hA (hr.mono (by decide)) (by rfl) T.m_law_draw T.F_law_draw.kp T.b_law_draw (takes_of rfl rfl rfl rfl) (da_cons (de_var 0) (da_cons de_int da_nil)))))))
  (dss_one (ds_ret (de_var 2)))))), vc_law_sum⟩
theorem ok_law_one (T : Txt K mg) : FnG P w K mg base 2 T.f_law_one T.fd_law_one ["_law_deck_here", "_law_items"] sp_law_one :=
  FunG.ok (N := N_law_one) T.F_law_one sc_law_one len_law_one fun cdv A outer s H E hA hr => ⟨t_law_one, (by exact (dss_one (ds_ret (de_ix (de_var 1) (de_call (ok_law_draw T) hA (hr.mono (by decide)) (by rfl) T.m_law_draw T.F_law_draw.kp T.b_law_draw (takes_of rfl rfl rfl rfl) (da_cons (de_var 0) (da_cons (de_callB cLen (by rfl) T.n_len (by decide +kernel) (da_cons (de_var 1) da_nil)) da_nil))))))), vc_law_one⟩
theorem ok_law_bits (T : Txt K mg) : FnG P w K mg base 2 T.f_law_bits T.fd_law_bits ["_law_deck_here"] sp_law_bits :=
  FunG.ok (N := N_law_bits) T.F_law_bits sc_law_bits len_law_bits fun cdv A outer s H E hA hr => ⟨t_law_bits, (by exact (dss_one (ds_ret (de_op oAdd de_int (de_ix (de_lst (da_cons de_int (da_cons de_int (da_cons (de_call (ok_law_draw T) hA (hr.mono (by decide)) (by rfl) T.m_law_draw T.F_law_draw.kp T.b_law_draw (takes_of rfl rfl rfl rfl) (da_cons (de_var 0) (da_cons de_int da_nil))) (da_cons (de_call (ok_law_draw T) hA (hr.mono (by decide)) (by rfl) T.m_law_draw T.F_law_draw.kp T.b_law_draw (takes_of rfl rfl rfl rfl) (da_cons (de_var 0) (da_cons de_int da_nil))) da_nil))))) (de_call (ok_law_draw T) hA (hr.mono (by decide)) (by rfl) T.m_law_draw T.F_law_draw.kp T.b_law_draw (takes_of rfl rfl rfl rfl) (da_cons (de_var 0) (da_cons de_int da_nil)))))))), vc_law_bits⟩
theorem ok_law_spec (T : Txt K mg) : ∀ d, FnG P w K mg base (3 + d) T.f_law_spec T.fd_law_spec ["_law_deck_here", "_law_deep"] (sp_law_spec d)
  | 0 => FnG.no no_law_spec
  | d + 1 => by
    have R := ok_law_spec T d
    exact FunG.ok (N := N_law_spec) T.F_law_spec sc_law_spec (len_law_spec (d + 1)) fun cdv A outer s H E hA hr => ⟨t_law_spec (sp_law_spec d), (by exact (dss_cons (ds_set (i := 2) sc_law_spec.nd rfl (Or.inl rfl) (de_lst (da_cons de_str (da_cons de_str (da_cons de_str (da_cons de_str (da_cons de_str (da_cons de_str (da_cons de_str (da_cons de_str (da_cons de_str (da_cons de_str da_nil))))))))))))
  (dss_cons (ds_par3 (i := 3) (j := 4) (l := 5) rfl sc_law_spec.nd rfl rfl rfl (by decide) (by decide) (by decide) rfl rfl rfl (da_cons (de_call (ok_law_one T) hA (hr.mono (by first | omega | (simp only [Nat.add_eq]; omega))) (by rfl) T.m_law_one T.F_law_one.kp T.b_law_one (takes_of rfl rfl rfl rfl) (da_cons (de_var 0) (da_cons (de_var 2) da_nil))) (da_cons (de_op oAdd de_int (de_call (ok_law_draw T) hA (hr.mono (by first | omega | (simp only [Nat.add_eq]; omega))) (by rfl) T.m_law_draw T.F_law_draw.kp T.b_law_draw (takes_of rfl rfl rfl rfl) (da_cons (de_var 0) (da_cons de_int da_nil)))) (da_cons (de_op oAdd de_int (de_call (ok_law_sum T) hA (hr.mono (by first | omega | (simp only [Nat.add_eq]; omega))) (by rfl) T.m_law_sum T.F_law_sum.kp T.b_law_sum (takes_of rfl rfl rfl rfl) (da_cons (de_var 0) (da_cons de_int da_nil)))) da_nil))) (by rfl))
  (dss_cons (ds_if (DW.pt (dw_and (dt_cmp (oEq (hu64 hr)) (de_var 3) de_str (nomark _)) (dw_and1 (dt_cmp oGt (de_var 1) de_int (nomark _)))))
  (dss_one (ds_ret (de_tup (da_cons (de_var 3) (da_cons (de_call R hA (hr.mono (by first | omega | (simp only [Nat.add_eq]; omega))) (by rfl) T.m_law_spec T.F_law_spec.kp T.b_law_spec (takes_of rfl rfl rfl rfl) (da_cons (de_var 0) (da_cons (de_op oSub (de_var 1) de_int) da_nil))) (da_cons (de_call R hA (hr.mono (by first | omega | (simp only [Nat.add_eq]; omega))) (by rfl) T.m_law_spec T.F_law_spec.kp T.b_law_spec (takes_of rfl rfl rfl rfl) (da_cons (de_var 0) (da_cons (de_op oSub (de_var 1) de_int) da_nil))) da_nil))))))
  dss_nil)
  (dss_cons (ds_if (dt_cmp (oEq (hu64 hr)) (de_var 3) de_str (nomark _))
  (dss_one (ds_ret (de_tup (da_cons (de_var 3) (da_cons (de_call (ok_law_one T) hA (hr.mono (by first | omega | (simp only [Nat.add_eq]; omega))) (by rfl) T.m_law_one T.F_law_one.kp T.b_law_one (takes_of rfl rfl rfl rfl) (da_cons (de_var 0) (da_cons (de_lst (da_cons de_int (da_cons de_int (da_cons (de_op oPow de_int de_int) (da_cons (de_var 4) (da_cons (de_op oAdd de_int (de_op oMod (de_callTy cInt (by rfl) T.n_int (by decide +kernel) (da_cons (de_var 5) da_nil)) (de_op oPow de_int de_int))) da_nil)))))) da_nil))) da_nil)))))
  dss_nil)
  (dss_cons (ds_if (dt_cmp (oEq (hu64 hr)) (de_var 3) de_str (nomark _))
  (dss_one (ds_ret (de_tup (da_cons (de_var 3) (da_cons (de_op oSub de_int (de_call (ok_law_one T) hA (hr.mono (by first | omega | (simp only [Nat.add_eq]; omega))) (by rfl) T.m_law_one T.F_law_one.kp T.b_law_one (takes_of rfl rfl rfl rfl) (da_cons (de_var 0) (da_cons (de_lst (da_cons (de_var 4) (da_cons (de_var 5) da_nil))) da_nil)))) (da_cons (de_call (ok_law_one T) hA (hr.mono (by first | omega | (simp only [Nat.add_eq]; omega))) (by rfl) T.m_law_one T.F_law_one.kp T.b_law_one (takes_of rfl rfl rfl rfl) (da_cons (de_var 0) (da_cons (de_lst (da_cons (de_var 4) (da_cons (de_var 5) (da_cons (de_op oAdd de_int (de_call (ok_law_draw T) hA (hr.mono (by first | omega | (simp only [Nat.add_eq]; omega))) (by rfl) T.m_law_draw T.F_law_draw.kp T.b_law_draw (takes_of rfl rfl rfl rfl) (da_cons (de_var 0) (da_cons de_int da_nil)))) da_nil)))) da_nil))) da_nil))))))
  dss_nil)
  (dss_cons (ds_if (dt_cmp (oEq (hu64 hr)) (de_var 3) de_str (nomark _))
  (dss_cons (ds_set (i := 6) sc_law_spec.nd rfl (Or.inl rfl) (de_call (ok_law_one T) hA (hr.mono (by first | omega | (simp only [Nat.add_eq]; omega))) (by rfl) T.m_law_one T.F_law_one.kp T.b_law_one (takes_of rfl rfl rfl rfl) (da_cons (de_var 0) (da_cons (de_lst (da_cons (de_op oAdd de_int (de_var 4)) (da_cons (de_op oAdd de_int (de_op oMul de_int (de_call (ok_law_draw T) hA (hr.mono (by first | omega | (simp only [Nat.add_eq]; omega))) (by rfl) T.m_law_draw T.F_law_draw.kp T.b_law_draw (takes_of rfl rfl rfl rfl) (da_cons (de_var 0) (da_cons de_int da_nil))))) (da_cons (de_op oAdd de_int (de_op oMod (de_callTy cInt (by rfl) T.n_int (by decide +kernel) (da_cons (de_var 5) da_nil)) (de_op oSub (de_op oPow de_int de_int) de_int))) da_nil)))) da_nil))))
  (dss_one (ds_ret (de_tup (da_cons (de_var 3) (da_cons (de_var 6) (da_cons (de_call (ok_law_one T) hA (hr.mono (by first | omega | (simp only [Nat.add_eq]; omega))) (by rfl) T.m_law_one T.F_law_one.kp T.b_law_one (takes_of rfl rfl rfl rfl) (da_cons (de_var 0) (da_cons (de_lst (da_cons (de_op oSub de_int (de_op oDiv (de_var 6) de_int)) (da_cons de_int (da_cons (de_op oSub (de_var 4) de_int) (da_cons (de_op oSub (de_var 5) (de_op oPow de_int de_int)) da_nil))))) da_nil))) da_nil)))))))
  dss_nil)
  (dss_one (ds_ret (de_ifExp (dt_cmp oIn (de_var 3) (de_tup (da_cons de_str (da_cons de_str da_nil))) (by with_unfolding_all rfl)) (de_tup (da_cons de_str da_nil)) (de_tup (da_cons (de_var 3) (da_cons (de_call (ok_law_bits T) hA (hr.mono (by first | omega | (simp only [Nat.add_eq]; omega))) (by rfl) T.m_law_bits T.F_law_bits.kp T.b_law_bits (takes_of rfl rfl rfl rfl) (da_cons (de_var 0) da_nil)) da_nil))))))))))))), vc_law_spec d⟩
theorem ok_Nearest_init (T : Txt K mg) : FnG P w K mg base 1 T.f_Nearest_init T.fd_Nearest_init ["self", "bits"] sp_Nearest_init :=
  FunG.ok (N := N_Nearest_init) T.F_Nearest_init sc_Nearest_init len_Nearest_init fun cdv A outer s H E hA hr => ⟨t_Nearest_init, (by exact (dss_one (ds_setF T.o_Nearest_bits (de_var 0) (de_var 1)))), vc_Nearest_init⟩
theorem ok_Cut_init (T : Txt K mg) : FnG P w K mg base 1 T.f_Cut_init T.fd_Cut_init ["self", "bits"] sp_Cut_init :=
  FunG.ok (N := N_Cut_init) T.F_Cut_init sc_Cut_init len_Cut_init fun cdv A outer s H E hA hr => ⟨t_Cut_init, (by exact (dss_one (ds_setF T.o_Cut_bits (de_var 0) (de_var 1)))), vc_Cut_init⟩
theorem ok_Up_init (T : Txt K mg) : FnG P w K mg base 1 T.f_Up_init T.fd_Up_init ["self", "bits"] sp_Up_init :=
  FunG.ok (N := N_Up_init) T.F_Up_init sc_Up_init len_Up_init fun cdv A outer s H E hA hr => ⟨t_Up_init, (by exact (dss_one (ds_setF T.o_Up_bits (de_var 0) (de_var 1)))), vc_Up_init⟩
theorem ok_Down_init (T : Txt K mg) : FnG P w K mg base 1 T.f_Down_init T.fd_Down_init ["self", "bits"] sp_Down_init :=
  FunG.ok (N := N_Down_init) T.F_Down_init sc_Down_init len_Down_init fun cdv A outer s H E hA hr => ⟨t_Down_init, (by exact (dss_one (ds_setF T.o_Down_bits (de_var 0) (de_var 1)))), vc_Down_init⟩
theorem ok_Sticky_init (T : Txt K mg) : FnG P w K mg base 1 T.f_Sticky_init T.fd_Sticky_init ["self", "bits"] sp_Sticky_init :=
  FunG.ok (N := N_Sticky_init) T.F_Sticky_init sc_Sticky_init len_Sticky_init fun cdv A outer s H E hA hr => ⟨t_Sticky_init, (by exact (dss_one (ds_setF T.o_Sticky_bits (de_var 0) (de_var 1)))), vc_Sticky_init⟩
theorem ok_Grid_init (T : Txt K mg) : FnG P w K mg base 1 T.f_Grid_init T.fd_Grid_init ["self", "step"] sp_Grid_init :=
  FunG.ok (N := N_Grid_init) T.F_Grid_init sc_Grid_init len_Grid_init fun cdv A outer s H E hA hr => ⟨t_Grid_init, (by exact (dss_one (ds_setF T.o_Grid_step (de_var 0) (de_var 1)))), vc_Grid_init⟩
theorem ok_Clamp_init (T : Txt K mg) : FnG P w K mg base 1 T.f_Clamp_init T.fd_Clamp_init ["self", "low", "high"] sp_Clamp_init :=
  FunG.ok (N := N_Clamp_init) T.F_Clamp_init sc_Clamp_init len_Clamp_init fun cdv A outer s H E hA hr => ⟨t_Clamp_init, (by exact (dss_cons (ds_setF T.o_Clamp_low (de_var 0) (de_var 1))
  (dss_one (ds_setF T.o_Clamp_high (de_var 0) (de_var 2))))), vc_Clamp_init⟩
theorem ok_Wrap_init (T : Txt K mg) : FnG P w K mg base 1 T.f_Wrap_init T.fd_Wrap_init ["self", "modulus", "low"] sp_Wrap_init :=
  FunG.ok (N := N_Wrap_init) T.F_Wrap_init sc_Wrap_init len_Wrap_init fun cdv A outer s H E hA hr => ⟨t_Wrap_init, (by exact (dss_cons (ds_setF T.o_Wrap_modulus (de_var 0) (de_var 1))
  (dss_one (ds_setF T.o_Wrap_low (de_var 0) (de_var 2))))), vc_Wrap_init⟩
theorem ok_Then_init (T : Txt K mg) : FnG P w K mg base 1 T.f_Then_init T.fd_Then_init ["self", "first", "second"] sp_Then_init :=
  FunG.ok (N := N_Then_init) T.F_Then_init sc_Then_init len_Then_init fun cdv A outer s H E hA hr => ⟨t_Then_init, (by exact (dss_cons (ds_setF T.o_Then_first (de_var 0) (de_var 1))
  (dss_one (ds_setF T.o_Then_second (de_var 0) (de_var 2))))), vc_Then_init⟩
theorem ok_law_built (T : Txt K mg) : ∀ d, FnG P w K mg base (3 + d) T.f_law_built T.fd_law_built ["_law_spec_here"] (sp_law_built d)
  | 0 => FnG.no no_law_built
  | d + 1 => by
    have R := ok_law_built T d
    exact FunG.ok (N := N_law_built) T.F_law_built sc_law_built (len_law_built (d + 1)) fun cdv A outer s H E hA hr => ⟨t_law_built (sp_law_built d), (by exact (dss_cons (ds_set (i := 1) sc_law_built.nd rfl (Or.inl rfl) (de_ix (de_var 0) de_int))
  (dss_cons (ds_if (dt_cmp (oEq (hu64 hr)) (de_var 1) de_str (nomark _))
  (dss_one (ds_ret (de_make true T.g_Nearest T.mk_Nearest (ok_Nearest_init T) hA (hr.mono (by first | omega | (simp only [Nat.add_eq]; omega))) (by rfl) T.mc_Nearest T.b_Nearest_init (takes_of rfl rfl rfl rfl) (da_cons (de_ix (de_var 0) de_int) da_nil))))
  dss_nil)
  (dss_cons (ds_if (dt_cmp (oEq (hu64 hr)) (de_var 1) de_str (nomark _))
  (dss_one (ds_ret (de_make true T.g_Cut T.mk_Cut (ok_Cut_init T) hA (hr.mono (by first | omega | (simp only [Nat.add_eq]; omega))) (by rfl) T.mc_Cut T.b_Cut_init (takes_of rfl rfl rfl rfl) (da_cons (de_ix (de_var 0) de_int) da_nil))))
  dss_nil)
  (dss_cons (ds_if (dt_cmp (oEq (hu64 hr)) (de_var 1) de_str (nomark _))
  (dss_one (ds_ret (de_make true T.g_Up T.mk_Up (ok_Up_init T) hA (hr.mono (by first | omega | (simp only [Nat.add_eq]; omega))) (by rfl) T.mc_Up T.b_Up_init (takes_of rfl rfl rfl rfl) (da_cons (de_ix (de_var 0) de_int) da_nil))))
  dss_nil)
  (dss_cons (ds_if (dt_cmp (oEq (hu64 hr)) (de_var 1) de_str (nomark _))
  (dss_one (ds_ret (de_make true T.g_Down T.mk_Down (ok_Down_init T) hA (hr.mono (by first | omega | (simp only [Nat.add_eq]; omega))) (by rfl) T.mc_Down T.b_Down_init (takes_of rfl rfl rfl rfl) (da_cons (de_ix (de_var 0) de_int) da_nil))))
  dss_nil)
  (dss_cons (ds_if (dt_cmp (oEq (hu64 hr)) (de_var 1) de_str (nomark _))
  (dss_one (ds_ret (de_make true T.g_Sticky T.mk_Sticky (ok_Sticky_init T) hA (hr.mono (by first | omega | (simp only [Nat.add_eq]; omega))) (by rfl) T.mc_Sticky T.b_Sticky_init (takes_of rfl rfl rfl rfl) (da_cons (de_ix (de_var 0) de_int) da_nil))))
  dss_nil)
  (dss_cons (ds_if (dt_cmp (oEq (hu64 hr)) (de_var 1) de_str (nomark _))
  (dss_one (ds_ret (de_make true T.g_Grid T.mk_Grid (ok_Grid_init T) hA (hr.mono (by first | omega | (simp only [Nat.add_eq]; omega))) (by rfl) T.mc_Grid T.b_Grid_init (takes_of rfl rfl rfl rfl) (da_cons (de_ix (de_var 0) de_int) da_nil))))
  dss_nil)
  (dss_cons (ds_if (dt_cmp (oEq (hu64 hr)) (de_var 1) de_str (nomark _))
  (dss_one (ds_ret (de_make true T.g_Clamp T.mk_Clamp (ok_Clamp_init T) hA (hr.mono (by first | omega | (simp only [Nat.add_eq]; omega))) (by rfl) T.mc_Clamp T.b_Clamp_init (takes_of rfl rfl rfl rfl) (da_cons (de_ix (de_var 0) de_int) (da_cons (de_ix (de_var 0) de_int) da_nil)))))
  dss_nil)
  (dss_cons (ds_if (dt_cmp (oEq (hu64 hr)) (de_var 1) de_str (nomark _))
  (dss_one (ds_ret (de_make true T.g_Wrap T.mk_Wrap (ok_Wrap_init T) hA (hr.mono (by first | omega | (simp only [Nat.add_eq]; omega))) (by rfl) T.mc_Wrap T.b_Wrap_init (takes_of rfl rfl rfl rfl) (da_cons (de_ix (de_var 0) de_int) (da_cons (de_ix (de_var 0) de_int) da_nil)))))
  dss_nil)
  (dss_cons (ds_if (dt_cmp (oEq (hu64 hr)) (de_var 1) de_str (nomark _))
  (dss_one (ds_ret (de_make true T.g_Then T.mk_Then (ok_Then_init T) hA (hr.mono (by first | omega | (simp only [Nat.add_eq]; omega))) (by rfl) T.mc_Then T.b_Then_init (takes_of rfl rfl rfl rfl) (da_cons (de_call R hA (hr.mono (by first | omega | (simp only [Nat.add_eq]; omega))) (by rfl) T.m_law_built T.F_law_built.kp T.b_law_built (takes_of rfl rfl rfl rfl) (da_cons (de_ix (de_var 0) de_int) da_nil)) (da_cons (de_call R hA (hr.mono (by first | omega | (simp only [Nat.add_eq]; omega))) (by rfl) T.m_law_built T.F_law_built.kp T.b_law_built (takes_of rfl rfl rfl rfl) (da_cons (de_ix (de_var 0) de_int) da_nil)) da_nil)))))
  dss_nil)
  (dss_one (ds_ret (de_new T.g_Rounding T.mkn_Rounding (by rfl) T.mc_Rounding)))))))))))))), vc_law_built d⟩
theorem ok_law_near (T : Txt K mg) : FnG P w K mg base 3 T.f_law_near T.fd_law_near ["_law_deck_here", "_law_width"] sp_law_near :=
  FunG.ok (N := N_law_near) T.F_law_near sc_law_near len_law_near fun cdv A outer s H E hA hr => ⟨t_law_near, (by exact (dss_cons (ds_par3 (i := 5) (j := 6) (l := 7) rfl sc_law_near.nd rfl rfl rfl (by decide) (by decide) (by decide) rfl rfl rfl (da_cons (de_call (ok_law_draw T) hA (hr.mono (by decide)) (by rfl) T.m_law_draw T.F_law_draw.kp T.b_law_draw (takes_of rfl rfl rfl rfl) (da_cons (de_var 0) (da_cons de_int da_nil))) (da_cons (de_op oShl de_int (de_call (ok_law_draw T) hA (hr.mono (by decide)) (by rfl) T.m_law_draw T.F_law_draw.kp T.b_law_draw (takes_of rfl rfl rfl rfl) (da_cons (de_var 0) (da_cons de_int da_nil)))) (da_cons (de_op oSub (de_call (ok_law_draw T) hA (hr.mono (by decide)) (by rfl) T.m_law_draw T.F_law_draw.kp T.b_law_draw (takes_of rfl rfl rfl rfl) (da_cons (de_var 0) (da_cons de_int da_nil))) de_int) da_nil))) (by rfl))
  (dss_cons (ds_set (i := 2) sc_law_near.nd rfl (Or.inl rfl) (de_op oAdd (de_op oMul de_int (de_op oSub (de_op oSub (de_op oShl de_int (de_var 1)) de_int) (de_op oMod (de_callTy cInt (by rfl) T.n_int (by decide +kernel) (da_cons (de_call (ok_law_sum T) hA (hr.mono (by decide)) (by rfl) T.m_law_sum T.F_law_sum.kp T.b_law_sum (takes_of rfl rfl rfl rfl) (da_cons (de_var 0) (da_cons de_int da_nil))) da_nil)) (de_op oShl de_int (de_op oSub (de_var 1) de_int))))) de_int))
  (dss_cons (ds_set (i := 3) sc_law_near.nd rfl (Or.inl rfl) (de_call (ok_law_sum T) hA (hr.mono (by decide)) (by rfl) T.m_law_sum T.F_law_sum.kp T.b_law_sum (takes_of rfl rfl rfl rfl) (da_cons (de_var 0) (da_cons (de_call (ok_law_draw T) hA (hr.mono (by decide)) (by rfl) T.m_law_draw T.F_law_draw.kp T.b_law_draw (takes_of rfl rfl rfl rfl) (da_cons (de_var 0) (da_cons de_int da_nil))) da_nil))))
  (dss_cons (ds_set (i := 4) sc_law_near.nd rfl (Or.inl rfl) (de_ix (de_lst (da_cons (de_call (ok_law_draw T) hA (hr.mono (by decide)) (by rfl) T.m_law_draw T.F_law_draw.kp T.b_law_draw (takes_of rfl rfl rfl rfl) (da_cons (de_var 0) (da_cons de_int da_nil))) (da_cons (de_op oAdd (de_op oMul (de_var 6) (de_op oShl de_int (de_var 1))) (de_var 7)) (da_cons (de_op oMul (de_var 6) (de_var 2)) (da_cons (de_op oAdd (de_op oMul (de_var 6) (de_var 2)) (de_var 7)) (da_cons (de_var 3) da_nil)))))) (de_var 5)))
  (dss_one (ds_ret (de_ifExp (dt_cmp (oEq (hu64 hr)) (de_call (ok_law_draw T) hA (hr.mono (by decide)) (by rfl) T.m_law_draw T.F_law_draw.kp T.b_law_draw (takes_of rfl rfl rfl rfl) (da_cons (de_var 0) (da_cons de_int da_nil))) de_int (nomark _)) (de_var 4) (de_op oSub de_int (de_var 4)))))))))), vc_law_near⟩
theorem ok_law_about (T : Txt K mg) : FnG P w K mg base 4 T.f_law_about T.fd_law_about ["_law_deck_here", "_law_spec_here"] sp_law_about :=
  FunG.ok (N := N_law_about) T.F_law_about sc_law_about len_law_about fun cdv A outer s H E hA hr => ⟨t_law_about, (by exact (dss_cons (ds_par (i := 3) (j := 4) rfl sc_law_about.nd rfl rfl (by decide) rfl rfl (da_cons (de_call (ok_law_bits T) hA (hr.mono (by decide)) (by rfl) T.m_law_bits T.F_law_bits.kp T.b_law_bits (takes_of rfl rfl rfl rfl) (da_cons (de_var 0) da_nil)) (da_cons (de_op oSub (de_call (ok_law_draw T) hA (hr.mono (by decide)) (by rfl) T.m_law_draw T.F_law_draw.kp T.b_law_draw (takes_of rfl rfl rfl rfl) (da_cons (de_var 0) (da_cons de_int da_nil))) de_int) da_nil)) (by rfl))
  (dss_cons (ds_if (dt_cmp oIn (de_ix (de_var 1) de_int) (de_tup (da_cons de_str (da_cons de_str da_nil))) (by with_unfolding_all rfl))
  (dss_one (ds_ret (de_call (ok_law_near T) hA (hr.mono (by decide)) (by rfl) T.m_law_near T.F_law_near.kp T.b_law_near (takes_of rfl rfl rfl rfl) (da_cons (de_var 0) (da_cons (de_var 3) da_nil)))))
  dss_nil)
  (dss_cons (ds_set (i := 2) sc_law_about.nd rfl (Or.inl rfl) (de_call (ok_law_one T) hA (hr.mono (by decide)) (by rfl) T.m_law_one T.F_law_one.kp T.b_law_one (takes_of rfl rfl rfl rfl) (da_cons (de_var 0) (da_cons (de_lst (da_cons de_int (da_cons de_int (da_cons (de_call (ok_law_draw T) hA (hr.mono (by decide)) (by rfl) T.m_law_draw T.F_law_draw.kp T.b_law_draw (takes_of rfl rfl rfl rfl) (da_cons (de_var 0) (da_cons de_int da_nil))) (da_cons (de_call (ok_law_sum T) hA (hr.mono (by decide)) (by rfl) T.m_law_sum T.F_law_sum.kp T.b_law_sum (takes_of rfl rfl rfl rfl) (da_cons (de_var 0) (da_cons de_int da_nil))) da_nil))))) da_nil))))
  (dss_cons (ds_if (dt_cmp (oEq (hu64 hr)) (de_ix (de_var 1) de_int) de_str (nomark _))
  (dss_cons (ds_set (i := 5) sc_law_about.nd rfl (Or.inl rfl) (de_op oAdd (de_op oAdd (de_op oMul (de_ix (de_var 1) de_int) (de_var 2)) (de_call (ok_law_one T) hA (hr.mono (by decide)) (by rfl) T.m_law_one T.F_law_one.kp T.b_law_one (takes_of rfl rfl rfl rfl) (da_cons (de_var 0) (da_cons (de_lst (da_cons de_int (da_cons (de_op oDiv (de_ix (de_var 1) de_int) de_int) da_nil))) da_nil)))) (de_var 4)))
  (dss_one (ds_ret (de_call (ok_law_one T) hA (hr.mono (by decide)) (by rfl) T.m_law_one T.F_law_one.kp T.b_law_one (takes_of rfl rfl rfl rfl) (da_cons (de_var 0) (da_cons (de_lst (da_cons (de_var 5) (da_cons (de_op oSub de_int (de_var 5)) da_nil))) da_nil))))))
  dss_nil)
  (dss_cons (ds_if (dt_cmp (oEq (hu64 hr)) (de_ix (de_var 1) de_int) de_str (nomark _))
  (dss_one (ds_ret (de_call (ok_law_one T) hA (hr.mono (by decide)) (by rfl) T.m_law_one T.F_law_one.kp T.b_law_one (takes_of rfl rfl rfl rfl) (da_cons (de_var 0) (da_cons (de_lst (da_cons (de_op oAdd (de_ix (de_var 1) de_int) (de_var 4)) (da_cons (de_op oAdd (de_ix (de_var 1) de_int) (de_var 4)) (da_cons (de_var 4) (da_cons (de_call (ok_law_near T) hA (hr.mono (by decide)) (by rfl) T.m_law_near T.F_law_near.kp T.b_law_near (takes_of rfl rfl rfl rfl) (da_cons (de_var 0) (da_cons (de_var 3) da_nil))) da_nil))))) da_nil)))))
  dss_nil)
  (dss_cons (ds_if (dt_cmp (oEq (hu64 hr)) (de_ix (de_var 1) de_int) de_str (nomark _))
  (dss_one (ds_ret (de_call (ok_law_one T) hA (hr.mono (by decide)) (by rfl) T.m_law_one T.F_law_one.kp T.b_law_one (takes_of rfl rfl rfl rfl) (da_cons (de_var 0) (da_cons (de_lst (da_cons (de_op oAdd (de_op oAdd (de_ix (de_var 1) de_int) (de_op oMul (de_ix (de_var 1) de_int) (de_op oSub (de_var 2) de_int))) (de_var 4)) (da_cons (de_op oAdd (de_ix (de_var 1) de_int) (de_var 4)) (da_cons (de_call (ok_law_near T) hA (hr.mono (by decide)) (by rfl) T.m_law_near T.F_law_near.kp T.b_law_near (takes_of rfl rfl rfl rfl) (da_cons (de_var 0) (da_cons (de_var 3) da_nil))) da_nil)))) da_nil)))))
  dss_nil)
  (dss_one (ds_ret (de_call (ok_law_near T) hA (hr.mono (by decide)) (by rfl) T.m_law_near T.F_law_near.kp T.b_law_near (takes_of rfl rfl rfl rfl) (da_cons (de_var 0) (da_cons (de_ix (de_var 1) de_int) da_nil)))))))))))), vc_law_about⟩
theorem ok_law_pairs (T : Txt K mg) : FnG P w K mg base 5 T.f_law_pairs T.fd_law_pairs ["_law_deck_here", "_law_spec_here"] sp_law_pairs :=
  FunG.ok (N := N_law_pairs) T.F_law_pairs sc_law_pairs len_law_pairs fun cdv A outer s H E hA hr => ⟨t_law_pairs, (by exact (dss_cons (ds_set (i := 2) sc_law_pairs.nd rfl (Or.inr rfl) (de_op oAdd (de_lc (own := [("_law_k", 3)]) true (.nm 3) rfl sc_law_pairs.nd (di_rng1 (by rfl) T.n_range (da_cons de_int da_nil)) (blkOk_by (N := N_law_pairs) (sc := defScope s_law_pairs) (by decide +kernel)) (by decide) (fun _ _ _ _ _ => by exact (pg_name (i := 3) sc_law_pairs.nd rfl (Or.inl rfl))) (fun _ _ _ _ _ => by exact dts_nil) (fun _ _ _ _ _ => by exact (de_call (ok_law_about T) hA (hr.mono (by decide)) (by rfl) T.m_law_about T.F_law_about.kp T.b_law_about takes0 (da_cons (de_var 0) (da_cons (de_var 1) da_nil))))) (de_lst (da_cons de_int (da_cons (de_op oAdd de_int (de_call (ok_law_draw T) hA (hr.mono (by decide)) (by rfl) T.m_law_draw T.F_law_draw.kp T.b_law_draw (takes_of rfl rfl rfl rfl) (da_cons (de_var 0) (da_cons de_int da_nil)))) da_nil)))))
  (dss_one (ds_ret (de_op oAdd (de_lc (own := [("_law_x", 4)]) true (.nm 4) rfl sc_law_pairs.nd (di_sq (de_var 2)) (blkOk_by (N := N_law_pairs) (sc := defScope s_law_pairs) (by decide +kernel)) (by decide) (fun _ _ _ _ _ => by exact (pg_name (i := 4) sc_law_pairs.nd rfl (Or.inl rfl))) (fun _ _ _ _ _ => by exact dts_nil) (fun _ _ _ _ _ => by exact (de_tup (da_cons (de_var 4) (da_cons (de_call (ok_law_one T) hA (hr.mono (by decide)) (by rfl) T.m_law_one T.F_law_one.kp T.b_law_one takes0 (da_cons (de_var 0) (da_cons (de_var 2) da_nil))) da_nil))))) (de_lst (da_cons (de_tup (da_cons (de_ix (de_var 2) de_int) (da_cons (de_op oSub de_int (de_ix (de_var 2) de_int)) da_nil))) (da_cons (de_tup (da_cons (de_op oSub de_int (de_ix (de_var 2) de_int)) (da_cons (de_op oSub (de_ix (de_var 2) de_int) de_int) da_nil))) da_nil)))))))), vc_law_pairs⟩
theorem ok_law_kept (T : Txt K mg) : ∀ d, FnG P w K mg base (1 + d) T.f_law_kept T.fd_law_kept ["_law_spec_here"] (sp_law_kept d)
  | 0 => FnG.no no_law_kept
  | d + 1 => by
    have R := ok_law_kept T d
    exact FunG.ok (N := N_law_kept) T.F_law_kept sc_law_kept (len_law_kept (d + 1)) fun cdv A outer s H E hA hr => ⟨t_law_kept (sp_law_kept d), (by exact (dss_cons (ds_set (i := 1) sc_law_kept.nd rfl (Or.inl rfl) (de_ix (de_var 0) de_int))
  (dss_cons (ds_if (dt_cmp (oEq (hu64 hr)) (de_var 1) de_str (nomark _))
  (dss_one (ds_ret (de_lc (own := [("_law_name", 2)]) true (.nm 2) rfl sc_law_kept.nd (di_sq (de_tup (da_cons de_str (da_cons de_str da_nil)))) (blkOk_by (N := N_law_kept) (sc := defScope s_law_kept) (by decide +kernel)) (by decide) (fun _ _ _ _ _ => by exact (pg_name (i := 2) sc_law_kept.nd rfl (Or.inl rfl))) (fun _ _ _ _ _ => by exact (dts_one (DW.pt (dw_and (dt_cmp oIn (de_var 2) (de_call R hA (hr.mono (by first | omega | (simp only [Nat.add_eq]; omega))) (by rfl) T.m_law_kept T.F_law_kept.kp T.b_law_kept takes0 (da_cons (de_ix (de_var 0) de_int) da_nil)) (by with_unfolding_all rfl)) (dw_and1 (dt_cmp oIn (de_var 2) (de_call R hA (hr.mono (by first | omega | (simp only [Nat.add_eq]; omega))) (by rfl) T.m_law_kept T.F_law_kept.kp T.b_law_kept takes0 (da_cons (de_ix (de_var 0) de_int) da_nil)) (by with_unfolding_all rfl))))))) (fun _ _ _ _ _ => by exact (de_var 2)))))
  dss_nil)
  (dss_cons (ds_if (DW.pt (dw_or (dt_cmp (oEq (hu64 hr)) (de_var 1) de_str (nomark _)) (dw_or1 (DW.pt (dw_and (dt_cmp (oEq (hu64 hr)) (de_var 1) de_str (nomark _)) (dw_and1 (dt_cmp (oEq (hu64 hr)) (de_ix (de_var 0) de_int) de_int (nomark _))))))))
  (dss_one (ds_ret (de_lst (da_cons de_str (da_cons de_str (da_cons de_str (da_cons de_str da_nil)))))))
  dss_nil)
  (dss_cons (ds_if (dt_cmp (oEq (hu64 hr)) (de_var 1) de_str (nomark _))
  (dss_one (ds_ret (de_lst (da_cons de_str (da_cons de_str da_nil)))))
  dss_nil)
  (dss_cons (ds_if (dt_cmp (oEq (hu64 hr)) (de_var 1) de_str (nomark _))
  (dss_one (ds_ret (de_op oAdd (de_lst (da_cons de_str da_nil)) (de_op oMul (de_lst (da_cons de_str da_nil)) (de_callTy cInt (by rfl) T.n_int (by decide +kernel) (da_cons (de_cmp (oEq (hu64 hr)) (de_op oAdd (de_ix (de_var 0) de_int) (de_ix (de_var 0) de_int)) de_int (nomark _)) da_nil))))))
  dss_nil)
  (dss_cons (ds_if (dt_cmp (oEq (hu64 hr)) (de_var 1) de_str (nomark _))
  (dss_one (ds_ret (de_op oAdd (de_lst (da_cons de_str (da_cons de_str da_nil))) (de_op oMul (de_lst (da_cons de_str da_nil)) (de_callTy cInt (by rfl) T.n_int (by decide +kernel) (da_cons (de_cmp (oEq (hu64 hr)) (de_op oAdd (de_ix (de_var 0) de_int) (de_op oMul de_int (de_ix (de_var 0) de_int))) de_int (nomark _)) da_nil))))))
  dss_nil)
  (dss_one (ds_ret (de_op oAdd (de_lst (da_cons de_str (da_cons de_str da_nil))) (de_op oMul (de_lst (da_cons de_str da_nil)) (de_callTy cInt (by rfl) T.n_int (by decide +kernel) (da_cons (de_cmp oIn (de_var 1) (de_tup (da_cons de_str (da_cons de_str (da_cons de_str da_nil)))) (by with_unfolding_all rfl)) da_nil))))))))))))), vc_law_kept d⟩
theorem ok_Rounding_keeps (T : Txt K mg) : FnG P w K mg base 1 T.f_Rounding_keeps T.fd_Rounding_keeps ["self", "word"] sp_Rounding_keeps :=
  FunG.ok (N := N_Rounding_keeps) T.F_Rounding_keeps sc_Rounding_keeps len_Rounding_keeps fun cdv A outer s H E hA hr => ⟨t_Rounding_keeps, (by exact (dss_one (ds_ret (de_cmp oIn (de_var 1) (de_tup (da_cons de_str (da_cons de_str (da_cons de_str (da_cons de_str da_nil))))) (by with_unfolding_all rfl))))), vc_Rounding_keeps⟩
theorem ok_Wrap_keeps (T : Txt K mg) : FnG P w K mg base 1 T.f_Wrap_keeps T.fd_Wrap_keeps ["self", "word"] sp_Wrap_keeps :=
  FunG.ok (N := N_Wrap_keeps) T.F_Wrap_keeps sc_Wrap_keeps len_Wrap_keeps fun cdv A outer s H E hA hr => ⟨t_Wrap_keeps, (by exact (dss_cons (ds_if (dt_cmp (oEq (hu64 hr)) (de_var 1) de_str (nomark _))
  (dss_one (ds_ret (de_and (de_cmp (oEq (hu64 hr)) (de_op oMod (de_fld T.o_Wrap_modulus (de_var 0)) de_int) de_int (nomark _)) (de_one (de_cmp (oEq (hu64 hr)) (de_op oAdd (de_fld T.o_Wrap_low (de_var 0)) (de_op oDiv (de_fld T.o_Wrap_modulus (de_var 0)) de_int)) de_int (nomark _))))))
  dss_nil)
  (dss_one (ds_ret (de_cmp oIn (de_var 1) (de_tup (da_cons de_str (da_cons de_str da_nil))) (by with_unfolding_all rfl)))))), vc_Wrap_keeps⟩
theorem ok_Clamp_keeps (T : Txt K mg) : FnG P w K mg base 1 T.f_Clamp_keeps T.fd_Clamp_keeps ["self", "word"] sp_Clamp_keeps :=
  FunG.ok (N := N_Clamp_keeps) T.F_Clamp_keeps sc_Clamp_keeps len_Clamp_keeps fun cdv A outer s H E hA hr => ⟨t_Clamp_keeps, (by exact (dss_one (ds_ret (de_or (de_cmp (oEq (hu64 hr)) (de_var 1) de_str (nomark _)) (de_one (de_and (de_cmp (oEq (hu64 hr)) (de_var 1) de_str (nomark _)) (de_one (de_cmp (oEq (hu64 hr)) (de_op oAdd (de_fld T.o_Clamp_low (de_var 0)) (de_fld T.o_Clamp_high (de_var 0))) de_int (nomark _))))))))), vc_Clamp_keeps⟩
theorem ok_Grid_keeps (T : Txt K mg) : FnG P w K mg base 1 T.f_Grid_keeps T.fd_Grid_keeps ["self", "word"] sp_Grid_keeps :=
  FunG.ok (N := N_Grid_keeps) T.F_Grid_keeps sc_Grid_keeps len_Grid_keeps fun cdv A outer s H E hA hr => ⟨t_Grid_keeps, (by exact (dss_one (ds_ret (de_or (de_cmp (oEq (hu64 hr)) (de_fld T.o_Grid_step (de_var 0)) de_int (nomark _)) (de_one (de_cmp oIn (de_var 1) (de_tup (da_cons de_str (da_cons de_str da_nil))) (by with_unfolding_all rfl))))))), vc_Grid_keeps⟩
theorem ok_Sticky_keeps (T : Txt K mg) : FnG P w K mg base 1 T.f_Sticky_keeps T.fd_Sticky_keeps ["self", "word"] sp_Sticky_keeps :=
  FunG.ok (N := N_Sticky_keeps) T.F_Sticky_keeps sc_Sticky_keeps len_Sticky_keeps fun cdv A outer s H E hA hr => ⟨t_Sticky_keeps, (by exact (dss_one (ds_ret (de_cmp oIn (de_var 1) (de_tup (da_cons de_str (da_cons de_str (da_cons de_str da_nil)))) (by with_unfolding_all rfl))))), vc_Sticky_keeps⟩
theorem ok_Down_keeps (T : Txt K mg) : FnG P w K mg base 1 T.f_Down_keeps T.fd_Down_keeps ["self", "word"] sp_Down_keeps :=
  FunG.ok (N := N_Down_keeps) T.F_Down_keeps sc_Down_keeps len_Down_keeps fun cdv A outer s H E hA hr => ⟨t_Down_keeps, (by exact (dss_one (ds_ret (de_cmp oIn (de_var 1) (de_tup (da_cons de_str (da_cons de_str da_nil))) (by with_unfolding_all rfl))))), vc_Down_keeps⟩
theorem ok_Up_keeps (T : Txt K mg) : FnG P w K mg base 1 T.f_Up_keeps T.fd_Up_keeps ["self", "word"] sp_Up_keeps :=
  FunG.ok (N := N_Up_keeps) T.F_Up_keeps sc_Up_keeps len_Up_keeps fun cdv A outer s H E hA hr => ⟨t_Up_keeps, (by exact (dss_one (ds_ret (de_cmp oIn (de_var 1) (de_tup (da_cons de_str (da_cons de_str da_nil))) (by with_unfolding_all rfl))))), vc_Up_keeps⟩
theorem ok_Cut_keeps (T : Txt K mg) : FnG P w K mg base 1 T.f_Cut_keeps T.fd_Cut_keeps ["self", "word"] sp_Cut_keeps :=
  FunG.ok (N := N_Cut_keeps) T.F_Cut_keeps sc_Cut_keeps len_Cut_keeps fun cdv A outer s H E hA hr => ⟨t_Cut_keeps, (by exact (dss_one (ds_ret (de_cmp oIn (de_var 1) (de_tup (da_cons de_str (da_cons de_str (da_cons de_str da_nil)))) (by with_unfolding_all rfl))))), vc_Cut_keeps⟩
theorem ok_Nearest_keeps (T : Txt K mg) : FnG P w K mg base 1 T.f_Nearest_keeps T.fd_Nearest_keeps ["self", "word"] sp_Nearest_keeps :=
  FunG.ok (N := N_Nearest_keeps) T.F_Nearest_keeps sc_Nearest_keeps len_Nearest_keeps fun cdv A outer s H E hA hr => ⟨t_Nearest_keeps, (by exact (dss_one (ds_ret (de_cmp oIn (de_var 1) (de_tup (da_cons de_str (da_cons de_str (da_cons de_str da_nil)))) (by with_unfolding_all rfl))))), vc_Nearest_keeps⟩
theorem ok_Then_keeps (T : Txt K mg) : ∀ d, FnG P w K mg base (2 + d) T.f_Then_keeps T.fd_Then_keeps ["self", "word"] (sp_Then_keeps d)
  | 0 => FnG.no no_Then_keeps
  | d + 1 => by
    have R := ok_Then_keeps T d
    exact FunG.ok (N := N_Then_keeps) T.F_Then_keeps sc_Then_keeps (len_Then_keeps (d + 1)) fun cdv A outer s H E hA hr => ⟨t_Then_keeps (sp_Then_keeps d), (by exact (dss_one (ds_ret (de_and (de_cmp oIn (de_var 1) (de_tup (da_cons de_str (da_cons de_str da_nil))) (by with_unfolding_all rfl)) (de_and (de_methV (k := (2 + d)) (MTab.cons T.g_Nearest T.k_Nearest T.ei_Nearest_keeps (ok_Nearest_keeps T) (by first | omega | (simp only [Nat.add_eq]; omega)) T.b_Nearest_keeps (MTab.cons T.g_Cut T.k_Cut T.ei_Cut_keeps (ok_Cut_keeps T) (by first | omega | (simp only [Nat.add_eq]; omega)) T.b_Cut_keeps (MTab.cons T.g_Up T.k_Up T.ei_Up_keeps (ok_Up_keeps T) (by first | omega | (simp only [Nat.add_eq]; omega)) T.b_Up_keeps (MTab.cons T.g_Down T.k_Down T.ei_Down_keeps (ok_Down_keeps T) (by first | omega | (simp only [Nat.add_eq]; omega)) T.b_Down_keeps (MTab.cons T.g_Sticky T.k_Sticky T.ei_Sticky_keeps (ok_Sticky_keeps T) (by first | omega | (simp only [Nat.add_eq]; omega)) T.b_Sticky_keeps (MTab.cons T.g_Grid T.k_Grid T.ei_Grid_keeps (ok_Grid_keeps T) (by first | omega | (simp only [Nat.add_eq]; omega)) T.b_Grid_keeps (MTab.cons T.g_Clamp T.k_Clamp T.ei_Clamp_keeps (ok_Clamp_keeps T) (by first | omega | (simp only [Nat.add_eq]; omega)) T.b_Clamp_keeps (MTab.cons T.g_Wrap T.k_Wrap T.ei_Wrap_keeps (ok_Wrap_keeps T) (by first | omega | (simp only [Nat.add_eq]; omega)) T.b_Wrap_keeps (MTab.cons T.g_Rounding T.k_Rounding T.ei_Rounding_keeps (ok_Rounding_keeps T) (by first | omega | (simp only [Nat.add_eq]; omega)) T.b_Rounding_keeps (MTab.cons T.g_Then T.k_Then T.ei_Then_keeps R (by first | omega | (simp only [Nat.add_eq]; omega)) T.b_Then_keeps MTab.nil)))))))))) hA (hr.mono (by first | omega | (simp only [Nat.add_eq]; omega))) (takes_of rfl rfl rfl rfl) (de_fld T.o_Then_first (de_var 0)) (da_cons (de_var 1) da_nil)) (de_one (de_methV (k := (2 + d)) (MTab.cons T.g_Nearest T.k_Nearest T.ei_Nearest_keeps (ok_Nearest_keeps T) (by first | omega | (simp only [Nat.add_eq]; omega)) T.b_Nearest_keeps (MTab.cons T.g_Cut T.k_Cut T.ei_Cut_keeps (ok_Cut_keeps T) (by first | omega | (simp only [Nat.add_eq]; omega)) T.b_Cut_keeps (MTab.cons T.g_Up T.k_Up T.ei_Up_keeps (ok_Up_keeps T) (by first | omega | (simp only [Nat.add_eq]; omega)) T.b_Up_keeps (MTab.cons T.g_Down T.k_Down T.ei_Down_keeps (ok_Down_keeps T) (by first | omega | (simp only [Nat.add_eq]; omega)) T.b_Down_keeps (MTab.cons T.g_Sticky T.k_Sticky T.ei_Sticky_keeps (ok_Sticky_keeps T) (by first | omega | (simp only [Nat.add_eq]; omega)) T.b_Sticky_keeps (MTab.cons T.g_Grid T.k_Grid T.ei_Grid_keeps (ok_Grid_keeps T) (by first | omega | (simp only [Nat.add_eq]; omega)) T.b_Grid_keeps (MTab.cons T.g_Clamp T.k_Clamp T.ei_Clamp_keeps (ok_Clamp_keeps T) (by first | omega | (simp only [Nat.add_eq]; omega)) T.b_Clamp_keeps (MTab.cons T.g_Wrap T.k_Wrap T.ei_Wrap_keeps (ok_Wrap_keeps T) (by first | omega | (simp only [Nat.add_eq]; omega)) T.b_Wrap_keeps (MTab.cons T.g_Rounding T.k_Rounding T.ei_Rounding_keeps (ok_Rounding_keeps T) (by first | omega | (simp only [Nat.add_eq]; omega)) T.b_Rounding_keeps (MTab.cons T.g_Then T.k_Then T.ei_Then_keeps R (by first | omega | (simp only [Nat.add_eq]; omega)) T.b_Then_keeps MTab.nil)))))))))) hA (hr.mono (by first | omega | (simp only [Nat.add_eq]; omega))) (takes_of rfl rfl rfl rfl) (de_fld T.o_Then_second (de_var 0)) (da_cons (de_var 1) da_nil)))))))), vc_Then_keeps d⟩
theorem ok_law_witness (T : Txt K mg) : FnG P w K mg base 1 T.f_law_witness T.fd_law_witness ["_law_spec_here", "_law_name"] sp_law_witness :=
  FunG.ok (N := N_law_witness) T.F_law_witness sc_law_witness len_law_witness fun cdv A outer s H E hA hr => ⟨t_law_witness, (by exact (dss_cons (ds_par (i := 2) (j := 3) rfl sc_law_witness.nd rfl rfl (by decide) rfl rfl (da_cons (de_ix (de_var 0) de_int) (da_cons (de_ix (de_var 0) de_int) da_nil)) (by rfl))
  (dss_cons (ds_if (dt_cmp (oEq (hu64 hr)) (de_var 2) de_str (nomark _))
  (dss_one (ds_ret (de_ifExp (dt_cmp (oEq (hu64 hr)) (de_var 1) de_str (nomark _)) (de_tup (da_cons (de_callB (cMax2 rfl) (by rfl) T.n_max (by decide +kernel) (da_cons de_int (da_cons (de_op oDiv (de_op oSub (de_var 3) de_int) de_int) da_nil))) (da_cons de_int da_nil))) (de_tup (da_cons de_int (da_cons (de_callB (cMax2 rfl) (by rfl) T.n_max (by decide +kernel) (da_cons de_int (da_cons (de_op oDiv (de_op oSub (de_var 3) de_int) de_int) da_nil))) da_nil))))))
  dss_nil)
  (dss_cons (ds_if (dt_cmp (oEq (hu64 hr)) (de_var 2) de_str (nomark _))
  (dss_one (ds_ret (de_dget (hu_of hr) (de_disp (dps_cons de_str (de_tup (da_cons (de_ix (de_var 0) de_int) (da_cons de_int da_nil))) (dps_cons de_str (de_tup (da_cons (de_op oAdd (de_ix (de_var 0) de_int) de_int) (da_cons (de_neg de_int) da_nil))) (dps_cons de_str (de_tup (da_cons (de_op oAdd (de_callB (cMax2 rfl) (by rfl) T.n_max (by decide +kernel) (da_cons (de_ix (de_var 0) de_int) (da_cons (de_op oSub de_int (de_var 3)) da_nil))) de_int) (da_cons de_int da_nil))) dps_nil)))) (de_var 1))))
  dss_nil)
  (dss_cons (ds_if (dt_cmp (oEq (hu64 hr)) (de_var 2) de_str (nomark _))
  (dss_cons (ds_set (i := 4) sc_law_witness.nd rfl (Or.inl rfl) (de_op oSub (de_op oAdd (de_ix (de_var 0) de_int) (de_var 3)) de_int))
  (dss_one (ds_ret (de_tup (da_cons (de_ifExp (DW.pt (dw_or (DW.pt (dw_and (dt_cmp (oEq (hu64 hr)) (de_var 1) de_str (nomark _)) (dw_and1 (dt_cmp oGt (de_var 4) de_int (nomark _))))) (dw_or1 (DW.pt (dw_and (dt_cmp (oEq (hu64 hr)) (de_var 1) de_str (nomark _)) (dw_and1 (dt_cmp oGt (de_op oAdd (de_ix (de_var 0) de_int) (de_var 4)) de_int (nomark _)))))))) (de_var 4) (de_ix (de_var 0) de_int)) (da_cons de_int da_nil))))))
  dss_nil)
  (dss_one (ds_ret (de_tup (da_cons (de_op oAdd (de_op oShl de_int (de_var 3)) de_int) (da_cons (de_op oSub de_int (de_op oShl de_int (de_var 3))) da_nil)))))))))), vc_law_witness⟩
theorem ok_Rounding_call (T : Txt K mg) : FnG P w K mg base 1 T.f_Rounding_call T.fd_Rounding_call ["self", "number"] sp_Rounding_call :=
  FunG.ok (N := N_Rounding_call) T.F_Rounding_call sc_Rounding_call len_Rounding_call fun cdv A outer s H E hA hr => ⟨t_Rounding_call, (by exact (dss_one (ds_ret (de_var 1)))), vc_Rounding_call⟩
theorem ok_Wrap_call (T : Txt K mg) : FnG P w K mg base 1 T.f_Wrap_call T.fd_Wrap_call ["self", "number"] sp_Wrap_call :=
  FunG.ok (N := N_Wrap_call) T.F_Wrap_call sc_Wrap_call len_Wrap_call fun cdv A outer s H E hA hr => ⟨t_Wrap_call, (by exact (dss_one (ds_ret (de_op oAdd (de_fld T.o_Wrap_low (de_var 0)) (de_op oMod (de_op oSub (de_var 1) (de_fld T.o_Wrap_low (de_var 0))) (de_fld T.o_Wrap_modulus (de_var 0))))))), vc_Wrap_call⟩
theorem ok_Clamp_call (T : Txt K mg) : FnG P w K mg base 1 T.f_Clamp_call T.fd_Clamp_call ["self", "number"] sp_Clamp_call :=
  FunG.ok (N := N_Clamp_call) T.F_Clamp_call sc_Clamp_call len_Clamp_call fun cdv A outer s H E hA hr => ⟨t_Clamp_call, (by exact (dss_one (ds_ret (de_callB (cMax2 rfl) (by rfl) T.n_max (by decide +kernel) (da_cons (de_fld T.o_Clamp_low (de_var 0)) (da_cons (de_callB (cMin2 rfl) (by rfl) T.n_min (by decide +kernel) (da_cons (de_fld T.o_Clamp_high (de_var 0)) (da_cons (de_var 1) da_nil))) da_nil)))))), vc_Clamp_call⟩
theorem ok_signed (T : Txt K mg) : FnG P w K mg base 1 T.f_signed T.fd_signed ["number", "size"] sp_signed :=
  FunG.ok (N := N_signed) T.F_signed sc_signed len_signed fun cdv A outer s H E hA hr => ⟨t_signed, (by exact (dss_one (ds_ret (de_ifExp (dt_cmp oLt (de_var 0) de_int (nomark _)) (de_op oSub de_int (de_var 1)) (de_var 1))))), vc_signed⟩
theorem ok_Grid_call (T : Txt K mg) : FnG P w K mg base 2 T.f_Grid_call T.fd_Grid_call ["self", "number"] sp_Grid_call :=
  FunG.ok (N := N_Grid_call) T.F_Grid_call sc_Grid_call len_Grid_call fun cdv A outer s H E hA hr => ⟨t_Grid_call, (by exact (dss_cons (ds_set (i := 2) sc_Grid_call.nd rfl (Or.inl rfl) (de_op oDiv (de_op oAdd (de_op oMul de_int (de_callB cAbs (by rfl) T.n_abs (by decide +kernel) (da_cons (de_var 1) da_nil))) (de_fld T.o_Grid_step (de_var 0))) (de_op oMul de_int (de_fld T.o_Grid_step (de_var 0)))))
  (dss_one (ds_ret (de_call (ok_signed T) hA (hr.mono (by decide)) (by rfl) T.m_signed T.F_signed.kp T.b_signed (takes_of rfl rfl rfl rfl) (da_cons (de_var 1) (da_cons (de_op oMul (de_var 2) (de_fld T.o_Grid_step (de_var 0))) da_nil))))))), vc_Grid_call⟩
theorem ok_unit_of (T : Txt K mg) : FnG P w K mg base 1 T.f_unit_of T.fd_unit_of ["size", "bits"] sp_unit_of :=
  FunG.ok (N := N_unit_of) T.F_unit_of sc_unit_of len_unit_of fun cdv A outer s H E hA hr => ⟨t_unit_of, (by exact (dss_one (ds_ret (de_op oShl de_int (de_callB (cMax2 rfl) (by rfl) T.n_max (by decide +kernel) (da_cons de_int (da_cons (de_op oSub (de_bits (de_var 0)) (de_var 1)) da_nil))))))), vc_unit_of⟩
theorem ok_Sticky_call (T : Txt K mg) : FnG P w K mg base 2 T.f_Sticky_call T.fd_Sticky_call ["self", "number"] sp_Sticky_call :=
  FunG.ok (N := N_Sticky_call) T.F_Sticky_call sc_Sticky_call len_Sticky_call fun cdv A outer s H E hA hr => ⟨t_Sticky_call, (by exact (dss_cons (ds_set (i := 2) sc_Sticky_call.nd rfl (Or.inl rfl) (de_callB cAbs (by rfl) T.n_abs (by decide +kernel) (da_cons (de_var 1) da_nil)))
  (dss_cons (ds_set (i := 3) sc_Sticky_call.nd rfl (Or.inl rfl) (de_call (ok_unit_of T) hA (hr.mono (by decide)) (by rfl) T.m_unit_of T.F_unit_of.kp T.b_unit_of (takes_of rfl rfl rfl rfl) (da_cons (de_var 2) (da_cons (de_fld T.o_Sticky_bits (de_var 0)) da_nil))))
  (dss_cons (ds_set (i := 4) sc_Sticky_call.nd rfl (Or.inl rfl) (de_op oDiv (de_var 2) (de_var 3)))
  (dss_cons (ds_if (DW.pt (dw_and (dt_cmp oLt (de_op oMul (de_var 4) (de_var 3)) (de_var 2) (nomark _)) (dw_and1 (dt_cmp (oEq (hu64 hr)) (de_op oMod (de_var 4) de_int) de_int (nomark _)))))
  (dss_one (ds_set (i := 4) sc_Sticky_call.nd rfl (Or.inl rfl) (de_op oAdd (de_var 4) de_int)))
  dss_nil)
  (dss_one (ds_ret (de_call (ok_signed T) hA (hr.mono (by decide)) (by rfl) T.m_signed T.F_signed.kp T.b_signed (takes_of rfl rfl rfl rfl) (da_cons (de_var 1) (da_cons (de_op oMul (de_var 4) (de_var 3)) da_nil)))))))))), vc_Sticky_call⟩
theorem ok_Down_call (T : Txt K mg) : FnG P w K mg base 2 T.f_Down_call T.fd_Down_call ["self", "number"] sp_Down_call :=
  FunG.ok (N := N_Down_call) T.F_Down_call sc_Down_call len_Down_call fun cdv A outer s H E hA hr => ⟨t_Down_call, (by exact (dss_cons (ds_set (i := 2) sc_Down_call.nd rfl (Or.inl rfl) (de_call (ok_unit_of T) hA (hr.mono (by decide)) (by rfl) T.m_unit_of T.F_unit_of.kp T.b_unit_of (takes_of rfl rfl rfl rfl) (da_cons (de_callB cAbs (by rfl) T.n_abs (by decide +kernel) (da_cons (de_var 1) da_nil)) (da_cons (de_fld T.o_Down_bits (de_var 0)) da_nil))))
  (dss_one (ds_ret (de_op oMul (de_op oDiv (de_var 1) (de_var 2)) (de_var 2)))))), vc_Down_call⟩
theorem ok_Up_call (T : Txt K mg) : FnG P w K mg base 2 T.f_Up_call T.fd_Up_call ["self", "number"] sp_Up_call :=
  FunG.ok (N := N_Up_call) T.F_Up_call sc_Up_call len_Up_call fun cdv A outer s H E hA hr => ⟨t_Up_call, (by exact (dss_cons (ds_set (i := 2) sc_Up_call.nd rfl (Or.inl rfl) (de_call (ok_unit_of T) hA (hr.mono (by decide)) (by rfl) T.m_unit_of T.F_unit_of.kp T.b_unit_of (takes_of rfl rfl rfl rfl) (da_cons (de_callB cAbs (by rfl) T.n_abs (by decide +kernel) (da_cons (de_var 1) da_nil)) (da_cons (de_fld T.o_Up_bits (de_var 0)) da_nil))))
  (dss_one (ds_ret (de_op oSub de_int (de_op oMul (de_op oDiv (de_op oSub de_int (de_var 1)) (de_var 2)) (de_var 2))))))), vc_Up_call⟩
theorem ok_Cut_call (T : Txt K mg) : FnG P w K mg base 2 T.f_Cut_call T.fd_Cut_call ["self", "number"] sp_Cut_call :=
  FunG.ok (N := N_Cut_call) T.F_Cut_call sc_Cut_call len_Cut_call fun cdv A outer s H E hA hr => ⟨t_Cut_call, (by exact (dss_cons (ds_set (i := 2) sc_Cut_call.nd rfl (Or.inl rfl) (de_callB cAbs (by rfl) T.n_abs (by decide +kernel) (da_cons (de_var 1) da_nil)))
  (dss_cons (ds_set (i := 3) sc_Cut_call.nd rfl (Or.inl rfl) (de_call (ok_unit_of T) hA (hr.mono (by decide)) (by rfl) T.m_unit_of T.F_unit_of.kp T.b_unit_of (takes_of rfl rfl rfl rfl) (da_cons (de_var 2) (da_cons (de_fld T.o_Cut_bits (de_var 0)) da_nil))))
  (dss_one (ds_ret (de_call (ok_signed T) hA (hr.mono (by decide)) (by rfl) T.m_signed T.F_signed.kp T.b_signed (takes_of rfl rfl rfl rfl) (da_cons (de_var 1) (da_cons (de_op oMul (de_op oDiv (de_var 2) (de_var 3)) (de_var 3)) da_nil)))))))), vc_Cut_call⟩
theorem ok_Nearest_call (T : Txt K mg) : FnG P w K mg base 2 T.f_Nearest_call T.fd_Nearest_call ["self", "number"] sp_Nearest_call :=
  FunG.ok (N := N_Nearest_call) T.F_Nearest_call sc_Nearest_call len_Nearest_call fun cdv A outer s H E hA hr => ⟨t_Nearest_call, (by exact (dss_cons (ds_set (i := 2) sc_Nearest_call.nd rfl (Or.inl rfl) (de_callB cAbs (by rfl) T.n_abs (by decide +kernel) (da_cons (de_var 1) da_nil)))
  (dss_cons (ds_set (i := 3) sc_Nearest_call.nd rfl (Or.inl rfl) (de_call (ok_unit_of T) hA (hr.mono (by decide)) (by rfl) T.m_unit_of T.F_unit_of.kp T.b_unit_of (takes_of rfl rfl rfl rfl) (da_cons (de_var 2) (da_cons (de_fld T.o_Nearest_bits (de_var 0)) da_nil))))
  (dss_cons (ds_set (i := 4) sc_Nearest_call.nd rfl (Or.inl rfl) (de_op oDiv (de_var 2) (de_var 3)))
  (dss_cons (ds_set (i := 5) sc_Nearest_call.nd rfl (Or.inl rfl) (de_op oMul de_int (de_op oSub (de_var 2) (de_op oMul (de_var 4) (de_var 3)))))
  (dss_cons (ds_if (DW.pt (dw_or (dt_cmp oGt (de_var 5) (de_var 3) (nomark _)) (dw_or1 (DW.pt (dw_and (dt_cmp (oEq (hu64 hr)) (de_var 5) (de_var 3) (nomark _)) (dw_and1 (dt_cmp (oEq (hu64 hr)) (de_op oMod (de_var 4) de_int) de_int (nomark _))))))))
  (dss_one (ds_set (i := 4) sc_Nearest_call.nd rfl (Or.inl rfl) (de_op oAdd (de_var 4) de_int)))
  dss_nil)
  (dss_one (ds_ret (de_call (ok_signed T) hA (hr.mono (by decide)) (by rfl) T.m_signed T.F_signed.kp T.b_signed (takes_of rfl rfl rfl rfl) (da_cons (de_var 1) (da_cons (de_op oMul (de_var 4) (de_var 3)) da_nil))))))))))), vc_Nearest_call⟩
theorem ok_Then_call (T : Txt K mg) : ∀ d, FnG P w K mg base (3 + d) T.f_Then_call T.fd_Then_call ["self", "number"] (sp_Then_call d)
  | 0 => FnG.no no_Then_call
  | d + 1 => by
    have R := ok_Then_call T d
    exact FunG.ok (N := N_Then_call) T.F_Then_call sc_Then_call (len_Then_call (d + 1)) fun cdv A outer s H E hA hr => ⟨t_Then_call (sp_Then_call d), (by exact (dss_one (ds_ret (de_callF (k := (3 + d)) T.o_Then_second (CTab.cons T.g_Nearest T.co_Nearest (ok_Nearest_call T) (by first | omega | (simp only [Nat.add_eq]; omega)) T.b_Nearest_call (CTab.cons T.g_Cut T.co_Cut (ok_Cut_call T) (by first | omega | (simp only [Nat.add_eq]; omega)) T.b_Cut_call (CTab.cons T.g_Up T.co_Up (ok_Up_call T) (by first | omega | (simp only [Nat.add_eq]; omega)) T.b_Up_call (CTab.cons T.g_Down T.co_Down (ok_Down_call T) (by first | omega | (simp only [Nat.add_eq]; omega)) T.b_Down_call (CTab.cons T.g_Sticky T.co_Sticky (ok_Sticky_call T) (by first | omega | (simp only [Nat.add_eq]; omega)) T.b_Sticky_call (CTab.cons T.g_Grid T.co_Grid (ok_Grid_call T) (by first | omega | (simp only [Nat.add_eq]; omega)) T.b_Grid_call (CTab.cons T.g_Clamp T.co_Clamp (ok_Clamp_call T) (by first | omega | (simp only [Nat.add_eq]; omega)) T.b_Clamp_call (CTab.cons T.g_Wrap T.co_Wrap (ok_Wrap_call T) (by first | omega | (simp only [Nat.add_eq]; omega)) T.b_Wrap_call (CTab.cons T.g_Rounding T.co_Rounding (ok_Rounding_call T) (by first | omega | (simp only [Nat.add_eq]; omega)) T.b_Rounding_call (CTab.cons T.g_Then T.co_Then R (by first | omega | (simp only [Nat.add_eq]; omega)) T.b_Then_call CTab.nil)))))))))) FTab.nil hA (hr.mono (by first | omega | (simp only [Nat.add_eq]; omega))) (takes_of rfl rfl rfl rfl) (de_var 0) (da_cons (de_callF (k := (3 + d)) T.o_Then_first (CTab.cons T.g_Nearest T.co_Nearest (ok_Nearest_call T) (by first | omega | (simp only [Nat.add_eq]; omega)) T.b_Nearest_call (CTab.cons T.g_Cut T.co_Cut (ok_Cut_call T) (by first | omega | (simp only [Nat.add_eq]; omega)) T.b_Cut_call (CTab.cons T.g_Up T.co_Up (ok_Up_call T) (by first | omega | (simp only [Nat.add_eq]; omega)) T.b_Up_call (CTab.cons T.g_Down T.co_Down (ok_Down_call T) (by first | omega | (simp only [Nat.add_eq]; omega)) T.b_Down_call (CTab.cons T.g_Sticky T.co_Sticky (ok_Sticky_call T) (by first | omega | (simp only [Nat.add_eq]; omega)) T.b_Sticky_call (CTab.cons T.g_Grid T.co_Grid (ok_Grid_call T) (by first | omega | (simp only [Nat.add_eq]; omega)) T.b_Grid_call (CTab.cons T.g_Clamp T.co_Clamp (ok_Clamp_call T) (by first | omega | (simp only [Nat.add_eq]; omega)) T.b_Clamp_call (CTab.cons T.g_Wrap T.co_Wrap (ok_Wrap_call T) (by first | omega | (simp only [Nat.add_eq]; omega)) T.b_Wrap_call (CTab.cons T.g_Rounding T.co_Rounding (ok_Rounding_call T) (by first | omega | (simp only [Nat.add_eq]; omega)) T.b_Rounding_call (CTab.cons T.g_Then T.co_Then R (by first | omega | (simp only [Nat.add_eq]; omega)) T.b_Then_call CTab.nil)))))))))) FTab.nil hA (hr.mono (by first | omega | (simp only [Nat.add_eq]; omega))) (takes_of rfl rfl rfl rfl) (de_var 0) (da_cons (de_var 1) da_nil)) da_nil))))), vc_Then_call d⟩
theorem ok_law_breaks (T : Txt K mg) : FnG P w K mg base 8 T.f_law_breaks T.fd_law_breaks ["_law_rounding", "_law_name", "_law_x", "_law_y"] sp_law_breaks :=
  FunG.ok (N := N_law_breaks) T.F_law_breaks sc_law_breaks len_law_breaks fun cdv A outer s H E hA hr => ⟨t_law_breaks, (by exact (dss_cons (ds_if (dt_cmp (oEq (hu64 hr)) (de_var 1) de_str (nomark _))
  (dss_one (ds_ret (de_cmp (oNe (hu64 hr)) (de_callV (k := 7) (CTab.cons T.g_Nearest T.co_Nearest (ok_Nearest_call T) (by decide) T.b_Nearest_call (CTab.cons T.g_Cut T.co_Cut (ok_Cut_call T) (by decide) T.b_Cut_call (CTab.cons T.g_Up T.co_Up (ok_Up_call T) (by decide) T.b_Up_call (CTab.cons T.g_Down T.co_Down (ok_Down_call T) (by decide) T.b_Down_call (CTab.cons T.g_Sticky T.co_Sticky (ok_Sticky_call T) (by decide) T.b_Sticky_call (CTab.cons T.g_Grid T.co_Grid (ok_Grid_call T) (by decide) T.b_Grid_call (CTab.cons T.g_Clamp T.co_Clamp (ok_Clamp_call T) (by decide) T.b_Clamp_call (CTab.cons T.g_Wrap T.co_Wrap (ok_Wrap_call T) (by decide) T.b_Wrap_call (CTab.cons T.g_Rounding T.co_Rounding (ok_Rounding_call T) (by decide) T.b_Rounding_call (CTab.cons T.g_Then T.co_Then (ok_Then_call T 4) (by decide) T.b_Then_call CTab.nil)))))))))) FTab.nil hA (hr.mono (by decide)) (takes_of rfl rfl rfl rfl) (de_var 0) (da_cons (de_op oSub de_int (de_var 2)) da_nil)) (de_op oSub de_int (de_callV (k := 7) (CTab.cons T.g_Nearest T.co_Nearest (ok_Nearest_call T) (by decide) T.b_Nearest_call (CTab.cons T.g_Cut T.co_Cut (ok_Cut_call T) (by decide) T.b_Cut_call (CTab.cons T.g_Up T.co_Up (ok_Up_call T) (by decide) T.b_Up_call (CTab.cons T.g_Down T.co_Down (ok_Down_call T) (by decide) T.b_Down_call (CTab.cons T.g_Sticky T.co_Sticky (ok_Sticky_call T) (by decide) T.b_Sticky_call (CTab.cons T.g_Grid T.co_Grid (ok_Grid_call T) (by decide) T.b_Grid_call (CTab.cons T.g_Clamp T.co_Clamp (ok_Clamp_call T) (by decide) T.b_Clamp_call (CTab.cons T.g_Wrap T.co_Wrap (ok_Wrap_call T) (by decide) T.b_Wrap_call (CTab.cons T.g_Rounding T.co_Rounding (ok_Rounding_call T) (by decide) T.b_Rounding_call (CTab.cons T.g_Then T.co_Then (ok_Then_call T 4) (by decide) T.b_Then_call CTab.nil)))))))))) FTab.nil hA (hr.mono (by decide)) (takes_of rfl rfl rfl rfl) (de_var 0) (da_cons (de_var 2) da_nil))) (nomark _))))
  dss_nil)
  (dss_cons (ds_if (dt_cmp (oEq (hu64 hr)) (de_var 1) de_str (nomark _))
  (dss_one (ds_ret (de_cmp (oNe (hu64 hr)) (de_callV (k := 7) (CTab.cons T.g_Nearest T.co_Nearest (ok_Nearest_call T) (by decide) T.b_Nearest_call (CTab.cons T.g_Cut T.co_Cut (ok_Cut_call T) (by decide) T.b_Cut_call (CTab.cons T.g_Up T.co_Up (ok_Up_call T) (by decide) T.b_Up_call (CTab.cons T.g_Down T.co_Down (ok_Down_call T) (by decide) T.b_Down_call (CTab.cons T.g_Sticky T.co_Sticky (ok_Sticky_call T) (by decide) T.b_Sticky_call (CTab.cons T.g_Grid T.co_Grid (ok_Grid_call T) (by decide) T.b_Grid_call (CTab.cons T.g_Clamp T.co_Clamp (ok_Clamp_call T) (by decide) T.b_Clamp_call (CTab.cons T.g_Wrap T.co_Wrap (ok_Wrap_call T) (by decide) T.b_Wrap_call (CTab.cons T.g_Rounding T.co_Rounding (ok_Rounding_call T) (by decide) T.b_Rounding_call (CTab.cons T.g_Then T.co_Then (ok_Then_call T 4) (by decide) T.b_Then_call CTab.nil)))))))))) FTab.nil hA (hr.mono (by decide)) (takes_of rfl rfl rfl rfl) (de_var 0) (da_cons (de_op oMul de_int (de_var 2)) da_nil)) (de_op oMul de_int (de_callV (k := 7) (CTab.cons T.g_Nearest T.co_Nearest (ok_Nearest_call T) (by decide) T.b_Nearest_call (CTab.cons T.g_Cut T.co_Cut (ok_Cut_call T) (by decide) T.b_Cut_call (CTab.cons T.g_Up T.co_Up (ok_Up_call T) (by decide) T.b_Up_call (CTab.cons T.g_Down T.co_Down (ok_Down_call T) (by decide) T.b_Down_call (CTab.cons T.g_Sticky T.co_Sticky (ok_Sticky_call T) (by decide) T.b_Sticky_call (CTab.cons T.g_Grid T.co_Grid (ok_Grid_call T) (by decide) T.b_Grid_call (CTab.cons T.g_Clamp T.co_Clamp (ok_Clamp_call T) (by decide) T.b_Clamp_call (CTab.cons T.g_Wrap T.co_Wrap (ok_Wrap_call T) (by decide) T.b_Wrap_call (CTab.cons T.g_Rounding T.co_Rounding (ok_Rounding_call T) (by decide) T.b_Rounding_call (CTab.cons T.g_Then T.co_Then (ok_Then_call T 4) (by decide) T.b_Then_call CTab.nil)))))))))) FTab.nil hA (hr.mono (by decide)) (takes_of rfl rfl rfl rfl) (de_var 0) (da_cons (de_var 2) da_nil))) (nomark _))))
  dss_nil)
  (dss_cons (ds_if (dt_cmp (oEq (hu64 hr)) (de_var 1) de_str (nomark _))
  (dss_one (ds_ret (de_cmp (oNe (hu64 hr)) (de_callV (k := 7) (CTab.cons T.g_Nearest T.co_Nearest (ok_Nearest_call T) (by decide) T.b_Nearest_call (CTab.cons T.g_Cut T.co_Cut (ok_Cut_call T) (by decide) T.b_Cut_call (CTab.cons T.g_Up T.co_Up (ok_Up_call T) (by decide) T.b_Up_call (CTab.cons T.g_Down T.co_Down (ok_Down_call T) (by decide) T.b_Down_call (CTab.cons T.g_Sticky T.co_Sticky (ok_Sticky_call T) (by decide) T.b_Sticky_call (CTab.cons T.g_Grid T.co_Grid (ok_Grid_call T) (by decide) T.b_Grid_call (CTab.cons T.g_Clamp T.co_Clamp (ok_Clamp_call T) (by decide) T.b_Clamp_call (CTab.cons T.g_Wrap T.co_Wrap (ok_Wrap_call T) (by decide) T.b_Wrap_call (CTab.cons T.g_Rounding T.co_Rounding (ok_Rounding_call T) (by decide) T.b_Rounding_call (CTab.cons T.g_Then T.co_Then (ok_Then_call T 4) (by decide) T.b_Then_call CTab.nil)))))))))) FTab.nil hA (hr.mono (by decide)) (takes_of rfl rfl rfl rfl) (de_var 0) (da_cons (de_callV (k := 7) (CTab.cons T.g_Nearest T.co_Nearest (ok_Nearest_call T) (by decide) T.b_Nearest_call (CTab.cons T.g_Cut T.co_Cut (ok_Cut_call T) (by decide) T.b_Cut_call (CTab.cons T.g_Up T.co_Up (ok_Up_call T) (by decide) T.b_Up_call (CTab.cons T.g_Down T.co_Down (ok_Down_call T) (by decide) T.b_Down_call (CTab.cons T.g_Sticky T.co_Sticky (ok_Sticky_call T) (by decide) T.b_Sticky_call (CTab.cons T.g_Grid T.co_Grid (ok_Grid_call T) (by decide) T.b_Grid_call (CTab.cons T.g_Clamp T.co_Clamp (ok_Clamp_call T) (by decide) T.b_Clamp_call (CTab.cons T.g_Wrap T.co_Wrap (ok_Wrap_call T) (by decide) T.b_Wrap_call (CTab.cons T.g_Rounding T.co_Rounding (ok_Rounding_call T) (by decide) T.b_Rounding_call (CTab.cons T.g_Then T.co_Then (ok_Then_call T 4) (by decide) T.b_Then_call CTab.nil)))))))))) FTab.nil hA (hr.mono (by decide)) (takes_of rfl rfl rfl rfl) (de_var 0) (da_cons (de_var 2) da_nil)) da_nil)) (de_callV (k := 7) (CTab.cons T.g_Nearest T.co_Nearest (ok_Nearest_call T) (by decide) T.b_Nearest_call (CTab.cons T.g_Cut T.co_Cut (ok_Cut_call T) (by decide) T.b_Cut_call (CTab.cons T.g_Up T.co_Up (ok_Up_call T) (by decide) T.b_Up_call (CTab.cons T.g_Down T.co_Down (ok_Down_call T) (by decide) T.b_Down_call (CTab.cons T.g_Sticky T.co_Sticky (ok_Sticky_call T) (by decide) T.b_Sticky_call (CTab.cons T.g_Grid T.co_Grid (ok_Grid_call T) (by decide) T.b_Grid_call (CTab.cons T.g_Clamp T.co_Clamp (ok_Clamp_call T) (by decide) T.b_Clamp_call (CTab.cons T.g_Wrap T.co_Wrap (ok_Wrap_call T) (by decide) T.b_Wrap_call (CTab.cons T.g_Rounding T.co_Rounding (ok_Rounding_call T) (by decide) T.b_Rounding_call (CTab.cons T.g_Then T.co_Then (ok_Then_call T 4) (by decide) T.b_Then_call CTab.nil)))))))))) FTab.nil hA (hr.mono (by decide)) (takes_of rfl rfl rfl rfl) (de_var 0) (da_cons (de_var 2) da_nil)) (nomark _))))
  dss_nil)
  (dss_one (ds_ret (de_cmp (oNe (hu64 hr)) (de_callV (k := 7) (CTab.cons T.g_Nearest T.co_Nearest (ok_Nearest_call T) (by decide) T.b_Nearest_call (CTab.cons T.g_Cut T.co_Cut (ok_Cut_call T) (by decide) T.b_Cut_call (CTab.cons T.g_Up T.co_Up (ok_Up_call T) (by decide) T.b_Up_call (CTab.cons T.g_Down T.co_Down (ok_Down_call T) (by decide) T.b_Down_call (CTab.cons T.g_Sticky T.co_Sticky (ok_Sticky_call T) (by decide) T.b_Sticky_call (CTab.cons T.g_Grid T.co_Grid (ok_Grid_call T) (by decide) T.b_Grid_call (CTab.cons T.g_Clamp T.co_Clamp (ok_Clamp_call T) (by decide) T.b_Clamp_call (CTab.cons T.g_Wrap T.co_Wrap (ok_Wrap_call T) (by decide) T.b_Wrap_call (CTab.cons T.g_Rounding T.co_Rounding (ok_Rounding_call T) (by decide) T.b_Rounding_call (CTab.cons T.g_Then T.co_Then (ok_Then_call T 4) (by decide) T.b_Then_call CTab.nil)))))))))) FTab.nil hA (hr.mono (by decide)) (takes_of rfl rfl rfl rfl) (de_var 0) (da_cons (de_op oAdd (de_callV (k := 7) (CTab.cons T.g_Nearest T.co_Nearest (ok_Nearest_call T) (by decide) T.b_Nearest_call (CTab.cons T.g_Cut T.co_Cut (ok_Cut_call T) (by decide) T.b_Cut_call (CTab.cons T.g_Up T.co_Up (ok_Up_call T) (by decide) T.b_Up_call (CTab.cons T.g_Down T.co_Down (ok_Down_call T) (by decide) T.b_Down_call (CTab.cons T.g_Sticky T.co_Sticky (ok_Sticky_call T) (by decide) T.b_Sticky_call (CTab.cons T.g_Grid T.co_Grid (ok_Grid_call T) (by decide) T.b_Grid_call (CTab.cons T.g_Clamp T.co_Clamp (ok_Clamp_call T) (by decide) T.b_Clamp_call (CTab.cons T.g_Wrap T.co_Wrap (ok_Wrap_call T) (by decide) T.b_Wrap_call (CTab.cons T.g_Rounding T.co_Rounding (ok_Rounding_call T) (by decide) T.b_Rounding_call (CTab.cons T.g_Then T.co_Then (ok_Then_call T 4) (by decide) T.b_Then_call CTab.nil)))))))))) FTab.nil hA (hr.mono (by decide)) (takes_of rfl rfl rfl rfl) (de_var 0) (da_cons (de_var 2) da_nil)) (de_var 3)) da_nil)) (de_callV (k := 7) (CTab.cons T.g_Nearest T.co_Nearest (ok_Nearest_call T) (by decide) T.b_Nearest_call (CTab.cons T.g_Cut T.co_Cut (ok_Cut_call T) (by decide) T.b_Cut_call (CTab.cons T.g_Up T.co_Up (ok_Up_call T) (by decide) T.b_Up_call (CTab.cons T.g_Down T.co_Down (ok_Down_call T) (by decide) T.b_Down_call (CTab.cons T.g_Sticky T.co_Sticky (ok_Sticky_call T) (by decide) T.b_Sticky_call (CTab.cons T.g_Grid T.co_Grid (ok_Grid_call T) (by decide) T.b_Grid_call (CTab.cons T.g_Clamp T.co_Clamp (ok_Clamp_call T) (by decide) T.b_Clamp_call (CTab.cons T.g_Wrap T.co_Wrap (ok_Wrap_call T) (by decide) T.b_Wrap_call (CTab.cons T.g_Rounding T.co_Rounding (ok_Rounding_call T) (by decide) T.b_Rounding_call (CTab.cons T.g_Then T.co_Then (ok_Then_call T 4) (by decide) T.b_Then_call CTab.nil)))))))))) FTab.nil hA (hr.mono (by decide)) (takes_of rfl rfl rfl rfl) (de_var 0) (da_cons (de_op oAdd (de_var 2) (de_var 3)) da_nil)) (nomark _)))))))), vc_law_breaks⟩
theorem ok_law_told_right (T : Txt K mg) : FnG P w K mg base 9 T.f_law_told_right T.fd_law_told_right ["_law_spec_here", "_law_made"] sp_law_told_right :=
  FunG.ok (N := N_law_told_right) T.F_law_told_right sc_law_told_right len_law_told_right fun cdv A outer s H E hA hr => ⟨t_law_told_right, (by exact (dss_cons (ds_set (i := 2) sc_law_told_right.nd rfl (Or.inr rfl) (de_call (ok_law_kept T 4) hA (hr.mono (by decide)) (by rfl) T.m_law_kept T.F_law_kept.kp T.b_law_kept (takes_of rfl rfl rfl rfl) (da_cons (de_var 0) da_nil)))
  (dss_cons (ds_for (passes_of rfl) rfl (di_sq (de_tup (da_cons de_str (da_cons de_str (da_cons de_str (da_cons de_str da_nil)))))) (dg_name sc_law_told_right.nd (i := 3) rfl (Or.inr rfl))
  (dss_cons (ds_set (i := 4) sc_law_told_right.nd rfl (Or.inl rfl) (de_lst (da_cons (de_methV (k := 6) (MTab.cons T.g_Nearest T.k_Nearest T.ei_Nearest_keeps (ok_Nearest_keeps T) (by decide) T.b_Nearest_keeps (MTab.cons T.g_Cut T.k_Cut T.ei_Cut_keeps (ok_Cut_keeps T) (by decide) T.b_Cut_keeps (MTab.cons T.g_Up T.k_Up T.ei_Up_keeps (ok_Up_keeps T) (by decide) T.b_Up_keeps (MTab.cons T.g_Down T.k_Down T.ei_Down_keeps (ok_Down_keeps T) (by decide) T.b_Down_keeps (MTab.cons T.g_Sticky T.k_Sticky T.ei_Sticky_keeps (ok_Sticky_keeps T) (by decide) T.b_Sticky_keeps (MTab.cons T.g_Grid T.k_Grid T.ei_Grid_keeps (ok_Grid_keeps T) (by decide) T.b_Grid_keeps (MTab.cons T.g_Clamp T.k_Clamp T.ei_Clamp_keeps (ok_Clamp_keeps T) (by decide) T.b_Clamp_keeps (MTab.cons T.g_Wrap T.k_Wrap T.ei_Wrap_keeps (ok_Wrap_keeps T) (by decide) T.b_Wrap_keeps (MTab.cons T.g_Rounding T.k_Rounding T.ei_Rounding_keeps (ok_Rounding_keeps T) (by decide) T.b_Rounding_keeps (MTab.cons T.g_Then T.k_Then T.ei_Then_keeps (ok_Then_keeps T 4) (by decide) T.b_Then_keeps MTab.nil)))))))))) hA (hr.mono (by decide)) (takes_of rfl rfl rfl rfl) (de_var 1) (da_cons (de_var 3) da_nil)) (da_cons (de_methVK0 (k := 6) (ks := ["word"]) (MTabK.cons T.g_Nearest T.k_Nearest T.ei_Nearest_keeps (ok_Nearest_keeps T) (by decide) T.kb_Nearest_keeps_1_word (MTabK.cons T.g_Cut T.k_Cut T.ei_Cut_keeps (ok_Cut_keeps T) (by decide) T.kb_Cut_keeps_1_word (MTabK.cons T.g_Up T.k_Up T.ei_Up_keeps (ok_Up_keeps T) (by decide) T.kb_Up_keeps_1_word (MTabK.cons T.g_Down T.k_Down T.ei_Down_keeps (ok_Down_keeps T) (by decide) T.kb_Down_keeps_1_word (MTabK.cons T.g_Sticky T.k_Sticky T.ei_Sticky_keeps (ok_Sticky_keeps T) (by decide) T.kb_Sticky_keeps_1_word (MTabK.cons T.g_Grid T.k_Grid T.ei_Grid_keeps (ok_Grid_keeps T) (by decide) T.kb_Grid_keeps_1_word (MTabK.cons T.g_Clamp T.k_Clamp T.ei_Clamp_keeps (ok_Clamp_keeps T) (by decide) T.kb_Clamp_keeps_1_word (MTabK.cons T.g_Wrap T.k_Wrap T.ei_Wrap_keeps (ok_Wrap_keeps T) (by decide) T.kb_Wrap_keeps_1_word (MTabK.cons T.g_Rounding T.k_Rounding T.ei_Rounding_keeps (ok_Rounding_keeps T) (by decide) T.kb_Rounding_keeps_1_word (MTabK.cons T.g_Then T.k_Then T.ei_Then_keeps (ok_Then_keeps T 4) (by decide) T.kb_Then_keeps_1_word MTabK.nil)))))))))) hA (hr.mono (by decide)) (takes_of rfl rfl rfl rfl) (de_var 1) (dk_cons (de_var 3) dk_nil)) da_nil))))
  (dss_cons (ds_if (dt_cmp (oNe (hu64 hr)) (de_lc (own := [("_law_one_here", 7)]) true (.nm 7) rfl sc_law_told_right.nd (di_sq (de_var 4)) (blkOk_by (N := N_law_told_right) (sc := defScope s_law_told_right) (by decide +kernel)) (by decide) (fun _ _ _ _ _ => by exact (pg_name (i := 7) sc_law_told_right.nd rfl (Or.inl rfl))) (fun _ _ _ _ _ => by exact (dts_one (DW.pt (dw_or (dt_not (dt_tru (de_callB cIsi (by rfl) T.n_isinstance (by decide +kernel) (da_cons (de_var 7) (da_cons (de_bltn (by rfl) T.n_bool (by decide +kernel)) da_nil))))) (dw_or1 (dt_cmp (oNe (hu64 hr)) (de_var 7) (de_cmp oIn (de_var 3) (de_var 2) (by with_unfolding_all rfl)) (nomark _))))))) (fun _ _ _ _ _ => by exact (de_var 7))) (de_lst da_nil) (nomark _))
  (dss_one (ds_ret de_bl))
  dss_nil)
  (dss_one (ds_if (DW.pt (dw_and (dt_cmp oNotIn (de_var 3) (de_var 2) (by with_unfolding_all rfl)) (dw_and1 (dt_cmp (oNe (hu64 hr)) (de_ix (de_var 0) de_int) de_str (nomark _)))))
  (dss_cons (ds_asg (de_call (ok_law_witness T) hA (hr.mono (by decide)) (by rfl) T.m_law_witness T.F_law_witness.kp T.b_law_witness (takes_of rfl rfl rfl rfl) (da_cons (de_var 0) (da_cons (de_var 3) da_nil))) (dg_tup rfl (dgs_cons (dg_name sc_law_told_right.nd (i := 5) rfl (Or.inl rfl)) (dgs_cons (dg_name sc_law_told_right.nd (i := 6) rfl (Or.inl rfl)) dgs_nil))))
  (dss_one (ds_if (dt_not (dt_tru (de_call (ok_law_breaks T) hA (hr.mono (by decide)) (by rfl) T.m_law_breaks T.F_law_breaks.kp T.b_law_breaks (takes_of rfl rfl rfl rfl) (da_cons (de_var 1) (da_cons (de_var 3) (da_cons (de_var 5) (da_cons (de_var 6) da_nil)))))))
  (dss_one (ds_ret de_bl))
  dss_nil)))
  dss_nil)))))
  (dss_one (ds_ret de_bl))))), vc_law_told_right⟩
theorem ok_law_held (T : Txt K mg) : FnG P w K mg base 9 T.f_law_held T.fd_law_held ["_law_made", "_law_pairs_here"] sp_law_held :=
  FunG.ok (N := N_law_held) T.F_law_held sc_law_held len_law_held fun cdv A outer s H E hA hr => ⟨t_law_held, (by exact (dss_cons (ds_for (passes_of rfl) rfl (di_sq (de_tup (da_cons de_str (da_cons de_str (da_cons de_str (da_cons de_str da_nil)))))) (dg_name sc_law_held.nd (i := 2) rfl (Or.inr rfl))
  (dss_cons (ds_setLc (own := [("_law_x", 4), ("_law_y", 5)]) (i := 3) rfl sc_law_held.nd rfl rfl (sw_true rfl rfl rfl (by decide +kernel)) true (.tp [(.nm 4), (.nm 5)]) (di_sq (de_var 1)) (blkOk_by (N := N_law_held) (sc := defScope s_law_held) (by decide +kernel)) (by decide) (fun _ _ _ _ _ => by exact (pg_tup rfl (pgs_cons (pg_name (i := 4) sc_law_held.nd rfl (Or.inl rfl)) (pgs_cons (pg_name (i := 5) sc_law_held.nd rfl (Or.inl rfl)) pgs_nil)))) (fun _ _ _ _ _ => by exact (dts_one (dt_tru (de_call (ok_law_breaks T) hA (hr.mono (by decide)) (by rfl) T.m_law_breaks T.F_law_breaks.kp T.b_law_breaks takes0 (da_cons (de_var 0) (da_cons (de_var 2) (da_cons (de_var 4) (da_cons (de_var 5) da_nil)))))))) (fun _ _ _ _ _ => by exact (de_var 4)))
  (dss_one (ds_if (DW.pt (dw_and (dt_tru (de_methV (k := 6) (MTab.cons T.g_Nearest T.k_Nearest T.ei_Nearest_keeps (ok_Nearest_keeps T) (by decide) T.b_Nearest_keeps (MTab.cons T.g_Cut T.k_Cut T.ei_Cut_keeps (ok_Cut_keeps T) (by decide) T.b_Cut_keeps (MTab.cons T.g_Up T.k_Up T.ei_Up_keeps (ok_Up_keeps T) (by decide) T.b_Up_keeps (MTab.cons T.g_Down T.k_Down T.ei_Down_keeps (ok_Down_keeps T) (by decide) T.b_Down_keeps (MTab.cons T.g_Sticky T.k_Sticky T.ei_Sticky_keeps (ok_Sticky_keeps T) (by decide) T.b_Sticky_keeps (MTab.cons T.g_Grid T.k_Grid T.ei_Grid_keeps (ok_Grid_keeps T) (by decide) T.b_Grid_keeps (MTab.cons T.g_Clamp T.k_Clamp T.ei_Clamp_keeps (ok_Clamp_keeps T) (by decide) T.b_Clamp_keeps (MTab.cons T.g_Wrap T.k_Wrap T.ei_Wrap_keeps (ok_Wrap_keeps T) (by decide) T.b_Wrap_keeps (MTab.cons T.g_Rounding T.k_Rounding T.ei_Rounding_keeps (ok_Rounding_keeps T) (by decide) T.b_Rounding_keeps (MTab.cons T.g_Then T.k_Then T.ei_Then_keeps (ok_Then_keeps T 4) (by decide) T.b_Then_keeps MTab.nil)))))))))) hA (hr.mono (by decide)) (takes_of rfl rfl rfl rfl) (de_var 0) (da_cons (de_var 2) da_nil))) (dw_and1 (dt_cmp (oNe (hu64 hr)) (de_var 3) (de_lst da_nil) (nomark _)))))
  (dss_one (ds_ret de_bl))
  dss_nil))))
  (dss_cons (ds_setLc (own := [("_law_x", 4), ("_law_y", 5)]) (i := 3) rfl sc_law_held.nd rfl rfl (sw_true rfl rfl rfl (by decide +kernel)) true (.tp [(.nm 4), (.nm 5)]) (di_sq (de_var 1)) (blkOk_by (N := N_law_held) (sc := defScope s_law_held) (by decide +kernel)) (by decide) (fun _ _ _ _ _ => by exact (pg_tup rfl (pgs_cons (pg_name (i := 4) sc_law_held.nd rfl (Or.inl rfl)) (pgs_cons (pg_name (i := 5) sc_law_held.nd rfl (Or.inl rfl)) pgs_nil)))) (fun _ _ _ _ _ => by exact (dts_one (dt_cmp (oNe (hu64 hr)) (de_callV (k := 7) (CTab.cons T.g_Nearest T.co_Nearest (ok_Nearest_call T) (by decide) T.b_Nearest_call (CTab.cons T.g_Cut T.co_Cut (ok_Cut_call T) (by decide) T.b_Cut_call (CTab.cons T.g_Up T.co_Up (ok_Up_call T) (by decide) T.b_Up_call (CTab.cons T.g_Down T.co_Down (ok_Down_call T) (by decide) T.b_Down_call (CTab.cons T.g_Sticky T.co_Sticky (ok_Sticky_call T) (by decide) T.b_Sticky_call (CTab.cons T.g_Grid T.co_Grid (ok_Grid_call T) (by decide) T.b_Grid_call (CTab.cons T.g_Clamp T.co_Clamp (ok_Clamp_call T) (by decide) T.b_Clamp_call (CTab.cons T.g_Wrap T.co_Wrap (ok_Wrap_call T) (by decide) T.b_Wrap_call (CTab.cons T.g_Rounding T.co_Rounding (ok_Rounding_call T) (by decide) T.b_Rounding_call (CTab.cons T.g_Then T.co_Then (ok_Then_call T 4) (by decide) T.b_Then_call CTab.nil)))))))))) FTab.nil hA (hr.mono (by decide)) takes0 (de_var 0) (da_cons (de_op oMul (de_callV (k := 7) (CTab.cons T.g_Nearest T.co_Nearest (ok_Nearest_call T) (by decide) T.b_Nearest_call (CTab.cons T.g_Cut T.co_Cut (ok_Cut_call T) (by decide) T.b_Cut_call (CTab.cons T.g_Up T.co_Up (ok_Up_call T) (by decide) T.b_Up_call (CTab.cons T.g_Down T.co_Down (ok_Down_call T) (by decide) T.b_Down_call (CTab.cons T.g_Sticky T.co_Sticky (ok_Sticky_call T) (by decide) T.b_Sticky_call (CTab.cons T.g_Grid T.co_Grid (ok_Grid_call T) (by decide) T.b_Grid_call (CTab.cons T.g_Clamp T.co_Clamp (ok_Clamp_call T) (by decide) T.b_Clamp_call (CTab.cons T.g_Wrap T.co_Wrap (ok_Wrap_call T) (by decide) T.b_Wrap_call (CTab.cons T.g_Rounding T.co_Rounding (ok_Rounding_call T) (by decide) T.b_Rounding_call (CTab.cons T.g_Then T.co_Then (ok_Then_call T 4) (by decide) T.b_Then_call CTab.nil)))))))))) FTab.nil hA (hr.mono (by decide)) takes0 (de_var 0) (da_cons (de_var 4) da_nil)) (de_var 5)) da_nil)) (de_callV (k := 7) (CTab.cons T.g_Nearest T.co_Nearest (ok_Nearest_call T) (by decide) T.b_Nearest_call (CTab.cons T.g_Cut T.co_Cut (ok_Cut_call T) (by decide) T.b_Cut_call (CTab.cons T.g_Up T.co_Up (ok_Up_call T) (by decide) T.b_Up_call (CTab.cons T.g_Down T.co_Down (ok_Down_call T) (by decide) T.b_Down_call (CTab.cons T.g_Sticky T.co_Sticky (ok_Sticky_call T) (by decide) T.b_Sticky_call (CTab.cons T.g_Grid T.co_Grid (ok_Grid_call T) (by decide) T.b_Grid_call (CTab.cons T.g_Clamp T.co_Clamp (ok_Clamp_call T) (by decide) T.b_Clamp_call (CTab.cons T.g_Wrap T.co_Wrap (ok_Wrap_call T) (by decide) T.b_Wrap_call (CTab.cons T.g_Rounding T.co_Rounding (ok_Rounding_call T) (by decide) T.b_Rounding_call (CTab.cons T.g_Then T.co_Then (ok_Then_call T 4) (by decide) T.b_Then_call CTab.nil)))))))))) FTab.nil hA (hr.mono (by decide)) takes0 (de_var 0) (da_cons (de_op oMul (de_var 4) (de_var 5)) da_nil)) (nomark _)))) (fun _ _ _ _ _ => by exact (de_var 4)))
  (dss_one (ds_ret (de_or (de_cmp (oEq (hu64 hr)) (de_var 3) (de_lst da_nil) (nomark _)) (de_one (de_not (de_methV (k := 6) (MTab.cons T.g_Nearest T.k_Nearest T.ei_Nearest_keeps (ok_Nearest_keeps T) (by decide) T.b_Nearest_keeps (MTab.cons T.g_Cut T.k_Cut T.ei_Cut_keeps (ok_Cut_keeps T) (by decide) T.b_Cut_keeps (MTab.cons T.g_Up T.k_Up T.ei_Up_keeps (ok_Up_keeps T) (by decide) T.b_Up_keeps (MTab.cons T.g_Down T.k_Down T.ei_Down_keeps (ok_Down_keeps T) (by decide) T.b_Down_keeps (MTab.cons T.g_Sticky T.k_Sticky T.ei_Sticky_keeps (ok_Sticky_keeps T) (by decide) T.b_Sticky_keeps (MTab.cons T.g_Grid T.k_Grid T.ei_Grid_keeps (ok_Grid_keeps T) (by decide) T.b_Grid_keeps (MTab.cons T.g_Clamp T.k_Clamp T.ei_Clamp_keeps (ok_Clamp_keeps T) (by decide) T.b_Clamp_keeps (MTab.cons T.g_Wrap T.k_Wrap T.ei_Wrap_keeps (ok_Wrap_keeps T) (by decide) T.b_Wrap_keeps (MTab.cons T.g_Rounding T.k_Rounding T.ei_Rounding_keeps (ok_Rounding_keeps T) (by decide) T.b_Rounding_keeps (MTab.cons T.g_Then T.k_Then T.ei_Then_keeps (ok_Then_keeps T 4) (by decide) T.b_Then_keeps MTab.nil)))))))))) hA (hr.mono (by decide)) (takes_of rfl rfl rfl rfl) (de_var 0) (da_cons de_str da_nil)))))))))), vc_law_held⟩
theorem ok_law (T : Txt K mg) : FnG P w K mg base 10 T.f_law T.fd_law ["_law_script"] sp_law :=
  FunG.ok (N := N_law) T.F_law sc_law len_law fun cdv A outer s H E hA hr => ⟨t_law, (by exact (dss_cons (ds_set (i := 1) sc_law.nd rfl (Or.inl rfl) (de_call (ok_law_deck T) hA (hr.mono (by decide)) (by rfl) T.m_law_deck T.F_law_deck.kp T.b_law_deck (takes_of rfl rfl rfl rfl) (da_cons (de_var 0) da_nil)))
  (dss_cons (ds_for (passes_of rfl) rfl (di_rng1 (by rfl) T.n_range (da_cons de_int da_nil)) (dg_name sc_law.nd (i := 2) rfl (Or.inl rfl))
  (dss_cons (ds_set (i := 4) sc_law.nd rfl (Or.inr rfl) (de_call (ok_law_spec T 3) hA (hr.mono (by decide)) (by rfl) T.m_law_spec T.F_law_spec.kp T.b_law_spec (takes_of rfl rfl rfl rfl) (da_cons (de_var 1) (da_cons de_int da_nil))))
  (dss_cons (ds_asg (de_tup (da_cons (de_call (ok_law_built T 4) hA (hr.mono (by decide)) (by rfl) T.m_law_built T.F_law_built.kp T.b_law_built (takes_of rfl rfl rfl rfl) (da_cons (de_var 4) da_nil)) (da_cons (de_call (ok_law_pairs T) hA (hr.mono (by decide)) (by rfl) T.m_law_pairs T.F_law_pairs.kp T.b_law_pairs (takes_of rfl rfl rfl rfl) (da_cons (de_var 1) (da_cons (de_var 4) da_nil))) da_nil))) (dg_tup rfl (dgs_cons (dg_name sc_law.nd (i := 6) rfl (Or.inr rfl)) (dgs_cons (dg_name sc_law.nd (i := 7) rfl (Or.inl rfl)) dgs_nil))))
  (dss_cons (ds_if (DW.pt (dw_or (dt_not (dt_tru (de_call (ok_law_told_right T) hA (hr.mono (by decide)) (by rfl) T.m_law_told_right T.F_law_told_right.kp T.b_law_told_right (takes_of rfl rfl rfl rfl) (da_cons (de_var 4) (da_cons (de_var 6) da_nil))))) (dw_or1 (dt_not (dt_tru (de_call (ok_law_held T) hA (hr.mono (by decide)) (by rfl) T.m_law_held T.F_law_held.kp T.b_law_held (takes_of rfl rfl rfl rfl) (da_cons (de_var 6) (da_cons (de_var 7) da_nil))))))))
  (dss_one (ds_ret de_bl))
  dss_nil)
  (dss_cons (ds_setLc (own := [("_law_x", 8), ("_law_y", 9)]) (i := 5) rfl sc_law.nd rfl rfl (sw_true rfl rfl rfl (by decide +kernel)) true (.tp [(.nm 8), (.nm 9)]) (di_sq (de_var 7)) (blkOk_by (N := N_law) (sc := defScope s_law) (by decide +kernel)) (by decide) (fun _ _ _ _ _ => by exact (pg_tup rfl (pgs_cons (pg_name (i := 8) sc_law.nd rfl (Or.inl rfl)) (pgs_cons (pg_name (i := 9) sc_law.nd rfl (Or.inl rfl)) pgs_nil)))) (fun _ _ _ _ _ => by exact (dts_one (DW.pt (dw_and (dt_cmp (oEq (hu64 hr)) (de_ix (de_var 4) de_int) de_str (nomark _)) (dw_and1 (dt_cmp (oNe (hu64 hr)) (de_op oMod (de_callTy cInt (by rfl) T.n_int (by decide +kernel) (da_cons (de_op oSub (de_callV (k := 7) (CTab.cons T.g_Nearest T.co_Nearest (ok_Nearest_call T) (by decide) T.b_Nearest_call (CTab.cons T.g_Cut T.co_Cut (ok_Cut_call T) (by decide) T.b_Cut_call (CTab.cons T.g_Up T.co_Up (ok_Up_call T) (by decide) T.b_Up_call (CTab.cons T.g_Down T.co_Down (ok_Down_call T) (by decide) T.b_Down_call (CTab.cons T.g_Sticky T.co_Sticky (ok_Sticky_call T) (by decide) T.b_Sticky_call (CTab.cons T.g_Grid T.co_Grid (ok_Grid_call T) (by decide) T.b_Grid_call (CTab.cons T.g_Clamp T.co_Clamp (ok_Clamp_call T) (by decide) T.b_Clamp_call (CTab.cons T.g_Wrap T.co_Wrap (ok_Wrap_call T) (by decide) T.b_Wrap_call (CTab.cons T.g_Rounding T.co_Rounding (ok_Rounding_call T) (by decide) T.b_Rounding_call (CTab.cons T.g_Then T.co_Then (ok_Then_call T 4) (by decide) T.b_Then_call CTab.nil)))))))))) FTab.nil hA (hr.mono (by decide)) takes0 (de_var 6) (da_cons (de_var 8) da_nil)) (de_var 8)) da_nil)) (de_ix (de_var 4) de_int)) de_int (nomark _))))))) (fun _ _ _ _ _ => by exact (de_var 8)))
  (dss_one (ds_if (dt_cmp (oNe (hu64 hr)) (de_var 5) (de_lst da_nil) (nomark _))
  (dss_one (ds_ret de_bl))
  dss_nil)))))))
  (dss_cons (ds_set (i := 3) sc_law.nd rfl (Or.inl rfl) (de_lst (da_cons (de_tup (da_cons de_str da_nil)) (da_cons (de_tup (da_cons de_str (da_cons de_int da_nil))) (da_cons (de_tup (da_cons de_str (da_cons de_int da_nil))) (da_cons (de_tup (da_cons de_str (da_cons (de_neg de_int) (da_cons de_int da_nil)))) (da_cons (de_tup (da_cons de_str (da_cons de_int (da_cons (de_neg de_int) da_nil)))) (da_cons (de_tup (da_cons de_str (da_cons de_int (da_cons (de_neg de_int) da_nil)))) (da_cons (de_tup (da_cons de_str (da_cons de_int da_nil))) da_nil)))))))))
  (dss_one (ds_ret (de_cmp (oEq (hu64 hr)) (de_lc (own := [("_law_spec_here", 4)]) true (.nm 4) rfl sc_law.nd (di_sq (de_var 3)) (blkOk_by (N := N_law) (sc := defScope s_law) (by decide +kernel)) (by decide) (fun _ _ _ _ _ => by exact (pg_name (i := 4) sc_law.nd rfl (Or.inl rfl))) (fun _ _ _ _ _ => by exact (dts_one (dt_not (dt_tru (de_call (ok_law_told_right T) hA (hr.mono (by decide)) (by rfl) T.m_law_told_right T.F_law_told_right.kp T.b_law_told_right takes0 (da_cons (de_var 4) (da_cons (de_call (ok_law_built T 4) hA (hr.mono (by decide)) (by rfl) T.m_law_built T.F_law_built.kp T.b_law_built takes0 (da_cons (de_var 4) da_nil)) da_nil))))))) (fun _ _ _ _ _ => by exact (de_var 4))) (de_lst da_nil) (nomark _)))))))), vc_law⟩
end
theorem all_mk {l : PySem.W.OpenLaw} {w : World} {K : PySem.W.Frag} {h : Heap} {mg : Str → Option Value} {fa : Addr} (X : K.In h) (G : h.Ns mainGlobals mg) (hfa : mg "law" = some (.ref fa))
    {c_Then : Addr}
    {c_Rounding : Addr}
    {c_Wrap : Addr}
    {c_Clamp : Addr}
    {c_Grid : Addr}
    {c_Sticky : Addr}
    {c_Down : Addr}
    {c_Up : Addr}
    {c_Cut : Addr}
    {c_Nearest : Addr}
    {f_law_deck : Addr} {od_law_deck an_law_deck : Option Addr} {sl_law_deck : Array (Option Value)} {oc_law_deck kV_law_deck dc_law_deck pm_law_deck cd_law_deck ct_law_deck : Value}
    {f_law_draw : Addr} {od_law_draw an_law_draw : Option Addr} {sl_law_draw : Array (Option Value)} {oc_law_draw kV_law_draw dc_law_draw pm_law_draw cd_law_draw ct_law_draw : Value}
    {f_law_sum : Addr} {od_law_sum an_law_sum : Option Addr} {sl_law_sum : Array (Option Value)} {oc_law_sum kV_law_sum dc_law_sum pm_law_sum cd_law_sum ct_law_sum : Value}
    {f_law_one : Addr} {od_law_one an_law_one : Option Addr} {sl_law_one : Array (Option Value)} {oc_law_one kV_law_one dc_law_one pm_law_one cd_law_one ct_law_one : Value}
    {f_law_bits : Addr} {od_law_bits an_law_bits : Option Addr} {sl_law_bits : Array (Option Value)} {oc_law_bits kV_law_bits dc_law_bits pm_law_bits cd_law_bits ct_law_bits : Value}
    {f_law_spec : Addr} {od_law_spec an_law_spec : Option Addr} {sl_law_spec : Array (Option Value)} {oc_law_spec kV_law_spec dc_law_spec pm_law_spec cd_law_spec ct_law_spec : Value}
    {f_Nearest_init : Addr} {od_Nearest_init an_Nearest_init : Option Addr} {sl_Nearest_init : Array (Option Value)} {oc_Nearest_init kV_Nearest_init dc_Nearest_init pm_Nearest_init cd_Nearest_init ct_Nearest_init : Value}
    {f_Cut_init : Addr} {od_Cut_init an_Cut_init : Option Addr} {sl_Cut_init : Array (Option Value)} {oc_Cut_init kV_Cut_init dc_Cut_init pm_Cut_init cd_Cut_init ct_Cut_init : Value}
    {f_Up_init : Addr} {od_Up_init an_Up_init : Option Addr} {sl_Up_init : Array (Option Value)} {oc_Up_init kV_Up_init dc_Up_init pm_Up_init cd_Up_init ct_Up_init : Value}
    {f_Down_init : Addr} {od_Down_init an_Down_init : Option Addr} {sl_Down_init : Array (Option Value)} {oc_Down_init kV_Down_init dc_Down_init pm_Down_init cd_Down_init ct_Down_init : Value}
    {f_Sticky_init : Addr} {od_Sticky_init an_Sticky_init : Option Addr} {sl_Sticky_init : Array (Option Value)} {oc_Sticky_init kV_Sticky_init dc_Sticky_init pm_Sticky_init cd_Sticky_init ct_Sticky_init : Value}
    {f_Grid_init : Addr} {od_Grid_init an_Grid_init : Option Addr} {sl_Grid_init : Array (Option Value)} {oc_Grid_init kV_Grid_init dc_Grid_init pm_Grid_init cd_Grid_init ct_Grid_init : Value}
    {f_Clamp_init : Addr} {od_Clamp_init an_Clamp_init : Option Addr} {sl_Clamp_init : Array (Option Value)} {oc_Clamp_init kV_Clamp_init dc_Clamp_init pm_Clamp_init cd_Clamp_init ct_Clamp_init : Value}
    {f_Wrap_init : Addr} {od_Wrap_init an_Wrap_init : Option Addr} {sl_Wrap_init : Array (Option Value)} {oc_Wrap_init kV_Wrap_init dc_Wrap_init pm_Wrap_init cd_Wrap_init ct_Wrap_init : Value}
    {f_Then_init : Addr} {od_Then_init an_Then_init : Option Addr} {sl_Then_init : Array (Option Value)} {oc_Then_init kV_Then_init dc_Then_init pm_Then_init cd_Then_init ct_Then_init : Value}
    {f_law_built : Addr} {od_law_built an_law_built : Option Addr} {sl_law_built : Array (Option Value)} {oc_law_built kV_law_built dc_law_built pm_law_built cd_law_built ct_law_built : Value}
    {f_law_near : Addr} {od_law_near an_law_near : Option Addr} {sl_law_near : Array (Option Value)} {oc_law_near kV_law_near dc_law_near pm_law_near cd_law_near ct_law_near : Value}
    {f_law_about : Addr} {od_law_about an_law_about : Option Addr} {sl_law_about : Array (Option Value)} {oc_law_about kV_law_about dc_law_about pm_law_about cd_law_about ct_law_about : Value}
    {f_law_pairs : Addr} {od_law_pairs an_law_pairs : Option Addr} {sl_law_pairs : Array (Option Value)} {oc_law_pairs kV_law_pairs dc_law_pairs pm_law_pairs cd_law_pairs ct_law_pairs : Value}
    {f_law_kept : Addr} {od_law_kept an_law_kept : Option Addr} {sl_law_kept : Array (Option Value)} {oc_law_kept kV_law_kept dc_law_kept pm_law_kept cd_law_kept ct_law_kept : Value}
    {f_Rounding_keeps : Addr} {od_Rounding_keeps an_Rounding_keeps : Option Addr} {sl_Rounding_keeps : Array (Option Value)} {oc_Rounding_keeps kV_Rounding_keeps dc_Rounding_keeps pm_Rounding_keeps cd_Rounding_keeps ct_Rounding_keeps : Value}
    {f_Wrap_keeps : Addr} {od_Wrap_keeps an_Wrap_keeps : Option Addr} {sl_Wrap_keeps : Array (Option Value)} {oc_Wrap_keeps kV_Wrap_keeps dc_Wrap_keeps pm_Wrap_keeps cd_Wrap_keeps ct_Wrap_keeps : Value}
    {f_Clamp_keeps : Addr} {od_Clamp_keeps an_Clamp_keeps : Option Addr} {sl_Clamp_keeps : Array (Option Value)} {oc_Clamp_keeps kV_Clamp_keeps dc_Clamp_keeps pm_Clamp_keeps cd_Clamp_keeps ct_Clamp_keeps : Value}
    {f_Grid_keeps : Addr} {od_Grid_keeps an_Grid_keeps : Option Addr} {sl_Grid_keeps : Array (Option Value)} {oc_Grid_keeps kV_Grid_keeps dc_Grid_keeps pm_Grid_keeps cd_Grid_keeps ct_Grid_keeps : Value}
    {f_Sticky_keeps : Addr} {od_Sticky_keeps an_Sticky_keeps : Option Addr} {sl_Sticky_keeps : Array (Option Value)} {oc_Sticky_keeps kV_Sticky_keeps dc_Sticky_keeps pm_Sticky_keeps cd_Sticky_keeps ct_Sticky_keeps : Value}
    {f_Down_keeps : Addr} {od_Down_keeps an_Down_keeps : Option Addr} {sl_Down_keeps : Array (Option Value)} {oc_Down_keeps kV_Down_keeps dc_Down_keeps pm_Down_keeps cd_Down_keeps ct_Down_keeps : Value}
    {f_Up_keeps : Addr} {od_Up_keeps an_Up_keeps : Option Addr} {sl_Up_keeps : Array (Option Value)} {oc_Up_keeps kV_Up_keeps dc_Up_keeps pm_Up_keeps cd_Up_keeps ct_Up_keeps : Value}
    {f_Cut_keeps : Addr} {od_Cut_keeps an_Cut_keeps : Option Addr} {sl_Cut_keeps : Array (Option Value)} {oc_Cut_keeps kV_Cut_keeps dc_Cut_keeps pm_Cut_keeps cd_Cut_keeps ct_Cut_keeps : Value}
    {f_Nearest_keeps : Addr} {od_Nearest_keeps an_Nearest_keeps : Option Addr} {sl_Nearest_keeps : Array (Option Value)} {oc_Nearest_keeps kV_Nearest_keeps dc_Nearest_keeps pm_Nearest_keeps cd_Nearest_keeps ct_Nearest_keeps : Value}
    {f_Then_keeps : Addr} {od_Then_keeps an_Then_keeps : Option Addr} {sl_Then_keeps : Array (Option Value)} {oc_Then_keeps kV_Then_keeps dc_Then_keeps pm_Then_keeps cd_Then_keeps ct_Then_keeps : Value}
    {f_law_witness : Addr} {od_law_witness an_law_witness : Option Addr} {sl_law_witness : Array (Option Value)} {oc_law_witness kV_law_witness dc_law_witness pm_law_witness cd_law_witness ct_law_witness : Value}
    {f_Rounding_call : Addr} {od_Rounding_call an_Rounding_call : Option Addr} {sl_Rounding_call : Array (Option Value)} {oc_Rounding_call kV_Rounding_call dc_Rounding_call pm_Rounding_call cd_Rounding_call ct_Rounding_call : Value}
    {f_Wrap_call : Addr} {od_Wrap_call an_Wrap_call : Option Addr} {sl_Wrap_call : Array (Option Value)} {oc_Wrap_call kV_Wrap_call dc_Wrap_call pm_Wrap_call cd_Wrap_call ct_Wrap_call : Value}
    {f_Clamp_call : Addr} {od_Clamp_call an_Clamp_call : Option Addr} {sl_Clamp_call : Array (Option Value)} {oc_Clamp_call kV_Clamp_call dc_Clamp_call pm_Clamp_call cd_Clamp_call ct_Clamp_call : Value}
    {f_signed : Addr} {od_signed an_signed : Option Addr} {sl_signed : Array (Option Value)} {oc_signed kV_signed dc_signed pm_signed cd_signed ct_signed : Value}
    {f_Grid_call : Addr} {od_Grid_call an_Grid_call : Option Addr} {sl_Grid_call : Array (Option Value)} {oc_Grid_call kV_Grid_call dc_Grid_call pm_Grid_call cd_Grid_call ct_Grid_call : Value}
    {f_unit_of : Addr} {od_unit_of an_unit_of : Option Addr} {sl_unit_of : Array (Option Value)} {oc_unit_of kV_unit_of dc_unit_of pm_unit_of cd_unit_of ct_unit_of : Value}
    {f_Sticky_call : Addr} {od_Sticky_call an_Sticky_call : Option Addr} {sl_Sticky_call : Array (Option Value)} {oc_Sticky_call kV_Sticky_call dc_Sticky_call pm_Sticky_call cd_Sticky_call ct_Sticky_call : Value}
    {f_Down_call : Addr} {od_Down_call an_Down_call : Option Addr} {sl_Down_call : Array (Option Value)} {oc_Down_call kV_Down_call dc_Down_call pm_Down_call cd_Down_call ct_Down_call : Value}
    {f_Up_call : Addr} {od_Up_call an_Up_call : Option Addr} {sl_Up_call : Array (Option Value)} {oc_Up_call kV_Up_call dc_Up_call pm_Up_call cd_Up_call ct_Up_call : Value}
    {f_Cut_call : Addr} {od_Cut_call an_Cut_call : Option Addr} {sl_Cut_call : Array (Option Value)} {oc_Cut_call kV_Cut_call dc_Cut_call pm_Cut_call cd_Cut_call ct_Cut_call : Value}
    {f_Nearest_call : Addr} {od_Nearest_call an_Nearest_call : Option Addr} {sl_Nearest_call : Array (Option Value)} {oc_Nearest_call kV_Nearest_call dc_Nearest_call pm_Nearest_call cd_Nearest_call ct_Nearest_call : Value}
    {f_Then_call : Addr} {od_Then_call an_Then_call : Option Addr} {sl_Then_call : Array (Option Value)} {oc_Then_call kV_Then_call dc_Then_call pm_Then_call cd_Then_call ct_Then_call : Value}
    {f_law_breaks : Addr} {od_law_breaks an_law_breaks : Option Addr} {sl_law_breaks : Array (Option Value)} {oc_law_breaks kV_law_breaks dc_law_breaks pm_law_breaks cd_law_breaks ct_law_breaks : Value}
    {f_law_told_right : Addr} {od_law_told_right an_law_told_right : Option Addr} {sl_law_told_right : Array (Option Value)} {oc_law_told_right kV_law_told_right dc_law_told_right pm_law_told_right cd_law_told_right ct_law_told_right : Value}
    {f_law_held : Addr} {od_law_held an_law_held : Option Addr} {sl_law_held : Array (Option Value)} {oc_law_held kV_law_held dc_law_held pm_law_held cd_law_held ct_law_held : Value}
    {f_law : Addr} {od_law an_law : Option Addr} {sl_law : Array (Option Value)} {oc_law kV_law dc_law pm_law cd_law ct_law : Value}
    (a_Then : PySem.W.nsIn K mainGlobals "Then" = some (some (.ref c_Then)))
    (a_Rounding : PySem.W.nsIn K mainGlobals "Rounding" = some (some (.ref c_Rounding)))
    (a_Wrap : PySem.W.nsIn K mainGlobals "Wrap" = some (some (.ref c_Wrap)))
    (a_Clamp : PySem.W.nsIn K mainGlobals "Clamp" = some (some (.ref c_Clamp)))
    (a_Grid : PySem.W.nsIn K mainGlobals "Grid" = some (some (.ref c_Grid)))
    (a_Sticky : PySem.W.nsIn K mainGlobals "Sticky" = some (some (.ref c_Sticky)))
    (a_Down : PySem.W.nsIn K mainGlobals "Down" = some (some (.ref c_Down)))
    (a_Up : PySem.W.nsIn K mainGlobals "Up" = some (some (.ref c_Up)))
    (a_Cut : PySem.W.nsIn K mainGlobals "Cut" = some (some (.ref c_Cut)))
    (a_Nearest : PySem.W.nsIn K mainGlobals "Nearest" = some (some (.ref c_Nearest)))
    (pg_Then : PySem.W.plainGet K c_Then Str.empty = true)
    (hd_Then : PySem.W.hasDictIn K c_Then = true)
    (po_Then : PySem.W.plainOver K c_Then = true)
    (sa_Then : PySem.W.findIn K (.ref c_Then) "__setattr__" = some (some (.builtin "object.__setattr__")))
    (kc_Then : PySem.W.keepIn K (.ref c_Then) = true)
    (cc_Then : PySem.W.findIn K (.ref c_Then) "__call__" = some (some (.ref f_Then_call)))
    (fn_Then_call : PySem.W.isFn K (.ref f_Then_call) = true)
    (fi_Then_call : PySem.W.fnIn K f_Then_call = true)
    (ma_Then : PySem.W.makesIn K c_Then = true)
    (at_Then_init : PySem.W.findIn K (.ref c_Then) "__init__" = some (some (.ref f_Then_init)))
    (fn_Then_init : PySem.W.isFn K (.ref f_Then_init) = true)
    (no_Then_first : PySem.W.findIn K (.ref c_Then) "first" = some none)
    (no_Then_second : PySem.W.findIn K (.ref c_Then) "second" = some none)
    (ai_Then_keeps : PySem.W.findIn K (.ref c_Then) "keeps" = some (some (.ref f_Then_keeps)))
    (fn_Then_keeps : PySem.W.isFn K (.ref f_Then_keeps) = true)
    (pg_Rounding : PySem.W.plainGet K c_Rounding Str.empty = true)
    (hd_Rounding : PySem.W.hasDictIn K c_Rounding = true)
    (po_Rounding : PySem.W.plainOver K c_Rounding = true)
    (sa_Rounding : PySem.W.findIn K (.ref c_Rounding) "__setattr__" = some (some (.builtin "object.__setattr__")))
    (kc_Rounding : PySem.W.keepIn K (.ref c_Rounding) = true)
    (cc_Rounding : PySem.W.findIn K (.ref c_Rounding) "__call__" = some (some (.ref f_Rounding_call)))
    (fn_Rounding_call : PySem.W.isFn K (.ref f_Rounding_call) = true)
    (fi_Rounding_call : PySem.W.fnIn K f_Rounding_call = true)
    (ma_Rounding : PySem.W.makesIn K c_Rounding = true)
    (oi_Rounding : PySem.W.findIn K (.ref c_Rounding) "__init__" = some (some (.builtin "object.__init__")))
    (ai_Rounding_keeps : PySem.W.findIn K (.ref c_Rounding) "keeps" = some (some (.ref f_Rounding_keeps)))
    (fn_Rounding_keeps : PySem.W.isFn K (.ref f_Rounding_keeps) = true)
    (pg_Wrap : PySem.W.plainGet K c_Wrap Str.empty = true)
    (hd_Wrap : PySem.W.hasDictIn K c_Wrap = true)
    (po_Wrap : PySem.W.plainOver K c_Wrap = true)
    (sa_Wrap : PySem.W.findIn K (.ref c_Wrap) "__setattr__" = some (some (.builtin "object.__setattr__")))
    (kc_Wrap : PySem.W.keepIn K (.ref c_Wrap) = true)
    (cc_Wrap : PySem.W.findIn K (.ref c_Wrap) "__call__" = some (some (.ref f_Wrap_call)))
    (fn_Wrap_call : PySem.W.isFn K (.ref f_Wrap_call) = true)
    (fi_Wrap_call : PySem.W.fnIn K f_Wrap_call = true)
    (ma_Wrap : PySem.W.makesIn K c_Wrap = true)
    (at_Wrap_init : PySem.W.findIn K (.ref c_Wrap) "__init__" = some (some (.ref f_Wrap_init)))
    (fn_Wrap_init : PySem.W.isFn K (.ref f_Wrap_init) = true)
    (no_Wrap_modulus : PySem.W.findIn K (.ref c_Wrap) "modulus" = some none)
    (no_Wrap_low : PySem.W.findIn K (.ref c_Wrap) "low" = some none)
    (ai_Wrap_keeps : PySem.W.findIn K (.ref c_Wrap) "keeps" = some (some (.ref f_Wrap_keeps)))
    (fn_Wrap_keeps : PySem.W.isFn K (.ref f_Wrap_keeps) = true)
    (pg_Clamp : PySem.W.plainGet K c_Clamp Str.empty = true)
    (hd_Clamp : PySem.W.hasDictIn K c_Clamp = true)
    (po_Clamp : PySem.W.plainOver K c_Clamp = true)
    (sa_Clamp : PySem.W.findIn K (.ref c_Clamp) "__setattr__" = some (some (.builtin "object.__setattr__")))
    (kc_Clamp : PySem.W.keepIn K (.ref c_Clamp) = true)
    (cc_Clamp : PySem.W.findIn K (.ref c_Clamp) "__call__" = some (some (.ref f_Clamp_call)))
    (fn_Clamp_call : PySem.W.isFn K (.ref f_Clamp_call) = true)
    (fi_Clamp_call : PySem.W.fnIn K f_Clamp_call = true)
    (ma_Clamp : PySem.W.makesIn K c_Clamp = true)
    (at_Clamp_init : PySem.W.findIn K (.ref c_Clamp) "__init__" = some (some (.ref f_Clamp_init)))
    (fn_Clamp_init : PySem.W.isFn K (.ref f_Clamp_init) = true)
    (no_Clamp_low : PySem.W.findIn K (.ref c_Clamp) "low" = some none)
    (no_Clamp_high : PySem.W.findIn K (.ref c_Clamp) "high" = some none)
    (ai_Clamp_keeps : PySem.W.findIn K (.ref c_Clamp) "keeps" = some (some (.ref f_Clamp_keeps)))
    (fn_Clamp_keeps : PySem.W.isFn K (.ref f_Clamp_keeps) = true)
    (pg_Grid : PySem.W.plainGet K c_Grid Str.empty = true)
    (hd_Grid : PySem.W.hasDictIn K c_Grid = true)
    (po_Grid : PySem.W.plainOver K c_Grid = true)
    (sa_Grid : PySem.W.findIn K (.ref c_Grid) "__setattr__" = some (some (.builtin "object.__setattr__")))
    (kc_Grid : PySem.W.keepIn K (.ref c_Grid) = true)
    (cc_Grid : PySem.W.findIn K (.ref c_Grid) "__call__" = some (some (.ref f_Grid_call)))
    (fn_Grid_call : PySem.W.isFn K (.ref f_Grid_call) = true)
    (fi_Grid_call : PySem.W.fnIn K f_Grid_call = true)
    (ma_Grid : PySem.W.makesIn K c_Grid = true)
    (at_Grid_init : PySem.W.findIn K (.ref c_Grid) "__init__" = some (some (.ref f_Grid_init)))
    (fn_Grid_init : PySem.W.isFn K (.ref f_Grid_init) = true)
    (no_Grid_step : PySem.W.findIn K (.ref c_Grid) "step" = some none)
    (ai_Grid_keeps : PySem.W.findIn K (.ref c_Grid) "keeps" = some (some (.ref f_Grid_keeps)))
    (fn_Grid_keeps : PySem.W.isFn K (.ref f_Grid_keeps) = true)
    (pg_Sticky : PySem.W.plainGet K c_Sticky Str.empty = true)
    (hd_Sticky : PySem.W.hasDictIn K c_Sticky = true)
    (po_Sticky : PySem.W.plainOver K c_Sticky = true)
    (sa_Sticky : PySem.W.findIn K (.ref c_Sticky) "__setattr__" = some (some (.builtin "object.__setattr__")))
    (kc_Sticky : PySem.W.keepIn K (.ref c_Sticky) = true)
    (cc_Sticky : PySem.W.findIn K (.ref c_Sticky) "__call__" = some (some (.ref f_Sticky_call)))
    (fn_Sticky_call : PySem.W.isFn K (.ref f_Sticky_call) = true)
    (fi_Sticky_call : PySem.W.fnIn K f_Sticky_call = true)
    (ma_Sticky : PySem.W.makesIn K c_Sticky = true)
    (at_Sticky_init : PySem.W.findIn K (.ref c_Sticky) "__init__" = some (some (.ref f_Sticky_init)))
    (fn_Sticky_init : PySem.W.isFn K (.ref f_Sticky_init) = true)
    (no_Sticky_bits : PySem.W.findIn K (.ref c_Sticky) "bits" = some none)
    (ai_Sticky_keeps : PySem.W.findIn K (.ref c_Sticky) "keeps" = some (some (.ref f_Sticky_keeps)))
    (fn_Sticky_keeps : PySem.W.isFn K (.ref f_Sticky_keeps) = true)
    (pg_Down : PySem.W.plainGet K c_Down Str.empty = true)
    (hd_Down : PySem.W.hasDictIn K c_Down = true)
    (po_Down : PySem.W.plainOver K c_Down = true)
    (sa_Down : PySem.W.findIn K (.ref c_Down) "__setattr__" = some (some (.builtin "object.__setattr__")))
    (kc_Down : PySem.W.keepIn K (.ref c_Down) = true)
    (cc_Down : PySem.W.findIn K (.ref c_Down) "__call__" = some (some (.ref f_Down_call)))
    (fn_Down_call : PySem.W.isFn K (.ref f_Down_call) = true)
    (fi_Down_call : PySem.W.fnIn K f_Down_call = true)
    (ma_Down : PySem.W.makesIn K c_Down = true)
    (at_Down_init : PySem.W.findIn K (.ref c_Down) "__init__" = some (some (.ref f_Down_init)))
    (fn_Down_init : PySem.W.isFn K (.ref f_Down_init) = true)
    (no_Down_bits : PySem.W.findIn K (.ref c_Down) "bits" = some none)
    (ai_Down_keeps : PySem.W.findIn K (.ref c_Down) "keeps" = some (some (.ref f_Down_keeps)))
    (fn_Down_keeps : PySem.W.isFn K (.ref f_Down_keeps) = true)
    (pg_Up : PySem.W.plainGet K c_Up Str.empty = true)
    (hd_Up : PySem.W.hasDictIn K c_Up = true)
    (po_Up : PySem.W.plainOver K c_Up = true)
    (sa_Up : PySem.W.findIn K (.ref c_Up) "__setattr__" = some (some (.builtin "object.__setattr__")))
    (kc_Up : PySem.W.keepIn K (.ref c_Up) = true)
    (cc_Up : PySem.W.findIn K (.ref c_Up) "__call__" = some (some (.ref f_Up_call)))
    (fn_Up_call : PySem.W.isFn K (.ref f_Up_call) = true)
    (fi_Up_call : PySem.W.fnIn K f_Up_call = true)
    (ma_Up : PySem.W.makesIn K c_Up = true)
    (at_Up_init : PySem.W.findIn K (.ref c_Up) "__init__" = some (some (.ref f_Up_init)))
    (fn_Up_init : PySem.W.isFn K (.ref f_Up_init) = true)
    (no_Up_bits : PySem.W.findIn K (.ref c_Up) "bits" = some none)
    (ai_Up_keeps : PySem.W.findIn K (.ref c_Up) "keeps" = some (some (.ref f_Up_keeps)))
    (fn_Up_keeps : PySem.W.isFn K (.ref f_Up_keeps) = true)
    (pg_Cut : PySem.W.plainGet K c_Cut Str.empty = true)
    (hd_Cut : PySem.W.hasDictIn K c_Cut = true)
    (po_Cut : PySem.W.plainOver K c_Cut = true)
    (sa_Cut : PySem.W.findIn K (.ref c_Cut) "__setattr__" = some (some (.builtin "object.__setattr__")))
    (kc_Cut : PySem.W.keepIn K (.ref c_Cut) = true)
    (cc_Cut : PySem.W.findIn K (.ref c_Cut) "__call__" = some (some (.ref f_Cut_call)))
    (fn_Cut_call : PySem.W.isFn K (.ref f_Cut_call) = true)
    (fi_Cut_call : PySem.W.fnIn K f_Cut_call = true)
    (ma_Cut : PySem.W.makesIn K c_Cut = true)
    (at_Cut_init : PySem.W.findIn K (.ref c_Cut) "__init__" = some (some (.ref f_Cut_init)))
    (fn_Cut_init : PySem.W.isFn K (.ref f_Cut_init) = true)
    (no_Cut_bits : PySem.W.findIn K (.ref c_Cut) "bits" = some none)
    (ai_Cut_keeps : PySem.W.findIn K (.ref c_Cut) "keeps" = some (some (.ref f_Cut_keeps)))
    (fn_Cut_keeps : PySem.W.isFn K (.ref f_Cut_keeps) = true)
    (pg_Nearest : PySem.W.plainGet K c_Nearest Str.empty = true)
    (hd_Nearest : PySem.W.hasDictIn K c_Nearest = true)
    (po_Nearest : PySem.W.plainOver K c_Nearest = true)
    (sa_Nearest : PySem.W.findIn K (.ref c_Nearest) "__setattr__" = some (some (.builtin "object.__setattr__")))
    (kc_Nearest : PySem.W.keepIn K (.ref c_Nearest) = true)
    (cc_Nearest : PySem.W.findIn K (.ref c_Nearest) "__call__" = some (some (.ref f_Nearest_call)))
    (fn_Nearest_call : PySem.W.isFn K (.ref f_Nearest_call) = true)
    (fi_Nearest_call : PySem.W.fnIn K f_Nearest_call = true)
    (ma_Nearest : PySem.W.makesIn K c_Nearest = true)
    (at_Nearest_init : PySem.W.findIn K (.ref c_Nearest) "__init__" = some (some (.ref f_Nearest_init)))
    (fn_Nearest_init : PySem.W.isFn K (.ref f_Nearest_init) = true)
    (no_Nearest_bits : PySem.W.findIn K (.ref c_Nearest) "bits" = some none)
    (ai_Nearest_keeps : PySem.W.findIn K (.ref c_Nearest) "keeps" = some (some (.ref f_Nearest_keeps)))
    (fn_Nearest_keeps : PySem.W.isFn K (.ref f_Nearest_keeps) = true)
    (a_law_deck : PySem.W.nsIn K mainGlobals "_law_deck" = some (some (.ref f_law_deck)))
    (l_law_deck : K.lookup f_law_deck = some ⟨oc_law_deck, od_law_deck, .func (PySem.W.fnOf "_law_deck" "_law_deck" (defArgs s_law_deck) (defBody s_law_deck) (defScope s_law_deck) .none kV_law_deck dc_law_deck pm_law_deck an_law_deck cd_law_deck ct_law_deck), sl_law_deck⟩)
    (c_law_deck : PySem.W.codeIn K cd_law_deck "_law_deck" = true) (k_law_deck : PySem.W.keepIn K (.ref f_law_deck) = true)
    (a_law_draw : PySem.W.nsIn K mainGlobals "_law_draw" = some (some (.ref f_law_draw)))
    (l_law_draw : K.lookup f_law_draw = some ⟨oc_law_draw, od_law_draw, .func (PySem.W.fnOf "_law_draw" "_law_draw" (defArgs s_law_draw) (defBody s_law_draw) (defScope s_law_draw) .none kV_law_draw dc_law_draw pm_law_draw an_law_draw cd_law_draw ct_law_draw), sl_law_draw⟩)
    (c_law_draw : PySem.W.codeIn K cd_law_draw "_law_draw" = true) (k_law_draw : PySem.W.keepIn K (.ref f_law_draw) = true)
    (a_law_sum : PySem.W.nsIn K mainGlobals "_law_sum" = some (some (.ref f_law_sum)))
    (l_law_sum : K.lookup f_law_sum = some ⟨oc_law_sum, od_law_sum, .func (PySem.W.fnOf "_law_sum" "_law_sum" (defArgs s_law_sum) (defBody s_law_sum) (defScope s_law_sum) .none kV_law_sum dc_law_sum pm_law_sum an_law_sum cd_law_sum ct_law_sum), sl_law_sum⟩)
    (c_law_sum : PySem.W.codeIn K cd_law_sum "_law_sum" = true) (k_law_sum : PySem.W.keepIn K (.ref f_law_sum) = true)
    (a_law_one : PySem.W.nsIn K mainGlobals "_law_one" = some (some (.ref f_law_one)))
    (l_law_one : K.lookup f_law_one = some ⟨oc_law_one, od_law_one, .func (PySem.W.fnOf "_law_one" "_law_one" (defArgs s_law_one) (defBody s_law_one) (defScope s_law_one) .none kV_law_one dc_law_one pm_law_one an_law_one cd_law_one ct_law_one), sl_law_one⟩)
    (c_law_one : PySem.W.codeIn K cd_law_one "_law_one" = true) (k_law_one : PySem.W.keepIn K (.ref f_law_one) = true)
    (a_law_bits : PySem.W.nsIn K mainGlobals "_law_bits" = some (some (.ref f_law_bits)))
    (l_law_bits : K.lookup f_law_bits = some ⟨oc_law_bits, od_law_bits, .func (PySem.W.fnOf "_law_bits" "_law_bits" (defArgs s_law_bits) (defBody s_law_bits) (defScope s_law_bits) .none kV_law_bits dc_law_bits pm_law_bits an_law_bits cd_law_bits ct_law_bits), sl_law_bits⟩)
    (c_law_bits : PySem.W.codeIn K cd_law_bits "_law_bits" = true) (k_law_bits : PySem.W.keepIn K (.ref f_law_bits) = true)
    (a_law_spec : PySem.W.nsIn K mainGlobals "_law_spec" = some (some (.ref f_law_spec)))
    (l_law_spec : K.lookup f_law_spec = some ⟨oc_law_spec, od_law_spec, .func (PySem.W.fnOf "_law_spec" "_law_spec" (defArgs s_law_spec) (defBody s_law_spec) (defScope s_law_spec) .none kV_law_spec dc_law_spec pm_law_spec an_law_spec cd_law_spec ct_law_spec), sl_law_spec⟩)
    (c_law_spec : PySem.W.codeIn K cd_law_spec "_law_spec" = true) (k_law_spec : PySem.W.keepIn K (.ref f_law_spec) = true)
    (l_Nearest_init : K.lookup f_Nearest_init = some ⟨oc_Nearest_init, od_Nearest_init, .func (PySem.W.fnOf "__init__" "Nearest.__init__" (defArgs s_Nearest_init) (defBody s_Nearest_init) (defScope s_Nearest_init) .none kV_Nearest_init dc_Nearest_init pm_Nearest_init an_Nearest_init cd_Nearest_init ct_Nearest_init), sl_Nearest_init⟩)
    (c_Nearest_init : PySem.W.codeIn K cd_Nearest_init "Nearest.__init__" = true) (k_Nearest_init : PySem.W.keepIn K (.ref f_Nearest_init) = true)
    (l_Cut_init : K.lookup f_Cut_init = some ⟨oc_Cut_init, od_Cut_init, .func (PySem.W.fnOf "__init__" "Cut.__init__" (defArgs s_Cut_init) (defBody s_Cut_init) (defScope s_Cut_init) .none kV_Cut_init dc_Cut_init pm_Cut_init an_Cut_init cd_Cut_init ct_Cut_init), sl_Cut_init⟩)
    (c_Cut_init : PySem.W.codeIn K cd_Cut_init "Cut.__init__" = true) (k_Cut_init : PySem.W.keepIn K (.ref f_Cut_init) = true)
    (l_Up_init : K.lookup f_Up_init = some ⟨oc_Up_init, od_Up_init, .func (PySem.W.fnOf "__init__" "Up.__init__" (defArgs s_Up_init) (defBody s_Up_init) (defScope s_Up_init) .none kV_Up_init dc_Up_init pm_Up_init an_Up_init cd_Up_init ct_Up_init), sl_Up_init⟩)
    (c_Up_init : PySem.W.codeIn K cd_Up_init "Up.__init__" = true) (k_Up_init : PySem.W.keepIn K (.ref f_Up_init) = true)
    (l_Down_init : K.lookup f_Down_init = some ⟨oc_Down_init, od_Down_init, .func (PySem.W.fnOf "__init__" "Down.__init__" (defArgs s_Down_init) (defBody s_Down_init) (defScope s_Down_init) .none kV_Down_init dc_Down_init pm_Down_init an_Down_init cd_Down_init ct_Down_init), sl_Down_init⟩)
    (c_Down_init : PySem.W.codeIn K cd_Down_init "Down.__init__" = true) (k_Down_init : PySem.W.keepIn K (.ref f_Down_init) = true)
    (l_Sticky_init : K.lookup f_Sticky_init = some ⟨oc_Sticky_init, od_Sticky_init, .func (PySem.W.fnOf "__init__" "Sticky.__init__" (defArgs s_Sticky_init) (defBody s_Sticky_init) (defScope s_Sticky_init) .none kV_Sticky_init dc_Sticky_init pm_Sticky_init an_Sticky_init cd_Sticky_init ct_Sticky_init), sl_Sticky_init⟩)
    (c_Sticky_init : PySem.W.codeIn K cd_Sticky_init "Sticky.__init__" = true) (k_Sticky_init : PySem.W.keepIn K (.ref f_Sticky_init) = true)
    (l_Grid_init : K.lookup f_Grid_init = some ⟨oc_Grid_init, od_Grid_init, .func (PySem.W.fnOf "__init__" "Grid.__init__" (defArgs s_Grid_init) (defBody s_Grid_init) (defScope s_Grid_init) .none kV_Grid_init dc_Grid_init pm_Grid_init an_Grid_init cd_Grid_init ct_Grid_init), sl_Grid_init⟩)
    (c_Grid_init : PySem.W.codeIn K cd_Grid_init "Grid.__init__" = true) (k_Grid_init : PySem.W.keepIn K (.ref f_Grid_init) = true)
    (l_Clamp_init : K.lookup f_Clamp_init = some ⟨oc_Clamp_init, od_Clamp_init, .func (PySem.W.fnOf "__init__" "Clamp.__init__" (defArgs s_Clamp_init) (defBody s_Clamp_init) (defScope s_Clamp_init) .none kV_Clamp_init dc_Clamp_init pm_Clamp_init an_Clamp_init cd_Clamp_init ct_Clamp_init), sl_Clamp_init⟩)
    (c_Clamp_init : PySem.W.codeIn K cd_Clamp_init "Clamp.__init__" = true) (k_Clamp_init : PySem.W.keepIn K (.ref f_Clamp_init) = true)
    (l_Wrap_init : K.lookup f_Wrap_init = some ⟨oc_Wrap_init, od_Wrap_init, .func (PySem.W.fnOf "__init__" "Wrap.__init__" (defArgs s_Wrap_init) (defBody s_Wrap_init) (defScope s_Wrap_init) .none kV_Wrap_init dc_Wrap_init pm_Wrap_init an_Wrap_init cd_Wrap_init ct_Wrap_init), sl_Wrap_init⟩)
    (c_Wrap_init : PySem.W.codeIn K cd_Wrap_init "Wrap.__init__" = true) (k_Wrap_init : PySem.W.keepIn K (.ref f_Wrap_init) = true)
    (l_Then_init : K.lookup f_Then_init = some ⟨oc_Then_init, od_Then_init, .func (PySem.W.fnOf "__init__" "Then.__init__" (defArgs s_Then_init) (defBody s_Then_init) (defScope s_Then_init) .none kV_Then_init dc_Then_init pm_Then_init an_Then_init cd_Then_init ct_Then_init), sl_Then_init⟩)
    (c_Then_init : PySem.W.codeIn K cd_Then_init "Then.__init__" = true) (k_Then_init : PySem.W.keepIn K (.ref f_Then_init) = true)
    (a_law_built : PySem.W.nsIn K mainGlobals "_law_built" = some (some (.ref f_law_built)))
    (l_law_built : K.lookup f_law_built = some ⟨oc_law_built, od_law_built, .func (PySem.W.fnOf "_law_built" "_law_built" (defArgs s_law_built) (defBody s_law_built) (defScope s_law_built) .none kV_law_built dc_law_built pm_law_built an_law_built cd_law_built ct_law_built), sl_law_built⟩)
    (c_law_built : PySem.W.codeIn K cd_law_built "_law_built" = true) (k_law_built : PySem.W.keepIn K (.ref f_law_built) = true)
    (a_law_near : PySem.W.nsIn K mainGlobals "_law_near" = some (some (.ref f_law_near)))
    (l_law_near : K.lookup f_law_near = some ⟨oc_law_near, od_law_near, .func (PySem.W.fnOf "_law_near" "_law_near" (defArgs s_law_near) (defBody s_law_near) (defScope s_law_near) .none kV_law_near dc_law_near pm_law_near an_law_near cd_law_near ct_law_near), sl_law_near⟩)
    (c_law_near : PySem.W.codeIn K cd_law_near "_law_near" = true) (k_law_near : PySem.W.keepIn K (.ref f_law_near) = true)
    (a_law_about : PySem.W.nsIn K mainGlobals "_law_about" = some (some (.ref f_law_about)))
    (l_law_about : K.lookup f_law_about = some ⟨oc_law_about, od_law_about, .func (PySem.W.fnOf "_law_about" "_law_about" (defArgs s_law_about) (defBody s_law_about) (defScope s_law_about) .none kV_law_about dc_law_about pm_law_about an_law_about cd_law_about ct_law_about), sl_law_about⟩)
    (c_law_about : PySem.W.codeIn K cd_law_about "_law_about" = true) (k_law_about : PySem.W.keepIn K (.ref f_law_about) = true)
    (a_law_pairs : PySem.W.nsIn K mainGlobals "_law_pairs" = some (some (.ref f_law_pairs)))
    (l_law_pairs : K.lookup f_law_pairs = some ⟨oc_law_pairs, od_law_pairs, .func (PySem.W.fnOf "_law_pairs" "_law_pairs" (defArgs s_law_pairs) (defBody s_law_pairs) (defScope s_law_pairs) .none kV_law_pairs dc_law_pairs pm_law_pairs an_law_pairs cd_law_pairs ct_law_pairs), sl_law_pairs⟩)
    (c_law_pairs : PySem.W.codeIn K cd_law_pairs "_law_pairs" = true) (k_law_pairs : PySem.W.keepIn K (.ref f_law_pairs) = true)
    (a_law_kept : PySem.W.nsIn K mainGlobals "_law_kept" = some (some (.ref f_law_kept)))
    (l_law_kept : K.lookup f_law_kept = some ⟨oc_law_kept, od_law_kept, .func (PySem.W.fnOf "_law_kept" "_law_kept" (defArgs s_law_kept) (defBody s_law_kept) (defScope s_law_kept) .none kV_law_kept dc_law_kept pm_law_kept an_law_kept cd_law_kept ct_law_kept), sl_law_kept⟩)
    (c_law_kept : PySem.W.codeIn K cd_law_kept "_law_kept" = true) (k_law_kept : PySem.W.keepIn K (.ref f_law_kept) = true)
    (l_Rounding_keeps : K.lookup f_Rounding_keeps = some ⟨oc_Rounding_keeps, od_Rounding_keeps, .func (PySem.W.fnOf "keeps" "Rounding.keeps" (defArgs s_Rounding_keeps) (defBody s_Rounding_keeps) (defScope s_Rounding_keeps) .none kV_Rounding_keeps dc_Rounding_keeps pm_Rounding_keeps an_Rounding_keeps cd_Rounding_keeps ct_Rounding_keeps), sl_Rounding_keeps⟩)
    (c_Rounding_keeps : PySem.W.codeIn K cd_Rounding_keeps "Rounding.keeps" = true) (k_Rounding_keeps : PySem.W.keepIn K (.ref f_Rounding_keeps) = true)
    (l_Wrap_keeps : K.lookup f_Wrap_keeps = some ⟨oc_Wrap_keeps, od_Wrap_keeps, .func (PySem.W.fnOf "keeps" "Wrap.keeps" (defArgs s_Wrap_keeps) (defBody s_Wrap_keeps) (defScope s_Wrap_keeps) .none kV_Wrap_keeps dc_Wrap_keeps pm_Wrap_keeps an_Wrap_keeps cd_Wrap_keeps ct_Wrap_keeps), sl_Wrap_keeps⟩)
    (c_Wrap_keeps : PySem.W.codeIn K cd_Wrap_keeps "Wrap.keeps" = true) (k_Wrap_keeps : PySem.W.keepIn K (.ref f_Wrap_keeps) = true)
    (l_Clamp_keeps : K.lookup f_Clamp_keeps = some ⟨oc_Clamp_keeps, od_Clamp_keeps, .func (PySem.W.fnOf "keeps" "Clamp.keeps" (defArgs s_Clamp_keeps) (defBody s_Clamp_keeps) (defScope s_Clamp_keeps) .none kV_Clamp_keeps dc_Clamp_keeps pm_Clamp_keeps an_Clamp_keeps cd_Clamp_keeps ct_Clamp_keeps), sl_Clamp_keeps⟩)
    (c_Clamp_keeps : PySem.W.codeIn K cd_Clamp_keeps "Clamp.keeps" = true) (k_Clamp_keeps : PySem.W.keepIn K (.ref f_Clamp_keeps) = true)
    (l_Grid_keeps : K.lookup f_Grid_keeps = some ⟨oc_Grid_keeps, od_Grid_keeps, .func (PySem.W.fnOf "keeps" "Grid.keeps" (defArgs s_Grid_keeps) (defBody s_Grid_keeps) (defScope s_Grid_keeps) .none kV_Grid_keeps dc_Grid_keeps pm_Grid_keeps an_Grid_keeps cd_Grid_keeps ct_Grid_keeps), sl_Grid_keeps⟩)
    (c_Grid_keeps : PySem.W.codeIn K cd_Grid_keeps "Grid.keeps" = true) (k_Grid_keeps : PySem.W.keepIn K (.ref f_Grid_keeps) = true)
    (l_Sticky_keeps : K.lookup f_Sticky_keeps = some ⟨oc_Sticky_keeps, od_Sticky_keeps, .func (PySem.W.fnOf "keeps" "Sticky.keeps" (defArgs s_Sticky_keeps) (defBody s_Sticky_keeps) (defScope s_Sticky_keeps) .none kV_Sticky_keeps dc_Sticky_keeps pm_Sticky_keeps an_Sticky_keeps cd_Sticky_keeps ct_Sticky_keeps), sl_Sticky_keeps⟩)
    (c_Sticky_keeps : PySem.W.codeIn K cd_Sticky_keeps "Sticky.keeps" = true) (k_Sticky_keeps : PySem.W.keepIn K (.ref f_Sticky_keeps) = true)
    (l_Down_keeps : K.lookup f_Down_keeps = some ⟨oc_Down_keeps, od_Down_keeps, .func (PySem.W.fnOf "keeps" "Down.keeps" (defArgs s_Down_keeps) (defBody s_Down_keeps) (defScope s_Down_keeps) .none kV_Down_keeps dc_Down_keeps pm_Down_keeps an_Down_keeps cd_Down_keeps ct_Down_keeps), sl_Down_keeps⟩)
    (c_Down_keeps : PySem.W.codeIn K cd_Down_keeps "Down.keeps" = true) (k_Down_keeps : PySem.W.keepIn K (.ref f_Down_keeps) = true)
    (l_Up_keeps : K.lookup f_Up_keeps = some ⟨oc_Up_keeps, od_Up_keeps, .func (PySem.W.fnOf "keeps" "Up.keeps" (defArgs s_Up_keeps) (defBody s_Up_keeps) (defScope s_Up_keeps) .none kV_Up_keeps dc_Up_keeps pm_Up_keeps an_Up_keeps cd_Up_keeps ct_Up_keeps), sl_Up_keeps⟩)
    (c_Up_keeps : PySem.W.codeIn K cd_Up_keeps "Up.keeps" = true) (k_Up_keeps : PySem.W.keepIn K (.ref f_Up_keeps) = true)
    (l_Cut_keeps : K.lookup f_Cut_keeps = some ⟨oc_Cut_keeps, od_Cut_keeps, .func (PySem.W.fnOf "keeps" "Cut.keeps" (defArgs s_Cut_keeps) (defBody s_Cut_keeps) (defScope s_Cut_keeps) .none kV_Cut_keeps dc_Cut_keeps pm_Cut_keeps an_Cut_keeps cd_Cut_keeps ct_Cut_keeps), sl_Cut_keeps⟩)
    (c_Cut_keeps : PySem.W.codeIn K cd_Cut_keeps "Cut.keeps" = true) (k_Cut_keeps : PySem.W.keepIn K (.ref f_Cut_keeps) = true)
    (l_Nearest_keeps : K.lookup f_Nearest_keeps = some ⟨oc_Nearest_keeps, od_Nearest_keeps, .func (PySem.W.fnOf "keeps" "Nearest.keeps" (defArgs s_Nearest_keeps) (defBody s_Nearest_keeps) (defScope s_Nearest_keeps) .none kV_Nearest_keeps dc_Nearest_keeps pm_Nearest_keeps an_Nearest_keeps cd_Nearest_keeps ct_Nearest_keeps), sl_Nearest_keeps⟩)
    (c_Nearest_keeps : PySem.W.codeIn K cd_Nearest_keeps "Nearest.keeps" = true) (k_Nearest_keeps : PySem.W.keepIn K (.ref f_Nearest_keeps) = true)
    (l_Then_keeps : K.lookup f_Then_keeps = some ⟨oc_Then_keeps, od_Then_keeps, .func (PySem.W.fnOf "keeps" "Then.keeps" (defArgs s_Then_keeps) (defBody s_Then_keeps) (defScope s_Then_keeps) .none kV_Then_keeps dc_Then_keeps pm_Then_keeps an_Then_keeps cd_Then_keeps ct_Then_keeps), sl_Then_keeps⟩)
    (c_Then_keeps : PySem.W.codeIn K cd_Then_keeps "Then.keeps" = true) (k_Then_keeps : PySem.W.keepIn K (.ref f_Then_keeps) = true)
    (a_law_witness : PySem.W.nsIn K mainGlobals "_law_witness" = some (some (.ref f_law_witness)))
    (l_law_witness : K.lookup f_law_witness = some ⟨oc_law_witness, od_law_witness, .func (PySem.W.fnOf "_law_witness" "_law_witness" (defArgs s_law_witness) (defBody s_law_witness) (defScope s_law_witness) .none kV_law_witness dc_law_witness pm_law_witness an_law_witness cd_law_witness ct_law_witness), sl_law_witness⟩)
    (c_law_witness : PySem.W.codeIn K cd_law_witness "_law_witness" = true) (k_law_witness : PySem.W.keepIn K (.ref f_law_witness) = true)
    (l_Rounding_call : K.lookup f_Rounding_call = some ⟨oc_Rounding_call, od_Rounding_call, .func (PySem.W.fnOf "__call__" "Rounding.__call__" (defArgs s_Rounding_call) (defBody s_Rounding_call) (defScope s_Rounding_call) .none kV_Rounding_call dc_Rounding_call pm_Rounding_call an_Rounding_call cd_Rounding_call ct_Rounding_call), sl_Rounding_call⟩)
    (c_Rounding_call : PySem.W.codeIn K cd_Rounding_call "Rounding.__call__" = true) (k_Rounding_call : PySem.W.keepIn K (.ref f_Rounding_call) = true)
    (l_Wrap_call : K.lookup f_Wrap_call = some ⟨oc_Wrap_call, od_Wrap_call, .func (PySem.W.fnOf "__call__" "Wrap.__call__" (defArgs s_Wrap_call) (defBody s_Wrap_call) (defScope s_Wrap_call) .none kV_Wrap_call dc_Wrap_call pm_Wrap_call an_Wrap_call cd_Wrap_call ct_Wrap_call), sl_Wrap_call⟩)
    (c_Wrap_call : PySem.W.codeIn K cd_Wrap_call "Wrap.__call__" = true) (k_Wrap_call : PySem.W.keepIn K (.ref f_Wrap_call) = true)
    (l_Clamp_call : K.lookup f_Clamp_call = some ⟨oc_Clamp_call, od_Clamp_call, .func (PySem.W.fnOf "__call__" "Clamp.__call__" (defArgs s_Clamp_call) (defBody s_Clamp_call) (defScope s_Clamp_call) .none kV_Clamp_call dc_Clamp_call pm_Clamp_call an_Clamp_call cd_Clamp_call ct_Clamp_call), sl_Clamp_call⟩)
    (c_Clamp_call : PySem.W.codeIn K cd_Clamp_call "Clamp.__call__" = true) (k_Clamp_call : PySem.W.keepIn K (.ref f_Clamp_call) = true)
    (a_signed : PySem.W.nsIn K mainGlobals "signed" = some (some (.ref f_signed)))
    (l_signed : K.lookup f_signed = some ⟨oc_signed, od_signed, .func (PySem.W.fnOf "signed" "signed" (defArgs s_signed) (defBody s_signed) (defScope s_signed) .none kV_signed dc_signed pm_signed an_signed cd_signed ct_signed), sl_signed⟩)
    (c_signed : PySem.W.codeIn K cd_signed "signed" = true) (k_signed : PySem.W.keepIn K (.ref f_signed) = true)
    (l_Grid_call : K.lookup f_Grid_call = some ⟨oc_Grid_call, od_Grid_call, .func (PySem.W.fnOf "__call__" "Grid.__call__" (defArgs s_Grid_call) (defBody s_Grid_call) (defScope s_Grid_call) .none kV_Grid_call dc_Grid_call pm_Grid_call an_Grid_call cd_Grid_call ct_Grid_call), sl_Grid_call⟩)
    (c_Grid_call : PySem.W.codeIn K cd_Grid_call "Grid.__call__" = true) (k_Grid_call : PySem.W.keepIn K (.ref f_Grid_call) = true)
    (a_unit_of : PySem.W.nsIn K mainGlobals "unit_of" = some (some (.ref f_unit_of)))
    (l_unit_of : K.lookup f_unit_of = some ⟨oc_unit_of, od_unit_of, .func (PySem.W.fnOf "unit_of" "unit_of" (defArgs s_unit_of) (defBody s_unit_of) (defScope s_unit_of) .none kV_unit_of dc_unit_of pm_unit_of an_unit_of cd_unit_of ct_unit_of), sl_unit_of⟩)
    (c_unit_of : PySem.W.codeIn K cd_unit_of "unit_of" = true) (k_unit_of : PySem.W.keepIn K (.ref f_unit_of) = true)
    (l_Sticky_call : K.lookup f_Sticky_call = some ⟨oc_Sticky_call, od_Sticky_call, .func (PySem.W.fnOf "__call__" "Sticky.__call__" (defArgs s_Sticky_call) (defBody s_Sticky_call) (defScope s_Sticky_call) .none kV_Sticky_call dc_Sticky_call pm_Sticky_call an_Sticky_call cd_Sticky_call ct_Sticky_call), sl_Sticky_call⟩)
    (c_Sticky_call : PySem.W.codeIn K cd_Sticky_call "Sticky.__call__" = true) (k_Sticky_call : PySem.W.keepIn K (.ref f_Sticky_call) = true)
    (l_Down_call : K.lookup f_Down_call = some ⟨oc_Down_call, od_Down_call, .func (PySem.W.fnOf "__call__" "Down.__call__" (defArgs s_Down_call) (defBody s_Down_call) (defScope s_Down_call) .none kV_Down_call dc_Down_call pm_Down_call an_Down_call cd_Down_call ct_Down_call), sl_Down_call⟩)
    (c_Down_call : PySem.W.codeIn K cd_Down_call "Down.__call__" = true) (k_Down_call : PySem.W.keepIn K (.ref f_Down_call) = true)
    (l_Up_call : K.lookup f_Up_call = some ⟨oc_Up_call, od_Up_call, .func (PySem.W.fnOf "__call__" "Up.__call__" (defArgs s_Up_call) (defBody s_Up_call) (defScope s_Up_call) .none kV_Up_call dc_Up_call pm_Up_call an_Up_call cd_Up_call ct_Up_call), sl_Up_call⟩)
    (c_Up_call : PySem.W.codeIn K cd_Up_call "Up.__call__" = true) (k_Up_call : PySem.W.keepIn K (.ref f_Up_call) = true)
    (l_Cut_call : K.lookup f_Cut_call = some ⟨oc_Cut_call, od_Cut_call, .func (PySem.W.fnOf "__call__" "Cut.__call__" (defArgs s_Cut_call) (defBody s_Cut_call) (defScope s_Cut_call) .none kV_Cut_call dc_Cut_call pm_Cut_call an_Cut_call cd_Cut_call ct_Cut_call), sl_Cut_call⟩)
    (c_Cut_call : PySem.W.codeIn K cd_Cut_call "Cut.__call__" = true) (k_Cut_call : PySem.W.keepIn K (.ref f_Cut_call) = true)
    (l_Nearest_call : K.lookup f_Nearest_call = some ⟨oc_Nearest_call, od_Nearest_call, .func (PySem.W.fnOf "__call__" "Nearest.__call__" (defArgs s_Nearest_call) (defBody s_Nearest_call) (defScope s_Nearest_call) .none kV_Nearest_call dc_Nearest_call pm_Nearest_call an_Nearest_call cd_Nearest_call ct_Nearest_call), sl_Nearest_call⟩)
    (c_Nearest_call : PySem.W.codeIn K cd_Nearest_call "Nearest.__call__" = true) (k_Nearest_call : PySem.W.keepIn K (.ref f_Nearest_call) = true)
    (l_Then_call : K.lookup f_Then_call = some ⟨oc_Then_call, od_Then_call, .func (PySem.W.fnOf "__call__" "Then.__call__" (defArgs s_Then_call) (defBody s_Then_call) (defScope s_Then_call) .none kV_Then_call dc_Then_call pm_Then_call an_Then_call cd_Then_call ct_Then_call), sl_Then_call⟩)
    (c_Then_call : PySem.W.codeIn K cd_Then_call "Then.__call__" = true) (k_Then_call : PySem.W.keepIn K (.ref f_Then_call) = true)
    (a_law_breaks : PySem.W.nsIn K mainGlobals "_law_breaks" = some (some (.ref f_law_breaks)))
    (l_law_breaks : K.lookup f_law_breaks = some ⟨oc_law_breaks, od_law_breaks, .func (PySem.W.fnOf "_law_breaks" "_law_breaks" (defArgs s_law_breaks) (defBody s_law_breaks) (defScope s_law_breaks) .none kV_law_breaks dc_law_breaks pm_law_breaks an_law_breaks cd_law_breaks ct_law_breaks), sl_law_breaks⟩)
    (c_law_breaks : PySem.W.codeIn K cd_law_breaks "_law_breaks" = true) (k_law_breaks : PySem.W.keepIn K (.ref f_law_breaks) = true)
    (a_law_told_right : PySem.W.nsIn K mainGlobals "_law_told_right" = some (some (.ref f_law_told_right)))
    (l_law_told_right : K.lookup f_law_told_right = some ⟨oc_law_told_right, od_law_told_right, .func (PySem.W.fnOf "_law_told_right" "_law_told_right" (defArgs s_law_told_right) (defBody s_law_told_right) (defScope s_law_told_right) .none kV_law_told_right dc_law_told_right pm_law_told_right an_law_told_right cd_law_told_right ct_law_told_right), sl_law_told_right⟩)
    (c_law_told_right : PySem.W.codeIn K cd_law_told_right "_law_told_right" = true) (k_law_told_right : PySem.W.keepIn K (.ref f_law_told_right) = true)
    (a_law_held : PySem.W.nsIn K mainGlobals "_law_held" = some (some (.ref f_law_held)))
    (l_law_held : K.lookup f_law_held = some ⟨oc_law_held, od_law_held, .func (PySem.W.fnOf "_law_held" "_law_held" (defArgs s_law_held) (defBody s_law_held) (defScope s_law_held) .none kV_law_held dc_law_held pm_law_held an_law_held cd_law_held ct_law_held), sl_law_held⟩)
    (c_law_held : PySem.W.codeIn K cd_law_held "_law_held" = true) (k_law_held : PySem.W.keepIn K (.ref f_law_held) = true)
    (a_law : PySem.W.nsIn K mainGlobals "law" = some (some (.ref f_law)))
    (l_law : K.lookup f_law = some ⟨oc_law, od_law, .func (PySem.W.fnOf "law" "law" (defArgs s_law) (defBody s_law) (defScope s_law) .none kV_law dc_law pm_law an_law cd_law ct_law), sl_law⟩)
    (c_law : PySem.W.codeIn K cd_law "law" = true) (k_law : PySem.W.keepIn K (.ref f_law) = true)
    (n_range : PySem.W.nsIn K mainGlobals "range" = some none)
    (n_int : PySem.W.nsIn K mainGlobals "int" = some none)
    (n_list : PySem.W.nsIn K mainGlobals "list" = some none)
    (n_len : PySem.W.nsIn K mainGlobals "len" = some none)
    (n_abs : PySem.W.nsIn K mainGlobals "abs" = some none)
    (n_isinstance : PySem.W.nsIn K mainGlobals "isinstance" = some none)
    (n_bool : PySem.W.nsIn K mainGlobals "bool" = some none)
    (n_max : PySem.W.nsIn K mainGlobals "max" = some none)
    (n_min : PySem.W.nsIn K mainGlobals "min" = some none) :
    ∃ fd : FuncData, (∀ (s : Shared) (v : Value), BindsTo s fd ⟨[v], []⟩ [("_law_script", v)]) ∧ ∀ base : Heap, K.In base → base.Ns mainGlobals mg → FnG l.prog w K mg base 10 fa fd ["_law_script"] (spLaw 63) := by
  have e := hfa.symm.trans (PySem.W.mg_of X G a_law)
  cases e
  have F_law_deck := fun_mk (st := s_law_deck) l_law_deck c_law_deck k_law_deck
  have b_law_deck := F_law_deck.binds (ps := ["_law_script"]) fun _ _ _ _ _ _ us hl => match us, hl with | [_], _ => rfl
  have F_law_draw := fun_mk (st := s_law_draw) l_law_draw c_law_draw k_law_draw
  have b_law_draw := F_law_draw.binds (ps := ["_law_deck_here", "_law_many"]) fun _ _ _ _ _ _ us hl => match us, hl with | [_, _], _ => rfl
  have F_law_sum := fun_mk (st := s_law_sum) l_law_sum c_law_sum k_law_sum
  have b_law_sum := F_law_sum.binds (ps := ["_law_deck_here", "_law_places"]) fun _ _ _ _ _ _ us hl => match us, hl with | [_, _], _ => rfl
  have F_law_one := fun_mk (st := s_law_one) l_law_one c_law_one k_law_one
  have b_law_one := F_law_one.binds (ps := ["_law_deck_here", "_law_items"]) fun _ _ _ _ _ _ us hl => match us, hl with | [_, _], _ => rfl
  have F_law_bits := fun_mk (st := s_law_bits) l_law_bits c_law_bits k_law_bits
  have b_law_bits := F_law_bits.binds (ps := ["_law_deck_here"]) fun _ _ _ _ _ _ us hl => match us, hl with | [_], _ => rfl
  have F_law_spec := fun_mk (st := s_law_spec) l_law_spec c_law_spec k_law_spec
  have b_law_spec := F_law_spec.binds (ps := ["_law_deck_here", "_law_deep"]) fun _ _ _ _ _ _ us hl => match us, hl with | [_, _], _ => rfl
  have F_Nearest_init := fun_mk (st := s_Nearest_init) l_Nearest_init c_Nearest_init k_Nearest_init
  have b_Nearest_init := F_Nearest_init.binds (ps := ["self", "bits"]) fun _ _ _ _ _ _ us hl => match us, hl with | [_, _], _ => rfl
  have F_Cut_init := fun_mk (st := s_Cut_init) l_Cut_init c_Cut_init k_Cut_init
  have b_Cut_init := F_Cut_init.binds (ps := ["self", "bits"]) fun _ _ _ _ _ _ us hl => match us, hl with | [_, _], _ => rfl
  have F_Up_init := fun_mk (st := s_Up_init) l_Up_init c_Up_init k_Up_init
  have b_Up_init := F_Up_init.binds (ps := ["self", "bits"]) fun _ _ _ _ _ _ us hl => match us, hl with | [_, _], _ => rfl
  have F_Down_init := fun_mk (st := s_Down_init) l_Down_init c_Down_init k_Down_init
  have b_Down_init := F_Down_init.binds (ps := ["self", "bits"]) fun _ _ _ _ _ _ us hl => match us, hl with | [_, _], _ => rfl
  have F_Sticky_init := fun_mk (st := s_Sticky_init) l_Sticky_init c_Sticky_init k_Sticky_init
  have b_Sticky_init := F_Sticky_init.binds (ps := ["self", "bits"]) fun _ _ _ _ _ _ us hl => match us, hl with | [_, _], _ => rfl
  have F_Grid_init := fun_mk (st := s_Grid_init) l_Grid_init c_Grid_init k_Grid_init
  have b_Grid_init := F_Grid_init.binds (ps := ["self", "step"]) fun _ _ _ _ _ _ us hl => match us, hl with | [_, _], _ => rfl
  have F_Clamp_init := fun_mk (st := s_Clamp_init) l_Clamp_init c_Clamp_init k_Clamp_init
  have b_Clamp_init := F_Clamp_init.binds (ps := ["self", "low", "high"]) fun _ _ _ _ _ _ us hl => match us, hl with | [_, _, _], _ => rfl
  have F_Wrap_init := fun_mk (st := s_Wrap_init) l_Wrap_init c_Wrap_init k_Wrap_init
  have b_Wrap_init := F_Wrap_init.binds (ps := ["self", "modulus", "low"]) fun _ _ _ _ _ _ us hl => match us, hl with | [_, _, _], _ => rfl
  have F_Then_init := fun_mk (st := s_Then_init) l_Then_init c_Then_init k_Then_init
  have b_Then_init := F_Then_init.binds (ps := ["self", "first", "second"]) fun _ _ _ _ _ _ us hl => match us, hl with | [_, _, _], _ => rfl
  have F_law_built := fun_mk (st := s_law_built) l_law_built c_law_built k_law_built
  have b_law_built := F_law_built.binds (ps := ["_law_spec_here"]) fun _ _ _ _ _ _ us hl => match us, hl with | [_], _ => rfl
  have F_law_near := fun_mk (st := s_law_near) l_law_near c_law_near k_law_near
  have b_law_near := F_law_near.binds (ps := ["_law_deck_here", "_law_width"]) fun _ _ _ _ _ _ us hl => match us, hl with | [_, _], _ => rfl
  have F_law_about := fun_mk (st := s_law_about) l_law_about c_law_about k_law_about
  have b_law_about := F_law_about.binds (ps := ["_law_deck_here", "_law_spec_here"]) fun _ _ _ _ _ _ us hl => match us, hl with | [_, _], _ => rfl
  have F_law_pairs := fun_mk (st := s_law_pairs) l_law_pairs c_law_pairs k_law_pairs
  have b_law_pairs := F_law_pairs.binds (ps := ["_law_deck_here", "_law_spec_here"]) fun _ _ _ _ _ _ us hl => match us, hl with | [_, _], _ => rfl
  have F_law_kept := fun_mk (st := s_law_kept) l_law_kept c_law_kept k_law_kept
  have b_law_kept := F_law_kept.binds (ps := ["_law_spec_here"]) fun _ _ _ _ _ _ us hl => match us, hl with | [_], _ => rfl
  have F_Rounding_keeps := fun_mk (st := s_Rounding_keeps) l_Rounding_keeps c_Rounding_keeps k_Rounding_keeps
  have b_Rounding_keeps := F_Rounding_keeps.binds (ps := ["self", "word"]) fun _ _ _ _ _ _ us hl => match us, hl with | [_, _], _ => rfl
  have F_Wrap_keeps := fun_mk (st := s_Wrap_keeps) l_Wrap_keeps c_Wrap_keeps k_Wrap_keeps
  have b_Wrap_keeps := F_Wrap_keeps.binds (ps := ["self", "word"]) fun _ _ _ _ _ _ us hl => match us, hl with | [_, _], _ => rfl
  have F_Clamp_keeps := fun_mk (st := s_Clamp_keeps) l_Clamp_keeps c_Clamp_keeps k_Clamp_keeps
  have b_Clamp_keeps := F_Clamp_keeps.binds (ps := ["self", "word"]) fun _ _ _ _ _ _ us hl => match us, hl with | [_, _], _ => rfl
  have F_Grid_keeps := fun_mk (st := s_Grid_keeps) l_Grid_keeps c_Grid_keeps k_Grid_keeps
  have b_Grid_keeps := F_Grid_keeps.binds (ps := ["self", "word"]) fun _ _ _ _ _ _ us hl => match us, hl with | [_, _], _ => rfl
  have F_Sticky_keeps := fun_mk (st := s_Sticky_keeps) l_Sticky_keeps c_Sticky_keeps k_Sticky_keeps
  have b_Sticky_keeps := F_Sticky_keeps.binds (ps := ["self", "word"]) fun _ _ _ _ _ _ us hl => match us, hl with | [_, _], _ => rfl
  have F_Down_keeps := fun_mk (st := s_Down_keeps) l_Down_keeps c_Down_keeps k_Down_keeps
  have b_Down_keeps := F_Down_keeps.binds (ps := ["self", "word"]) fun _ _ _ _ _ _ us hl => match us, hl with | [_, _], _ => rfl
  have F_Up_keeps := fun_mk (st := s_Up_keeps) l_Up_keeps c_Up_keeps k_Up_keeps
  have b_Up_keeps := F_Up_keeps.binds (ps := ["self", "word"]) fun _ _ _ _ _ _ us hl => match us, hl with | [_, _], _ => rfl
  have F_Cut_keeps := fun_mk (st := s_Cut_keeps) l_Cut_keeps c_Cut_keeps k_Cut_keeps
  have b_Cut_keeps := F_Cut_keeps.binds (ps := ["self", "word"]) fun _ _ _ _ _ _ us hl => match us, hl with | [_, _], _ => rfl
  have F_Nearest_keeps := fun_mk (st := s_Nearest_keeps) l_Nearest_keeps c_Nearest_keeps k_Nearest_keeps
  have b_Nearest_keeps := F_Nearest_keeps.binds (ps := ["self", "word"]) fun _ _ _ _ _ _ us hl => match us, hl with | [_, _], _ => rfl
  have F_Then_keeps := fun_mk (st := s_Then_keeps) l_Then_keeps c_Then_keeps k_Then_keeps
  have b_Then_keeps := F_Then_keeps.binds (ps := ["self", "word"]) fun _ _ _ _ _ _ us hl => match us, hl with | [_, _], _ => rfl
  have F_law_witness := fun_mk (st := s_law_witness) l_law_witness c_law_witness k_law_witness
  have b_law_witness := F_law_witness.binds (ps := ["_law_spec_here", "_law_name"]) fun _ _ _ _ _ _ us hl => match us, hl with | [_, _], _ => rfl
  have F_Rounding_call := fun_mk (st := s_Rounding_call) l_Rounding_call c_Rounding_call k_Rounding_call
  have b_Rounding_call := F_Rounding_call.binds (ps := ["self", "number"]) fun _ _ _ _ _ _ us hl => match us, hl with | [_, _], _ => rfl
  have F_Wrap_call := fun_mk (st := s_Wrap_call) l_Wrap_call c_Wrap_call k_Wrap_call
  have b_Wrap_call := F_Wrap_call.binds (ps := ["self", "number"]) fun _ _ _ _ _ _ us hl => match us, hl with | [_, _], _ => rfl
  have F_Clamp_call := fun_mk (st := s_Clamp_call) l_Clamp_call c_Clamp_call k_Clamp_call
  have b_Clamp_call := F_Clamp_call.binds (ps := ["self", "number"]) fun _ _ _ _ _ _ us hl => match us, hl with | [_, _], _ => rfl
  have F_signed := fun_mk (st := s_signed) l_signed c_signed k_signed
  have b_signed := F_signed.binds (ps := ["number", "size"]) fun _ _ _ _ _ _ us hl => match us, hl with | [_, _], _ => rfl
  have F_Grid_call := fun_mk (st := s_Grid_call) l_Grid_call c_Grid_call k_Grid_call
  have b_Grid_call := F_Grid_call.binds (ps := ["self", "number"]) fun _ _ _ _ _ _ us hl => match us, hl with | [_, _], _ => rfl
  have F_unit_of := fun_mk (st := s_unit_of) l_unit_of c_unit_of k_unit_of
  have b_unit_of := F_unit_of.binds (ps := ["size", "bits"]) fun _ _ _ _ _ _ us hl => match us, hl with | [_, _], _ => rfl
  have F_Sticky_call := fun_mk (st := s_Sticky_call) l_Sticky_call c_Sticky_call k_Sticky_call
  have b_Sticky_call := F_Sticky_call.binds (ps := ["self", "number"]) fun _ _ _ _ _ _ us hl => match us, hl with | [_, _], _ => rfl
  have F_Down_call := fun_mk (st := s_Down_call) l_Down_call c_Down_call k_Down_call
  have b_Down_call := F_Down_call.binds (ps := ["self", "number"]) fun _ _ _ _ _ _ us hl => match us, hl with | [_, _], _ => rfl
  have F_Up_call := fun_mk (st := s_Up_call) l_Up_call c_Up_call k_Up_call
  have b_Up_call := F_Up_call.binds (ps := ["self", "number"]) fun _ _ _ _ _ _ us hl => match us, hl with | [_, _], _ => rfl
  have F_Cut_call := fun_mk (st := s_Cut_call) l_Cut_call c_Cut_call k_Cut_call
  have b_Cut_call := F_Cut_call.binds (ps := ["self", "number"]) fun _ _ _ _ _ _ us hl => match us, hl with | [_, _], _ => rfl
  have F_Nearest_call := fun_mk (st := s_Nearest_call) l_Nearest_call c_Nearest_call k_Nearest_call
  have b_Nearest_call := F_Nearest_call.binds (ps := ["self", "number"]) fun _ _ _ _ _ _ us hl => match us, hl with | [_, _], _ => rfl
  have F_Then_call := fun_mk (st := s_Then_call) l_Then_call c_Then_call k_Then_call
  have b_Then_call := F_Then_call.binds (ps := ["self", "number"]) fun _ _ _ _ _ _ us hl => match us, hl with | [_, _], _ => rfl
  have F_law_breaks := fun_mk (st := s_law_breaks) l_law_breaks c_law_breaks k_law_breaks
  have b_law_breaks := F_law_breaks.binds (ps := ["_law_rounding", "_law_name", "_law_x", "_law_y"]) fun _ _ _ _ _ _ us hl => match us, hl with | [_, _, _, _], _ => rfl
  have F_law_told_right := fun_mk (st := s_law_told_right) l_law_told_right c_law_told_right k_law_told_right
  have b_law_told_right := F_law_told_right.binds (ps := ["_law_spec_here", "_law_made"]) fun _ _ _ _ _ _ us hl => match us, hl with | [_, _], _ => rfl
  have F_law_held := fun_mk (st := s_law_held) l_law_held c_law_held k_law_held
  have b_law_held := F_law_held.binds (ps := ["_law_made", "_law_pairs_here"]) fun _ _ _ _ _ _ us hl => match us, hl with | [_, _], _ => rfl
  have F_law := fun_mk (st := s_law) l_law c_law k_law
  have b_law := F_law.binds (ps := ["_law_script"]) fun _ _ _ _ _ _ us hl => match us, hl with | [_], _ => rfl
  have kb_Then_keeps_1_word := fun_kbd F_Then_keeps (ps := ["self", "word"]) (n := 1) (ks := ["word"]) (perm := [0, 1]) fun _ _ _ _ _ _ us ws h1 h2 => match us, ws, h1, h2 with | [_], [_], _, _ => rfl
  have kb_Rounding_keeps_1_word := fun_kbd F_Rounding_keeps (ps := ["self", "word"]) (n := 1) (ks := ["word"]) (perm := [0, 1]) fun _ _ _ _ _ _ us ws h1 h2 => match us, ws, h1, h2 with | [_], [_], _, _ => rfl
  have kb_Wrap_keeps_1_word := fun_kbd F_Wrap_keeps (ps := ["self", "word"]) (n := 1) (ks := ["word"]) (perm := [0, 1]) fun _ _ _ _ _ _ us ws h1 h2 => match us, ws, h1, h2 with | [_], [_], _, _ => rfl
  have kb_Clamp_keeps_1_word := fun_kbd F_Clamp_keeps (ps := ["self", "word"]) (n := 1) (ks := ["word"]) (perm := [0, 1]) fun _ _ _ _ _ _ us ws h1 h2 => match us, ws, h1, h2 with | [_], [_], _, _ => rfl
  have kb_Grid_keeps_1_word := fun_kbd F_Grid_keeps (ps := ["self", "word"]) (n := 1) (ks := ["word"]) (perm := [0, 1]) fun _ _ _ _ _ _ us ws h1 h2 => match us, ws, h1, h2 with | [_], [_], _, _ => rfl
  have kb_Sticky_keeps_1_word := fun_kbd F_Sticky_keeps (ps := ["self", "word"]) (n := 1) (ks := ["word"]) (perm := [0, 1]) fun _ _ _ _ _ _ us ws h1 h2 => match us, ws, h1, h2 with | [_], [_], _, _ => rfl
  have kb_Down_keeps_1_word := fun_kbd F_Down_keeps (ps := ["self", "word"]) (n := 1) (ks := ["word"]) (perm := [0, 1]) fun _ _ _ _ _ _ us ws h1 h2 => match us, ws, h1, h2 with | [_], [_], _, _ => rfl
  have kb_Up_keeps_1_word := fun_kbd F_Up_keeps (ps := ["self", "word"]) (n := 1) (ks := ["word"]) (perm := [0, 1]) fun _ _ _ _ _ _ us ws h1 h2 => match us, ws, h1, h2 with | [_], [_], _, _ => rfl
  have kb_Cut_keeps_1_word := fun_kbd F_Cut_keeps (ps := ["self", "word"]) (n := 1) (ks := ["word"]) (perm := [0, 1]) fun _ _ _ _ _ _ us ws h1 h2 => match us, ws, h1, h2 with | [_], [_], _, _ => rfl
  have kb_Nearest_keeps_1_word := fun_kbd F_Nearest_keeps (ps := ["self", "word"]) (n := 1) (ks := ["word"]) (perm := [0, 1]) fun _ _ _ _ _ _ us ws h1 h2 => match us, ws, h1, h2 with | [_], [_], _, _ => rfl
  let T : Txt K mg := {
    c_Then := c_Then, g_Then := gaddr_of a_Then, mc_Then := PySem.W.mg_of X G a_Then,
    co_Then := ⟨cc_Then, fn_Then_call, fi_Then_call⟩,
    mk_Then := ⟨ma_Then, at_Then_init, fn_Then_init, kc_Then⟩,
    k_Then := ⟨pg_Then, hd_Then, po_Then, sa_Then⟩,
    o_Then_first := fld_one a_Then ⟨pg_Then, hd_Then, po_Then, sa_Then⟩ no_Then_first,
    o_Then_second := fld_one a_Then ⟨pg_Then, hd_Then, po_Then, sa_Then⟩ no_Then_second,
    ei_Then_keeps := ⟨ai_Then_keeps, fn_Then_keeps, k_Then_keeps⟩,
    c_Rounding := c_Rounding, g_Rounding := gaddr_of a_Rounding, mc_Rounding := PySem.W.mg_of X G a_Rounding,
    co_Rounding := ⟨cc_Rounding, fn_Rounding_call, fi_Rounding_call⟩,
    mkn_Rounding := ⟨ma_Rounding, oi_Rounding, kc_Rounding⟩,
    k_Rounding := ⟨pg_Rounding, hd_Rounding, po_Rounding, sa_Rounding⟩,
    ei_Rounding_keeps := ⟨ai_Rounding_keeps, fn_Rounding_keeps, k_Rounding_keeps⟩,
    c_Wrap := c_Wrap, g_Wrap := gaddr_of a_Wrap, mc_Wrap := PySem.W.mg_of X G a_Wrap,
    co_Wrap := ⟨cc_Wrap, fn_Wrap_call, fi_Wrap_call⟩,
    mk_Wrap := ⟨ma_Wrap, at_Wrap_init, fn_Wrap_init, kc_Wrap⟩,
    k_Wrap := ⟨pg_Wrap, hd_Wrap, po_Wrap, sa_Wrap⟩,
    o_Wrap_modulus := fld_one a_Wrap ⟨pg_Wrap, hd_Wrap, po_Wrap, sa_Wrap⟩ no_Wrap_modulus,
    o_Wrap_low := fld_one a_Wrap ⟨pg_Wrap, hd_Wrap, po_Wrap, sa_Wrap⟩ no_Wrap_low,
    ei_Wrap_keeps := ⟨ai_Wrap_keeps, fn_Wrap_keeps, k_Wrap_keeps⟩,
    c_Clamp := c_Clamp, g_Clamp := gaddr_of a_Clamp, mc_Clamp := PySem.W.mg_of X G a_Clamp,
    co_Clamp := ⟨cc_Clamp, fn_Clamp_call, fi_Clamp_call⟩,
    mk_Clamp := ⟨ma_Clamp, at_Clamp_init, fn_Clamp_init, kc_Clamp⟩,
    k_Clamp := ⟨pg_Clamp, hd_Clamp, po_Clamp, sa_Clamp⟩,
    o_Clamp_low := fld_one a_Clamp ⟨pg_Clamp, hd_Clamp, po_Clamp, sa_Clamp⟩ no_Clamp_low,
    o_Clamp_high := fld_one a_Clamp ⟨pg_Clamp, hd_Clamp, po_Clamp, sa_Clamp⟩ no_Clamp_high,
    ei_Clamp_keeps := ⟨ai_Clamp_keeps, fn_Clamp_keeps, k_Clamp_keeps⟩,
    c_Grid := c_Grid, g_Grid := gaddr_of a_Grid, mc_Grid := PySem.W.mg_of X G a_Grid,
    co_Grid := ⟨cc_Grid, fn_Grid_call, fi_Grid_call⟩,
    mk_Grid := ⟨ma_Grid, at_Grid_init, fn_Grid_init, kc_Grid⟩,
    k_Grid := ⟨pg_Grid, hd_Grid, po_Grid, sa_Grid⟩,
    o_Grid_step := fld_one a_Grid ⟨pg_Grid, hd_Grid, po_Grid, sa_Grid⟩ no_Grid_step,
    ei_Grid_keeps := ⟨ai_Grid_keeps, fn_Grid_keeps, k_Grid_keeps⟩,
    c_Sticky := c_Sticky, g_Sticky := gaddr_of a_Sticky, mc_Sticky := PySem.W.mg_of X G a_Sticky,
    co_Sticky := ⟨cc_Sticky, fn_Sticky_call, fi_Sticky_call⟩,
    mk_Sticky := ⟨ma_Sticky, at_Sticky_init, fn_Sticky_init, kc_Sticky⟩,
    k_Sticky := ⟨pg_Sticky, hd_Sticky, po_Sticky, sa_Sticky⟩,
    o_Sticky_bits := fld_one a_Sticky ⟨pg_Sticky, hd_Sticky, po_Sticky, sa_Sticky⟩ no_Sticky_bits,
    ei_Sticky_keeps := ⟨ai_Sticky_keeps, fn_Sticky_keeps, k_Sticky_keeps⟩,
    c_Down := c_Down, g_Down := gaddr_of a_Down, mc_Down := PySem.W.mg_of X G a_Down,
    co_Down := ⟨cc_Down, fn_Down_call, fi_Down_call⟩,
    mk_Down := ⟨ma_Down, at_Down_init, fn_Down_init, kc_Down⟩,
    k_Down := ⟨pg_Down, hd_Down, po_Down, sa_Down⟩,
    o_Down_bits := fld_one a_Down ⟨pg_Down, hd_Down, po_Down, sa_Down⟩ no_Down_bits,
    ei_Down_keeps := ⟨ai_Down_keeps, fn_Down_keeps, k_Down_keeps⟩,
    c_Up := c_Up, g_Up := gaddr_of a_Up, mc_Up := PySem.W.mg_of X G a_Up,
    co_Up := ⟨cc_Up, fn_Up_call, fi_Up_call⟩,
    mk_Up := ⟨ma_Up, at_Up_init, fn_Up_init, kc_Up⟩,
    k_Up := ⟨pg_Up, hd_Up, po_Up, sa_Up⟩,
    o_Up_bits := fld_one a_Up ⟨pg_Up, hd_Up, po_Up, sa_Up⟩ no_Up_bits,
    ei_Up_keeps := ⟨ai_Up_keeps, fn_Up_keeps, k_Up_keeps⟩,
    c_Cut := c_Cut, g_Cut := gaddr_of a_Cut, mc_Cut := PySem.W.mg_of X G a_Cut,
    co_Cut := ⟨cc_Cut, fn_Cut_call, fi_Cut_call⟩,
    mk_Cut := ⟨ma_Cut, at_Cut_init, fn_Cut_init, kc_Cut⟩,
    k_Cut := ⟨pg_Cut, hd_Cut, po_Cut, sa_Cut⟩,
    o_Cut_bits := fld_one a_Cut ⟨pg_Cut, hd_Cut, po_Cut, sa_Cut⟩ no_Cut_bits,
    ei_Cut_keeps := ⟨ai_Cut_keeps, fn_Cut_keeps, k_Cut_keeps⟩,
    c_Nearest := c_Nearest, g_Nearest := gaddr_of a_Nearest, mc_Nearest := PySem.W.mg_of X G a_Nearest,
    co_Nearest := ⟨cc_Nearest, fn_Nearest_call, fi_Nearest_call⟩,
    mk_Nearest := ⟨ma_Nearest, at_Nearest_init, fn_Nearest_init, kc_Nearest⟩,
    k_Nearest := ⟨pg_Nearest, hd_Nearest, po_Nearest, sa_Nearest⟩,
    o_Nearest_bits := fld_one a_Nearest ⟨pg_Nearest, hd_Nearest, po_Nearest, sa_Nearest⟩ no_Nearest_bits,
    ei_Nearest_keeps := ⟨ai_Nearest_keeps, fn_Nearest_keeps, k_Nearest_keeps⟩,
    f_law_deck := f_law_deck, fd_law_deck := _, F_law_deck := F_law_deck, m_law_deck := PySem.W.mg_of X G a_law_deck, b_law_deck := b_law_deck,
    f_law_draw := f_law_draw, fd_law_draw := _, F_law_draw := F_law_draw, m_law_draw := PySem.W.mg_of X G a_law_draw, b_law_draw := b_law_draw,
    f_law_sum := f_law_sum, fd_law_sum := _, F_law_sum := F_law_sum, m_law_sum := PySem.W.mg_of X G a_law_sum, b_law_sum := b_law_sum,
    f_law_one := f_law_one, fd_law_one := _, F_law_one := F_law_one, m_law_one := PySem.W.mg_of X G a_law_one, b_law_one := b_law_one,
    f_law_bits := f_law_bits, fd_law_bits := _, F_law_bits := F_law_bits, m_law_bits := PySem.W.mg_of X G a_law_bits, b_law_bits := b_law_bits,
    f_law_spec := f_law_spec, fd_law_spec := _, F_law_spec := F_law_spec, m_law_spec := PySem.W.mg_of X G a_law_spec, b_law_spec := b_law_spec,
    f_Nearest_init := f_Nearest_init, fd_Nearest_init := _, F_Nearest_init := F_Nearest_init, b_Nearest_init := b_Nearest_init,
    f_Cut_init := f_Cut_init, fd_Cut_init := _, F_Cut_init := F_Cut_init, b_Cut_init := b_Cut_init,
    f_Up_init := f_Up_init, fd_Up_init := _, F_Up_init := F_Up_init, b_Up_init := b_Up_init,
    f_Down_init := f_Down_init, fd_Down_init := _, F_Down_init := F_Down_init, b_Down_init := b_Down_init,
    f_Sticky_init := f_Sticky_init, fd_Sticky_init := _, F_Sticky_init := F_Sticky_init, b_Sticky_init := b_Sticky_init,
    f_Grid_init := f_Grid_init, fd_Grid_init := _, F_Grid_init := F_Grid_init, b_Grid_init := b_Grid_init,
    f_Clamp_init := f_Clamp_init, fd_Clamp_init := _, F_Clamp_init := F_Clamp_init, b_Clamp_init := b_Clamp_init,
    f_Wrap_init := f_Wrap_init, fd_Wrap_init := _, F_Wrap_init := F_Wrap_init, b_Wrap_init := b_Wrap_init,
    f_Then_init := f_Then_init, fd_Then_init := _, F_Then_init := F_Then_init, b_Then_init := b_Then_init,
    f_law_built := f_law_built, fd_law_built := _, F_law_built := F_law_built, m_law_built := PySem.W.mg_of X G a_law_built, b_law_built := b_law_built,
    f_law_near := f_law_near, fd_law_near := _, F_law_near := F_law_near, m_law_near := PySem.W.mg_of X G a_law_near, b_law_near := b_law_near,
    f_law_about := f_law_about, fd_law_about := _, F_law_about := F_law_about, m_law_about := PySem.W.mg_of X G a_law_about, b_law_about := b_law_about,
    f_law_pairs := f_law_pairs, fd_law_pairs := _, F_law_pairs := F_law_pairs, m_law_pairs := PySem.W.mg_of X G a_law_pairs, b_law_pairs := b_law_pairs,
    f_law_kept := f_law_kept, fd_law_kept := _, F_law_kept := F_law_kept, m_law_kept := PySem.W.mg_of X G a_law_kept, b_law_kept := b_law_kept,
    f_Rounding_keeps := f_Rounding_keeps, fd_Rounding_keeps := _, F_Rounding_keeps := F_Rounding_keeps, b_Rounding_keeps := b_Rounding_keeps,
    f_Wrap_keeps := f_Wrap_keeps, fd_Wrap_keeps := _, F_Wrap_keeps := F_Wrap_keeps, b_Wrap_keeps := b_Wrap_keeps,
    f_Clamp_keeps := f_Clamp_keeps, fd_Clamp_keeps := _, F_Clamp_keeps := F_Clamp_keeps, b_Clamp_keeps := b_Clamp_keeps,
    f_Grid_keeps := f_Grid_keeps, fd_Grid_keeps := _, F_Grid_keeps := F_Grid_keeps, b_Grid_keeps := b_Grid_keeps,
    f_Sticky_keeps := f_Sticky_keeps, fd_Sticky_keeps := _, F_Sticky_keeps := F_Sticky_keeps, b_Sticky_keeps := b_Sticky_keeps,
    f_Down_keeps := f_Down_keeps, fd_Down_keeps := _, F_Down_keeps := F_Down_keeps, b_Down_keeps := b_Down_keeps,
    f_Up_keeps := f_Up_keeps, fd_Up_keeps := _, F_Up_keeps := F_Up_keeps, b_Up_keeps := b_Up_keeps,
    f_Cut_keeps := f_Cut_keeps, fd_Cut_keeps := _, F_Cut_keeps := F_Cut_keeps, b_Cut_keeps := b_Cut_keeps,
    f_Nearest_keeps := f_Nearest_keeps, fd_Nearest_keeps := _, F_Nearest_keeps := F_Nearest_keeps, b_Nearest_keeps := b_Nearest_keeps,
    f_Then_keeps := f_Then_keeps, fd_Then_keeps := _, F_Then_keeps := F_Then_keeps, b_Then_keeps := b_Then_keeps,
    f_law_witness := f_law_witness, fd_law_witness := _, F_law_witness := F_law_witness, m_law_witness := PySem.W.mg_of X G a_law_witness, b_law_witness := b_law_witness,
    f_Rounding_call := f_Rounding_call, fd_Rounding_call := _, F_Rounding_call := F_Rounding_call, b_Rounding_call := b_Rounding_call,
    f_Wrap_call := f_Wrap_call, fd_Wrap_call := _, F_Wrap_call := F_Wrap_call, b_Wrap_call := b_Wrap_call,
    f_Clamp_call := f_Clamp_call, fd_Clamp_call := _, F_Clamp_call := F_Clamp_call, b_Clamp_call := b_Clamp_call,
    f_signed := f_signed, fd_signed := _, F_signed := F_signed, m_signed := PySem.W.mg_of X G a_signed, b_signed := b_signed,
    f_Grid_call := f_Grid_call, fd_Grid_call := _, F_Grid_call := F_Grid_call, b_Grid_call := b_Grid_call,
    f_unit_of := f_unit_of, fd_unit_of := _, F_unit_of := F_unit_of, m_unit_of := PySem.W.mg_of X G a_unit_of, b_unit_of := b_unit_of,
    f_Sticky_call := f_Sticky_call, fd_Sticky_call := _, F_Sticky_call := F_Sticky_call, b_Sticky_call := b_Sticky_call,
    f_Down_call := f_Down_call, fd_Down_call := _, F_Down_call := F_Down_call, b_Down_call := b_Down_call,
    f_Up_call := f_Up_call, fd_Up_call := _, F_Up_call := F_Up_call, b_Up_call := b_Up_call,
    f_Cut_call := f_Cut_call, fd_Cut_call := _, F_Cut_call := F_Cut_call, b_Cut_call := b_Cut_call,
    f_Nearest_call := f_Nearest_call, fd_Nearest_call := _, F_Nearest_call := F_Nearest_call, b_Nearest_call := b_Nearest_call,
    f_Then_call := f_Then_call, fd_Then_call := _, F_Then_call := F_Then_call, b_Then_call := b_Then_call,
    f_law_breaks := f_law_breaks, fd_law_breaks := _, F_law_breaks := F_law_breaks, m_law_breaks := PySem.W.mg_of X G a_law_breaks, b_law_breaks := b_law_breaks,
    f_law_told_right := f_law_told_right, fd_law_told_right := _, F_law_told_right := F_law_told_right, m_law_told_right := PySem.W.mg_of X G a_law_told_right, b_law_told_right := b_law_told_right,
    f_law_held := f_law_held, fd_law_held := _, F_law_held := F_law_held, m_law_held := PySem.W.mg_of X G a_law_held, b_law_held := b_law_held,
    f_law := fa, fd_law := _, F_law := F_law, m_law := PySem.W.mg_of X G a_law, b_law := b_law,
    kb_Then_keeps_1_word := kb_Then_keeps_1_word,
    kb_Rounding_keeps_1_word := kb_Rounding_keeps_1_word,
    kb_Wrap_keeps_1_word := kb_Wrap_keeps_1_word,
    kb_Clamp_keeps_1_word := kb_Clamp_keeps_1_word,
    kb_Grid_keeps_1_word := kb_Grid_keeps_1_word,
    kb_Sticky_keeps_1_word := kb_Sticky_keeps_1_word,
    kb_Down_keeps_1_word := kb_Down_keeps_1_word,
    kb_Up_keeps_1_word := kb_Up_keeps_1_word,
    kb_Cut_keeps_1_word := kb_Cut_keeps_1_word,
    kb_Nearest_keeps_1_word := kb_Nearest_keeps_1_word,
    n_range := PySem.W.mg_none_of X G n_range,
    n_int := PySem.W.mg_none_of X G n_int,
    n_list := PySem.W.mg_none_of X G n_list,
    n_len := PySem.W.mg_none_of X G n_len,
    n_abs := PySem.W.mg_none_of X G n_abs,
    n_isinstance := PySem.W.mg_none_of X G n_isinstance,
    n_bool := PySem.W.mg_none_of X G n_bool,
    n_max := PySem.W.mg_none_of X G n_max,
    n_min := PySem.W.mg_none_of X G n_min }
  exact ⟨_, fun s v => .of_eq rfl, fun base _ _ => ok_law T⟩
end LW
open PySem PySem.W PyProof.Rows
set_option maxRecDepth 100000 in
set_option maxHeartbeats 0 in
theorem PySem.Challenge.cw_everyround_k13_whole_traits_told_and_kep_holds : PySem.Challenge.rw_everyround_k13_whole_traits_told_and_kep.Holds := by
  w_on; o_law; k_head; (case hw => w_witness2)
  k_fill
  refine DL.walkG (l := PySem.Challenge.rw_everyround_k13_whole_traits_told_and_kep) (n := 63) (k := 10) (x := "_law_script") rfl (by decide) rfl ⟨rfl, by decide, by decide⟩ (fun w h Y => PySem.W.kIn_of Y) ?F
  case F =>
    intro w mg fa h KX G hmg
    refine' LW.all_mk KX G hmg ?a_Then ?a_Rounding ?a_Wrap ?a_Clamp ?a_Grid ?a_Sticky ?a_Down ?a_Up ?a_Cut ?a_Nearest ?pg_Then ?hd_Then ?po_Then ?sa_Then ?kc_Then ?cc_Then ?fn_Then_call ?fi_Then_call ?ma_Then ?at_Then_init ?fn_Then_init ?no_Then_first ?no_Then_second ?ai_Then_keeps ?fn_Then_keeps ?pg_Rounding ?hd_Rounding ?po_Rounding ?sa_Rounding ?kc_Rounding ?cc_Rounding ?fn_Rounding_call ?fi_Rounding_call ?ma_Rounding ?oi_Rounding ?ai_Rounding_keeps ?fn_Rounding_keeps ?pg_Wrap ?hd_Wrap ?po_Wrap ?sa_Wrap ?kc_Wrap ?cc_Wrap ?fn_Wrap_call ?fi_Wrap_call ?ma_Wrap ?at_Wrap_init ?fn_Wrap_init ?no_Wrap_modulus ?no_Wrap_low ?ai_Wrap_keeps ?fn_Wrap_keeps ?pg_Clamp ?hd_Clamp ?po_Clamp ?sa_Clamp ?kc_Clamp ?cc_Clamp ?fn_Clamp_call ?fi_Clamp_call ?ma_Clamp ?at_Clamp_init ?fn_Clamp_init ?no_Clamp_low ?no_Clamp_high ?ai_Clamp_keeps ?fn_Clamp_keeps ?pg_Grid ?hd_Grid ?po_Grid ?sa_Grid ?kc_Grid ?cc_Grid ?fn_Grid_call ?fi_Grid_call ?ma_Grid ?at_Grid_init ?fn_Grid_init ?no_Grid_step ?ai_Grid_keeps ?fn_Grid_keeps ?pg_Sticky ?hd_Sticky ?po_Sticky ?sa_Sticky ?kc_Sticky ?cc_Sticky ?fn_Sticky_call ?fi_Sticky_call ?ma_Sticky ?at_Sticky_init ?fn_Sticky_init ?no_Sticky_bits ?ai_Sticky_keeps ?fn_Sticky_keeps ?pg_Down ?hd_Down ?po_Down ?sa_Down ?kc_Down ?cc_Down ?fn_Down_call ?fi_Down_call ?ma_Down ?at_Down_init ?fn_Down_init ?no_Down_bits ?ai_Down_keeps ?fn_Down_keeps ?pg_Up ?hd_Up ?po_Up ?sa_Up ?kc_Up ?cc_Up ?fn_Up_call ?fi_Up_call ?ma_Up ?at_Up_init ?fn_Up_init ?no_Up_bits ?ai_Up_keeps ?fn_Up_keeps ?pg_Cut ?hd_Cut ?po_Cut ?sa_Cut ?kc_Cut ?cc_Cut ?fn_Cut_call ?fi_Cut_call ?ma_Cut ?at_Cut_init ?fn_Cut_init ?no_Cut_bits ?ai_Cut_keeps ?fn_Cut_keeps ?pg_Nearest ?hd_Nearest ?po_Nearest ?sa_Nearest ?kc_Nearest ?cc_Nearest ?fn_Nearest_call ?fi_Nearest_call ?ma_Nearest ?at_Nearest_init ?fn_Nearest_init ?no_Nearest_bits ?ai_Nearest_keeps ?fn_Nearest_keeps ?a_law_deck ?l_law_deck ?c_law_deck ?k_law_deck ?a_law_draw ?l_law_draw ?c_law_draw ?k_law_draw ?a_law_sum ?l_law_sum ?c_law_sum ?k_law_sum ?a_law_one ?l_law_one ?c_law_one ?k_law_one ?a_law_bits ?l_law_bits ?c_law_bits ?k_law_bits ?a_law_spec ?l_law_spec ?c_law_spec ?k_law_spec ?l_Nearest_init ?c_Nearest_init ?k_Nearest_init ?l_Cut_init ?c_Cut_init ?k_Cut_init ?l_Up_init ?c_Up_init ?k_Up_init ?l_Down_init ?c_Down_init ?k_Down_init ?l_Sticky_init ?c_Sticky_init ?k_Sticky_init ?l_Grid_init ?c_Grid_init ?k_Grid_init ?l_Clamp_init ?c_Clamp_init ?k_Clamp_init ?l_Wrap_init ?c_Wrap_init ?k_Wrap_init ?l_Then_init ?c_Then_init ?k_Then_init ?a_law_built ?l_law_built ?c_law_built ?k_law_built ?a_law_near ?l_law_near ?c_law_near ?k_law_near ?a_law_about ?l_law_about ?c_law_about ?k_law_about ?a_law_pairs ?l_law_pairs ?c_law_pairs ?k_law_pairs ?a_law_kept ?l_law_kept ?c_law_kept ?k_law_kept ?l_Rounding_keeps ?c_Rounding_keeps ?k_Rounding_keeps ?l_Wrap_keeps ?c_Wrap_keeps ?k_Wrap_keeps ?l_Clamp_keeps ?c_Clamp_keeps ?k_Clamp_keeps ?l_Grid_keeps ?c_Grid_keeps ?k_Grid_keeps ?l_Sticky_keeps ?c_Sticky_keeps ?k_Sticky_keeps ?l_Down_keeps ?c_Down_keeps ?k_Down_keeps ?l_Up_keeps ?c_Up_keeps ?k_Up_keeps ?l_Cut_keeps ?c_Cut_keeps ?k_Cut_keeps ?l_Nearest_keeps ?c_Nearest_keeps ?k_Nearest_keeps ?l_Then_keeps ?c_Then_keeps ?k_Then_keeps ?a_law_witness ?l_law_witness ?c_law_witness ?k_law_witness ?l_Rounding_call ?c_Rounding_call ?k_Rounding_call ?l_Wrap_call ?c_Wrap_call ?k_Wrap_call ?l_Clamp_call ?c_Clamp_call ?k_Clamp_call ?a_signed ?l_signed ?c_signed ?k_signed ?l_Grid_call ?c_Grid_call ?k_Grid_call ?a_unit_of ?l_unit_of ?c_unit_of ?k_unit_of ?l_Sticky_call ?c_Sticky_call ?k_Sticky_call ?l_Down_call ?c_Down_call ?k_Down_call ?l_Up_call ?c_Up_call ?k_Up_call ?l_Cut_call ?c_Cut_call ?k_Cut_call ?l_Nearest_call ?c_Nearest_call ?k_Nearest_call ?l_Then_call ?c_Then_call ?k_Then_call ?a_law_breaks ?l_law_breaks ?c_law_breaks ?k_law_breaks ?a_law_told_right ?l_law_told_right ?c_law_told_right ?k_law_told_right ?a_law_held ?l_law_held ?c_law_held ?k_law_held ?a_law ?l_law ?c_law ?k_law ?n_range ?n_int ?n_list ?n_len ?n_abs ?n_isinstance ?n_bool ?n_max ?n_min
    (case a_Then => k_is)
    (case a_Rounding => k_is)
    (case a_Wrap => k_is)
    (case a_Clamp => k_is)
    (case a_Grid => k_is)
    (case a_Sticky => k_is)
    (case a_Down => k_is)
    (case a_Up => k_is)
    (case a_Cut => k_is)
    (case a_Nearest => k_is)
    (case pg_Then => k_is)
    (case hd_Then => k_is)
    (case po_Then => k_is)
    (case sa_Then => k_is)
    (case kc_Then => k_is)
    (case cc_Then => k_is)
    (case fn_Then_call => k_is)
    (case fi_Then_call => k_is)
    (case ma_Then => k_is)
    (case at_Then_init => k_is)
    (case fn_Then_init => k_is)
    (case no_Then_first => k_is)
    (case no_Then_second => k_is)
    (case ai_Then_keeps => k_is)
    (case fn_Then_keeps => k_is)
    (case pg_Rounding => k_is)
    (case hd_Rounding => k_is)
    (case po_Rounding => k_is)
    (case sa_Rounding => k_is)
    (case kc_Rounding => k_is)
    (case cc_Rounding => k_is)
    (case fn_Rounding_call => k_is)
    (case fi_Rounding_call => k_is)
    (case ma_Rounding => k_is)
    (case oi_Rounding => k_is)
    (case ai_Rounding_keeps => k_is)
    (case fn_Rounding_keeps => k_is)
    (case pg_Wrap => k_is)
    (case hd_Wrap => k_is)
    (case po_Wrap => k_is)
    (case sa_Wrap => k_is)
    (case kc_Wrap => k_is)
    (case cc_Wrap => k_is)
    (case fn_Wrap_call => k_is)
    (case fi_Wrap_call => k_is)
    (case ma_Wrap => k_is)
    (case at_Wrap_init => k_is)
    (case fn_Wrap_init => k_is)
    (case no_Wrap_modulus => k_is)
    (case no_Wrap_low => k_is)
    (case ai_Wrap_keeps => k_is)
    (case fn_Wrap_keeps => k_is)
    (case pg_Clamp => k_is)
    (case hd_Clamp => k_is)
    (case po_Clamp => k_is)
    (case sa_Clamp => k_is)
    (case kc_Clamp => k_is)
    (case cc_Clamp => k_is)
    (case fn_Clamp_call => k_is)
    (case fi_Clamp_call => k_is)
    (case ma_Clamp => k_is)
    (case at_Clamp_init => k_is)
    (case fn_Clamp_init => k_is)
    (case no_Clamp_low => k_is)
    (case no_Clamp_high => k_is)
    (case ai_Clamp_keeps => k_is)
    (case fn_Clamp_keeps => k_is)
    (case pg_Grid => k_is)
    (case hd_Grid => k_is)
    (case po_Grid => k_is)
    (case sa_Grid => k_is)
    (case kc_Grid => k_is)
    (case cc_Grid => k_is)
    (case fn_Grid_call => k_is)
    (case fi_Grid_call => k_is)
    (case ma_Grid => k_is)
    (case at_Grid_init => k_is)
    (case fn_Grid_init => k_is)
    (case no_Grid_step => k_is)
    (case ai_Grid_keeps => k_is)
    (case fn_Grid_keeps => k_is)
    (case pg_Sticky => k_is)
    (case hd_Sticky => k_is)
    (case po_Sticky => k_is)
    (case sa_Sticky => k_is)
    (case kc_Sticky => k_is)
    (case cc_Sticky => k_is)
    (case fn_Sticky_call => k_is)
    (case fi_Sticky_call => k_is)
    (case ma_Sticky => k_is)
    (case at_Sticky_init => k_is)
    (case fn_Sticky_init => k_is)
    (case no_Sticky_bits => k_is)
    (case ai_Sticky_keeps => k_is)
    (case fn_Sticky_keeps => k_is)
    (case pg_Down => k_is)
    (case hd_Down => k_is)
    (case po_Down => k_is)
    (case sa_Down => k_is)
    (case kc_Down => k_is)
    (case cc_Down => k_is)
    (case fn_Down_call => k_is)
    (case fi_Down_call => k_is)
    (case ma_Down => k_is)
    (case at_Down_init => k_is)
    (case fn_Down_init => k_is)
    (case no_Down_bits => k_is)
    (case ai_Down_keeps => k_is)
    (case fn_Down_keeps => k_is)
    (case pg_Up => k_is)
    (case hd_Up => k_is)
    (case po_Up => k_is)
    (case sa_Up => k_is)
    (case kc_Up => k_is)
    (case cc_Up => k_is)
    (case fn_Up_call => k_is)
    (case fi_Up_call => k_is)
    (case ma_Up => k_is)
    (case at_Up_init => k_is)
    (case fn_Up_init => k_is)
    (case no_Up_bits => k_is)
    (case ai_Up_keeps => k_is)
    (case fn_Up_keeps => k_is)
    (case pg_Cut => k_is)
    (case hd_Cut => k_is)
    (case po_Cut => k_is)
    (case sa_Cut => k_is)
    (case kc_Cut => k_is)
    (case cc_Cut => k_is)
    (case fn_Cut_call => k_is)
    (case fi_Cut_call => k_is)
    (case ma_Cut => k_is)
    (case at_Cut_init => k_is)
    (case fn_Cut_init => k_is)
    (case no_Cut_bits => k_is)
    (case ai_Cut_keeps => k_is)
    (case fn_Cut_keeps => k_is)
    (case pg_Nearest => k_is)
    (case hd_Nearest => k_is)
    (case po_Nearest => k_is)
    (case sa_Nearest => k_is)
    (case kc_Nearest => k_is)
    (case cc_Nearest => k_is)
    (case fn_Nearest_call => k_is)
    (case fi_Nearest_call => k_is)
    (case ma_Nearest => k_is)
    (case at_Nearest_init => k_is)
    (case fn_Nearest_init => k_is)
    (case no_Nearest_bits => k_is)
    (case ai_Nearest_keeps => k_is)
    (case fn_Nearest_keeps => k_is)
    (case a_law_deck => k_is)
    (case l_law_deck => k_is)
    (case c_law_deck => k_is)
    (case k_law_deck => k_is)
    (case a_law_draw => k_is)
    (case l_law_draw => k_is)
    (case c_law_draw => k_is)
    (case k_law_draw => k_is)
    (case a_law_sum => k_is)
    (case l_law_sum => k_is)
    (case c_law_sum => k_is)
    (case k_law_sum => k_is)
    (case a_law_one => k_is)
    (case l_law_one => k_is)
    (case c_law_one => k_is)
    (case k_law_one => k_is)
    (case a_law_bits => k_is)
    (case l_law_bits => k_is)
    (case c_law_bits => k_is)
    (case k_law_bits => k_is)
    (case a_law_spec => k_is)
    (case l_law_spec => k_is)
    (case c_law_spec => k_is)
    (case k_law_spec => k_is)
    (case l_Nearest_init => k_is)
    (case c_Nearest_init => k_is)
    (case k_Nearest_init => k_is)
    (case l_Cut_init => k_is)
    (case c_Cut_init => k_is)
    (case k_Cut_init => k_is)
    (case l_Up_init => k_is)
    (case c_Up_init => k_is)
    (case k_Up_init => k_is)
    (case l_Down_init => k_is)
    (case c_Down_init => k_is)
    (case k_Down_init => k_is)
    (case l_Sticky_init => k_is)
    (case c_Sticky_init => k_is)
    (case k_Sticky_init => k_is)
    (case l_Grid_init => k_is)
    (case c_Grid_init => k_is)
    (case k_Grid_init => k_is)
    (case l_Clamp_init => k_is)
    (case c_Clamp_init => k_is)
    (case k_Clamp_init => k_is)
    (case l_Wrap_init => k_is)
    (case c_Wrap_init => k_is)
    (case k_Wrap_init => k_is)
    (case l_Then_init => k_is)
    (case c_Then_init => k_is)
    (case k_Then_init => k_is)
    (case a_law_built => k_is)
    (case l_law_built => k_is)
    (case c_law_built => k_is)
    (case k_law_built => k_is)
    (case a_law_near => k_is)
    (case l_law_near => k_is)
    (case c_law_near => k_is)
    (case k_law_near => k_is)
    (case a_law_about => k_is)
    (case l_law_about => k_is)
    (case c_law_about => k_is)
    (case k_law_about => k_is)
    (case a_law_pairs => k_is)
    (case l_law_pairs => k_is)
    (case c_law_pairs => k_is)
    (case k_law_pairs => k_is)
    (case a_law_kept => k_is)
    (case l_law_kept => k_is)
    (case c_law_kept => k_is)
    (case k_law_kept => k_is)
    (case l_Rounding_keeps => k_is)
    (case c_Rounding_keeps => k_is)
    (case k_Rounding_keeps => k_is)
    (case l_Wrap_keeps => k_is)
    (case c_Wrap_keeps => k_is)
    (case k_Wrap_keeps => k_is)
    (case l_Clamp_keeps => k_is)
    (case c_Clamp_keeps => k_is)
    (case k_Clamp_keeps => k_is)
    (case l_Grid_keeps => k_is)
    (case c_Grid_keeps => k_is)
    (case k_Grid_keeps => k_is)
    (case l_Sticky_keeps => k_is)
    (case c_Sticky_keeps => k_is)
    (case k_Sticky_keeps => k_is)
    (case l_Down_keeps => k_is)
    (case c_Down_keeps => k_is)
    (case k_Down_keeps => k_is)
    (case l_Up_keeps => k_is)
    (case c_Up_keeps => k_is)
    (case k_Up_keeps => k_is)
    (case l_Cut_keeps => k_is)
    (case c_Cut_keeps => k_is)
    (case k_Cut_keeps => k_is)
    (case l_Nearest_keeps => k_is)
    (case c_Nearest_keeps => k_is)
    (case k_Nearest_keeps => k_is)
    (case l_Then_keeps => k_is)
    (case c_Then_keeps => k_is)
    (case k_Then_keeps => k_is)
    (case a_law_witness => k_is)
    (case l_law_witness => k_is)
    (case c_law_witness => k_is)
    (case k_law_witness => k_is)
    (case l_Rounding_call => k_is)
    (case c_Rounding_call => k_is)
    (case k_Rounding_call => k_is)
    (case l_Wrap_call => k_is)
    (case c_Wrap_call => k_is)
    (case k_Wrap_call => k_is)
    (case l_Clamp_call => k_is)
    (case c_Clamp_call => k_is)
    (case k_Clamp_call => k_is)
    (case a_signed => k_is)
    (case l_signed => k_is)
    (case c_signed => k_is)
    (case k_signed => k_is)
    (case l_Grid_call => k_is)
    (case c_Grid_call => k_is)
    (case k_Grid_call => k_is)
    (case a_unit_of => k_is)
    (case l_unit_of => k_is)
    (case c_unit_of => k_is)
    (case k_unit_of => k_is)
    (case l_Sticky_call => k_is)
    (case c_Sticky_call => k_is)
    (case k_Sticky_call => k_is)
    (case l_Down_call => k_is)
    (case c_Down_call => k_is)
    (case k_Down_call => k_is)
    (case l_Up_call => k_is)
    (case c_Up_call => k_is)
    (case k_Up_call => k_is)
    (case l_Cut_call => k_is)
    (case c_Cut_call => k_is)
    (case k_Cut_call => k_is)
    (case l_Nearest_call => k_is)
    (case c_Nearest_call => k_is)
    (case k_Nearest_call => k_is)
    (case l_Then_call => k_is)
    (case c_Then_call => k_is)
    (case k_Then_call => k_is)
    (case a_law_breaks => k_is)
    (case l_law_breaks => k_is)
    (case c_law_breaks => k_is)
    (case k_law_breaks => k_is)
    (case a_law_told_right => k_is)
    (case l_law_told_right => k_is)
    (case c_law_told_right => k_is)
    (case k_law_told_right => k_is)
    (case a_law_held => k_is)
    (case l_law_held => k_is)
    (case c_law_held => k_is)
    (case k_law_held => k_is)
    (case a_law => k_is)
    (case l_law => k_is)
    (case c_law => k_is)
    (case k_law => k_is)
    (case n_range => k_is)
    (case n_int => k_is)
    (case n_list => k_is)
    (case n_len => k_is)
    (case n_abs => k_is)
    (case n_isinstance => k_is)
    (case n_bool => k_is)
    (case n_max => k_is)
    (case n_min => k_is)
#print axioms PySem.Challenge.cw_everyround_k13_whole_traits_told_and_kep_holds
