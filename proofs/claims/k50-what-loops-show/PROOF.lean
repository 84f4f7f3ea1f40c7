import PyProof.Rows.All
import Wide.All
import OpenK.AllK
import HandS.Nested
import Wide.FinOn
import HandS.ForMost
import HandS.ForExc
import HandS.Wide
import HandS.Flow
import HandS.TryMany
import HandS.IsInst
import HandS.WideBits
import HandS.TupAny
import HandS.More
import HandS.Deep
import HandS.Comp
import HandS.EndBits
import HandS.TupMul
import HandS.Dict
import HandS.Style
import HandS.Star
import OpenK.KOps
import OpenK.KMeth
import HandS.Property
import HandS.Small
import HandS.ExcInit
import HandS.FStr
import HandS.Text
import HandS.TryOnly
import HandS.SortInts
import HandS.ExcIs
import KE.GoesMore
import PyProof.EnumMake
import HandS.ClsMeth
import HandS.SetKeys
import HandS.SuiteRaise
import HandS.RaiseFrom
import HandS.ExcInitHot
import HandS.OwnEq
import PyProof.FactsAll.dict_1
import PyProof.FactsAll.NoneType_1
import PyProof.ListStr
import HandS.Conv
import PyProof.FactsAll.int_1
import PyProof.FactsAll.int_3
import PyProof.FactsAll.int_5
import HandS.Zip
import HandS.ExcOwn
import HandS.StrSplit
import PyProof.StrOps2
import PyProof.CallFns
import PyProof.ReprHeadsTuple
import HandS.HotCalls
import KE.KNestM
import HandS.EndTab
import PyProof.ReprRoads
import PyProof.Rows.StrOr
import PySem.Challenge.RW_everyround_k50_what_loops_show
set_option Elab.async false
set_option linter.all false
set_option maxRecDepth 100000
set_option maxHeartbeats 4000000
namespace DL
open PySem PySem.Spec PyProof.Rows L2
open PySem.W (Frag)

/-- data: tuples, frozen lists, frozen objects and frozen dicts by value; what may change by its address -/
inductive D where
  | non | bl (b : Bool) | int (i : Int) | str (x : Str)
  | tup (xs : List D) | lst (xs : List D) | wls (xs : List D)
  | obj (c : Str) (ns : List Str) (vs : List D)
  | dct (ks vs : List D)
  | ref (a : Addr) | ty (n : String) | gv (n : Str)
  | xe (a dd : Addr) (ns : List Str) (vs : List D)
/-- what stands at an address that may change -/
inductive HOD where
  | lst (xs : List D) | ins (c : Str) (ns : List Str) (vs : List D) | dK (kvs : List (Key × D)) | dT (kvs : List (List Key × D)) | tab (nm : Nat → Nat → Str)
abbrev HH := Addr → Option HOD

/-- what the text's own global name n holds: a def, a class -/
def gaddr (K : Frag) (n : Str) : Option Addr := match PySem.W.nsIn K mainGlobals n with
  | some (some (.ref a)) => some a
  | _ => none
theorem gaddr_of {K : Frag} {n : Str} {a : Addr} (h : PySem.W.nsIn K mainGlobals n = some (some (.ref a))) : gaddr K n = some a := by unfold gaddr; rw [h]
def kD : Key → D
  | .inl i => .int i
  | .inr x => .str x

/-- a tuple that is read: tracked and frozen, or written -/
def FT (K : Frag) (H : Hp) (G : HH) (a : Addr) (xs : List V) : Prop := (H a = some (.tup xs) ∧ G a = none) ∨
  ∃ (o : Obj) (its : Array Value) (n : Nat), K.lookup a = some o ∧ o.cls = .type "tuple" ∧ o.data = .seq its n ∧ its.size ≤ sizeLine ∧ Vals xs its.toList
theorem FT.sq {K H G a xs} (h : FT K H G a xs) : SqT K H a xs := h.elim (fun z => .inl (.inl z.1)) .inr
/-- a list that nobody may change: the script, a list of the written part -/
def FW (K : Frag) (H : Hp) (G : HH) (a : Addr) (xs : List V) : Prop := (Rd H a (.lst xs) ∧ G a = none) ∨
  ∃ (o : Obj) (its : Array Value) (n : Nat), K.lookup a = some o ∧ o.cls = .type "list" ∧ o.dict = none ∧ o.data = .seq its n ∧ its.size ≤ sizeLine ∧ Vals xs its.toList
theorem FW.sq {K H G a xs} (h : FW K H G a xs) : SqL K H a xs := h.elim (fun z => .inl z.1) .inr

mutual
inductive Rp (K : Frag) (H : Hp) (G : HH) : D → V → Prop
  | non : Rp K H G .non .non
  | bl (b : Bool) : Rp K H G (.bl b) (.bl b)
  | int (i : Int) : Rp K H G (.int i) (.int i)
  | str (x : Str) : Rp K H G (.str x) (.str x)
  | ty (n : String) : Rp K H G (.ty n) (.ty n)
  | ref (a : Addr) : Rp K H G (.ref a) (.ref a)
  | tup {a : Addr} {xs : List V} {ds : List D} : FT K H G a xs → Rps K H G ds xs → Rp K H G (.tup ds) (.ref a)
  | lst {a : Addr} {xs : List V} {ds : List D} : H a = some (.lst xs) → G a = none → Rps K H G ds xs → Rp K H G (.lst ds) (.ref a)
  | wls {a : Addr} {xs : List V} {ds : List D} : FW K H G a xs → Rps K H G ds xs → Rp K H G (.wls ds) (.ref a)
  | gv {a : Addr} {n : Str} : gaddr K n = some a → Rp K H G (.gv n) (.ref a)
  | obj {a dx C : Addr} {c : Str} {ns : List Str} {xs : List V} {ds : List D} : gaddr K c = some C → H a = some (.ins C dx (ns.zip xs)) → G a = none → ns.length = xs.length → Rps K H G ds xs → Rp K H G (.obj c ns ds) (.ref a)
  | xe {a dd : Addr} {ns : List Str} {xs : List V} {ds : List D} : H dd = some (.xd (ns.zip xs)) → G dd = none → ns.length = xs.length → Rps K H G ds xs → Rp K H G (.xe a dd ns ds) (.ref a)
  | dK {a : Addr} {kvs : List (Key × V)} {ks ds : List D} : Rd H a (.dK kvs) → G a = none → ks = kvs.map (fun p => kD p.1) → Rps K H G ds (kvs.map (·.2)) → Rp K H G (.dct ks ds) (.ref a)
  | dT {a : Addr} {kvs : List (List Key × V)} {ks ds : List D} : Rd H a (.dT kvs) → G a = none → ks = kvs.map (fun p => D.tup (p.1.map kD)) → Rps K H G ds (kvs.map (·.2)) → Rp K H G (.dct ks ds) (.ref a)
inductive Rps (K : Frag) (H : Hp) (G : HH) : List D → List V → Prop
  | nil : Rps K H G [] []
  | cons {d : D} {v : V} {ds : List D} {vs : List V} : Rp K H G d v → Rps K H G ds vs → Rps K H G (d :: ds) (v :: vs)
end

/-- kinds that a lock may not touch -/
def plainO : HO → Bool
  | .dK _ => false
  | .dT _ => false
  | .frz _ (.ext _) => true
  | .frz _ _ => false
  | .set _ _ => false
  | _ => true
/-- a step: what was frozen stays, nothing that stood thaws -/
structure Stp (H : Hp) (G : HH) (H' : Hp) (G' : HH) : Prop where
  keep : ∀ b o, H b = some o → G b = none → plainO o = true → H' b = some o
  keepR : ∀ b o, Rd H b o → G b = none → Rd H' b o
  dom : ∀ b, H b ≠ none → G b = none → G' b = none
theorem rd_ne {H : Hp} {a : Addr} {o : HO} (h : Rd H a o) : H a ≠ none := by
  rcases h with h | ⟨_, h⟩ <;> rw [h] <;> simp
theorem ne_none {H : Hp} {a : Addr} {o : HO} (h : H a = some o) : H a ≠ none := by rw [h]; simp
theorem Stp.refl {H G} : Stp H G H G := ⟨fun _ _ h _ _ => h, fun _ _ h _ => h, fun _ _ h => h⟩
theorem Stp.there {H G H' G'} (s : Stp H G H' G') {b} (h : H b ≠ none) (g : G b = none) : H' b ≠ none := by
  cases e : H b with
  | none => exact absurd e h
  | some o => exact rd_ne (s.keepR b o (.inl e) g)
theorem Stp.trans {H G H1 G1 H2 G2} (a : Stp H G H1 G1) (b : Stp H1 G1 H2 G2) : Stp H G H2 G2 :=
  ⟨fun c o h g p => b.keep c o (a.keep c o h g p) (a.dom c (ne_none h) g) p, fun c o h g => b.keepR c o (a.keepR c o h g) (a.dom c (rd_ne h) g), fun c h g => b.dom c (a.there h g) (a.dom c h g)⟩
theorem FT.mono {K H G H' G' a xs} (s : Stp H G H' G') (h : FT K H G a xs) : FT K H' G' a xs :=
  h.elim (fun z => .inl ⟨s.keep _ _ z.1 z.2 rfl, s.dom _ (ne_none z.1) z.2⟩) .inr
theorem FW.mono {K H G H' G' a xs} (s : Stp H G H' G') (h : FW K H G a xs) : FW K H' G' a xs :=
  h.elim (fun z => .inl ⟨s.keepR _ _ z.1 z.2, s.dom _ (rd_ne z.1) z.2⟩) .inr
mutual
theorem Rp.mono {K H G H' G'} (s : Stp H G H' G') : ∀ {d v}, Rp K H G d v → Rp K H' G' d v
  | _, _, .non => .non
  | _, _, .bl b => .bl b
  | _, _, .int i => .int i
  | _, _, .str x => .str x
  | _, _, .ty n => .ty n
  | _, _, .ref a => .ref a
  | _, _, .tup h r => .tup (h.mono s) (Rps.mono s r)
  | _, _, .lst h g r => .lst (s.keep _ _ h g rfl) (s.dom _ (ne_none h) g) (Rps.mono s r)
  | _, _, .wls h r => .wls (h.mono s) (Rps.mono s r)
  | _, _, .gv h => .gv h
  | _, _, .obj hc h g e r => .obj hc (s.keep _ _ h g rfl) (s.dom _ (ne_none h) g) e (Rps.mono s r)
  | _, _, .xe h g e r => .xe (s.keep _ _ h g rfl) (s.dom _ (ne_none h) g) e (Rps.mono s r)
  | _, _, .dK h g e r => .dK (s.keepR _ _ h g) (s.dom _ (rd_ne h) g) e (Rps.mono s r)
  | _, _, .dT h g e r => .dT (s.keepR _ _ h g) (s.dom _ (rd_ne h) g) e (Rps.mono s r)
theorem Rps.mono {K H G H' G'} (s : Stp H G H' G') : ∀ {ds vs}, Rps K H G ds vs → Rps K H' G' ds vs
  | _, _, .nil => .nil
  | _, _, .cons a r => .cons (Rp.mono s a) (Rps.mono s r)
end
theorem Rps.length {K H G} : ∀ {ds vs}, Rps K H G ds vs → ds.length = vs.length
  | _, _, .nil => rfl
  | _, _, .cons _ r => by simp [Rps.length r]
theorem Rps.get {K H G} : ∀ {ds : List D} {vs : List V} {i : Nat} {d : D}, Rps K H G ds vs → ds[i]? = some d → ∃ v, vs[i]? = some v ∧ Rp K H G d v
  | _, _, _, _, .nil, e => by simp at e
  | _, _, 0, _, .cons a _, e => by simp at e; subst e; exact ⟨_, rfl, a⟩
  | _, _, i + 1, d, .cons _ r, e => by
    obtain ⟨v, h1, h2⟩ := Rps.get (i := i) (d := d) r (by simpa using e)
    exact ⟨v, by simpa using h1, h2⟩
theorem Rps.append {K H G} : ∀ {ds es : List D} {vs ws : List V}, Rps K H G ds vs → Rps K H G es ws → Rps K H G (ds ++ es) (vs ++ ws)
  | _, _, _, _, .nil, s => s
  | _, _, _, _, .cons r t, s => .cons r (Rps.append t s)
theorem Rps.take {K H G} : ∀ {ds : List D} {vs : List V} (n : Nat), Rps K H G ds vs → Rps K H G (ds.take n) (vs.take n)
  | _, _, 0, _ => by simp; exact .nil
  | _, _, _ + 1, .nil => .nil
  | _, _, n + 1, .cons r t => .cons r (Rps.take n t)
theorem Rps.drop {K H G} : ∀ {ds : List D} {vs : List V} (n : Nat), Rps K H G ds vs → Rps K H G (ds.drop n) (vs.drop n)
  | _, _, 0, r => r
  | _, _, _ + 1, .nil => .nil
  | _, _, n + 1, .cons r t => Rps.drop n t
theorem Rps.set {K H G} {d : D} {v : V} (r : Rp K H G d v) : ∀ {ds : List D} {vs : List V} (i : Nat), Rps K H G ds vs → Rps K H G (ds.set i d) (vs.set i v)
  | _, _, _, .nil => .nil
  | _, _, 0, .cons _ t => .cons r t
  | _, _, i + 1, .cons q t => .cons q (Rps.set r i t)
theorem Rps.ints {K H G} : ∀ {ns : List Int} {vs : List V}, Rps K H G (ns.map D.int) vs → vs = ns.map V.int
  | [], _, .nil => rfl
  | n :: ns, _, .cons a r => by cases a; rw [Rps.ints r]; rfl
theorem Rps.of_ints {K H G} : ∀ (ns : List Int), Rps K H G (ns.map D.int) (ns.map V.int)
  | [] => .nil
  | n :: ns => .cons (.int n) (Rps.of_ints ns)
theorem Rps.strs {K H G} : ∀ {ns : List Str} {vs : List V}, Rps K H G (ns.map D.str) vs → vs = ns.map V.str
  | [], _, .nil => rfl
  | n :: ns, _, .cons a r => by cases a; rw [Rps.strs r]; rfl
theorem Rps.of_strs {K H G} : ∀ (ns : List Str), Rps K H G (ns.map D.str) (ns.map V.str)
  | [] => .nil
  | n :: ns => .cons (.str n) (Rps.of_strs ns)
theorem Rps.bls {K H G} : ∀ {ns : List Bool} {vs : List V}, Rps K H G (ns.map D.bl) vs → vs = ns.map V.bl
  | [], _, .nil => rfl
  | n :: ns, _, .cons a r => by cases a; rw [Rps.bls r]; rfl

/-- the heap of what may change -/
def HR (K : Frag) (H : Hp) (G : HH) (p : Addr) : HOD → Prop
  | .lst ds => ∃ xs, H p = some (.lst xs) ∧ Rps K H G ds xs
  | .ins c ns ds => ∃ C dx xs, gaddr K c = some C ∧ H p = some (.ins C dx (ns.zip xs)) ∧ ns.length = xs.length ∧ Rps K H G ds xs
  | .dK kvs => ∃ xs : List (Key × V), H p = some (.dK xs) ∧ kvs.map (·.1) = xs.map (·.1) ∧ Rps K H G (kvs.map (·.2)) (xs.map (·.2))
  | .dT kvs => ∃ xs : List (List Key × V), H p = some (.dT xs) ∧ kvs.map (·.1) = xs.map (·.1) ∧ Rps K H G (kvs.map (·.2)) (xs.map (·.2))
  | .tab nm => ∃ ps : Array Value, H p = some (.tbl ps) ∧ TriplesOk ps.toList ∧ ∀ (pos : Pos) (cv : Value), codeAmong pos ps.toList = some cv → ∃ c ob, cv = .ref c ∧ H c = some (.frz ob (LamX.CodeO c (nm pos.line pos.col))) ∧ G c = none
def RelH (K : Frag) (H : Hp) (G : HH) : Prop := ∀ p o, G p = some o → HR K H G p o
theorem HR.ne {K H G p o} (h : HR K H G p o) : H p ≠ none := by
  cases o with
  | lst ds => obtain ⟨_, e, _⟩ := h; rw [e]; simp
  | ins C ns ds => obtain ⟨_, _, _, _, e, _⟩ := h; rw [e]; simp
  | dK kvs => obtain ⟨_, e, _⟩ := h; rw [e]; simp
  | dT kvs => obtain ⟨_, e, _⟩ := h; rw [e]; simp
  | tab nm => obtain ⟨_, e, _⟩ := h; rw [e]; simp
theorem RelH.free {K H G p} (h : RelH K H G) (e : H p = none) : G p = none := by
  cases q : G p with
  | none => rfl
  | some o => exact absurd e (h p o q).ne
/-- the slots -/
abbrev SD := List (Option D)
structure SRp (K : Frag) (H : Hp) (G : HH) (σD : SD) (σ : L2.St) : Prop where
  len : σD.length = σ.length
  at_ : ∀ (i : Nat) (d : D), σD[i]? = some (some d) → ∃ v, σ[i]? = some (some v) ∧ Rp K H G d v
theorem SRp.mono {K : Frag} {H G H' G'} {σD : SD} {σ : L2.St} (s : Stp H G H' G') (h : SRp K H G σD σ) : SRp K H' G' σD σ :=
  ⟨h.len, fun i d e => let ⟨v, e1, r⟩ := h.at_ i d e; ⟨v, e1, r.mono s⟩⟩
theorem SRp.set {K : Frag} {H G} {σD : SD} {σ : L2.St} {d : D} {v : V} (h : SRp K H G σD σ) (i : Nat) (r : Rp K H G d v) : SRp K H G (σD.set i (some d)) (σ.set i (some v)) := by
  refine ⟨by simp [h.len], fun j e he => ?_⟩
  by_cases hj : i = j
  · subst hj
    have hlt : i < σD.length := by
      have := (List.getElem?_eq_some_iff.mp he).1
      simpa using this
    rw [List.getElem?_set_self hlt] at he
    cases he
    exact ⟨v, List.getElem?_set_self (by rw [← h.len]; exact hlt), r⟩
  · rw [List.getElem?_set_ne hj] at he
    obtain ⟨u, e1, r1⟩ := h.at_ j e he
    exact ⟨u, by rw [List.getElem?_set_ne hj]; exact e1, r1⟩

/-- an exception: its class by name, its fields -/
inductive XC where
  | own (n : Str) | bi (n : String)
structure XD where
  cls : XC
  ns : List Str
  vs : List D
def XC.is (K : Frag) : XC → Value → Prop
  | .own n, v => ∃ C, gaddr K n = some C ∧ v = .ref C
  | .bi n, v => v = .type n
def XRp (K : Frag) (H : Hp) (G : HH) (x : XD) (cls : Value) (d : Option Addr) : Prop := x.cls.is K cls ∧
  match d with
  | none => x.ns = [] ∧ x.vs = []
  | some a => ∃ xs, H a = some (.xd (x.ns.zip xs)) ∧ G a = none ∧ x.ns.length = xs.length ∧ Rps K H G x.vs xs
abbrev QD := D → HH → Prop
abbrev ED := XD → HH → Prop
abbrev TED := SD → HH → QD → ED → Prop
abbrev TTD := SD → HH → (Bool → HH → Prop) → ED → Prop
abbrev TAD := SD → HH → (List D → HH → Prop) → ED → Prop
/-- where an exception may go -/
def Exs (K : Frag) (W : WX) (σ : L2.St) (H : Hp) (G : HH) (E : ED) : Prop := ∀ x cls d H' G', Stp H G H' G' → RelH K H' G' → XRp K H' G' x cls d → E x G' → W cls d σ H'
theorem Exs.mono {K W σ H G H' G' E} (s : Stp H G H' G') (h : Exs K W σ H G E) : Exs K W σ H' G' E := fun x cls d H2 G2 s2 r2 p2 e2 => h x cls d H2 G2 (s.trans s2) r2 p2 e2
/-- what follows a value -/
def Ct (K : Frag) (H : Hp) (G : HH) (Q : VK) (QD : QD) : Prop := ∀ v H' d G', Stp H G H' G' → RelH K H' G' → Rp K H' G' d v → QD d G' → Q v H'
theorem Ct.mono {K H G H' G' Q QD} (s : Stp H G H' G') (h : Ct K H G Q QD) : Ct K H' G' Q QD := fun v H2 d G2 s2 r2 p2 q2 => h v H2 d G2 (s.trans s2) r2 p2 q2
theorem Ct.now {K H G Q QD d v} (h : Ct K H G Q QD) (r : RelH K H G) (p : Rp K H G d v) (q : QD d G) : Q v H := h v H d G Stp.refl r p q
def lft (K : Frag) (W : WX) (t : TED) : TE := fun σ H Q => ∃ σD G QD E, RelH K H G ∧ SRp K H G σD σ ∧ t σD G QD E ∧ Ct K H G Q QD ∧ Exs K W σ H G E
def lftT (K : Frag) (W : WX) (t : TTD) : TT := fun σ H Q => ∃ σD G QD E, RelH K H G ∧ SRp K H G σD σ ∧ t σD G QD E ∧ (∀ b H' G', Stp H G H' G' → RelH K H' G' → QD b G' → Q b H') ∧ Exs K W σ H G E
def lftA (K : Frag) (W : WX) (t : TAD) : TA := fun σ H Q => ∃ σD G QD E, RelH K H G ∧ SRp K H G σD σ ∧ t σD G QD E ∧ (∀ vs H' ds G', Stp H G H' G' → RelH K H' G' → Rps K H' G' ds vs → QD ds G' → Q vs H') ∧ Exs K W σ H G E
/-- the judgements over data -/
def DE (X : Cx) (W : WX) (e : Expr) (t : TED) : Prop := PE X e (lft X.K W t)
def DT (X : Cx) (W : WX) (e : Expr) (t : TTD) : Prop := PT X e (lftT X.K W t)
def DW (X : Cx) (W : WX) (e : Expr) (t : TTD) : Prop := PW X e (lftT X.K W t)
def DA (X : Cx) (W : WX) (es : List Expr) (t : TAD) : Prop := PA X es (lftA X.K W t)
theorem PE.imp {X : Cx} {e : Expr} {t t' : TE} (h : PE X e t) (i : ∀ σ H Q, t' σ H Q → t σ H Q) : PE X e t' := ⟨fun pins s σ H Q I q => h.run pins s σ H Q I (i σ H Q q)⟩
theorem PT.imp {X : Cx} {e : Expr} {t t' : TT} (h : PT X e t) (i : ∀ σ H Q, t' σ H Q → t σ H Q) : PT X e t' := ⟨fun pins s σ H Q I q => h.run pins s σ H Q I (i σ H Q q)⟩
theorem PW.imp {X : Cx} {e : Expr} {t t' : TT} (h : PW X e t) (i : ∀ σ H Q, t' σ H Q → t σ H Q) : PW X e t' := ⟨fun wh pins s σ H Q I q => h.run wh pins s σ H Q I (i σ H Q q)⟩
theorem PA.imp {X : Cx} {es : List Expr} {t t' : TA} (h : PA X es t) (i : ∀ σ H Q, t' σ H Q → t σ H Q) : PA X es t' := ⟨fun pos pins s σ H Q I q => h.run pos pins s σ H Q I (i σ H Q q)⟩

/-! ### names, constants -/
def dVar (i : Nat) : TED := fun σ G Q _ => ∃ d, σ[i]? = some (some d) ∧ Q d G
def dC (d : D) : TED := fun _ G Q _ => Q d G
variable {X : Cx} {W : WX}
theorem de_var (i : Nat) {x : Str} {pos : Pos} (hN : X.N[i]? = some x := by rfl) (hv : Vis X.env.scope x := by first | exact Or.inl rfl | exact Or.inr (Or.inl rfl) | exact Or.inr (Or.inr rfl)) (hd : (x == ("__debug__" : Str)) = false := by decide)
    (hcd : (x == ("__classdict__" : Str)) = false := by decide) : DE X W (.Name x pos) (dVar i) :=
  PE.imp (pe_var hN hv hd hcd) fun σ H Q ⟨σD, G, QD, E, hR, hS, ⟨d, e, q⟩, hq, he⟩ => by
    obtain ⟨v, ev, r⟩ := hS.at_ i d e
    exact ⟨v, ev, hq.now hR r q⟩
theorem lft_C {K W d v σ H Q} (r : ∀ H G, Rp K H G d v) (h : lft K W (dC d) σ H Q) : tC v σ H Q := by
  obtain ⟨σD, G, QD, E, hR, hS, q, hq, he⟩ := h
  exact hq.now hR (r H G) q
theorem de_int {i j pos} : DE X W (.Constant (.int i) j pos) (dC (.int i)) := PE.imp pe_int fun _ _ _ => lft_C fun _ _ => .int i
theorem de_bl {i j pos} : DE X W (.Constant (.bool i) j pos) (dC (.bl i)) := PE.imp pe_bl fun _ _ _ => lft_C fun _ _ => .bl i
theorem de_non {j pos} : DE X W (.Constant .none j pos) (dC .non) := PE.imp pe_non fun _ _ _ => lft_C fun _ _ => .non
theorem de_str {x j pos} : DE X W (.Constant (.str x) j pos) (dC (.str x)) := PE.imp pe_str fun _ _ _ => lft_C fun _ _ => .str x
/-- a global name's value -/
theorem de_glob {x : Str} {d : D} {v : V} {u : Value} {pos : Pos} (r : ∀ H G, Rp X.K H G d v) (hg : Gl X x) (hm : X.mg x = some u) (ru : RelV v u) (hd : (x == ("__debug__" : Str)) = false := by decide) : DE X W (.Name x pos) (dC d) :=
  PE.imp (pe_glob hg hm ru hd) fun _ _ _ => lft_C r

/-! ### operators by values -/
def OpSim (K : Frag) (r : R2) (rD : D → D → HH → QD → Prop) : Prop := ∀ x y H Q dx dy G QD, RelH K H G → Rp K H G dx x → Rp K H G dy y → rD dx dy G QD → Ct K H G Q QD → r x y H Q
def dOp (rD : D → D → HH → QD → Prop) (ta tb : TED) : TED := fun σ G Q E => ta σ G (fun x G1 => tb σ G1 (fun y G2 => rD x y G2 Q) E) E
theorem lft_op {K : Frag} {W : WX} {r rD ta tb σ H Q} (sim : OpSim K r rD) (h : lft K W (dOp rD ta tb) σ H Q) : tOp r (lft K W ta) (lft K W tb) σ H Q := by
  obtain ⟨σD, G, QD, E, hR, hS, ht, hq, he⟩ := h
  refine ⟨σD, G, _, E, hR, hS, ht, fun v1 H1 d1 G1 s1 r1 p1 q1 => ?_, he⟩
  refine ⟨σD, G1, _, E, r1, hS.mono s1, q1, fun v2 H2 d2 G2 s2 r2 p2 q2 => ?_, he.mono s1⟩
  exact sim _ _ _ _ _ _ _ _ r2 (p1.mono s2) p2 q2 (hq.mono (s1.trans s2))
theorem OpSim.or {K r r' rD rD'} (h : OpSim K r rD) (h' : OpSim K r' rD') : OpSim K (fun x y H Q => r x y H Q ∨ r' x y H Q) (fun x y G Q => rD x y G Q ∨ rD' x y G Q) :=
  fun x y H Q dx dy G QD hR px py q hq => q.elim (fun z => .inl (h x y H Q dx dy G QD hR px py z hq)) fun z => .inr (h' x y H Q dx dy G QD hR px py z hq)
/-- operators on two ints -/
def oI (C : Int → Int → Prop) (g : Int → Int → D) : D → D → HH → QD → Prop := fun x y G Q => ∃ i j, x = .int i ∧ y = .int j ∧ C i j ∧ Q (g i j) G
theorem sim_I {K : Frag} {C : Int → Int → Prop} {g : Int → Int → V} {gD : Int → Int → D} (hg : ∀ i j H G, Rp K H G (gD i j) (g i j)) : OpSim K (rI C g) (oI C gD) := fun x y H Q dx dy G QD hR px py q hq => by
  obtain ⟨i, j, rfl, rfl, c, q⟩ := q
  cases px; cases py
  exact ⟨i, j, rfl, rfl, c, hq.now hR (hg i j H G) q⟩
theorem sim_I0 {K : Frag} {g : Int → Int → V} {gD : Int → Int → D} (hg : ∀ i j H G, Rp K H G (gD i j) (g i j)) : OpSim K (rI0 g) (oI (fun _ _ => True) gD) := fun x y H Q dx dy G QD hR px py q hq => by
  obtain ⟨i, j, rfl, rfl, c, q⟩ := q
  cases px; cases py
  exact ⟨i, j, rfl, rfl, hq.now hR (hg i j H G) q⟩
end DL

namespace DL
open PySem PySem.Spec PyProof.Rows L2
open PySem.W (Frag)

/-! ### changes of the heaps -/
def gput (G : HH) (p : Addr) (o : HOD) : HH := fun b => if b = p then some o else G b
def gdel (G : HH) (p : Addr) : HH := fun b => if b = p then none else G b
theorem gput_same {G p o} : gput G p o p = some o := by unfold gput; rw [if_pos rfl]
theorem gput_ne {G : HH} {p b : Addr} {o} (h : b ≠ p) : gput G p o b = G b := by unfold gput; rw [if_neg h]
theorem gdel_same {G p} : gdel G p p = none := by unfold gdel; rw [if_pos rfl]
theorem gdel_ne {G : HH} {p b : Addr} (h : b ≠ p) : gdel G p b = G b := by unfold gdel; rw [if_neg h]
theorem gput_gput {G p o o'} : gput (gput G p o) p o' = gput G p o' := by
  funext b; unfold gput; split <;> rfl
theorem rd_new {H : Hp} {p b : Addr} {o u : HO} (hn : H p = none) (h : Rd H b u) : Rd (upd H p o) b u := by
  have hb : b ≠ p := fun e => rd_ne h (by rw [e]; exact hn)
  rcases h with h | ⟨o', h⟩
  · exact .inl (by rw [upd_ne hb]; exact h)
  · exact .inr ⟨o', by rw [upd_ne hb]; exact h⟩
/-- a new object, frozen at once -/
theorem Stp.new {H G p o} (hn : H p = none) : Stp H G (upd H p o) G :=
  ⟨fun b u h _ _ => by rw [upd_ne (ne_of_none h hn)]; exact h, fun b u h _ => rd_new hn h, fun b _ g => g⟩
theorem HR.at {K H G H' G' p o} (h : HR K H G p o) (s : Stp H G H' G') (e : H' p = H p) : HR K H' G' p o := by
  cases o with
  | lst ds => obtain ⟨xs, h1, r⟩ := h; exact ⟨xs, by rw [e]; exact h1, r.mono s⟩
  | ins c ns ds => obtain ⟨C, dx, xs, hc, h1, l, r⟩ := h; exact ⟨C, dx, xs, hc, by rw [e]; exact h1, l, r.mono s⟩
  | dK kvs => obtain ⟨xs, h1, l, r⟩ := h; exact ⟨xs, by rw [e]; exact h1, l, r.mono s⟩
  | dT kvs => obtain ⟨xs, h1, l, r⟩ := h; exact ⟨xs, by rw [e]; exact h1, l, r.mono s⟩
  | tab nm =>
    obtain ⟨ps, h1, h2, h3⟩ := h
    refine ⟨ps, by rw [e]; exact h1, h2, fun pos cv hc => ?_⟩
    obtain ⟨c, ob, e1, e2, e3⟩ := h3 pos cv hc
    exact ⟨c, ob, e1, s.keep _ _ e2 e3 rfl, s.dom _ (ne_none e2) e3⟩
theorem RelH.new {K H G p o} (h : RelH K H G) (hn : H p = none) : RelH K (upd H p o) G := fun q u e =>
  (h q u e).at (Stp.new hn) (upd_ne fun z => (h q u e).ne (by rw [z]; exact hn))
/-- a new object that may change -/
theorem Stp.newM {H G p o od} (hn : H p = none) : Stp H G (upd H p o) (gput G p od) :=
  ⟨fun b u h _ _ => by rw [upd_ne (ne_of_none h hn)]; exact h, fun b u h _ => rd_new hn h, fun b hb g => by
    rw [gput_ne (fun z => hb (by rw [z]; exact hn))]; exact g⟩
theorem RelH.newM {K H G p o od} (h : RelH K H G) (hn : H p = none) (hr : HR K (upd H p o) (gput G p od) p od) : RelH K (upd H p o) (gput G p od) := fun q u e => by
  by_cases hq : q = p
  · subst hq; rw [gput_same] at e; cases e; exact hr
  · rw [gput_ne hq] at e
    exact (h q u e).at (Stp.newM hn) (upd_ne hq)
/-- a change -/
theorem Stp.put {H G p o od o0} (hp : G p = some o0) : Stp H G (upd H p o) (gput G p od) := by
  have ne : ∀ b, G b = none → b ≠ p := fun b g e => by rw [e, hp] at g; cases g
  refine ⟨fun b u h g _ => by rw [upd_ne (ne b g)]; exact h, fun b u h g => ?_, fun b _ g => by rw [gput_ne (ne b g)]; exact g⟩
  rcases h with h | ⟨o', h⟩
  · exact .inl (by rw [upd_ne (ne b g)]; exact h)
  · exact .inr ⟨o', by rw [upd_ne (ne b g)]; exact h⟩
theorem RelH.put {K H G p o od o0} (h : RelH K H G) (hp : G p = some o0) (hr : HR K (upd H p o) (gput G p od) p od) : RelH K (upd H p o) (gput G p od) := fun q u e => by
  by_cases hq : q = p
  · subst hq; rw [gput_same] at e; cases e; exact hr
  · rw [gput_ne hq] at e
    exact (h q u e).at (Stp.put hp) (upd_ne hq)
/-- freezing -/
theorem Stp.del {H G p} : Stp H G H (gdel G p) := ⟨fun _ _ h _ _ => h, fun _ _ h _ => h, fun b _ g => by
  by_cases hb : b = p
  · subst hb; exact gdel_same
  · rw [gdel_ne hb]; exact g⟩
theorem RelH.del {K H G p} (h : RelH K H G) : RelH K H (gdel G p) := fun q u e => by
  by_cases hq : q = p
  · subst hq; rw [gdel_same] at e; cases e
  · rw [gdel_ne hq] at e
    exact (h q u e).at Stp.del rfl

/-! ### displays -/
variable {X : Cx} {W : WX} {e a b c : Expr} {es : List Expr} {ta tb tc : TED} {t u : TAD} {pos : Pos}
def dNil : TAD := fun _ G Q _ => Q [] G
def dCons (ta : TED) (t : TAD) : TAD := fun σ G Q E => ta σ G (fun d G1 => t σ G1 (fun ds G2 => Q (d :: ds) G2) E) E
theorem da_nil : DA X W [] dNil := PA.imp pa_nil fun σ H Q ⟨σD, G, QD, E, hR, hS, q, hq, he⟩ => hq _ _ _ _ Stp.refl hR .nil q
theorem da_cons (ha : DE X W e ta) (hr : DA X W es t) (hs : starEach (e :: es) X.env = (false, eval e X.env) :: starEach es X.env := by rfl) : DA X W (e :: es) (dCons ta t) :=
  PA.imp (pa_cons ha hr hs) fun σ H Q ⟨σD, G, QD, E, hR, hS, q, hq, he⟩ => by
    refine ⟨σD, G, _, E, hR, hS, q, fun v1 H1 d1 G1 s1 r1 p1 q1 => ?_, he⟩
    refine ⟨σD, G1, _, E, r1, hS.mono s1, q1, fun vs H2 ds G2 s2 r2 p2 q2 => ?_, he.mono s1⟩
    exact hq _ _ _ _ (s1.trans s2) r2 (.cons (p1.mono s2) p2) q2
def dTup (t : TAD) : TED := fun σ G Q E => t σ G (fun ds G1 => ds.length ≤ sizeLine ∧ Q (.tup ds) G1) E
theorem de_tup {x1} (h : DA X W es t) : DE X W (.Tuple es x1 pos) (dTup t) :=
  PE.imp (pe_tup h) fun σ H Q ⟨σD, G, QD, E, hR, hS, q, hq, he⟩ => by
    refine ⟨σD, G, _, E, hR, hS, q, fun vs H1 ds G1 s1 r1 p1 ⟨l, q1⟩ => ⟨by rw [← p1.length]; exact l, fun p hp => ?_⟩, he⟩
    have s2 : Stp H1 G1 (upd H1 p (.tup vs)) G1 := .new hp
    exact hq _ _ _ _ (s1.trans s2) (r1.new hp) (.tup (.inl ⟨upd_same, r1.free hp⟩) (p1.mono s2)) q1
def dLst (t : TAD) : TED := fun σ G Q E => t σ G (fun ds G1 => ds.length ≤ sizeLine ∧ Q (.lst ds) G1) E
theorem de_lst {x1} (h : DA X W es t) : DE X W (.List es x1) (dLst t) :=
  PE.imp (pe_lst h) fun σ H Q ⟨σD, G, QD, E, hR, hS, q, hq, he⟩ => by
    refine ⟨σD, G, _, E, hR, hS, q, fun vs H1 ds G1 s1 r1 p1 ⟨l, q1⟩ => ⟨by rw [← p1.length]; exact l, fun p hp => ?_⟩, he⟩
    have s2 : Stp H1 G1 (upd H1 p (.lst vs)) G1 := .new hp
    exact hq _ _ _ _ (s1.trans s2) (r1.new hp) (.lst upd_same (r1.free hp) (p1.mono s2)) q1
/-- a list that will change -/
def dLstM (t : TAD) : TED := fun σ G Q E => t σ G (fun ds G1 => ds.length ≤ sizeLine ∧ ∀ p, G1 p = none → Q (.ref p) (gput G1 p (.lst ds))) E
theorem de_lstM {x1} (h : DA X W es t) : DE X W (.List es x1) (dLstM t) :=
  PE.imp (pe_lst h) fun σ H Q ⟨σD, G, QD, E, hR, hS, q, hq, he⟩ => by
    refine ⟨σD, G, _, E, hR, hS, q, fun vs H1 ds G1 s1 r1 p1 ⟨l, q1⟩ => ⟨by rw [← p1.length]; exact l, fun p hp => ?_⟩, he⟩
    have s2 : Stp H1 G1 (upd H1 p (.lst vs)) (gput G1 p (.lst ds)) := .newM hp
    exact hq _ _ _ _ (s1.trans s2) (r1.newM hp ⟨vs, upd_same, p1.mono s2⟩) (.ref p) (q1 p (r1.free hp))

/-! ### operators -/
def OpD (X : Cx) (f : Value → Value → Sem Value) (rD : D → D → HH → QD → Prop) : Prop := ∃ r, OpR X f r ∧ OpSim X.K r rD
theorem OpD.or {f r r'} (h : OpD X f r) (h' : OpD X f r') : OpD X f (fun x y G Q => r x y G Q ∨ r' x y G Q) :=
  let ⟨_, a1, a2⟩ := h; let ⟨_, b1, b2⟩ := h'; ⟨_, a1.or b1, a2.or b2⟩
theorem de_op {op : Operator} {rD} (o : OpD X (binaryOp op) rD) (ha : DE X W a ta) (hb : DE X W b tb) : DE X W (.BinOp a op b pos) (dOp rD ta tb) :=
  let ⟨_, h1, h2⟩ := o; PE.imp (pe_op h1 ha hb) fun _ _ _ => lft_op h2
theorem de_cmp {op : CmpOp} {rD} (o : OpD X (compareOp op) rD) (ha : DE X W a ta) (hb : DE X W b tb) (hm : behindInMarks op b = false) : DE X W (.Compare a [op] [b] pos) (dOp rD ta tb) :=
  let ⟨_, h1, h2⟩ := o; PE.imp (pe_cmpR h1 ha hb hm) fun _ _ _ => lft_op h2
/-- a value's reading as a test -/
def dTest (t : TED) : TTD := fun σ G Q E => t σ G (fun x G1 => ∃ k, x = .bl k ∧ Q k G1) E
theorem lft_test {t : TE} {tD : TED} {K : Frag} (i : ∀ σ H Q, lft K W tD σ H Q → t σ H Q) : ∀ σ H Q, lftT K W (dTest tD) σ H Q → tTest t σ H Q := fun σ H Q ⟨σD, G, QD, E, hR, hS, q, hq, he⟩ => by
  refine i σ H _ ⟨σD, G, _, E, hR, hS, q, fun v1 H1 d1 G1 s1 r1 p1 ⟨k, e, q1⟩ => ?_, he⟩
  subst e
  cases p1
  exact ⟨k, rfl, hq _ _ _ s1 r1 q1⟩
theorem dt_cmp {op : CmpOp} {rD} (o : OpD X (compareOp op) rD) (ha : DE X W a ta) (hb : DE X W b tb) (hm : behindInMarks op b = false) : DT X W (.Compare a [op] [b] pos) (dTest (dOp rD ta tb)) :=
  let ⟨_, h1, h2⟩ := o; PT.imp (pt_cmpR h1 ha hb hm) (lft_test fun _ _ _ => lft_op h2)
def dChain (r r' : D → D → HH → QD → Prop) (ta tb tc : TED) : TED := fun σ G Q E => ta σ G (fun x G1 => tb σ G1 (fun y G2 => r x y G2 fun z G3 => ∃ k, z = .bl k ∧ (if k = true then tc σ G3 (fun w G4 => r' y w G4 Q) E else Q (.bl false) G3)) E) E
theorem lft_chain {K : Frag} {r r' : R2} {rD rD' σ H Q} (sim : OpSim K r rD) (sim' : OpSim K r' rD') (h : lft K W (dChain rD rD' ta tb tc) σ H Q) : tChain r r' (lft K W ta) (lft K W tb) (lft K W tc) σ H Q := by
  obtain ⟨σD, G, QD, E, hR, hS, ht, hq, he⟩ := h
  refine ⟨σD, G, _, E, hR, hS, ht, fun v1 H1 d1 G1 s1 r1 p1 q1 => ?_, he⟩
  refine ⟨σD, G1, _, E, r1, hS.mono s1, q1, fun v2 H2 d2 G2 s2 r2 p2 q2 => ?_, he.mono s1⟩
  refine sim _ _ _ _ _ _ _ _ r2 (p1.mono s2) p2 q2 fun v3 H3 d3 G3 s3 r3 p3 ⟨k, e3, q3⟩ => ?_
  subst e3
  cases p3
  refine ⟨k, rfl, ?_⟩
  cases k with
  | true =>
    rw [if_pos rfl] at q3 ⊢
    refine ⟨σD, G3, _, E, r3, hS.mono ((s1.trans s2).trans s3), q3, fun v4 H4 d4 G4 s4 r4 p4 q4 => ?_, he.mono ((s1.trans s2).trans s3)⟩
    exact sim' _ _ _ _ _ _ _ _ r4 ((p2.mono s3).mono s4) p4 q4 (hq.mono (((s1.trans s2).trans s3).trans s4))
  | false =>
    rw [if_neg Bool.false_ne_true] at q3 ⊢
    exact hq _ _ _ _ ((s1.trans s2).trans s3) r3 (.bl false) q3
theorem de_chain {op op' : CmpOp} {rD rD'} (o : OpD X (compareOp op) rD) (o' : OpD X (compareOp op') rD') (ha : DE X W a ta) (hb : DE X W b tb) (hc : DE X W c tc)
    (hm : lastMarks [op, op'] [b, c] = false := by with_unfolding_all rfl) : DE X W (.Compare a [op, op'] [b, c] pos) (dChain rD rD' ta tb tc) :=
  let ⟨_, h1, h2⟩ := o; let ⟨_, h3, h4⟩ := o'; PE.imp (pe_chain h1 h3 ha hb hc hm) fun _ _ _ => lft_chain h2 h4
theorem dt_chain {op op' : CmpOp} {rD rD'} (o : OpD X (compareOp op) rD) (o' : OpD X (compareOp op') rD') (ha : DE X W a ta) (hb : DE X W b tb) (hc : DE X W c tc)
    (hm : lastMarks [op, op'] [b, c] = false := by with_unfolding_all rfl) : DT X W (.Compare a [op, op'] [b, c] pos) (dTest (dChain rD rD' ta tb tc)) :=
  let ⟨_, h1, h2⟩ := o; let ⟨_, h3, h4⟩ := o'; PT.imp (pt_chain h1 h3 ha hb hc hm) (lft_test fun _ _ _ => lft_chain h2 h4)
def dUn (r : D → HH → QD → Prop) (ta : TED) : TED := fun σ G Q E => ta σ G (fun x G1 => r x G1 Q) E
def uI (g : Int → D) : D → HH → QD → Prop := fun x G Q => ∃ i, x = .int i ∧ Q (g i) G
theorem de_neg (ha : DE X W a ta) : DE X W (.UnaryOp .USub a pos) (dUn (uI fun i => .int (-i)) ta) :=
  PE.imp (pe_un un_neg ha) fun σ H Q ⟨σD, G, QD, E, hR, hS, q, hq, he⟩ =>
    ⟨σD, G, _, E, hR, hS, q, fun v1 H1 d1 G1 s1 r1 p1 ⟨i, e, q1⟩ => by
      subst e; cases p1
      exact ⟨i, rfl, hq _ _ _ _ s1 r1 (.int _) q1⟩, he⟩

/-- a sequence that is read, and its items -/
inductive Sq (G : HH) : D → List D → Prop
  | tup (xs : List D) : Sq G (.tup xs) xs
  | lst (xs : List D) : Sq G (.lst xs) xs
  | wls (xs : List D) : Sq G (.wls xs) xs
  | ref {p : Addr} {xs : List D} : G p = some (.lst xs) → Sq G (.ref p) xs
/-- .. a list alone -/
inductive Ls (G : HH) : D → List D → Prop
  | lst (xs : List D) : Ls G (.lst xs) xs
  | ref {p : Addr} {xs : List D} : G p = some (.lst xs) → Ls G (.ref p) xs
theorem Sq.of {K H G d xs v} (s : Sq G d xs) (r : RelH K H G) (p : Rp K H G d v) : ∃ a vs, v = .ref a ∧ (SqL K H a vs ∨ SqT K H a vs) ∧ Rps K H G xs vs := by
  cases s with
  | tup => cases p with | tup h q => exact ⟨_, _, rfl, .inr h.sq, q⟩
  | lst => cases p with | lst h g q => exact ⟨_, _, rfl, .inl (SqL.of h), q⟩
  | wls => cases p with | wls h q => exact ⟨_, _, rfl, .inl h.sq, q⟩
  | ref e => cases p with | ref a => obtain ⟨vs, h, q⟩ := r _ _ e; exact ⟨_, vs, rfl, .inl (SqL.of h), q⟩
theorem Ls.of {K H G d xs v} (s : Ls G d xs) (r : RelH K H G) (p : Rp K H G d v) : ∃ a vs, v = .ref a ∧ H a = some (.lst vs) ∧ Rps K H G xs vs := by
  cases s with
  | lst => cases p with | lst h g q => exact ⟨_, _, rfl, h, q⟩
  | ref e => cases p with | ref a => obtain ⟨vs, h, q⟩ := r _ _ e; exact ⟨_, vs, rfl, h, q⟩
/-- a new frozen list of such values comes -/
theorem Ct.lst {K H G Q QD p vs ds} (h : Ct K H G Q QD) (r : RelH K H G) (hp : H p = none) (q : Rps K H G ds vs) (z : QD (.lst ds) G) : Q (.ref p) (upd H p (.lst vs)) :=
  h _ _ _ _ (Stp.new hp) (r.new hp) (.lst upd_same (r.free hp) (q.mono (Stp.new hp))) z
theorem Ct.tup {K H G Q QD p vs ds} (h : Ct K H G Q QD) (r : RelH K H G) (hp : H p = none) (q : Rps K H G ds vs) (z : QD (.tup ds) G) : Q (.ref p) (upd H p (.tup vs)) :=
  h _ _ _ _ (Stp.new hp) (r.new hp) (.tup (.inl ⟨upd_same, r.free hp⟩) (q.mono (Stp.new hp))) z

/-! + -/
def aStr : D → D → HH → QD → Prop := fun x y G Q => ∃ i j, x = .str i ∧ y = .str j ∧ i.length + j.length ≤ sizeLine ∧ Q (.str (i ++ j)) G
def aLst : D → D → HH → QD → Prop := fun x y G Q => ∃ xs ys, Ls G x xs ∧ Ls G y ys ∧ xs.length + ys.length ≤ sizeLine ∧ Q (.lst (xs ++ ys)) G
def aTup : D → D → HH → QD → Prop := fun x y G Q => ∃ xs ys, x = .tup xs ∧ y = .tup ys ∧ xs.length + ys.length ≤ sizeLine ∧ Q (.tup (xs ++ ys)) G
theorem oAddI : OpD X (binaryOp .Add) (oI (fun _ _ => True) fun i j => .int (i + j)) := ⟨_, op_add, sim_I0 fun i j _ _ => .int _⟩
theorem oAddStr : OpD X (binaryOp .Add) aStr := ⟨_, op_add_str, fun x y H Q dx dy G QD hR px py ⟨i, j, e1, e2, l, q⟩ hq => by
  subst e1; subst e2; cases px; cases py
  exact ⟨_, _, rfl, rfl, l, hq.now hR (.str _) q⟩⟩
theorem oAddLst : OpD X (binaryOp .Add) aLst := ⟨_, op_cat, fun x y H Q dx dy G QD hR px py ⟨xs, ys, e1, e2, l, q⟩ hq => by
  obtain ⟨a, vs, rfl, ha, ra⟩ := e1.of hR px
  obtain ⟨b, us, rfl, hb, rb⟩ := e2.of hR py
  exact ⟨_, _, _, _, rfl, rfl, ha, hb, by rw [← ra.length, ← rb.length]; exact l, fun p hp => hq.lst hR hp (ra.append rb) q⟩⟩
theorem oMulI : OpD X (binaryOp .Mult) (oI CMulX fun i j => .int (i * j)) := ⟨_, op_mulX, sim_I fun i j _ _ => .int _⟩
def mRep : D → D → HH → QD → Prop := fun x y G Q => ∃ xs k, Ls G x xs ∧ y = .int k ∧ -(2 ^ 63) ≤ k ∧ k < 2 ^ 63 ∧ xs.length * k.toNat ≤ sizeLine ∧ Q (.lst (List.replicate k.toNat xs).flatten) G
theorem Rps.rep {K H G ds vs} (r : Rps K H G ds vs) : ∀ n : Nat, Rps K H G (List.replicate n ds).flatten (List.replicate n vs).flatten
  | 0 => .nil
  | n + 1 => by rw [List.replicate_succ, List.replicate_succ, List.flatten_cons, List.flatten_cons]; exact r.append (Rps.rep r n)
theorem oMulL : OpD X (binaryOp .Mult) mRep := ⟨_, op_rep, fun x y H Q dx dy G QD hR px py ⟨xs, k, e1, e2, l1, l2, l, q⟩ hq => by
  subst e2; cases py
  obtain ⟨a, vs, rfl, ha, ra⟩ := e1.of hR px
  exact ⟨_, _, _, rfl, rfl, ha, l1, l2, by rw [← ra.length]; exact l, fun p hp => hq.lst hR hp (ra.rep _) q⟩⟩
theorem oSub : OpD X (binaryOp .Sub) (oI (fun _ _ => True) fun i j => .int (i - j)) := ⟨_, op_sub, sim_I0 fun i j _ _ => .int _⟩
theorem oDiv : OpD X (binaryOp .FloorDiv) (oI CDivW fun i j => .int (i / j)) := ⟨_, op_fdivW, sim_I fun i j _ _ => .int _⟩
theorem oDivN : OpD X (binaryOp .FloorDiv) (oI CDivN fun i j => .int (i.fdiv j)) := ⟨_, op_fdivN, sim_I fun i j _ _ => .int _⟩
theorem oMod : OpD X (binaryOp .Mod) (oI (fun _ j => 0 < j) fun i j => .int (i % j)) := ⟨_, op_mod, sim_I fun i j _ _ => .int _⟩
theorem oModN : OpD X (binaryOp .Mod) (oI (fun _ j => j ≠ 0) fun i j => .int (i.fmod j)) := ⟨_, op_modN, sim_I fun i j _ _ => .int _⟩
theorem oPow : OpD X (binaryOp .Pow) (oI CPow fun i j => .int (i ^ j.toNat)) := ⟨_, op_pow, sim_I fun i j _ _ => .int _⟩
theorem oShl : OpD X (binaryOp .LShift) (oI CShl fun i j => .int (i * 2 ^ j.toNat)) := ⟨_, op_shlW, sim_I fun i j _ _ => .int _⟩
theorem oAnd : OpD X (binaryOp .BitAnd) (oI (fun _ _ => True) fun i j => .int (Builtin.bitAnd i j)) := ⟨_, op_and, sim_I0 fun i j _ _ => .int _⟩
theorem oLt : OpD X (compareOp .Lt) (oI (fun _ _ => True) fun i j => .bl (decide (i < j))) := ⟨_, op_lt, sim_I0 fun i j _ _ => .bl _⟩
theorem oLe : OpD X (compareOp .LtE) (oI (fun _ _ => True) fun i j => .bl (decide (i ≤ j))) := ⟨_, op_le, sim_I0 fun i j _ _ => .bl _⟩
theorem oGt : OpD X (compareOp .Gt) (oI (fun _ _ => True) fun i j => .bl (decide (j < i))) := ⟨_, op_gt, sim_I0 fun i j _ _ => .bl _⟩
theorem oGe : OpD X (compareOp .GtE) (oI (fun _ _ => True) fun i j => .bl (decide (j ≤ i))) := ⟨_, op_ge, sim_I0 fun i j _ _ => .bl _⟩
end DL

namespace DL
open PySem PySem.Spec PyProof.Rows L2
open PySem.W (Frag)
variable {X : Cx} {W : WX} {e a b c : Expr} {es : List Expr} {ta tb tc : TED} {t u : TAD} {tA tB' : TTD} {pos : Pos} {rest : List Expr}

/-! ### scalars -/
def D.sc : D → Option V
  | .non => some .non
  | .bl b => some (.bl b)
  | .int i => some (.int i)
  | .str x => some (.str x)
  | _ => none
def scs : List D → Option (List V)
  | [] => some []
  | d :: r => match d.sc, scs r with
    | some v, some vs => some (v :: vs)
    | _, _ => none
theorem Rp.sc {K H G d v u} (p : Rp K H G d v) (h : d.sc = some u) : v = u := by
  cases d <;> simp [D.sc] at h <;> subst h <;> cases p <;> rfl
theorem Rps.scs {K H G} : ∀ {ds : List D} {vs us : List V}, Rps K H G ds vs → DL.scs ds = some us → vs = us
  | [], _, _, .nil, h => by simp [DL.scs] at h; exact h.symm
  | d :: ds, _, us, .cons p r, h => by
    unfold DL.scs at h
    split at h
    · rename_i v' vs' h1 h2
      cases h
      rw [p.sc h1, Rps.scs r h2]
    · cases h
theorem sc_flat {d : D} {u : V} (h : d.sc = some u) : flatV u = true := by
  cases d <;> simp [D.sc] at h <;> subst h <;> rfl
theorem scs_flat : ∀ {ds : List D} {us : List V}, scs ds = some us → us.all flatV = true
  | [], us, h => by simp [scs] at h; subst h; rfl
  | d :: ds, us, h => by
    unfold scs at h
    split at h
    · rename_i v' vs' h1 h2
      cases h
      simp [sc_flat h1]
      simpa using scs_flat h2
    · cases h
def eSc (neg : Bool) : D → D → HH → QD → Prop := fun x y G Q => ∃ u v, x.sc = some u ∧ y.sc = some v ∧ scal u v = true ∧ Q (.bl (if neg then !decide (u = v) else decide (u = v))) G
theorem oEqS : OpD X (compareOp .Eq) (eSc false) := ⟨_, op_eq, fun x y H Q dx dy G QD hR px py ⟨u, v, e1, e2, s, q⟩ hq => by
  cases px.sc e1; cases py.sc e2
  exact ⟨s, hq.now hR (.bl _) q⟩⟩
theorem oNeS : OpD X (compareOp .NotEq) (eSc true) := ⟨_, op_ne, fun x y H Q dx dy G QD hR px py ⟨u, v, e1, e2, s, q⟩ hq => by
  cases px.sc e1; cases py.sc e2
  exact ⟨s, hq.now hR (.bl _) q⟩⟩

/-! ### data of any depth -/
mutual
def D.py : D → Option PyData
  | .non => some .none
  | .bl b => some (.bool b)
  | .int i => some (.int i)
  | .str x => some (.str x)
  | .tup xs => (pys xs).map .tuple
  | .lst xs => (pys xs).map .list
  | .wls xs => (pys xs).map .list
  | .gv _ => none
  | .obj _ _ _ => none
  | .dct _ _ => none
  | .ref _ => none
  | .ty _ => none
  | .xe _ _ _ _ => none
def pys : List D → Option (List PyData)
  | [] => some []
  | d :: r => match d.py, pys r with
    | some p, some ps => some (p :: ps)
    | _, _ => none
end
mutual
theorem Rp.dp {K H G} : ∀ {d v p}, Rp K H G d v → d.py = some p → Dp K H v p
  | _, _, _, .non, h => by simp [D.py] at h; subst h; exact .non
  | _, _, _, .bl b, h => by simp [D.py] at h; subst h; exact .bl b
  | _, _, _, .int i, h => by simp [D.py] at h; subst h; exact .int i
  | _, _, _, .str x, h => by simp [D.py] at h; subst h; exact .str x
  | _, _, _, .ty n, h => by simp [D.py] at h
  | _, _, _, .ref a, h => by simp [D.py] at h
  | _, _, _, .tup f r, h => by
    unfold D.py at h
    cases e : pys _ with
    | none => rw [e] at h; simp at h
    | some ps => rw [e] at h; simp at h; subst h; exact .tup f.sq (Rps.dp r e)
  | _, _, _, .lst f g r, h => by
    unfold D.py at h
    cases e : pys _ with
    | none => rw [e] at h; simp at h
    | some ps => rw [e] at h; simp at h; subst h; exact .lst (SqL.of f) (Rps.dp r e)
  | _, _, _, .wls f r, h => by
    unfold D.py at h
    cases e : pys _ with
    | none => rw [e] at h; simp at h
    | some ps => rw [e] at h; simp at h; subst h; exact .lst f.sq (Rps.dp r e)
  | _, _, _, .gv _, h => by simp [D.py] at h
  | _, _, _, .obj _ _ _ _ _, h => by simp [D.py] at h
  | _, _, _, .xe _ _ _ _, h => by simp [D.py] at h
  | _, _, _, .dK _ _ _ _, h => by simp [D.py] at h
  | _, _, _, .dT _ _ _ _, h => by simp [D.py] at h
theorem Rps.dp {K H G} : ∀ {ds vs ps}, Rps K H G ds vs → pys ds = some ps → DpAll K H vs ps
  | _, _, _, .nil, h => by simp [pys] at h; subst h; exact .nil
  | _, _, _, .cons p r, h => by
    unfold pys at h
    split at h
    · rename_i p1 ps1 h1 h2
      cases h
      exact .cons (Rp.dp p h1) (Rps.dp r h2)
    · cases h
end
/-- data, or a list that may change, of data -/
inductive Py (G : HH) : D → PyData → Prop
  | of {d : D} {p : PyData} : d.py = some p → Py G d p
  | ref {a : Addr} {ds : List D} {ps : List PyData} : G a = some (.lst ds) → pys ds = some ps → Py G (.ref a) (.list ps)
theorem Py.dp {K H G d v p} (h : Py G d p) (r : RelH K H G) (q : Rp K H G d v) : Dp K H v p := by
  cases h with
  | of e => exact q.dp e
  | ref e1 e2 => cases q with | ref a => obtain ⟨vs, h, z⟩ := r _ _ e1; exact .lst (SqL.of h) (z.dp e2)
def ePy (neg : Bool) : D → D → HH → QD → Prop := fun x y G Q => ∃ d e, Py G x d ∧ Py G y e ∧ SeqAt.shaped d = true ∧ SeqAt.shaped e = true ∧ Q (.bl (if neg then !PyData.eqv d e else PyData.eqv d e)) G
theorem oEqP (hu : X.A.units + 64 < cLine) : OpD X (compareOp .Eq) (ePy false) := ⟨_, op_eqD hu, fun x y H Q dx dy G QD hR px py ⟨d, e, e1, e2, s1, s2, q⟩ hq => ⟨d, e, e1.dp hR px, e2.dp hR py, s1, s2, hq.now hR (.bl _) q⟩⟩
theorem oNeP (hu : X.A.units + 64 < cLine) : OpD X (compareOp .NotEq) (ePy true) := ⟨_, op_neD hu, fun x y H Q dx dy G QD hR px py ⟨d, e, e1, e2, s1, s2, q⟩ hq => ⟨d, e, e1.dp hR px, e2.dp hR py, s1, s2, hq.now hR (.bl _) q⟩⟩
/-- == and != of scalars or data -/
def eAny (neg : Bool) : D → D → HH → QD → Prop := fun x y G Q => eSc neg x y G Q ∨ ePy neg x y G Q
theorem oEq (hu : X.A.units + 64 < cLine) : OpD X (compareOp .Eq) (eAny false) := oEqS.or (oEqP hu)
theorem oNe (hu : X.A.units + 64 < cLine) : OpD X (compareOp .NotEq) (eAny true) := oNeS.or (oNeP hu)
/-- is None -/
def isN (neg : Bool) (ta : TED) : TED := fun σ G Q E => ta σ G (fun x G1 => ∃ k, (k = true → x = .non) ∧ (x = .non → k = true) ∧ Q (.bl (if neg then !k else k)) G1) E
theorem non_iff {K H G d v} (p : Rp K H G d v) {k : Bool} (h1 : k = true → d = .non) (h2 : d = .non → k = true) : decide (v = .non) = k := by
  by_cases e : d = .non
  · subst e; cases p; rw [h2 rfl]; simp
  · have hk : k = false := by cases k; rfl; exact absurd (h1 rfl) e
    rw [hk]
    refine decide_eq_false fun z => e ?_
    subst z; cases p; rfl
theorem de_isN {j pos'} (ha : DE X W a ta) : DE X W (.Compare a [.Is] [.Constant .none j pos'] pos) (isN false ta) :=
  PE.imp (pe_cmp (pc_isN ha)) fun σ H Q ⟨σD, G, QD, E, hR, hS, q, hq, he⟩ => ⟨σD, G, _, E, hR, hS, q, fun v1 H1 d1 G1 s1 r1 p1 ⟨k, k1, k2, q1⟩ => by
    dsimp only; rw [non_iff p1 k1 k2]; exact hq _ _ _ _ s1 r1 (.bl _) q1, he⟩
theorem de_notN {j pos'} (ha : DE X W a ta) : DE X W (.Compare a [.IsNot] [.Constant .none j pos'] pos) (isN true ta) :=
  PE.imp (pe_cmp (pc_notN ha)) fun σ H Q ⟨σD, G, QD, E, hR, hS, q, hq, he⟩ => ⟨σD, G, _, E, hR, hS, q, fun v1 H1 d1 G1 s1 r1 p1 ⟨k, k1, k2, q1⟩ => by
    dsimp only; rw [non_iff p1 k1 k2]; exact hq _ _ _ _ s1 r1 (.bl _) q1, he⟩
theorem dt_isN {j pos'} (ha : DE X W a ta) : DT X W (.Compare a [.Is] [.Constant .none j pos'] pos) (dTest (isN false ta)) :=
  PT.imp (pt_cmp (pc_isN ha)) (lft_test fun σ H Q ⟨σD, G, QD, E, hR, hS, q, hq, he⟩ => ⟨σD, G, _, E, hR, hS, q, fun v1 H1 d1 G1 s1 r1 p1 ⟨k, k1, k2, q1⟩ => by
    dsimp only; rw [non_iff p1 k1 k2]; exact hq _ _ _ _ s1 r1 (.bl _) q1, he⟩)
theorem dt_notN {j pos'} (ha : DE X W a ta) : DT X W (.Compare a [.IsNot] [.Constant .none j pos'] pos) (dTest (isN true ta)) :=
  PT.imp (pt_cmp (pc_notN ha)) (lft_test fun σ H Q ⟨σD, G, QD, E, hR, hS, q, hq, he⟩ => ⟨σD, G, _, E, hR, hS, q, fun v1 H1 d1 G1 s1 r1 p1 ⟨k, k1, k2, q1⟩ => by
    dsimp only; rw [non_iff p1 k1 k2]; exact hq _ _ _ _ s1 r1 (.bl _) q1, he⟩)

/-! ### in -/
def iSeq (neg : Bool) : D → D → HH → QD → Prop := fun x y G Q => ∃ xs u us, Sq G y xs ∧ x.sc = some u ∧ scs xs = some us ∧ Q (.bl (if neg then !inV u us else inV u us)) G
def iStr (neg : Bool) : D → D → HH → QD → Prop := fun x y G Q => ∃ i j, x = .str i ∧ y = .str j ∧ Q (.bl (if neg then !(!(Builtin.Str.occurrences j i 0 j.length 1).isEmpty) else !(Builtin.Str.occurrences j i 0 j.length 1).isEmpty)) G
theorem oInSeq : OpD X (compareOp .In) (iSeq false) := ⟨_, op_in_seq, fun x y H Q dx dy G QD hR px py ⟨xs, u, us, s, e1, e2, q⟩ hq => by
  obtain ⟨p, vs, rfl, h, r⟩ := s.of hR py
  cases px.sc e1; cases r.scs e2
  exact ⟨p, _, rfl, h, sc_flat e1, scs_flat e2, hq.now hR (.bl _) q⟩⟩
theorem oNotInSeq : OpD X (compareOp .NotIn) (iSeq true) := ⟨_, op_notIn_seq, fun x y H Q dx dy G QD hR px py ⟨xs, u, us, s, e1, e2, q⟩ hq => by
  obtain ⟨p, vs, rfl, h, r⟩ := s.of hR py
  cases px.sc e1; cases r.scs e2
  exact ⟨p, _, rfl, h, sc_flat e1, scs_flat e2, hq.now hR (.bl _) q⟩⟩
theorem oInStr : OpD X (compareOp .In) (iStr false) := ⟨_, op_in_str, fun x y H Q dx dy G QD hR px py ⟨i, j, e1, e2, q⟩ hq => by
  subst e1; subst e2; cases px; cases py
  exact ⟨_, _, rfl, rfl, hq.now hR (.bl _) q⟩⟩
theorem oNotInStr : OpD X (compareOp .NotIn) (iStr true) := ⟨_, op_notin_str, fun x y H Q dx dy G QD hR px py ⟨i, j, e1, e2, q⟩ hq => by
  subst e1; subst e2; cases px; cases py
  exact ⟨_, _, rfl, rfl, hq.now hR (.bl _) q⟩⟩
/-- in a list of any data -/
def iDat (neg : Bool) : D → D → HH → QD → Prop := fun x y G Q => ∃ d ds, Py G x d ∧ Py G y (.list ds) ∧ SeqAt.shaped d = true ∧ SeqAt.shaped (.list ds) = true ∧ Q (.bl (if neg then !ds.any fun z => PyData.eqv z d else ds.any fun z => PyData.eqv z d)) G
theorem oInDat (hu : X.A.units + 65 < cLine) : OpD X (compareOp .In) (iDat false) := ⟨_, op_inD hu, fun x y H Q dx dy G QD hR px py ⟨d, ds, e1, e2, s1, s2, q⟩ hq =>
  ⟨d, ds, e1.dp hR px, e2.dp hR py, s1, s2, hq.now hR (.bl _) q⟩⟩
theorem oNotInDat (hu : X.A.units + 65 < cLine) : OpD X (compareOp .NotIn) (iDat true) := ⟨_, op_notInD hu, fun x y H Q dx dy G QD hR px py ⟨d, ds, e1, e2, s1, s2, q⟩ hq =>
  ⟨d, ds, e1.dp hR px, e2.dp hR py, s1, s2, hq.now hR (.bl _) q⟩⟩
def iAny (neg : Bool) : D → D → HH → QD → Prop := fun x y G Q => iSeq neg x y G Q ∨ iStr neg x y G Q ∨ iDat neg x y G Q
theorem oIn (hu : X.A.units + 65 < cLine) : OpD X (compareOp .In) (iAny false) := oInSeq.or (oInStr.or (oInDat hu))
theorem oNotIn (hu : X.A.units + 65 < cLine) : OpD X (compareOp .NotIn) (iAny true) := oNotInSeq.or (oNotInStr.or (oNotInDat hu))

/-! ### and, or, not, if else -/
def dAndV (ta tb : TED) : TED := fun σ G Q E => ta σ G (fun x G1 => ∃ c, x = .bl c ∧ if c = true then tb σ G1 Q E else Q (.bl false) G1) E
def dOrV (ta tb : TED) : TED := fun σ G Q E => ta σ G (fun x G1 => ∃ c, x = .bl c ∧ if c = true then Q (.bl true) G1 else tb σ G1 Q E) E
def dNotV (ta : TED) : TED := fun σ G Q E => ta σ G (fun x G1 => ∃ c, x = .bl c ∧ Q (.bl (!c)) G1) E
theorem de_one {op} (h : DE X W a ta) : DE X W (.BoolOp op [a] pos) ta := pe_one h
theorem de_and (ha : DE X W a ta) (hb : DE X W (.BoolOp .And (b :: rest) pos) tb) : DE X W (.BoolOp .And (a :: b :: rest) pos) (dAndV ta tb) :=
  PE.imp (pe_and ha hb) fun σ H Q ⟨σD, G, QD, E, hR, hS, q, hq, he⟩ => ⟨σD, G, _, E, hR, hS, q, fun v1 H1 d1 G1 s1 r1 p1 ⟨k, e1, q1⟩ => by
    subst e1; cases p1
    refine ⟨k, rfl, ?_⟩
    cases k with
    | true => rw [if_pos rfl] at q1 ⊢; exact ⟨σD, G1, _, E, r1, hS.mono s1, q1, hq.mono s1, he.mono s1⟩
    | false => rw [if_neg Bool.false_ne_true] at q1 ⊢; exact hq _ _ _ _ s1 r1 (.bl _) q1, he⟩
theorem de_or (ha : DE X W a ta) (hb : DE X W (.BoolOp .Or (b :: rest) pos) tb) : DE X W (.BoolOp .Or (a :: b :: rest) pos) (dOrV ta tb) :=
  PE.imp (pe_or ha hb) fun σ H Q ⟨σD, G, QD, E, hR, hS, q, hq, he⟩ => ⟨σD, G, _, E, hR, hS, q, fun v1 H1 d1 G1 s1 r1 p1 ⟨k, e1, q1⟩ => by
    subst e1; cases p1
    refine ⟨k, rfl, ?_⟩
    cases k with
    | true => rw [if_pos rfl] at q1 ⊢; exact hq _ _ _ _ s1 r1 (.bl _) q1
    | false => rw [if_neg Bool.false_ne_true] at q1 ⊢; exact ⟨σD, G1, _, E, r1, hS.mono s1, q1, hq.mono s1, he.mono s1⟩, he⟩
theorem de_not (ha : DE X W a ta) : DE X W (.UnaryOp .Not a pos) (dNotV ta) :=
  PE.imp (pe_not ha) fun σ H Q ⟨σD, G, QD, E, hR, hS, q, hq, he⟩ => ⟨σD, G, _, E, hR, hS, q, fun v1 H1 d1 G1 s1 r1 p1 ⟨k, e1, q1⟩ => by
    subst e1; cases p1
    exact ⟨k, rfl, hq _ _ _ _ s1 r1 (.bl _) q1⟩, he⟩
def dAnd (t u : TTD) : TTD := fun σ G Q E => t σ G (fun c G1 => if c = true then u σ G1 Q E else Q false G1) E
def dOr (t u : TTD) : TTD := fun σ G Q E => t σ G (fun c G1 => if c = true then Q true G1 else u σ G1 Q E) E
def dNot (t : TTD) : TTD := fun σ G Q E => t σ G (fun c G1 => Q (!c) G1) E
theorem dw_and1 (ha : DT X W a tA) : DW X W (.BoolOp .And [a] pos) tA := pw_and1 ha
theorem dw_or1 (ha : DT X W a tA) : DW X W (.BoolOp .Or [a] pos) tA := pw_or1 ha
theorem dw_and (ha : DT X W a tA) (hb : DW X W (.BoolOp .And (b :: rest) pos) tB') : DW X W (.BoolOp .And (a :: b :: rest) pos) (dAnd tA tB') :=
  PW.imp (pw_and ha hb) fun σ H Q ⟨σD, G, QD, E, hR, hS, q, hq, he⟩ => ⟨σD, G, _, E, hR, hS, q, fun k H1 G1 s1 r1 q1 => by
    cases k with
    | true => rw [if_pos rfl] at q1 ⊢; exact ⟨σD, G1, _, E, r1, hS.mono s1, q1, fun b H2 G2 s2 r2 q2 => hq b H2 G2 (s1.trans s2) r2 q2, he.mono s1⟩
    | false => rw [if_neg Bool.false_ne_true] at q1 ⊢; exact hq _ _ _ s1 r1 q1, he⟩
theorem dw_or (ha : DT X W a tA) (hb : DW X W (.BoolOp .Or (b :: rest) pos) tB') : DW X W (.BoolOp .Or (a :: b :: rest) pos) (dOr tA tB') :=
  PW.imp (pw_or ha hb) fun σ H Q ⟨σD, G, QD, E, hR, hS, q, hq, he⟩ => ⟨σD, G, _, E, hR, hS, q, fun k H1 G1 s1 r1 q1 => by
    cases k with
    | true => rw [if_pos rfl] at q1 ⊢; exact hq _ _ _ s1 r1 q1
    | false => rw [if_neg Bool.false_ne_true] at q1 ⊢; exact ⟨σD, G1, _, E, r1, hS.mono s1, q1, fun b H2 G2 s2 r2 q2 => hq b H2 G2 (s1.trans s2) r2 q2, he.mono s1⟩, he⟩
theorem DW.pt {tA : TTD} (h : DW X W a tA) : DT X W a tA := PW.pt h
theorem dt_not (ha : DT X W a tA) : DT X W (.UnaryOp .Not a pos) (dNot tA) :=
  PT.imp (pt_not ha) fun σ H Q ⟨σD, G, QD, E, hR, hS, q, hq, he⟩ => ⟨σD, G, _, E, hR, hS, q, fun k H1 G1 s1 r1 q1 => hq _ _ _ s1 r1 q1, he⟩
def dIf (t : TTD) (ta tb : TED) : TED := fun σ G Q E => t σ G (fun c G1 => if c = true then ta σ G1 Q E else tb σ G1 Q E) E
theorem de_ifExp (hc : DT X W c tA) (ha : DE X W a ta) (hb : DE X W b tb) : DE X W (.IfExp c a b pos) (dIf tA ta tb) :=
  PE.imp (pe_ifExp hc ha hb) fun σ H Q ⟨σD, G, QD, E, hR, hS, q, hq, he⟩ => ⟨σD, G, _, E, hR, hS, q, fun k H1 G1 s1 r1 q1 => by
    cases k with
    | true => rw [if_pos rfl] at q1 ⊢; exact ⟨σD, G1, _, E, r1, hS.mono s1, q1, hq.mono s1, he.mono s1⟩
    | false => rw [if_neg Bool.false_ne_true] at q1 ⊢; exact ⟨σD, G1, _, E, r1, hS.mono s1, q1, hq.mono s1, he.mono s1⟩, he⟩
/-- the truth of a value -/
inductive Tru (G : HH) : D → Bool → Prop
  | non : Tru G .non false
  | bl (b : Bool) : Tru G (.bl b) b
  | int (i : Int) : Tru G (.int i) (i != 0)
  | str (x : Str) (h : x.length ≤ sizeLine) : Tru G (.str x) ((x.length : Int) != 0)
  | sq {d : D} {xs : List D} (h : Sq G d xs) : Tru G d (!xs.isEmpty)
theorem Tru.of {K H G d v k} (h : Tru G d k) (r : RelH K H G) (p : Rp K H G d v) : TruV K v H k := by
  cases h with
  | non => cases p; rfl
  | bl => cases p; rfl
  | int => cases p; rfl
  | str x h => cases p; exact ⟨h, rfl⟩
  | @sq d xs s =>
    obtain ⟨a, vs, rfl, h, q⟩ := s.of r p
    have e : (!vs.isEmpty) = !xs.isEmpty := by
      cases q <;> rfl
    rcases h with h | h
    · exact .inl ⟨vs, h, e.symm⟩
    · exact .inr (.inl ⟨vs, h, e.symm⟩)
def dTru (ta : TED) : TTD := fun σ G Q E => ta σ G (fun x G1 => ∃ k, Tru G1 x k ∧ Q k G1) E
theorem dt_tru (ha : DE X W a ta) (he : ∀ whole, isTrue a X.env whole = (do let v ← whole; standAt a.pos; holding [v] (truthy v)) := by intro _; rfl) : DT X W a (dTru ta) :=
  PT.imp (pt_truth ha he) fun σ H Q ⟨σD, G, QD, E, hR, hS, q, hq, he⟩ => ⟨σD, G, _, E, hR, hS, q, fun v1 H1 d1 G1 s1 r1 p1 ⟨k, k1, q1⟩ => ⟨k, k1.of r1 p1, hq _ _ _ s1 r1 q1⟩, he⟩

/-! ### items, slices -/
def xSq : D → D → HH → QD → Prop := fun x y G Q => ∃ xs i d, Sq G x xs ∧ y = .int i ∧ atI xs i = some d ∧ Q d G
def xStr : D → D → HH → QD → Prop := fun x y G Q => ∃ z i c, x = .str z ∧ y = .int i ∧ z.length ≤ sizeLine ∧ atI z.cps.toList i = some c ∧ Q (.str ⟨#[c]⟩) G
def xAny : D → D → HH → QD → Prop := fun x y G Q => xSq x y G Q ∨ xStr x y G Q
theorem Rps.atI {K H G ds vs i d} (r : Rps K H G ds vs) (h : L2.atI ds i = some d) : ∃ v, L2.atI vs i = some v ∧ Rp K H G d v := by
  unfold L2.atI at h ⊢
  rw [r.length] at h
  cases e : ixN vs.length i with
  | none => rw [e] at h; cases h
  | some j =>
    rw [e] at h
    exact r.get h
theorem sim_ix {K : Frag} : OpSim K (rIx K) xAny := fun x y H Q dx dy G QD hR px py q hq => by
  rcases q with ⟨xs, i, d, s, e2, h, q⟩ | ⟨z, i, c, e1, e2, l, h, q⟩
  · subst e2; cases py
    obtain ⟨p, vs, rfl, hs, r⟩ := s.of hR px
    obtain ⟨v, hv, rv⟩ := r.atI h
    rcases hs with hs | hs
    · exact .inl ⟨p, vs, i, v, rfl, rfl, hs, hv, hq.now hR rv q⟩
    · exact .inr (.inl ⟨p, vs, i, v, rfl, rfl, hs, hv, hq.now hR rv q⟩)
  · subst e1; subst e2; cases px; cases py
    exact .inr (.inr ⟨_, _, c, rfl, rfl, l, h, hq.now hR (.str _) q⟩)
theorem de_ix (ha : DE X W a ta) (hb : DE X W b tb) (hs : PlainIx b := by exact fun _ _ => rfl) : DE X W (.Subscript a b pos) (dOp xAny ta tb) :=
  PE.imp (pe_ix ix_seq ha hb hs) fun _ _ _ => lft_op sim_ix
def dcut (xs : List D) (lo hi : Option Int) : List D := (xs.drop (HT.sIx xs.length 0 lo)).take (HT.sIx xs.length xs.length hi - HT.sIx xs.length 0 lo)
theorem Rps.cut {K H G ds vs} (r : Rps K H G ds vs) (lo hi : Option Int) : Rps K H G (dcut ds lo hi) (cutV vs lo hi) := by
  unfold dcut cutV
  rw [r.length]
  exact (r.drop _).take _
abbrev TOD := SD → HH → (Option Int → HH → Prop) → ED → Prop
def lftO (K : Frag) (W : WX) (t : TOD) : TO := fun σ H Q => ∃ σD G QD E, RelH K H G ∧ SRp K H G σD σ ∧ t σD G QD E ∧ (∀ o H' G', Stp H G H' G' → RelH K H' G' → QD o G' → Q o H') ∧ Exs K W σ H G E
def DO (X : Cx) (W : WX) (e : Option Expr) (t : TOD) : Prop := PO X e (lftO X.K W t)
theorem PO.imp {X : Cx} {e : Option Expr} {t t' : TO} (h : PO X e t) (i : ∀ σ H Q, t' σ H Q → t σ H Q) : PO X e t' := ⟨fun pins s σ H Q I q => h.run pins s σ H Q I (i σ H Q q)⟩
def dNoPart : TOD := fun _ G Q _ => Q none G
def dPart (ta : TED) : TOD := fun σ G Q E => ta σ G (fun x G1 => ∃ i, x = .int i ∧ Q (some i) G1) E
theorem do_none : DO X W none dNoPart := PO.imp po_none fun σ H Q ⟨σD, G, QD, E, hR, hS, q, hq, he⟩ => hq _ _ _ Stp.refl hR q
theorem do_some (ha : DE X W a ta) : DO X W (some a) (dPart ta) := PO.imp (po_some ha) fun σ H Q ⟨σD, G, QD, E, hR, hS, q, hq, he⟩ =>
  ⟨σD, G, _, E, hR, hS, q, fun v1 H1 d1 G1 s1 r1 p1 ⟨i, e, q1⟩ => by subst e; cases p1; exact ⟨i, rfl, hq _ _ _ s1 r1 q1⟩, he⟩
/-- .. a list, whether it may change or not -/
inductive LsW (G : HH) : D → List D → Prop
  | lst (xs : List D) : LsW G (.lst xs) xs
  | wls (xs : List D) : LsW G (.wls xs) xs
  | ref {p : Addr} {xs : List D} : G p = some (.lst xs) → LsW G (.ref p) xs
theorem LsW.of {K H G d xs v} (s : LsW G d xs) (r : RelH K H G) (p : Rp K H G d v) : ∃ a vs, v = .ref a ∧ SqL K H a vs ∧ Rps K H G xs vs := by
  cases s with
  | lst => cases p with | lst h g q => exact ⟨_, _, rfl, SqL.of h, q⟩
  | wls => cases p with | wls h q => exact ⟨_, _, rfl, h.sq, q⟩
  | ref e => cases p with | ref a => obtain ⟨vs, h, q⟩ := r _ _ e; exact ⟨_, vs, rfl, SqL.of h, q⟩
/-- a slice: a list's, a tuple's, a text's -/
def slD : D → Option Int → Option Int → HH → QD → Prop := fun x lo hi G Q => (∃ xs, LsW G x xs ∧ Q (.lst (dcut xs lo hi)) G) ∨ (∃ xs, x = .tup xs ∧ Q (.tup (dcut xs lo hi)) G) ∨ ∃ z, x = .str z ∧ z.length ≤ sizeLine ∧ Q (.str (cutS z lo hi)) G
def dSl (ta : TED) (tl th : TOD) : TED := fun σ G Q E => ta σ G (fun x G1 => tl σ G1 (fun lo G2 => th σ G2 (fun hi G3 => slD x lo hi G3 Q) E) E) E
theorem cutV_whole {vs : List V} {lo hi} (h1 : HT.sIx vs.length 0 lo = 0) (h2 : HT.sIx vs.length vs.length hi = vs.length) : cutV vs lo hi = vs := by
  unfold cutV
  rw [h1, h2]
  simp
theorem de_sl {lo hi : Option Expr} {tl th : TOD} {p2} (ha : DE X W a ta) (hl : DO X W lo tl) (hh : DO X W hi th) : DE X W (.Subscript a (.Slice lo hi none p2) pos) (dSl ta tl th) :=
  PE.imp (pe_slice ((sl_list.or sl_tupA).or sl_str) ha hl hh) fun σ H Q ⟨σD, G, QD, E, hR, hS, q, hq, he⟩ => by
    refine ⟨σD, G, _, E, hR, hS, q, fun v1 H1 d1 G1 s1 r1 p1 q1 => ?_, he⟩
    refine ⟨σD, G1, _, E, r1, hS.mono s1, q1, fun o2 H2 G2 s2 r2 q2 => ?_, he.mono s1⟩
    refine ⟨σD, G2, _, E, r2, hS.mono (s1.trans s2), q2, fun o3 H3 G3 s3 r3 q3 => ?_, he.mono (s1.trans s2)⟩
    have p3 := (p1.mono s2).mono s3
    have hq3 := hq.mono ((s1.trans s2).trans s3)
    rcases q3 with ⟨xs, s, q3⟩ | ⟨xs, hx, q3⟩ | ⟨z, hx, l, q3⟩
    · obtain ⟨p, vs, rfl, hL, r⟩ := s.of r3 p3
      exact .inl (.inl ⟨p, vs, rfl, hL, fun q hq' => hq3.lst r3 hq' (r.cut _ _) q3⟩)
    · subst hx
      cases p3 with
      | tup f r =>
        refine .inl (.inr ⟨_, _, rfl, f.sq, fun hw => ?_, fun _ p hp => hq3.tup r3 hp (r.cut _ _) q3⟩)
        have e := cutV_whole hw.1 hw.2
        refine hq3.now r3 (.tup f ?_) q3
        have := r.cut o2 o3
        rw [e] at this
        exact this
    · subst hx; cases p3
      exact .inr ⟨_, rfl, l, hq3.now r3 (.str _) q3⟩
end DL

namespace DL
open PySem PySem.Spec PyProof.Rows L2
open PySem.W (Frag)
variable {X : Cx} {W : WX} {e a b c : Expr} {es : List Expr} {ta tb tc : TED} {t u : TAD} {tA tB' : TTD} {pos : Pos} {rest : List Expr}

/-! ### built-in functions by values -/
abbrev RCD := List D → HH → QD → Prop
def CallSim (K : Frag) (r : List V → Hp → VK → Prop) (rD : RCD) : Prop := ∀ xs H Q ds G QD, RelH K H G → Rps K H G ds xs → rD ds G QD → Ct K H G Q QD → r xs H Q
def CallD (X : Cx) (f : Value) (rD : RCD) : Prop := ∃ r, CallR X f r ∧ CallSim X.K r rD
theorem CallD.or {f r r'} (h : CallD X f r) (h' : CallD X f r') : CallD X f (fun x G Q => r x G Q ∨ r' x G Q) :=
  let ⟨_, a1, a2⟩ := h; let ⟨_, b1, b2⟩ := h'
  ⟨_, a1.or b1, fun xs H Q ds G QD hR hp q hq => q.elim (fun z => .inl (a2 _ _ _ _ _ _ hR hp z hq)) fun z => .inr (b2 _ _ _ _ _ _ hR hp z hq)⟩
def dCB (rD : RCD) (t : TAD) : TED := fun σ G Q E => t σ G (fun ds G1 => rD ds G1 Q) E
theorem lft_cb {K : Frag} {r rD σ H Q} (sim : CallSim K r rD) (h : lft K W (dCB rD t) σ H Q) : tCB r (lftA K W t) σ H Q := by
  obtain ⟨σD, G, QD, E, hR, hS, ht, hq, he⟩ := h
  exact ⟨σD, G, _, E, hR, hS, ht, fun vs H1 ds G1 s1 r1 p1 q1 => sim _ _ _ _ _ _ r1 p1 q1 (hq.mono s1), he⟩
theorem de_callB {id : String} {rD : RCD} {x : Str} {p : Pos} (hc : CallD X (.builtin id) rD) (hg : Gl X x) (hm : X.mg x = none) (hv : bootBuiltins x = some (.builtin id)) (ha : DA X W (e :: es) t) (hn : x ≠ "__name__" := by decide) (hdb : (x == ("__debug__" : Str)) = false := by decide)
    (he : starEach (e :: es) X.env = (false, eval e X.env) :: starEach es X.env := by rfl) (hpl : (backTo pos (starEach es X.env)).any (·.1) = false := by rfl) : DE X W (.Call (.Name x p) (e :: es) [] pos) (dCB rD t) :=
  let ⟨_, h1, h2⟩ := hc; PE.imp (pe_callB h1 hg hm hv ha hn hdb he hpl) fun _ _ _ => lft_cb h2
theorem de_callTy {T : String} {rD : RCD} {x : Str} {p : Pos} (hc : CallD X (.type T) rD) (hg : Gl X x) (hm : X.mg x = none) (hv : bootBuiltins x = some (.type T)) (ha : DA X W (e :: es) t) (hn : x ≠ "__name__" := by decide) (hdb : (x == ("__debug__" : Str)) = false := by decide)
    (he : starEach (e :: es) X.env = (false, eval e X.env) :: starEach es X.env := by rfl) (hpl : (backTo pos (starEach es X.env)).any (·.1) = false := by rfl) : DE X W (.Call (.Name x p) (e :: es) [] pos) (dCB rD t) :=
  let ⟨_, h1, h2⟩ := hc; PE.imp (pe_callTy h1 hg hm hv ha hn hdb he hpl) fun _ _ _ => lft_cb h2
theorem rps1 {K H G d xs} (h : Rps K H G [d] xs) : ∃ v, xs = [v] ∧ Rp K H G d v := by
  cases h with | cons a r => cases r; exact ⟨_, rfl, a⟩
theorem rps2 {K H G d e xs} (h : Rps K H G [d, e] xs) : ∃ v w, xs = [v, w] ∧ Rp K H G d v ∧ Rp K H G e w := by
  cases h with | cons a r => obtain ⟨w, rfl, b⟩ := rps1 r; exact ⟨_, w, rfl, a, b⟩
/-- a rule on one value -/
def c1 (r : D → HH → QD → Prop) : RCD := fun ds G Q => ∃ x, ds = [x] ∧ r x G Q
def c2 (r : D → D → HH → QD → Prop) : RCD := fun ds G Q => ∃ x y, ds = [x, y] ∧ r x y G Q
def kLenS : D → HH → QD → Prop := fun x G Q => ∃ xs, Sq G x xs ∧ Q (.int xs.length) G
def kLenT : D → HH → QD → Prop := fun x G Q => ∃ z, x = .str z ∧ z.length ≤ sizeLine ∧ Q (.int z.length) G
theorem cLenS : CallD X (.builtin "len") (c1 kLenS) := ⟨_, call_len_seq, fun xs H Q ds G QD hR hp ⟨x, e, xs', s, q⟩ hq => by
  subst e
  obtain ⟨v, rfl, p⟩ := rps1 hp
  obtain ⟨a, vs, rfl, h, r⟩ := s.of hR p
  exact ⟨a, vs, rfl, h, by rw [← r.length]; exact hq.now hR (.int _) q⟩⟩
theorem cLenT : CallD X (.builtin "len") (c1 kLenT) := ⟨_, call_len_str, fun xs H Q ds G QD hR hp ⟨x, e, z, ez, l, q⟩ hq => by
  subst e
  obtain ⟨v, rfl, p⟩ := rps1 hp
  subst ez
  cases p
  exact ⟨_, rfl, l, hq.now hR (.int _) q⟩⟩
def kLen : RCD := fun ds G Q => c1 kLenS ds G Q ∨ c1 kLenT ds G Q
theorem cLen : CallD X (.builtin "len") kLen := cLenS.or cLenT
def kI (g : Int → D) : D → HH → QD → Prop := fun x G Q => ∃ i, x = .int i ∧ Q (g i) G
def kAbs : RCD := c1 (kI fun i => .int (i.natAbs : Int))
theorem cAbs : CallD X (.builtin "abs") kAbs := ⟨_, call_abs, fun xs H Q ds G QD hR hp ⟨x, e, i, ei, q⟩ hq => by
  subst e
  obtain ⟨v, rfl, p⟩ := rps1 hp
  subst ei
  cases p
  refine ⟨i, rfl, hq.now hR (d := .int (i.natAbs : Int)) ?_ q⟩
  have : (if i < 0 then -i else i) = (i.natAbs : Int) := by split <;> omega
  rw [this]
  exact .int _⟩
def k2I (g : Int → Int → D) : D → D → HH → QD → Prop := fun x y G Q => ∃ i j, x = .int i ∧ y = .int j ∧ Q (g i j) G
def kMax2 : RCD := c2 (k2I fun i j => .int (max i j))
def kMin2 : RCD := c2 (k2I fun i j => .int (min i j))
theorem cMax2 (hc : X.calm = true) : CallD X (.builtin "max") kMax2 := ⟨_, call_max2 hc, fun xs H Q ds G QD hR hp ⟨x, y, e, i, j, ei, ej, q⟩ hq => by
  subst e
  obtain ⟨v, w, rfl, p, p'⟩ := rps2 hp
  subst ei; subst ej
  cases p; cases p'
  refine ⟨i, j, rfl, hq.now hR (d := .int (max i j)) ?_ q⟩
  have : (if j > i then j else i) = max i j := by split <;> omega
  rw [this]
  exact .int _⟩
theorem cMin2 (hc : X.calm = true) : CallD X (.builtin "min") kMin2 := ⟨_, call_min2 hc, fun xs H Q ds G QD hR hp ⟨x, y, e, i, j, ei, ej, q⟩ hq => by
  subst e
  obtain ⟨v, w, rfl, p, p'⟩ := rps2 hp
  subst ei; subst ej
  cases p; cases p'
  refine ⟨i, j, rfl, hq.now hR (d := .int (min i j)) ?_ q⟩
  have : (if j < i then j else i) = min i j := by split <;> omega
  rw [this]
  exact .int _⟩
def kInt : RCD := c1 fun x G Q => (∃ i, x = .int i ∧ Q (.int i) G) ∨ ∃ k, x = .bl k ∧ Q (.int (if k then 1 else 0)) G
theorem cInt : CallD X (.type "int") kInt := ⟨_, call_int1, fun xs H Q ds G QD hR hp ⟨x, e, q⟩ hq => by
  subst e
  obtain ⟨v, rfl, p⟩ := rps1 hp
  rcases q with ⟨i, ei, q⟩ | ⟨i, ei, q⟩ <;> subst ei <;> cases p
  · exact .inl ⟨i, rfl, hq.now hR (.int _) q⟩
  · exact .inr ⟨i, rfl, hq.now hR (.int _) q⟩⟩
def kBool : RCD := c1 fun x G Q => (∃ i, x = .int i ∧ Q (.bl (i != 0)) G) ∨ ∃ k, x = .bl k ∧ Q (.bl k) G
theorem cBool : CallD X (.type "bool") kBool := ⟨_, call_bool1, fun xs H Q ds G QD hR hp ⟨x, e, q⟩ hq => by
  subst e
  obtain ⟨v, rfl, p⟩ := rps1 hp
  rcases q with ⟨i, ei, q⟩ | ⟨i, ei, q⟩ <;> subst ei <;> cases p
  · exact .inl ⟨i, rfl, hq.now hR (.bl _) q⟩
  · exact .inr ⟨i, rfl, hq.now hR (.bl _) q⟩⟩
def kStr : RCD := c1 fun x G Q => ∃ i, x = .int i ∧ i.natAbs.log2 < 1920 ∧ Q (.str (toString i)) G
theorem cStr : CallD X (.type "str") kStr := ⟨_, call_str_int, fun xs H Q ds G QD hR hp ⟨x, e, i, ei, l, q⟩ hq => by
  subst e
  obtain ⟨v, rfl, p⟩ := rps1 hp
  subst ei; cases p
  exact ⟨i, rfl, l, hq.now hR (.str _) q⟩⟩
def kTuple : RCD := c1 fun x G Q => ∃ xs, Sq G x xs ∧ Q (.tup xs) G
theorem cTuple : CallD X (.type "tuple") kTuple := ⟨_, call_tuple_of, fun xs H Q ds G QD hR hp ⟨x, e, xs', s, q⟩ hq => by
  subst e
  obtain ⟨v, rfl, p⟩ := rps1 hp
  cases s with
  | tup => cases p with | tup f r => exact ⟨_, _, rfl, .inr ⟨f.sq, hq.now hR (.tup f r) q⟩⟩
  | lst => cases p with | lst h g r => exact ⟨_, _, rfl, .inl ⟨SqL.of h, fun l hl => hq.tup hR hl r q⟩⟩
  | wls => cases p with | wls h r => exact ⟨_, _, rfl, .inl ⟨h.sq, fun l hl => hq.tup hR hl r q⟩⟩
  | ref eg => cases p with | ref a => obtain ⟨vs, h, r⟩ := hR _ _ eg; exact ⟨_, _, rfl, .inl ⟨SqL.of h, fun l hl => hq.tup hR hl r q⟩⟩⟩
/-- list(..): a frozen copy -/
def kList : RCD := c1 fun x G Q => ∃ xs, Sq G x xs ∧ Q (.lst xs) G
theorem cList : CallD X (.type "list") kList := ⟨_, call_list_of, fun xs H Q ds G QD hR hp ⟨x, e, xs', s, q⟩ hq => by
  subst e
  obtain ⟨v, rfl, p⟩ := rps1 hp
  obtain ⟨a, vs, rfl, h, r⟩ := s.of hR p
  exact ⟨a, vs, rfl, h, fun l hl => hq.lst hR hl r q⟩⟩
/-- .. a copy that may change -/
def kListM : RCD := c1 fun x G Q => ∃ xs, Sq G x xs ∧ ∀ p, G p = none → Q (.ref p) (gput G p (.lst xs))
theorem cListM : CallD X (.type "list") kListM := ⟨_, call_list_of, fun xs H Q ds G QD hR hp ⟨x, e, xs', s, q⟩ hq => by
  subst e
  obtain ⟨v, rfl, p⟩ := rps1 hp
  obtain ⟨a, vs, rfl, h, r⟩ := s.of hR p
  exact ⟨a, vs, rfl, h, fun l hl => hq _ _ _ _ (Stp.newM (od := .lst xs') hl) (hR.newM (od := .lst xs') hl ⟨vs, upd_same, r.mono (Stp.newM hl)⟩) (.ref l) (q l (hR.free hl))⟩⟩
def kSum : RCD := c1 fun x G Q => ∃ ns : List Int, LsW G x (ns.map D.int) ∧ Q (.int ns.sum) G
theorem cSum (hc : X.calm = true) : CallD X (.builtin "sum") kSum := ⟨_, cr_sum hc, fun xs H Q ds G QD hR hp ⟨x, e, ns, s, q⟩ hq => by
  subst e
  obtain ⟨v, rfl, p⟩ := rps1 hp
  obtain ⟨a, vs, rfl, h, r⟩ := s.of hR p
  rw [r.ints] at h
  exact ⟨a, ns, rfl, h, hq.now hR (.int _) q⟩⟩
def kAny : RCD := c1 fun x G Q => ∃ bs : List Bool, LsW G x (bs.map D.bl) ∧ Q (.bl (bs.any id)) G
theorem cAny (hc : X.calm = true) : CallD X (.builtin "any") kAny := ⟨_, cr_any hc, fun xs H Q ds G QD hR hp ⟨x, e, ns, s, q⟩ hq => by
  subst e
  obtain ⟨v, rfl, p⟩ := rps1 hp
  obtain ⟨a, vs, rfl, h, r⟩ := s.of hR p
  rw [r.bls] at h
  exact ⟨a, ns, rfl, h, hq.now hR (.bl _) q⟩⟩
def kAll : RCD := c1 fun x G Q => ∃ bs : List Bool, LsW G x (bs.map D.bl) ∧ Q (.bl (bs.all id)) G
theorem cAll (hc : X.calm = true) : CallD X (.builtin "all") kAll := ⟨_, cr_all hc, fun xs H Q ds G QD hR hp ⟨x, e, ns, s, q⟩ hq => by
  subst e
  obtain ⟨v, rfl, p⟩ := rps1 hp
  obtain ⟨a, vs, rfl, h, r⟩ := s.of hR p
  rw [r.bls] at h
  exact ⟨a, ns, rfl, h, hq.now hR (.bl _) q⟩⟩
/-- repr of data -/
def Shw (d : PyData) : Prop := d.showable = true ∧ SeqAt.shaped d = true ∧ d.shown.length ≤ sizeLine
theorem call_reprD (hg : X.A.guards = some []) (hu : X.A.units + 70 < cLine) : CallR X (.builtin "repr") (fun xs H Q => ∃ v d, xs = [v] ∧ Dp X.K H v d ∧ Shw d ∧ Q (.str d.shown) H) := by
  intro pins s σ H xs us Q I r h
  obtain ⟨v, d, rfl, hd, ⟨hs, hsh, hz⟩, q⟩ := h
  obtain ⟨u, rfl, ru⟩ := vals1 r
  cases hd with
  | non =>
    cases ru
    simp only [PyData.shown] at q
    exact PySem.P.repr_of_none ⟨.str _, H, I.tok _, ⟨_, rfl⟩, q⟩
  | bl b =>
    cases ru
    simp only [PyData.shown] at q
    exact PySem.P.repr_of_bool ⟨.str _, H, I.tok _, ⟨_, rfl⟩, q⟩
  | int i =>
    obtain ⟨t, rfl⟩ := ru
    simp only [PyData.shown] at q
    refine PySem.P.repr_of_int ?_ ⟨.str _, H, I.tok _, ⟨_, rfl⟩, q⟩
    simpa [PyData.showable] using hs
  | str x =>
    obtain ⟨t, rfl⟩ := ru
    simp only [PyData.shown] at q hz
    exact PySem.P.repr_of_str ⟨.str _, H, I.tok _, ⟨_, rfl⟩, q⟩ hz
  | @lst a xs ds h1 h2 =>
    cases ru
    obtain ⟨as, rd⟩ := Dp.reads I (.list ds) (.ref a) (.ref a) (.lst h1 h2) rfl
    have hdp := SeqAt.depth_of_shaped hsh
    exact repr_of_reads' (h₀ := s.heap) rd hs (fun z => absurd (z.symm.trans (PyData.hasDict_of_canLay _ (SeqAt.canLay_of_shaped hsh))) (by decide)) hg (by omega) (fun _ _ z => z) (fun h' u tk k => ⟨.str _, H, I.kept k, ⟨u, rfl⟩, q⟩) hz
  | @tup a xs ds h1 h2 =>
    cases ru
    obtain ⟨as, rd⟩ := Dp.reads I (.tuple ds) (.ref a) (.ref a) (.tup h1 h2) rfl
    have hdp := SeqAt.depth_of_shaped hsh
    exact repr_of_reads' (h₀ := s.heap) rd hs (fun z => absurd (z.symm.trans (PyData.hasDict_of_canLay _ (SeqAt.canLay_of_shaped hsh))) (by decide)) hg (by omega) (fun _ _ z => z) (fun h' u tk k => ⟨.str _, H, I.kept k, ⟨u, rfl⟩, q⟩) hz
def kRepr : RCD := c1 fun x G Q => ∃ d, Py G x d ∧ Shw d ∧ Q (.str d.shown) G
theorem cRepr (hg : X.A.guards = some []) (hu : X.A.units + 70 < cLine) : CallD X (.builtin "repr") kRepr := ⟨_, call_reprD hg hu, fun xs H Q ds G QD hR hp ⟨x, e, d, hd, hs, q⟩ hq => by
  subst e
  obtain ⟨v, rfl, p⟩ := rps1 hp
  exact ⟨v, d, rfl, hd.dp hR p, hs, hq.now hR (.str _) q⟩⟩

/-! ### defs -/
/-- a def's promise over data -/
abbrev SpD := List D → HH → QD → ED → Prop
def lsp (K : Frag) (sp : SpD) : Sp := fun vs H Q E => ∃ ds G QD EX, RelH K H G ∧ Rps K H G ds vs ∧ sp ds G QD EX ∧ Ct K H G Q QD ∧
  ∀ x cls d H' G', Stp H G H' G' → RelH K H' G' → XRp K H' G' x cls d → EX x G' → E cls d H'
/-- as FnOk, where no repr is under way -/
structure FnG (P : Program) (w : World) (K : Frag) (mg : Str → Option Value) (base : Heap) (k : Nat) (f : Addr) (fd : FuncData) (ps : List Str) (sp : SpD) : Prop where
  len : ∀ ds G Q E, sp ds G Q E → ds.length = ps.length
  run : ∀ (A : Around) (outer : List Env) (s : Shared) (H : Hp) (args : Args) (us : List Value) (vs : List V) (Q : VK) (E : XK), A.guards = some [] → Room k A → Env0 P w K mg base A outer s H → BindsTo s fd args (ps.zip us) → Vals vs us → lsp K sp vs H Q E →
    codeAny (model P w) A (.call (.ref f) args) (CR (L2.CX P w) outer P w H s Q E) s
theorem FnG.llen {P w K mg base k f fd ps sp} (F : FnG P w K mg base k f fd ps sp) {vs H Q E} (h : lsp K sp vs H Q E) : vs.length = ps.length := by
  obtain ⟨ds, G, QD, EX, _, r, q, _⟩ := h
  rw [← r.length]
  exact F.len _ _ _ _ q
theorem FnG.mono {P w K mg base j k f fd ps sp} (F : FnG P w K mg base j f fd ps sp) (h : j ≤ k) : FnG P w K mg base k f fd ps sp :=
  ⟨F.len, fun A outer s H args us vs Q E hg hr => F.run A outer s H args us vs Q E hg (hr.mono h)⟩
theorem FnG.imp {P w K mg base k f fd ps sp sp'} (F : FnG P w K mg base k f fd ps sp) (h : ∀ ds G Q E, sp' ds G Q E → sp ds G Q E) : FnG P w K mg base k f fd ps sp' :=
  ⟨fun ds G Q E q => F.len ds G Q E (h _ _ _ _ q), fun A outer s H args us vs Q E hg hr he hb hv ⟨ds, G, QD, EX, a1, a2, a3, a4⟩ => F.run A outer s H args us vs Q E hg hr he hb hv ⟨ds, G, QD, EX, a1, a2, h _ _ _ _ a3, a4⟩⟩
section
variable {k : Nat} {f : Addr} {fd : FuncData} {ps : List Str} {sp : SpD} {x : Str} {p : Pos}
/-- the callee runs, whatever way it was reached -/
theorem run_any {pins : List (Addr × Obj)} {σ : L2.St} {H : Hp} {s : Shared} {Q : VK} {us : List Value} {vs : List V} {args : Args} (F : FnG X.prog X.w X.K X.mg X.base k f fd ps sp) (hg : X.A.guards = some []) (hr : Room k X.A) (tk : Takes X W)
    (I : Inv X pins σ H s) (hb : BindsTo s fd args (ps.zip us)) (r : Vals vs us) (h : lsp X.K sp vs H Q (WE W σ)) : codeAny (model X.prog X.w) X.A (.call (.ref f) args) (fun r s' => match r with | .ok (.ret u) => EP X pins σ Q u s' | .ok _ => False | .error e => X.xe e s') s := by
  refine codeAny_mono (F.run X.A X.stack s H args us vs Q (WE W σ) hg hr I.env0 hb r h) fun r s' hq => ?_
  cases r with
  | error e => exact passAt tk σ pins H s e s' I hq
  | ok fl =>
    cases fl with
    | ret u => exact I.after hq
    | next => exact False.elim hq
    | brk => exact False.elim hq
    | cont => exact False.elim hq
theorem run_call {pins : List (Addr × Obj)} {σ : L2.St} {H : Hp} {s : Shared} {Q : VK} {us : List Value} {vs : List V} (F : FnG X.prog X.w X.K X.mg X.base k f fd ps sp) (hg : X.A.guards = some []) (hr : Room k X.A) (hb : Binds X.K fd ps []) (tk : Takes X W)
    (I : Inv X pins σ H s) (r : Vals vs us) (h : lsp X.K sp vs H Q (WE W σ)) : wpAny (model X.prog X.w) X.A (call (.ref f) us) (EP X pins σ Q) X.xe s := by
  have hl : us.length = ps.length := by rw [← r.length]; exact F.llen h
  have b := hb s us I.kIn (by rw [List.append_nil]; exact hl)
  rw [List.append_nil] at b
  refine wpAny_call (codeAny_mono (run_any F hg hr tk I b r h) fun r s' hq => ?_)
  cases r with
  | error e => exact hq
  | ok fl =>
    cases fl with
    | ret u => exact hq
    | next => exact False.elim hq
    | brk => exact False.elim hq
    | cont => exact False.elim hq
/-- f(e, ..) -/
def dCall (sp : SpD) (t : TAD) : TED := fun σ G Q E => t σ G (fun ds G1 => sp ds G1 Q E) E
theorem lft_call {K : Frag} {σ H Q} (h : lft K W (dCall sp t) σ H Q) : tCallS (lsp K sp) (WE W) (lftA K W t) σ H Q := by
  obtain ⟨σD, G, QD, E, hR, hS, ht, hq, he⟩ := h
  exact ⟨σD, G, _, E, hR, hS, ht, fun vs H1 ds G1 s1 r1 p1 q1 => ⟨ds, G1, QD, E, r1, p1, q1, hq.mono s1, he.mono s1⟩, he⟩
theorem de_call (F : FnG X.prog X.w X.K X.mg X.base k f fd ps sp) (hgd : X.A.guards = some []) (hr : Room k X.A) (hg : Gl X x) (hm : X.mg x = some (.ref f)) (hk : PySem.W.keepIn X.K (.ref f) = true) (hb : Binds X.K fd ps []) (tk : Takes X W)
    (ha : DA X W (e :: es) t) (hdb : (x == ("__debug__" : Str)) = false := by decide) (he : starEach (e :: es) X.env = (false, eval e X.env) :: starEach es X.env := by rfl) (hpl : (backTo pos (starEach es X.env)).any (·.1) = false := by rfl) :
    DE X W (.Call (.Name x p) (e :: es) [] pos) (dCall sp t) := by
  refine PE.imp (t := tCallS (lsp X.K sp) (WE W) (lftA X.K W t)) ⟨fun pins s σ H Q I h => ?_⟩ fun _ _ _ => lft_call
  refine wpAny_Call_Name_kw (ld_glob I hg hm ?_ hdb)
  have ha' : PA X (e :: es) (lftA X.K W t) := ha
  exact PySem.W.callWith_K (h₀ := X.base) I.ok.mod.kin hk (thn (ha'.run pos pins s σ H _ I h) fun us s1 ⟨vs, H1, I1, r, q⟩ => ⟨I1.kIn, run_call F hgd hr hb tk I1 r q⟩) he hpl
theorem de_call0 (F : FnG X.prog X.w X.K X.mg X.base k f fd ps sp) (hgd : X.A.guards = some []) (hr : Room k X.A) (hg : Gl X x) (hm : X.mg x = some (.ref f)) (hk : PySem.W.keepIn X.K (.ref f) = true) (hb : Binds X.K fd ps []) (tk : Takes X W)
    (hdb : (x == ("__debug__" : Str)) = false := by decide) : DE X W (.Call (.Name x p) [] [] pos) (dCall sp dNil) := by
  refine PE.imp (t := tCallS (lsp X.K sp) (WE W) tNil) ⟨fun pins s σ H Q I h => ?_⟩ fun σ H Q ⟨σD, G, QD, E, hR, hS, q, hq, he⟩ => ⟨[], G, QD, E, hR, .nil, q, hq, he⟩
  refine wpAny_Call_Name_kw (ld_glob I hg hm ?_ hdb)
  exact PySem.W.callWith_K0 I.kIn hk (run_call (us := []) F hgd hr hb tk I .nil h)
end
end DL

namespace DL
open PySem PySem.Spec PyProof.Rows L2
open PySem.W (Frag)
variable {X : Cx} {W : WX} {e a b c : Expr} {es : List Expr} {ta tb tc : TED} {t u : TAD} {tA tB' : TTD} {pos : Pos} {st : Stmt} {rest body : List Stmt}

/-! ### statements -/
structure EndsD where
  nx : SD → HH → Prop
  rt : QD
  bk : SD → HH → Prop := fun _ _ => False
  ct : SD → HH → Prop := fun _ _ => False
  ex : XD → SD → HH → Prop := fun _ _ _ => False
abbrev TSD := EndsD → SD → HH → Prop
def Nx (K : Frag) (H : Hp) (G : HH) (P : SD → HH → Prop) (Q : L2.St → Hp → Prop) : Prop := ∀ σ' H' σD' G', Stp H G H' G' → RelH K H' G' → SRp K H' G' σD' σ' → P σD' G' → Q σ' H'
theorem Nx.mono {K H G H' G' P Q} (s : Stp H G H' G') (h : Nx K H G P Q) : Nx K H' G' P Q := fun σ2 H2 σD2 G2 s2 r2 p2 q2 => h σ2 H2 σD2 G2 (s.trans s2) r2 p2 q2
def ExS (K : Frag) (W : WX) (H : Hp) (G : HH) (E : XD → SD → HH → Prop) : Prop := ∀ x cls d σ' σD' H' G', Stp H G H' G' → RelH K H' G' → SRp K H' G' σD' σ' → XRp K H' G' x cls d → E x σD' G' → W cls d σ' H'
theorem ExS.mono {K W H G H' G' E} (s : Stp H G H' G') (h : ExS K W H G E) : ExS K W H' G' E := fun x cls d σ2 σD2 H2 G2 s2 r2 p2 x2 e2 => h x cls d σ2 σD2 H2 G2 (s.trans s2) r2 p2 x2 e2
theorem ExS.at {K W H G E σD σ} (h : ExS K W H G E) (hS : SRp K H G σD σ) : Exs K W σ H G (fun x G => E x σD G) := fun x cls d H' G' s r p e => h x cls d σ σD H' G' s r (hS.mono s) p e
structure EndR (K : Frag) (W : WX) (H : Hp) (G : HH) (DD : EndsD) (D : Ends) : Prop where
  nx : Nx K H G DD.nx D.nx
  rt : Ct K H G D.rt DD.rt
  bk : Nx K H G DD.bk D.bk
  ct : Nx K H G DD.ct D.ct
  ex : ExS K W H G DD.ex
theorem EndR.mono {K W H G H' G' DD D} (s : Stp H G H' G') (h : EndR K W H G DD D) : EndR K W H' G' DD D := ⟨h.nx.mono s, h.rt.mono s, h.bk.mono s, h.ct.mono s, h.ex.mono s⟩
def lftS (K : Frag) (W : WX) (t : TSD) : TS := fun D σ H => ∃ σD G DD, RelH K H G ∧ SRp K H G σD σ ∧ t DD σD G ∧ EndR K W H G DD D
def DS (X : Cx) (W : WX) (st : Stmt) (t : TSD) : Prop := PS X st (lftS X.K W t)
def DSs (X : Cx) (W : WX) (st : List Stmt) (t : TSD) : Prop := PSs X st (lftS X.K W t)
theorem PS.imp {X : Cx} {e : Stmt} {t t' : TS} (h : PS X e t) (i : ∀ D σ H, t' D σ H → t D σ H) : PS X e t' := ⟨fun pins s σ H D I q => h.run pins s σ H D I (i D σ H q)⟩
theorem PSs.imp {X : Cx} {e : List Stmt} {t t' : TS} (h : PSs X e t) (i : ∀ D σ H, t' D σ H → t D σ H) : PSs X e t' := ⟨fun pins s σ H D I q => h.run pins s σ H D I (i D σ H q)⟩
theorem PG.imp {X : Cx} {e : Expr} {t t' : TG} (h : PG X e t) (i : ∀ v σ H Q, t' v σ H Q → t v σ H Q) : PG X e t' := ⟨fun pins s σ H v u Q I r q => h.run pins s σ H v u Q I r (i v σ H Q q)⟩
theorem PGs.imp {X : Cx} {e : List Expr} {t t' : TGs} (h : PGs X e t) (i : ∀ v σ H Q, t' v σ H Q → t v σ H Q) : PGs X e t' := ⟨fun pins s σ H v u Q I r q => h.run pins s σ H v u Q I r (i v σ H Q q)⟩
theorem PI.imp {X : Cx} {tg e : Expr} {t t' : TI} (h : PI X tg e t) (i : ∀ σ H Q, t' σ H Q → t σ H Q) : PI X tg e t' := ⟨fun pins s σ H R I q => h.run pins s σ H R I (i σ H R q)⟩

def dNext : TSD := fun D σ G => D.nx σ G
def dSeq (t u : TSD) : TSD := fun D σ G => t { D with nx := u D } σ G
variable {tS uS : TSD}
theorem dss_nil : DSs X W [] dNext := PSs.imp pss_nil fun D σ H ⟨σD, G, DD, hR, hS, q, he⟩ => he.nx _ _ _ _ Stp.refl hR hS q
theorem dss_cons (h1 : DS X W st tS) (h2 : DSs X W rest uS) : DSs X W (st :: rest) (dSeq tS uS) := PSs.imp (pss_cons h1 h2) fun D σ H ⟨σD, G, DD, hR, hS, q, he⟩ => by
  refine ⟨σD, G, _, hR, hS, q, fun σ' H' σD' G' s r p z => ?_, he.rt, he.bk, he.ct, he.ex⟩
  exact ⟨σD', G', DD, r, p, z, he.mono s⟩
theorem dss_one (h1 : DS X W st tS) : DSs X W [st] tS := pss_one h1
def dBreak : TSD := fun D σ G => D.bk σ G
def dCont : TSD := fun D σ G => D.ct σ G
theorem ds_pass : DS X W (.Pass pos) dNext := PS.imp ps_pass fun D σ H ⟨σD, G, DD, hR, hS, q, he⟩ => he.nx _ _ _ _ Stp.refl hR hS q
theorem ds_break : DS X W (.Break pos) dBreak := PS.imp ps_break fun D σ H ⟨σD, G, DD, hR, hS, q, he⟩ => he.bk _ _ _ _ Stp.refl hR hS q
theorem ds_continue : DS X W (.Continue pos) dCont := PS.imp ps_continue fun D σ H ⟨σD, G, DD, hR, hS, q, he⟩ => he.ct _ _ _ _ Stp.refl hR hS q
def dDrop (ta : TED) : TSD := fun D σ G => ta σ G (fun _ G1 => D.nx σ G1) (fun x G1 => D.ex x σ G1)
theorem ds_expr (ha : DE X W a ta) (hs : swapsWith a none pos.line X.env = pure false := by rfl) : DS X W (.Expr a pos) (dDrop ta) := PS.imp (ps_expr ha hs) fun D σ H ⟨σD, G, DD, hR, hS, q, he⟩ =>
  ⟨σD, G, _, _, hR, hS, q, fun v H1 d G1 s r p z => he.nx _ _ _ _ s r (hS.mono s) z, he.ex.at hS⟩
def dRet (ta : TED) : TSD := fun D σ G => ta σ G D.rt (fun x G1 => D.ex x σ G1)
theorem ds_ret (ha : DE X W a ta) : DS X W (.Return (some a) pos) (dRet ta) := PS.imp (ps_ret ha) fun D σ H ⟨σD, G, DD, hR, hS, q, he⟩ =>
  ⟨σD, G, _, _, hR, hS, q, he.rt, he.ex.at hS⟩
/-- .. a list that was filled is frozen -/
def dRetF (ta : TED) : TSD := fun D σ G => ta σ G (fun d G1 => ∃ p xs, d = .ref p ∧ G1 p = some (.lst xs) ∧ D.rt (.lst xs) (gdel G1 p)) (fun x G1 => D.ex x σ G1)
theorem thaw_lst {K H G p xs} (hR : RelH K H G) (e : G p = some (.lst xs)) : Rp K H (gdel G p) (.lst xs) (.ref p) := by
  obtain ⟨vs, h, r⟩ := hR p _ e
  exact .lst h gdel_same (r.mono Stp.del)
theorem ds_retF (ha : DE X W a ta) : DS X W (.Return (some a) pos) (dRetF ta) := PS.imp (ps_ret ha) fun D σ H ⟨σD, G, DD, hR, hS, q, he⟩ =>
  ⟨σD, G, _, _, hR, hS, q, fun v H1 d G1 s r p ⟨q, xs, e1, e2, z⟩ => by
    subst e1; cases p
    exact he.rt _ _ _ _ (s.trans Stp.del) r.del (thaw_lst r e2) z, he.ex.at hS⟩
def dRetN : TSD := fun D _ G => D.rt .non G
theorem ds_retN : DS X W (.Return none pos) dRetN := PS.imp ps_retN fun D σ H ⟨σD, G, DD, hR, hS, q, he⟩ => he.rt.now hR .non q
def dIfS (c : TTD) (t u : TSD) : TSD := fun D σ G => c σ G (fun b G1 => if b = true then t D σ G1 else u D σ G1) (fun x G1 => D.ex x σ G1)
theorem ds_if {a b : List Stmt} (hc : DT X W c tA) (ha : DSs X W a tS) (hb : DSs X W b uS) : DS X W (.If c a b pos) (dIfS tA tS uS) := PS.imp (ps_if hc ha hb) fun D σ H ⟨σD, G, DD, hR, hS, q, he⟩ =>
  ⟨σD, G, _, _, hR, hS, q, fun k H1 G1 s r z => by
    cases k with
    | true => rw [if_pos rfl] at z ⊢; exact ⟨σD, G1, DD, r, hS.mono s, z, he.mono s⟩
    | false => rw [if_neg Bool.false_ne_true] at z ⊢; exact ⟨σD, G1, DD, r, hS.mono s, z, he.mono s⟩, he.ex.at hS⟩
/-- a list in slot i is frozen here -/
def dFrz (i : Nat) (t : TSD) : TSD := fun D σ G => ∃ p xs, σ[i]? = some (some (.ref p)) ∧ G p = some (.lst xs) ∧ t D (σ.set i (some (.lst xs))) (gdel G p)
theorem dss_frz (i : Nat) (h : DSs X W rest tS) : DSs X W rest (dFrz i tS) := PSs.imp h fun D σ H ⟨σD, G, DD, hR, hS, ⟨p, xs, e1, e2, q⟩, he⟩ => by
  obtain ⟨v, ev, r⟩ := hS.at_ i _ e1
  cases r
  refine ⟨σD.set i (some (.lst xs)), gdel G p, DD, hR.del, ?_, q, he.mono Stp.del⟩
  have z := (hS.mono (Stp.del (p := p))).set i (thaw_lst hR e2)
  have eσ : σ.set i (some (.ref p)) = σ := by
    apply List.ext_getElem?
    intro j
    by_cases hj : i = j
    · subst hj
      rw [List.getElem?_set_self (List.getElem?_eq_some_iff.mp ev).1, ev]
    · rw [List.getElem?_set_ne hj]
  rw [eσ] at z
  exact z

/-! ### targets -/
abbrev TGD := D → SD → HH → (SD → HH → Prop) → Prop
abbrev TGsD := List D → SD → HH → (SD → HH → Prop) → Prop
def lftG (K : Frag) (t : TGD) : TG := fun v σ H Q => ∃ d σD G QD, RelH K H G ∧ SRp K H G σD σ ∧ Rp K H G d v ∧ t d σD G QD ∧ Nx K H G QD Q
def lftGs (K : Frag) (t : TGsD) : TGs := fun vs σ H Q => ∃ ds σD G QD, RelH K H G ∧ SRp K H G σD σ ∧ Rps K H G ds vs ∧ t ds σD G QD ∧ Nx K H G QD Q
def DG (X : Cx) (e : Expr) (t : TGD) : Prop := PG X e (lftG X.K t)
def DGs (X : Cx) (es : List Expr) (t : TGsD) : Prop := PGs X es (lftGs X.K t)
def gdName (i : Nat) : TGD := fun d σ G Q => Q (σ.set i (some d)) G
theorem dg_name {i : Nat} {x : Str} (hN : X.N.Nodup) (hi : X.N[i]? = some x) (hx : Loc X.env.scope x) (hf : X.fn x = true ∨ X.env.scope.names.lookup x = some .local := by first | exact .inl rfl | exact .inr rfl | assumption) : DG X (.Name x pos) (gdName i) :=
  PG.imp (pg_name hN hi hx hf) fun v σ H Q ⟨d, σD, G, QD, hR, hS, p, q, hq⟩ => hq _ _ _ _ Stp.refl hR (hS.set i p) q
def gdNil : TGsD := fun ds σ G Q => ds = [] ∧ Q σ G
def gdCons (t : TGD) (u : TGsD) : TGsD := fun ds σ G Q => ∃ d r, ds = d :: r ∧ t d σ G (fun σ' G' => u r σ' G' Q)
theorem dgs_nil : DGs X [] gdNil := PGs.imp pgs_nil fun vs σ H Q ⟨ds, σD, G, QD, hR, hS, p, ⟨e, q⟩, hq⟩ => by
  subst e; cases p
  exact ⟨rfl, hq _ _ _ _ Stp.refl hR hS q⟩
theorem dgs_cons {tG : TGD} {uG : TGsD} (h1 : DG X e tG) (h2 : DGs X es uG) (hs : (assignEach (e :: es) X.env).map (·.2) = assign e X.env :: (assignEach es X.env).map (·.2) := by rfl) : DGs X (e :: es) (gdCons tG uG) :=
  PGs.imp (pgs_cons h1 h2 hs) fun vs σ H Q ⟨ds, σD, G, QD, hR, hS, p, ⟨d, r, e, q⟩, hq⟩ => by
    subst e
    cases p with
    | cons p1 p2 =>
      refine ⟨_, _, rfl, d, σD, G, _, hR, hS, p1, q, fun σ' H' σD' G' s r' p' z => ?_⟩
      exact ⟨_, σD', G', QD, r', p', p2.mono s, z, hq.mono s⟩
def gdTup (n : Nat) (t : TGsD) : TGD := fun d σ G Q => ∃ ds, d = .tup ds ∧ ds.length = n ∧ t ds σ G Q
theorem dg_tup {k n : Nat} {tG : TGsD} (hc : X.calm = true) (h : DGs X es tG) (hn : (assignEach es X.env).length = n := by rfl) (hst : (assignEach es X.env).findIdx? (·.1) = none := by rfl) : DG X (.Tuple es k pos) (gdTup n tG) :=
  PG.imp (pg_tup hc h hn hst) fun v σ H Q ⟨d, σD, G, QD, hR, hS, p, ⟨ds, e, l, q⟩, hq⟩ => by
    subst e
    cases p with
    | tup f r => exact ⟨_, _, rfl, f.sq, by rw [← r.length]; exact l, ds, σD, G, QD, hR, hS, r, q, hq⟩
/-- o[i] = .., a list -/
def gdSub (ta tb : TED) : TGD := fun d σ G Q => ta σ G (fun x G1 => tb σ G1 (fun y G2 => ∃ p xs k j, x = .ref p ∧ y = .int k ∧ G2 p = some (.lst xs) ∧ ixN xs.length k = some j ∧ Q σ (gput G2 p (.lst (xs.set j d)))) (fun _ _ => False)) (fun _ _ => False)
theorem exs0 {K σ H G} : Exs K (fun _ _ _ _ => False) σ H G (fun _ _ => False) := fun _ _ _ _ _ _ _ _ z => z
theorem dg_sub (ha : DE X (fun _ _ _ _ => False) a ta) (hb : DE X (fun _ _ _ _ => False) b tb) (hh : ∀ v, assign (.Subscript a b pos) X.env v = (do
      let ov ← holding [v] (eval a X.env)
      let iv ← holding [v, ov] (eval b X.env)
      standAt pos
      holding [v, ov, iv] (setItem ov iv v)
      release [v, ov, iv] []) := by intro _; rfl) : DG X (.Subscript a b pos) (gdSub ta tb) :=
  PG.imp (pg_sub ha hb set_list hh) fun v σ H Q ⟨d, σD, G, QD, hR, hS, p, q, hq⟩ => by
    refine ⟨σD, G, _, _, hR, hS, q, fun v1 H1 d1 G1 s1 r1 p1 q1 => ?_, exs0⟩
    refine ⟨σD, G1, _, _, r1, hS.mono s1, q1, fun v2 H2 d2 G2 s2 r2 p2 ⟨q, xs, k, j, e1, e2, e3, e4, z⟩ => ?_, exs0⟩
    subst e1; subst e2; cases p1; cases p2
    obtain ⟨vs, h, r⟩ := r2 _ _ e3
    have s3 := Stp.put (H := H2) (o := .lst (vs.set j v)) (od := .lst (xs.set j d)) e3
    have s12 := s1.trans s2
    exact ⟨_, _, k, j, rfl, rfl, h, by rw [← r.length]; exact e4, hq _ _ _ _ (s12.trans s3) (r2.put e3 ⟨_, upd_same, ((r.mono s3).set (by first | exact (p.mono s12).mono s3) j)⟩) ((hS.mono s12).mono s3) z⟩
def dAsg (ta : TED) (g : TGD) : TSD := fun D σ G => ta σ G (fun x G1 => g x σ G1 D.nx) (fun x G1 => D.ex x σ G1)
theorem ds_asg {tg : Expr} {g : TGD} (ha : DE X W a ta) (hg : DG X tg g) (hs : swapsWithSole [tg] a pos.line X.env = pure false := by rfl) (hw : swappedStores [tg] a X.env = pure none := by rfl)
    (h1 : (assignEach [tg] X.env).map (·.2) = [assign tg X.env] := by rfl) : DS X W (.Assign [tg] a pos) (dAsg ta g) := PS.imp (ps_asg ha hg hs hw h1) fun D σ H ⟨σD, G, DD, hR, hS, q, he⟩ =>
  ⟨σD, G, _, _, hR, hS, q, fun v H1 d G1 s r p z => ⟨d, σD, G1, DD.nx, r, hS.mono s, p, z, he.nx.mono s⟩, he.ex.at hS⟩
theorem ds_set {i : Nat} {x : Str} {pos' : Pos} (hN : X.N.Nodup) (hi : X.N[i]? = some x) (hx : Loc X.env.scope x) (ha : DE X W a ta) (hs : swapsWith a (some (.Name x pos')) pos.line X.env = pure false := by rfl) (hf : X.fn x = true ∨ X.env.scope.names.lookup x = some .local := by first | exact .inl rfl | exact .inr rfl | assumption) :
    DS X W (.Assign [.Name x pos'] a pos) (dAsg ta (gdName i)) := PS.imp (ps_set hN hi hx ha hs hf) fun D σ H ⟨σD, G, DD, hR, hS, q, he⟩ =>
  ⟨σD, G, _, _, hR, hS, q, fun v H1 d G1 s r p z => he.nx _ _ _ _ s r ((hS.mono s).set i p) z, he.ex.at hS⟩
/-- a, b = x, y -/
def dPar (i j : Nat) (t : TAD) : TSD := fun D σ G => t σ G (fun ds G1 => ∃ d e, ds = [d, e] ∧ D.nx ((σ.set i (some d)).set j (some e)) G1) (fun x G1 => D.ex x σ G1)
theorem ds_par {i j : Nat} {x y : Str} {px py pt : Pos} {kt k2 pt2} (hc : X.calm = true) (hN : X.N.Nodup) (hi : X.N[i]? = some x) (hj : X.N[j]? = some y) (hij : i ≠ j)
    (hx : X.env.scope.names.lookup x = some .local) (hy : X.env.scope.names.lookup y = some .local) (ha : DA X W [a, b] t)
    (hw : swappedStores [.Tuple [.Name x px, .Name y py] kt pt] (.Tuple [a, b] k2 pt2) X.env = pure (some [x, y]))
    (hs : swapsWithSole [.Tuple [.Name x px, .Name y py] kt pt] (.Tuple [a, b] k2 pt2) pos.line X.env = pure false := by rfl) :
    DS X W (.Assign [.Tuple [.Name x px, .Name y py] kt pt] (.Tuple [a, b] k2 pt2) pos) (dPar i j t) := PS.imp (ps_par hc hN hi hj hij hx hy ha hw hs) fun D σ H ⟨σD, G, DD, hR, hS, q, he⟩ =>
  ⟨σD, G, _, _, hR, hS, q, fun vs H1 ds G1 s r p ⟨d, e, e1, z⟩ => by
    subst e1
    obtain ⟨v, w, rfl, p1, p2⟩ := rps2 p
    exact ⟨v, w, rfl, he.nx _ _ _ _ s r (((hS.mono s).set i p1).set j p2) z⟩, he.ex.at hS⟩

/-! ### what a loop walks -/
abbrev TID := SD → HH → (List D → (HH → Prop) → HH → Prop) → ED → Prop
def ItR (K : Frag) (H : Hp) (G : HH) (J : It) (items : List D) (ok : HH → Prop) : Prop := ∀ i H2 G2, Stp H G H2 G2 → RelH K H2 G2 → ok G2 →
  (∀ d, items[i]? = some d → J.go i H2 ∧ ∀ x H3, J.yld i H2 x H3 → Stp H2 G2 H3 G2 ∧ RelH K H3 G2 ∧ Rp K H3 G2 d x) ∧ (items.length ≤ i → J.stop i H2)
def lftI (K : Frag) (W : WX) (t : TID) : TI := fun σ H R => ∃ σD G RD E, RelH K H G ∧ SRp K H G σD σ ∧ t σD G RD E ∧ (∀ J H' items ok G', Stp H G H' G' → RelH K H' G' → ItR K H' G' J items ok → RD items ok G' → R J H') ∧ Exs K W σ H G E
def DI (X : Cx) (W : WX) (tg e : Expr) (t : TID) : Prop := PI X tg e (lftI X.K W t)
def okT : HH → Prop := fun _ => True
variable {tg : Expr}
/-- a tuple -/
def iTupD (ta : TED) : TID := fun σ G R E => ta σ G (fun x G1 => ∃ xs, x = .tup xs ∧ R xs okT G1) E
theorem di_tup (ha : DE X W a ta) : DI X W tg a (iTupD ta) := PI.imp (pi_tup ha) fun σ H R ⟨σD, G, RD, E, hR, hS, q, hr, he⟩ =>
  ⟨σD, G, _, E, hR, hS, q, fun v H1 d G1 s r p ⟨xs, ex, z⟩ => by
    subst ex
    cases p with
    | @tup a vs _ f rr =>
      refine ⟨a, rfl, ⟨_, f.sq⟩, hr _ _ _ _ _ s r (fun i H2 G2 s2 r2 _ => ⟨fun d hd => ?_, fun hl => ?_⟩) z⟩
      · obtain ⟨x, hx, px⟩ := (rr.mono s2).get hd
        refine ⟨⟨_, x, (f.mono s2).sq, hx⟩, fun y H3 ⟨e3, hy⟩ => ?_⟩
        have := hy _ (f.mono s2).sq
        rw [hx] at this
        cases this
        rw [e3]
        exact ⟨Stp.refl, r2, px⟩
      · exact ⟨_, (f.mono s2).sq, by rw [← rr.length]; exact hl⟩, he⟩
/-- a list, frozen or to be left alone meanwhile -/
def okL (x : D) (xs : List D) : HH → Prop := fun G => LsW G x xs
def iLstD (ta : TED) : TID := fun σ G R E => ta σ G (fun x G1 => ∃ xs, LsW G1 x xs ∧ R xs (okL x xs) G1) E
theorem di_lst (ha : DE X W a ta) : DI X W tg a (iLstD ta) := PI.imp (pi_list ha) fun σ H R ⟨σD, G, RD, E, hR, hS, q, hr, he⟩ =>
  ⟨σD, G, _, E, hR, hS, q, fun v H1 d G1 s r p ⟨xs, ls, z⟩ => by
    obtain ⟨a, vs, rfl, h1, rr⟩ := ls.of r p
    refine ⟨a, rfl, ⟨_, h1⟩, hr _ _ _ _ _ s r (fun i H2 G2 s2 r2 ok2 => ?_) z⟩
    obtain ⟨a2, vs2, e2, h2, rr2⟩ := LsW.of ok2 r2 (p.mono s2)
    cases e2
    refine ⟨fun d hd => ?_, fun hl => ⟨_, h2, by rw [← rr2.length]; exact hl⟩⟩
    obtain ⟨x, hx, px⟩ := rr2.get hd
    refine ⟨⟨_, x, h2, hx⟩, fun y H3 ⟨e3, hy⟩ => ?_⟩
    have := hy _ h2
    rw [hx] at this
    cases this
    rw [e3]
    exact ⟨Stp.refl, r2, px⟩, he⟩
/-- range(n), range(a, b) -/
def rgItems (lo : Int) (n : Nat) : List D := (List.range n).map fun i : Nat => D.int (lo + (i : Int))
theorem rgItems_len {lo n} : (rgItems lo n).length = n := by simp [rgItems]
theorem itR_rng {K H G lo n} : ItR K H G (Itr lo n) (rgItems lo n) okT := fun i H2 G2 s2 r2 _ => ⟨fun d hd => by
    have hi : i < n := by
      have := (List.getElem?_eq_some_iff.mp hd).1
      simpa [rgItems] using this
    refine ⟨hi, fun y H3 ⟨e3, hy⟩ => ?_⟩
    have e : d = .int (lo + (i : Int)) := by
      simp [rgItems, hi] at hd
      exact hd.symm
    rw [e3, e, hy]
    exact ⟨Stp.refl, r2, .int _⟩, fun hl => by
    have : n ≤ i := by simpa [rgItems] using hl
    exact this⟩
def iRngD1 (t : TAD) : TID := fun σ G R E => t σ G (fun ds G1 => ∃ j : Int, ds = [.int j] ∧ -(2 ^ 62) ≤ j ∧ j < 2 ^ 62 ∧ R (rgItems 0 j.toNat) okT G1) E
def iRngD2 (t : TAD) : TID := fun σ G R E => t σ G (fun ds G1 => ∃ i j : Int, ds = [.int i, .int j] ∧ (-(2 ^ 62) ≤ i ∧ i < 2 ^ 62 ∧ -(2 ^ 62) ≤ j ∧ j < 2 ^ 62) ∧ R (rgItems i (j - i).toNat) okT G1) E
theorem di_rng1 {p : Pos} (hg : Gl X "range") (hm : X.mg "range" = none) (ha : DA X W [a] t) (hs : starEach [a] X.env = [(false, eval a X.env)] := by rfl) : DI X W tg (.Call (.Name "range" p) [a] [] pos) (iRngD1 t) :=
  PI.imp (pi_range1 hg hm ha hs) fun σ H R ⟨σD, G, RD, E, hR, hS, q, hr, he⟩ => ⟨σD, G, _, E, hR, hS, q, fun vs H1 ds G1 s r p ⟨j, e, l1, l2, z⟩ => by
    subst e
    obtain ⟨v, rfl, p1⟩ := rps1 p
    cases p1
    exact ⟨j, rfl, l1, l2, hr _ _ _ _ _ s r itR_rng z⟩, he⟩
theorem di_rng2 {p : Pos} (hg : Gl X "range") (hm : X.mg "range" = none) (ha : DA X W [a, b] t) (hs : starEach [a, b] X.env = [(false, eval a X.env), (false, eval b X.env)] := by rfl) (hs2 : starEach [b] X.env = [(false, eval b X.env)] := by rfl) :
    DI X W tg (.Call (.Name "range" p) [a, b] [] pos) (iRngD2 t) :=
  PI.imp (pi_range2 hg hm ha hs hs2) fun σ H R ⟨σD, G, RD, E, hR, hS, q, hr, he⟩ => ⟨σD, G, _, E, hR, hS, q, fun vs H1 ds G1 s r p ⟨i, j, e, l, z⟩ => by
    subst e
    obtain ⟨v, w, rfl, p1, p2⟩ := rps2 p
    cases p1; cases p2
    exact ⟨i, j, rfl, l, hr _ _ _ _ _ s r itR_rng z⟩, he⟩

/-! ### for -/
def dFor (wi : TID) (g : TGD) (tb : TSD) : TSD := fun DD σ G => wi σ G (fun items ok G1 => ∃ Iv : List D → SD → HH → Prop, Iv [] σ G1 ∧ (∀ pre σ G, Iv pre σ G → ok G) ∧
  (∀ pre x post σ G, items = pre ++ x :: post → Iv pre σ G → g x σ G (fun σ2 G2 => tb { DD with nx := Iv (pre ++ [x]), ct := Iv (pre ++ [x]), bk := DD.nx } σ2 G2)) ∧ (∀ σ G, Iv items σ G → DD.nx σ G)) (fun x G1 => DD.ex x σ G1)
theorem take_snoc {α : Type} {l : List α} {i : Nat} {x : α} (h : l[i]? = some x) : l.take (i + 1) = l.take i ++ [x] := by
  rw [List.take_succ, h]; rfl
theorem split_at {α : Type} {l : List α} {i : Nat} {x : α} (h : l[i]? = some x) : l = l.take i ++ x :: l.drop (i + 1) := by
  have hi := (List.getElem?_eq_some_iff.mp h).1
  have hx := (List.getElem?_eq_some_iff.mp h).2
  rw [← hx, ← List.drop_eq_getElem_cons hi, List.take_append_drop]
theorem ds_for {iter : Expr} {wi : TID} {g : TGD} (hp : PassesOwn (model X.prog X.w) X.A X.env X.xe) (hc : X.calm = true) (hi : DI X W tg iter wi) (hg : DG X tg g) (hb : DSs X W body tS)
    (hs : ∀ x, foldedSetIterable iter X.env x = pure x := by intro _; rfl) : DS X W (.For tg iter body [] pos) (dFor wi g tS) := PS.imp (ps_for hp hc hi hg hb hs) fun D σ H ⟨σD, G, DD, hR, hS, q, he⟩ => by
  refine ⟨σD, G, _, _, hR, hS, q, fun J H1 items ok G1 s1 r1 itr ⟨Iv, i0, iok, istep, iend⟩ => ?_, he.ex.at hS⟩
  refine ⟨fun i m σ' H' => m = items.length - i ∧ i ≤ items.length ∧ ∃ σD' G', Stp H1 G1 H' G' ∧ RelH X.K H' G' ∧ SRp X.K H' G' σD' σ' ∧ Iv (items.take i) σD' G', ⟨items.length, by simp, Nat.zero_le _, σD, G1, Stp.refl, r1, hS.mono s1, by simpa using i0⟩, ?_⟩
  rintro i m σ' H' ⟨rfl, hi, σD', G', s', r', p', iv⟩
  obtain ⟨j1, j2⟩ := itr i H' G' s' r' (iok _ _ _ iv)
  have s1' := s1.trans s'
  by_cases hlt : i < items.length
  · obtain ⟨d, hd⟩ : ∃ d, items[i]? = some d := ⟨items[i], List.getElem?_eq_getElem hlt⟩
    obtain ⟨jgo, jy⟩ := j1 d hd
    refine .inr ⟨jgo, fun σ'' H'' => ∃ σD'' G'', Stp H1 G1 H'' G'' ∧ RelH X.K H'' G'' ∧ SRp X.K H'' G'' σD'' σ'' ∧ Iv (items.take (i + 1)) σD'' G'', fun σ'' H'' z => ⟨items.length - (i + 1), by omega, rfl, hlt, z⟩, fun x H3 y => ?_⟩
    obtain ⟨s3, r3, px⟩ := jy x H3 y
    have stp := istep _ d _ σD' G' (split_at hd) iv
    refine ⟨d, σD', G', _, r3, p'.mono s3, px, stp, fun σ4 H4 σD4 G4 s4 r4 p4 z => ?_⟩
    have s04 := (s1'.trans s3).trans s4
    have s14 := (s'.trans s3).trans s4
    have nxt : Nx X.K H4 G4 (Iv (items.take i ++ [d])) (fun σ'' H'' => ∃ σD'' G'', Stp H1 G1 H'' G'' ∧ RelH X.K H'' G'' ∧ SRp X.K H'' G'' σD'' σ'' ∧ Iv (items.take (i + 1)) σD'' G'') := fun σ5 H5 σD5 G5 s5 r5 p5 z5 =>
      ⟨σD5, G5, s14.trans s5, r5, p5, by rw [take_snoc hd]; exact z5⟩
    exact ⟨σD4, G4, _, r4, p4, z, nxt, he.rt.mono s04, he.nx.mono s04, nxt, he.ex.mono s04⟩
  · have e : i = items.length := by omega
    subst e
    rw [List.take_length] at iv
    exact .inl ⟨j2 (Nat.le_refl _), he.nx _ _ _ _ s1' r' p' (iend _ _ iv)⟩

/-! ### while -/
def dWhile (c : TTD) (tb : TSD) : TSD := fun DD σ G => ∃ (Iv : SD → HH → Prop) (μ : SD → HH → Nat), Iv σ G ∧ ∀ σ G, Iv σ G →
  c σ G (fun b G1 => if b = true then tb { DD with nx := fun σ' G' => Iv σ' G' ∧ μ σ' G' < μ σ G, ct := fun σ' G' => Iv σ' G' ∧ μ σ' G' < μ σ G, bk := DD.nx } σ G1 else DD.nx σ G1) (fun x G1 => DD.ex x σ G1)
theorem ds_while (hp : PassesOwn (model X.prog X.w) X.A X.env X.xe) (hc : DT X W c tA) (hb : DSs X W body tS) : DS X W (.While c body [] pos) (dWhile tA tS) := PS.imp (ps_while hp hc hb) fun D σ H ⟨σD, G, DD, hR, hS, ⟨Iv, μ, i0, istep⟩, he⟩ => by
  refine ⟨fun m σ' H' => ∃ σD' G', m = μ σD' G' ∧ Stp H G H' G' ∧ RelH X.K H' G' ∧ SRp X.K H' G' σD' σ' ∧ Iv σD' G', ⟨_, σD, G, rfl, Stp.refl, hR, hS, i0⟩, ?_⟩
  rintro m σ' H' ⟨σD', G', rfl, s', r', p', iv⟩
  refine ⟨σD', G', _, _, r', p', istep _ _ iv, fun b H1 G1 s1 r1 z => ?_, (he.ex.mono s').at p'⟩
  have s01 := s'.trans s1
  cases b with
  | false => rw [if_neg Bool.false_ne_true] at z; dsimp only; rw [if_neg Bool.false_ne_true]; exact he.nx _ _ _ _ s01 r1 (p'.mono s1) z
  | true =>
    rw [if_pos rfl] at z
    dsimp only
    rw [if_pos rfl]
    refine ⟨fun σ'' H'' => ∃ σD'' G'', μ σD'' G'' < μ σD' G' ∧ Stp H G H'' G'' ∧ RelH X.K H'' G'' ∧ SRp X.K H'' G'' σD'' σ'' ∧ Iv σD'' G'', fun σ'' H'' ⟨a, b, l, s, r, p, i⟩ => ⟨_, l, a, b, rfl, s, r, p, i⟩, ?_⟩
    have nxt : Nx X.K H1 G1 (fun σ'' G'' => Iv σ'' G'' ∧ μ σ'' G'' < μ σD' G') (fun σ'' H'' => ∃ σD'' G'', μ σD'' G'' < μ σD' G' ∧ Stp H G H'' G'' ∧ RelH X.K H'' G'' ∧ SRp X.K H'' G'' σD'' σ'' ∧ Iv σD'' G'') := fun σ5 H5 σD5 G5 s5 r5 p5 z5 =>
      ⟨σD5, G5, z5.2, s01.trans s5, r5, p5, z5.1⟩
    exact ⟨σD', G1, _, r1, p'.mono s1, z, nxt, he.rt.mono s01, he.nx.mono s01, nxt, he.ex.mono s01⟩
end DL

namespace DL
open PySem PySem.Spec PyProof.Rows L2
open PySem.W (Frag)
variable {X : Cx} {W : WX} {e a b c o : Expr} {es : List Expr} {ta tb tc to : TED} {t u : TAD} {tA tB' : TTD} {pos apos cpos : Pos} {st : Stmt} {rest body : List Stmt}

/-! ### methods of built-in types -/
structure MtD (X : Cx) (T id : String) (ty : D → HH → Prop) (rD : D → List D → HH → QD → Prop) : Prop where
  tyv : ∀ H G d v, RelH X.K H G → Rp X.K H G d v → ty d G → tyV X.K T v H
  rule : ∃ r, MtR X id r ∧ ∀ x xs H Q d ds G QD, RelH X.K H G → Rp X.K H G d x → Rps X.K H G ds xs → rD d ds G QD → Ct X.K H G Q QD → r x xs H Q
def dBM (ty : D → HH → Prop) (rD : D → List D → HH → QD → Prop) (to : TED) (t : TAD) : TED := fun σ G Q E => to σ G (fun x G1 => ty x G1 ∧ t σ G1 (fun ds G2 => rD x ds G2 Q) E) E
def dBM0 (ty : D → HH → Prop) (rD : D → List D → HH → QD → Prop) (to : TED) : TED := fun σ G Q E => to σ G (fun x G1 => ty x G1 ∧ rD x [] G1 Q) E
section
variable {T id : String} {name : Str} {ty : D → HH → Prop} {rD : D → List D → HH → QD → Prop}
theorem de_bm (pa : PlainAttrs T) (slot : Slot T name id) (hty : typeOf (.builtin id) = pure (.type "method_descriptor")) (m : MtD X T id ty rD) (ho : DE X W o to) (ha : DA X W (e :: es) t)
    (hbase : attributeBase o name X.env (eval o X.env) = eval o X.env := by rfl)
    (hfew : ((backTo cpos (starEach (e :: es) X.env)).all (fun x => !x.1) && (backToKw cpos (keywordEach [] X.env)).all (fun x => x.1.isSome)
      && decide ((e :: es).length + ([] : List Keyword).length + (if ([] : List Keyword).isEmpty then 0 else 1) < 30)) = true := by rfl)
    (hline : (apos.endLine == cpos.line) = true := by rfl) (hs : starEach (e :: es) X.env = (false, eval e X.env) :: starEach es X.env := by rfl) (hplain : (backTo cpos (starEach es X.env)).any (·.1) = false := by rfl) :
    DE X W (.Call (.Attribute o name apos) (e :: es) [] cpos) (dBM ty rD to t) :=
  let ⟨_, h1, h2⟩ := m.rule
  PE.imp (pe_bm pa slot hty h1 ho ha hbase hfew hline hs hplain) fun σ H Q ⟨σD, G, QD, E, hR, hS, q, hq, he⟩ => by
    refine ⟨σD, G, _, E, hR, hS, q, fun v H1 d G1 s1 r1 p1 ⟨t1, q1⟩ => ⟨m.tyv _ _ _ _ r1 p1 t1, ?_⟩, he⟩
    refine ⟨σD, G1, _, E, r1, hS.mono s1, q1, fun us H2 ds G2 s2 r2 p2 q2 => ?_, he.mono s1⟩
    exact h2 _ _ _ _ _ _ _ _ r2 (p1.mono s2) p2 q2 (hq.mono (s1.trans s2))
theorem de_bm0 (pa : PlainAttrs T) (slot : Slot T name id) (hty : typeOf (.builtin id) = pure (.type "method_descriptor")) (m : MtD X T id ty rD) (ho : DE X W o to)
    (hbase : attributeBase o name X.env (eval o X.env) = eval o X.env := by rfl) (hline : (apos.endLine == cpos.line) = true := by rfl) : DE X W (.Call (.Attribute o name apos) [] [] cpos) (dBM0 ty rD to) :=
  let ⟨_, h1, h2⟩ := m.rule
  PE.imp (pe_bm0 pa slot hty h1 ho hbase hline) fun σ H Q ⟨σD, G, QD, E, hR, hS, q, hq, he⟩ =>
    ⟨σD, G, _, E, hR, hS, q, fun v H1 d G1 s1 r1 p1 ⟨t1, q1⟩ => ⟨m.tyv _ _ _ _ r1 p1 t1, h2 _ _ _ _ _ _ _ _ r1 p1 .nil q1 (hq.mono s1)⟩, he⟩
end
/-- a list that may change -/
def tyL : D → HH → Prop := fun x G => ∃ p xs, x = .ref p ∧ G p = some (.lst xs)
theorem tyL_v {K H G d v} (r : RelH K H G) (p : Rp K H G d v) (h : tyL d G) : tyV K "list" v H := by
  obtain ⟨q, xs, e1, e2⟩ := h
  subst e1; cases p
  obtain ⟨vs, h, _⟩ := r _ _ e2
  exact .inl ⟨rfl, _, SqL.of h⟩
def mAppend : D → List D → HH → QD → Prop := fun x ds G Q => ∃ p xs y, x = .ref p ∧ ds = [y] ∧ G p = some (.lst xs) ∧ xs.length < sizeLine ∧ Q .non (gput G p (.lst (xs ++ [y])))
theorem mdAppend : MtD X "list" "list.append" tyL mAppend := ⟨fun _ _ _ _ => tyL_v, _, mt_append, fun x us H Q d ds G QD hR hp hps ⟨p, xs, y, e1, e2, e3, l, q⟩ hq => by
  subst e1; subst e2; cases hp
  obtain ⟨w, rfl, py⟩ := rps1 hps
  obtain ⟨vs, h, rr⟩ := hR _ _ e3
  have s3 := Stp.put (H := H) (o := .lst (vs ++ [w])) (od := .lst (xs ++ [y])) e3
  exact ⟨p, vs, w, rfl, rfl, h, by rw [← rr.length]; exact l, hq _ _ _ _ s3 (hR.put e3 ⟨_, upd_same, (rr.mono s3).append (.cons (py.mono s3) .nil)⟩) .non q⟩⟩
def mPop : D → List D → HH → QD → Prop := fun x ds G Q => ∃ p xs y, x = .ref p ∧ ds = [] ∧ G p = some (.lst (xs ++ [y])) ∧ Q y (gput G p (.lst xs))
theorem Rps.dropLast {K H G} {ds : List D} {vs : List V} (r : Rps K H G ds vs) : Rps K H G ds.dropLast vs.dropLast := by
  rw [List.dropLast_eq_take, List.dropLast_eq_take, r.length]
  exact r.take _
theorem mdPop : MtD X "list" "list.pop" tyL mPop := ⟨fun _ _ _ _ => tyL_v, _, mt_pop, fun x us H Q d ds G QD hR hp hps ⟨p, xs, y, e1, e2, e3, q⟩ hq => by
  subst e1; subst e2; cases hp; cases hps
  obtain ⟨vs, h, rr⟩ := hR _ _ e3
  have hl : vs.length = xs.length + 1 := by rw [← rr.length]; simp
  obtain ⟨w, hw, pw⟩ := rr.get (i := xs.length) (d := y) (by simp)
  have s3 := Stp.put (H := H) (o := .lst vs.dropLast) (od := .lst xs) e3
  have rd := rr.dropLast
  rw [List.dropLast_concat] at rd
  exact ⟨p, vs, w, rfl, rfl, h, by rw [hl]; simpa using hw, hq _ _ _ _ s3 (hR.put e3 ⟨_, upd_same, rd.mono s3⟩) (pw.mono s3) q⟩⟩
def mExtend : D → List D → HH → QD → Prop := fun x ds G Q => ∃ p xs y ys, x = .ref p ∧ ds = [y] ∧ G p = some (.lst xs) ∧ Ls G y ys ∧ xs.length + ys.length ≤ sizeLine ∧ Q .non (gput G p (.lst (xs ++ ys)))
theorem mdExtend : MtD X "list" "list.extend" tyL mExtend := ⟨fun _ _ _ _ => tyL_v, _, mt_extend, fun x us H Q d ds G QD hR hp hps ⟨p, xs, y, ys, e1, e2, e3, ls, l, q⟩ hq => by
  subst e1; subst e2; cases hp
  obtain ⟨w, rfl, py⟩ := rps1 hps
  obtain ⟨vs, h, rr⟩ := hR _ _ e3
  obtain ⟨b, us, rfl, hb, rb⟩ := ls.of hR py
  have s3 := Stp.put (H := H) (o := .lst (vs ++ us)) (od := .lst (xs ++ ys)) e3
  exact ⟨p, b, vs, us, rfl, rfl, h, hb, by rw [← rr.length, ← rb.length]; exact l, hq _ _ _ _ s3 (hR.put e3 ⟨_, upd_same, (rr.append rb).mono s3⟩) .non q⟩⟩
theorem de_append (ho : DE X W o to) (ha : DA X W (e :: es) t)
    (hbase : attributeBase o "append" X.env (eval o X.env) = eval o X.env := by rfl)
    (hfew : ((backTo cpos (starEach (e :: es) X.env)).all (fun x => !x.1) && (backToKw cpos (keywordEach [] X.env)).all (fun x => x.1.isSome)
      && decide ((e :: es).length + ([] : List Keyword).length + (if ([] : List Keyword).isEmpty then 0 else 1) < 30)) = true := by rfl)
    (hline : (apos.endLine == cpos.line) = true := by rfl) (hs : starEach (e :: es) X.env = (false, eval e X.env) :: starEach es X.env := by rfl) (hplain : (backTo cpos (starEach es X.env)).any (·.1) = false := by rfl) :
    DE X W (.Call (.Attribute o "append" apos) (e :: es) [] cpos) (dBM tyL mAppend to t) := de_bm PySem.F.plainAttrs_list PySem.F.slot_list_append PySem.F.type_list_append mdAppend ho ha hbase hfew hline hs hplain
theorem de_extend (ho : DE X W o to) (ha : DA X W (e :: es) t)
    (hbase : attributeBase o "extend" X.env (eval o X.env) = eval o X.env := by rfl)
    (hfew : ((backTo cpos (starEach (e :: es) X.env)).all (fun x => !x.1) && (backToKw cpos (keywordEach [] X.env)).all (fun x => x.1.isSome)
      && decide ((e :: es).length + ([] : List Keyword).length + (if ([] : List Keyword).isEmpty then 0 else 1) < 30)) = true := by rfl)
    (hline : (apos.endLine == cpos.line) = true := by rfl) (hs : starEach (e :: es) X.env = (false, eval e X.env) :: starEach es X.env := by rfl) (hplain : (backTo cpos (starEach es X.env)).any (·.1) = false := by rfl) :
    DE X W (.Call (.Attribute o "extend" apos) (e :: es) [] cpos) (dBM tyL mExtend to t) := de_bm PySem.F.plainAttrs_list PySem.F.slot_list_extend PySem.F.type_list_extend mdExtend ho ha hbase hfew hline hs hplain
theorem de_pop (ho : DE X W o to) (hbase : attributeBase o "pop" X.env (eval o X.env) = eval o X.env := by rfl) (hline : (apos.endLine == cpos.line) = true := by rfl) :
    DE X W (.Call (.Attribute o "pop" apos) [] [] cpos) (dBM0 tyL mPop to) := de_bm0 PySem.F.plainAttrs_list PySem.F.slot_list_pop PySem.F.type_list_pop mdPop ho hbase hline

/-! ### comprehensions -/
abbrev W0 : WX := fun _ _ _ _ => False
/-- the slots of the block's own names forgotten -/
def wipeD (σ : SD) : List Nat → SD
  | [] => σ
  | v :: vs => (wipeD σ vs).set v none
theorem SRp.wipe {K H G} {σD : SD} {σ : L2.St} (h : SRp K H G σD σ) : ∀ vs, SRp K H G (wipeD σD vs) (L2.wipe σ vs)
  | [] => h
  | v :: vs => by
    have ih := SRp.wipe h vs
    unfold wipeD L2.wipe
    refine ⟨by simp [ih.len], fun j d e => ?_⟩
    by_cases hj : v = j
    · subst hj
      have hlt : v < (wipeD σD vs).length := by
        have := (List.getElem?_eq_some_iff.mp e).1
        simpa using this
      rw [List.getElem?_set_self hlt] at e
      cases e
    · rw [List.getElem?_set_ne hj] at e ⊢
      exact ih.at_ j d e
/-- the targets: a name, a tuple of targets -/
inductive Tgt where
  | nm (i : Nat) | tp (ts : List Tgt)
mutual
def Tgt.slots : Tgt → List Nat
  | .nm i => [i]
  | .tp ts => slotsL ts
def slotsL : List Tgt → List Nat
  | [] => []
  | t :: ts => t.slots ++ slotsL ts
end
mutual
def Tgt.put : Tgt → D → SD → Option SD
  | .nm i, d, σ => some (σ.set i (some d))
  | .tp ts, .tup ds, σ => putL ts ds σ
  | .tp _, _, _ => none
def putL : List Tgt → List D → SD → Option SD
  | [], [], σ => some σ
  | t :: ts, d :: ds, σ => (t.put d σ).bind (putL ts ds)
  | _, _, _ => none
end
mutual
def Tgt.v (K : Frag) : Tgt → TG
  | .nm i => gName i
  | .tp ts => gTup K ts.length (tgtL K ts)
def tgtL (K : Frag) : List Tgt → TGs
  | [] => gNil
  | t :: ts => gCons (t.v K) (tgtL K ts)
end
theorem wipe_in {σ : L2.St} {i : Nat} : ∀ {vs : List Nat}, i ∈ vs → i < σ.length → (L2.wipe σ vs)[i]? = some none
  | v :: vs, h, hl => by
    unfold L2.wipe
    by_cases hv : v = i
    · subst hv
      exact List.getElem?_set_self (by rw [wipe_length]; exact hl)
    · rw [List.getElem?_set_ne hv]
      refine wipe_in ?_ hl
      rcases List.mem_cons.mp h with z | z
      · exact absurd z.symm hv
      · exact z
theorem wipe_eq {σ σ' : L2.St} {vs : List Nat} (hl : σ.length = σ'.length) (h : ∀ i, i ∉ vs → σ[i]? = σ'[i]?) : L2.wipe σ vs = L2.wipe σ' vs := by
  apply List.ext_getElem?
  intro i
  by_cases hi : i ∈ vs
  · by_cases hlt : i < σ.length
    · rw [wipe_in hi hlt, wipe_in hi (by omega)]
    · rw [List.getElem?_eq_none (by rw [wipe_length]; omega), List.getElem?_eq_none (by rw [wipe_length]; omega)]
  · rw [wipe_out hi, wipe_out hi]
    exact h i hi
/-- two frames that differ at these slots alone -/
def Aside (vs : List Nat) (σ σ' : L2.St) : Prop := σ.length = σ'.length ∧ ∀ i, i ∉ vs → σ[i]? = σ'[i]?
mutual
theorem Tgt.ok {K : Frag} {H : Hp} {G : HH} {vs : List Nat} : ∀ (t : Tgt) {d : D} {v : V} {σD σ2 : SD} {σ : L2.St} {Q : L2.St → Hp → Prop}, (∀ i ∈ t.slots, i ∈ vs) → Rp K H G d v → SRp K H G σD σ → t.put d σD = some σ2 →
    (∀ σ', SRp K H G σ2 σ' → Aside vs σ σ' → Q σ' H) → t.v K v σ H Q
  | .nm i, d, v, σD, σ2, σ, Q, hs, p, h, e, k => by
    simp only [Tgt.put, Option.some.injEq] at e
    subst e
    simp only [Tgt.v]
    refine k _ (h.set i p) ⟨by simp, fun j hj => ?_⟩
    rw [List.getElem?_set_ne]
    intro z
    exact hj (z ▸ hs i (by simp [Tgt.slots]))
  | .tp ts, d, v, σD, σ2, σ, Q, hs, p, h, e, k => by
    cases d with
    | tup ds =>
      cases p with
      | @tup a xs _ f r =>
        simp only [Tgt.put] at e
        obtain ⟨h1, h2⟩ := putL_ok ts (fun i hi => hs i (by simpa [Tgt.slots] using hi)) r h e k
        simp only [Tgt.v]
        exact ⟨a, xs, rfl, f.sq, h2, h1⟩
    | _ => simp [Tgt.put] at e
theorem putL_ok {K : Frag} {H : Hp} {G : HH} {vs : List Nat} : ∀ (ts : List Tgt) {ds : List D} {us : List V} {σD σ2 : SD} {σ : L2.St} {Q : L2.St → Hp → Prop}, (∀ i ∈ slotsL ts, i ∈ vs) → Rps K H G ds us → SRp K H G σD σ → putL ts ds σD = some σ2 →
    (∀ σ', SRp K H G σ2 σ' → Aside vs σ σ' → Q σ' H) → tgtL K ts us σ H Q ∧ us.length = ts.length
  | [], ds, us, σD, σ2, σ, Q, hs, p, h, e, k => by
    cases ds with
    | nil =>
      cases p
      simp only [putL, Option.some.injEq] at e
      subst e
      exact ⟨⟨rfl, k σ h ⟨rfl, fun _ _ => rfl⟩⟩, rfl⟩
    | cons d ds => simp [putL] at e
  | t :: ts, ds, us, σD, σ2, σ, Q, hs, p, h, e, k => by
    cases ds with
    | nil => simp [putL] at e
    | cons d ds =>
      cases p with
      | cons p1 p2 =>
        simp only [putL] at e
        cases e1 : t.put d σD with
        | none => rw [e1] at e; cases e
        | some σ1 =>
          rw [e1] at e
          have e : putL ts ds σ1 = some σ2 := e
          have hs1 : ∀ i ∈ t.slots, i ∈ vs := fun i hi => hs i (by simp [slotsL, hi])
          have hs2 : ∀ i ∈ slotsL ts, i ∈ vs := fun i hi => hs i (by simp [slotsL, hi])
          have len : ∀ σ' , SRp K H G σ1 σ' → (tgtL K ts _ σ' H fun _ _ => True) ∧ _ := fun σ' h' => putL_ok ts (Q := fun _ _ => True) hs2 p2 h' e fun _ _ _ => trivial
          refine ⟨?_, ?_⟩
          · simp only [tgtL]
            refine ⟨_, _, rfl, Tgt.ok t hs1 p1 h e1 fun σ' h' a' => ?_⟩
            exact (putL_ok ts hs2 p2 h' e fun σ3 h3 a3 => k σ3 h3 ⟨a'.1.trans a3.1, fun i hi => (a'.2 i hi).trans (a3.2 i hi)⟩).1
          · have := putL_len ts e
            have l2 := p2.length
            simp at *
            omega
theorem putL_len : ∀ (ts : List Tgt) {ds : List D} {σD σ2 : SD}, putL ts ds σD = some σ2 → ds.length = ts.length
  | [], [], _, _, _ => rfl
  | [], _ :: _, _, _, h => by simp [putL] at h
  | _ :: _, [], _, _, h => by simp [putL] at h
  | t :: ts, d :: ds, σD, σ2, h => by
    simp only [putL] at h
    cases e1 : t.put d σD with
    | none => rw [e1] at h; cases h
    | some σ1 =>
      rw [e1] at h
      have := putL_len ts (show putL ts ds σ1 = some σ2 from h)
      simp [this]
end
/-- tests of a comprehension -/
def DTs (X : Cx) (W : WX) (ifs : List Expr) (t : TTD) : Prop := PTs X ifs (lftT X.K W t)
def dYes : TTD := fun _ G Q _ => Q true G
theorem dts_nil : DTs X W [] dYes := ⟨fun pins s σ H Q I ⟨σD, G, QD, E, hR, hS, q, hq, he⟩ => pts_nil.run pins s σ H Q I (hq _ _ _ Stp.refl hR q)⟩
theorem dts_one (h : DT X W c tA) : DTs X W [c] tA := pts_one h
/-- [e for g in it if c]; fr: the new list is frozen at the end -/
def dLc (fr : Bool) (wi : TID) (g : Tgt) (tt : TTD) (te : TED) (vs : List Nat) : TED := fun σ G Q E => wi σ G (fun items ok G1 => ∀ p, G1 p = none → ∃ Iv : List D → HH → Prop, Iv [] (gput G1 p (.lst [])) ∧ (∀ pre G, Iv pre G → ok G) ∧
  (∀ pre x post G, items = pre ++ x :: post → Iv pre G → ∃ σ2, g.put x (wipeD σ vs) = some σ2 ∧ tt σ2 G (fun b G3 => if b = true then te σ2 G3 (fun y G4 => ∃ acc, G4 p = some (.lst acc) ∧ acc.length < sizeLine ∧ Iv (pre ++ [x]) (gput G4 p (.lst (acc ++ [y])))) (fun _ _ => False) else Iv (pre ++ [x]) G3) (fun _ _ => False)) ∧
  (∀ G, Iv items G → ∃ acc, G p = some (.lst acc) ∧ (if fr = true then Q (.lst acc) (gdel G p) else Q (.ref p) G))) E
theorem de_lc {elt tg iter : Expr} {ifs : List Expr} {scope : Scope} {own : List (Str × Nat)} {wi : TID} {tt : TTD} {te : TED} (fr : Bool) (g : Tgt) (hc : X.calm = true) (hN : X.N.Nodup) (hi : DI X W tg iter wi) (ok : BlkOk X.N X.env.scope scope own)
    (hsl : ∀ i ∈ g.slots, i ∈ own.map (·.2))
    (hg : ∀ (s : Shared) (H : Hp) (C : Addr) (cl : List (Str × Addr)) (fp : List Addr), PG (X.blk s H scope (compEnvC scope cl C X.env) fp) tg (g.v X.K)) (ht : ∀ (s : Shared) (H : Hp) (C : Addr) (cl : List (Str × Addr)) (fp : List Addr), DTs (X.blk s H scope (compEnvC scope cl C X.env) fp) W0 ifs tt)
    (he : ∀ (s : Shared) (H : Hp) (C : Addr) (cl : List (Str × Addr)) (fp : List Addr), DE (X.blk s H scope (compEnvC scope cl C X.env) fp) W0 elt te) (hs : ∀ x, foldedSetIterable iter X.env x = pure x := by intro _; rfl) :
    DE X W (.ListComp elt [⟨tg, iter, ifs, 0⟩] scope pos) (dLc fr wi g tt te (own.map (·.2))) :=
  PE.imp (pe_lc (g := g.v X.K) (tt := lftT X.K W0 tt) (te := lft X.K W0 te) hc hN hi ok hg ht he hs) fun σ H Q ⟨σD, G, QD, E, hR, hS, q, hq, hE⟩ => by
    refine ⟨σD, G, _, E, hR, hS, q, fun J H1 items okk G1 s1 r1 itr z => ?_, hE⟩
    intro p hp
    obtain ⟨Iv, i0, iok, istep, iend⟩ := z p (r1.free hp)
    have sN := Stp.newM (G := G1) (o := .lst []) (od := .lst []) hp
    have rN := r1.newM (o := .lst []) (od := .lst []) hp ⟨[], upd_same, .nil⟩
    refine ⟨fun i m H' => m = items.length - i ∧ i ≤ items.length ∧ ∃ G', Stp H1 G1 H' G' ∧ RelH X.K H' G' ∧ Iv (items.take i) G', ⟨items.length, by simp, Nat.zero_le _, gput G1 p (.lst []), sN, rN, by simpa using i0⟩, ?_⟩
    rintro i m H' ⟨rfl, hi, G', s', r', iv⟩
    obtain ⟨j1, j2⟩ := itr i H' G' s' r' (iok _ _ iv)
    by_cases hlt : i < items.length
    · obtain ⟨d, hd⟩ : ∃ d, items[i]? = some d := ⟨items[i], List.getElem?_eq_getElem hlt⟩
      obtain ⟨jgo, jy⟩ := j1 d hd
      refine .inr ⟨jgo, fun H'' => ∃ G'', Stp H1 G1 H'' G'' ∧ RelH X.K H'' G'' ∧ Iv (items.take (i + 1)) G'', fun H'' z => ⟨items.length - (i + 1), by omega, rfl, hlt, z⟩, fun x H3 y => ?_⟩
      obtain ⟨s3, r3, px⟩ := jy x H3 y
      obtain ⟨σ2, hput, stp⟩ := istep _ d _ G' (split_at hd) iv
      have s13 := s'.trans s3
      have hw := ((hS.mono s1).mono s13).wipe (own.map (·.2))
      refine Tgt.ok g hsl px hw hput fun σ' h' a' => ⟨?_, ?_⟩
      · exact wipe_eq (by rw [← a'.1, wipe_length]) fun i hi => by rw [← a'.2 i hi, wipe_out hi]
      refine ⟨σ2, G', _, _, r3, h', stp, fun b H4 G4 s4 r4 z4 => ?_, exs0⟩
      cases b with
      | false =>
        dsimp only at z4 ⊢
        rw [if_neg Bool.false_ne_true] at z4 ⊢
        exact ⟨G4, s13.trans s4, r4, by rw [take_snoc hd]; exact z4⟩
      | true =>
        dsimp only at z4 ⊢
        rw [if_pos rfl] at z4 ⊢
        refine ⟨σ2, G4, _, _, r4, h'.mono s4, z4, fun w H5 dw G5 s5 r5 p5 ⟨acc, e5, l5, z5⟩ => ?_, exs0⟩
        obtain ⟨vs, h, rr⟩ := r5 _ _ e5
        have s6 := Stp.put (H := H5) (o := .lst (vs ++ [w])) (od := .lst (acc ++ [dw])) e5
        refine ⟨vs, h, by rw [← rr.length]; exact l5, gput G5 p (.lst (acc ++ [dw])), ((s13.trans s4).trans s5).trans s6, r5.put e5 ⟨_, upd_same, (rr.mono s6).append (.cons (p5.mono s6) .nil)⟩, ?_⟩
        rw [take_snoc hd]; exact z5
    · have e : i = items.length := by omega
      subst e
      rw [List.take_length] at iv
      refine .inl ⟨j2 (Nat.le_refl _), ?_⟩
      obtain ⟨acc, ea, z⟩ := iend _ iv
      have s1' := s1.trans s'
      cases fr with
      | true =>
        rw [if_pos rfl] at z
        exact hq _ _ _ _ (s1'.trans Stp.del) r'.del (thaw_lst r' ea) z
      | false =>
        rw [if_neg Bool.false_ne_true] at z
        exact hq _ _ _ _ s1' r' (.ref p) z
end DL

namespace DL
open PySem PySem.Spec PyProof.Rows L2
open PySem.W (Frag)

/-! ### a def keeps its promise -/
def startD (N : List Str) (ds : List D) : SD := ds.map some ++ List.replicate (N.length - ds.length) none
theorem SRp.start {K : Frag} {H G} {N : List Str} {ds : List D} {vs : List V} (r : Rps K H G ds vs) : SRp K H G (startD N ds) (L2.start N vs) := by
  have hl := r.length
  refine ⟨by simp [startD, L2.start, hl], fun i d e => ?_⟩
  unfold startD at e
  by_cases hi : i < ds.length
  · rw [List.getElem?_append_left (by simpa using hi), List.getElem?_map] at e
    cases e1 : ds[i]? with
    | none => rw [e1] at e; cases e
    | some d' =>
      rw [e1] at e
      cases e
      obtain ⟨v, hv, rv⟩ := r.get e1
      refine ⟨v, ?_, rv⟩
      unfold L2.start
      rw [List.getElem?_append_left (by rw [List.length_map]; omega), List.getElem?_map, hv]
      rfl
  · rw [List.getElem?_append_right (by simpa using hi), List.getElem?_replicate] at e
    split at e <;> cases e
section
variable {P : Program} {w : World} {K : Frag} {mg : Str → Option Value} {base : Heap}
/-- the wish of a def about exceptions -/
abbrev WD (E : XK) : WX := fun cls d _ H => E cls d H
theorem FunG.ok {x qual : Str} {st : Stmt} {f : Addr} {fd : FuncData} {N ps : List Str} {k : Nat} {sp : SpD} (F : Fun K x qual st f fd) (S : FnScope N ps (defScope st)) (len : ∀ ds G Q E, sp ds G Q E → ds.length = ps.length)
    (hbody : ∀ (cdv : Value) (A : Around) (outer : List Env) (s : Shared) (H : Hp) (E : XK), A.guards = some [] → Room k (A.deeper (envOfC qual (defScope st) s.heap.objs.size f cdv)) →
      ∃ t, DSs (cxOf (L2.CX P w) P w K mg base N qual (defScope st) f cdv A outer s H E) (WD E) (defBody st) t ∧
        ∀ ds G Q EX, sp ds G Q EX → t { nx := fun _ G' => Q .non G', rt := Q, ex := fun x _ G' => EX x G' } (startD N ds) G) : FnG P w K mg base (k + 1) f fd ps sp := by
  obtain ⟨oc, od, kV, doc, pm, an, cdv, ct, osl, rfl, lk, hcd⟩ := F.ex
  refine ⟨len, fun A outer s H args us vs Q E hgd hr e0 hb r hsp => ?_⟩
  obtain ⟨ds, G, QD, EX, hR, hrp, hq, hct, hex⟩ := hsp
  have inK : K.In s.heap := e0.mod.kin.keeps fun b o q => (e0.bs b o q).1
  have nolim : s.heap.NoLimit := e0.mod.nolimit.keeps fun b o q => (e0.bs b o q).1
  have hvl : vs.length = ps.length := by rw [← hrp.length]; exact len _ _ _ _ hq
  have kinds : ∀ y ∈ ps.zip us, (defScope st).names.lookup y.1 = some .local ∨ ((defScope st).names.lookup y.1 = some .cell ∧ ((cellsFrom (s.heap.objs.size + 1) (defScope st).names []).lookup y.1).isSome = true) := by
    rintro ⟨n, v⟩ hy
    rcases S.par n (List.of_mem_zip hy).1 with q | q
    · exact .inl q
    · exact .inr ⟨q, PySem.W.cellsFrom_some _ _ _ (.inl q)⟩
  refine codeAny_call_function hr.depth (inK _ _ lk) rfl S.co S.gen rfl (PySem.W.codeRec_of inK hcd) (hb _ _ _ _ ?_)
  refine wpAny_newFunctionEnv_cells S.kind kinds fun env henv s1 xc => ?_
  subst henv
  refine ⟨nolim.keeps xc.toInCall.keep, codeAny_func ?_⟩
  obtain ⟨t, ht, hv⟩ := hbody cdv A outer s H E hgd (hr.deeper _)
  have I0 := inv_start (CX := L2.CX P w) (E := E) S hr.hd e0 hvl r xc
  refine wpAny_mono (ht.run [] s1 (L2.start N vs) H { nx := fun _ H' => Q .non H', rt := Q } I0 ?_) (fun fl s' hs => ?_) fun e s' hs => hs
  · refine ⟨startD N ds, G, _, hR, SRp.start hrp, hv ds G QD EX hq, ⟨fun _ H' _ G' s r _ z => hct _ _ _ _ s r .non z, hct, fun _ _ _ _ _ _ _ z => z.elim, fun _ _ _ _ _ _ _ z => z.elim, fun x cls d _ _ H' G' s r _ p z => hex x cls d H' G' s r p z⟩⟩
  · cases fl with
    | ret u =>
      obtain ⟨v, σ', H', J, rv, q⟩ := hs
      exact ⟨v, H', J.os, J.bare, J.base, J.hok, rv, q⟩
    | next =>
      obtain ⟨σ', H', J, q⟩ := hs
      exact ⟨V.non, H', J.os, J.bare, J.base, J.hok, rfl, q⟩
    | brk => exact hs.elim fun _ ⟨_, _, z⟩ => z.elim
    | cont => exact hs.elim fun _ ⟨_, _, z⟩ => z.elim
end

/-! ### the law -/
/-- the bits of a script's numbers -/
def BB : Nat := 1048576
def Bits (ns : List Int) : Prop := ∀ z ∈ ns, z.natAbs < 2 ^ BB
theorem bits_of {z : Int} {b : Nat} (h : Builtin.Int.intBits z ≤ b) : z.natAbs < 2 ^ b := by
  unfold Builtin.Int.intBits at h
  by_cases e : z = 0
  · subst e; exact Nat.pos_of_ne_zero (by simp)
  · rw [if_neg (by simpa using e)] at h
    exact (Nat.log2_lt (by omega)).mp (by omega)
/-- what the law's def promises: of a script it gives True -/
def spLaw (n : Nat) : SpD := fun ds G Q _ => ∃ ns : List Int, ds = [.wls (ns.map D.int)] ∧ ns.length ≤ n ∧ Bits ns ∧ G = (fun _ => none) ∧ ∀ G', Q (.bl true) G'
theorem law_callG {P : Program} {w : World} {K : Frag} {mg mb : Str → Option Value} {n k : Nat} {fa a : Addr} {fd : FuncData} {x : Str} {s₁ : Shared} {vs : List Value} {ns : List Int}
    (KX : K.In s₁.heap) (hns : s₁.heap.Ns mainGlobals mg) (hb : s₁.heap.Ns builtinsNs mb) (hbb : ∀ x : Str, x ≠ "__name__" → mb x = bootBuiltins x) (hlim : s₁.heap.NoLimit) (hg : s₁.gens = #[])
    (ha : s₁.heap.get? a = some { cls := .type "list", data := .seq vs.toArray }) (hi : IntsAre vs ns) (hl : ns.length ≤ n) (hbt : Bits ns) (hn : n ≤ sizeLine) (hr : Room k callerA)
    (F : ∀ base : Heap, K.In base → base.Ns mainGlobals mg → FnG P w K mg base k fa fd [x] (spLaw n)) (hbind : ∀ (s : Shared) (u : Value), BindsTo s fd ⟨[u], []⟩ [(x, u)]) :
    codeAny (model P w) callerA (.call (.ref fa) ⟨[.ref a], []⟩) (fun r s' => r = .ok (.ret (.bool true)) ∧ OldK s₁.heap s'.heap ∧ s'.os = s₁.os ∧ AllBare s'.gens) s₁ := by
  have rv := vals_ints hi
  have lenV := hi.length
  have hl' : ns.length ≤ sizeLine := Nat.le_trans hl hn
  -- the abstract heap: the script locked, if it is none of the written part
  obtain ⟨H, hO, hS, hok, hA, hK⟩ : ∃ H : Hp, Only H ∧ (Rd H a (.lst (ns.map V.int)) ∨ ∃ (o : Obj) (its : Array Value) (n : Nat), K.lookup a = some o ∧ o.cls = .type "list" ∧ o.dict = none ∧ o.data = .seq its n ∧ its.size ≤ sizeLine ∧ Vals (ns.map V.int) its.toList) ∧
      HOk P w H s₁.heap ∧ (∀ b, H b ≠ none → b = a) ∧ (H a ≠ none → K.lookup a = none) := by
    cases hk : K.lookup a with
    | some o =>
      have e := KX a o hk
      rw [ha] at e
      cases e
      exact ⟨fun _ => none, fun _ => .inl rfl, .inr ⟨_, vs.toArray, _, rfl, rfl, rfl, rfl, by rw [List.size_toArray, lenV]; exact hl', by simpa using rv⟩, (by intro b u z; cases z), fun b z => absurd rfl z, fun z => absurd rfl z⟩
    | none =>
      refine ⟨fun b => if b = a then some (.frz { cls := .type "list", data := .seq vs.toArray } (.lst (ns.map V.int))) else none, fun b => ?_, .inl (.inr ⟨_, if_pos rfl⟩), fun b u z => ?_, fun b z => ?_, fun _ => rfl⟩
      · by_cases hb : b = a
        · exact .inr ⟨_, _, if_pos hb⟩
        · exact .inl (if_neg hb)
      · by_cases hb : b = a
        · have z' := (if_pos hb).symm.trans z
          cases z'
          subst hb
          exact ⟨ha, by rw [List.length_map]; exact hl', vs, _, rv, ha⟩
        · exact absurd ((if_neg hb).symm.trans z) (by simp)
      · by_cases hb : b = a
        · exact hb
        · exact absurd (if_neg hb) z
  have baseAt : ∀ {b : Addr} {o : Obj}, s₁.heap.get? b = some o → H b = none → (hidT s₁.heap H).get? b = some o := fun q z => hidT_get q z
  have noDict : ∀ {b : Addr} {o : Obj} {es : Array DictEntry} {ep : Nat}, s₁.heap.get? b = some o → o.data = .dict es ep → H b = none := by
    intro b o es ep q dd
    cases z : H b with
    | none => rfl
    | some u =>
      have eb : b = a := hA b (by rw [z]; simp)
      subst eb
      rw [ha] at q; cases q
      cases (show Data.seq vs.toArray _ = Data.dict es ep from dd)
  have nsB : ∀ {b : Addr} {m : Str → Option Value}, s₁.heap.Ns b m → (hidT s₁.heap H).Ns b m := by
    rintro b m ⟨o, es, ep, q, dd, rest⟩
    exact ⟨o, es, ep, baseAt q (noDict q dd), dd, rest⟩
  have inB : K.In (hidT s₁.heap H) := by
    intro b o q
    refine baseAt (KX b o q) ?_
    cases z : H b with
    | none => rfl
    | some u =>
      have eb : b = a := hA b (by rw [z]; simp)
      subst eb
      rw [hK (by rw [z]; simp)] at q; cases q
  have hM : Mod K mg (hidT s₁.heap H) := ⟨inB, nsB hns, ⟨mb, nsB hb, hbb⟩, let ⟨mc, z1, z2⟩ := hlim; ⟨mc, nsB z1, z2⟩⟩
  have e0 : Env0 P w K mg (hidT s₁.heap H) callerA [] s₁ H := ⟨rfl, hM, fun b o q => of_hidT q, Nat.le_of_eq (hidT_size _ _), trivial, fun b z => absurd (show b ∈ ([] : List Addr) from z) (by simp), hok, .of_eq hg⟩
  have hsp : lsp K (spLaw n) [.ref a] H (fun v _ => v = .bl true) fun _ _ _ => False := by
    refine ⟨[.wls (ns.map D.int)], fun _ => none, fun d _ => d = .bl true, fun _ _ => False, (by intro p o z; cases z), .cons (.wls ?_ (Rps.of_ints ns)) .nil, ⟨ns, rfl, hl, hbt, rfl, fun _ => rfl⟩, fun v H' d G' _ _ p z => ?_, fun _ _ _ _ _ _ _ _ z => z⟩
    · exact hS.elim (fun z => .inl ⟨z, rfl⟩) .inr
    · subst z; cases p; rfl
  refine codeAny_mono ((F _ inB (nsB hns)).run callerA [] s₁ H ⟨[.ref a], []⟩ [.ref a] [.ref a] _ _ rfl hr e0 (hbind s₁ (.ref a)) (.cons rfl .nil) hsp) fun r s' h => ?_
  cases r with
  | error e =>
    obtain ⟨_, _, _, _, _, _, _, _, _, _, _, _, z⟩ := h
    exact z.elim
  | ok fl =>
    cases fl with
    | next => exact False.elim h
    | brk => exact False.elim h
    | cont => exact False.elim h
    | ret u =>
      obtain ⟨v, H', os, bare, un, hok', r', q⟩ := h
      have q' : v = .bl true := q
      subst q'
      obtain rfl : u = Value.bool true := r'
      refine ⟨rfl, OldK.of_keep fun b o q => ?_, os, bare⟩
      cases z : H b with
      | none => exact un.keep b o q z (by intro y; exact absurd (show b ∈ ([] : List Addr) from y) (by simp)) (by simp)
      | some u =>
        rcases hO b with y | ⟨ob, xs, y⟩
        · rw [z] at y; cases y
        · obtain ⟨e1, _⟩ := hok b _ y
          obtain ⟨e2, _⟩ := hok' b _ (un.frzs b ob _ y)
          rw [q] at e1; cases e1
          exact e2
theorem walkG {l : PySem.W.OpenLaw} {n k : Nat} {q : Program} {loose : List Str} {XP : (Str → Option Value) → Heap → Prop} {YP : World → Heap → Prop} {d : DefRec} {K : Params → Frag} {x : Str}
    (hn : l.most = some n) (hn2 : n ≤ sizeLine) (hdf : d.params.defaults = []) (hr : Room k callerA) (hY : ∀ (w : World) (h : Heap), YP w h → (K w.params).In h)
    (F : ∀ (w : World) (mg : Str → Option Value) (fa : Addr) (h : Heap), (K w.params).In h → h.Ns mainGlobals mg → mg d.name = some (.ref fa) →
      ∃ fd : FuncData, (∀ (s : Shared) (u : Value), BindsTo s fd ⟨[u], []⟩ [(x, u)]) ∧
        ∀ base : Heap, (K w.params).In base → base.Ns mainGlobals mg → FnG l.prog w (K w.params) mg base k fa fd [x] (spLaw n)) :
    PySem.W.WalkO q loose XP YP l.row.toRowW d [] (fun f vs => PySem.call f vs) := by
  refine Att.attach_callB hn hdf fun w s₀ s₁ mg mb fa o pm cd doc a vs ns G Y ho hd hcd hmg hobj hints hlen hbits hg => ?_
  have KX := hY w _ Y
  obtain ⟨fd, hb, hF⟩ := F w mg fa _ KX G.T.g hmg
  exact law_callG KX G.T.g G.T.b G.T.builtins G.T.nolimit hg hobj hints hlen (fun z hz => bits_of (hbits z hz)) hn2 hr hF hb
end DL

namespace DL
open PySem PySem.Spec PyProof.Rows L2
open PySem.W (Frag)
variable {X : Cx} {W : WX} {e a b c o : Expr} {es : List Expr} {ta tb tc to : TED} {t u tk : TAD} {tA tB' : TTD} {pos apos cpos : Pos} {st : Stmt} {rest body : List Stmt} {kws : List Keyword}

/-! ### keywords -/
/-- the arguments in the parameters' order -/
def pick {α : Type} (perm : List Nat) (l : List α) : List α := perm.filterMap fun i => l[i]?
theorem Vals.pick : ∀ {perm : List Nat} {xs : List V} {us : List Value}, Vals xs us → Vals (DL.pick perm xs) (DL.pick perm us)
  | [], _, _, _ => .nil
  | i :: perm, xs, us, r => by
    have ih := Vals.pick (perm := perm) r
    unfold DL.pick at ih ⊢
    cases e : xs[i]? with
    | none =>
      rw [List.filterMap_cons_none e, List.filterMap_cons_none (r.none_of e)]
      exact ih
    | some x =>
      obtain ⟨y, hy, ry⟩ := r.get e
      rw [List.filterMap_cons_some e, List.filterMap_cons_some hy]
      exact .cons ry ih
theorem Rps.pick {K H G} : ∀ {perm : List Nat} {ds : List D} {vs : List V}, Rps K H G ds vs → Rps K H G (DL.pick perm ds) (DL.pick perm vs)
  | [], _, _, _ => .nil
  | i :: perm, ds, vs, r => by
    have ih := Rps.pick (perm := perm) r
    unfold DL.pick at ih ⊢
    cases e : ds[i]? with
    | none =>
      have e2 : vs[i]? = none := List.getElem?_eq_none (by rw [← r.length]; exact List.getElem?_eq_none_iff.mp e)
      rw [List.filterMap_cons_none e, List.filterMap_cons_none e2]
      exact ih
    | some x =>
      obtain ⟨y, hy, ry⟩ := r.get e
      rw [List.filterMap_cons_some e, List.filterMap_cons_some hy]
      exact .cons ry ih
structure KBd (K : Frag) (fd : FuncData) (ps : List Str) (n : Nat) (ks : List Str) (perm : List Nat) : Prop where
  to : ∀ (s : Shared) (us ws : List Value), K.In s.heap → us.length = n → ws.length = ks.length → BindsTo s fd ⟨us, ks.zip ws⟩ (ps.zip (pick perm (us ++ ws)))
theorem fun_kbd {K : Frag} {x qual : Str} {st : Stmt} {f : Addr} {fd : FuncData} {ps ks : List Str} {n : Nat} {perm : List Nat} (F : Fun K x qual st f fd)
    (h : ∀ (kV doc pm : Value) (an : Option Addr) (cdv ct : Value) (us ws : List Value), us.length = n → ws.length = ks.length → bindArgs (PySem.W.fnOf x qual (defArgs st) (defBody st) (defScope st) .none kV doc pm an cdv ct) ⟨us, ks.zip ws⟩ = pure (ps.zip (pick perm (us ++ ws)))) : KBd K fd ps n ks perm := by
  obtain ⟨oc, od, kV, doc, pm, an, cdv, ct, osl, rfl, _, _⟩ := F.ex
  exact ⟨fun s us ws _ h1 h2 => .of_eq (h kV doc pm an cdv ct us ws h1 h2)⟩
def DK (X : Cx) (W : WX) (kws : List Keyword) (t : TAD) : Prop := PK X kws (lftA X.K W t)
theorem PK.imp {X : Cx} {es : List Keyword} {t t' : TA} (h : PK X es t) (i : ∀ σ H Q, t' σ H Q → t σ H Q) : PK X es t' := ⟨fun pos pins s σ H Q I q => h.run pos pins s σ H Q I (i σ H Q q)⟩
theorem dk_nil : DK X W [] dNil := PK.imp pk_nil fun σ H Q ⟨σD, G, QD, E, hR, hS, q, hq, he⟩ => hq _ _ _ _ Stp.refl hR .nil q
theorem dk_cons {nm : Option Str} {kpos : Pos} (ha : DE X W a ta) (hr : DK X W kws t) : DK X W (⟨nm, a, kpos⟩ :: kws) (dCons ta t) :=
  PK.imp (pk_cons ha hr) fun σ H Q ⟨σD, G, QD, E, hR, hS, q, hq, he⟩ => by
    refine ⟨σD, G, _, E, hR, hS, q, fun v1 H1 d1 G1 s1 r1 p1 q1 => ?_, he⟩
    refine ⟨σD, G1, _, E, r1, hS.mono s1, q1, fun vs H2 ds G2 s2 r2 p2 q2 => ?_, he.mono s1⟩
    exact hq _ _ _ _ (s1.trans s2) r2 (.cons (p1.mono s2) p2) q2
def dCallK (n m : Nat) (perm : List Nat) (sp : SpD) (t tk : TAD) : TED := fun σ G Q E => t σ G (fun ds G1 => tk σ G1 (fun zs G2 => ds.length = n ∧ zs.length = m ∧ sp (pick perm (ds ++ zs)) G2 Q E) E) E
section
variable {k : Nat} {f : Addr} {fd : FuncData} {ps ks : List Str} {sp : SpD} {x : Str} {p : Pos} {n : Nat} {perm : List Nat}
theorem run_callK {pins : List (Addr × Obj)} {σ : L2.St} {H : Hp} {s : Shared} {Q : VK} {us ws : List Value} {vs : List V} (F : FnG X.prog X.w X.K X.mg X.base k f fd ps sp) (hg : X.A.guards = some []) (hr : Room k X.A) (hb : KBd X.K fd ps n ks perm) (tkw : Takes X W)
    (I : Inv X pins σ H s) (r : Vals vs (us ++ ws)) (h1 : us.length = n) (h2 : ws.length = ks.length) (h : lsp X.K sp (pick perm vs) H Q (WE W σ)) : wpAny (model X.prog X.w) X.A (call (.ref f) us (ks.zip ws)) (EP X pins σ Q) X.xe s := by
  refine wpAny_call (codeAny_mono (run_any F hg hr tkw I (hb.to s us ws I.kIn h1 h2) (Vals.pick r) h) fun r s' hq => ?_)
  cases r with
  | error e => exact hq
  | ok fl =>
    cases fl with
    | ret u => exact hq
    | next => exact False.elim hq
    | brk => exact False.elim hq
    | cont => exact False.elim hq
/-- what stands behind the arguments of a call with keywords -/
def tCK (n m : Nat) (perm : List Nat) (sp : Sp) (E : L2.St → XK) (t tk : TA) : TE := fun σ H Q => t σ H fun vs H1 => tk σ H1 fun zs H2 => vs.length = n ∧ zs.length = m ∧ sp (pick perm (vs ++ zs)) H2 Q (E σ)
theorem lft_callK {K : Frag} {m : Nat} {σ H Q} (h : lft K W (dCallK n m perm sp t tk) σ H Q) : tCK n m perm (lsp K sp) (WE W) (lftA K W t) (lftA K W tk) σ H Q := by
  obtain ⟨σD, G, QD, E, hR, hS, ht, hq, he⟩ := h
  refine ⟨σD, G, _, E, hR, hS, ht, fun vs H1 ds G1 s1 r1 p1 q1 => ?_, he⟩
  refine ⟨σD, G1, _, E, r1, hS.mono s1, q1, fun zs H2 es G2 s2 r2 p2 ⟨l1, l2, q2⟩ => ?_, he.mono s1⟩
  exact ⟨by rw [← p1.length]; exact l1, by rw [← p2.length]; exact l2, pick perm (ds ++ es), G2, QD, E, r2, Rps.pick ((p1.mono s2).append p2), q2, hq.mono (s1.trans s2), he.mono (s1.trans s2)⟩
theorem de_callK0 {m : Nat} (F : FnG X.prog X.w X.K X.mg X.base k f fd ps sp) (hgd : X.A.guards = some []) (hr : Room k X.A) (hg : Gl X x) (hm : X.mg x = some (.ref f)) (hk : PySem.W.keepIn X.K (.ref f) = true) (hb : KBd X.K fd ps 0 ks perm) (tkw : Takes X W) (hkw : DK X W kws tk)
    (hlen : ks.length = m := by rfl) (hall : (backToKw pos (keywordEach kws X.env)).all (·.1.isSome) = true := by rfl) (hks : (backToKw pos (keywordEach kws X.env)).filterMap (·.1) = ks := by rfl) (hdb : (x == ("__debug__" : Str)) = false := by decide)
    (hpl : ((backTo pos (starEach [] X.env)).any (·.1) || (backToKw pos (keywordEach kws X.env)).any (·.1.isNone)) = false := by rfl) :
    DE X W (.Call (.Name x p) [] kws pos) (dCallK 0 m perm sp dNil tk) := by
  subst hlen
  refine PE.imp (t := tCK 0 ks.length perm (lsp X.K sp) (WE W) tNil (lftA X.K W tk)) ⟨fun pins s σ H Q I h => ?_⟩ fun σ H Q h => ?_
  · refine wpAny_Call_Name_kw (ld_glob I hg hm ?_ hdb)
    refine PySem.W.callWith_KW0 (h₀ := X.base) I.ok.mod.kin hk hall ?_ hpl
    have hkw' : PK X kws (lftA X.K W tk) := hkw
    refine thn (hkw'.run pos pins s σ H _ I h) fun ws s2 ⟨zs, H2, I2, rz, l1, l2, q2⟩ => ⟨I2.kIn, ?_⟩
    rw [hks]
    exact run_callK (us := []) (vs := zs) F hgd hr hb tkw I2 rz rfl (by rw [← rz.length]; exact l2) (by simpa using q2)
  · obtain ⟨σD, G, QD, E, hR, hS, ht, hq, he⟩ := h
    refine ⟨σD, G, _, E, hR, hS, ht, fun zs H2 es G2 s2 r2 p2 ⟨l1, l2, q2⟩ => ?_, he⟩
    exact ⟨rfl, by rw [← p2.length]; exact l2, pick perm ([] ++ es), G2, QD, E, r2, Rps.pick (Rps.append .nil p2), q2, hq.mono s2, he.mono s2⟩
theorem de_callK {m : Nat} (F : FnG X.prog X.w X.K X.mg X.base k f fd ps sp) (hgd : X.A.guards = some []) (hr : Room k X.A) (hg : Gl X x) (hm : X.mg x = some (.ref f)) (hk : PySem.W.keepIn X.K (.ref f) = true) (hb : KBd X.K fd ps n ks perm) (tkw : Takes X W) (ha : DA X W (e :: es) t) (hkw : DK X W kws tk)
    (hlen : ks.length = m := by rfl) (hall : (backToKw pos (keywordEach kws X.env)).all (·.1.isSome) = true := by rfl) (hks : (backToKw pos (keywordEach kws X.env)).filterMap (·.1) = ks := by rfl) (hdb : (x == ("__debug__" : Str)) = false := by decide)
    (he : starEach (e :: es) X.env = (false, eval e X.env) :: starEach es X.env := by rfl)
    (hpl : ((backTo pos (starEach (e :: es) X.env)).any (·.1) || (backToKw pos (keywordEach kws X.env)).any (·.1.isNone)) = false := by rfl) :
    DE X W (.Call (.Name x p) (e :: es) kws pos) (dCallK n m perm sp t tk) := by
  subst hlen
  refine PE.imp (t := tCK n ks.length perm (lsp X.K sp) (WE W) (lftA X.K W t) (lftA X.K W tk)) ⟨fun pins s σ H Q I h => ?_⟩ fun _ _ _ => lft_callK
  refine wpAny_Call_Name_kw (ld_glob I hg hm ?_ hdb)
  have ha' : PA X (e :: es) (lftA X.K W t) := ha
  have hkw' : PK X kws (lftA X.K W tk) := hkw
  refine PySem.W.callWith_KW (h₀ := X.base) I.ok.mod.kin hk hall (thn (ha'.run pos pins s σ H _ I h) fun us s1 ⟨vs, H1, I1, r, q⟩ => ?_) hpl he
  refine thn (hkw'.run pos pins s1 σ H1 _ I1 q) fun ws s2 ⟨zs, H2, I2, rz, l1, l2, q2⟩ => ⟨I2.kIn, ?_⟩
  rw [hks]
  exact run_callK (us := us) F hgd hr hb tkw I2 (r.append rz) (by rw [← r.length]; exact l1) (by rw [← rz.length]; exact l2) q2
end

/-! ### sums of rules, by name -/
def aAny : D → D → HH → QD → Prop := fun x y G Q => oI (fun _ _ => True) (fun i j => .int (i + j)) x y G Q ∨ aStr x y G Q ∨ aLst x y G Q ∨ aTup x y G Q
theorem oAddTup : OpD X (binaryOp .Add) aTup := ⟨_, op_catA, fun x y H Q dx dy G QD hR px py ⟨xs, ys, e1, e2, l, q⟩ hq => by
  subst e1; subst e2
  cases px with
  | @tup a vs _ f r =>
    cases py with
    | @tup b us _ g r' =>
      refine ⟨a, b, vs, us, rfl, rfl, f.sq, g.sq, by rw [← r.length, ← r'.length]; exact l, fun e => ?_, fun _ e => ?_, fun _ _ p hp => hq.tup hR hp (r.append r') q⟩
      · subst e
        cases r
        exact hq.now hR (.tup g r') q
      · subst e
        cases r'
        rw [List.append_nil] at q
        exact hq.now hR (.tup f r) q⟩
theorem oAdd : OpD X (binaryOp .Add) aAny := oAddI.or (oAddStr.or (oAddLst.or oAddTup))
/-! tuple * int -/
theorem tuple_mul1 (l : Addr) (items : Array Value) (n : Nat) (dd : Option Addr) (sl : Array (Option Value)) (u : Tok) :
    Meets (Builtin.«tuple.__mul__» ⟨[.ref l, .int 1 u], []⟩) (fun _ R s => s.heap.get? l = some { cls := .type "tuple", dict := dd, data := .seq items n, slots := sl } ∧
      R (.ok (.ret (Value.ref l))) s) :=
  .of_wp fun prog w A R s h => by
    obtain ⟨hp, g, d, tk, os⟩ := s
    obtain ⟨hl, h⟩ := h
    have f1 := AutoSeq1.idx_int
    have c0 : (decide ((1 : Int) < -(2 ^ 63)) || decide ((1 : Int) ≥ 2 ^ 63)) = false := by decide
    have c1 : (items.isEmpty || (1 : Int) == 1) = true := by simp
    wp_walk using wpAny_loadPart' hl
    repeat (first
      | (refine wpAny_ite_false (decide_eq_false (by rw [c0]; exact Bool.false_ne_true)) ?_; wp_walk using wpAny_loadPart' hl)
      | (refine wpAny_ite_true (decide_eq_true (by rw [c1])) ?_; wp_walk using wpAny_loadPart' hl))
    exact ⟨_, rfl, h⟩
def rRepT1 (K : PySem.W.Frag) : R2 := fun x y H Q => ∃ l xs, x = .ref l ∧ y = .int 1 ∧ SqT K H l xs ∧ Q (.ref l) H
theorem op_repT1 {X : Cx} : OpR X (binaryOp .Mult) (rRepT1 X.K) := by
  intro pins s σ H x y v u Q I rx ry h
  obtain ⟨l, xs, rfl, rfl, hT, q⟩ := h
  cases rx
  obtain ⟨t, rfl⟩ := ry
  obtain ⟨its, r, ⟨⟨cls, dd, data, sl⟩, ho, hc, n, hd⟩, hs⟩ := I.tuple hT
  simp only at hc hd
  subst hc hd
  refine wpAny_binaryOp_repeat_ref (T := "tuple") (U := "int") (by decide) ⟨_, ho, rfl⟩ (fun s' => typeIs_int s' 1 t) noFill_tuple_mul F.fills_int_mul F.slot_int_rmul repeat_tuple F.slot_int_index.lookup
    (call_meets F.slot_int_rmul (typeIs_int s 1 t) F.entry_int_rmul (F.args_int_rmul_2 _ _) (int_rmul_tuple 1 t l its.toArray n dd sl)
      ⟨ho, rfl, ⟨_, ho, rfl⟩, call_meets F.slot_tuple_mul ⟨_, ho, rfl⟩ F.entry_tuple_mul (F.args_tuple_mul_2 _ _) (tuple_mul1 l its.toArray n dd sl t) ⟨ho, ?_⟩⟩)
  exact ⟨.ref l, _, I, rfl, q⟩
def mRepT : D → D → HH → QD → Prop := fun x y G Q => ∃ xs k, x = .tup xs ∧ y = .int k ∧ xs ≠ [] ∧ 1 ≤ k ∧ k ≤ 1000 ∧ xs.length ≤ 1000 ∧ Q (.tup (List.replicate k.toNat xs).flatten) G
theorem oMulT1 {X : Cx} : OpD X (binaryOp .Mult) (fun x y G Q => ∃ xs, x = .tup xs ∧ y = .int 1 ∧ Q (.tup xs) G) := ⟨_, op_repT1, fun x y H Q dx dy G QD hR px py ⟨xs, e1, e2, q⟩ hq => by
  subst e1; subst e2
  cases py
  cases px with
  | @tup a vs _ f r => exact ⟨a, vs, rfl, rfl, f.sq, hq.now hR (.tup f r) q⟩⟩
theorem oMulT2 {X : Cx} : OpD X (binaryOp .Mult) (fun x y G Q => ∃ xs k, x = .tup xs ∧ y = .int k ∧ xs ≠ [] ∧ 2 ≤ k ∧ k ≤ 1000 ∧ xs.length ≤ 1000 ∧ Q (.tup (List.replicate k.toNat xs).flatten) G) := ⟨_, op_repT, fun x y H Q dx dy G QD hR px py ⟨xs, k, e1, e2, h0, h1, h2, h3, q⟩ hq => by
  subst e1; subst e2
  cases py
  cases px with
  | @tup a vs _ f r => exact ⟨a, k, vs, rfl, rfl, f.sq, fun e => h0 (by subst e; cases r; rfl), h1, h2, by rw [← r.length]; exact h3, fun p hp => hq.tup hR hp (r.rep _) q⟩⟩
theorem OpD.imp {X : Cx} {f : Value → Value → Sem Value} {r r' : D → D → HH → QD → Prop} (h : OpD X f r) (i : ∀ x y G Q, r' x y G Q → r x y G Q) : OpD X f r' := by
  obtain ⟨R, h1, h2⟩ := h
  exact ⟨R, h1, fun x y H Q dx dy G QD hR px py q hq => h2 x y H Q dx dy G QD hR px py (i _ _ _ _ q) hq⟩
theorem oMulT {X : Cx} : OpD X (binaryOp .Mult) mRepT := (oMulT1.or oMulT2).imp fun x y G Q ⟨xs, k, e1, e2, h0, h1, h2, h3, q⟩ => by
  by_cases hk : k = 1
  · subst hk
    exact .inl ⟨xs, e1, e2, by simpa using q⟩
  · exact .inr ⟨xs, k, e1, e2, h0, by omega, h2, h3, q⟩
def mAny : D → D → HH → QD → Prop := fun x y G Q => oI CMulX (fun i j => .int (i * j)) x y G Q ∨ mRep x y G Q ∨ mRepT x y G Q
theorem oMul : OpD X (binaryOp .Mult) mAny := oMulI.or (oMulL.or oMulT)
abbrev aSub := oI (fun _ _ => True) fun i j => .int (i - j)
abbrev aDiv := oI CDivW fun i j => .int (i / j)
abbrev aMod := oI (fun _ j => 0 < j) fun i j => .int (i % j)
abbrev aPow := oI CPow fun i j => .int (i ^ j.toNat)
abbrev aShl := oI CShl fun i j => .int (i * 2 ^ j.toNat)
abbrev aAnd := oI (fun _ _ => True) fun i j => .int (Builtin.bitAnd i j)
abbrev cLtI := oI (fun _ _ => True) fun i j => .bl (decide (i < j))
abbrev cLeI := oI (fun _ _ => True) fun i j => .bl (decide (i ≤ j))
abbrev cGtI := oI (fun _ _ => True) fun i j => .bl (decide (j < i))
abbrev cGeI := oI (fun _ _ => True) fun i j => .bl (decide (j ≤ i))
abbrev uNeg := uI fun i => .int (-i)
end DL

namespace DL
open PySem PySem.Spec PyProof.Rows L2
open PySem.W (Frag)
variable {X : Cx} {W : WX} {a b c o : Expr} {es : List Expr}

/-! ### name = [..] on one line -/
theorem lc_lift {K : Frag} {W : WX} {σ : L2.St} {H : Hp} {Q : VK} {wi : TID} {tt : TTD} {te : TED} {fr : Bool} {g : Tgt} {vs : List Nat} (hsl : ∀ i ∈ g.slots, i ∈ vs) (h : lft K W (dLc fr wi g tt te vs) σ H Q) : tLc (lftI K W wi) (g.v K) (lftT K W0 tt) (lft K W0 te) vs σ H Q := by
  obtain ⟨σD, G, QD, E, hR, hS, q, hq, hE⟩ := h
  refine ⟨σD, G, _, E, hR, hS, q, fun J H1 items okk G1 s1 r1 itr z => ?_, hE⟩
  intro p hp
  obtain ⟨Iv, i0, iok, istep, iend⟩ := z p (r1.free hp)
  have sN := Stp.newM (G := G1) (o := .lst []) (od := .lst []) hp
  have rN := r1.newM (o := .lst []) (od := .lst []) hp ⟨[], upd_same, .nil⟩
  refine ⟨fun i m H' => m = items.length - i ∧ i ≤ items.length ∧ ∃ G', Stp H1 G1 H' G' ∧ RelH K H' G' ∧ Iv (items.take i) G', ⟨items.length, by simp, Nat.zero_le _, gput G1 p (.lst []), sN, rN, by simpa using i0⟩, ?_⟩
  rintro i m H' ⟨rfl, hi, G', s', r', iv⟩
  obtain ⟨j1, j2⟩ := itr i H' G' s' r' (iok _ _ iv)
  by_cases hlt : i < items.length
  · obtain ⟨d, hd⟩ : ∃ d, items[i]? = some d := ⟨items[i], List.getElem?_eq_getElem hlt⟩
    obtain ⟨jgo, jy⟩ := j1 d hd
    refine .inr ⟨jgo, fun H'' => ∃ G'', Stp H1 G1 H'' G'' ∧ RelH K H'' G'' ∧ Iv (items.take (i + 1)) G'', fun H'' z => ⟨items.length - (i + 1), by omega, rfl, hlt, z⟩, fun x H3 y => ?_⟩
    obtain ⟨s3, r3, px⟩ := jy x H3 y
    obtain ⟨σ2, hput, stp⟩ := istep _ d _ G' (split_at hd) iv
    have s13 := s'.trans s3
    have hw := ((hS.mono s1).mono s13).wipe vs
    refine Tgt.ok g hsl px hw hput fun σ' h' a' => ⟨?_, ?_⟩
    · exact wipe_eq (by rw [← a'.1, wipe_length]) fun i hi => by rw [← a'.2 i hi, wipe_out hi]
    refine ⟨σ2, G', _, _, r3, h', stp, fun b H4 G4 s4 r4 z4 => ?_, exs0⟩
    cases b with
    | false =>
      dsimp only at z4 ⊢
      rw [if_neg Bool.false_ne_true] at z4 ⊢
      exact ⟨G4, s13.trans s4, r4, by rw [take_snoc hd]; exact z4⟩
    | true =>
      dsimp only at z4 ⊢
      rw [if_pos rfl] at z4 ⊢
      refine ⟨σ2, G4, _, _, r4, h'.mono s4, z4, fun w H5 dw G5 s5 r5 p5 ⟨acc, e5, l5, z5⟩ => ?_, exs0⟩
      obtain ⟨us, h, rr⟩ := r5 _ _ e5
      have s6 := Stp.put (H := H5) (o := .lst (us ++ [w])) (od := .lst (acc ++ [dw])) e5
      refine ⟨us, h, by rw [← rr.length]; exact l5, gput G5 p (.lst (acc ++ [dw])), ((s13.trans s4).trans s5).trans s6, r5.put e5 ⟨_, upd_same, (rr.mono s6).append (.cons (p5.mono s6) .nil)⟩, ?_⟩
      rw [take_snoc hd]; exact z5
  · have e : i = items.length := by omega
    subst e
    rw [List.take_length] at iv
    refine .inl ⟨j2 (Nat.le_refl _), ?_⟩
    obtain ⟨acc, ea, z⟩ := iend _ iv
    have s1' := s1.trans s'
    cases fr with
    | true =>
      rw [if_pos rfl] at z
      exact hq _ _ _ _ (s1'.trans Stp.del) r'.del (thaw_lst r' ea) z
    | false =>
      rw [if_neg Bool.false_ne_true] at z
      exact hq _ _ _ _ s1' r' (.ref p) z
theorem ds_setLc {i : Nat} {y : Str} {py : Pos} {elt tg iter : Expr} {ifs : List Expr} {scope : Scope} {own : List (Str × Nat)} {pos spos : Pos} {wi : TID} {tt : TTD} {te : TED} (hc : X.calm = true) (hN : X.N.Nodup) (hy : X.N[i]? = some y) (hyl : X.env.scope.names.lookup y = some .local)
    (hsw : swapsWith (.ListComp elt [⟨tg, iter, ifs, 0⟩] scope pos) (some (.Name y py)) spos.line X.env = pure true) (fr : Bool) (g : Tgt) (hi : DI X W tg iter wi) (ok : BlkOk X.N X.env.scope scope own)
    (hsl : ∀ i ∈ g.slots, i ∈ own.map (·.2))
    (hg : ∀ (s : Shared) (H : Hp) (C : Addr) (cl : List (Str × Addr)) (fp : List Addr), PG (X.blk s H scope (compEnvC scope cl C X.env) fp) tg (g.v X.K)) (ht : ∀ (s : Shared) (H : Hp) (C : Addr) (cl : List (Str × Addr)) (fp : List Addr), DTs (X.blk s H scope (compEnvC scope cl C X.env) fp) W0 ifs tt)
    (he : ∀ (s : Shared) (H : Hp) (C : Addr) (cl : List (Str × Addr)) (fp : List Addr), DE (X.blk s H scope (compEnvC scope cl C X.env) fp) W0 elt te) (hs : ∀ x, foldedSetIterable iter X.env x = pure x := by intro _; rfl) :
    DS X W (.Assign [.Name y py] (.ListComp elt [⟨tg, iter, ifs, 0⟩] scope pos) spos) (dAsg (dLc fr wi g tt te (own.map (·.2))) (gdName i)) :=
  PS.imp (ps_setLc (g := g.v X.K) (tt := lftT X.K W0 tt) (te := lft X.K W0 te) hc hN hy hyl hsw hi ok hg ht he hs) fun D σ H ⟨σD, G, DD, hR, hS, q, hE⟩ =>
    lc_lift (Q := fun x H1 => gName i x σ H1 D.nx) hsl ⟨σD, G, _, _, hR, hS, q, fun v H1 d G1 s r p z => hE.nx _ _ _ _ s r ((hS.mono s).set i p) z, hE.ex.at hS⟩

/-! ### steps -/
inductive GetAt : SD → Nat → D → Prop
  | z {d : D} {r : SD} : GetAt (some d :: r) 0 d
  | s {a : Option D} {r : SD} {i : Nat} {d : D} : GetAt r i d → GetAt (a :: r) (i + 1) d
theorem GetAt.at {σ i d} (h : GetAt σ i d) : σ[i]? = some (some d) := by
  induction h with
  | z => rfl
  | s _ ih => simpa using ih
inductive SetAt : SD → Nat → D → SD → Prop
  | z {a : Option D} {d : D} {r : SD} : SetAt (a :: r) 0 d (some d :: r)
  | s {a : Option D} {r r' : SD} {i : Nat} {d : D} : SetAt r i d r' → SetAt (a :: r) (i + 1) d (a :: r')
theorem SetAt.at {σ i d σ'} (h : SetAt σ i d σ') : σ.set i (some d) = σ' := by
  induction h with
  | z => rfl
  | s _ ih => simp [ih]
section
variable {σ σ' : SD} {G : HH} {Q : QD} {E : ED} {i j : Nat} {d d' : D} {ta tb : TED} {t u : TAD} {tA tB : TTD} {tS uS : TSD} {nx bk ct : SD → HH → Prop} {rt : QD} {ex : XD → SD → HH → Prop} {QT : Bool → HH → Prop} {QA : List D → HH → Prop} {N : SD → HH → Prop}
theorem st_var (h : GetAt σ i d) (q : Q d G) : dVar i σ G Q E := ⟨d, h.at, q⟩
theorem st_c (q : Q d G) : dC d σ G Q E := q
theorem st_op {rD} (h : ta σ G (fun x G1 => tb σ G1 (fun y G2 => rD x y G2 Q) E) E) : dOp rD ta tb σ G Q E := h
theorem st_un {rD} (h : ta σ G (fun x G1 => rD x G1 Q) E) : dUn rD ta σ G Q E := h
theorem st_nil (q : QA [] G) : dNil σ G QA E := q
theorem st_cons (h : ta σ G (fun d G1 => t σ G1 (fun ds G2 => QA (d :: ds) G2) E) E) : dCons ta t σ G QA E := h
theorem st_tup (h : t σ G (fun ds G1 => ds.length ≤ sizeLine ∧ Q (.tup ds) G1) E) : dTup t σ G Q E := h
theorem st_lst (h : t σ G (fun ds G1 => ds.length ≤ sizeLine ∧ Q (.lst ds) G1) E) : dLst t σ G Q E := h
theorem st_lstM (h : t σ G (fun ds G1 => ds.length ≤ sizeLine ∧ ∀ p, G1 p = none → Q (.ref p) (gput G1 p (.lst ds))) E) : dLstM t σ G Q E := h
theorem st_cb {rD : RCD} (h : t σ G (fun ds G1 => rD ds G1 Q) E) : dCB rD t σ G Q E := h
theorem st_call {sp : SpD} (h : t σ G (fun ds G1 => sp ds G1 Q E) E) : dCall sp t σ G Q E := h
theorem st_callK {n m perm} {sp : SpD} (h : t σ G (fun ds G1 => u σ G1 (fun zs G2 => ds.length = n ∧ zs.length = m ∧ sp (pick perm (ds ++ zs)) G2 Q E) E) E) : dCallK n m perm sp t u σ G Q E := h
theorem st_test (h : ta σ G (fun x G1 => ∃ k, x = .bl k ∧ QT k G1) E) : dTest ta σ G QT E := h
theorem st_bl {k} (q : QT k G) : ∃ k', D.bl k = .bl k' ∧ QT k' G := ⟨k, rfl, q⟩
theorem st_and (h : tA σ G (fun c G1 => if c = true then tB σ G1 QT E else QT false G1) E) : dAnd tA tB σ G QT E := h
theorem st_or (h : tA σ G (fun c G1 => if c = true then QT true G1 else tB σ G1 QT E) E) : dOr tA tB σ G QT E := h
theorem st_not (h : tA σ G (fun c G1 => QT (!c) G1) E) : dNot tA σ G QT E := h
theorem st_tru (h : ta σ G (fun x G1 => ∃ k, Tru G1 x k ∧ QT k G1) E) : dTru ta σ G QT E := h
theorem st_tru_bl {k} (q : QT k G) : ∃ k', Tru G (.bl k) k' ∧ QT k' G := ⟨k, .bl k, q⟩
theorem st_andV (h : ta σ G (fun x G1 => ∃ c, x = .bl c ∧ if c = true then tb σ G1 Q E else Q (.bl false) G1) E) : dAndV ta tb σ G Q E := h
theorem st_orV (h : ta σ G (fun x G1 => ∃ c, x = .bl c ∧ if c = true then Q (.bl true) G1 else tb σ G1 Q E) E) : dOrV ta tb σ G Q E := h
theorem st_notV (h : ta σ G (fun x G1 => ∃ c, x = .bl c ∧ Q (.bl (!c)) G1) E) : dNotV ta σ G Q E := h
theorem st_blq {k : Bool} {P : Bool → Prop} (q : P k) : ∃ c, D.bl k = .bl c ∧ P c := ⟨k, rfl, q⟩
theorem st_if (h : tA σ G (fun c G1 => if c = true then ta σ G1 Q E else tb σ G1 Q E) E) : dIf tA ta tb σ G Q E := h
theorem st_sl {tl th} (h : ta σ G (fun x G1 => tl σ G1 (fun lo G2 => th σ G2 (fun hi G3 => slD x lo hi G3 Q) E) E) E) : dSl ta tl th σ G Q E := h
theorem st_nopart {QO : Option Int → HH → Prop} (q : QO none G) : dNoPart σ G QO E := q
theorem st_part {QO : Option Int → HH → Prop} (h : ta σ G (fun x G1 => ∃ i, x = .int i ∧ QO (some i) G1) E) : dPart ta σ G QO E := h
theorem st_int {i : Int} {P : Int → Prop} (q : P i) : ∃ j, D.int i = .int j ∧ P j := ⟨i, rfl, q⟩
theorem st_isN {neg} (h : ta σ G (fun x G1 => ∃ k, (k = true → x = .non) ∧ (x = .non → k = true) ∧ Q (.bl (if neg then !k else k)) G1) E) : isN neg ta σ G Q E := h
-- statements
theorem st_seq (h : tS ⟨uS ⟨nx, rt, bk, ct, ex⟩, rt, bk, ct, ex⟩ σ G) : dSeq tS uS ⟨nx, rt, bk, ct, ex⟩ σ G := h
theorem st_next (h : nx σ G) : dNext ⟨nx, rt, bk, ct, ex⟩ σ G := h
theorem st_break (h : bk σ G) : dBreak ⟨nx, rt, bk, ct, ex⟩ σ G := h
theorem st_cont (h : ct σ G) : dCont ⟨nx, rt, bk, ct, ex⟩ σ G := h
theorem st_drop (h : ta σ G (fun _ G1 => nx σ G1) (fun x G1 => ex x σ G1)) : dDrop ta ⟨nx, rt, bk, ct, ex⟩ σ G := h
theorem st_ret (h : ta σ G rt (fun x G1 => ex x σ G1)) : dRet ta ⟨nx, rt, bk, ct, ex⟩ σ G := h
theorem st_retN (h : rt .non G) : dRetN ⟨nx, rt, bk, ct, ex⟩ σ G := h
theorem st_retF (h : ta σ G (fun d G1 => ∃ p xs, d = .ref p ∧ G1 p = some (.lst xs) ∧ rt (.lst xs) (gdel G1 p)) (fun x G1 => ex x σ G1)) : dRetF ta ⟨nx, rt, bk, ct, ex⟩ σ G := h
theorem st_ifS (h : tA σ G (fun b G1 => if b = true then tS ⟨nx, rt, bk, ct, ex⟩ σ G1 else uS ⟨nx, rt, bk, ct, ex⟩ σ G1) (fun x G1 => ex x σ G1)) : dIfS tA tS uS ⟨nx, rt, bk, ct, ex⟩ σ G := h
theorem st_asg {g : TGD} (h : ta σ G (fun x G1 => g x σ G1 nx) (fun x G1 => ex x σ G1)) : dAsg ta g ⟨nx, rt, bk, ct, ex⟩ σ G := h
theorem st_name (hs : SetAt σ i d σ') (h : N σ' G) : gdName i d σ G N := by unfold gdName; rw [hs.at]; exact h
theorem st_gtup {n ds} {tG : TGsD} (hl : ds.length = n) (h : tG ds σ G N) : gdTup n tG (.tup ds) σ G N := ⟨ds, rfl, hl, h⟩
theorem st_gnil (h : N σ G) : gdNil [] σ G N := ⟨rfl, h⟩
theorem st_gcons {tG : TGD} {uG : TGsD} {ds} (h : tG d σ G (fun σ' G' => uG ds σ' G' N)) : gdCons tG uG (d :: ds) σ G N := ⟨d, ds, rfl, h⟩
theorem st_gsub (h : ta σ G (fun x G1 => tb σ G1 (fun y G2 => ∃ p xs k j, x = .ref p ∧ y = .int k ∧ G2 p = some (.lst xs) ∧ ixN xs.length k = some j ∧ N σ (gput G2 p (.lst (xs.set j d)))) (fun _ _ => False)) (fun _ _ => False)) : gdSub ta tb d σ G N := h
theorem st_setat {p : Addr} {xs : List D} {k : Int} {jj : Nat} {P : HH → Prop} (hp : G p = some (.lst xs)) (hj : ixN xs.length k = some jj) (h : P (gput G p (.lst (xs.set jj d)))) : ∃ p' xs' k' j', D.ref p = .ref p' ∧ D.int k = .int k' ∧ G p' = some (.lst xs') ∧ ixN xs'.length k' = some j' ∧ P (gput G p' (.lst (xs'.set j' d))) := ⟨p, xs, k, jj, rfl, rfl, hp, hj, h⟩
theorem st_par (h : t σ G (fun ds G1 => ∃ d e, ds = [d, e] ∧ nx ((σ.set i (some d)).set j (some e)) G1) (fun x G1 => ex x σ G1)) : dPar i j t ⟨nx, rt, bk, ct, ex⟩ σ G := h
theorem st_par2 {e : D} {σ2 : SD} (h1 : SetAt σ i d σ') (h2 : SetAt σ' j e σ2) (h : N σ2 G) : ∃ d' e', [d, e] = [d', e'] ∧ N ((σ.set i (some d')).set j (some e')) G := ⟨d, e, rfl, by rw [h1.at, h2.at]; exact h⟩
theorem st_frz {p : Addr} {xs : List D} (hv : GetAt σ i (.ref p)) (hp : G p = some (.lst xs)) (hs : SetAt σ i (.lst xs) σ') (h : tS ⟨nx, rt, bk, ct, ex⟩ σ' (gdel G p)) : dFrz i tS ⟨nx, rt, bk, ct, ex⟩ σ G := ⟨p, xs, hv.at, hp, by rw [hs.at]; exact h⟩
-- what is walked
theorem st_iTup {R : List D → (HH → Prop) → HH → Prop} (h : ta σ G (fun x G1 => ∃ xs, x = .tup xs ∧ R xs okT G1) E) : iTupD ta σ G R E := h
theorem st_tupq {xs : List D} {P : List D → Prop} (q : P xs) : ∃ ys, D.tup xs = .tup ys ∧ P ys := ⟨xs, rfl, q⟩
theorem st_iLst {R : List D → (HH → Prop) → HH → Prop} (h : ta σ G (fun x G1 => ∃ xs, LsW G1 x xs ∧ R xs (okL x xs) G1) E) : iLstD ta σ G R E := h
theorem st_lsq {xs : List D} {P : List D → Prop} (q : P xs) : ∃ ys, LsW G (.lst xs) ys ∧ P ys := ⟨xs, .lst xs, q⟩
theorem st_wlsq {xs : List D} {P : List D → Prop} (q : P xs) : ∃ ys, LsW G (.wls xs) ys ∧ P ys := ⟨xs, .wls xs, q⟩
theorem st_rng1 {R : List D → (HH → Prop) → HH → Prop} (h : t σ G (fun ds G1 => ∃ j : Int, ds = [.int j] ∧ -(2 ^ 62) ≤ j ∧ j < 2 ^ 62 ∧ R (rgItems 0 j.toNat) okT G1) E) : iRngD1 t σ G R E := h
theorem st_rng1q {j : Int} {P : Int → Prop} (h1 : -(2 ^ 62) ≤ j) (h2 : j < 2 ^ 62) (h : P j) : ∃ j' : Int, [D.int j] = [.int j'] ∧ -(2 ^ 62) ≤ j' ∧ j' < 2 ^ 62 ∧ P j' := ⟨j, rfl, h1, h2, h⟩
theorem st_rng2 {R : List D → (HH → Prop) → HH → Prop} (h : t σ G (fun ds G1 => ∃ i j : Int, ds = [.int i, .int j] ∧ (-(2 ^ 62) ≤ i ∧ i < 2 ^ 62 ∧ -(2 ^ 62) ≤ j ∧ j < 2 ^ 62) ∧ R (rgItems i (j - i).toNat) okT G1) E) : iRngD2 t σ G R E := h
theorem st_rng2q {i j : Int} {P : Int → Int → Prop} (hh : -(2 ^ 62) ≤ i ∧ i < 2 ^ 62 ∧ -(2 ^ 62) ≤ j ∧ j < 2 ^ 62) (h : P i j) : ∃ i' j' : Int, [D.int i, D.int j] = [.int i', .int j'] ∧ (-(2 ^ 62) ≤ i' ∧ i' < 2 ^ 62 ∧ -(2 ^ 62) ≤ j' ∧ j' < 2 ^ 62) ∧ P i' j' := ⟨i, j, rfl, hh, h⟩
-- values
theorem st_oI {C : Int → Int → Prop} {g : Int → Int → D} {x y : Int} (hc : C x y) (h : Q (g x y) G) : oI C g (.int x) (.int y) G Q := ⟨x, y, rfl, rfl, hc, h⟩
theorem st_oI0 {g : Int → Int → D} {x y : Int} (h : Q (g x y) G) : oI (fun _ _ => True) g (.int x) (.int y) G Q := ⟨x, y, rfl, rfl, trivial, h⟩
theorem st_uI {g : Int → D} {x : Int} (h : Q (g x) G) : uI g (.int x) G Q := ⟨x, rfl, h⟩
theorem st_addI {x y : Int} (h : Q (.int (x + y)) G) : aAny (.int x) (.int y) G Q := .inl ⟨x, y, rfl, rfl, trivial, h⟩
theorem st_addS {x y : Str} (hl : x.length + y.length ≤ sizeLine) (h : Q (.str (x ++ y)) G) : aAny (.str x) (.str y) G Q := .inr (.inl ⟨x, y, rfl, rfl, hl, h⟩)
theorem st_addL {x y : D} {xs ys : List D} (h1 : Ls G x xs) (h2 : Ls G y ys) (hl : xs.length + ys.length ≤ sizeLine) (h : Q (.lst (xs ++ ys)) G) : aAny x y G Q := .inr (.inr (.inl ⟨xs, ys, h1, h2, hl, h⟩))
theorem st_addT {xs ys : List D} (hl : xs.length + ys.length ≤ sizeLine) (h : Q (.tup (xs ++ ys)) G) : aAny (.tup xs) (.tup ys) G Q := .inr (.inr (.inr ⟨xs, ys, rfl, rfl, hl, h⟩))
theorem st_mulI {x y : Int} (hc : CMulX x y) (h : Q (.int (x * y)) G) : mAny (.int x) (.int y) G Q := .inl ⟨x, y, rfl, rfl, hc, h⟩
theorem st_mulL {x : D} {xs : List D} {k : Int} (h1 : Ls G x xs) (hk : -(2 ^ 63) ≤ k ∧ k < 2 ^ 63) (hl : xs.length * k.toNat ≤ sizeLine) (h : Q (.lst (List.replicate k.toNat xs).flatten) G) : mAny x (.int k) G Q := .inr (.inl ⟨xs, k, h1, rfl, hk.1, hk.2, hl, h⟩)
theorem st_mulT {xs : List D} {k : Int} (h0 : xs ≠ []) (hk : 1 ≤ k ∧ k ≤ 1000) (hl : xs.length ≤ 1000) (h : Q (.tup (List.replicate k.toNat xs).flatten) G) : mAny (.tup xs) (.int k) G Q := .inr (.inr ⟨xs, k, rfl, rfl, h0, hk.1, hk.2, hl, h⟩)
theorem st_eqI {x y : Int} (h : Q (.bl (decide (x = y))) G) : eAny false (.int x) (.int y) G Q := .inl ⟨_, _, rfl, rfl, rfl, by
  have e : decide (V.int x = V.int y) = decide (x = y) := by simp
  show Q (.bl (if false = true then _ else _)) G
  rw [if_neg Bool.false_ne_true, e]; exact h⟩
theorem st_neI {x y : Int} (h : Q (.bl (!decide (x = y))) G) : eAny true (.int x) (.int y) G Q := .inl ⟨_, _, rfl, rfl, rfl, by
  have e : decide (V.int x = V.int y) = decide (x = y) := by simp
  show Q (.bl (if true = true then _ else _)) G
  rw [if_pos rfl, e]; exact h⟩
theorem st_eqS {x y : Str} (h : Q (.bl (decide (x = y))) G) : eAny false (.str x) (.str y) G Q := .inl ⟨_, _, rfl, rfl, rfl, by
  have e : decide (V.str x = V.str y) = decide (x = y) := by simp
  show Q (.bl (if false = true then _ else _)) G
  rw [if_neg Bool.false_ne_true, e]; exact h⟩
theorem st_neS {x y : Str} (h : Q (.bl (!decide (x = y))) G) : eAny true (.str x) (.str y) G Q := .inl ⟨_, _, rfl, rfl, rfl, by
  have e : decide (V.str x = V.str y) = decide (x = y) := by simp
  show Q (.bl (if true = true then _ else _)) G
  rw [if_pos rfl, e]; exact h⟩
theorem st_eqP {x y : D} {p q : PyData} (h1 : Py G x p) (h2 : Py G y q) (s1 : SeqAt.shaped p = true) (s2 : SeqAt.shaped q = true) (h : Q (.bl (PyData.eqv p q)) G) : eAny false x y G Q := .inr ⟨p, q, h1, h2, s1, s2, h⟩
theorem st_neP {x y : D} {p q : PyData} (h1 : Py G x p) (h2 : Py G y q) (s1 : SeqAt.shaped p = true) (s2 : SeqAt.shaped q = true) (h : Q (.bl (!PyData.eqv p q)) G) : eAny true x y G Q := .inr ⟨p, q, h1, h2, s1, s2, h⟩
theorem st_ix {x : D} {xs : List D} {k : Int} (hs : Sq G x xs) (hk : atI xs k = some d) (h : Q d G) : xAny x (.int k) G Q := .inl ⟨xs, k, d, hs, rfl, hk, h⟩
theorem st_slL {x : D} {xs : List D} {lo hi : Option Int} (hs : LsW G x xs) (h : Q (.lst (dcut xs lo hi)) G) : slD x lo hi G Q := .inl ⟨xs, hs, h⟩
theorem st_slT {xs : List D} {lo hi : Option Int} (h : Q (.tup (dcut xs lo hi)) G) : slD (.tup xs) lo hi G Q := .inr (.inl ⟨xs, rfl, h⟩)
theorem st_slS {x : Str} {lo hi : Option Int} (hl : x.length ≤ sizeLine) (h : Q (.str (cutS x lo hi)) G) : slD (.str x) lo hi G Q := .inr (.inr ⟨x, rfl, hl, h⟩)
-- built-in functions
theorem st_len {x : D} {xs : List D} (hs : Sq G x xs) (h : Q (.int xs.length) G) : kLen [x] G Q := .inl ⟨x, rfl, xs, hs, h⟩
theorem st_lenT {z : Str} (hl : z.length ≤ sizeLine) (h : Q (.int z.length) G) : kLen [.str z] G Q := .inr ⟨_, rfl, z, rfl, hl, h⟩
theorem st_abs {x : Int} (h : Q (.int (x.natAbs : Int)) G) : kAbs [.int x] G Q := ⟨_, rfl, x, rfl, h⟩
theorem st_max2 {x y : Int} (h : Q (.int (max x y)) G) : kMax2 [.int x, .int y] G Q := ⟨_, _, rfl, x, y, rfl, rfl, h⟩
theorem st_min2 {x y : Int} (h : Q (.int (min x y)) G) : kMin2 [.int x, .int y] G Q := ⟨_, _, rfl, x, y, rfl, rfl, h⟩
theorem st_toInt {x : Int} (h : Q (.int x) G) : kInt [.int x] G Q := ⟨_, rfl, .inl ⟨x, rfl, h⟩⟩
theorem st_toIntB {k : Bool} (h : Q (.int (if k then 1 else 0)) G) : kInt [.bl k] G Q := ⟨_, rfl, .inr ⟨k, rfl, h⟩⟩
theorem st_bool {k : Bool} (h : Q (.bl k) G) : kBool [.bl k] G Q := ⟨_, rfl, .inr ⟨k, rfl, h⟩⟩
theorem st_strI {x : Int} (hl : x.natAbs.log2 < 1920) (h : Q (.str (toString x)) G) : kStr [.int x] G Q := ⟨_, rfl, x, rfl, hl, h⟩
theorem st_tuple {x : D} {xs : List D} (hs : Sq G x xs) (h : Q (.tup xs) G) : kTuple [x] G Q := ⟨x, rfl, xs, hs, h⟩
theorem st_list {x : D} {xs : List D} (hs : Sq G x xs) (h : Q (.lst xs) G) : kList [x] G Q := ⟨x, rfl, xs, hs, h⟩
theorem st_listM {x : D} {xs : List D} (hs : Sq G x xs) (h : ∀ p, G p = none → Q (.ref p) (gput G p (.lst xs))) : kListM [x] G Q := ⟨x, rfl, xs, hs, h⟩
theorem st_repr {x : D} {p : PyData} (hp : Py G x p) (hs : Shw p) (h : Q (.str p.shown) G) : kRepr [x] G Q := ⟨x, rfl, p, hp, hs, h⟩
theorem st_sum {x : D} {ns : List Int} (hs : LsW G x (ns.map D.int)) (h : Q (.int ns.sum) G) : kSum [x] G Q := ⟨x, rfl, ns, hs, h⟩
theorem st_any {x : D} {ns : List Bool} (hs : LsW G x (ns.map D.bl)) (h : Q (.bl (ns.any id)) G) : kAny [x] G Q := ⟨x, rfl, ns, hs, h⟩
theorem st_all {x : D} {ns : List Bool} (hs : LsW G x (ns.map D.bl)) (h : Q (.bl (ns.all id)) G) : kAll [x] G Q := ⟨x, rfl, ns, hs, h⟩
-- methods
theorem st_bm {ty rD} (h : ta σ G (fun x G1 => ty x G1 ∧ t σ G1 (fun ds G2 => rD x ds G2 Q) E) E) : dBM ty rD ta t σ G Q E := h
theorem st_bm0 {ty rD} (h : ta σ G (fun x G1 => ty x G1 ∧ rD x [] G1 Q) E) : dBM0 ty rD ta σ G Q E := h
theorem st_append {p : Addr} {xs : List D} (hp : G p = some (.lst xs)) (hl : xs.length < sizeLine) (h : Q .non (gput G p (.lst (xs ++ [d])))) : mAppend (.ref p) [d] G Q := ⟨p, xs, d, rfl, rfl, hp, hl, h⟩
theorem st_pop {p : Addr} {xs : List D} (hp : G p = some (.lst (xs ++ [d]))) (h : Q d (gput G p (.lst xs))) : mPop (.ref p) [] G Q := ⟨p, xs, d, rfl, rfl, hp, h⟩
theorem st_extend {p : Addr} {xs ys : List D} {y : D} (hp : G p = some (.lst xs)) (hy : Ls G y ys) (hl : xs.length + ys.length ≤ sizeLine) (h : Q .non (gput G p (.lst (xs ++ ys)))) : mExtend (.ref p) [y] G Q := ⟨p, xs, y, ys, rfl, rfl, hp, hy, hl, h⟩
-- ifs
theorem st_iteT {A B : Prop} (h : A) : if true = true then A else B := h
theorem st_iteF {A B : Prop} (h : B) : if false = true then A else B := by rw [if_neg Bool.false_ne_true]; exact h
theorem st_ite {p A B : Prop} [Decidable p] (h1 : p → A) (h2 : ¬ p → B) : if decide p = true then A else B := by
  by_cases h : p
  · rw [decide_eq_true h]; exact h1 h
  · rw [decide_eq_false h, if_neg Bool.false_ne_true]; exact h2 h
theorem st_iteN {p A B : Prop} [Decidable p] (h1 : ¬ p → A) (h2 : p → B) : if (!decide p) = true then A else B := by
  by_cases h : p
  · rw [decide_eq_true h]; exact h2 h
  · rw [decide_eq_false h]; exact h1 h
theorem st_iteB {b : Bool} {A B : Prop} (h1 : b = true → A) (h2 : b = false → B) : if b = true then A else B := by
  cases b
  · rw [if_neg Bool.false_ne_true]; exact h2 rfl
  · exact h1 rfl
/-- a test that leaves nothing but its value: both parts of and, or are joined -/
theorem st_join {b k : Bool} {F : Bool → HH → Prop} (h : F (b && k) G) : if b = true then F k G else F false G := by
  cases b
  · rw [if_neg Bool.false_ne_true]; exact h
  · exact h
theorem st_joinO {b k : Bool} {F : Bool → HH → Prop} (h : F (b || k) G) : if b = true then F true G else F k G := by
  cases b
  · rw [if_neg Bool.false_ne_true]; exact h
  · exact h
end
end DL

namespace DL
open PySem PySem.Spec PyProof.Rows L2
open PySem.W (Frag)

/-! ### data that may be shown: bounds -/
mutual
/-- ints below 2 ^ b, texts of right signs, no dicts, depth at most n -/
def fine (b : Nat) : Nat → PyData → Prop
  | _, .none => True
  | _, .bool _ => True
  | _, .int i => i.natAbs < 2 ^ b
  | _, .str x => PyData.strOk x = true
  | n + 1, .list xs => fineAll b n xs
  | n + 1, .tuple xs => fineAll b n xs
  | 0, .list _ => False
  | 0, .tuple _ => False
  | _, .dict _ => False
def fineAll (b : Nat) : Nat → List PyData → Prop
  | _, [] => True
  | n, x :: xs => fine b n x ∧ fineAll b n xs
end
theorem int_len {b : Nat} {i : Int} (h0 : 0 < b) (h : i.natAbs < 2 ^ b) : (PyData.shown (.int i)).length ≤ b + 1 := by
  simp only [PyData.shown]
  show (Str.ofString (toString i)).length ≤ b + 1
  rw [PySem.ofString_length]
  cases i with
  | ofNat n =>
    have := nat_repr_length_le (n := n) (k := b) h0 h
    show (Nat.repr n).length ≤ b + 1
    omega
  | negSucc n =>
    have := nat_repr_length_le (n := n + 1) (k := b) h0 h
    have e1 : "-".length = 1 := rfl
    show ("-" ++ Nat.repr (n + 1)).length ≤ b + 1
    rw [String.length_append]
    omega
mutual
theorem fine_look {b : Nat} (h0 : 0 < b) (hb : b ≤ 1900) : ∀ (n : Nat) (d : PyData), fine b n d → d.showable = true ∧ d.canLay0 = true ∧ d.leavesShort (b + 10) = true ∧ d.depth ≤ n
  | n, .none, _ => by simp [PyData.showable, PyData.canLay0, PyData.leavesShort, PyData.depth]
  | n, .bool _, _ => by simp [PyData.showable, PyData.canLay0, PyData.leavesShort, PyData.depth]
  | n, .int i, h => by
    have h : i.natAbs < 2 ^ b := by cases n <;> exact h
    have h1 := int_len h0 h
    have h2 : i.natAbs.log2 < 1920 := by
      by_cases hz : i.natAbs = 0
      · rw [hz]; decide
      · have := (Nat.log2_lt hz).mpr h
        omega
    simp only [PyData.showable, PyData.canLay0, PyData.leavesShort, PyData.depth]
    exact ⟨decide_eq_true h2, trivial, decide_eq_true (by omega), Nat.zero_le _⟩
  | n, .str x, h => by
    have h : PyData.strOk x = true := by cases n <;> exact h
    simp only [PyData.showable, PyData.canLay0, PyData.leavesShort, PyData.depth]
    refine ⟨trivial, h, ?_, Nat.zero_le _⟩
    rw [List.all_eq_true]
    intro c hc
    unfold PyData.strOk at h
    rw [← Array.all_toList, List.all_eq_true] at h
    have := h c hc
    have : c < 0x110000 := by simpa using this
    exact decide_eq_true (Nat.lt_trans this (by decide))
  | 0, .list _, h => by simp [fine] at h
  | 0, .tuple _, h => by simp [fine] at h
  | n + 1, .list xs, h => by
    simp only [fine] at h
    obtain ⟨h1, h2, h3, h4⟩ := fineAll_look h0 hb n xs h
    simp only [PyData.showable, PyData.canLay0, PyData.leavesShort, PyData.depth]
    exact ⟨h1, h2, h3, by omega⟩
  | n + 1, .tuple xs, h => by
    simp only [fine] at h
    obtain ⟨h1, h2, h3, h4⟩ := fineAll_look h0 hb n xs h
    simp only [PyData.showable, PyData.canLay0, PyData.leavesShort, PyData.depth]
    exact ⟨h1, h2, h3, by omega⟩
  | n, .dict _, h => by cases n <;> simp [fine] at h
theorem fineAll_look {b : Nat} (h0 : 0 < b) (hb : b ≤ 1900) : ∀ (n : Nat) (ds : List PyData), fineAll b n ds → PyData.showableAll ds = true ∧ PyData.canLayAll0 ds = true ∧ PyData.leavesShortAll (b + 10) ds = true ∧ PyData.depthAll ds ≤ n
  | n, [], _ => by simp [PyData.showableAll, PyData.canLayAll0, PyData.leavesShortAll, PyData.depthAll]
  | n, d :: ds, h => by
    simp only [fineAll] at h
    obtain ⟨a1, a2, a3, a4⟩ := fine_look h0 hb n d h.1
    obtain ⟨b1, b2, b3, b4⟩ := fineAll_look h0 hb n ds h.2
    simp only [PyData.showableAll, PyData.canLayAll0, PyData.leavesShortAll, PyData.depthAll, a1, a2, a3, b1, b2, b3, Bool.and_self, true_and]
    omega
end
theorem shaped_of {b n : Nat} {d : PyData} (h0 : 0 < b) (hb : b ≤ 1900) (hn : n ≤ 64) (h : fine b n d) : SeqAt.shaped d = true := by
  obtain ⟨_, h2, _, h4⟩ := fine_look h0 hb n d h
  unfold SeqAt.shaped
  rw [h2]
  exact decide_eq_true (by omega)
theorem shw_of {b n : Nat} {d : PyData} (h0 : 0 < b) (hb : b ≤ 1900) (hn : n ≤ 64) (h : fine b n d) (hz : (b + 12) * d.bulk + b + 10 ≤ 16777216) : Shw d := by
  obtain ⟨h1, h2, h3, h4⟩ := fine_look h0 hb n d h
  refine ⟨h1, shaped_of h0 hb hn h, ?_⟩
  have := PyData.shown_le_bulk (b + 10) (by omega) d h3
  have e : sizeLine = 16777216 := sizeLine_eq
  rw [e]
  have e2 : (b + 10 + 2) * d.bulk = (b + 12) * d.bulk := by rw [show b + 10 + 2 = b + 12 by omega]
  omega

/-! ### lists of scalars as data -/
theorem pys_ints : ∀ ns : List Int, pys (ns.map D.int) = some (ns.map PyData.int)
  | [] => rfl
  | n :: ns => by simp [pys, D.py, pys_ints ns]
theorem pys_strs : ∀ ns : List Str, pys (ns.map D.str) = some (ns.map PyData.str)
  | [] => rfl
  | n :: ns => by simp [pys, D.py, pys_strs ns]
theorem py_lstI (ns : List Int) : (D.lst (ns.map D.int)).py = some (.list (ns.map PyData.int)) := by simp [D.py, pys_ints]
theorem py_tupI (ns : List Int) : (D.tup (ns.map D.int)).py = some (.tuple (ns.map PyData.int)) := by simp [D.py, pys_ints]
theorem canLay_ints : ∀ ns : List Int, PyData.canLayAll0 (ns.map PyData.int) = true
  | [] => rfl
  | n :: ns => by simp [PyData.canLayAll0, PyData.canLay0, canLay_ints ns]
theorem depth_ints : ∀ ns : List Int, PyData.depthAll (ns.map PyData.int) = 0
  | [] => rfl
  | n :: ns => by simp [PyData.depthAll, PyData.depth, depth_ints ns]
theorem shaped_lstI (ns : List Int) : SeqAt.shaped (.list (ns.map PyData.int)) = true := by
  unfold SeqAt.shaped
  simp [PyData.canLay0, PyData.depth, canLay_ints, depth_ints]
theorem shaped_tupI (ns : List Int) : SeqAt.shaped (.tuple (ns.map PyData.int)) = true := by
  unfold SeqAt.shaped
  simp [PyData.canLay0, PyData.depth, canLay_ints, depth_ints]
theorem eqv_lst_nil (ds : List PyData) : PyData.eqv (.list ds) (.list []) = ds.isEmpty := by
  cases ds <;> simp [PyData.eqv, PyData.eqvAll]
theorem eqv_tup_nil (ds : List PyData) : PyData.eqv (.tuple ds) (.tuple []) = ds.isEmpty := by
  cases ds <;> simp [PyData.eqv, PyData.eqvAll]
theorem hu65 {k : Nat} {A : Around} (hr : Room k A) : A.units + 65 < cLine := by have := hr.un; omega
theorem hu70 {k : Nat} {A : Around} (hr : Room k A) : A.units + 70 < cLine := by have := hr.un; omega
theorem hu64 {k : Nat} {A : Around} (hr : Room k A) : A.units + 64 < cLine := by have := hr.un; omega
/-! ### places -/
theorem atI_of {α : Type} {xs : List α} {k : Int} {n : Nat} {x : α} (e : k = (n : Int)) (h : xs[n]? = some x) : atI xs k = some x := by
  rw [e]; exact atI_nat h
theorem ixN_of {n : Nat} {k : Int} {j : Nat} (e : k = (j : Int)) (h : j < n) : ixN n k = some j := by
  unfold ixN
  rw [if_pos (by omega), if_pos (by omega)]
  congr 1
  omega
end DL

namespace DL
open PySem PySem.Spec PyProof.Rows L2
open PySem.W (Frag)
section
variable {σ σ' : SD} {G : HH} {Q : QD} {E : ED} {wi : TID} {g : TGD} {tb : TSD} {nx bk ct : SD → HH → Prop} {rt : QD} {ex : XD → SD → HH → Prop} {items : List D} {ok : HH → Prop} {tA : TTD}

/-! ### for, by an invariant -/
def ForG (items : List D) (ok : HH → Prop) (g : TGD) (tb : TSD) (nx : SD → HH → Prop) (rt : QD) (ex : XD → SD → HH → Prop) (σ : SD) (G : HH) : Prop := ∃ Iv : List D → SD → HH → Prop, Iv [] σ G ∧ (∀ pre σ G, Iv pre σ G → ok G) ∧
  (∀ pre x post σ G, items = pre ++ x :: post → Iv pre σ G → g x σ G (fun σ2 G2 => tb ⟨Iv (pre ++ [x]), rt, nx, Iv (pre ++ [x]), ex⟩ σ2 G2)) ∧ (∀ σ G, Iv items σ G → nx σ G)
theorem st_for (h : wi σ G (fun items ok G1 => ForG items ok g tb nx rt ex σ G1) (fun x G1 => ex x σ G1)) : dFor wi g tb ⟨nx, rt, bk, ct, ex⟩ σ G := h
/-- over items that are known, told by a list -/
theorem for_map {α : Type} {xs : List α} {c : α → D} (Iv : List α → SD → HH → Prop) (hok : ∀ pre σ G, Iv pre σ G → ok G) (h0 : Iv [] σ G)
    (hs : ∀ pre a post σ G, xs = pre ++ a :: post → Iv pre σ G → g (c a) σ G (fun σ2 G2 => tb ⟨Iv (pre ++ [a]), rt, nx, Iv (pre ++ [a]), ex⟩ σ2 G2)) (he : ∀ σ G, Iv xs σ G → nx σ G) : ForG (xs.map c) ok g tb nx rt ex σ G := by
  refine ⟨fun pre σ G => Iv (xs.take pre.length) σ G, by simpa using h0, fun pre σ G h => hok _ σ G h, fun pre x post σ G e iv => ?_, fun σ G iv => he σ G (by simpa using iv)⟩
  have hl : pre.length < xs.length := by
    have := congrArg List.length e
    simp at this
    omega
  have hx : xs[pre.length]? = some xs[pre.length] := List.getElem?_eq_getElem hl
  have e2 : x = c xs[pre.length] := by
    have : (xs.map c)[pre.length]? = some x := by rw [e]; simp
    rw [List.getElem?_map, hx] at this
    exact (Option.some.inj this).symm
  have hsp := split_at hx
  have tk := take_snoc hx
  subst e2
  have := hs _ _ _ σ G hsp iv
  have e3 : xs.take (pre ++ [c xs[pre.length]]).length = xs.take pre.length ++ [xs[pre.length]] := by
    rw [← tk]; simp
  have e4 : (fun σ G => Iv (xs.take (pre ++ [c xs[pre.length]]).length) σ G) = Iv (xs.take pre.length ++ [xs[pre.length]]) := by
    rw [e3]
  dsimp only
  have e5 : (fun σ G => Iv (xs.take (pre ++ [c xs[pre.length]]).length) σ G) = Iv (xs.take (pre ++ [c xs[pre.length]]).length) := rfl
  rw [e5] at e4
  rw [e4]
  exact this
/-- over a range -/
theorem for_rng {lo : Int} {n : Nat} (Iv : Nat → SD → HH → Prop) (h0 : Iv 0 σ G)
    (hs : ∀ (i : Nat) σ G, i < n → Iv i σ G → g (.int (lo + (i : Int))) σ G (fun σ2 G2 => tb ⟨Iv (i + 1), rt, nx, Iv (i + 1), ex⟩ σ2 G2)) (he : ∀ σ G, Iv n σ G → nx σ G) : ForG (rgItems lo n) okT g tb nx rt ex σ G := by
  refine for_map (xs := List.range n) (c := fun i : Nat => D.int (lo + (i : Int))) (fun pre σ G => Iv pre.length σ G) (fun _ _ _ _ => trivial) h0 (fun pre a post σ G e iv => ?_) (fun σ G iv => he σ G (by simpa using iv))
  have hl : pre.length < n := by
    have := congrArg List.length e
    simp at this
    omega
  have ea : a = pre.length := by
    have h1 : (List.range n)[pre.length]? = some a := by rw [e]; simp
    rw [List.getElem?_range hl] at h1
    exact (Option.some.inj h1).symm
  subst ea
  simpa using hs pre.length σ G hl iv
/-! ### while, by an invariant and a measure -/
theorem st_while (Iv : SD → HH → Prop) (μ : SD → HH → Nat) (h0 : Iv σ G)
    (hs : ∀ σ G, Iv σ G → tA σ G (fun b G1 => if b = true then tb ⟨fun σ' G' => Iv σ' G' ∧ μ σ' G' < μ σ G, rt, nx, fun σ' G' => Iv σ' G' ∧ μ σ' G' < μ σ G, ex⟩ σ G1 else nx σ G1) (fun x G1 => ex x σ G1)) : dWhile tA tb ⟨nx, rt, bk, ct, ex⟩ σ G := ⟨Iv, μ, h0, hs⟩
/-! ### comprehensions -/
def LcG (fr : Bool) (items : List D) (ok : HH → Prop) (g : Tgt) (tt : TTD) (te : TED) (vs : List Nat) (σ : SD) (G1 : HH) (Q : QD) : Prop := ∀ p, G1 p = none → ∃ Iv : List D → HH → Prop, Iv [] (gput G1 p (.lst [])) ∧ (∀ pre G, Iv pre G → ok G) ∧
  (∀ pre x post G, items = pre ++ x :: post → Iv pre G → ∃ σ2, g.put x (wipeD σ vs) = some σ2 ∧ tt σ2 G (fun b G3 => if b = true then te σ2 G3 (fun y G4 => ∃ acc, G4 p = some (.lst acc) ∧ acc.length < sizeLine ∧ Iv (pre ++ [x]) (gput G4 p (.lst (acc ++ [y])))) (fun _ _ => False) else Iv (pre ++ [x]) G3) (fun _ _ => False)) ∧
  (∀ G, Iv items G → ∃ acc, G p = some (.lst acc) ∧ (if fr = true then Q (.lst acc) (gdel G p) else Q (.ref p) G))
theorem st_lc {fr : Bool} {g : Tgt} {tt : TTD} {te : TED} {vs : List Nat} (h : wi σ G (fun items ok G1 => LcG fr items ok g tt te vs σ G1 Q) E) : dLc fr wi g tt te vs σ G Q E := h
theorem gdel_gput {G : HH} {p : Addr} {o : HOD} (h : G p = none) : gdel (gput G p o) p = G := by
  funext b
  by_cases hb : b = p
  · subst hb; rw [gdel_same, h]
  · rw [gdel_ne hb, gput_ne hb]
/-- what okL asks beside a new object -/
theorem ok_put {x : D} {xs : List D} {p : Addr} {o : HOD} (hp : G p = none) (h : LsW G x xs) : LsW (gput G p o) x xs := by
  cases h with
  | lst => exact .lst _
  | wls => exact .wls _
  | ref e => exact .ref (by rw [gput_ne (fun z => by rw [z, hp] at e; cases e)]; exact e)
/-- each element by itself, nothing changes: items told by xs, kept where k says, f what comes -/
theorem lc_pure {α : Type} {xs : List α} {c : α → D} {g : Tgt} {tt : TTD} {te : TED} {vs : List Nat} (k : α → Bool) (f : α → D) (hok : ∀ p acc, G p = none → ok (gput G p (.lst acc))) (hl : xs.length ≤ sizeLine)
    (hs : ∀ a, a ∈ xs → ∀ p acc, G p = none → ∃ σ2, g.put (c a) (wipeD σ vs) = some σ2 ∧ ∀ QT : Bool → HH → Prop, QT (k a) (gput G p (.lst acc)) → tt σ2 (gput G p (.lst acc)) QT (fun _ _ => False))
    (he : ∀ a, a ∈ xs → k a = true → ∀ p acc, G p = none → ∀ σ2, g.put (c a) (wipeD σ vs) = some σ2 → ∀ Q' : QD, Q' (f a) (gput G p (.lst acc)) → te σ2 (gput G p (.lst acc)) Q' (fun _ _ => False))
    (hq : Q (.lst ((xs.filter k).map f)) G) : LcG true (xs.map c) ok g tt te vs σ G Q := by
  intro p hp
  refine ⟨fun pre G' => G' = gput G p (.lst (((xs.take pre.length).filter k).map f)), by simp, fun pre G' h => by rw [h]; exact hok p _ hp, fun pre x post G' e iv => ?_, fun G' iv => ?_⟩
  · subst iv
    have hlt : pre.length < xs.length := by
      have := congrArg List.length e
      simp at this
      omega
    have hx : xs[pre.length]? = some xs[pre.length] := List.getElem?_eq_getElem hlt
    have e2 : x = c xs[pre.length] := by
      have : (xs.map c)[pre.length]? = some x := by rw [e]; simp
      rw [List.getElem?_map, hx] at this
      exact (Option.some.inj this).symm
    subst e2
    have hm : xs[pre.length] ∈ xs := List.getElem_mem hlt
    obtain ⟨σ2, h1, h2⟩ := hs _ hm p (((xs.take pre.length).filter k).map f) hp
    refine ⟨σ2, h1, h2 _ ?_⟩
    have tk : xs.take (pre ++ [c xs[pre.length]]).length = xs.take pre.length ++ [xs[pre.length]] := by
      have := take_snoc hx
      simpa using this
    cases ek : k xs[pre.length] with
    | true =>
      rw [if_pos rfl]
      refine he _ hm ek p _ hp σ2 h1 _ ⟨_, gput_same, ?_, ?_⟩
      · have a1 := List.length_filter_le k (xs.take pre.length)
        rw [List.length_map]
        rw [List.length_take] at a1
        omega
      · dsimp only
        rw [gput_gput, tk, List.filter_append, List.map_append]
        simp [ek]
    | false =>
      rw [if_neg Bool.false_ne_true]
      dsimp only
      rw [tk, List.filter_append, List.map_append]
      simp [ek]
  · subst iv
    refine ⟨_, gput_same, ?_⟩
    rw [if_pos rfl, gdel_gput hp]
    simpa using hq
/-- .. without a test -/
theorem lc_map {α : Type} {xs : List α} {c : α → D} {g : Tgt} {te : TED} {vs : List Nat} (f : α → D) (hok : ∀ p acc, G p = none → ok (gput G p (.lst acc))) (hl : xs.length ≤ sizeLine)
    (he : ∀ a, a ∈ xs → ∀ p acc, G p = none → ∃ σ2, g.put (c a) (wipeD σ vs) = some σ2 ∧ ∀ Q' : QD, Q' (f a) (gput G p (.lst acc)) → te σ2 (gput G p (.lst acc)) Q' (fun _ _ => False))
    (hq : Q (.lst (xs.map f)) G) : LcG true (xs.map c) ok g dYes te vs σ G Q := by
  refine lc_pure (fun _ => true) f hok hl (fun a ha p acc hp => ?_) (fun a ha _ p acc hp σ2 e2 Q' q => ?_) (by rw [List.filter_eq_self.mpr (by simp)]; exact hq)
  · obtain ⟨σ2, h1, _⟩ := he a ha p acc hp
    exact ⟨σ2, h1, fun QT q => q⟩
  · obtain ⟨σ3, h1, h2⟩ := he a ha p acc hp
    rw [e2] at h1
    cases h1
    exact h2 Q' q
/-- the second part of an and: what it comes to where it is asked -/
theorem st_andP {tB : TTD} {QT : Bool → HH → Prop} {c k : Bool} (h1 : c = true → ∀ QT' : Bool → HH → Prop, QT' k G → tB σ G QT' E) (h : QT (c && k) G) : if c = true then tB σ G QT E else QT false G := by
  cases c
  · rw [if_neg Bool.false_ne_true]; exact h
  · exact h1 rfl QT h
theorem st_orP {tB : TTD} {QT : Bool → HH → Prop} {c k : Bool} (h1 : c = false → ∀ QT' : Bool → HH → Prop, QT' k G → tB σ G QT' E) (h : QT (c || k) G) : if c = true then QT true G else tB σ G QT E := by
  cases c
  · rw [if_neg Bool.false_ne_true]; exact h1 rfl QT h
  · exact h
end
end DL

namespace DL
open PySem PySem.Spec PyProof.Rows L2
open PySem.W (Frag)
variable {X : Cx} {W : WX} {e f i o a b c value : Expr} {es : List Expr} {ta tb tc td ty tx tv to : TED} {t u : TAD} {tA tB' : TTD} {pos pos' apos cpos : Pos}

/-! ### dicts: keys are ints and texts, or tuples of them -/
section
variable {κ : Type} [DecidableEq κ]
def kget (kvs : List (κ × D)) (k : κ) : Option D := (kvs.find? fun kv => decide (kv.1 = k)).map (·.2)
def kput (kvs : List (κ × D)) (k : κ) (v : D) : List (κ × D) := if (kvs.any fun kv => decide (kv.1 = k)) = true then kvs.map (fun kv => if kv.1 = k then (kv.1, v) else kv) else kvs ++ [(k, v)]
/-- the same keys, values alike -/
def KRp (K : Frag) (H : Hp) (G : HH) (kvs : List (κ × D)) (xs : List (κ × V)) : Prop := kvs.map (·.1) = xs.map (·.1) ∧ Rps K H G (kvs.map (·.2)) (xs.map (·.2))
theorem KRp.nil {K H G} : KRp K H G ([] : List (κ × D)) [] := ⟨rfl, .nil⟩
theorem KRp.get {K H G} {k : κ} : ∀ {kvs : List (κ × D)} {xs : List (κ × V)}, KRp K H G kvs xs → (kget kvs k = none ∧ valV xs k = none) ∨ ∃ d v, kget kvs k = some d ∧ valV xs k = some v ∧ Rp K H G d v
  | [], [], _ => .inl ⟨rfl, rfl⟩
  | [], _ :: _, ⟨e, _⟩ => by simp at e
  | _ :: _, [], ⟨e, _⟩ => by simp at e
  | (k1, d) :: kvs, (k2, v) :: xs, ⟨e, r⟩ => by
    simp only [List.map_cons, List.cons.injEq] at e
    obtain ⟨e1, e2⟩ := e
    subst e1
    cases r with
    | cons r1 r2 =>
      by_cases hk : k1 = k
      · exact .inr ⟨d, v, by simp [kget, hk], by simp [valV, hk], r1⟩
      · have ih := KRp.get (k := k) (kvs := kvs) (xs := xs) ⟨e2, r2⟩
        have a1 : kget ((k1, d) :: kvs) k = kget kvs k := by simp [kget, List.find?_cons, hk]
        have a2 : valV ((k1, v) :: xs) k = valV xs k := by simp [valV, List.find?_cons, hk]
        rw [a1, a2]
        exact ih
theorem KRp.any {K H G} {k : κ} {kvs : List (κ × D)} {xs : List (κ × V)} (h : KRp K H G kvs xs) : (kvs.any fun kv => decide (kv.1 = k)) = xs.any fun kv => decide (kv.1 = k) := by
  have e := h.1
  have a1 : (kvs.any fun kv => decide (kv.1 = k)) = (kvs.map (·.1)).any fun z => decide (z = k) := by rw [List.any_map]; rfl
  have a2 : (xs.any fun kv => decide (kv.1 = k)) = (xs.map (·.1)).any fun z => decide (z = k) := by rw [List.any_map]; rfl
  rw [a1, a2, e]
theorem KRp.repl {K H G} {k : κ} {d : D} {v : V} (r : Rp K H G d v) : ∀ {kvs : List (κ × D)} {xs : List (κ × V)}, KRp K H G kvs xs → KRp K H G (kvs.map (fun kv => if kv.1 = k then (kv.1, d) else kv)) (xs.map (fun kv => if kv.1 = k then (kv.1, v) else kv))
  | [], [], _ => .nil
  | [], _ :: _, ⟨e, _⟩ => by simp at e
  | _ :: _, [], ⟨e, _⟩ => by simp at e
  | (k1, d1) :: kvs, (k2, v1) :: xs, ⟨e, q⟩ => by
    simp only [List.map_cons, List.cons.injEq] at e
    obtain ⟨e1, e2⟩ := e
    subst e1
    cases q with
    | cons r1 r2 =>
      obtain ⟨b1, b2⟩ := KRp.repl (k := k) r (kvs := kvs) (xs := xs) ⟨e2, r2⟩
      by_cases hk : k1 = k
      · simp only [List.map_cons, hk, if_true]
        exact ⟨by simp [b1], .cons r b2⟩
      · simp only [List.map_cons, hk, if_false]
        exact ⟨by simp [b1], .cons r1 b2⟩
theorem KRp.put {K H G} {k : κ} {d : D} {v : V} {kvs : List (κ × D)} {xs : List (κ × V)} (h : KRp K H G kvs xs) (r : Rp K H G d v) : KRp K H G (kput kvs k d) (putK xs k v) := by
  unfold kput putK
  rw [h.any]
  split
  · exact h.repl r
  · exact ⟨by simp [h.1], by rw [List.map_append, List.map_append]; exact h.2.append (.cons r .nil)⟩
theorem KRp.mono {K H G H' G'} {kvs : List (κ × D)} {xs : List (κ × V)} (s : Stp H G H' G') (h : KRp K H G kvs xs) : KRp K H' G' kvs xs := ⟨h.1, h.2.mono s⟩
theorem KRp.length {K H G} {kvs : List (κ × D)} {xs : List (κ × V)} (h : KRp K H G kvs xs) : kvs.length = xs.length := by
  have := congrArg List.length h.1
  simpa using this
theorem kget_cons {p : κ × D} {r : List (κ × D)} {j : κ} : kget (p :: r) j = if p.1 = j then some p.2 else kget r j := by
  by_cases h : p.1 = j <;> simp [kget, List.find?_cons, h]
theorem kget_any (k : κ) : ∀ kvs : List (κ × D), (kvs.any fun kv => decide (kv.1 = k)) = (kget kvs k).isSome
  | [] => rfl
  | p :: r => by
    rw [kget_cons, List.any_cons, kget_any k r]
    by_cases h : p.1 = k <;> simp [h]
theorem kget_map (k j : κ) (y : D) : ∀ kvs : List (κ × D), kget (kvs.map fun kv => if kv.1 = k then (kv.1, y) else kv) j = (kget kvs j).map fun x => if j = k then y else x
  | [] => rfl
  | p :: r => by
    have e : (if p.1 = k then (p.1, y) else p).1 = p.1 := by split <;> rfl
    rw [List.map_cons, kget_cons, kget_cons, kget_map k j y r, e]
    by_cases h : p.1 = j
    · subst h
      by_cases hk : p.1 = k <;> simp [hk]
    · simp [h]
theorem kget_snoc (k j : κ) (y : D) : ∀ kvs : List (κ × D), kget kvs k = none → kget (kvs ++ [(k, y)]) j = if j = k then some y else kget kvs j
  | [], _ => by
    rw [List.nil_append, kget_cons]
    by_cases h : k = j
    · subst h; simp
    · have h' : ¬ j = k := fun z => h z.symm
      simp [h, h']
  | p :: r, e => by
    rw [kget_cons] at e
    by_cases hp : p.1 = k
    · rw [if_pos hp] at e; cases e
    · rw [if_neg hp] at e
      rw [List.cons_append, kget_cons, kget_snoc k j y r e, kget_cons]
      by_cases h : p.1 = j
      · subst h
        simp [hp]
      · simp [h]
theorem kget_put (kvs : List (κ × D)) (k j : κ) (y : D) : kget (kput kvs k y) j = if j = k then some y else kget kvs j := by
  unfold kput
  rw [kget_any]
  cases e : kget kvs k with
  | none => simp only [Option.isSome_none, Bool.false_eq_true, if_false]; exact kget_snoc k j y kvs e
  | some v =>
    simp only [Option.isSome_some, if_true]
    rw [kget_map]
    by_cases h : j = k
    · subst h; rw [e]; simp
    · simp [h]
theorem length_kput (kvs : List (κ × D)) (k : κ) (v : D) : (kput kvs k v).length ≤ kvs.length + 1 := by
  unfold kput
  split <;> simp
theorem keys_kput (kvs : List (κ × D)) (k : κ) (v : D) : (kput kvs k v).map (·.1) = if (kget kvs k).isSome = true then kvs.map (·.1) else kvs.map (·.1) ++ [k] := by
  unfold kput
  rw [kget_any]
  split
  · rw [List.map_map]
    refine List.map_congr_left fun a _ => ?_
    dsimp only [Function.comp]
    split <;> rfl
  · simp
end
/-- the key that a scalar is -/
def dkey : D → Option Key
  | .int i => some (.inl i)
  | .str x => some (.inr x)
  | _ => none
theorem dkey_of {K H G d v k} (p : Rp K H G d v) (h : dkey d = some k) : v = kV k := by
  cases p <;> simp [dkey] at h <;> subst h <;> rfl
/-- what a dict at x says of the key y -/
def DAt (G : HH) (x y : D) (r : Option D) : Prop := ∃ p kvs k, x = .ref p ∧ G p = some (.dK kvs) ∧ dkey y = some k ∧ r = kget kvs k
theorem DAt.of {K H G x y r vx vy} (h : DAt G x y r) (hR : RelH K H G) (px : Rp K H G x vx) (py : Rp K H G y vy) : ∃ a o, vx = .ref a ∧ DGet H a vy o ∧ ((r = none ∧ o = none) ∨ ∃ d v, r = some d ∧ o = some v ∧ Rp K H G d v) := by
  obtain ⟨p, kvs, k, e1, e2, e3, e4⟩ := h
  subst e1; cases px
  obtain ⟨xs, h1, h2⟩ := hR _ _ e2
  rw [dkey_of py e3]
  exact ⟨p, _, rfl, DGet.k h1, by rw [e4]; exact KRp.get (k := k) h2⟩
def dDGet (td ty : TED) : TED := fun σ G Q E => td σ G (fun x G1 => ty σ G1 (fun y G2 => ∃ v, DAt G2 x y (some v) ∧ Q v G2) E) E
theorem de_dget (hu : X.A.units + 1 < cLine) (ho : DE X W o td) (hi : DE X W i ty) (hs : NoSl i := by exact fun _ _ => rfl) : DE X W (.Subscript o i pos) (dDGet td ty) :=
  PE.imp (pe_dget hu ho hi hs) fun σ H Q ⟨σD, G, QD, E, hR, hS, q, hq, hE⟩ => by
    refine ⟨σD, G, _, E, hR, hS, q, fun v1 H1 d1 G1 s1 r1 p1 q1 => ?_, hE⟩
    refine ⟨σD, G1, _, E, r1, hS.mono s1, q1, fun v2 H2 d2 G2 s2 r2 p2 ⟨v, hd, q2⟩ => ?_, hE.mono s1⟩
    obtain ⟨a, o, e1, g, z⟩ := hd.of r2 (p1.mono s2) p2
    rcases z with ⟨z, _⟩ | ⟨d, w, e2, e3, pw⟩
    · cases z
    · cases e2; subst e3
      exact ⟨a, w, e1, g, hq _ _ _ _ (s1.trans s2) r2 pw q2⟩
def dDIn (neg : Bool) (ty td : TED) : TED := fun σ G Q E => ty σ G (fun y G1 => td σ G1 (fun x G2 => ∃ r, DAt G2 x y r ∧ Q (.bl (if neg then !r.isSome else r.isSome)) G2) E) E
theorem dAt_some {K H G r} {o : Option V} (z : (r = none ∧ o = none) ∨ ∃ (d : D) (v : V), r = some d ∧ o = some v ∧ Rp K H G d v) : o.isSome = r.isSome := by
  rcases z with ⟨rfl, rfl⟩ | ⟨d, v, rfl, rfl, _⟩ <;> rfl
theorem pc_din' (hu : X.A.units + 1 < cLine) (hi : DE X W i ty) (ho : DE X W o td) : PC X .In i o (lft X.K W (dDIn false ty td)) := by
  have h := pc_din hu hi ho
  refine ⟨fun pins s σ H Q I ⟨σD, G, QD, E, hR, hS, q, hq, hE⟩ => h.run pins s σ H Q I ?_⟩
  refine ⟨σD, G, _, E, hR, hS, q, fun v1 H1 d1 G1 s1 r1 p1 q1 => ?_, hE⟩
  refine ⟨σD, G1, _, E, r1, hS.mono s1, q1, fun v2 H2 d2 G2 s2 r2 p2 ⟨r, hd, q2⟩ => ?_, hE.mono s1⟩
  obtain ⟨a, o, e1, g, z⟩ := hd.of r2 p2 (p1.mono s2)
  refine ⟨a, o, e1, g, ?_⟩
  rw [dAt_some z]
  exact hq _ _ _ _ (s1.trans s2) r2 (.bl _) q2
theorem pc_dnotin' (hu : X.A.units + 1 < cLine) (hi : DE X W i ty) (ho : DE X W o td) : PC X .NotIn i o (lft X.K W (dDIn true ty td)) := by
  have h := pc_dnotin hu hi ho
  refine ⟨fun pins s σ H Q I ⟨σD, G, QD, E, hR, hS, q, hq, hE⟩ => h.run pins s σ H Q I ?_⟩
  refine ⟨σD, G, _, E, hR, hS, q, fun v1 H1 d1 G1 s1 r1 p1 q1 => ?_, hE⟩
  refine ⟨σD, G1, _, E, r1, hS.mono s1, q1, fun v2 H2 d2 G2 s2 r2 p2 ⟨r, hd, q2⟩ => ?_, hE.mono s1⟩
  obtain ⟨a, o, e1, g, z⟩ := hd.of r2 p2 (p1.mono s2)
  refine ⟨a, o, e1, g, ?_⟩
  rw [dAt_some z]
  exact hq _ _ _ _ (s1.trans s2) r2 (.bl _) q2
theorem de_din (hu : X.A.units + 1 < cLine) (hi : DE X W i ty) (ho : DE X W o td) (h1 : behindInMarks .In o = false := by rfl) : DE X W (.Compare i [.In] [o] pos) (dDIn false ty td) := pe_cmp (pc_din' hu hi ho) h1
theorem de_dnotin (hu : X.A.units + 1 < cLine) (hi : DE X W i ty) (ho : DE X W o td) (h1 : behindInMarks .NotIn o = false := by rfl) : DE X W (.Compare i [.NotIn] [o] pos) (dDIn true ty td) := pe_cmp (pc_dnotin' hu hi ho) h1
theorem dt_din (hu : X.A.units + 1 < cLine) (hi : DE X W i ty) (ho : DE X W o td) (h1 : behindInMarks .In o = false := by rfl) : DT X W (.Compare i [.In] [o] pos) (dTest (dDIn false ty td)) := PT.imp (pt_cmp (pc_din' hu hi ho) h1) (lft_test fun σ H Q h => h)
theorem dt_dnotin (hu : X.A.units + 1 < cLine) (hi : DE X W i ty) (ho : DE X W o td) (h1 : behindInMarks .NotIn o = false := by rfl) : DT X W (.Compare i [.NotIn] [o] pos) (dTest (dDIn true ty td)) := PT.imp (pt_cmp (pc_dnotin' hu hi ho) h1) (lft_test fun σ H Q h => h)
/-- d.get(k), d.get(k, x) -/
def IsDD (G : HH) (x : D) : Prop := ∃ p kvs, x = .ref p ∧ G p = some (.dK kvs)
theorem IsDD.of {K H G x v} (h : IsDD G x) (hR : RelH K H G) (px : Rp K H G x v) : ∃ a, v = .ref a ∧ IsD H a := by
  obtain ⟨p, kvs, e1, e2⟩ := h
  subst e1; cases px
  obtain ⟨xs, h1, _⟩ := hR _ _ e2
  exact ⟨p, rfl, .inl ⟨xs, .inl h1⟩⟩
def dDGet1 (td ty : TED) : TED := fun σ G Q E => td σ G (fun x G1 => IsDD G1 x ∧ ty σ G1 (fun y G2 => ∃ r, DAt G2 x y r ∧ Q (r.getD .non) G2) E) E
def dDGet2 (td ty tx : TED) : TED := fun σ G Q E => td σ G (fun x G1 => IsDD G1 x ∧ ty σ G1 (fun y G2 => tx σ G2 (fun z G3 => ∃ r, DAt G3 x y r ∧ Q (r.getD z) G3) E) E) E
theorem dAt_getD {K H G r w z} {o : Option V} (h : (r = none ∧ o = none) ∨ ∃ (d : D) (v : V), r = some d ∧ o = some v ∧ Rp K H G d v) (pz : Rp K H G z w) : Rp K H G (r.getD z) (o.getD w) := by
  rcases h with ⟨rfl, rfl⟩ | ⟨d, v, rfl, rfl, p⟩
  · exact pz
  · exact p
theorem de_dget1 (hu : X.A.units + 1 < cLine) (ho : DE X W o td) (he : DE X W e ty) (m : M1 X o "get" apos e cpos) : DE X W (.Call (.Attribute o "get" apos) [e] [] cpos) (dDGet1 td ty) :=
  PE.imp (pe_dget1 hu ho he m) fun σ H Q ⟨σD, G, QD, E, hR, hS, q, hq, hE⟩ => by
    refine ⟨σD, G, _, E, hR, hS, q, fun v1 H1 d1 G1 s1 r1 p1 ⟨hi, q1⟩ => ?_, hE⟩
    obtain ⟨a, e1, hd⟩ := hi.of r1 p1
    refine ⟨a, e1, hd, σD, G1, _, E, r1, hS.mono s1, q1, fun v2 H2 d2 G2 s2 r2 p2 ⟨r, hd, q2⟩ => ?_, hE.mono s1⟩
    obtain ⟨a', o, e2, g, z⟩ := hd.of r2 (p1.mono s2) p2
    have : a' = a := by rw [e1] at e2; cases e2; rfl
    subst this
    exact ⟨o, g, hq _ _ _ _ (s1.trans s2) r2 (dAt_getD z .non) q2⟩
theorem de_dget2 (hu : X.A.units + 1 < cLine) (ho : DE X W o td) (he : DE X W e ty) (hf : DE X W f tx) (m : M2 X o "get" apos e f cpos) : DE X W (.Call (.Attribute o "get" apos) [e, f] [] cpos) (dDGet2 td ty tx) :=
  PE.imp (pe_dget2 hu ho he hf m) fun σ H Q ⟨σD, G, QD, E, hR, hS, q, hq, hE⟩ => by
    refine ⟨σD, G, _, E, hR, hS, q, fun v1 H1 d1 G1 s1 r1 p1 ⟨hi, q1⟩ => ?_, hE⟩
    obtain ⟨a, e1, hd⟩ := hi.of r1 p1
    refine ⟨a, e1, hd, σD, G1, _, E, r1, hS.mono s1, q1, fun v2 H2 d2 G2 s2 r2 p2 q2 => ?_, hE.mono s1⟩
    refine ⟨σD, G2, _, E, r2, hS.mono (s1.trans s2), q2, fun v3 H3 d3 G3 s3 r3 p3 ⟨r, hd, q3⟩ => ?_, hE.mono (s1.trans s2)⟩
    obtain ⟨a', o, e2, g, z⟩ := hd.of r3 (p1.mono (s2.trans s3)) (p2.mono s3)
    have : a' = a := by rw [e1] at e2; cases e2; rfl
    subst this
    exact ⟨o, g, hq _ _ _ _ ((s1.trans s2).trans s3) r3 (dAt_getD z p3) q3⟩
/-- {} -/
def dDNew : TED := fun _ G Q _ => ∀ p, G p = none → Q (.ref p) (gput G p (.dK []))
theorem de_dnew : DE X W (.Dict [] [] pos) dDNew := PE.imp pe_dnewK fun σ H Q ⟨σD, G, QD, E, hR, hS, q, hq, hE⟩ => fun p hp =>
  hq _ _ _ _ (Stp.newM (od := .dK []) hp) (hR.newM (od := .dK []) hp ⟨[], upd_same, rfl, .nil⟩) (.ref p) (q p (hR.free hp))
/-- d[k] = v -/
def dDPut (td ty tv : TED) : TSD := fun D σ G => tv σ G (fun v G1 => td σ G1 (fun x G2 => ty σ G2 (fun y G3 => ∃ p kvs k, x = .ref p ∧ G3 p = some (.dK kvs) ∧ dkey y = some k ∧ kvs.length < sizeLine ∧ D.nx σ (gput G3 p (.dK (kput kvs k v)))) (fun x G' => D.ex x σ G')) (fun x G' => D.ex x σ G')) (fun x G' => D.ex x σ G')
theorem ds_dput (hu : X.A.units + 1 < cLine) (ho : DE X W o td) (hi : DE X W i ty) (hv : DE X W value tv) (hs : swapsWith value (some (.Subscript o i pos')) pos.line X.env = pure false := by rfl) : DS X W (.Assign [.Subscript o i pos'] value pos) (dDPut td ty tv) :=
  PS.imp (ps_dput hu ho hi hv hs) fun D σ H ⟨σD, G, DD, hR, hS, q, he⟩ => by
    refine ⟨σD, G, _, _, hR, hS, q, fun v1 H1 d1 G1 s1 r1 p1 q1 => ?_, he.ex.at hS⟩
    refine ⟨σD, G1, _, _, r1, hS.mono s1, q1, fun v2 H2 d2 G2 s2 r2 p2 q2 => ?_, (he.ex.at hS).mono s1⟩
    refine ⟨σD, G2, _, _, r2, hS.mono (s1.trans s2), q2, fun v3 H3 d3 G3 s3 r3 p3 q3 => ?_, (he.ex.at hS).mono (s1.trans s2)⟩
    obtain ⟨p, kvs, k, e1, e2, e3, l, z⟩ := q3
    have p2' := p2.mono s3
    subst e1; cases p2'
    obtain ⟨xs, h1, h2⟩ := r3 _ _ e2
    have h2 : KRp X.K H3 G3 kvs xs := h2
    have s4 := Stp.put (H := H3) (o := .dK (putK xs k v1)) (od := .dK (kput kvs k d1)) e2
    refine ⟨p, _, rfl, ?_, he.nx _ _ _ _ (((s1.trans s2).trans s3).trans s4) (r3.put e2 ⟨_, upd_same, ?_⟩) (hS.mono (((s1.trans s2).trans s3).trans s4)) z⟩
    · rw [dkey_of p3 e3]
      exact DPut.k h1 (by rw [← h2.length]; exact l)
    · exact (h2.mono s4).put (p1.mono ((s2.trans s3).trans s4))
/-- a, b, c = x, y, z -/
def dPar3 (i j l : Nat) (t : TAD) : TSD := fun D σ G => t σ G (fun ds G1 => ∃ d e f, ds = [d, e, f] ∧ D.nx (((σ.set i (some d)).set j (some e)).set l (some f)) G1) (fun x G1 => D.ex x σ G1)
theorem rps3 {K H G d e f xs} (h : Rps K H G [d, e, f] xs) : ∃ v w u, xs = [v, w, u] ∧ Rp K H G d v ∧ Rp K H G e w ∧ Rp K H G f u := by
  cases h with | cons a r => obtain ⟨w, u, rfl, b, c⟩ := rps2 r; exact ⟨_, w, u, rfl, a, b, c⟩
theorem ds_par3 {i j l : Nat} {x y z : Str} {px py pz pt : Pos} {kt k2 pt2} (hc : X.calm = true) (hN : X.N.Nodup) (hi : X.N[i]? = some x) (hj : X.N[j]? = some y) (hl : X.N[l]? = some z) (hij : i ≠ j) (hil : i ≠ l) (hjl : j ≠ l)
    (hx : X.env.scope.names.lookup x = some .local) (hy : X.env.scope.names.lookup y = some .local) (hz : X.env.scope.names.lookup z = some .local) (ha : DA X W [a, b, c] t)
    (hw : swappedStores [.Tuple [.Name x px, .Name y py, .Name z pz] kt pt] (.Tuple [a, b, c] k2 pt2) X.env = pure (some [x, y, z]))
    (hs : swapsWithSole [.Tuple [.Name x px, .Name y py, .Name z pz] kt pt] (.Tuple [a, b, c] k2 pt2) pos.line X.env = pure false := by rfl) :
    DS X W (.Assign [.Tuple [.Name x px, .Name y py, .Name z pz] kt pt] (.Tuple [a, b, c] k2 pt2) pos) (dPar3 i j l t) := PS.imp (ps_par3 hc hN hi hj hl hij hil hjl hx hy hz ha hw hs) fun D σ H ⟨σD, G, DD, hR, hS, q, he⟩ =>
  ⟨σD, G, _, _, hR, hS, q, fun vs H1 ds G1 s r p ⟨d, e, f, e1, z⟩ => by
    subst e1
    obtain ⟨v, w, u, rfl, p1, p2, p3⟩ := rps3 p
    exact ⟨v, w, u, rfl, he.nx _ _ _ _ s r ((((hS.mono s).set i p1).set j p2).set l p3) z⟩, he.ex.at hS⟩
/-- xs + ys, a list that may change -/
def aLstM : D → D → HH → QD → Prop := fun x y G Q => ∃ xs ys, Ls G x xs ∧ Ls G y ys ∧ xs.length + ys.length ≤ sizeLine ∧ ∀ p, G p = none → Q (.ref p) (gput G p (.lst (xs ++ ys)))
theorem oAddLstM : OpD X (binaryOp .Add) aLstM := ⟨_, op_cat, fun x y H Q dx dy G QD hR px py ⟨xs, ys, e1, e2, l, q⟩ hq => by
  obtain ⟨a, vs, rfl, ha, ra⟩ := e1.of hR px
  obtain ⟨b, us, rfl, hb, rb⟩ := e2.of hR py
  exact ⟨_, _, _, _, rfl, rfl, ha, hb, by rw [← ra.length, ← rb.length]; exact l, fun p hp => hq _ _ _ _ (Stp.newM (od := .lst (xs ++ ys)) hp) (hR.newM (od := .lst (xs ++ ys)) hp ⟨vs ++ us, upd_same, (ra.append rb).mono (Stp.newM hp)⟩) (.ref p) (q p (hR.free hp))⟩⟩
/-- [x] * n, a list that may change -/
def mRepM : D → D → HH → QD → Prop := fun x y G Q => ∃ xs k, Ls G x xs ∧ y = .int k ∧ -(2 ^ 63) ≤ k ∧ k < 2 ^ 63 ∧ xs.length * k.toNat ≤ sizeLine ∧ ∀ p, G p = none → Q (.ref p) (gput G p (.lst (List.replicate k.toNat xs).flatten))
theorem oRepM : OpD X (binaryOp .Mult) mRepM := ⟨_, op_rep, fun x y H Q dx dy G QD hR px py ⟨xs, k, e1, e2, h1, h2, l, q⟩ hq => by
  obtain ⟨a, vs, rfl, ha, ra⟩ := e1.of hR px
  subst e2; cases py
  exact ⟨_, _, _, rfl, rfl, ha, h1, h2, by rw [← ra.length]; exact l, fun p hp => hq _ _ _ _ (Stp.newM (od := .lst (List.replicate k.toNat xs).flatten) hp) (hR.newM (od := .lst (List.replicate k.toNat xs).flatten) hp ⟨_, upd_same, (ra.rep _).mono (Stp.newM hp)⟩) (.ref p) (q p (hR.free hp))⟩⟩
/-! ### steps -/
section
variable {σ σ' : SD} {G : HH} {Q : QD} {E : ED} {d x y z : D} {ta tb : TED} {nx bk ct : SD → HH → Prop} {rt : QD} {ex : XD → SD → HH → Prop} {N : SD → HH → Prop} {p : Addr} {kvs : List (Key × D)} {k : Key} {v : D}
theorem st_addLM {xs ys : List D} (h1 : Ls G x xs) (h2 : Ls G y ys) (hl : xs.length + ys.length ≤ sizeLine) (h : ∀ p, G p = none → Q (.ref p) (gput G p (.lst (xs ++ ys)))) : aLstM x y G Q := ⟨xs, ys, h1, h2, hl, h⟩
theorem st_repM {xs : List D} {k : Int} (h1 : Ls G x xs) (hk : -(2 ^ 63) ≤ k ∧ k < 2 ^ 63) (hl : xs.length * k.toNat ≤ sizeLine) (h : ∀ p, G p = none → Q (.ref p) (gput G p (.lst (List.replicate k.toNat xs).flatten))) : mRepM x (.int k) G Q := ⟨xs, k, h1, rfl, hk.1, hk.2, hl, h⟩
theorem st_dget (h : td σ G (fun x G1 => ty σ G1 (fun y G2 => ∃ v, DAt G2 x y (some v) ∧ Q v G2) E) E) : dDGet td ty σ G Q E := h
theorem st_dgetq {P : D → Prop} (hp : G p = some (.dK kvs)) (hk : dkey y = some k) (hv : kget kvs k = some v) (h : P v) : ∃ v, DAt G (.ref p) y (some v) ∧ P v := ⟨v, ⟨p, kvs, k, rfl, hp, hk, hv.symm⟩, h⟩
theorem st_din {neg : Bool} (h : ty σ G (fun y G1 => td σ G1 (fun x G2 => ∃ r, DAt G2 x y r ∧ Q (.bl (if neg then !r.isSome else r.isSome)) G2) E) E) : dDIn neg ty td σ G Q E := h
theorem st_dinq {P : Option D → Prop} (hp : G p = some (.dK kvs)) (hk : dkey y = some k) (h : P (kget kvs k)) : ∃ r, DAt G (.ref p) y r ∧ P r := ⟨_, ⟨p, kvs, k, rfl, hp, hk, rfl⟩, h⟩
theorem st_dget1 (h : td σ G (fun x G1 => IsDD G1 x ∧ ty σ G1 (fun y G2 => ∃ r, DAt G2 x y r ∧ Q (r.getD .non) G2) E) E) : dDGet1 td ty σ G Q E := h
theorem st_dget2 (h : td σ G (fun x G1 => IsDD G1 x ∧ ty σ G1 (fun y G2 => tx σ G2 (fun z G3 => ∃ r, DAt G3 x y r ∧ Q (r.getD z) G3) E) E) E) : dDGet2 td ty tx σ G Q E := h
theorem st_isDD {P : Prop} (hp : G p = some (.dK kvs)) (h : P) : IsDD G (.ref p) ∧ P := ⟨⟨p, kvs, rfl, hp⟩, h⟩
theorem st_dnew (h : ∀ p, G p = none → Q (.ref p) (gput G p (.dK []))) : dDNew σ G Q E := h
theorem st_dput {tv : TED} (h : tv σ G (fun v G1 => td σ G1 (fun x G2 => ty σ G2 (fun y G3 => ∃ p kvs k, x = .ref p ∧ G3 p = some (.dK kvs) ∧ dkey y = some k ∧ kvs.length < sizeLine ∧ nx σ (gput G3 p (.dK (kput kvs k v)))) (fun x G' => ex x σ G')) (fun x G' => ex x σ G')) (fun x G' => ex x σ G')) : dDPut td ty tv ⟨nx, rt, bk, ct, ex⟩ σ G := h
theorem st_dputq {P : HH → Prop} (hp : G p = some (.dK kvs)) (hk : dkey y = some k) (hl : kvs.length < sizeLine) (h : P (gput G p (.dK (kput kvs k v)))) : ∃ p' kvs' k', D.ref p = .ref p' ∧ G p' = some (.dK kvs') ∧ dkey y = some k' ∧ kvs'.length < sizeLine ∧ P (gput G p' (.dK (kput kvs' k' v))) := ⟨p, kvs, k, rfl, hp, hk, hl, h⟩
theorem st_par3 {i j l : Nat} {t : TAD} (h : t σ G (fun ds G1 => ∃ d e f, ds = [d, e, f] ∧ nx (((σ.set i (some d)).set j (some e)).set l (some f)) G1) (fun x G1 => ex x σ G1)) : dPar3 i j l t ⟨nx, rt, bk, ct, ex⟩ σ G := h
theorem st_par3q {i j l : Nat} {e f : D} {σ1 σ2 σ3 : SD} (h1 : SetAt σ i d σ1) (h2 : SetAt σ1 j e σ2) (h3 : SetAt σ2 l f σ3) (h : N σ3 G) : ∃ d' e' f', [d, e, f] = [d', e', f'] ∧ N (((σ.set i (some d')).set j (some e')).set l (some f')) G := ⟨d, e, f, rfl, by rw [h1.at, h2.at, h3.at]; exact h⟩
end
end DL

namespace DL
open PySem PySem.Spec PyProof.Rows L2
open PySem.W (Frag)
/-- all but q as it was -/
def But (p : Addr) (G G' : HH) : Prop := ∀ b, b ≠ p → G' b = G b
theorem But.refl {p : Addr} {G : HH} : But p G G := fun _ _ => rfl
theorem But.trans {p : Addr} {G G1 G2 : HH} (a : But p G G1) (b : But p G1 G2) : But p G G2 := fun c h => (b c h).trans (a c h)
theorem But.put {p : Addr} {G G1 : HH} {o : HOD} (a : But p G G1) : But p G (gput G1 p o) := fun c h => (gput_ne h).trans (a c h)
section
variable {σ : SD} {G : HH} {Q : QD} {E : ED}
/-- a comprehension whose elements are drawn (at q), K draws each -/
theorem lc_dr {α : Type} {xs : List α} {c : α → D} {g : Tgt} {te : TED} {vs : List Nat} {ok : HH → Prop} {q : Addr} {N : Nat} (Dr : HH → Nat → Prop) (hat : ∀ {G G' M}, G' q = G q → Dr G M → Dr G' M) (hne : ∀ {G M}, Dr G M → G q ≠ none) (K : Nat) (P : D → Prop)
    (hd : Dr G N) (hok : ∀ G' : HH, (∀ b, b ≠ q → G b ≠ none → G' b = G b) → ok G') (hl : xs.length ≤ sizeLine)
    (he : ∀ a, a ∈ xs → ∀ (G' : HH) (M : Nat), Dr G' M → M + K ≤ N + K * xs.length → (∀ b, b ≠ q → G b ≠ none → G' b = G b) → ∃ σ2, g.put (c a) (wipeD σ vs) = some σ2 ∧
      ∀ Q' : QD, (∀ d G'', P d → Dr G'' (M + K) → But q G' G'' → Q' d G'') → te σ2 G' Q' (fun _ _ => False))
    (hq : ∀ ds G', ds.length = xs.length → (∀ d ∈ ds, P d) → Dr G' (N + K * xs.length) → But q G G' → Q (.lst ds) G') : LcG true (xs.map c) ok g dYes te vs σ G Q := by
  intro p hp
  have hqp : q ≠ p := fun z => hne hd (z ▸ hp)
  refine ⟨fun pre G' => ∃ acc, G' p = some (.lst acc) ∧ acc.length = pre.length ∧ (∀ d ∈ acc, P d) ∧ pre.length ≤ xs.length ∧ Dr G' (N + K * pre.length) ∧ ∀ b, b ≠ q → b ≠ p → G' b = G b, ⟨[], gput_same, rfl, by simp, Nat.zero_le _, hat (gput_ne hqp) hd, fun b _ h => gput_ne h⟩, ?_, ?_, ?_⟩
  · rintro pre G' ⟨acc, h1, h2, h3, h4, h5, h6⟩
    exact hok G' fun b hb hn => h6 b hb fun z => hn (z ▸ hp)
  · rintro pre x post G' e ⟨acc, h1, h2, h3, h4, h5, h6⟩
    have hlt : pre.length < xs.length := by
      have := congrArg List.length e
      simp at this
      omega
    have hx : xs[pre.length]? = some xs[pre.length] := List.getElem?_eq_getElem hlt
    have e2 : x = c xs[pre.length] := by
      have : (xs.map c)[pre.length]? = some x := by rw [e]; simp
      rw [List.getElem?_map, hx] at this
      exact (Option.some.inj this).symm
    subst e2
    have hK : K * (pre.length + 1) ≤ K * xs.length := Nat.mul_le_mul_left _ hlt
    rw [Nat.mul_add, Nat.mul_one] at hK
    obtain ⟨σ2, a1, a2⟩ := he _ (List.getElem_mem hlt) G' _ h5 (by omega) fun b hb hn => h6 b hb fun z => hn (z ▸ hp)
    refine ⟨σ2, a1, ?_⟩
    dsimp only [dYes]
    rw [if_pos rfl]
    refine a2 _ fun d G'' hP hD hB => ⟨acc, by rw [hB p hqp.symm]; exact h1, by omega, acc ++ [d], gput_same, by simp [h2], ?_, by simp; omega, ?_, fun b hb hb2 => by rw [gput_ne hb2, hB b hb, h6 b hb hb2]⟩
    · intro z hz
      rcases List.mem_append.mp hz with hz | hz
      · exact h3 z hz
      · rw [List.mem_singleton.mp hz]; exact hP
    · refine hat (gput_ne hqp) ?_
      rw [List.length_append, List.length_singleton, Nat.mul_add, Nat.mul_one, ← Nat.add_assoc]
      exact hD
  · rintro G' ⟨acc, h1, h2, h3, h4, h5, h6⟩
    rw [List.length_map] at h2 h5
    refine ⟨acc, h1, ?_⟩
    rw [if_pos rfl]
    refine hq acc _ h2 h3 (hat (gdel_ne hqp) h5) fun b hb => ?_
    by_cases hb2 : b = p
    · subst hb2; rw [gdel_same, hp]
    · rw [gdel_ne hb2]; exact h6 b hb hb2
end
section
variable {σ : SD} {G : HH} {g : TGD} {tb : TSD} {nx : SD → HH → Prop} {rt : QD} {ex : XD → SD → HH → Prop}
theorem for_rng0 {n : Nat} (Iv : Nat → SD → HH → Prop) (h0 : Iv 0 σ G)
    (hs : ∀ (i : Nat) σ G, i < n → Iv i σ G → g (.int (i : Int)) σ G (fun σ2 G2 => tb ⟨Iv (i + 1), rt, nx, Iv (i + 1), ex⟩ σ2 G2)) (he : ∀ σ G, Iv n σ G → nx σ G) : ForG (rgItems 0 n) okT g tb nx rt ex σ G :=
  for_rng Iv h0 (fun i σ G hi iv => by rw [Int.zero_add]; exact hs i σ G hi iv) he
end
section
variable {G : HH} {p : Addr} {P : Prop} {xs : List D}
theorem st_tru_blq {k : Bool} {P : Bool → Prop} (q : P k) : ∃ k', Tru G (.bl k) k' ∧ P k' := ⟨k, .bl k, q⟩
theorem st_tyL (hp : G p = some (.lst xs)) (h : P) : tyL (.ref p) G ∧ P := ⟨⟨p, xs, rfl, hp⟩, h⟩
end
theorem least (P : Nat → Prop) : ∀ m, P m → ∃ k, P k ∧ ∀ j, P j → k ≤ j := by
  intro m
  induction m using Nat.strongRecOn with
  | _ m ih =>
    intro h
    by_cases hk : ∃ k, k < m ∧ P k
    · obtain ⟨k, h1, h2⟩ := hk
      exact ih k h1 h2
    · exact ⟨m, h, fun j hj => Nat.le_of_not_lt fun z => hk ⟨j, z, hj⟩⟩
section
variable {σ : SD} {G : HH} {tb : TSD} {tA : TTD} {nx bk ct : SD → HH → Prop} {rt : QD} {ex : XD → SD → HH → Prop}
/-- the least measure at which an invariant holds -/
noncomputable def lst (Iv : Nat → SD → HH → Prop) (σ : SD) (G : HH) (h : ∃ m, Iv m σ G) : Nat := Classical.choose (least (fun m => Iv m σ G) (Classical.choose h) (Classical.choose_spec h))
theorem lst_ok (Iv : Nat → SD → HH → Prop) (σ : SD) (G : HH) (h : ∃ m, Iv m σ G) : Iv (lst Iv σ G h) σ G ∧ ∀ j, Iv j σ G → lst Iv σ G h ≤ j := Classical.choose_spec (least (fun m => Iv m σ G) (Classical.choose h) (Classical.choose_spec h))
open Classical in
/-- while, by an invariant that has its own measure -/
theorem st_whileN (Iv : Nat → SD → HH → Prop) (m0 : Nat) (h0 : Iv m0 σ G)
    (hs : ∀ (m : Nat) (σ : SD) (G : HH) (nx' : SD → HH → Prop), Iv m σ G → (∀ m' σ' G', m' < m → Iv m' σ' G' → nx' σ' G') → tA σ G (fun b G1 => if b = true then tb ⟨nx', rt, nx, nx', ex⟩ σ G1 else nx σ G1) (fun x G1 => ex x σ G1)) : dWhile tA tb ⟨nx, rt, bk, ct, ex⟩ σ G := by
  refine st_while (fun σ G => ∃ m, Iv m σ G) (fun σ G => if h : ∃ m, Iv m σ G then lst Iv σ G h else 0) ⟨m0, h0⟩ fun σ G hi => ?_
  refine hs _ σ G _ (lst_ok Iv σ G hi).1 fun m' σ' G' hm' hi' => ⟨⟨m', hi'⟩, ?_⟩
  rw [dif_pos ⟨m', hi'⟩, dif_pos hi]
  exact Nat.lt_of_le_of_lt ((lst_ok Iv σ' G' ⟨m', hi'⟩).2 m' hi') hm'
end
section
variable {σ : SD} {G : HH} {Q : QD} {ok : HH → Prop}
/-- each element by itself into a list that may change -/
theorem lc_mapM {α : Type} {xs : List α} {c : α → D} {g : Tgt} {te : TED} {vs : List Nat} (f : α → D) (hok : ∀ p acc, G p = none → ok (gput G p (.lst acc))) (hl : xs.length ≤ sizeLine)
    (he : ∀ a, a ∈ xs → ∀ p acc, G p = none → ∃ σ2, g.put (c a) (wipeD σ vs) = some σ2 ∧ ∀ Q' : QD, Q' (f a) (gput G p (.lst acc)) → te σ2 (gput G p (.lst acc)) Q' (fun _ _ => False))
    (hq : ∀ p, G p = none → Q (.ref p) (gput G p (.lst (xs.map f)))) : LcG false (xs.map c) ok g dYes te vs σ G Q := by
  intro p hp
  refine ⟨fun pre G' => G' = gput G p (.lst ((xs.take pre.length).map f)), by simp, fun pre G' h => by rw [h]; exact hok p _ hp, fun pre x post G' e iv => ?_, fun G' iv => ?_⟩
  · subst iv
    have hlt : pre.length < xs.length := by
      have := congrArg List.length e
      simp at this
      omega
    have hx : xs[pre.length]? = some xs[pre.length] := List.getElem?_eq_getElem hlt
    have e2 : x = c xs[pre.length] := by
      have : (xs.map c)[pre.length]? = some x := by rw [e]; simp
      rw [List.getElem?_map, hx] at this
      exact (Option.some.inj this).symm
    subst e2
    obtain ⟨σ2, h1, h2⟩ := he _ (List.getElem_mem hlt) p ((xs.take pre.length).map f) hp
    refine ⟨σ2, h1, ?_⟩
    dsimp only [dYes]
    rw [if_pos rfl]
    have tk : xs.take (pre ++ [c xs[pre.length]]).length = xs.take pre.length ++ [xs[pre.length]] := by
      have := take_snoc hx
      simpa using this
    refine h2 _ ⟨_, gput_same, ?_, ?_⟩
    · rw [List.length_map, List.length_take]
      omega
    · rw [gput_gput, tk, List.map_append]
      rfl
  · subst iv
    refine ⟨_, gput_same, ?_⟩
    rw [if_neg Bool.false_ne_true]
    simpa using hq p hp
end
theorem bulkAll_le {B : Nat} : ∀ {xs : List PyData}, (∀ x ∈ xs, x.bulk ≤ B) → PyData.bulkAll xs ≤ (B + 1) * xs.length
  | [], _ => by simp [PyData.bulkAll]
  | x :: xs, h => by
    have a1 := h x (by simp)
    have a2 := bulkAll_le (xs := xs) fun y hy => h y (by simp [hy])
    simp only [PyData.bulkAll, List.length_cons, Nat.mul_add]
    omega
theorem fineAll_of {b n : Nat} : ∀ {xs : List PyData}, (∀ x ∈ xs, fine b n x) → fineAll b n xs
  | [], _ => by simp [fineAll]
  | x :: xs, h => by
    simp only [fineAll]
    exact ⟨h x (by simp), fineAll_of fun y hy => h y (by simp [hy])⟩
theorem pys_map {α : Type} {f : α → D} {g : α → PyData} (h : ∀ a, (f a).py = some (g a)) : ∀ xs : List α, pys (xs.map f) = some (xs.map g)
  | [] => rfl
  | x :: xs => by simp [pys, h x, pys_map h xs]
theorem st_neSame {x : Str} {A B : Prop} (h : B) : if (!decide (x = x)) = true then A else B := by
  rw [decide_eq_true (rfl : x = x)]; exact h
theorem st_eqSame {x : Str} {A B : Prop} (h : A) : if decide (x = x) = true then A else B := by
  rw [decide_eq_true (rfl : x = x)]; exact h
end DL

namespace DL
open PySem PySem.Spec PyProof.Rows L2
open PySem.W (Frag)
variable {X : Cx} {W : WX} {e o a b c value : Expr} {es : List Expr} {ta tb tc to tv : TED} {t u : TAD} {tA tB' : TTD} {pos pos' apos cpos : Pos}

/-! ### instances of own classes -/
/-- the value of a field -/
def lk (f : Str) : List Str → List D → Option D
  | n :: ns, d :: ds => if n = f then some d else lk f ns ds
  | _, _ => none
/-- a field stored -/
def stF (f : Str) (y : D) : List Str → List D → List Str × List D
  | n :: ns, d :: ds => if n = f then (n :: ns, y :: ds) else ((n :: (stF f y ns ds).1), (d :: (stF f y ns ds).2))
  | _, _ => ([f], [y])
theorem lk_zip {K H G} {f : Str} : ∀ {ns : List Str} {ds : List D} {xs : List V}, Rps K H G ds xs → ns.length = xs.length → (lk f ns ds = none ∧ (ns.zip xs).lookup f = none) ∨ ∃ d v, lk f ns ds = some d ∧ (ns.zip xs).lookup f = some v ∧ Rp K H G d v
  | [], _, _, _, _ => .inl ⟨by cases ‹List D› <;> rfl, rfl⟩
  | n :: ns, _, _, .nil, h => by simp at h
  | n :: ns, d :: ds, v :: xs, .cons r rs, h => by
    have ih := lk_zip (f := f) (ns := ns) rs (by simpa using h)
    by_cases e : n = f
    · subst e
      refine .inr ⟨d, v, by simp [lk], ?_, r⟩
      simp [List.zip_cons_cons, List.lookup]
    · have a1 : lk f (n :: ns) (d :: ds) = lk f ns ds := by simp [lk, e]
      have hb : (f == n) = false := beq_eq_false_iff_ne.mpr fun z => e z.symm
      have a2 : ((n :: ns).zip (v :: xs)).lookup f = (ns.zip xs).lookup f := by simp only [List.zip_cons_cons, List.lookup, hb]
      rw [a1, a2]
      exact ih
theorem stF_zip {K H G} {f : Str} {y : D} {w : V} (ry : Rp K H G y w) : ∀ {ns : List Str} {ds : List D} {xs : List V}, Rps K H G ds xs → ns.length = xs.length → ∃ zs, putF f w (ns.zip xs) = (stF f y ns ds).1.zip zs ∧ (stF f y ns ds).1.length = zs.length ∧ Rps K H G (stF f y ns ds).2 zs
  | [], _, [], .nil, _ => ⟨[w], rfl, rfl, .cons ry .nil⟩
  | [], _, _ :: _, _, h => by simp at h
  | n :: ns, _, _, .nil, h => by simp at h
  | n :: ns, d :: ds, v :: xs, .cons r rs, h => by
    obtain ⟨zs, e1, e2, e3⟩ := stF_zip (f := f) ry (ns := ns) rs (by simpa using h)
    by_cases e : n = f
    · refine ⟨w :: xs, ?_, ?_, ?_⟩
      · simp [putF, stF, e]
      · simp [stF, e]; simpa using h
      · simp only [stF, e, if_true]; exact .cons ry rs
    · refine ⟨v :: zs, ?_, ?_, ?_⟩
      · simp only [List.zip_cons_cons, putF, stF, e, if_false, e1]
      · simp only [stF, e, if_false, List.length_cons, e2]
      · simp only [stF, e, if_false]; exact .cons r e3
inductive InsD (G : HH) : D → Str → List Str → List D → Prop
  | obj (c : Str) (ns : List Str) (ds : List D) : InsD G (.obj c ns ds) c ns ds
  | ref {p : Addr} {c : Str} {ns : List Str} {ds : List D} : G p = some (.ins c ns ds) → InsD G (.ref p) c ns ds
theorem InsD.of {K H G x c ns ds v} (h : InsD G x c ns ds) (hR : RelH K H G) (p : Rp K H G x v) : ∃ a C dx xs, v = .ref a ∧ gaddr K c = some C ∧ H a = some (.ins C dx (ns.zip xs)) ∧ ns.length = xs.length ∧ Rps K H G ds xs := by
  cases h with
  | obj => cases p with | obj h1 h2 h3 h4 h5 => exact ⟨_, _, _, _, rfl, h1, h2, h4, h5⟩
  | ref e => cases p with | ref a => obtain ⟨C, dx, xs, h1, h2, h3, h4⟩ := hR _ _ e; exact ⟨_, C, dx, xs, rfl, h1, h2, h3, h4⟩
/-- of the classes cs one may read and store the field f -/
def FldOk (K : Frag) (cs : List Str) (f : Str) : Prop := ∀ c ∈ cs, ∀ C, gaddr K c = some C → Cls K C ∧ NoAttr K C f
def dFld (cs : List Str) (f : Str) (ta : TED) : TED := fun σ G Q E => ta σ G (fun x G1 => ∃ c ns ds d, InsD G1 x c ns ds ∧ c ∈ cs ∧ lk f ns ds = some d ∧ Q d G1) E
theorem de_fld {cs : List Str} {f : Str} (hF : FldOk X.K cs f) (ha : DE X W a ta) (hb : attributeBase a f X.env (eval a X.env) = eval a X.env := by rfl) : DE X W (.Attribute a f pos) (dFld cs f ta) :=
  PE.imp (pe_fld ha hb) fun σ H Q ⟨σD, G, QD, E, hR, hS, q, hq, hE⟩ => by
    refine ⟨σD, G, _, E, hR, hS, q, fun v1 H1 d1 G1 s1 r1 p1 ⟨c, ns, ds, d, hi, hc, hl, q1⟩ => ?_, hE⟩
    obtain ⟨a, C, dx, xs, rfl, h1, h2, h3, h4⟩ := hi.of r1 p1
    rcases lk_zip (f := f) h4 h3 with ⟨z, _⟩ | ⟨d', v, e1, e2, p2⟩
    · rw [hl] at z; cases z
    · rw [hl] at e1; cases e1
      obtain ⟨k1, k2⟩ := hF c hc C h1
      exact ⟨a, C, dx, _, v, rfl, h2, k1, k2, e2, hq _ _ _ _ s1 r1 p2 q1⟩
def dSetF (cs : List Str) (f : Str) (to tv : TED) : TSD := fun D σ G => tv σ G (fun y G1 => to σ G1 (fun x G2 => ∃ p c ns ds, x = .ref p ∧ G2 p = some (.ins c ns ds) ∧ c ∈ cs ∧ ns.length < 1000 ∧ D.nx σ (gput G2 p (.ins c (stF f y ns ds).1 (stF f y ns ds).2))) (fun x G' => D.ex x σ G')) (fun x G' => D.ex x σ G')
theorem ds_setF {cs : List Str} {f : Str} (hF : FldOk X.K cs f) (ho : DE X W o to) (hv : DE X W value tv) (hs : swapsWith value (some (.Attribute o f pos')) pos.line X.env = pure false := by rfl) : DS X W (.Assign [.Attribute o f pos'] value pos) (dSetF cs f to tv) :=
  PS.imp (ps_fld ho hv hs) fun D σ H ⟨σD, G, DD, hR, hS, q, he⟩ => by
    refine ⟨σD, G, _, _, hR, hS, q, fun v1 H1 d1 G1 s1 r1 p1 q1 => ?_, he.ex.at hS⟩
    refine ⟨σD, G1, _, _, r1, hS.mono s1, q1, fun v2 H2 d2 G2 s2 r2 p2 ⟨p, c, ns, ds, e1, e2, hc, l, z⟩ => ?_, (he.ex.at hS).mono s1⟩
    subst e1; cases p2
    obtain ⟨C, dx, xs, h1, h2, h3, h4⟩ := r2 _ _ e2
    obtain ⟨k1, k2⟩ := hF c hc C h1
    have s3 := Stp.put (H := H2) (o := .ins C dx (putF f v1 (ns.zip xs))) (od := .ins c (stF f d1 ns ds).1 (stF f d1 ns ds).2) e2
    obtain ⟨zs, z1, z2, z3⟩ := stF_zip (f := f) (p1.mono (s2.trans s3)) (h4.mono s3) h3
    refine ⟨p, C, dx, _, rfl, h2, k1, k2, by rw [List.length_zip]; omega, he.nx _ _ _ _ ((s1.trans s2).trans s3) (r2.put e2 ⟨C, dx, zs, h1, by rw [upd_same, z1], z2, z3⟩) (hS.mono ((s1.trans s2).trans s3)) z⟩

/-! ### a def run in any surrounding -/
section
variable {k : Nat} {f C : Addr} {fd : FuncData} {ps : List Str} {sp : SpD}
theorem guards_make {A : Around} (h : A.guards = some []) (C : Addr) (us : List Value) (kw : List (Str × Value)) : (A.under (.builtin "type.__call__" ⟨.ref C :: us, kw⟩)).guards = some [] := by
  first | exact h | (simpa [Around.under, Code.envs, Code.isFrame, pushEnvs] using h)
theorem run_makeG {pins : List (Addr × Obj)} {σ : L2.St} {H : Hp} {s : Shared} {Q : VK} {us : List Value} {vs : List V} (M : Mk X.K C f) (F : FnG X.prog X.w X.K X.mg X.base k f fd ps sp) (hg : X.A.guards = some []) (hr : Room (k + 1) X.A) (hb : Binds X.K fd ps []) (tk : Takes X W)
    (I : Inv X pins σ H s) (r : Vals vs us)
    (h : ∀ x dx, H x = none → H dx = none → dx ≠ x → lsp X.K sp (.ref x :: vs) (upd (upd H dx (.own x)) x (.ins C dx [])) (fun v H2 => v = .non ∧ Q (.ref x) H2) (WE W σ)) :
    wpAny (model X.prog X.w) X.A (call (.ref C) us) (EP X pins σ Q) X.xe s := by
  have hq := h (s.heap.objs.size + 1) s.heap.objs.size (I.hok.fresh (Nat.le_succ _)) (I.hok.fresh (Nat.le_refl _)) (Nat.ne_of_lt (Nat.lt_succ_self _))
  have I2 := Inv.made (C := C) I
  have r2 : Vals (V.ref (s.heap.objs.size + 1) :: vs) (Value.ref (s.heap.objs.size + 1) :: us) := .cons rfl r
  have hl : (Value.ref (s.heap.objs.size + 1) :: us).length = ps.length := by rw [← r2.length]; exact F.llen hq
  have b := hb _ (Value.ref (s.heap.objs.size + 1) :: us) I2.kIn (by rw [List.append_nil]; exact hl)
  rw [List.append_nil] at b
  refine wpAny_call (make_map (f := f) I.kIn M.makes M.init (beq_iff_eq.mp M.fn) (codeAny_mono (F.run _ X.stack _ _ ⟨Value.ref (s.heap.objs.size + 1) :: us, []⟩ _ _ _ (WE W σ) (guards_make hg C us []) (hr.make C us []) (I2.env0.make C us []) b r2 hq) fun r s' hq' => ?_))
  cases r with
  | error e => exact passAt tk σ pins _ _ e s' I2 hq'
  | ok fl =>
    cases fl with
    | ret u =>
      obtain ⟨v, H', I3, rv, ev, q3⟩ := I2.after hq'
      subst ev
      exact ⟨rv, ⟨V.ref (s.heap.objs.size + 1), H', I3, rfl, q3⟩⟩
    | next => exact False.elim hq'
    | brk => exact False.elim hq'
    | cont => exact False.elim hq'
/-- C(..): a new instance, then __init__; fr: it is frozen behind -/
def dMake (fr : Bool) (c : Str) (sp : SpD) (t : TAD) : TED := fun σ G Q E => t σ G (fun ds G1 => ∀ p, G1 p = none → sp (.ref p :: ds) (gput G1 p (.ins c [] []))
  (fun v G2 => v = .non ∧ if fr = true then ∃ ns vs, G2 p = some (.ins c ns vs) ∧ Q (.obj c ns vs) (gdel G2 p) else Q (.ref p) G2) E) E
theorem upd_comm {H : Hp} {a b : Addr} {u v : HO} (h : a ≠ b) : upd (upd H a u) b v = upd (upd H b v) a u := by
  funext c
  by_cases h1 : c = a
  · subst h1
    rw [upd_ne h, upd_same, upd_same]
  · by_cases h2 : c = b
    · subst h2
      rw [upd_same, upd_ne h1, upd_same]
    · rw [upd_ne h2, upd_ne h1, upd_ne h1, upd_ne h2]
theorem thaw_ins {K H G c p ns ds} (hR : RelH K H G) (e : G p = some (.ins c ns ds)) : Rp K H (gdel G p) (.obj c ns ds) (.ref p) := by
  obtain ⟨C, dx, xs, h1, h2, h3, h4⟩ := hR _ _ e
  exact .obj h1 h2 gdel_same h3 (h4.mono Stp.del)
theorem lft_make {K : Frag} {c : Str} {C : Addr} {fr : Bool} {σ : L2.St} {H : Hp} {Q : VK} (hC : gaddr K c = some C) (h : lft K W (dMake fr c sp t) σ H Q) :
    lftA K W t σ H fun vs H1 => ∀ x dx, H1 x = none → H1 dx = none → dx ≠ x → lsp K sp (.ref x :: vs) (upd (upd H1 dx (.own x)) x (.ins C dx [])) (fun v H2 => v = .non ∧ Q (.ref x) H2) (WE W σ) := by
  obtain ⟨σD, G, QD, E, hR, hS, q, hq, hE⟩ := h
  refine ⟨σD, G, _, E, hR, hS, q, fun vs H1 ds G1 s1 r1 p1 q1 => ?_, hE⟩
  intro x dx hx hdx hne
  have s2 := Stp.new (G := G1) (o := .own x) hdx
  have r2 := r1.new (o := .own x) hdx
  have hx2 : (upd H1 dx (.own x)) x = none := by rw [upd_ne (fun z => hne z.symm)]; exact hx
  have s3 := Stp.newM (G := G1) (o := .ins C dx []) (od := .ins c [] []) hx2
  have r3 := r2.newM (o := .ins C dx []) (od := .ins c [] []) hx2 ⟨C, dx, [], hC, by rw [upd_same]; rfl, rfl, .nil⟩
  have s23 := s2.trans s3
  refine ⟨.ref x :: ds, gput G1 x (.ins c [] []), _, E, r3, .cons (.ref x) (p1.mono s23), q1 x (r1.free hx), fun v H4 d G4 s4 r4 p4 ⟨e4, z4⟩ => ?_, fun xd cls d H4 G4 s4 r4 p4 z4 => hE _ _ _ _ _ ((s1.trans s23).trans s4) r4 p4 z4⟩
  subst e4; cases p4
  refine ⟨rfl, ?_⟩
  cases fr with
  | true =>
    rw [if_pos rfl] at z4
    obtain ⟨ns, ws, e5, z5⟩ := z4
    exact hq _ _ _ _ ((s1.trans s23).trans (s4.trans Stp.del)) r4.del (thaw_ins r4 e5) z5
  | false =>
    rw [if_neg Bool.false_ne_true] at z4
    exact hq _ _ _ _ ((s1.trans s23).trans s4) r4 (.ref x) z4
theorem de_make {c x : Str} {p : Pos} (fr : Bool) (hC : gaddr X.K c = some C) (M : Mk X.K C f) (F : FnG X.prog X.w X.K X.mg X.base k f fd ps sp) (hgd : X.A.guards = some []) (hr : Room (k + 1) X.A) (hg : Gl X x) (hm : X.mg x = some (.ref C)) (hb : Binds X.K fd ps []) (tk : Takes X W)
    (ha : DA X W (e :: es) t) (hdb : (x == ("__debug__" : Str)) = false := by decide) (he : starEach (e :: es) X.env = (false, eval e X.env) :: starEach es X.env := by rfl) (hpl : (backTo pos (starEach es X.env)).any (·.1) = false := by rfl) :
    DE X W (.Call (.Name x p) (e :: es) [] pos) (dMake fr c sp t) := by
  have ha' : PA X (e :: es) (lftA X.K W t) := ha
  refine ⟨fun pins s σ H Q I h => ?_⟩
  refine wpAny_Call_Name_kw (ld_glob I hg hm ?_ hdb)
  exact PySem.W.callWith_K (h₀ := X.base) I.ok.mod.kin M.kp (thn (ha'.run pos pins s σ H _ I (lft_make hC h)) fun us s1 ⟨vs, H1, I1, r, q⟩ => ⟨I1.kIn, run_makeG M F hgd hr hb tk I1 r q⟩) he hpl
theorem de_make0 {c x : Str} {p : Pos} (fr : Bool) (hC : gaddr X.K c = some C) (M : Mk X.K C f) (F : FnG X.prog X.w X.K X.mg X.base k f fd ps sp) (hgd : X.A.guards = some []) (hr : Room (k + 1) X.A) (hg : Gl X x) (hm : X.mg x = some (.ref C)) (hb : Binds X.K fd ps []) (tk : Takes X W)
    (hdb : (x == ("__debug__" : Str)) = false := by decide) : DE X W (.Call (.Name x p) [] [] pos) (dMake fr c sp dNil) := by
  refine ⟨fun pins s σ H Q I h => ?_⟩
  refine wpAny_Call_Name_kw (ld_glob I hg hm ?_ hdb)
  have h2 := lft_make hC h
  obtain ⟨σD, G, QD, E, hR, hS, q, hq, hE⟩ := h2
  exact PySem.W.callWith_K0 I.kIn M.kp (run_makeG (us := []) (vs := []) M F hgd hr hb tk I .nil (hq [] H [] G Stp.refl hR .nil q))
/-- o.m(..) -/
def dMeth (c m : Str) (sp : SpD) (ta : TED) (t : TAD) : TED := fun σ G Q E => ta σ G (fun x G1 => ∃ ns ds, InsD G1 x c ns ds ∧ lk m ns ds = none ∧ t σ G1 (fun as G2 => sp (x :: as) G2 Q E) E) E
theorem de_meth {c m : Str} {pl : Sem Bool} (hC : gaddr X.K c = some C) (hcl : Cls X.K C) (hm : Meth X.K C m f) (F : FnG X.prog X.w X.K X.mg X.base k f fd ps sp) (hgd : X.A.guards = some []) (hr : Room k X.A) (hb : Binds X.K fd ps []) (tk : Takes X W) (ho : DE X W o to) (ha : DA X W (e :: es) t)
    (hst : starEach (e :: es) X.env = (false, eval e X.env) :: starEach es X.env := by rfl) (hpl : (backTo pos (starEach es X.env)).any (·.1) = false := by rfl)
    (ht : eval (.Call (.Attribute o m apos) (e :: es) [] pos) X.env = (do
      let ov ← eval o X.env
      standAt apos.atName
      let (f, first) ← holding [ov] (getMethod ov m pl)
      callWith pos f first (backTo pos (starEach (e :: es) X.env)) (backToKw pos (keywordEach [] X.env))) := by rfl) :
    DE X W (.Call (.Attribute o m apos) (e :: es) [] pos) (dMeth c m sp to t) := by
  have ha' : PA X (e :: es) (lftA X.K W t) := ha
  have ho' : PE X o (lft X.K W to) := ho
  refine ⟨fun pins s σ H Q I ⟨σD, G, QD, E, hR, hS, q, hq, hE⟩ => ?_⟩
  refine PySem.W.methodCall_KW (pl := pl) (thn (ho'.run pins s σ H (fun v H1 => ∃ d G1, Stp H G H1 G1 ∧ RelH X.K H1 G1 ∧ Rp X.K H1 G1 d v ∧ ∃ ns ds, InsD G1 d c ns ds ∧ lk m ns ds = none ∧ t σD G1 (fun as G2 => sp (d :: as) G2 QD E) E) I ⟨σD, G, _, E, hR, hS, q, fun v H1 d G1 s1 r1 p1 z => ⟨d, G1, s1, r1, p1, z⟩, hE⟩) fun u s1 ⟨x, H1, I1, rx, d, G1, s1', r1, p1, ns, ds, hi, hl, q1⟩ => ?_) ht
  obtain ⟨a, C', dx, xs, ex, h1, h2, h3, h4⟩ := hi.of r1 p1
  rw [hC] at h1; cases h1
  subst ex
  obtain rfl : u = Value.ref a := rx
  have hl' : (ns.zip xs).lookup m = none := by
    rcases lk_zip (f := m) h4 h3 with ⟨_, z⟩ | ⟨d', v, e1, _, _⟩
    · exact z
    · rw [hl] at e1; cases e1
  refine getmeth_ok I1 h2 hcl hm hl' ?_
  refine PySem.W.callWith_K (first := [.ref a]) (h₀ := X.base) I.ok.mod.kin hm.kp (thn (ha'.run pos pins s1 σ H1 (fun vs H2 => lsp X.K sp (.ref a :: vs) H2 Q (WE W σ)) I1 ⟨σD, G1, _, E, r1, hS.mono s1', q1, fun vs H2 as G2 s2 r2 p2 q2 => ?_, hE.mono s1'⟩) fun us s2 ⟨vs, H2, I2, r, q2⟩ => ⟨I2.kIn, ?_⟩) hst hpl
  · exact ⟨d :: as, G2, QD, E, r2, .cons (p1.mono s2) p2, q2, hq.mono (s1'.trans s2), fun xd cls d' H' G' s' r' p' z' => hE _ _ _ _ _ ((s1'.trans s2).trans s') r' p' z'⟩
  · exact run_call F hgd hr hb tk I2 (us := Value.ref a :: us) (vs := V.ref a :: vs) (.cons rfl r) q2
theorem de_meth0 {c m : Str} {pl : Sem Bool} (hC : gaddr X.K c = some C) (hcl : Cls X.K C) (hm : Meth X.K C m f) (F : FnG X.prog X.w X.K X.mg X.base k f fd ps sp) (hgd : X.A.guards = some []) (hr : Room k X.A) (hb : Binds X.K fd ps []) (tk : Takes X W) (ho : DE X W o to)
    (ht : eval (.Call (.Attribute o m apos) [] [] pos) X.env = (do
      let ov ← eval o X.env
      standAt apos.atName
      let (f, first) ← holding [ov] (getMethod ov m pl)
      callWith pos f first (backTo pos (starEach [] X.env)) (backToKw pos (keywordEach [] X.env))) := by rfl) :
    DE X W (.Call (.Attribute o m apos) [] [] pos) (dMeth c m sp to dNil) := by
  have ho' : PE X o (lft X.K W to) := ho
  refine ⟨fun pins s σ H Q I ⟨σD, G, QD, E, hR, hS, q, hq, hE⟩ => ?_⟩
  refine PySem.W.methodCall_KW (pl := pl) (thn (ho'.run pins s σ H (fun v H1 => ∃ d G1, Stp H G H1 G1 ∧ RelH X.K H1 G1 ∧ Rp X.K H1 G1 d v ∧ ∃ ns ds, InsD G1 d c ns ds ∧ lk m ns ds = none ∧ sp [d] G1 QD E) I ⟨σD, G, _, E, hR, hS, q, fun v H1 d G1 s1 r1 p1 z => ⟨d, G1, s1, r1, p1, z⟩, hE⟩) fun u s1 ⟨x, H1, I1, rx, d, G1, s1', r1, p1, ns, ds, hi, hl, q1⟩ => ?_) ht
  obtain ⟨a, C', dx, xs, ex, h1, h2, h3, h4⟩ := hi.of r1 p1
  rw [hC] at h1; cases h1
  subst ex
  obtain rfl : u = Value.ref a := rx
  have hl' : (ns.zip xs).lookup m = none := by
    rcases lk_zip (f := m) h4 h3 with ⟨_, z⟩ | ⟨d', v, e1, _, _⟩
    · exact z
    · rw [hl] at e1; cases e1
  refine getmeth_ok I1 h2 hcl hm hl' ?_
  exact PySem.W.callWith_K0 (first := [.ref a]) I1.kIn hm.kp (run_call F hgd hr hb tk I1 (us := [.ref a]) (vs := [.ref a]) (.cons rfl .nil) ⟨[d], G1, QD, E, r1, .cons p1 .nil, q1, hq.mono s1', fun xd cls d' H' G' s' r' p' z' => hE _ _ _ _ _ (s1'.trans s') r' p' z'⟩)
end
end DL

namespace DL
open PySem PySem.Spec PyProof.Rows L2
open PySem.W (Frag)
variable {X : Cx} {W : WX} {e o a b c value : Expr} {es : List Expr} {ta tb tc to tv : TED} {t u : TAD} {tA tB' : TTD} {pos pos' apos cpos : Pos}

theorem vref (a : Addr) : RelV (V.ref a) (Value.ref a) := rfl
/-! ### special methods that raise nothing -/
theorem fr_of {pins : List (Addr × Obj)} {σ : L2.St} {H : Hp} {s : Shared} (I : Inv X pins σ H s) : ∃ m, Fr X.base X.env.locals s.heap m := by
  obtain ⟨m, hm, _⟩ := I.loc
  exact ⟨m, hm, I.bk, Nat.le_trans I.ok.bsz I.ok.above⟩
theorem inst_of {pins : List (Addr × Obj)} {σ : L2.St} {H : Hp} {s : Shared} {a C dx : Addr} {fs : List (Str × V)} (I : Inv X pins σ H s) (h : H a = some (.ins C dx fs)) : ∃ ox od, PySem.W.InstAt s.heap a ox C od ∧ ox.data = .plain := by
  obtain ⟨mA, O, _⟩ := ins_get I.hok h
  obtain ⟨od, J, _⟩ := O.look
  exact ⟨_, _, J, rfl⟩
section
variable {k : Nat} {f C : Addr} {fd : FuncData} {ps : List Str} {sp : SpD}
theorem run_at {A' : Around} {pins : List (Addr × Obj)} {σ : L2.St} {H : Hp} {s : Shared} {Q : VK} {us : List Value} {vs : List V} (F : FnG X.prog X.w X.K X.mg X.base k f fd ps sp) (hg : A'.guards = some []) (hr : Room k A') (e0 : Env0 X.prog X.w X.K X.mg X.base A' X.stack s H) (hb : Binds X.K fd ps [])
    (I : Inv X pins σ H s) (r : Vals vs us) (h : lsp X.K sp vs H Q E0) : wpAny (model X.prog X.w) A' (call (.ref f) us) (EP X pins σ Q) X.xe s := by
  have hl : us.length = ps.length := by rw [← r.length]; exact F.llen h
  have b := hb s us I.kIn (by rw [List.append_nil]; exact hl)
  rw [List.append_nil] at b
  refine wpAny_call (codeAny_mono (F.run A' X.stack s H ⟨us, []⟩ us vs Q E0 hg hr e0 b r h) fun r s' hq => ?_)
  cases r with
  | error e => exact passL pins σ H s e s' I hq
  | ok fl =>
    cases fl with
    | ret u => exact I.after hq
    | next => exact False.elim hq
    | brk => exact False.elim hq
    | cont => exact False.elim hq
/-- an own promise, read at V: with nothing raised -/
theorem lsp0 {K : Frag} {H : Hp} {G : HH} {ds : List D} {vs : List V} {QD : QD} {Q : VK} (hR : RelH K H G) (hp : Rps K H G ds vs) (q : sp ds G QD (fun _ _ => False)) (hq : Ct K H G Q QD) : lsp K sp vs H Q E0 :=
  ⟨ds, G, QD, _, hR, hp, q, hq, fun _ _ _ _ _ _ _ _ z => z⟩
/-- y in o -/
def rInO (neg : Bool) (c : Str) (sp : SpD) : D → D → HH → QD → Prop := fun x y G Q => ∃ ns ds, InsD G y c ns ds ∧ sp [y, x] G (fun v G1 => ∃ b, v = .bl b ∧ Q (.bl (if neg then !b else b)) G1) (fun _ _ => False)
theorem guards_in1 {A : Around} (h : A.guards = some []) : A.in1.guards = some [] := h
theorem oInO {c : Str} (hC : gaddr X.K c = some C) (hm : Meth X.K C "__contains__" f) (F : FnG X.prog X.w X.K X.mg X.base k f fd ps sp) (hg : X.A.guards = some []) (hr : Room k X.A) (hb : Binds X.K fd ps []) : OpD X (compareOp .In) (rInO false c sp) :=
  ⟨fun x y H Q => ∃ a dx fs, y = .ref a ∧ H a = some (.ins C dx fs) ∧ lsp X.K sp [y, x] H (fun v H1 => ∃ b, v = .bl b ∧ Q (.bl b) H1) E0, fun pins s σ H x y v u Q I rx ry ⟨a, dx, fs, ey, ha, q⟩ => by
    subst ey
    obtain rfl : u = Value.ref a := ry
    obtain ⟨m, fr⟩ := fr_of I
    obtain ⟨ox, od, J, _⟩ := inst_of I ha
    refine PySem.W.in_K fr I.ok.mod.kin J hm.at_ hm.fn (wpAny_mono (run_at F hg hr I.env0 hb I (us := [.ref a, v]) (.cons (vref a) (.cons rx .nil)) q) (fun r s' hr' => ?_) fun _ _ z => z)
    obtain ⟨w, H', J', rw', b, ew, q'⟩ := hr'
    subst ew
    obtain rfl : r = Value.bool b := rw'
    exact wpAny_truthy_bool ⟨.bl b, H', J', rfl, q'⟩, fun x y H Q dx dy G QD hR px py ⟨ns, ds, hi, q⟩ hq => by
    obtain ⟨a, C', dx', xs, e1, h1, h2, h3, h4⟩ := hi.of hR py
    rw [hC] at h1; cases h1
    refine ⟨a, dx', _, e1, h2, lsp0 hR (.cons py (.cons px .nil)) q fun v H' d G' s' r' p' ⟨b, e, z⟩ => ?_⟩
    subst e; cases p'
    exact ⟨b, rfl, hq _ _ _ _ s' r' (.bl _) z⟩⟩
theorem oNotInO {c : Str} (hC : gaddr X.K c = some C) (hm : Meth X.K C "__contains__" f) (F : FnG X.prog X.w X.K X.mg X.base k f fd ps sp) (hg : X.A.guards = some []) (hr : Room k X.A) (hb : Binds X.K fd ps []) : OpD X (compareOp .NotIn) (rInO true c sp) :=
  ⟨fun x y H Q => ∃ a dx fs, y = .ref a ∧ H a = some (.ins C dx fs) ∧ lsp X.K sp [y, x] H (fun v H1 => ∃ b, v = .bl b ∧ Q (.bl (!b)) H1) E0, fun pins s σ H x y v u Q I rx ry ⟨a, dx, fs, ey, ha, q⟩ => by
    subst ey
    obtain rfl : u = Value.ref a := ry
    obtain ⟨m, fr⟩ := fr_of I
    obtain ⟨ox, od, J, _⟩ := inst_of I ha
    refine PySem.W.notIn_K fr I.ok.mod.kin J hm.at_ hm.fn (wpAny_mono (run_at F hg hr I.env0 hb I (us := [.ref a, v]) (.cons (vref a) (.cons rx .nil)) q) (fun r s' hr' => ?_) fun _ _ z => z)
    obtain ⟨w, H', J', rw', b, ew, q'⟩ := hr'
    subst ew
    obtain rfl : r = Value.bool b := rw'
    exact wpAny_truthy_bool ⟨.bl (!b), H', J', rfl, q'⟩, fun x y H Q dx dy G QD hR px py ⟨ns, ds, hi, q⟩ hq => by
    obtain ⟨a, C', dx', xs, e1, h1, h2, h3, h4⟩ := hi.of hR py
    rw [hC] at h1; cases h1
    refine ⟨a, dx', _, e1, h2, lsp0 hR (.cons py (.cons px .nil)) q fun v H' d G' s' r' p' ⟨b, e, z⟩ => ?_⟩
    subst e; cases p'
    exact ⟨b, rfl, hq _ _ _ _ s' r' (.bl _) z⟩⟩
/-- len(o) -/
def kLenO (c : Str) (sp : SpD) : RCD := c1 fun x G Q => ∃ ns ds, InsD G x c ns ds ∧ sp [x] G (fun v G1 => ∃ n : Int, v = .int n ∧ 0 ≤ n ∧ n < 2 ^ 63 ∧ Q (.int n) G1) (fun _ _ => False)
theorem cLenO {c : Str} (hC : gaddr X.K c = some C) (hm : Meth X.K C "__len__" f) (F : FnG X.prog X.w X.K X.mg X.base k f fd ps sp) (hg : X.A.guards = some []) (hr : Room (k + 1) X.A) (hb : Binds X.K fd ps []) : CallD X (.builtin "len") (kLenO c sp) :=
  ⟨fun xs H Q => ∃ a dx fs, xs = [.ref a] ∧ H a = some (.ins C dx fs) ∧ lsp X.K sp [.ref a] H (fun v H1 => ∃ n : Int, v = .int n ∧ 0 ≤ n ∧ n < 2 ^ 63 ∧ Q (.int n) H1) E0, fun pins s σ H xs us Q I r ⟨a, dx, fs, ex, ha, q⟩ => by
    subst ex
    obtain ⟨u, rfl, ru⟩ := vals1 r
    obtain rfl : u = Value.ref a := ru
    obtain ⟨m, fr⟩ := fr_of I
    obtain ⟨ox, od, J, _⟩ := inst_of I ha
    refine PySem.W.len_K fr I.ok.mod.kin J hm.at_ hm.fn (wpAny_mono (run_at F (guards_in1 hg) hr.in1 I.env0.in1 hb I (us := [.ref a]) (.cons (vref a) .nil) q) (fun r s' hr' => ?_) fun _ _ z => z)
    obtain ⟨w, H', J', rw', n, ew, h0, h1, q'⟩ := hr'
    subst ew
    obtain ⟨tk, rfl⟩ := rw'
    exact ⟨⟨h0, h1⟩, .int n, H', J'.tok _, ⟨_, rfl⟩, q'⟩, fun xs H Q ds G QD hR hp ⟨x, e, ns, ds', hi, q⟩ hq => by
    subst e
    obtain ⟨v, rfl, px⟩ := rps1 hp
    obtain ⟨a, C', dx', xs', e1, h1, h2, h3, h4⟩ := hi.of hR px
    rw [hC] at h1; cases h1
    subst e1
    refine ⟨a, dx', _, rfl, h2, lsp0 hR (.cons px .nil) q fun v H' d G' s' r' p' ⟨n, e, z0, z1, z⟩ => ?_⟩
    subst e; cases p'
    exact ⟨n, rfl, z0, z1, hq _ _ _ _ s' r' (.int _) z⟩⟩
/-- repr(o) -/
def kReprO (c : Str) (sp : SpD) : RCD := c1 fun x G Q => ∃ ns ds, InsD G x c ns ds ∧ sp [x] G (fun v G1 => ∃ z, v = .str z ∧ Q (.str z) G1) (fun _ _ => False)
theorem cReprO {c : Str} (hC : gaddr X.K c = some C) (hm : Meth X.K C "__repr__" f) (F : FnG X.prog X.w X.K X.mg X.base k f fd ps sp) (hg : X.A.guards = some []) (hr : Room (k + 1) X.A) (hb : Binds X.K fd ps []) : CallD X (.builtin "repr") (kReprO c sp) :=
  ⟨fun xs H Q => ∃ a dx fs, xs = [.ref a] ∧ H a = some (.ins C dx fs) ∧ lsp X.K sp [.ref a] H (fun v H1 => ∃ z, v = .str z ∧ Q (.str z) H1) E0, fun pins s σ H xs us Q I r ⟨a, dx, fs, ex, ha, q⟩ => by
    subst ex
    obtain ⟨u, rfl, ru⟩ := vals1 r
    obtain rfl : u = Value.ref a := ru
    obtain ⟨m, fr⟩ := fr_of I
    obtain ⟨ox, od, J, _⟩ := inst_of I ha
    have hu : X.A.in1.units < cLine := by have := hr.in1.un; omega
    refine PySem.W.repr_K hu fr I.ok.mod.kin J hm.at_ hm.fn (wpAny_mono (run_at F (guards_in1 hg) hr.in1 I.env0.in1 hb I (us := [.ref a]) (.cons (vref a) .nil) q) (fun r s' hr' => ?_) fun _ _ z => z)
    obtain ⟨w, H', J', rw', n, ew, q'⟩ := hr'
    subst ew
    obtain ⟨tk, rfl⟩ := rw'
    exact ⟨.str n, H', J', ⟨_, rfl⟩, q'⟩, fun xs H Q ds G QD hR hp ⟨x, e, ns, ds', hi, q⟩ hq => by
    subst e
    obtain ⟨v, rfl, px⟩ := rps1 hp
    obtain ⟨a, C', dx', xs', e1, h1, h2, h3, h4⟩ := hi.of hR px
    rw [hC] at h1; cases h1
    subst e1
    refine ⟨a, dx', _, rfl, h2, lsp0 hR (.cons px .nil) q fun v H' d G' s' r' p' ⟨n, e, z⟩ => ?_⟩
    subst e; cases p'
    exact ⟨n, rfl, hq _ _ _ _ s' r' (.str _) z⟩⟩
end
end DL

namespace DL
open PySem PySem.Spec PyProof.Rows L2
open PySem.W (Frag)
variable {X : Cx} {W : WX} {e o a b c value : Expr} {es : List Expr} {ta tb tc to tv : TED} {t u : TAD} {tA tB' : TTD} {pos pos' apos cpos : Pos}
section
variable {k : Nat} {f g C p : Addr} {fd : FuncData} {ps : List Str} {sp : SpD}
/-! ### properties -/
theorem getpropG {n : Str} {pins : List (Addr × Obj)} {σ : L2.St} {H : Hp} {s : Shared} {Q : VK} {a dx : Addr} {fs : List (Str × V)} {bb : Bool} {E' : Value → Shared → Prop} (I : Inv X pins σ H s) (ea : H a = some (.ins C dx fs)) (cl : Cls X.K C) (hp : PropOf X.K C n p g)
    (F : FnG X.prog X.w X.K X.mg X.base k g fd ps sp) (hg : X.A.guards = some []) (hr : Room (k + 1) X.A) (hb : Binds X.K fd ps []) (h : lsp X.K sp [.ref a] H Q E0) :
    wpAny (model X.prog X.w) X.A (getAttr (.ref a) n bb) (EP X pins σ Q) E' s := by
  obtain ⟨mA, O, _, _, _, _⟩ := ins_get I.hok ea
  obtain ⟨od, J, _⟩ := O.look
  obtain ⟨rest, hrec⟩ := hp.rec_
  have I1 := I.tok (s.toks + 1)
  have hl : [Value.ref a].length = ps.length := F.llen h
  have b1 := hb { s with toks := s.toks + 1 } [Value.ref a] I1.kIn (by rw [List.append_nil]; exact hl)
  rw [List.append_nil] at b1
  have hc : (PySem.W.clsIn X.K C).isSome = true := by
    obtain ⟨cd, hc, _⟩ := PySem.W.any_some cl.hd
    rw [hc]
    rfl
  refine PySem.W.get_bind I.kIn J (PySem.W.plainGet_of (cl.get n)).1 (PySem.W.findObj_data hc hp.at_ hp.get hp.tak) (PySem.W.plainGet_of (cl.get n)).2 (wpAny_call (PySem.W.prop_get (s := { s with toks := s.toks + 1 }) I.kIn hrec ?_))
  refine codeAny_mono (F.run X.A.in1 X.stack { s with toks := s.toks + 1 } H ⟨[.ref a], []⟩ [.ref a] [.ref a] Q E0 (guards_in1 hg) hr.in1 I1.env0.in1 b1 (.cons (vref a) .nil) h) fun r s' hq => ?_
  cases r with
  | error er => exact False.elim (passL (X := X.nox) pins σ H { s with toks := s.toks + 1 } er s' (I1.wish _) hq)
  | ok fl =>
    cases fl with
    | ret u =>
      obtain ⟨v, H', I3, rv, q3⟩ := I1.after hq
      show wpAny _ _ (handedOut u) _ _ _
      rw [PySem.W.handedOut_of (handed_of rv)]
      exact wpAny_pure ⟨v, H', I3, rv, q3⟩
    | next => exact False.elim hq
    | brk => exact False.elim hq
    | cont => exact False.elim hq
def dProp (c : Str) (sp : SpD) (ta : TED) : TED := fun σ G Q E => ta σ G (fun x G1 => ∃ ns ds, InsD G1 x c ns ds ∧ sp [x] G1 Q (fun _ _ => False)) E
theorem de_prop {c n : Str} (hC : gaddr X.K c = some C) (cl : Cls X.K C) (hp : PropOf X.K C n p g) (F : FnG X.prog X.w X.K X.mg X.base k g fd ps sp) (hg : X.A.guards = some []) (hr : Room (k + 1) X.A) (hb : Binds X.K fd ps []) (ha : DE X W a ta)
    (hab : attributeBase a n X.env (eval a X.env) = eval a X.env := by rfl) : DE X W (.Attribute a n pos) (dProp c sp ta) := by
  have ha' : PE X a (lft X.K W ta) := ha
  refine ⟨fun pins s σ H Q I ⟨σD, G, QD, E, hR, hS, q, hq, hE⟩ => ?_⟩
  refine attr_of hab (thn (ha'.run pins s σ H (fun v H1 => ∃ d G1, Stp H G H1 G1 ∧ RelH X.K H1 G1 ∧ Rp X.K H1 G1 d v ∧ ∃ ns ds, InsD G1 d c ns ds ∧ sp [d] G1 QD (fun _ _ => False)) I ⟨σD, G, _, E, hR, hS, q, fun v H1 d G1 s1 r1 p1 z => ⟨d, G1, s1, r1, p1, z⟩, hE⟩) fun u s1 ⟨x, H1, I1, rx, d, G1, s1', r1, p1, ns, ds, hi, q1⟩ => ?_)
  obtain ⟨a, C', dx, xs, ex, h1, h2, h3, h4⟩ := hi.of r1 p1
  rw [hC] at h1; cases h1
  subst ex
  obtain rfl : u = Value.ref a := rx
  exact getpropG I1 h2 cl hp F hg hr hb (lsp0 r1 (.cons p1 .nil) q1 (hq.mono s1'))
/-! ### the truth of an instance with __bool__ -/
def dTruO (c : Str) (sp : SpD) (ta : TED) : TTD := fun σ G Q E => ta σ G (fun x G1 => ∃ ns ds, InsD G1 x c ns ds ∧ sp [x] G1 (fun v G2 => ∃ b, v = .bl b ∧ Q b G2) (fun _ _ => False)) E
theorem truthyO {c : Str} {pins : List (Addr × Obj)} {σ : L2.St} {H : Hp} {s : Shared} {a dx : Addr} {fs : List (Str × V)} {Q : Bool → Hp → Prop} (hm : Meth X.K C "__bool__" f) (F : FnG X.prog X.w X.K X.mg X.base k f fd ps sp) (hg : X.A.guards = some []) (hr : Room k X.A) (hb : Binds X.K fd ps []) (I : Inv X pins σ H s) (ea : H a = some (.ins C dx fs))
    (h : lsp X.K sp [.ref a] H (fun v H1 => ∃ b, v = .bl b ∧ Q b H1) E0) : wpAny (model X.prog X.w) X.A (truthy (.ref a)) (fun b s' => ∃ H', Inv X pins σ H' s' ∧ Q b H') X.xe s := by
  obtain ⟨m, fr⟩ := fr_of I
  obtain ⟨ox, od, J, _⟩ := inst_of I ea
  refine PySem.W.truthy_K fr I.ok.mod.kin J hm.at_ hm.fn (wpAny_mono (run_at F hg hr I.env0 hb I (us := [.ref a]) (.cons (vref a) .nil) h) (fun r s' hr' => ?_) fun _ _ z => z)
  obtain ⟨w, H', J', rw', b, ew, q'⟩ := hr'
  subst ew
  obtain rfl : r = Value.bool b := rw'
  exact ⟨H', J', q'⟩
theorem dt_truO {c : Str} (hC : gaddr X.K c = some C) (hm : Meth X.K C "__bool__" f) (F : FnG X.prog X.w X.K X.mg X.base k f fd ps sp) (hg : X.A.guards = some []) (hr : Room k X.A) (hb : Binds X.K fd ps []) (ha : DE X W a ta)
    (he : ∀ whole, isTrue a X.env whole = (do let v ← whole; standAt a.pos; holding [v] (truthy v)) := by intro _; rfl) : DT X W a (dTruO c sp ta) := by
  have ha' : PE X a (lft X.K W ta) := ha
  refine ⟨fun pins s σ H Q I ⟨σD, G, QD, E, hR, hS, q, hq, hE⟩ => ?_⟩
  refine isTrue_plain (thn (ha'.run pins s σ H (fun v H1 => ∃ d G1, Stp H G H1 G1 ∧ RelH X.K H1 G1 ∧ Rp X.K H1 G1 d v ∧ ∃ ns ds, InsD G1 d c ns ds ∧ sp [d] G1 (fun v G2 => ∃ b, v = .bl b ∧ QD b G2) (fun _ _ => False)) I ⟨σD, G, _, E, hR, hS, q, fun v H1 d G1 s1 r1 p1 z => ⟨d, G1, s1, r1, p1, z⟩, hE⟩) fun u s1 ⟨x, H1, I1, rx, d, G1, s1', r1, p1, ns, ds, hi, q1⟩ => ?_) (he _)
  obtain ⟨a, C', dx, xs, ex, h1, h2, h3, h4⟩ := hi.of r1 p1
  rw [hC] at h1; cases h1
  subst ex
  obtain rfl : u = Value.ref a := rx
  exact truthyO (c := c) hm F hg hr hb I1 h2 (lsp0 r1 (.cons p1 .nil) q1 fun v H' d G' s' r' p' ⟨b, e, z⟩ => by
    subst e; cases p'
    exact ⟨b, rfl, hq _ _ _ (s1'.trans s') r' z⟩)
/-! ### operators of own classes -/
def dOpO (c : Str) (sp : SpD) (ta tb : TED) : TED := fun σ G Q E => ta σ G (fun x G1 => tb σ G1 (fun y G2 => ∃ ns ds ns' ds', InsD G2 x c ns ds ∧ InsD G2 y c ns' ds' ∧ sp [x, y] G2 Q E) E) E
theorem InsD.mono' {K H G H' G' x c ns ds v} (h : InsD G' x c ns ds) (hR : RelH K H' G') (s : Stp H G H' G') (p : Rp K H G x v) : Rp K H' G' x v := p.mono s
theorem de_opO {c : Str} {op : Operator} {m : Str} (hC : gaddr X.K c = some C) (hsf : PySem.W.selfFirst X.K C = true) (hm : Meth X.K C m f) (em : PySem.dunder op.info.2 = m) (F : FnG X.prog X.w X.K X.mg X.base k f fd ps sp) (hg : X.A.guards = some []) (hr : Room k X.A) (hb : Binds X.K fd ps []) (tk : Takes X W)
    (ha : DE X W a ta) (hb' : DE X W b tb) : DE X W (.BinOp a op b pos) (dOpO c sp ta tb) := by
  have ha1 : PE X a (lft X.K W ta) := ha
  have hb1 : PE X b (lft X.K W tb) := hb'
  refine ⟨fun pins s σ H Q I ⟨σD, G, QD, E, hR, hS, q, hq, hE⟩ => ?_⟩
  refine wpAny_BinOp (binT ha1 hb1 (R := fun x y H2 => ∃ aa dx fs bb dy gs, x = .ref aa ∧ y = .ref bb ∧ H2 aa = some (.ins C dx fs) ∧ H2 bb = some (.ins C dy gs) ∧ lsp X.K sp [x, y] H2 Q (WE W σ)) I ?_ fun v u s2 x y H2 I2 rx ry ⟨aa, dx, fs, bb, dy, gs, ex, ey, ea, eb, hl⟩ => ?_)
  · refine ⟨σD, G, _, E, hR, hS, q, fun v1 H1 d1 G1 s1 r1 p1 q1 => ?_, hE⟩
    refine ⟨σD, G1, _, E, r1, hS.mono s1, q1, fun v2 H2 d2 G2 s2 r2 p2 ⟨ns, ds, ns', ds', hi, hj, q2⟩ => ?_, hE.mono s1⟩
    have p1' := p1.mono s2
    obtain ⟨aa, C1, dx, xs, e1, h1, h2, _, _⟩ := hi.of r2 p1'
    obtain ⟨bb, C2, dy, ys, e2, k1, k2, _, _⟩ := hj.of r2 p2
    rw [hC] at h1 k1; cases h1; cases k1
    exact ⟨aa, dx, _, bb, dy, _, e1, e2, h2, k2, [d1, d2], G2, QD, E, r2, .cons p1' (.cons p2 .nil), q2, hq.mono (s1.trans s2), fun xd cls d' H' G' s' r' p' z' => hE _ _ _ _ _ ((s1.trans s2).trans s') r' p' z'⟩
  · subst ex; subst ey
    obtain rfl : v = Value.ref aa := rx
    obtain rfl : u = Value.ref bb := ry
    obtain ⟨m', fr⟩ := fr_of I2
    obtain ⟨ox, od, J, _⟩ := inst_of I2 ea
    obtain ⟨oy, oe, J2, _⟩ := inst_of I2 eb
    refine PySem.W.binop_K fr I2.ok.mod.kin J J2.type hsf (by rw [em]; exact hm.at_) hm.fn (wpAny_mono (run_call F hg hr hb tk I2 (us := [.ref aa, .ref bb]) (vs := [.ref aa, .ref bb]) (.cons (vref aa) (.cons (vref bb) .nil)) hl) (fun r s' hr' => ?_) fun _ _ z => z)
    obtain ⟨w, H', J', rw', q'⟩ := hr'
    cases r <;> first | exact ⟨w, H', J', rw', q'⟩ | (cases w <;> first | exact (nomatch rw') | (obtain ⟨_, z⟩ := rw'; cases z))
end
end DL

namespace DL
open PySem PySem.Spec PyProof.Rows L2
open PySem.W (Frag)
variable {X : Cx} {W : WX} {e o a b c value : Expr} {es : List Expr} {ta tb tc to tv : TED} {t u : TAD} {tA tB' : TTD} {pos pos' apos cpos : Pos}
/-! ### errors of own classes: raised -/
theorem Rps.reverse {K H G} : ∀ {ds : List D} {vs : List V}, Rps K H G ds vs → Rps K H G ds.reverse vs.reverse
  | _, _, .nil => .nil
  | _, _, .cons a r => by rw [List.reverse_cons, List.reverse_cons]; exact (Rps.reverse r).append (.cons a .nil)
/-- what __init__ leaves: the fields, the last one first -/
def spExc (C : Addr) (fns : List Str) : Sp := fun vs H Q _ => ∃ a ws, vs = .ref a :: ws ∧ ws.length = fns.length ∧ H a = some (exo a C none) ∧ ∀ dx, H dx = none → dx ≠ a → Q .non (upd (upd H dx (exd dx (fns.reverse.zip ws.reverse))) a (exo a C (some dx)))
section
variable {P : Program} {w : World} {K : Frag} {mg : Str → Option Value} {base : Heap}
theorem fn_exc1 {C : Addr} {qual p f : Str} {st : Stmt} {fI : Addr} {fd : FuncData} (T : OexC K C) (no : PySem.W.findIn K (.ref C) f = some none) (F : Fun K "__init__" qual st fI fd) (S : FnScope ["self", p] ["self", p] (defScope st))
    (hd : (p == ("__debug__" : Str)) = false) (hcd : (p == ("__classdict__" : Str)) = false) (hl : (defScope st).names.lookup p = some .local) (hs : (defScope st).names.lookup ("self" : Str) = some .local)
    (hb : ∃ q1 q2 q3 q4, defBody st = [.Assign [.Attribute (.Name "self" q1) f q2] (.Name p q3) q4]) :
    FnOk P w K mg base CX0 1 fI fd ["self", p] (spExc C [f]) := by
  obtain ⟨q1, q2, q3, q4, hb⟩ := hb
  refine F.ok (k := 0) S ?_ fun cdv A outer s H vs Q E hr hsp => ?_
  · rintro vs H Q E ⟨a, ws, rfl, h1, _⟩
    simpa using h1
  obtain ⟨a, ws, rfl, h1, h2, hq⟩ := hsp
  obtain ⟨v, rfl⟩ : ∃ v, ws = [v] := by
    cases ws with
    | nil => simp at h1
    | cons v r => cases r with
      | nil => exact ⟨v, rfl⟩
      | cons _ _ => simp at h1
  refine ⟨_, by rw [hb]; exact pss_one (ps_ost (pe_var (i := 0) rfl (Or.inl hs)) (pe_var (i := 1) rfl (Or.inl hl) hd hcd) (by rfl)), ?_⟩
  refine ⟨v, rfl, .ref a, rfl, a, C, rfl, T, no, .inl ⟨h2, fun dx hdx hne => hq dx hdx hne⟩⟩
theorem fn_exc2 {C : Addr} {qual p q f g : Str} {st : Stmt} {fI : Addr} {fd : FuncData} (T : OexC K C) (no : PySem.W.findIn K (.ref C) f = some none) (no2 : PySem.W.findIn K (.ref C) g = some none) (F : Fun K "__init__" qual st fI fd) (S : FnScope ["self", p, q] ["self", p, q] (defScope st))
    (hd : (p == ("__debug__" : Str)) = false) (hcd : (p == ("__classdict__" : Str)) = false) (hl : (defScope st).names.lookup p = some .local) (hs : (defScope st).names.lookup ("self" : Str) = some .local)
    (hd2 : (q == ("__debug__" : Str)) = false) (hcd2 : (q == ("__classdict__" : Str)) = false) (hl2 : (defScope st).names.lookup q = some .local)
    (hb : ∃ q1 q2 q3 q4 r1 r2 r3 r4, defBody st = [.Assign [.Attribute (.Name "self" q1) f q2] (.Name p q3) q4, .Assign [.Attribute (.Name "self" r1) g r2] (.Name q r3) r4]) :
    FnOk P w K mg base CX0 1 fI fd ["self", p, q] (spExc C [f, g]) := by
  obtain ⟨q1, q2, q3, q4, r1, r2, r3, r4, hb⟩ := hb
  refine F.ok (k := 0) S ?_ fun cdv A outer s H vs Q E hr hsp => ?_
  · rintro vs H Q E ⟨a, ws, rfl, h1, _⟩
    simpa using h1
  obtain ⟨a, ws, rfl, h1, h2, hq⟩ := hsp
  obtain ⟨v, v', rfl⟩ : ∃ v v', ws = [v, v'] := by
    cases ws with
    | nil => simp at h1
    | cons v r => cases r with
      | nil => simp at h1
      | cons v' r => cases r with
        | nil => exact ⟨v, v', rfl⟩
        | cons _ _ => simp at h1
  refine ⟨_, by rw [hb]; exact pss_cons (ps_ost (pe_var (i := 0) rfl (Or.inl hs)) (pe_var (i := 1) rfl (Or.inl hl) hd hcd) (by rfl)) (pss_one (ps_ost (pe_var (i := 0) rfl (Or.inl hs)) (pe_var (i := 2) rfl (Or.inl hl2) hd2 hcd2) (by rfl))), ?_⟩
  refine ⟨v, rfl, .ref a, rfl, a, C, rfl, T, no, .inl ⟨h2, fun dx hdx hne => ?_⟩⟩
  refine ⟨v', rfl, .ref a, rfl, a, C, rfl, T, no2, .inr ⟨dx, [(f, v)], upd_same, by rw [upd_ne hne]; exact upd_same, by simp, ?_⟩⟩
  have e : upd (upd (upd H dx (exd dx [(f, v)])) a (exo a C (some dx))) dx (exd dx ((g, v') :: [(f, v)])) = upd (upd H dx (exd dx ([f, g].reverse.zip [v, v'].reverse))) a (exo a C (some dx)) := by
    funext b
    by_cases hb : b = dx
    · subst hb; rw [upd_same, upd_ne hne, upd_same]; rfl
    · by_cases ha : b = a
      · subst ha; rw [upd_ne hb, upd_same, upd_same]
      · rw [upd_ne hb, upd_ne ha, upd_ne hb, upd_ne ha, upd_ne hb]
  show Q .non _
  rw [e]
  exact hq dx hdx hne
end
def dRaise (c : Str) (fns : List Str) (t : TAD) : TSD := fun D σ G => t σ G (fun ds G1 => ds.length = fns.length ∧ D.ex ⟨.own c, fns.reverse, ds.reverse⟩ σ G1) (fun x G' => D.ex x σ G')
section
variable {k : Nat} {C fI : Addr} {fd : FuncData} {ps : List Str} {c x : Str} {p : Pos} {fns : List Str}
theorem ds_raise (hc : X.calm = true) (tk : Takes X W) (hC : gaddr X.K c = some C) (T : OexC X.K C) (iC : PySem.W.findIn X.K (.ref C) "__init__" = some (some (.ref fI))) (tI : PySem.W.typeIn X.K (.ref fI) = some (.type "function"))
    (F1 : FnOk X.prog X.w X.K X.mg X.base CX0 k fI fd ps (spExc C fns)) (hr : Room (k + 1) X.A) (hb : Binds X.K fd ps []) (hg : Gl X x) (hm : X.mg x = some (.ref C)) (hn : fns.length ≤ 1000) (ha : DA X W (e :: es) t)
    (hdb : (x == ("__debug__" : Str)) = false := by decide) (he : starEach (e :: es) X.env = (false, eval e X.env) :: starEach es X.env := by rfl) (hpl : (backTo pos' (starEach es X.env)).any (·.1) = false := by rfl) :
    DS X W (.Raise (some (.Call (.Name x p) (e :: es) [] pos')) none pos) (dRaise c fns t) := by
  refine PS.imp (ps_raise hc tk (pmk_oex (pos := pos') T iC tI F1 hr hb .nil (fun _ _ _ _ _ _ _ z => z.elim) hg hm ha hdb he hpl)) fun D σ H ⟨σD, G, DD, hR, hS, q, hE⟩ => ?_
  refine ⟨σD, G, _, _, hR, hS, q, fun vs H1 ds G1 s1 r1 p1 ⟨hl, z⟩ => ?_, hE.ex.at hS⟩
  refine ⟨by rw [← p1.length]; omega, fun a ha => ⟨a, vs ++ [], rfl, by rw [List.append_nil, ← p1.length]; exact hl, upd_same, fun dx hdx hne => ⟨rfl, dx, _, upd_same, by rw [upd_ne hne]; exact upd_same, by rw [← hdx, upd_ne hne], ?_⟩⟩⟩
  rw [List.append_nil]
  have hd1 : H1 dx = none := by rw [← hdx, upd_ne hne]
  have e : upd (del (upd (upd (upd H1 a (exo a C none)) dx (exd dx (fns.reverse.zip vs.reverse))) a (exo a C (some dx))) a) dx (.xd (fns.reverse.zip vs.reverse)) = upd H1 dx (.xd (fns.reverse.zip vs.reverse)) := by
    funext b
    by_cases hb : b = dx
    · subst hb; rw [upd_same, upd_same]
    · rw [upd_ne hb, upd_ne hb]
      by_cases hba : b = a
      · subst hba; rw [del_same, ha]
      · rw [del_ne hba, upd_ne hba, upd_ne hb, upd_ne hba]
  rw [e]
  have s2 := Stp.new (G := G1) (o := .xd (fns.reverse.zip vs.reverse)) hd1
  exact hE.ex ⟨.own c, fns.reverse, ds.reverse⟩ _ _ _ σD _ G1 (s1.trans s2) (r1.new hd1) (hS.mono (s1.trans s2)) ⟨⟨C, hC, rfl⟩, vs.reverse, upd_same, r1.free hd1, by rw [List.length_reverse, List.length_reverse, ← p1.length]; exact hl.symm, (p1.mono s2).reverse⟩ z
end
end DL

namespace DL
open PySem PySem.Spec PyProof.Rows L2
open PySem.W (Frag)
variable {X : Cx} {W : WX} {e o a b c value : Expr} {es : List Expr} {ta tb tc to tv : TED} {t u : TAD} {tA tB' : TTD} {pos pos' apos cpos : Pos}
/-! ### defs f(a, .., *v) -/
/-- as FnG, by the arguments as they are given -/
def FnS (P : Program) (w : World) (K : Frag) (mg : Str → Option Value) (base : Heap) (k : Nat) (f : Addr) (sp : SpD) : Prop :=
  ∀ (A : Around) (outer : List Env) (s : Shared) (H : Hp) (us : List Value) (vs : List V) (Q : VK) (E : XK), A.guards = some [] → Room k A → Env0 P w K mg base A outer s H → Vals vs us → lsp K sp vs H Q E →
    codeAny (model P w) A (.call (.ref f) ⟨us, []⟩) (CR (L2.CX P w) outer P w H s Q E) s
/-- what is left over is a new tuple -/
def starSp (m : Nat) (sp : SpD) : SpD := fun ds G Q E => m ≤ ds.length ∧ ds.length ≤ sizeLine ∧ sp (ds.take m ++ [.tup (ds.drop m)]) G Q E
section
variable {P : Program} {w : World} {K : Frag} {mg : Str → Option Value} {base : Heap}
theorem FunG.star {x qual : Str} {st : Stmt} {f : Addr} {fd : FuncData} {N ps : List Str} {pv : Str} {k : Nat} {sp : SpD} (F : Fun K x qual st f fd) (S : FnScope N (ps ++ [pv]) (defScope st))
    (hb : ∀ us rest : List Value, us.length = ps.length → bindArgs fd ⟨us ++ rest, []⟩ = (newTuple rest >>= fun t => pure (ps.zip us ++ [(pv, t)])))
    (len : ∀ ds G Q E, sp ds G Q E → ds.length = ps.length + 1)
    (hbody : ∀ (cdv : Value) (A : Around) (outer : List Env) (s : Shared) (H : Hp) (E : XK), A.guards = some [] → Room k (A.deeper (envOfC qual (defScope st) s.heap.objs.size f cdv)) →
      ∃ t, DSs (cxOf (L2.CX P w) P w K mg base N qual (defScope st) f cdv A outer s H E) (WD E) (defBody st) t ∧
        ∀ ds G Q EX, sp ds G Q EX → t { nx := fun _ G' => Q .non G', rt := Q, ex := fun x _ G' => EX x G' } (startD N ds) G) : FnS P w K mg base (k + 1) f (starSp ps.length sp) := by
  obtain ⟨oc, od, kV, doc, pm, an, cdv, ct, osl, rfl, lk, hcd⟩ := F.ex
  intro A outer s H us vs Q E hgd hr e0 r ⟨ds, G, QD, EX, hR, hrp, ⟨hlen, hz, hq⟩, hct, hex⟩
  have hlv := hrp.length
  have hlu := r.length
  have hn : H s.heap.objs.size = Option.none := e0.hok.fresh (Nat.le_refl _)
  have hl1 : (us.take ps.length).length = ps.length := by rw [List.length_take]; omega
  have hl2 : (us.drop ps.length).length ≤ sizeLine := by rw [List.length_drop]; omega
  have r1 : Vals (vs.take ps.length) (us.take ps.length) := by
    obtain ⟨u1, u2, eu, a1, a2⟩ := StX.vals_split (ws := vs.take ps.length) (rest := vs.drop ps.length) (by rw [List.take_append_drop]; exact r)
    have : u1 = us.take ps.length := by
      rw [eu, List.take_append_of_le_length (by rw [← a1.length, List.length_take]; omega), List.take_of_length_le (by rw [← a1.length, List.length_take]; omega)]
    rw [← this]; exact a1
  have r2 : Vals (vs.drop ps.length) (us.drop ps.length) := by
    obtain ⟨u1, u2, eu, a1, a2⟩ := StX.vals_split (ws := vs.take ps.length) (rest := vs.drop ps.length) (by rw [List.take_append_drop]; exact r)
    have hu1 : u1.length = ps.length := by rw [← a1.length, List.length_take]; omega
    have : u2 = us.drop ps.length := by
      rw [eu, ← hu1, List.drop_left]
    rw [← this]; exact a2
  have eus : us = us.take ps.length ++ us.drop ps.length := (List.take_append_drop _ _).symm
  refine StX.run_bnd lk hcd S hr e0 (G := fun xs H2 => ∃ p, H p = Option.none ∧ xs = vs.take ps.length ++ [V.ref p] ∧ H2 = upd H p (.tup (vs.drop ps.length))) (fun A' Ex Q' h => ?_) fun s2 H2 xs ⟨p, hp, ex, eH⟩ hr' => ?_
  · rw [eus, hb _ _ hl1]
    refine wpAny_bind (wpAny_newTuple (wpAny_pure ?_) hl2)
    have new : ObjOk P w (upd H s.heap.objs.size (.tup (vs.drop ps.length))) (s.heap.push ({ cls := .type "tuple", data := .seq (us.drop ps.length).toArray } : Obj)) s.heap.objs.size (.tup (vs.drop ps.length)) := ⟨by rw [r2.length]; exact hl2, us.drop ps.length, r2, ⟨_, Heap.get?_push_size _ rfl, rfl, _, rfl⟩⟩
    have un := StX.un_laid (fs := frs outer) (s := s) (o := ({ cls := .type "tuple", data := .seq (us.drop ps.length).toArray } : Obj)) (u := .tup (vs.drop ps.length)) hn
    have z := h _ _ (vs.take ps.length ++ [V.ref s.heap.objs.size]) (us.take ps.length ++ [Value.ref s.heap.objs.size]) (StX.env0_laid e0 new) un rfl (fun e s' => StX.cxUp outer s H _ _ E e s' un (fun b o q => Heap.get?_push_of_some _ q) rfl) (r1.append (.cons rfl .nil))
      (by rw [List.length_append, List.length_append, r1.length, hl1] <;> rfl) ⟨_, hn, rfl, rfl⟩
    rw [List.zip_append hl1.symm] at z
    exact z
  · subst ex eH
    obtain ⟨t, ht, hv⟩ := hbody cdv A outer s2 (upd H p (.tup (vs.drop ps.length))) E hgd hr'
    refine ⟨_, ht, startD N (ds.take ps.length ++ [.tup (ds.drop ps.length)]), G, _, hR.new hp, ?_, hv _ G QD EX hq, ?_⟩
    · refine SRp.start (((hrp.take _).mono (Stp.new hp)).append (.cons (.tup (.inl ⟨upd_same, hR.free hp⟩) ((hrp.drop _).mono (Stp.new hp))) .nil))
    · have s0 := Stp.new (G := G) (o := .tup (vs.drop ps.length)) hp
      exact ⟨fun _ H' _ G' s r _ z => hct _ _ _ _ (s0.trans s) r .non z, fun v H' d G' s r p' q => hct v H' d G' (s0.trans s) r p' q, fun _ _ _ _ _ _ _ z => z.elim, fun _ _ _ _ _ _ _ z => z.elim, fun x cls d _ _ H' G' s r _ p' z => hex x cls d H' G' (s0.trans s) r p' z⟩
end
section
variable {k : Nat} {f C : Addr} {sp : SpD} {c x : Str} {p sp_ : Pos}
theorem run_makeS {pins : List (Addr × Obj)} {σ : L2.St} {H : Hp} {s : Shared} {Q : VK} {us : List Value} {vs : List V} (M : Mk X.K C f) (F : FnS X.prog X.w X.K X.mg X.base k f sp) (hg : X.A.guards = some []) (hr : Room (k + 1) X.A) (tk : Takes X W)
    (I : Inv X pins σ H s) (r : Vals vs us)
    (h : ∀ x dx, H x = none → H dx = none → dx ≠ x → lsp X.K sp (.ref x :: vs) (upd (upd H dx (.own x)) x (.ins C dx [])) (fun v H2 => v = .non ∧ Q (.ref x) H2) (WE W σ)) :
    wpAny (model X.prog X.w) X.A (call (.ref C) us) (EP X pins σ Q) X.xe s := by
  have hq := h (s.heap.objs.size + 1) s.heap.objs.size (I.hok.fresh (Nat.le_succ _)) (I.hok.fresh (Nat.le_refl _)) (Nat.ne_of_lt (Nat.lt_succ_self _))
  have I2 := Inv.made (C := C) I
  have r2 : Vals (V.ref (s.heap.objs.size + 1) :: vs) (Value.ref (s.heap.objs.size + 1) :: us) := .cons rfl r
  refine wpAny_call (make_map (f := f) I.kIn M.makes M.init (beq_iff_eq.mp M.fn) (codeAny_mono (F _ X.stack _ _ (Value.ref (s.heap.objs.size + 1) :: us) _ _ (WE W σ) (guards_make hg C us []) (hr.make C us []) (I2.env0.make C us []) r2 hq) fun r s' hq' => ?_))
  cases r with
  | error e => exact passAt tk σ pins _ _ e s' I2 hq'
  | ok fl =>
    cases fl with
    | ret u =>
      obtain ⟨v, H', I3, rv, ev, q3⟩ := I2.after hq'
      subst ev
      exact ⟨rv, ⟨V.ref (s.heap.objs.size + 1), H', I3, rfl, q3⟩⟩
    | next => exact False.elim hq'
    | brk => exact False.elim hq'
    | cont => exact False.elim hq'
theorem de_makeS (fr : Bool) (hC : gaddr X.K c = some C) (M : Mk X.K C f) (F : FnS X.prog X.w X.K X.mg X.base k f sp) (hgd : X.A.guards = some []) (hr : Room (k + 1) X.A) (hg : Gl X x) (hm : X.mg x = some (.ref C)) (tk : Takes X W)
    (ha : DA X W (e :: es) t) (hdb : (x == ("__debug__" : Str)) = false := by decide) (he : starEach (e :: es) X.env = (false, eval e X.env) :: starEach es X.env := by rfl) (hpl : (backTo pos (starEach es X.env)).any (·.1) = false := by rfl) :
    DE X W (.Call (.Name x p) (e :: es) [] pos) (dMake fr c sp t) := by
  have ha' : PA X (e :: es) (lftA X.K W t) := ha
  refine ⟨fun pins s σ H Q I h => ?_⟩
  refine wpAny_Call_Name_kw (ld_glob I hg hm ?_ hdb)
  exact PySem.W.callWith_K (h₀ := X.base) I.ok.mod.kin M.kp (thn (ha'.run pos pins s σ H _ I (lft_make hC h)) fun us s1 ⟨vs, H1, I1, r, q⟩ => ⟨I1.kIn, run_makeS M F hgd hr tk I1 r q⟩) he hpl
theorem de_makeS0 (fr : Bool) (hC : gaddr X.K c = some C) (M : Mk X.K C f) (F : FnS X.prog X.w X.K X.mg X.base k f sp) (hgd : X.A.guards = some []) (hr : Room (k + 1) X.A) (hg : Gl X x) (hm : X.mg x = some (.ref C)) (tk : Takes X W)
    (hdb : (x == ("__debug__" : Str)) = false := by decide) : DE X W (.Call (.Name x p) [] [] pos) (dMake fr c sp dNil) := by
  refine ⟨fun pins s σ H Q I h => ?_⟩
  refine wpAny_Call_Name_kw (ld_glob I hg hm ?_ hdb)
  obtain ⟨σD, G, QD, E, hR, hS, q, hq, hE⟩ := lft_make hC h
  exact PySem.W.callWith_K0 I.kIn M.kp (run_makeS (us := []) (vs := []) M F hgd hr tk I .nil (hq [] H [] G Stp.refl hR .nil q))
/-- *e as the only argument -/
def dStar1 (ta : TED) : TAD := fun σ G Q E => ta σ G (fun x G1 => ∃ xs, Sq G1 x xs ∧ Q xs G1) E
theorem de_makeS1 (fr : Bool) (hC : gaddr X.K c = some C) (M : Mk X.K C f) (F : FnS X.prog X.w X.K X.mg X.base k f sp) (hgd : X.A.guards = some []) (hr : Room (k + 1) X.A) (hg : Gl X x) (hm : X.mg x = some (.ref C)) (tk : Takes X W)
    (he : DE X W e ta) (hdb : (x == ("__debug__" : Str)) = false := by decide) (hst : starEach [.Starred e sp_] X.env = [(true, eval e X.env)] := by rfl) :
    DE X W (.Call (.Name x p) [.Starred e sp_] [] pos) (dMake fr c sp (dStar1 ta)) := by
  have he' : PE X e (lft X.K W ta) := he
  refine ⟨fun pins s σ H Q I h => ?_⟩
  refine wpAny_Call_Name_kw (ld_glob I hg hm ?_ hdb)
  obtain ⟨σD, G, QD, E, hR, hS, q, hq, hE⟩ := lft_make hC h
  refine PySem.W.callWith_S (h₀ := X.base) I.ok.mod.kin M.kp (thn (he'.run pins s σ H (fun v H1 => ∃ d G1 xs, Stp H G H1 G1 ∧ RelH X.K H1 G1 ∧ Rp X.K H1 G1 d v ∧ Sq G1 d xs ∧ QD xs G1) I ⟨σD, G, _, E, hR, hS, q, fun v H1 d G1 s1 r1 p1 ⟨xs, z1, z2⟩ => ⟨d, G1, xs, s1, r1, p1, z1, z2⟩, hE⟩) fun v s1 ⟨y, H1, I1, ry, d, G1, xs, s1', r1, p1, z1, z2⟩ => ?_) hst
  obtain ⟨a, vs, ey, hsq, hrs⟩ := z1.of r1 p1
  subst ey
  obtain rfl : v = Value.ref a := ry
  exact StX.star_any I1 (hsq.elim .inr .inl) fun us s2 I2 rv => ⟨I2.kIn, run_makeS M F hgd hr tk I2 rv (hq vs H1 xs G1 s1' r1 hrs z2)⟩
end
end DL

namespace DL
open PySem PySem.Spec PyProof.Rows L2
open PySem.W (Frag)
variable {X : Cx} {W : WX} {e o a b c value : Expr} {es : List Expr} {ta tb tc to tv : TED} {t u : TAD} {tA tB' : TTD} {pos pos' apos cpos : Pos}
/-! ### texts: methods -/
def tyS : D → HH → Prop := fun x _ => ∃ z, x = .str z
theorem tyS_v {K H G d v} (p : Rp K H G d v) (h : tyS d G) : tyV K "str" v H := by
  obtain ⟨z, e⟩ := h
  subst e; cases p
  rfl
def mJoin : D → List D → HH → QD → Prop := fun x ds G Q => ∃ a y, ∃ ys : List Str, x = .str a ∧ ds = [y] ∧ Sq G y (ys.map D.str) ∧ (ys.map (·.length)).sum + ys.length * a.length ≤ 16777216 ∧ Q (.str (Txt.join a ys)) G
theorem mdJoin : MtD X "str" "str.join" tyS mJoin := ⟨fun _ _ _ _ _ p h => tyS_v p h, _, mt_join, fun x us H Q d ds G QD hR hp hps ⟨a, y, ys, e1, e2, e3, l, q⟩ hq => by
  subst e1; subst e2; cases hp
  obtain ⟨w, rfl, py⟩ := rps1 hps
  obtain ⟨p, vs, rfl, h, r⟩ := e3.of hR py
  rw [r.strs] at h
  exact ⟨a, p, ys, rfl, rfl, h, l, hq.now hR (.str _) q⟩⟩
theorem de_join (ho : DE X W o to) (ha : DA X W (e :: es) t)
    (hbase : attributeBase o "join" X.env (eval o X.env) = eval o X.env := by rfl)
    (hfew : ((backTo cpos (starEach (e :: es) X.env)).all (fun x => !x.1) && (backToKw cpos (keywordEach [] X.env)).all (fun x => x.1.isSome)
      && decide ((e :: es).length + ([] : List Keyword).length + (if ([] : List Keyword).isEmpty then 0 else 1) < 30)) = true := by rfl)
    (hline : (apos.endLine == cpos.line) = true := by rfl) (hs : starEach (e :: es) X.env = (false, eval e X.env) :: starEach es X.env := by rfl) (hplain : (backTo cpos (starEach es X.env)).any (·.1) = false := by rfl) :
    DE X W (.Call (.Attribute o "join" apos) (e :: es) [] cpos) (dBM tyS mJoin to t) := de_bm PySem.F.plainAttrs_str PySem.F.slot_str_join PySem.F.type_str_join mdJoin ho ha hbase hfew hline hs hplain
theorem st_join' {G : HH} {Q : QD} {a : Str} {y : D} {ys : List Str} (h : Sq G y (ys.map D.str)) (hl : (ys.map (·.length)).sum + ys.length * a.length ≤ 16777216) (q : Q (.str (Txt.join a ys)) G) : mJoin (.str a) [y] G Q := ⟨a, y, ys, rfl, rfl, h, hl, q⟩
theorem st_tyS {G : HH} {z : Str} {P : Prop} (h : P) : tyS (.str z) G ∧ P := ⟨⟨z, rfl⟩, h⟩
/-! ### f-texts -/
def dJs : List TED → Str → SD → HH → (Str → HH → Prop) → ED → Prop
  | [], acc, _, G, Q, _ => Q acc G
  | t :: ts, acc, σ, G, Q, E => t σ G (fun x G1 => ∃ y, x = .str y ∧ (acc ++ y).length ≤ sizeLine ∧ dJs ts (acc ++ y) σ G1 Q E) E
inductive DJ (X : Cx) (W : WX) : List Expr → List TED → Prop
  | nil : DJ X W [] []
  | cons {e : Expr} {t : TED} {es : List Expr} {ts : List TED} (h : DE X W e t) (r : DJ X W es ts) : DJ X W (e :: es) (t :: ts)
theorem DJ.pj {es : List Expr} {ts : List TED} (h : DJ X W es ts) : PJ X es (ts.map (lft X.K W)) := by
  induction h with
  | nil => exact .nil
  | cons h r ih => exact .cons h ih
theorem dJs_to {K : Frag} {σD : SD} {σ : L2.St} {QD : Str → HH → Prop} {E : ED} {Q : Str → Hp → Prop} : ∀ (ts : List TED) (acc : Str) (H : Hp) (G : HH), RelH K H G → SRp K H G σD σ → dJs ts acc σD G QD E → (∀ z H' G', Stp H G H' G' → RelH K H' G' → QD z G' → Q z H') → Exs K W σ H G E → tJs (ts.map (lft K W)) acc σ H Q
  | [], acc, H, G, hR, hS, q, hq, hE => hq _ _ _ Stp.refl hR q
  | t :: ts, acc, H, G, hR, hS, q, hq, hE => ⟨σD, G, _, E, hR, hS, q, fun v H1 d G1 s1 r1 p1 ⟨y, e, l, z⟩ => by
      subst e; cases p1
      exact ⟨y, rfl, l, dJs_to ts _ H1 G1 r1 (hS.mono s1) z (fun z H' G' s r q => hq z H' G' (s1.trans s) r q) (hE.mono s1)⟩, hE⟩
def dFStr (ts : List TED) : TED := fun σ G Q E => dJs ts Str.empty σ G (fun z G1 => Q (.str z) G1) E
theorem de_fstr {v1 v2 : Expr} {rest : List Expr} {ts : List TED} (h : DJ X W (v1 :: v2 :: rest) ts) : DE X W (.JoinedStr (v1 :: v2 :: rest) pos) (dFStr ts) :=
  PE.imp (pe_joined h.pj) fun σ H Q ⟨σD, G, QD, E, hR, hS, q, hq, hE⟩ => dJs_to ts _ H G hR hS q (fun z H' G' s r q => hq _ _ _ _ s r (.str z) q) hE
def dFmt (ta : TED) : TED := fun σ G Q E => ta σ G (fun x G1 => (∃ y : Str, x = .str y ∧ y.length ≤ sizeLine ∧ Q (.str y) G1) ∨ ∃ i : Int, x = .int i ∧ i.natAbs.log2 < 1920 ∧ Q (.str (toString i)) G1) E
theorem de_fmt (ha : DE X W a ta) : DE X W (.FormattedValue a (-1) none pos) (dFmt ta) := PE.imp (pe_fmt ha) fun σ H Q ⟨σD, G, QD, E, hR, hS, q, hq, hE⟩ =>
  ⟨σD, G, _, E, hR, hS, q, fun v H1 d G1 s1 r1 p1 z => by
    rcases z with ⟨y, e, l, z⟩ | ⟨i, e, l, z⟩ <;> subst e <;> cases p1
    · exact .inl ⟨y, rfl, l, hq _ _ _ _ s1 r1 (.str _) z⟩
    · exact .inr ⟨i, rfl, l, hq _ _ _ _ s1 r1 (.str _) z⟩, hE⟩
end DL

namespace DL
open PySem PySem.Spec PyProof.Rows L2
open PySem.W (Frag)
variable {X : Cx} {W : WX} {e o a b c value : Expr} {es : List Expr} {ta tb tc to tv : TED} {t u : TAD} {tA tB' : TTD} {pos pos' apos cpos : Pos}
/-! ### isinstance -/
theorem de_bltn {x : Str} {T : String} (hg : Gl X x) (hm : X.mg x = none) (hv : bootBuiltins x = some (.type T)) (hn : x ≠ "__name__" := by decide) (hd : (x == ("__debug__" : Str)) = false := by decide) : DE X W (.Name x pos) (dC (.ty T)) :=
  PE.imp (pe_bltn (v := .ty T) hg hm hv rfl hn hd) fun _ _ _ => lft_C fun _ _ => .ty T
theorem de_gv {x : Str} {A : Addr} (h : gaddr X.K x = some A) (hg : Gl X x) (hm : X.mg x = some (.ref A)) (hd : (x == ("__debug__" : Str)) = false := by decide) : DE X W (.Name x pos) (dC (.gv x)) :=
  PE.imp (pe_glob (v := .ref A) hg hm rfl hd) fun _ _ _ => lft_C fun _ _ => .gv h
/-- what kind a value is -/
inductive Kd where
  | bi (T : String) | own (c : Str)
inductive TyD (G : HH) : D → Kd → Prop
  | non : TyD G .non (.bi "NoneType")
  | bl (b : Bool) : TyD G (.bl b) (.bi "bool")
  | int (i : Int) : TyD G (.int i) (.bi "int")
  | str (x : Str) : TyD G (.str x) (.bi "str")
  | tup (xs : List D) : TyD G (.tup xs) (.bi "tuple")
  | lst (xs : List D) : TyD G (.lst xs) (.bi "list")
  | ref {p : Addr} {xs : List D} : G p = some (.lst xs) → TyD G (.ref p) (.bi "list")
  | dict {p : Addr} {kvs : List (Key × D)} : G p = some (.dK kvs) → TyD G (.ref p) (.bi "dict")
def Kd.is (K : Frag) : Kd → Value → Prop
  | .bi T, t => t = .type T
  | .own c, t => ∃ C, gaddr K c = some C ∧ t = .ref C
theorem TyD.of {K H G d v k} (h : TyD G d k) (hR : RelH K H G) (p : Rp K H G d v) : ∃ t, TyX K H v t ∧ k.is K t := by
  cases h with
  | non => cases p; exact ⟨_, .base .non, rfl⟩
  | bl => cases p; exact ⟨_, .base (.bl _), rfl⟩
  | int => cases p; exact ⟨_, .base (.int _), rfl⟩
  | str => cases p; exact ⟨_, .base (.str _), rfl⟩
  | tup =>
    cases p with
    | tup f r =>
      rcases f with ⟨f, _⟩ | ⟨o, its, n, f1, f2, _⟩
      · exact ⟨_, .base (.tup f), rfl⟩
      · exact ⟨_, .kTuple f1 f2, rfl⟩
  | lst => cases p with | lst f g r => exact ⟨_, .base (.lst f), rfl⟩
  | ref e => cases p; obtain ⟨xs, f, _⟩ := hR _ _ e; exact ⟨_, .base (.lst f), rfl⟩
  | dict e => cases p; obtain ⟨xs, f, _⟩ := hR _ _ e; exact ⟨_, .base (.dK f), rfl⟩
/-- isinstance(x, T), T a built-in class -/
def kIsi : RCD := c2 fun x y G Q => ∃ k T b, TyD G x (.bi k) ∧ y = .ty T ∧ kitB k T = some b ∧ Q (.bl b) G
theorem cIsi : CallD X (.builtin "isinstance") kIsi := ⟨_, call_isi, fun xs H Q ds G QD hR hp ⟨x, y, e, k, T, b, ht, ey, hk, q⟩ hq => by
  subst e
  obtain ⟨v, w, rfl, p1, p2⟩ := rps2 hp
  subst ey; cases p2
  obtain ⟨t, h1, h2⟩ := ht.of hR p1
  obtain rfl : t = .type k := h2
  exact ⟨v, .ty T, _, _, b, rfl, .ty T, h1, kit_ty hk, hq.now hR (.bl _) q⟩⟩
/-- what isinstance asks of the class of an instance -/
structure ClsI (K : Frag) (C : Addr) : Prop where
  cl : Cls K C
  ha : PySem.W.findIn K (.ref C) "__class__" = some (some (.builtin "object.__class__"))
  hn : PySem.W.specialIn K (.builtin "object.__class__") "__get__" = some (some (.builtin "getset_descriptor.__get__"))
  ht : PySem.W.takesIn K (.builtin "object.__class__") = some true
  hm : PySem.W.mroIn K C (.type "object") = some true
/-- isinstance(x, C), C an own class: what the table says of x's kind -/
def kIsiO (bi : List (String × Bool)) (ow : List (Str × Bool)) (c : Str) : RCD := c2 fun x y G Q => y = .gv c ∧ ((∃ k b, TyD G x (.bi k) ∧ (k, b) ∈ bi ∧ Q (.bl b) G) ∨ ∃ c' ns ds b, InsD G x c' ns ds ∧ (c', b) ∈ ow ∧ Q (.bl b) G)
theorem cIsiO {bi : List (String × Bool)} {ow : List (Str × Bool)} {c : Str} {C : Addr} (hC : gaddr X.K c = some C) (hb : ∀ p ∈ bi, PySem.W.kitOne X.K (.type p.1) (.ref C) = some p.2) (ho : ∀ p ∈ ow, ∀ C', gaddr X.K p.1 = some C' → ClsI X.K C' ∧ PySem.W.kitOne X.K (.ref C') (.ref C) = some p.2) : CallD X (.builtin "isinstance") (kIsiO bi ow c) :=
  ⟨_, call_isi, fun xs H Q ds G QD hR hp ⟨x, y, e, ey, z⟩ hq => by
    subst e
    obtain ⟨v, w, rfl, p1, p2⟩ := rps2 hp
    subst ey
    cases p2 with
    | gv hg =>
      rw [hC] at hg; cases hg
      rcases z with ⟨k, b, ht, hm, q⟩ | ⟨c', ns, ds, b, hi, hm, q⟩
      · obtain ⟨t, h1, h2⟩ := ht.of hR p1
        obtain rfl : t = .type k := h2
        exact ⟨v, .ref C, _, _, b, rfl, .own C, h1, hb _ hm, hq.now hR (.bl _) q⟩
      · obtain ⟨a, C', dx, xs, e, h1, h2, h3, h4⟩ := hi.of hR p1
        subst e
        obtain ⟨k1, k2⟩ := ho _ hm C' h1
        exact ⟨.ref a, .ref C, _, _, b, rfl, .own C, .base (.ins h2 k1.cl k1.ha k1.hn k1.ht k1.hm), k2, hq.now hR (.bl _) q⟩⟩
end DL

namespace PySem
open Sem (wp)
section
variable {prog : Program} {w : World} {A : Around} {E : Value → Shared → Prop} {s : Shared}
/-- bool(x), by what the truth of x comes to -/
theorem dl_bool_new {x : Value} {R : Result → Shared → Prop} (h : wpAny (model prog w) A.in1 (truthy x) (fun b s' => R (.ok (.ret (.bool b))) s') (fun e s' => R (.error e) s') s) :
    wpAny (model prog w) A.in1 (Builtin.«bool.__new__» ⟨[.type "bool", x], []⟩) (fun fin s' => match fin with | .done f => R (.ok f) s' | .again c' => c'.quiet = true ∧ codeAny (model prog w) A c' R s') (fun e s' => R (.error e) s') s := by
  have f1 := F.conv_sub_bool
  refine wpAny_mono (Q := fun fin s' => ∃ v, fin = .done (.ret v) ∧ R (.ok (.ret v)) s') (E := fun e s' => R (.error e) s') ?_ (fun fin s' h' => by obtain ⟨v, rfl, hv⟩ := h'; exact hv) fun _ _ x => x
  repeat (any_goals (first | assumption | (with_reducible refine wpAny_mono h (fun b s' hb => ?_) fun _ _ z => z) | wp_step))
  all_goals first | exact ⟨_, rfl, hb⟩ | skip
theorem dl_call_bool {x : Value} {Q : Value → Shared → Prop} (h : wpAny (model prog w) A.in1.in1 (truthy x) (fun b s' => Q (.bool b) s') E s) : wpAny (model prog w) A (call (.type "bool") [x]) Q E s := by
  have ft := F.called_bool
  obtain ⟨c, tl, hmro⟩ := ft.mro
  have hmade := ft.made
  have hsub := ft.sub
  refine wpAny_call (codeAny_of_tree ?_)
  show wpAny _ _ (callAny (.type "bool") _) _ _ _
  refine wpAny_pure ⟨Code.quiet_builtin _ (by decide +kernel), codeAny_builtin F.entry_type_call ?_⟩
  rw [Around.under_plain (weight_type_call_type "bool" [x] []) (units_type_call_type "bool" [x] [])]
  have h1 := ft.notType
  have h2 := ft.canCreate
  repeat (any_goals (first | assumption | wp_step))
  refine codeAny_mono (codeAny_call_builtin ft.plain F.entry_bool_new (wpAny_of_eq (F.newCall_bool_1 x) (dl_bool_new (R := wants (fun obj s₁ => s₁.TypeIs obj "bool" ∧ Q obj s₁) E) (wpAny_mono h (fun b s' hb => ⟨by first | exact typeIs_bool _ _ | exact rfl | trivial, hb⟩) fun _ _ z => z)))) fun r s₁ hr => ?_
  cases r with
  | error e => exact hr
  | ok fl =>
    cases fl with
    | ret obj =>
      obtain ⟨hT, hq⟩ := hr
      have hli := ft.init.lookup
      have hbi := ft.init.bind obj
      have hom := object_init_meets (rest := [x]) (self := obj) ft.init.lookup ft.made F.newNe_bool
      repeat (any_goals (first | assumption | wp_step))
      refine codeAny_mono (codeAny_call_builtin ft.init.plain F.entry_object_init (ft.init.check _ _ _ _ _ _ _ _ hT (F.args_object_init_2 obj x) (hom prog w A.in1 (wants (fun r s₂ => r = .none ∧ Q obj s₂) E) s₁ ⟨hT, rfl, hq⟩))) fun r₂ s₂ hr₂ => ?_
      cases r₂ with
      | error e => exact hr₂
      | ok fl₂ =>
        cases fl₂ with
        | ret r =>
          obtain ⟨rfl, hq⟩ := hr₂
          repeat (any_goals (first | assumption | wp_step))
        | _ => exact hr₂.elim
    | _ => exact hr.elim
end
end PySem
namespace DL
open PySem PySem.Spec PyProof.Rows L2
open PySem.W (Frag)
section
variable {X : Cx} {k : Nat} {f C : Addr} {fd : FuncData} {ps : List Str} {sp : SpD}
/-- bool(o) -/
def kBoolO (c : Str) (sp : SpD) : RCD := c1 fun x G Q => ∃ ns ds, InsD G x c ns ds ∧ sp [x] G (fun v G1 => ∃ b, v = .bl b ∧ Q (.bl b) G1) (fun _ _ => False)
theorem cBoolO {c : Str} (hC : gaddr X.K c = some C) (hm : Meth X.K C "__bool__" f) (F : FnG X.prog X.w X.K X.mg X.base k f fd ps sp) (hg : X.A.guards = some []) (hr : Room (k + 2) X.A) (hb : Binds X.K fd ps []) : CallD X (.type "bool") (kBoolO c sp) :=
  ⟨fun xs H Q => ∃ a dx fs, xs = [.ref a] ∧ H a = some (.ins C dx fs) ∧ lsp X.K sp [.ref a] H (fun v H1 => ∃ b, v = .bl b ∧ Q (.bl b) H1) E0, fun pins s σ H xs us Q I r ⟨a, dx, fs, ex, ha, q⟩ => by
    subst ex
    obtain ⟨u, rfl, ru⟩ := vals1 r
    obtain rfl : u = Value.ref a := ru
    obtain ⟨m, fr⟩ := fr_of I
    obtain ⟨ox, od, J, _⟩ := inst_of I ha
    refine PySem.dl_call_bool (PySem.W.truthy_K fr I.ok.mod.kin J hm.at_ hm.fn (wpAny_mono (run_at F (guards_in1 (guards_in1 hg)) hr.in1.in1 I.env0.in1.in1 hb I (us := [.ref a]) (.cons (vref a) .nil) q) (fun r s' hr' => ?_) fun _ _ z => z))
    obtain ⟨w, H', J', rw', b, ew, q'⟩ := hr'
    subst ew
    obtain rfl : r = Value.bool b := rw'
    exact ⟨.bl b, H', J', rfl, q'⟩, fun xs H Q ds G QD hR hp ⟨x, e, ns, ds', hi, q⟩ hq => by
    subst e
    obtain ⟨v, rfl, px⟩ := rps1 hp
    obtain ⟨a, C', dx', xs', e1, h1, h2, h3, h4⟩ := hi.of hR px
    rw [hC] at h1; cases h1
    subst e1
    refine ⟨a, dx', _, rfl, h2, lsp0 hR (.cons px .nil) q fun v H' d G' s' r' p' ⟨n, e, z⟩ => ?_⟩
    subst e; cases p'
    exact ⟨n, rfl, hq _ _ _ _ s' r' (.bl _) z⟩⟩
end
end DL

namespace DL
open PySem PySem.Spec PyProof.Rows L2
open PySem.W (Frag)
theorem lk_here {f : Str} {ns : List Str} {d : D} {ds : List D} : lk f (f :: ns) (d :: ds) = some d := by simp [lk]
theorem lk_next {f n : Str} {ns : List Str} {d e : D} {ds : List D} (h : n ≠ f) (k : lk f ns ds = some e) : lk f (n :: ns) (d :: ds) = some e := by simp [lk, h, k]
theorem lk_nil {f : Str} {ds : List D} : lk f [] ds = none := by cases ds <;> rfl
theorem lk_not {f n : Str} {ns : List Str} {d : D} {ds : List D} (h : n ≠ f) (k : lk f ns ds = none) : lk f (n :: ns) (d :: ds) = none := by simp [lk, h, k]
/-! ### steps: own classes -/
section
variable {σ σ' : SD} {G : HH} {Q : QD} {E : ED} {d x y z : D} {ta tb to tv : TED} {t : TAD} {nx bk ct : SD → HH → Prop} {rt : QD} {ex : XD → SD → HH → Prop} {QT : Bool → HH → Prop} {p : Addr} {c f m : Str} {ns fns : List Str} {ds as : List D} {cs : List Str} {sp : SpD}
theorem st_raise (h : t σ G (fun ds G1 => ds.length = fns.length ∧ ex ⟨.own c, fns.reverse, ds.reverse⟩ σ G1) (fun x G' => ex x σ G')) : dRaise c fns t ⟨nx, rt, bk, ct, ex⟩ σ G := h
theorem st_raise1 {P : XD → Prop} {c f : Str} (h : P ⟨.own c, [f], [d]⟩) : [d].length = [f].length ∧ P ⟨.own c, [f].reverse, [d].reverse⟩ := ⟨rfl, h⟩
theorem st_raise2 {P : XD → Prop} {c f g : Str} {e : D} (h : P ⟨.own c, [g, f], [e, d]⟩) : [d, e].length = [f, g].length ∧ P ⟨.own c, [f, g].reverse, [d, e].reverse⟩ := ⟨rfl, h⟩
theorem st_fld (h : ta σ G (fun x G1 => ∃ c ns ds d, InsD G1 x c ns ds ∧ c ∈ cs ∧ lk f ns ds = some d ∧ Q d G1) E) : dFld cs f ta σ G Q E := h
theorem st_fldO {P : D → Prop} (hc : c ∈ cs) (hl : lk f ns ds = some d) (h : P d) : ∃ c' ns' ds' d', InsD G (.obj c ns ds) c' ns' ds' ∧ c' ∈ cs ∧ lk f ns' ds' = some d' ∧ P d' := ⟨c, ns, ds, d, .obj c ns ds, hc, hl, h⟩
theorem st_fldR {P : D → Prop} (hp : G p = some (.ins c ns ds)) (hc : c ∈ cs) (hl : lk f ns ds = some d) (h : P d) : ∃ c' ns' ds' d', InsD G (.ref p) c' ns' ds' ∧ c' ∈ cs ∧ lk f ns' ds' = some d' ∧ P d' := ⟨c, ns, ds, d, .ref hp, hc, hl, h⟩
theorem st_setF (h : tv σ G (fun y G1 => to σ G1 (fun x G2 => ∃ p c ns ds, x = .ref p ∧ G2 p = some (.ins c ns ds) ∧ c ∈ cs ∧ ns.length < 1000 ∧ nx σ (gput G2 p (.ins c (stF f y ns ds).1 (stF f y ns ds).2))) (fun x G' => ex x σ G')) (fun x G' => ex x σ G')) : dSetF cs f to tv ⟨nx, rt, bk, ct, ex⟩ σ G := h
theorem st_setFq {P : HH → Prop} (hp : G p = some (.ins c ns ds)) (hc : c ∈ cs) (hn : ns.length < 1000) (h : P (gput G p (.ins c (stF f y ns ds).1 (stF f y ns ds).2))) : ∃ p' c' ns' ds', D.ref p = .ref p' ∧ G p' = some (.ins c' ns' ds') ∧ c' ∈ cs ∧ ns'.length < 1000 ∧ P (gput G p' (.ins c' (stF f y ns' ds').1 (stF f y ns' ds').2)) := ⟨p, c, ns, ds, rfl, hp, hc, hn, h⟩
theorem st_make {fr : Bool} (h : t σ G (fun ds G1 => ∀ p, G1 p = none → sp (.ref p :: ds) (gput G1 p (.ins c [] [])) (fun v G2 => v = .non ∧ if fr = true then ∃ ns vs, G2 p = some (.ins c ns vs) ∧ Q (.obj c ns vs) (gdel G2 p) else Q (.ref p) G2) E) E) : dMake fr c sp t σ G Q E := h
theorem st_meth (h : ta σ G (fun x G1 => ∃ ns ds, InsD G1 x c ns ds ∧ lk m ns ds = none ∧ t σ G1 (fun as G2 => sp (x :: as) G2 Q E) E) E) : dMeth c m sp ta t σ G Q E := h
theorem st_methO {P : D → Prop} (hl : lk m ns ds = none) (h : P (.obj c ns ds)) : ∃ ns' ds', InsD G (.obj c ns ds) c ns' ds' ∧ lk m ns' ds' = none ∧ P (.obj c ns ds) := ⟨ns, ds, .obj c ns ds, hl, h⟩
theorem st_prop (h : ta σ G (fun x G1 => ∃ ns ds, InsD G1 x c ns ds ∧ sp [x] G1 Q (fun _ _ => False)) E) : dProp c sp ta σ G Q E := h
theorem st_insO {P : Prop} (h : P) : ∃ ns' ds', InsD G (.obj c ns ds) c ns' ds' ∧ P := ⟨ns, ds, .obj c ns ds, h⟩
theorem st_truO (h : ta σ G (fun x G1 => ∃ ns ds, InsD G1 x c ns ds ∧ sp [x] G1 (fun v G2 => ∃ b, v = .bl b ∧ QT b G2) (fun _ _ => False)) E) : dTruO c sp ta σ G QT E := h
theorem st_inO {neg : Bool} (h : sp [.obj c ns ds, x] G (fun v G1 => ∃ b, v = .bl b ∧ Q (.bl (if neg then !b else b)) G1) (fun _ _ => False)) : rInO neg c sp x (.obj c ns ds) G Q := ⟨ns, ds, .obj c ns ds, h⟩
theorem st_lenO (h : sp [.obj c ns ds] G (fun v G1 => ∃ n : Int, v = .int n ∧ 0 ≤ n ∧ n < 2 ^ 63 ∧ Q (.int n) G1) (fun _ _ => False)) : kLenO c sp [.obj c ns ds] G Q := ⟨_, rfl, ns, ds, .obj c ns ds, h⟩
theorem st_reprO (h : sp [.obj c ns ds] G (fun v G1 => ∃ z, v = .str z ∧ Q (.str z) G1) (fun _ _ => False)) : kReprO c sp [.obj c ns ds] G Q := ⟨_, rfl, ns, ds, .obj c ns ds, h⟩
theorem st_boolO (h : sp [.obj c ns ds] G (fun v G1 => ∃ b, v = .bl b ∧ Q (.bl b) G1) (fun _ _ => False)) : kBoolO c sp [.obj c ns ds] G Q := ⟨_, rfl, ns, ds, .obj c ns ds, h⟩
theorem st_opO (h : ta σ G (fun x G1 => tb σ G1 (fun y G2 => ∃ ns ds ns' ds', InsD G2 x c ns ds ∧ InsD G2 y c ns' ds' ∧ sp [x, y] G2 Q E) E) E) : dOpO c sp ta tb σ G Q E := h
theorem st_opOq {P : Prop} {ns2 : List Str} {ds2 : List D} (h : P) : ∃ n1 d1 n2 d2, InsD G (.obj c ns ds) c n1 d1 ∧ InsD G (.obj c ns2 ds2) c n2 d2 ∧ P := ⟨ns, ds, ns2, ds2, .obj c ns ds, .obj c ns2 ds2, h⟩
theorem st_isi {k T : String} {b : Bool} (ht : TyD G x (.bi k)) (hk : kitB k T = some b) (h : Q (.bl b) G) : kIsi [x, .ty T] G Q := ⟨_, _, rfl, k, T, b, ht, rfl, hk, h⟩
theorem st_fstr {ts : List TED} (h : dJs ts Str.empty σ G (fun z G1 => Q (.str z) G1) E) : dFStr ts σ G Q E := h
theorem st_js {ts : List TED} {acc : Str} {QS : Str → HH → Prop} (h : ta σ G (fun x G1 => ∃ y, x = .str y ∧ (acc ++ y).length ≤ sizeLine ∧ dJs ts (acc ++ y) σ G1 QS E) E) : dJs (ta :: ts) acc σ G QS E := h
theorem st_jsq {acc w : Str} {P : Str → Prop} (hl : (acc ++ w).length ≤ sizeLine) (h : P w) : ∃ y, D.str w = .str y ∧ (acc ++ y).length ≤ sizeLine ∧ P y := ⟨w, rfl, hl, h⟩
theorem st_jsn {acc : Str} {QS : Str → HH → Prop} (h : QS acc G) : dJs [] acc σ G QS E := h
theorem st_fmt (h : ta σ G (fun x G1 => (∃ y : Str, x = .str y ∧ y.length ≤ sizeLine ∧ Q (.str y) G1) ∨ ∃ i : Int, x = .int i ∧ i.natAbs.log2 < 1920 ∧ Q (.str (toString i)) G1) E) : dFmt ta σ G Q E := h
theorem st_fmtS {P : Prop} {a : Str} {R : Str → HH → Prop} (hl : a.length ≤ sizeLine) (h : R a G) : (∃ y : Str, D.str a = .str y ∧ y.length ≤ sizeLine ∧ R y G) ∨ ∃ i : Int, D.str a = .int i ∧ i.natAbs.log2 < 1920 ∧ R (toString i) G := .inl ⟨a, rfl, hl, h⟩
end
end DL

namespace DL
open PySem PySem.Spec PyProof.Rows L2
open PySem.W (Frag)
/-! ### a def's walk, in short -/
/-- the promise sp is kept by the body's reading t -/
abbrev VC (sp : SpD) (N : List Str) (t : TSD) : Prop := ∀ ds G Q EX, sp ds G Q EX → t { nx := fun _ G' => Q .non G', rt := Q, ex := fun x _ G' => EX x G' } (startD N ds) G
abbrev LN (sp : SpD) (n : Nat) : Prop := ∀ ds G Q E, sp ds G Q E → ds.length = n
/-- an expression gives d, whatever follows -/
def EvE (t : TED) (σ : SD) (G : HH) (d : D) : Prop := ∀ (Q : QD) (E : ED), Q d G → t σ G Q E
def EvT (t : TTD) (σ : SD) (G : HH) (b : Bool) : Prop := ∀ (Q : Bool → HH → Prop) (E : ED), Q b G → t σ G Q E
section
variable {σ : SD} {G : HH} {Q : QD} {QT : Bool → HH → Prop} {E : ED} {ta tb : TED} {tA tB : TTD} {a b : Bool}
theorem st_andE (ha : EvT tA σ G a) (hb : a = true → EvT tB σ G b) (h : QT (a && b) G) : dAnd tA tB σ G QT E := by
  refine ha _ _ ?_
  cases a
  · rw [if_neg Bool.false_ne_true]; exact h
  · rw [if_pos rfl]; exact hb rfl _ _ (by simpa using h)
theorem st_orE (ha : EvT tA σ G a) (hb : a = false → EvT tB σ G b) (h : QT (a || b) G) : dOr tA tB σ G QT E := by
  refine ha _ _ ?_
  cases a
  · rw [if_neg Bool.false_ne_true]; exact hb rfl _ _ (by simpa using h)
  · rw [if_pos rfl]; exact h
theorem st_andVE (ha : EvE ta σ G (.bl a)) (hb : a = true → EvE tb σ G (.bl b)) (h : Q (.bl (a && b)) G) : dAndV ta tb σ G Q E := by
  refine ha _ _ ⟨a, rfl, ?_⟩
  cases a
  · rw [if_neg Bool.false_ne_true]; exact h
  · rw [if_pos rfl]; exact hb rfl _ _ (by simpa using h)
theorem st_orVE (ha : EvE ta σ G (.bl a)) (hb : a = false → EvE tb σ G (.bl b)) (h : Q (.bl (a || b)) G) : dOrV ta tb σ G Q E := by
  refine ha _ _ ⟨a, rfl, ?_⟩
  cases a
  · rw [if_neg Bool.false_ne_true]; exact hb rfl _ _ (by simpa using h)
  · rw [if_pos rfl]; exact h
/-- x if c else y, of one kind -/
theorem st_ifE {c : Bool} {α : Type} (k : α → D) {x y : α} (hc : EvT tA σ G c) (ha : c = true → EvE ta σ G (k x)) (hb : c = false → EvE tb σ G (k y)) (h : Q (k (if c = true then x else y)) G) : dIf tA ta tb σ G Q E := by
  refine hc _ _ ?_
  cases c
  · rw [if_neg Bool.false_ne_true] at h ⊢; exact hb rfl _ _ h
  · rw [if_pos rfl] at h ⊢; exact ha rfl _ _ h
end
/-! ### slots that a loop changes -/
def setL : SD → List Nat → List (Option D) → SD
  | σ, k :: ks, v :: vs => setL (σ.set k v) ks vs
  | σ, _, _ => σ
def getL (σ : SD) (ks : List Nat) : List (Option D) := ks.map fun k => (σ[k]?).getD none
theorem fin_set {σ σ2 : SD} {ks : List Nat} {I : List (Option D) → Prop} (h : σ2 = setL σ ks (getL σ2 ks)) (hI : I (getL σ2 ks)) : ∃ vs, σ2 = setL σ ks vs ∧ I vs := ⟨_, h, hI⟩
section
variable {σ : SD} {G : HH} {g : TGD} {tb : TSD} {nx bk ct : SD → HH → Prop} {rt : QD} {ex : XD → SD → HH → Prop} {ok : HH → Prop} {tA : TTD}
theorem for_set {α : Type} {xs : List α} {c : α → D} (ks : List Nat) (Iv : List α → List (Option D) → HH → Prop) (hok : ∀ pre vs G', Iv pre vs G' → ok G') (h0 : σ = setL σ ks (getL σ ks)) (h1 : Iv [] (getL σ ks) G)
    (hs : ∀ pre a post vs G', xs = pre ++ a :: post → Iv pre vs G' → g (c a) (setL σ ks vs) G' (fun σ2 G2 => tb ⟨fun σ3 G3 => ∃ vs', σ3 = setL σ ks vs' ∧ Iv (pre ++ [a]) vs' G3, rt, nx, fun σ3 G3 => ∃ vs', σ3 = setL σ ks vs' ∧ Iv (pre ++ [a]) vs' G3, ex⟩ σ2 G2))
    (he : ∀ vs G', Iv xs vs G' → nx (setL σ ks vs) G') : ForG (xs.map c) ok g tb nx rt ex σ G := by
  refine for_map (fun pre σ3 G3 => ∃ vs', σ3 = setL σ ks vs' ∧ Iv pre vs' G3) (fun pre σ3 G3 ⟨vs, _, h⟩ => hok pre vs G3 h) ⟨_, h0, h1⟩ (fun pre a post σ3 G3 e ⟨vs, e2, h⟩ => ?_) (fun σ3 G3 ⟨vs, e2, h⟩ => ?_)
  · subst e2; exact hs pre a post vs G3 e h
  · subst e2; exact he vs G3 h
theorem for_rng_set {n : Nat} (ks : List Nat) (Iv : Nat → List (Option D) → HH → Prop) (h0 : σ = setL σ ks (getL σ ks)) (h1 : Iv 0 (getL σ ks) G)
    (hs : ∀ (i : Nat) vs G', i < n → Iv i vs G' → g (.int (i : Int)) (setL σ ks vs) G' (fun σ2 G2 => tb ⟨fun σ3 G3 => ∃ vs', σ3 = setL σ ks vs' ∧ Iv (i + 1) vs' G3, rt, nx, fun σ3 G3 => ∃ vs', σ3 = setL σ ks vs' ∧ Iv (i + 1) vs' G3, ex⟩ σ2 G2))
    (he : ∀ vs G', Iv n vs G' → nx (setL σ ks vs) G') : ForG (rgItems 0 n) okT g tb nx rt ex σ G := by
  refine for_rng0 (fun i σ3 G3 => ∃ vs', σ3 = setL σ ks vs' ∧ Iv i vs' G3) ⟨_, h0, h1⟩ (fun i σ3 G3 hi ⟨vs, e2, h⟩ => ?_) (fun σ3 G3 ⟨vs, e2, h⟩ => ?_)
  · subst e2; exact hs i vs G3 hi h
  · subst e2; exact he vs G3 h
theorem for_rngL_set {lo : Int} {n : Nat} (ks : List Nat) (Iv : Nat → List (Option D) → HH → Prop) (h0 : σ = setL σ ks (getL σ ks)) (h1 : Iv 0 (getL σ ks) G)
    (hs : ∀ (i : Nat) vs G', i < n → Iv i vs G' → g (.int (lo + (i : Int))) (setL σ ks vs) G' (fun σ2 G2 => tb ⟨fun σ3 G3 => ∃ vs', σ3 = setL σ ks vs' ∧ Iv (i + 1) vs' G3, rt, nx, fun σ3 G3 => ∃ vs', σ3 = setL σ ks vs' ∧ Iv (i + 1) vs' G3, ex⟩ σ2 G2))
    (he : ∀ vs G', Iv n vs G' → nx (setL σ ks vs) G') : ForG (rgItems lo n) okT g tb nx rt ex σ G := by
  refine for_rng (fun i σ3 G3 => ∃ vs', σ3 = setL σ ks vs' ∧ Iv i vs' G3) ⟨_, h0, h1⟩ (fun i σ3 G3 hi ⟨vs, e2, h⟩ => ?_) (fun σ3 G3 ⟨vs, e2, h⟩ => ?_)
  · subst e2; exact hs i vs G3 hi h
  · subst e2; exact he vs G3 h
/-- while, by an invariant with its own measure -/
theorem while_set (ks : List Nat) (Iv : Nat → List (Option D) → HH → Prop) (m0 : Nat) (h0 : σ = setL σ ks (getL σ ks)) (h1 : Iv m0 (getL σ ks) G)
    (hs : ∀ (m : Nat) vs G' (nx' : SD → HH → Prop), Iv m vs G' → (∀ m' vs' G2, m' < m → Iv m' vs' G2 → nx' (setL σ ks vs') G2) → tA (setL σ ks vs) G' (fun b G1 => if b = true then tb ⟨nx', rt, nx, nx', ex⟩ (setL σ ks vs) G1 else nx (setL σ ks vs) G1) (fun x G1 => ex x (setL σ ks vs) G1)) :
    dWhile tA tb ⟨nx, rt, bk, ct, ex⟩ σ G := by
  refine st_whileN (fun m σ3 G3 => ∃ vs', σ3 = setL σ ks vs' ∧ Iv m vs' G3) m0 ⟨_, h0, h1⟩ fun m σ3 G3 nx' ⟨vs, e, h⟩ hn => ?_
  subst e
  exact hs m vs G3 nx' h fun m' vs' G2 hm' h' => hn m' _ G2 hm' ⟨vs', rfl, h'⟩
/-- as one may end a turn: the slots as they stand -/
theorem while_go {σ2 : SD} {ks : List Nat} {m m' : Nat} {Iv : Nat → List (Option D) → HH → Prop} {nx' : SD → HH → Prop} (hn : ∀ m' vs' G2, m' < m → Iv m' vs' G2 → nx' (setL σ ks vs') G2) (h : σ2 = setL σ ks (getL σ2 ks)) (hm : m' < m) (hI : Iv m' (getL σ2 ks) G) : nx' σ2 G := by
  rw [h]; exact hn m' _ G hm hI
end
/-! ### comprehensions whose parts are found by themselves -/
section
variable {σ : SD} {G : HH} {Q : QD} {ok : HH → Prop} {g : Tgt} {tt : TTD} {te : TED} {vs : List Nat}
theorem lc_ev {α : Type} {xs : List α} {c : α → D} {k : α → Bool} {f : α → D} (hok : ∀ p acc, G p = none → ok (gput G p (.lst acc))) (hl : xs.length ≤ sizeLine)
    (hs : ∀ a, a ∈ xs → ∀ p acc, G p = none → ∃ σ2, g.put (c a) (wipeD σ vs) = some σ2 ∧ EvT tt σ2 (gput G p (.lst acc)) (k a) ∧ (k a = true → EvE te σ2 (gput G p (.lst acc)) (f a)))
    (hq : Q (.lst ((xs.filter k).map f)) G) : LcG true (xs.map c) ok g tt te vs σ G Q := by
  refine lc_pure k f hok hl (fun a ha p acc hp => ?_) (fun a ha hk p acc hp σ2 e2 Q' q => ?_) hq
  · obtain ⟨σ2, h1, h2, _⟩ := hs a ha p acc hp
    exact ⟨σ2, h1, fun QT q => h2 QT _ q⟩
  · obtain ⟨σ3, h1, _, h3⟩ := hs a ha p acc hp
    rw [e2] at h1; cases h1
    exact h3 hk Q' _ q
theorem lc_evY {α : Type} {xs : List α} {c : α → D} {f : α → D} (hok : ∀ p acc, G p = none → ok (gput G p (.lst acc))) (hl : xs.length ≤ sizeLine)
    (hs : ∀ a, a ∈ xs → ∀ p acc, G p = none → ∃ σ2, g.put (c a) (wipeD σ vs) = some σ2 ∧ EvE te σ2 (gput G p (.lst acc)) (f a))
    (hq : Q (.lst (xs.map f)) G) : LcG true (xs.map c) ok g dYes te vs σ G Q :=
  lc_map f hok hl (fun a ha p acc hp => (hs a ha p acc hp).imp fun σ2 h => ⟨h.1, fun Q' q => h.2 Q' _ q⟩) hq
/-- .. with a constructor told: the f that comes is k of something -/
theorem lc_evK {α β : Type} {xs : List α} {c : α → D} {k : α → Bool} (kf : β → D) {f : α → β} (hok : ∀ p acc, G p = none → ok (gput G p (.lst acc))) (hl : xs.length ≤ sizeLine)
    (hs : ∀ a, a ∈ xs → ∀ p acc, G p = none → ∃ σ2, g.put (c a) (wipeD σ vs) = some σ2 ∧ EvT tt σ2 (gput G p (.lst acc)) (k a) ∧ (k a = true → EvE te σ2 (gput G p (.lst acc)) (kf (f a))))
    (hq : Q (.lst (((xs.filter k).map f).map kf)) G) : LcG true (xs.map c) ok g tt te vs σ G Q :=
  lc_ev (f := fun a => kf (f a)) hok hl hs (by rw [List.map_map] at hq; exact hq)
theorem lc_evYK {α β : Type} {xs : List α} {c : α → D} (kf : β → D) {f : α → β} (hok : ∀ p acc, G p = none → ok (gput G p (.lst acc))) (hl : xs.length ≤ sizeLine)
    (hs : ∀ a, a ∈ xs → ∀ p acc, G p = none → ∃ σ2, g.put (c a) (wipeD σ vs) = some σ2 ∧ EvE te σ2 (gput G p (.lst acc)) (kf (f a)))
    (hq : Q (.lst ((xs.map f).map kf)) G) : LcG true (xs.map c) ok g dYes te vs σ G Q :=
  lc_evY (f := fun a => kf (f a)) hok hl hs (by rw [List.map_map] at hq; exact hq)
end
section
variable {p : Addr} {G G' : HH} {q : Addr} {o : HOD}
theorem But.at (b : But p G G') (h : q ≠ p) (e : G q = some o) : G' q = some o := (b q h).trans e
theorem But.atN (b : But p G G') (h : q ≠ p) (e : G q = none) : G' q = none := (b q h).trans e
end
end DL

namespace DL
open PySem PySem.Spec PyProof.Rows L2
open PySem.W (Frag)
/-! ### what is walked, by its value: a tuple, a list, a text -/
/-- what iter(..) of a value comes to -/
def ItV (X : Cx) (tg : Expr) (r : V → Hp → (It → Hp → Prop) → Prop) : Prop :=
  ∀ (pins : List (Addr × Obj)) (σ : L2.St) (R : It → Hp → Prop) (x : V) (v : Value) (H1 : Hp) (s1 : Shared), Inv X pins σ H1 s1 → RelV x v → r x H1 R → wpAny (model X.prog X.w) X.A (pyIter v) (PIE X pins σ tg R) X.xe s1
theorem pi_itv {X : Cx} {tg e : Expr} {te : TE} {r : V → Hp → (It → Hp → Prop) → Prop} (he : PE X e te) (i : ItV X tg r) : PI X tg e (fun σ H R => te σ H fun x H1 => r x H1 R) :=
  ⟨fun pins s σ H R I h => thn (he.run pins s σ H _ I h) fun v s1 ⟨x, H1, I1, r1, q1⟩ => i pins σ R x v H1 s1 I1 r1 q1⟩
theorem ItV.or {X : Cx} {tg : Expr} {r r' : V → Hp → (It → Hp → Prop) → Prop} (a : ItV X tg r) (b : ItV X tg r') : ItV X tg (fun x H R => r x H R ∨ r' x H R) :=
  fun pins σ R x v H1 s1 I q h => h.elim (a pins σ R x v H1 s1 I q) (b pins σ R x v H1 s1 I q)
/-- any rule for an expression serves for its value -/
theorem itv_of {X : Cx} {tg : Expr} {r : V → Hp → (It → Hp → Prop) → Prop} (h : ∀ (x : V) (v : Value) (pins : List (Addr × Obj)) (σ : L2.St) (R : It → Hp → Prop) (H1 : Hp) (s1 : Shared), Inv X pins σ H1 s1 → RelV x v → r x H1 R →
    wpAny (model X.prog X.w) X.A (pyIter v) (PIE X pins σ tg R) X.xe s1) : ItV X tg r := fun pins σ R x v H1 s1 I q z => h x v pins σ R H1 s1 I q z
theorem fp_one {X : Cx} {pins : List (Addr × Obj)} {H : Hp} {a : Addr} (h : FpOk X pins H a) : ∀ b ∈ [a], FpOk X pins H b := fun b hb => by rw [List.mem_singleton.mp hb]; exact h
theorem itv_list {X : Cx} {tg : Expr} : ItV X tg (fun x H R => ∃ a, x = .ref a ∧ (∃ xs, SqL X.K H a xs) ∧ R (Itl X.K a) H) := by
  rintro pins σ R x v H1 s1 I r1 ⟨a, rfl, ⟨xs, hq⟩, q⟩
  cases r1
  obtain ⟨its, rv, p, hz⟩ := I.list hq
  refine wpAny_pyIter_list p.isList ⟨s1.heap.objs.size, [_], fun i h => h.IsListIter s1.heap.objs.size a i, Itl X.K a, H1, rfl, ?_, turn_list a _, ?_, fp_one (I.fpOk (Nat.le_refl _) (I.hok.fresh (Nat.le_refl _))), q⟩
  · exact Inv.kept (t' := s1.toks) I fun b o e => Heap.get?_push_of_some _ e
  · exact ⟨_, Heap.get?_push_size _ rfl, rfl, rfl⟩
theorem itv_tup {X : Cx} {tg : Expr} : ItV X tg (fun x H R => ∃ a, x = .ref a ∧ (∃ xs, SqT X.K H a xs) ∧ R (Itt X.K a) H) := by
  rintro pins σ R x v H1 s1 I r1 ⟨a, rfl, ⟨xs, hq⟩, q⟩
  cases r1
  obtain ⟨its, rv, p, hz⟩ := I.tuple hq
  refine wpAny_pyIter_tuple (items := its.toArray) p ⟨s1.heap.objs.size, [_], fun i h => h.IsTupleIter s1.heap.objs.size a i, Itt X.K a, H1, rfl, ?_, turn_tuple a _, ?_, fp_one (I.fpOk (Nat.le_refl _) (I.hok.fresh (Nat.le_refl _))), q⟩
  · exact Inv.kept (t' := s1.toks) I fun b o e => Heap.get?_push_of_some _ e
  · exact ⟨_, Heap.get?_push_size _ rfl, rfl, rfl⟩
theorem itv_str {X : Cx} {tg : Expr} : ItV X tg (fun v H R => ∃ x, v = .str x ∧ R (Its x) H) := by
  rintro pins σ R x v H1 s1 I r1 ⟨z, rfl, q⟩
  obtain ⟨t, rfl⟩ := r1
  cases ha : z.cps.all (· < 128) with
  | false => exact wpAny_pyIter_wide ha (pi_one (tk := s1.toks) I _ (turn_str _ z t "str_iterator" (.inr rfl)) ⟨_, Heap.get?_push_size _ rfl, rfl, rfl⟩ q)
  | true => exact wpAny_pyIter_ascii ha (pi_one (tk := s1.toks) I _ (turn_str _ z t "str_ascii_iterator" (.inl rfl)) ⟨_, Heap.get?_push_size _ rfl, rfl, rfl⟩ q)
/-- the signs of a text -/
def chrs (z : Str) : List D := z.cps.toList.map fun c => D.str ⟨#[c]⟩
/-- data that is walked: its items, and what must stay meanwhile -/
def SqI (x : D) (G : HH) (R : List D → (HH → Prop) → HH → Prop) : Prop := (∃ xs, x = .tup xs ∧ R xs okT G) ∨ (∃ xs, LsW G x xs ∧ R xs (okL x xs) G) ∨ ∃ z, x = .str z ∧ R (chrs z) okT G
def iSqD (ta : TED) : TID := fun σ G R E => ta σ G (fun x G1 => SqI x G1 R) E
section
variable {X : Cx} {W : WX} {tg a : Expr} {ta : TED}
theorem di_sq (ha : DE X W a ta) : DI X W tg a (iSqD ta) := PI.imp (pi_itv ha (itv_tup.or (itv_list.or itv_str))) fun σ H R ⟨σD, G, RD, E, hR, hS, q, hr, he⟩ =>
  ⟨σD, G, _, E, hR, hS, q, fun v H1 d G1 s r p z => by
    rcases z with ⟨xs, rfl, z⟩ | ⟨xs, ls, z⟩ | ⟨x, rfl, z⟩
    · cases p with
      | @tup a vs _ f rr =>
        refine Or.inl ⟨a, rfl, ⟨_, f.sq⟩, hr _ _ _ _ _ s r (fun i H2 G2 s2 r2 _ => ⟨fun d hd => ?_, fun hl => ⟨_, (f.mono s2).sq, by rw [← rr.length]; exact hl⟩⟩) z⟩
        obtain ⟨y, hx, px⟩ := (rr.mono s2).get hd
        refine ⟨⟨_, y, (f.mono s2).sq, hx⟩, fun u H3 ⟨e3, hy⟩ => ?_⟩
        have t := hy _ (f.mono s2).sq
        rw [hx] at t
        cases t
        subst e3
        exact ⟨Stp.refl, r2, px⟩
    · obtain ⟨b, vs, rfl, h1, rr⟩ := ls.of r p
      refine Or.inr (Or.inl ⟨b, rfl, ⟨_, h1⟩, hr _ _ _ _ _ s r (fun i H2 G2 s2 r2 ok2 => ?_) z⟩)
      obtain ⟨c, us, e2, h2, r3⟩ := LsW.of ok2 r2 (p.mono s2)
      cases e2
      refine ⟨fun d hd => ?_, fun hl => ⟨_, h2, by rw [← r3.length]; exact hl⟩⟩
      obtain ⟨y, hx, px⟩ := r3.get hd
      refine ⟨⟨_, y, h2, hx⟩, fun u H3 ⟨e3, hy⟩ => ?_⟩
      have t := hy _ h2
      rw [hx] at t
      cases t
      subst e3
      exact ⟨Stp.refl, r2, px⟩
    · cases p
      refine Or.inr (Or.inr ⟨x, rfl, hr _ _ _ _ _ s r (fun i H2 G2 s2 r2 _ => ⟨fun d hd => ?_, fun hl => ?_⟩) z⟩)
      · unfold chrs at hd
        rw [List.getElem?_map, Array.getElem?_toList] at hd
        cases e : x.cps[i]? with
        | none => rw [e] at hd; cases hd
        | some c =>
          rw [e] at hd
          cases hd
          refine ⟨(Array.getElem?_eq_some_iff.mp e).1, fun u H3 ⟨e3, c', ec, eu⟩ => ?_⟩
          rw [e] at ec
          cases ec
          subst e3; subst eu
          exact ⟨Stp.refl, r2, .str _⟩
      · unfold chrs at hl
        show x.cps.size ≤ i
        simpa using hl, he⟩
end
section
variable {σ : SD} {G : HH} {E : ED} {ta : TED} {R : List D → (HH → Prop) → HH → Prop}
theorem st_iSq (h : ta σ G (fun x G1 => SqI x G1 R) E) : iSqD ta σ G R E := h
theorem st_sqT {xs : List D} (h : R xs okT G) : SqI (.tup xs) G R := .inl ⟨xs, rfl, h⟩
theorem st_sqL {x : D} {xs : List D} (hl : LsW G x xs) (h : R xs (okL x xs) G) : SqI x G R := .inr (.inl ⟨xs, hl, h⟩)
theorem st_sqS {z : Str} (h : R (chrs z) okT G) : SqI (.str z) G R := .inr (.inr ⟨z, rfl, h⟩)
end
section
variable {σ : SD} {G : HH} {Q : QD} {ok : HH → Prop} {g : Tgt} {tt : TTD} {te : TED} {vs : List Nat} {fr : Bool} {gg : TGD} {tb : TSD} {nx : SD → HH → Prop} {rt : QD} {ex : XD → SD → HH → Prop}
theorem lc_mark {items : List D} (h : LcG fr items ok g tt te vs σ G Q) : LcG fr items ok g tt te vs σ G Q := h
/-- the items told by a list -/
theorem lc_of {α : Type} {items : List D} (xs : List α) (c : α → D) (e : items = xs.map c) (h : LcG fr (xs.map c) ok g tt te vs σ G Q) : LcG fr items ok g tt te vs σ G Q := by rw [e]; exact h
theorem for_of {α : Type} {items : List D} (xs : List α) (c : α → D) (e : items = xs.map c) (h : ForG (xs.map c) ok gg tb nx rt ex σ G) : ForG items ok gg tb nx rt ex σ G := by rw [e]; exact h
theorem rg_map (n : Nat) : rgItems 0 n = (List.range n).map fun i : Nat => D.int (i : Int) := by
  unfold rgItems
  exact List.map_congr_left fun a _ => by rw [Int.zero_add]
theorem lc_rg {n : Nat} (h : LcG fr ((List.range n).map fun i : Nat => D.int (i : Int)) ok g tt te vs σ G Q) : LcG fr (rgItems 0 n) ok g tt te vs σ G Q := by rw [rg_map]; exact h
end
end DL

namespace DL
open PySem PySem.Spec PyProof.Rows L2
open PySem.W (Frag)
/-! ### lists told by lists -/
section
variable {G : HH} {Q : QD} {α : Type} {c : α → D}
theorem st_addLm {a b : List α} (hl : a.length + b.length ≤ sizeLine) (h : Q (.lst ((a ++ b).map c)) G) : aAny (.lst (a.map c)) (.lst (b.map c)) G Q :=
  st_addL (.lst _) (.lst _) (by rw [List.length_map, List.length_map]; exact hl) (by rw [← List.map_append]; exact h)
theorem st_addTm {a b : List α} (hl : a.length + b.length ≤ sizeLine) (h : Q (.tup ((a ++ b).map c)) G) : aAny (.tup (a.map c)) (.tup (b.map c)) G Q :=
  st_addT (by rw [List.length_map, List.length_map]; exact hl) (by rw [← List.map_append]; exact h)
theorem rep_one {d : D} : ∀ n : Nat, (List.replicate n [d]).flatten = List.replicate n d
  | 0 => rfl
  | n + 1 => by rw [List.replicate_succ, List.flatten_cons, rep_one n, List.replicate_succ]; rfl
theorem map_rep {a : α} : ∀ n : Nat, List.replicate n (c a) = (List.replicate n a).map c := fun n => by rw [List.map_replicate]
/-- [x] * k -/
theorem st_mul1 {a : α} {k : Int} (hk : -(2 ^ 63) ≤ k ∧ k < 2 ^ 63) (hl : k.toNat ≤ sizeLine) (h : Q (.lst ((List.replicate k.toNat a).map c)) G) : mAny (.lst [c a]) (.int k) G Q :=
  st_mulL (.lst _) hk (by simpa using hl) (by rw [rep_one, map_rep]; exact h)
/-- [x] * int(b) -/
theorem st_mulB {a : α} {b : Bool} (h : Q (.lst ((if b = true then [a] else []).map c)) G) : mAny (.lst [c a]) (.int (if b = true then 1 else 0)) G Q := by
  cases b
  · exact st_mul1 ⟨by decide, by decide⟩ (by rw [sizeLine_eq]; decide) h
  · exact st_mul1 ⟨by decide, by decide⟩ (by rw [sizeLine_eq]; decide) h
end
/-! ### data, its == and its repr -/
mutual
/-- data of depth n at most -/
def gd : Nat → D → Prop
  | _, .non => True
  | _, .bl _ => True
  | _, .int _ => True
  | _, .str x => PyData.strOk x = true
  | n + 1, .tup xs => gds n xs
  | n + 1, .lst xs => gds n xs
  | n + 1, .wls xs => gds n xs
  | _, _ => False
def gds : Nat → List D → Prop
  | _, [] => True
  | n, x :: xs => gd n x ∧ gds n xs
end
mutual
def D.pyd : D → PyData
  | .non => .none
  | .bl b => .bool b
  | .int i => .int i
  | .str x => .str x
  | .tup xs => .tuple (pyds xs)
  | .lst xs => .list (pyds xs)
  | .wls xs => .list (pyds xs)
  | _ => .none
def pyds : List D → List PyData
  | [] => []
  | x :: xs => x.pyd :: pyds xs
end
mutual
theorem gd_py : ∀ (n : Nat) (d : D), gd n d → d.py = some d.pyd ∧ d.pyd.canLay0 = true ∧ d.pyd.depth ≤ n
  | n, .non, _ => by simp [D.py, D.pyd, PyData.canLay0, PyData.depth]
  | n, .bl b, _ => by simp [D.py, D.pyd, PyData.canLay0, PyData.depth]
  | n, .int b, _ => by simp [D.py, D.pyd, PyData.canLay0, PyData.depth]
  | n, .str x, h => by
    have h : PyData.strOk x = true := by cases n <;> exact h
    simp [D.py, D.pyd, PyData.canLay0, PyData.depth, h]
  | 0, .tup _, h => by simp [gd] at h
  | 0, .lst _, h => by simp [gd] at h
  | 0, .wls _, h => by simp [gd] at h
  | n + 1, .tup xs, h => by
    simp only [gd] at h
    have ih := gds_py n xs h
    simp [D.py, D.pyd, PyData.canLay0, PyData.depth, ih.1, ih.2.1]
    have := ih.2.2
    omega
  | n + 1, .lst xs, h => by
    simp only [gd] at h
    have ih := gds_py n xs h
    simp [D.py, D.pyd, PyData.canLay0, PyData.depth, ih.1, ih.2.1]
    have := ih.2.2
    omega
  | n + 1, .wls xs, h => by
    simp only [gd] at h
    have ih := gds_py n xs h
    simp [D.py, D.pyd, PyData.canLay0, PyData.depth, ih.1, ih.2.1]
    have := ih.2.2
    omega
  | 0, .obj _ _ _, h => by simp [gd] at h
  | 0, .dct _ _, h => by simp [gd] at h
  | 0, .ref _, h => by simp [gd] at h
  | 0, .ty _, h => by simp [gd] at h
  | 0, .gv _, h => by simp [gd] at h
  | n + 1, .obj _ _ _, h => by simp [gd] at h
  | n + 1, .dct _ _, h => by simp [gd] at h
  | n + 1, .ref _, h => by simp [gd] at h
  | n + 1, .ty _, h => by simp [gd] at h
  | n + 1, .gv _, h => by simp [gd] at h
theorem gds_py : ∀ (n : Nat) (ds : List D), gds n ds → pys ds = some (pyds ds) ∧ PyData.canLayAll0 (pyds ds) = true ∧ PyData.depthAll (pyds ds) ≤ n
  | n, [], _ => by simp [pys, pyds, PyData.canLayAll0, PyData.depthAll]
  | n, d :: ds, h => by
    simp only [gds] at h
    have a := gd_py n d h.1
    have b := gds_py n ds h.2
    simp [pys, pyds, PyData.canLayAll0, PyData.depthAll, a.1, a.2.1, b.1, b.2.1]
    have := a.2.2; have := b.2.2
    omega
end
theorem gd_shaped {n : Nat} {d : D} (h : gd n d) (hn : n ≤ 64) : SeqAt.shaped d.pyd = true := by
  have a := gd_py n d h
  unfold SeqAt.shaped
  rw [a.2.1]
  have := a.2.2
  simp; omega
theorem gd_tup {n : Nat} {xs : List D} : gd (n + 1) (.tup xs) = gds n xs := by simp only [gd]
theorem gd_lst {n : Nat} {xs : List D} : gd (n + 1) (.lst xs) = gds n xs := by simp only [gd]
theorem gds_map {α : Type} {n : Nat} {c : α → D} : ∀ {xs : List α}, (∀ a ∈ xs, gd n (c a)) → gds n (xs.map c)
  | [], _ => by simp [gds]
  | x :: xs, h => by
    rw [List.map_cons]
    simp only [gds]
    exact ⟨h x (by simp), gds_map fun a ha => h a (by simp [ha])⟩
theorem pyds_map {α : Type} {c : α → D} : ∀ xs : List α, pyds (xs.map c) = xs.map fun a => (c a).pyd
  | [] => by simp [pyds]
  | x :: xs => by simp [pyds, pyds_map xs]
mutual
theorem gd_mono {n m : Nat} (h : n ≤ m) : ∀ d : D, gd n d → gd m d
  | .non, _ => by cases m <;> simp [gd]
  | .bl _, _ => by cases m <;> simp [gd]
  | .int _, _ => by cases m <;> simp [gd]
  | .str x, g => by
    have g : PyData.strOk x = true := by cases n <;> exact g
    cases m <;> exact g
  | .tup xs, g => by
    cases n with
    | zero => simp [gd] at g
    | succ n =>
      cases m with
      | zero => omega
      | succ m => simp only [gd] at g ⊢; exact gds_mono (by omega) xs g
  | .lst xs, g => by
    cases n with
    | zero => simp [gd] at g
    | succ n =>
      cases m with
      | zero => omega
      | succ m => simp only [gd] at g ⊢; exact gds_mono (by omega) xs g
  | .wls xs, g => by
    cases n with
    | zero => simp [gd] at g
    | succ n =>
      cases m with
      | zero => omega
      | succ m => simp only [gd] at g ⊢; exact gds_mono (by omega) xs g
  | .obj _ _ _, g => by cases n <;> simp [gd] at g
  | .dct _ _, g => by cases n <;> simp [gd] at g
  | .ref _, g => by cases n <;> simp [gd] at g
  | .ty _, g => by cases n <;> simp [gd] at g
  | .gv _, g => by cases n <;> simp [gd] at g
theorem gds_mono {n m : Nat} (h : n ≤ m) : ∀ ds : List D, gds n ds → gds m ds
  | [], _ => by simp [gds]
  | d :: ds, g => by
    simp only [gds] at g ⊢
    exact ⟨gd_mono h d g.1, gds_mono h ds g.2⟩
end
/-- == of data -/
def eqD (x y : D) : Bool := PyData.eqv x.pyd y.pyd
section
variable {G : HH} {Q : QD}
theorem st_eqD {x y : D} (n : Nat) (h1 : gd n x) (h2 : gd n y) (hn : n ≤ 64) (h : Q (.bl (eqD x y)) G) : eAny false x y G Q :=
  st_eqP (Py.of (gd_py n x h1).1) (Py.of (gd_py n y h2).1) (gd_shaped h1 hn) (gd_shaped h2 hn) h
theorem st_neD {x y : D} (n : Nat) (h1 : gd n x) (h2 : gd n y) (hn : n ≤ 64) (h : Q (.bl (!eqD x y)) G) : eAny true x y G Q :=
  st_neP (Py.of (gd_py n x h1).1) (Py.of (gd_py n y h2).1) (gd_shaped h1 hn) (gd_shaped h2 hn) h
end
theorem eqvAll_dec {α : Type} {f : α → PyData} (h : ∀ a b, PyData.eqv (f a) (f b) = true ↔ a = b) : ∀ xs ys : List α, PyData.eqvAll (xs.map f) (ys.map f) = true ↔ xs = ys
  | [], [] => by simp [PyData.eqvAll]
  | [], _ :: _ => by simp [PyData.eqvAll]
  | _ :: _, [] => by simp [PyData.eqvAll]
  | x :: xs, y :: ys => by
    simp only [List.map_cons, PyData.eqvAll, Bool.and_eq_true, h x y, eqvAll_dec h xs ys, List.cons.injEq]
theorem eqv_int {i j : Int} : PyData.eqv (.int i) (.int j) = true ↔ i = j := by simp [PyData.eqv]
theorem eqv_str {i j : Str} : PyData.eqv (.str i) (.str j) = true ↔ i = j := by simp [PyData.eqv]
theorem eqv_bool {i j : Bool} : PyData.eqv (.bool i) (.bool j) = true ↔ i = j := by simp [PyData.eqv]
theorem eqD_tup {α : Type} {c : α → D} (h : ∀ a b, eqD (c a) (c b) = true ↔ a = b) (xs ys : List α) : eqD (.tup (xs.map c)) (.tup (ys.map c)) = true ↔ xs = ys := by
  show PyData.eqv (D.pyd _) (D.pyd _) = true ↔ _
  simp only [D.pyd, PyData.eqv, pyds_map]
  exact eqvAll_dec h xs ys
theorem eqD_lst {α : Type} {c : α → D} (h : ∀ a b, eqD (c a) (c b) = true ↔ a = b) (xs ys : List α) : eqD (.lst (xs.map c)) (.lst (ys.map c)) = true ↔ xs = ys := by
  show PyData.eqv (D.pyd _) (D.pyd _) = true ↔ _
  simp only [D.pyd, PyData.eqv, pyds_map]
  exact eqvAll_dec h xs ys
theorem eqD_int {i j : Int} : eqD (.int i) (.int j) = true ↔ i = j := eqv_int
theorem eqD_str {i j : Str} : eqD (.str i) (.str j) = true ↔ i = j := eqv_str
theorem eqD_bl {i j : Bool} : eqD (.bl i) (.bl j) = true ↔ i = j := eqv_bool
theorem dec_of {b : Bool} {p : Prop} [Decidable p] (h : b = true ↔ p) : b = decide p := by
  by_cases hp : p
  · rw [decide_eq_true hp]; exact h.mpr hp
  · rw [decide_eq_false hp]
    cases b
    · rfl
    · exact absurd (h.mp rfl) hp
/-! repr -/
mutual
/-- ints below 2 ^ b -/
def sm (b : Nat) : D → Prop
  | .int i => i.natAbs < 2 ^ b
  | .tup xs => sms b xs
  | .lst xs => sms b xs
  | .wls xs => sms b xs
  | _ => True
def sms (b : Nat) : List D → Prop
  | [] => True
  | x :: xs => sm b x ∧ sms b xs
end
mutual
/-- how much there is of it -/
def D.bulk : D → Nat
  | .str x => x.cps.size + 1
  | .tup xs => bulks xs + 1
  | .lst xs => bulks xs + 1
  | .wls xs => bulks xs + 1
  | _ => 1
def bulks : List D → Nat
  | [] => 0
  | x :: xs => x.bulk + bulks xs + 1
end
theorem sms_map {α : Type} {b : Nat} {c : α → D} : ∀ {xs : List α}, (∀ a ∈ xs, sm b (c a)) → sms b (xs.map c)
  | [], _ => by simp [sms]
  | x :: xs, h => by
    rw [List.map_cons]
    simp only [sms]
    exact ⟨h x (by simp), sms_map fun a ha => h a (by simp [ha])⟩
theorem bulks_map {α : Type} {B : Nat} {c : α → D} : ∀ {xs : List α}, (∀ a ∈ xs, (c a).bulk ≤ B) → bulks (xs.map c) ≤ (B + 1) * xs.length
  | [], _ => by simp [bulks]
  | x :: xs, h => by
    have h1 := h x (by simp)
    have h2 := bulks_map (xs := xs) fun a ha => h a (by simp [ha])
    simp only [List.map_cons, bulks, List.length_cons, Nat.mul_add]
    omega
mutual
theorem fine_of {b : Nat} : ∀ (n : Nat) (d : D), gd n d → sm b d → fine b n d.pyd
  | n, .non, _, _ => by cases n <;> simp [D.pyd, fine]
  | n, .bl _, _, _ => by cases n <;> simp [D.pyd, fine]
  | n, .int i, _, h => by
    simp only [sm] at h
    cases n <;> simpa only [D.pyd, fine] using h
  | n, .str x, h, _ => by cases n <;> exact h
  | 0, .tup _, h, _ => by simp [gd] at h
  | 0, .lst _, h, _ => by simp [gd] at h
  | 0, .wls _, h, _ => by simp [gd] at h
  | n + 1, .tup xs, h, g => by
    simp only [gd, sm] at h g
    simp only [D.pyd, fine]
    exact fines_of n xs h g
  | n + 1, .lst xs, h, g => by
    simp only [gd, sm] at h g
    simp only [D.pyd, fine]
    exact fines_of n xs h g
  | n + 1, .wls xs, h, g => by
    simp only [gd, sm] at h g
    simp only [D.pyd, fine]
    exact fines_of n xs h g
  | n, .obj _ _ _, h, _ => by cases n <;> simp [gd] at h
  | n, .dct _ _, h, _ => by cases n <;> simp [gd] at h
  | n, .ref _, h, _ => by cases n <;> simp [gd] at h
  | n, .ty _, h, _ => by cases n <;> simp [gd] at h
  | n, .gv _, h, _ => by cases n <;> simp [gd] at h
theorem fines_of {b : Nat} : ∀ (n : Nat) (ds : List D), gds n ds → sms b ds → fineAll b n (pyds ds)
  | n, [], _, _ => by simp [pyds, fineAll]
  | n, d :: ds, h, g => by
    simp only [gds, sms] at h g
    simp only [pyds, fineAll]
    exact ⟨fine_of n d h.1 g.1, fines_of n ds h.2 g.2⟩
end
mutual
theorem bulk_le : ∀ d : D, d.pyd.bulk ≤ d.bulk
  | .non => by simp [D.pyd, PyData.bulk]
  | .bl _ => by simp [D.pyd, PyData.bulk]
  | .int _ => by simp [D.pyd, PyData.bulk]
  | .str x => by simp [D.pyd, PyData.bulk, D.bulk]
  | .tup xs => by
    have := bulks_le xs
    simp only [D.pyd, PyData.bulk, D.bulk]; omega
  | .lst xs => by
    have := bulks_le xs
    simp only [D.pyd, PyData.bulk, D.bulk]; omega
  | .wls xs => by
    have := bulks_le xs
    simp only [D.pyd, PyData.bulk, D.bulk]; omega
  | .obj _ _ _ => by simp [D.pyd, PyData.bulk]
  | .dct _ _ => by simp [D.pyd, PyData.bulk]
  | .ref _ => by simp [D.pyd, PyData.bulk]
  | .ty _ => by simp [D.pyd, PyData.bulk]
  | .gv _ => by simp [D.pyd, PyData.bulk]
  | .xe _ _ _ _ => by simp [D.pyd, PyData.bulk]
theorem bulks_le : ∀ ds : List D, PyData.bulkAll (pyds ds) ≤ bulks ds
  | [] => by simp [pyds, PyData.bulkAll]
  | d :: ds => by
    have h1 := bulk_le d
    have h2 := bulks_le ds
    simp only [pyds, PyData.bulkAll, bulks]; omega
end
/-- data whose repr fits: of depth 60, ints below 2 ^ b, so much of it -/
structure Rpr (b B : Nat) (d : D) : Prop where
  g : gd 60 d
  s : sm b d
  z : d.bulk ≤ B
theorem Rpr.shw {b B : Nat} {d : D} (h : Rpr b B d) (h0 : 0 < b ∧ b ≤ 1900) (hB : (b + 12) * B + b + 10 ≤ 16777216) : Shw d.pyd := by
  refine shw_of (b := b) (n := 60) h0.1 h0.2 (by decide) (fine_of 60 d h.g h.s) ?_
  have := Nat.mul_le_mul_left (b + 12) (Nat.le_trans (bulk_le d) h.z)
  omega
theorem st_reprD {G : HH} {Q : QD} {x : D} (b B : Nat) (h : Rpr b B x) (h0 : 0 < b ∧ b ≤ 1900) (hB : (b + 12) * B + b + 10 ≤ 16777216) (q : Q (.str x.pyd.shown) G) : kRepr [x] G Q :=
  st_repr (Py.of (gd_py 60 x h.g).1) (h.shw h0 hB) q
theorem Rpr.bl {b : Bool} : Rpr 64 10 (.bl b) := ⟨by simp [gd], by simp [sm], by simp [D.bulk]⟩
theorem Rpr.int {i : Int} {b : Nat} (h : i.natAbs < 2 ^ b) : Rpr b 10 (.int i) := ⟨by simp [gd], by simpa only [sm] using h, by simp [D.bulk]⟩
theorem st_reprB {G : HH} {Q : QD} {x : Bool} (q : Q (.str (D.bl x).pyd.shown) G) : kRepr [.bl x] G Q := st_reprD 64 10 .bl (by decide) (by decide) q
theorem st_reprI {G : HH} {Q : QD} {x : Int} (h : x.natAbs < 2 ^ 64) (q : Q (.str (D.int x).pyd.shown) G) : kRepr [.int x] G Q := st_reprD 64 10 (.int h) (by decide) (by decide) q
theorem st_iteF' {b : Bool} {A B : Prop} (h : b = false) (q : B) : if b = true then A else B := by rw [h, if_neg Bool.false_ne_true]; exact q
theorem st_iteT' {b : Bool} {A B : Prop} (h : b = true) (q : A) : if b = true then A else B := by rw [h, if_pos rfl]; exact q
theorem st_sz {xs : List D} {P : Prop} (h : xs.length ≤ sizeLine) (q : P) : xs.length ≤ sizeLine ∧ P := ⟨h, q⟩
theorem ne_sn {G : HH} {p q : Addr} {o : HOD} (h : G p = some o) (h' : G q = none) : p ≠ q := by intro e; rw [e, h'] at h; cases h
section
variable {G : HH} {Q : QD} {α : Type} {c : α → D} {xs : List α}
theorem st_lenLm (h : Q (.int xs.length) G) : kLen [.lst (xs.map c)] G Q := st_len (.lst _) (by rw [List.length_map]; exact h)
theorem st_lenTm (h : Q (.int xs.length) G) : kLen [.tup (xs.map c)] G Q := st_len (.tup _) (by rw [List.length_map]; exact h)
theorem st_lenWm (h : Q (.int xs.length) G) : kLen [.wls (xs.map c)] G Q := st_len (.wls _) (by rw [List.length_map]; exact h)
end
theorem st_strq {x : Str} {P : Str → Prop} (q : P x) : ∃ z, D.str x = .str z ∧ P z := ⟨x, rfl, q⟩
theorem st_addSl {G : HH} {Q : QD} {x y : Str} (hl : x.length + y.length ≤ 16777216) (h : Q (.str (x ++ y)) G) : aAny (.str x) (.str y) G Q := st_addS (by rw [sizeLine_eq]; exact hl) h
theorem sz_small {n : Nat} (h : n ≤ 1000) : n ≤ sizeLine := by rw [sizeLine_eq]; omega
/-- f(a, *v): how it binds -/
theorem fun_star1 {K : Frag} {x qual : Str} {st : Stmt} {f : Addr} {fd : FuncData} {p1 pv : Str} (F : Fun K x qual st f fd)
    (h0 : ∀ (kV doc pm : Value) (an : Option Addr) (cdv ct : Value) (a : Value), bindArgs (PySem.W.fnOf x qual (defArgs st) (defBody st) (defScope st) .none kV doc pm an cdv ct) ⟨[a], []⟩ = (newTuple [] >>= fun t => pure [(p1, a), (pv, t)]))
    (h1 : ∀ (kV doc pm : Value) (an : Option Addr) (cdv ct : Value) (a r : Value) (rs : List Value), bindArgs (PySem.W.fnOf x qual (defArgs st) (defBody st) (defScope st) .none kV doc pm an cdv ct) ⟨a :: r :: rs, []⟩ = (newTuple (r :: rs) >>= fun t => pure [(p1, a), (pv, t)])) :
    ∀ us rest : List Value, us.length = 1 → bindArgs fd ⟨us ++ rest, []⟩ = (newTuple rest >>= fun t => pure (([p1] : List Str).zip us ++ [(pv, t)])) := by
  obtain ⟨oc, od, kV, doc, pm, an, cdv, ct, osl, rfl, lk, hcd⟩ := F.ex
  intro us rest hl
  match us, rest, hl with
  | [a], [], _ => exact h0 kV doc pm an cdv ct a
  | [a], r :: rs, _ => exact h1 kV doc pm an cdv ct a r rs
end DL

namespace DL
open PySem PySem.Spec PyProof.Rows L2
open PySem.W (Frag)
/-! ### calls and methods of instances of several classes; defs as values -/
section
variable {X : Cx} {W : WX} {fe e o : Expr} {es : List Expr} {tf to : TED} {t : TAD} {pos apos : Pos}
/-- classes whose instances may be called -/
def CTab (X : Cx) (k : Nat) (tb : List (Str × SpD)) : Prop := ∀ p ∈ tb, ∃ C g fd ps, gaddr X.K p.1 = some C ∧ StX.CallO X.K C g ∧ FnG X.prog X.w X.K X.mg X.base k g fd ps p.2 ∧ Binds X.K fd ps []
/-- defs that are called as values -/
def FTab (X : Cx) (k : Nat) (tb : List (Str × SpD)) : Prop := ∀ p ∈ tb, ∃ f fd ps, gaddr X.K p.1 = some f ∧ PySem.W.keepIn X.K (.ref f) = true ∧ FnG X.prog X.w X.K X.mg X.base k f fd ps p.2 ∧ Binds X.K fd ps []
/-- classes that have a method -/
def MTab (X : Cx) (k : Nat) (m : Str) (tb : List (Str × SpD)) : Prop := ∀ p ∈ tb, ∃ C f fd ps, gaddr X.K p.1 = some C ∧ Cls X.K C ∧ Meth X.K C m f ∧ FnG X.prog X.w X.K X.mg X.base k f fd ps p.2 ∧ Binds X.K fd ps []
def dCallV (tbo tbf : List (Str × SpD)) (tf : TED) (t : TAD) : TED := fun σ G Q E => tf σ G (fun x G1 => (∃ c sp ns ds, InsD G1 x c ns ds ∧ (c, sp) ∈ tbo ∧ t σ G1 (fun as G2 => (∃ ns ds, InsD G2 x c ns ds) ∧ sp (x :: as) G2 Q E) E) ∨ ∃ c sp, x = .gv c ∧ (c, sp) ∈ tbf ∧ t σ G1 (fun as G2 => sp as G2 Q E) E) E
theorem de_callV {k : Nat} {tbo tbf : List (Str × SpD)} (ho : CTab X k tbo) (hf : FTab X k tbf) (hgd : X.A.guards = some []) (hr : Room k X.A) (tk : Takes X W) (hfe : DE X W fe tf) (ha : DA X W (e :: es) t)
    (ht : eval (.Call fe (e :: es) [] pos) X.env = (do callWith pos (← eval fe X.env) [] (backTo pos (starEach (e :: es) X.env)) (backToKw pos (keywordEach [] X.env))) := by rfl)
    (he : starEach (e :: es) X.env = (false, eval e X.env) :: starEach es X.env := by rfl) (hpl : (backTo pos (starEach es X.env)).any (·.1) = false := by rfl) : DE X W (.Call fe (e :: es) [] pos) (dCallV tbo tbf tf t) := by
  have ha' : PA X (e :: es) (lftA X.K W t) := ha
  have hf' : PE X fe (lft X.K W tf) := hfe
  refine ⟨fun pins s σ H Q I ⟨σD, G, QD, E, hR, hS, q, hq, hE⟩ => ?_⟩
  refine Call_ (thn (hf'.run pins s σ H (fun v H1 => ∃ d G1, Stp H G H1 G1 ∧ RelH X.K H1 G1 ∧ Rp X.K H1 G1 d v ∧ ((∃ c sp ns ds, InsD G1 d c ns ds ∧ (c, sp) ∈ tbo ∧ t σD G1 (fun as G2 => (∃ ns ds, InsD G2 d c ns ds) ∧ sp (d :: as) G2 QD E) E) ∨ ∃ c sp, d = .gv c ∧ (c, sp) ∈ tbf ∧ t σD G1 (fun as G2 => sp as G2 QD E) E)) I ⟨σD, G, _, E, hR, hS, q, fun v H1 d G1 s1 r1 p1 z => ⟨d, G1, s1, r1, p1, z⟩, hE⟩) fun u s1 ⟨x, H1, I1, rx, d, G1, s1', r1, p1, z⟩ => ?_) ht
  rcases z with ⟨c, sp, ns0, ds0, hi0, hm, q1⟩ | ⟨c, sp, rfl, hm, q1⟩
  · obtain ⟨C, g, fd, ps, hC, co, F, hb⟩ := ho _ hm
    obtain ⟨a, _, _, _, ex, _, _, _, _⟩ := hi0.of r1 p1
    subst ex
    obtain rfl : u = Value.ref a := rx
    refine StX.callO_with (thn (ha'.run pos pins s1 σ H1 (fun vs H2 => (∃ dx fs, H2 a = some (.ins C dx fs)) ∧ lsp X.K sp (.ref a :: vs) H2 Q (WE W σ)) I1 ⟨σD, G1, _, E, r1, hS.mono s1', q1, fun vs H2 as G2 s2 r2 p2 ⟨⟨ns, ds, hi⟩, q2⟩ => ?_, hE.mono s1'⟩) fun us s2 ⟨vs, H2, I2, r, ⟨dx2, fs2, hi2⟩, q2⟩ => ?_) he hpl
    · have p3 := p1.mono s2
      obtain ⟨b, C', dx, xs, ex, h1, h2, h3, h4⟩ := hi.of r2 p3
      cases ex
      have hCC : C' = C := by rw [hC] at h1; exact (Option.some.inj h1).symm
      subst hCC
      exact ⟨⟨_, _, h2⟩, d :: as, G2, QD, E, r2, .cons p3 p2, q2, hq.mono (s1'.trans s2), fun xd cls d' H' G' s' r' p' z' => hE _ _ _ _ _ ((s1'.trans s2).trans s') r' p' z'⟩
    · obtain ⟨ox, od, J, hd⟩ := StX.insC_at I2 (Or.inr ⟨_, _, hi2⟩)
      refine ⟨⟨C, ox, od, J, hd⟩, ?_⟩
      have rv : Vals (V.ref a :: vs) (Value.ref a :: us) := .cons (vref a) r
      have hl : (Value.ref a :: us).length = ps.length := by rw [← rv.length]; exact F.llen q2
      have b := hb s2 (Value.ref a :: us) I2.kIn (by rw [List.append_nil]; exact hl)
      rw [List.append_nil] at b
      refine wpAny_call (PySem.W.kco_code I2.kIn J hd co.at_ co.fn co.fi (codeAny_mono (run_any F hgd hr tk I2 b rv q2) fun r s' hq' => ?_))
      cases r with
      | error e => exact hq'
      | ok fl =>
        cases fl with
        | ret u => exact hq'
        | next => exact False.elim hq'
        | brk => exact False.elim hq'
        | cont => exact False.elim hq'
  · obtain ⟨f, fd, ps, hC, hk, F, hb⟩ := hf _ hm
    cases p1 with
    | gv e1 =>
      rename_i a
      have hCC : a = f := by rw [show gaddr X.K c = some f from hC] at e1; exact (Option.some.inj e1).symm
      subst hCC
      obtain rfl : u = Value.ref a := rx
      refine PySem.W.callWith_K (first := []) (h₀ := X.base) I.ok.mod.kin hk (thn (ha'.run pos pins s1 σ H1 (fun vs H2 => lsp X.K sp vs H2 Q (WE W σ)) I1 ⟨σD, G1, _, E, r1, hS.mono s1', q1, fun vs H2 as G2 s2 r2 p2 q2 => ?_, hE.mono s1'⟩) fun us s2 ⟨vs, H2, I2, r, q2⟩ => ⟨I2.kIn, ?_⟩) he hpl
      · exact ⟨as, G2, QD, E, r2, p2, q2, hq.mono (s1'.trans s2), fun xd cls d' H' G' s' r' p' z' => hE _ _ _ _ _ ((s1'.trans s2).trans s') r' p' z'⟩
      · exact run_call F hgd hr hb tk I2 r q2
/-- o.m(..), o of one of several classes -/
def dMethV (m : Str) (tb : List (Str × SpD)) (ta : TED) (t : TAD) : TED := fun σ G Q E => ta σ G (fun x G1 => ∃ c sp ns ds, InsD G1 x c ns ds ∧ lk m ns ds = none ∧ (c, sp) ∈ tb ∧ t σ G1 (fun as G2 => sp (x :: as) G2 Q E) E) E
theorem de_methV {m : Str} {k : Nat} {tb : List (Str × SpD)} {pl : Sem Bool} (hT : MTab X k m tb) (hgd : X.A.guards = some []) (hr : Room k X.A) (tk : Takes X W) (ho : DE X W o to) (ha : DA X W (e :: es) t)
    (hst : starEach (e :: es) X.env = (false, eval e X.env) :: starEach es X.env := by rfl) (hpl : (backTo pos (starEach es X.env)).any (·.1) = false := by rfl)
    (ht : eval (.Call (.Attribute o m apos) (e :: es) [] pos) X.env = (do
      let ov ← eval o X.env
      standAt apos.atName
      let (f, first) ← holding [ov] (getMethod ov m pl)
      callWith pos f first (backTo pos (starEach (e :: es) X.env)) (backToKw pos (keywordEach [] X.env))) := by rfl) :
    DE X W (.Call (.Attribute o m apos) (e :: es) [] pos) (dMethV m tb to t) := by
  have ha' : PA X (e :: es) (lftA X.K W t) := ha
  have ho' : PE X o (lft X.K W to) := ho
  refine ⟨fun pins s σ H Q I ⟨σD, G, QD, E, hR, hS, q, hq, hE⟩ => ?_⟩
  refine PySem.W.methodCall_KW (pl := pl) (thn (ho'.run pins s σ H (fun v H1 => ∃ d G1, Stp H G H1 G1 ∧ RelH X.K H1 G1 ∧ Rp X.K H1 G1 d v ∧ ∃ c sp ns ds, InsD G1 d c ns ds ∧ lk m ns ds = none ∧ (c, sp) ∈ tb ∧ t σD G1 (fun as G2 => sp (d :: as) G2 QD E) E) I ⟨σD, G, _, E, hR, hS, q, fun v H1 d G1 s1 r1 p1 z => ⟨d, G1, s1, r1, p1, z⟩, hE⟩) fun u s1 ⟨x, H1, I1, rx, d, G1, s1', r1, p1, c, sp, ns, ds, hi, hl, hm, q1⟩ => ?_) ht
  obtain ⟨a, C', dx, xs, ex, h1, h2, h3, h4⟩ := hi.of r1 p1
  obtain ⟨C, f, fd, ps, hC, hcl, hme, F, hb⟩ := hT _ hm
  have hCC : C' = C := by rw [hC] at h1; exact (Option.some.inj h1).symm
  subst hCC
  subst ex
  obtain rfl : u = Value.ref a := rx
  have hl' : (ns.zip xs).lookup m = none := by
    rcases lk_zip (f := m) h4 h3 with ⟨_, z⟩ | ⟨d', v, e1, _, _⟩
    · exact z
    · rw [hl] at e1; cases e1
  refine getmeth_ok I1 h2 hcl hme hl' ?_
  refine PySem.W.callWith_K (first := [.ref a]) (h₀ := X.base) I.ok.mod.kin hme.kp (thn (ha'.run pos pins s1 σ H1 (fun vs H2 => lsp X.K sp (.ref a :: vs) H2 Q (WE W σ)) I1 ⟨σD, G1, _, E, r1, hS.mono s1', q1, fun vs H2 as G2 s2 r2 p2 q2 => ?_, hE.mono s1'⟩) fun us s2 ⟨vs, H2, I2, r, q2⟩ => ⟨I2.kIn, ?_⟩) hst hpl
  · exact ⟨d :: as, G2, QD, E, r2, .cons (p1.mono s2) p2, q2, hq.mono (s1'.trans s2), fun xd cls d' H' G' s' r' p' z' => hE _ _ _ _ _ ((s1'.trans s2).trans s') r' p' z'⟩
  · exact run_call F hgd hr hb tk I2 (us := Value.ref a :: us) (vs := V.ref a :: vs) (.cons rfl r) q2
end
/-! ### C(.., k = ..) -/
section
variable {X : Cx} {W : WX} {k n : Nat} {f C : Addr} {fd : FuncData} {ps ks : List Str} {perm : List Nat} {sp : SpD} {e : Expr} {es : List Expr} {kws : List Keyword} {t tk : TAD} {pos : Pos}
theorem run_makeKG {pins : List (Addr × Obj)} {σ : L2.St} {H : Hp} {s : Shared} {Q : VK} {us ws : List Value} {vs : List V} (M : Mk X.K C f) (F : FnG X.prog X.w X.K X.mg X.base k f fd ps sp) (hg : X.A.guards = some []) (hr : Room (k + 1) X.A) (hb : KBd X.K fd ps (n + 1) ks perm) (tk : Takes X W)
    (I : Inv X pins σ H s) (r : Vals vs (us ++ ws)) (l1 : us.length = n) (l2 : ws.length = ks.length)
    (h : ∀ x dx, H x = none → H dx = none → dx ≠ x → lsp X.K sp (pick perm (.ref x :: vs)) (upd (upd H dx (.own x)) x (.ins C dx [])) (fun v H2 => v = .non ∧ Q (.ref x) H2) (WE W σ)) :
    wpAny (model X.prog X.w) X.A (call (.ref C) us (ks.zip ws)) (EP X pins σ Q) X.xe s := by
  have hq := h (s.heap.objs.size + 1) s.heap.objs.size (I.hok.fresh (Nat.le_succ _)) (I.hok.fresh (Nat.le_refl _)) (Nat.ne_of_lt (Nat.lt_succ_self _))
  have I2 := Inv.made (C := C) I
  have r2 : Vals (V.ref (s.heap.objs.size + 1) :: vs) ((Value.ref (s.heap.objs.size + 1) :: us) ++ ws) := .cons (vref _) r
  have b := hb.to _ (Value.ref (s.heap.objs.size + 1) :: us) ws I2.kIn (by simp [l1]) l2
  refine wpAny_call (make_map (f := f) I.kIn M.makes M.init (beq_iff_eq.mp M.fn) (codeAny_mono (F.run _ X.stack _ _ ⟨Value.ref (s.heap.objs.size + 1) :: us, ks.zip ws⟩ _ _ _ (WE W σ) (guards_make hg C us _) (hr.make C us _) (I2.env0.make C us _) b (Vals.pick r2) hq) fun r s' hq' => ?_))
  cases r with
  | error e => exact passAt tk σ pins _ _ e s' I2 hq'
  | ok fl =>
    cases fl with
    | ret u =>
      obtain ⟨v, H', I3, rv, ev, q3⟩ := I2.after hq'
      subst ev
      exact ⟨rv, ⟨V.ref (s.heap.objs.size + 1), H', I3, rfl, q3⟩⟩
    | next => exact False.elim hq'
    | brk => exact False.elim hq'
    | cont => exact False.elim hq'
def dMakeK (fr : Bool) (c : Str) (n m : Nat) (perm : List Nat) (sp : SpD) (t tk : TAD) : TED := fun σ G Q E => t σ G (fun ds G1 => tk σ G1 (fun zs G2 => ds.length = n ∧ zs.length = m ∧ ∀ p, G2 p = none → sp (pick perm (.ref p :: (ds ++ zs))) (gput G2 p (.ins c [] []))
  (fun v G3 => v = .non ∧ if fr = true then ∃ ns vs, G3 p = some (.ins c ns vs) ∧ Q (.obj c ns vs) (gdel G3 p) else Q (.ref p) G3) E) E) E
/-- a new instance, and what its making comes to -/
theorem lsp_make {K : Frag} {c : Str} {fr : Bool} {σ : L2.St} {H : Hp} {G : HH} {Q : VK} {QD : QD} {E : ED} {vs : List V} {ds : List D} (hC : gaddr K c = some C) (hR : RelH K H G) (hp : Rps K H G ds vs) (hq : Ct K H G Q QD) (hE : Exs K W σ H G E)
    (q : ∀ p, G p = none → sp (pick perm (.ref p :: ds)) (gput G p (.ins c [] [])) (fun v G3 => v = .non ∧ if fr = true then ∃ ns vs, G3 p = some (.ins c ns vs) ∧ QD (.obj c ns vs) (gdel G3 p) else QD (.ref p) G3) E) :
    ∀ x dx, H x = none → H dx = none → dx ≠ x → lsp K sp (pick perm (.ref x :: vs)) (upd (upd H dx (.own x)) x (.ins C dx [])) (fun v H2 => v = .non ∧ Q (.ref x) H2) (WE W σ) := by
  intro x dx hx hdx hne
  have s2 := Stp.new (G := G) (o := .own x) hdx
  have r2 := hR.new (o := .own x) hdx
  have hx2 : (upd H dx (.own x)) x = none := by rw [upd_ne (fun z => hne z.symm)]; exact hx
  have s3 := Stp.newM (G := G) (o := .ins C dx []) (od := .ins c [] []) hx2
  have r3 := r2.newM (o := .ins C dx []) (od := .ins c [] []) hx2 ⟨C, dx, [], hC, by rw [upd_same]; rfl, rfl, .nil⟩
  have s23 := s2.trans s3
  refine ⟨pick perm (.ref x :: ds), gput G x (.ins c [] []), _, E, r3, Rps.pick (.cons (.ref x) (hp.mono s23)), q x (hR.free hx), fun v H4 d G4 s4 r4 p4 ⟨e4, z4⟩ => ?_, fun xd cls d H4 G4 s4 r4 p4 z4 => hE _ _ _ _ _ (s23.trans s4) r4 p4 z4⟩
  subst e4; cases p4
  refine ⟨rfl, ?_⟩
  cases fr with
  | true =>
    rw [if_pos rfl] at z4
    obtain ⟨ns, ws, e5, z5⟩ := z4
    exact hq _ _ _ _ (s23.trans (s4.trans Stp.del)) r4.del (thaw_ins r4 e5) z5
  | false =>
    rw [if_neg Bool.false_ne_true] at z4
    exact hq _ _ _ _ (s23.trans s4) r4 (.ref x) z4
theorem de_makeK0 {c x : Str} {p : Pos} {m : Nat} (fr : Bool) (hC : gaddr X.K c = some C) (M : Mk X.K C f) (F : FnG X.prog X.w X.K X.mg X.base k f fd ps sp) (hgd : X.A.guards = some []) (hr : Room (k + 1) X.A) (hg : Gl X x) (hm : X.mg x = some (.ref C)) (hb : KBd X.K fd ps 1 ks perm) (tkw : Takes X W) (hkw : DK X W kws tk)
    (hlen : ks.length = m := by rfl) (hall : (backToKw pos (keywordEach kws X.env)).all (·.1.isSome) = true := by rfl) (hks : (backToKw pos (keywordEach kws X.env)).filterMap (·.1) = ks := by rfl) (hdb : (x == ("__debug__" : Str)) = false := by decide)
    (hpl : ((backTo pos (starEach [] X.env)).any (·.1) || (backToKw pos (keywordEach kws X.env)).any (·.1.isNone)) = false := by rfl) :
    DE X W (.Call (.Name x p) [] kws pos) (dMakeK fr c 0 m perm sp dNil tk) := by
  subst hlen
  refine ⟨fun pins s σ H Q I ⟨σD, G, QD, E, hR, hS, ht, hq, hE⟩ => ?_⟩
  refine wpAny_Call_Name_kw (ld_glob I hg hm ?_ hdb)
  have hkw' : PK X kws (lftA X.K W tk) := hkw
  refine PySem.W.callWith_KW0 (h₀ := X.base) I.ok.mod.kin M.kp hall ?_ hpl
  refine thn (hkw'.run pos pins s σ H (fun zs H2 => zs.length = ks.length ∧ ∀ x dx, H2 x = none → H2 dx = none → dx ≠ x → lsp X.K sp (pick perm (.ref x :: zs)) (upd (upd H2 dx (.own x)) x (.ins C dx [])) (fun v H3 => v = .non ∧ Q (.ref x) H3) (WE W σ)) I
    ⟨σD, G, _, E, hR, hS, ht, fun zs H2 es G2 s2 r2 p2 ⟨_, l2, q2⟩ => ⟨by rw [← p2.length]; exact l2, lsp_make hC r2 p2 (hq.mono s2) (hE.mono s2) q2⟩, hE⟩) fun ws s2 ⟨zs, H2, I2, rz, l2, q2⟩ => ⟨I2.kIn, ?_⟩
  rw [hks]
  exact run_makeKG (us := []) (n := 0) M F hgd hr hb tkw I2 (by simpa using rz) rfl (by rw [← rz.length]; exact l2) q2
theorem de_makeK {c x : Str} {p : Pos} {m : Nat} (fr : Bool) (hC : gaddr X.K c = some C) (M : Mk X.K C f) (F : FnG X.prog X.w X.K X.mg X.base k f fd ps sp) (hgd : X.A.guards = some []) (hr : Room (k + 1) X.A) (hg : Gl X x) (hm : X.mg x = some (.ref C)) (hb : KBd X.K fd ps (n + 1) ks perm) (tkw : Takes X W) (ha : DA X W (e :: es) t) (hkw : DK X W kws tk)
    (hlen : ks.length = m := by rfl) (hall : (backToKw pos (keywordEach kws X.env)).all (·.1.isSome) = true := by rfl) (hks : (backToKw pos (keywordEach kws X.env)).filterMap (·.1) = ks := by rfl) (hdb : (x == ("__debug__" : Str)) = false := by decide)
    (he : starEach (e :: es) X.env = (false, eval e X.env) :: starEach es X.env := by rfl)
    (hpl : ((backTo pos (starEach (e :: es) X.env)).any (·.1) || (backToKw pos (keywordEach kws X.env)).any (·.1.isNone)) = false := by rfl) :
    DE X W (.Call (.Name x p) (e :: es) kws pos) (dMakeK fr c n m perm sp t tk) := by
  subst hlen
  refine ⟨fun pins s σ H Q I ⟨σD, G, QD, E, hR, hS, ht, hq, hE⟩ => ?_⟩
  refine wpAny_Call_Name_kw (ld_glob I hg hm ?_ hdb)
  have ha' : PA X (e :: es) (lftA X.K W t) := ha
  have hkw' : PK X kws (lftA X.K W tk) := hkw
  refine PySem.W.callWith_KW (h₀ := X.base) I.ok.mod.kin M.kp hall (thn (ha'.run pos pins s σ H (fun vs H1 => lftA X.K W tk σ H1 fun zs H2 => vs.length = n ∧ zs.length = ks.length ∧ ∀ x dx, H2 x = none → H2 dx = none → dx ≠ x → lsp X.K sp (pick perm (.ref x :: (vs ++ zs))) (upd (upd H2 dx (.own x)) x (.ins C dx [])) (fun v H3 => v = .non ∧ Q (.ref x) H3) (WE W σ)) I
    ⟨σD, G, _, E, hR, hS, ht, fun vs H1 ds G1 s1 r1 p1 q1 => ⟨σD, G1, _, E, r1, hS.mono s1, q1, fun zs H2 es G2 s2 r2 p2 ⟨l1, l2, q2⟩ => ⟨by rw [← p1.length]; exact l1, by rw [← p2.length]; exact l2, lsp_make hC r2 ((p1.mono s2).append p2) (hq.mono (s1.trans s2)) (hE.mono (s1.trans s2)) q2⟩, hE.mono s1⟩, hE⟩) fun us s1 ⟨vs, H1, I1, r, q⟩ => ?_) hpl he
  refine thn (hkw'.run pos pins s1 σ H1 _ I1 q) fun ws s2 ⟨zs, H2, I2, rz, l1, l2, q2⟩ => ⟨I2.kIn, ?_⟩
  rw [hks]
  exact run_makeKG (us := us) M F hgd hr hb tkw I2 (r.append rz) (by rw [← r.length]; exact l1) (by rw [← rz.length]; exact l2) q2
end
section
variable {X : Cx} {k j : Nat} {c m : Str} {C f : Addr} {fd : FuncData} {ps : List Str} {sp : SpD} {tb : List (Str × SpD)}
theorem CTab.nil : CTab X k [] := fun _ h => by cases h
theorem CTab.cons (hC : gaddr X.K c = some C) (co : StX.CallO X.K C f) (F : FnG X.prog X.w X.K X.mg X.base j f fd ps sp) (hk : j ≤ k) (hb : Binds X.K fd ps []) (r : CTab X k tb) : CTab X k ((c, sp) :: tb) := fun p hp => by
  rcases List.mem_cons.mp hp with rfl | hp
  · exact ⟨C, f, fd, ps, hC, co, F.mono hk, hb⟩
  · exact r p hp
theorem FTab.nil : FTab X k [] := fun _ h => by cases h
theorem FTab.cons (hC : gaddr X.K c = some f) (kp : PySem.W.keepIn X.K (.ref f) = true) (F : FnG X.prog X.w X.K X.mg X.base j f fd ps sp) (hk : j ≤ k) (hb : Binds X.K fd ps []) (r : FTab X k tb) : FTab X k ((c, sp) :: tb) := fun p hp => by
  rcases List.mem_cons.mp hp with rfl | hp
  · exact ⟨f, fd, ps, hC, kp, F.mono hk, hb⟩
  · exact r p hp
theorem MTab.nil : MTab X k m [] := fun _ h => by cases h
theorem MTab.cons (hC : gaddr X.K c = some C) (cl : Cls X.K C) (me : Meth X.K C m f) (F : FnG X.prog X.w X.K X.mg X.base j f fd ps sp) (hk : j ≤ k) (hb : Binds X.K fd ps []) (r : MTab X k m tb) : MTab X k m ((c, sp) :: tb) := fun p hp => by
  rcases List.mem_cons.mp hp with rfl | hp
  · exact ⟨C, f, fd, ps, hC, cl, me, F.mono hk, hb⟩
  · exact r p hp
end
section
variable {σ : SD} {G : HH} {Q : QD} {E : ED} {tf : TED} {t tk : TAD} {tbo tbf tb : List (Str × SpD)} {c m : Str} {sp : SpD} {ns : List Str} {ds : List D}
theorem st_callV (h : tf σ G (fun x G1 => (∃ c sp ns ds, InsD G1 x c ns ds ∧ (c, sp) ∈ tbo ∧ t σ G1 (fun as G2 => (∃ ns ds, InsD G2 x c ns ds) ∧ sp (x :: as) G2 Q E) E) ∨ ∃ c sp, x = .gv c ∧ (c, sp) ∈ tbf ∧ t σ G1 (fun as G2 => sp as G2 Q E) E) E) : dCallV tbo tbf tf t σ G Q E := h
theorem st_callVq {P : Prop} (sp : SpD) (hm : (c, sp) ∈ tbo) (h : t σ G (fun as G2 => (∃ ns2 ds2, InsD G2 (.obj c ns ds) c ns2 ds2) ∧ sp (.obj c ns ds :: as) G2 Q E) E) : (∃ c' sp ns' ds', InsD G (.obj c ns ds) c' ns' ds' ∧ (c', sp) ∈ tbo ∧ t σ G (fun as G2 => (∃ ns2 ds2, InsD G2 (.obj c ns ds) c' ns2 ds2) ∧ sp (.obj c ns ds :: as) G2 Q E) E) ∨ P :=
  .inl ⟨c, sp, ns, ds, .obj c ns ds, hm, h⟩
theorem st_callVf {P : Prop} (sp : SpD) (hm : (c, sp) ∈ tbf) (h : t σ G (fun as G2 => sp as G2 Q E) E) : P ∨ ∃ c' sp, D.gv c = .gv c' ∧ (c', sp) ∈ tbf ∧ t σ G (fun as G2 => sp as G2 Q E) E := .inr ⟨c, sp, rfl, hm, h⟩
theorem st_insQ {P : Prop} (h : P) : (∃ ns2 ds2, InsD G (.obj c ns ds) c ns2 ds2) ∧ P := ⟨⟨ns, ds, .obj c ns ds⟩, h⟩
theorem st_methV {ta : TED} (h : ta σ G (fun x G1 => ∃ c sp ns ds, InsD G1 x c ns ds ∧ lk m ns ds = none ∧ (c, sp) ∈ tb ∧ t σ G1 (fun as G2 => sp (x :: as) G2 Q E) E) E) : dMethV m tb ta t σ G Q E := h
theorem st_methVq (sp : SpD) (hl : lk m ns ds = none) (hm : (c, sp) ∈ tb) (h : t σ G (fun as G2 => sp (.obj c ns ds :: as) G2 Q E) E) : ∃ c' sp ns' ds', InsD G (.obj c ns ds) c' ns' ds' ∧ lk m ns' ds' = none ∧ (c', sp) ∈ tb ∧ t σ G (fun as G2 => sp (.obj c ns ds :: as) G2 Q E) E := ⟨c, sp, ns, ds, .obj c ns ds, hl, hm, h⟩
theorem st_makeK {fr : Bool} {n k : Nat} {perm : List Nat} (h : t σ G (fun ds G1 => tk σ G1 (fun zs G2 => ds.length = n ∧ zs.length = k ∧ ∀ p, G2 p = none → sp (pick perm (.ref p :: (ds ++ zs))) (gput G2 p (.ins c [] []))
  (fun v G3 => v = .non ∧ if fr = true then ∃ ns vs, G3 p = some (.ins c ns vs) ∧ Q (.obj c ns vs) (gdel G3 p) else Q (.ref p) G3) E) E) E) : dMakeK fr c n k perm sp t tk σ G Q E := h
end
end DL

namespace DL
open PySem PySem.Spec PyProof.Rows L2
open PySem.W (Frag)
section
variable {X : Cx} {W : WX} {o : Expr} {to : TED} {apos pos : Pos}
/-- x.bit_length() -/
def bitsI : D → HH → QD → Prop := uI fun i => .int (Builtin.Int.intBits i : Nat)
theorem de_bits (ho : DE X W o to) (hbase : attributeBase o "bit_length" X.env (eval o X.env) = eval o X.env := by rfl) (hline : (apos.endLine == pos.line) = true := by rfl) : DE X W (.Call (.Attribute o "bit_length" apos) [] [] pos) (dUn bitsI to) :=
  PE.imp (pe_bits ho hbase hline) fun σ H Q ⟨σD, G, QD, E, hR, hS, q, hq, he⟩ =>
    ⟨σD, G, _, E, hR, hS, q, fun v1 H1 d1 G1 s1 r1 p1 ⟨i, e, q1⟩ => by
      subst e; cases p1
      exact ⟨i, rfl, hq _ _ _ _ s1 r1 (.int _) q1⟩, he⟩
theorem st_bits {G : HH} {Q : QD} {i : Int} (h : Q (.int (Builtin.Int.intBits i : Nat)) G) : bitsI (.int i) G Q := ⟨i, rfl, h⟩
end
/-! ### how many bits -/
/-- below 2 ^ b, as a name of its own -/
@[irreducible] def Bt (b : Nat) (x : Int) : Prop := x.natAbs < 2 ^ b
theorem Bt.of {b : Nat} {x : Int} (h : x.natAbs < 2 ^ b) : Bt b x := by unfold Bt; exact h
theorem Bt.to {b : Nat} {x : Int} (h : Bt b x) : x.natAbs < 2 ^ b := by unfold Bt at h; exact h
theorem Bt.mono {a b : Nat} {x : Int} (h : Bt a x) (l : a ≤ b) : Bt b x := .of (Nat.lt_of_lt_of_le h.to (Nat.pow_le_pow_right (by decide) l))
theorem Bt.nat {b : Nat} {n : Nat} (h : n < 2 ^ b) : Bt b (n : Int) := .of (by rw [Int.natAbs_natCast]; exact h)
theorem Bt.neg {b : Nat} {x : Int} (h : Bt b x) : Bt b (-x) := .of (by rw [Int.natAbs_neg]; exact h.to)
theorem Bt.abs {b : Nat} {x : Int} (h : Bt b x) : Bt b (x.natAbs : Int) := .of (by rw [Int.natAbs_natCast]; exact h.to)
theorem Bt.add {a b : Nat} {x y : Int} (h : Bt a x) (k : Bt b y) : Bt (max a b + 1) (x + y) := by
  have h1 := (h.mono (Nat.le_max_left a b)).to
  have h2 := (k.mono (Nat.le_max_right a b)).to
  refine .of ?_
  rw [Nat.pow_succ]
  generalize 2 ^ max a b = B at *
  omega
theorem Bt.sub {a b : Nat} {x y : Int} (h : Bt a x) (k : Bt b y) : Bt (max a b + 1) (x - y) := by
  rw [Int.sub_eq_add_neg]; exact h.add k.neg
theorem Bt.mul {a b : Nat} {x y : Int} (h : Bt a x) (k : Bt b y) : Bt (a + b) (x * y) := by
  refine .of ?_
  rw [Int.natAbs_mul, Nat.pow_add]
  exact Nat.mul_lt_mul'' h.to k.to
theorem Bt.shl {a : Nat} {x : Int} (h : Bt a x) (n : Nat) : Bt (a + n) (x * 2 ^ n) := by
  refine .of ?_
  rw [Int.natAbs_mul, Nat.pow_add]
  have e : ((2 : Int) ^ n).natAbs = 2 ^ n := by rw [Int.natAbs_pow]; rfl
  rw [e]
  exact Nat.mul_lt_mul_of_pos_right h.to (Nat.two_pow_pos n)
theorem Bt.le {a : Nat} {x y : Int} (h : Bt a y) (l : x.natAbs ≤ y.natAbs) : Bt a x := .of (Nat.lt_of_le_of_lt l h.to)
theorem natAbs_div_le (x : Int) {y : Int} (h : 0 < y) : (x / y).natAbs ≤ x.natAbs := by
  have h1 : 0 ≤ x → 0 ≤ x / y ∧ x / y ≤ x := fun z => ⟨Int.ediv_nonneg z (by omega), Int.ediv_le_self y z⟩
  have h2 : x < 0 → x ≤ x / y ∧ x / y ≤ 0 := fun z => by
    refine ⟨Int.le_ediv_of_mul_le h ?_, ?_⟩
    · have q := Int.mul_nonneg (show 0 ≤ -x by omega) (show 0 ≤ y - 1 by omega)
      rw [Int.neg_mul, Int.mul_sub, Int.mul_one] at q
      omega
    · have q := Int.ediv_neg_of_neg_of_pos z h
      exact Int.le_of_lt q
  by_cases z : 0 ≤ x
  · have := h1 z; omega
  · have := h2 (by omega); omega
theorem Bt.div {a : Nat} {x : Int} (h : Bt a x) {y : Int} (k : 0 < y) : Bt a (x / y) := h.le (natAbs_div_le x k)
theorem Bt.mod {b : Nat} {x y : Int} (k : 0 < y) (h : Bt b y) : Bt b (x % y) := h.le (by
  have h1 := Int.emod_nonneg x (show y ≠ 0 by omega)
  have h2 := Int.emod_lt_of_pos x k
  omega)
theorem Bt.pow {a : Nat} {x : Int} (h : Bt a x) : ∀ n : Nat, Bt (a * n + 1) (x ^ n)
  | 0 => .of (by simp)
  | n + 1 => by
    rw [Int.pow_succ]
    exact (((Bt.pow h n).mul h).mono (by rw [Nat.mul_add]; omega))
theorem cmul_bt {a b : Nat} {x y : Int} (h : Bt a x) (k : Bt b y) (l : a + b ≤ 134217728) : CMulX x y := mulx_ok h.to k.to l
theorem cshl_bt {a n : Nat} {x : Int} (h : Bt a x) (l : a + n ≤ 134217728) : CShl x (n : Int) := shl_ok h.to l
theorem log2_lt_of {n b : Nat} (h : n < 2 ^ b) (hb : 0 < b) : n.log2 < b := by
  by_cases hz : n = 0
  · subst hz; exact hb
  · exact (Nat.log2_lt hz).mpr h
theorem cdiv_bt {a : Nat} {x y : Int} (h : 0 < y) (k : Bt a y) (l : a ≤ 9000) : CDivW x y := ⟨h, log2_lt_of (k.mono l).to (by decide)⟩
theorem cpow_bt {x : Int} {n : Nat} (h : Bt 64 x) (l : n ≤ 1000000) : CPow x (n : Int) := ⟨by omega, by omega, h.to⟩
theorem bt_two (n : Nat) : Bt (n + 1) ((2 : Int) ^ n) := .of (by
  rw [Int.natAbs_pow]
  exact Nat.pow_lt_pow_right (by decide) (by omega))
section
variable {G : HH} {Q : QD}
theorem eqD_nilL (xs : List D) : eqD (.lst xs) (.lst []) = xs.isEmpty := by cases xs <;> simp [eqD, D.pyd, PyData.eqv, pyds, PyData.eqvAll]
theorem eqD_nilT (xs : List D) : eqD (.tup xs) (.tup []) = xs.isEmpty := by cases xs <;> simp [eqD, D.pyd, PyData.eqv, pyds, PyData.eqvAll]
theorem st_neL0 {xs : List D} (h : gds 59 xs) (q : Q (.bl (!xs.isEmpty)) G) : eAny true (.lst xs) (.lst []) G Q := st_neD 60 (by rw [gd_lst]; exact h) (by simp [gd, gds]) (by decide) (by rw [eqD_nilL]; exact q)
theorem st_eqL0 {xs : List D} (h : gds 59 xs) (q : Q (.bl xs.isEmpty) G) : eAny false (.lst xs) (.lst []) G Q := st_eqD 60 (by rw [gd_lst]; exact h) (by simp [gd, gds]) (by decide) (by rw [eqD_nilL]; exact q)
theorem st_neT0 {xs : List D} (h : gds 59 xs) (q : Q (.bl (!xs.isEmpty)) G) : eAny true (.tup xs) (.tup []) G Q := st_neD 60 (by rw [gd_tup]; exact h) (by simp [gd, gds]) (by decide) (by rw [eqD_nilT]; exact q)
theorem st_eqT0 {xs : List D} (h : gds 59 xs) (q : Q (.bl xs.isEmpty) G) : eAny false (.tup xs) (.tup []) G Q := st_eqD 60 (by rw [gd_tup]; exact h) (by simp [gd, gds]) (by decide) (by rw [eqD_nilT]; exact q)
theorem gds_int {n : Nat} (xs : List Int) : gds n (xs.map D.int) := gds_map fun _ _ => by cases n <;> simp [gd]
theorem gds_dN {n : Nat} (xs : List Nat) : gds n (xs.map fun i : Nat => D.int (i : Int)) := gds_map fun _ _ => by cases n <;> simp [gd]
theorem st_neLI {xs : List Int} (q : Q (.bl (!xs.isEmpty)) G) : eAny true (.lst (xs.map D.int)) (.lst []) G Q := st_neL0 (gds_int xs) (by rw [show (xs.map D.int).isEmpty = xs.isEmpty by cases xs <;> rfl]; exact q)
theorem st_eqLI {xs : List Int} (q : Q (.bl xs.isEmpty) G) : eAny false (.lst (xs.map D.int)) (.lst []) G Q := st_eqL0 (gds_int xs) (by rw [show (xs.map D.int).isEmpty = xs.isEmpty by cases xs <;> rfl]; exact q)
end
/-! ### a cut: what holds where ways meet -/
section
variable {t : TSD} {σ : SD} {G : HH} {nx bk ct : SD → HH → Prop} {rt : QD} {ex : XD → SD → HH → Prop}
theorem st_cut (ks : List Nat) (I : List (Option D) → HH → Prop) (h : ∀ nx' : SD → HH → Prop, (∀ vs G', I vs G' → nx' (setL σ ks vs) G') → t ⟨nx', rt, bk, ct, ex⟩ σ G) (hc : ∀ vs G', I vs G' → nx (setL σ ks vs) G') : t ⟨nx, rt, bk, ct, ex⟩ σ G := h nx hc
theorem cut_fin {σ2 : SD} {ks : List Nat} {I : List (Option D) → HH → Prop} (hn : ∀ vs G', I vs G' → nx (setL σ ks vs) G') (e : σ2 = setL σ ks (getL σ2 ks)) (hI : I (getL σ2 ks) G) : nx σ2 G := by rw [e]; exact hn _ _ hI
end
section
variable {G : HH} {Q : QD} {T : String} {b : Bool}
theorem st_isiI {i : Int} (hk : kitB "int" T = some b) (h : Q (.bl b) G) : kIsi [.int i, .ty T] G Q := st_isi (.int i) hk h
theorem st_isiB {i : Bool} (hk : kitB "bool" T = some b) (h : Q (.bl b) G) : kIsi [.bl i, .ty T] G Q := st_isi (.bl i) hk h
theorem st_isiS {i : Str} (hk : kitB "str" T = some b) (h : Q (.bl b) G) : kIsi [.str i, .ty T] G Q := st_isi (.str i) hk h
theorem st_isiN (hk : kitB "NoneType" T = some b) (h : Q (.bl b) G) : kIsi [.non, .ty T] G Q := st_isi .non hk h
theorem st_isiT {xs : List D} (hk : kitB "tuple" T = some b) (h : Q (.bl b) G) : kIsi [.tup xs, .ty T] G Q := st_isi (.tup xs) hk h
theorem st_isiL {xs : List D} (hk : kitB "list" T = some b) (h : Q (.bl b) G) : kIsi [.lst xs, .ty T] G Q := st_isi (.lst xs) hk h
end
/-! ### making, by a name -/
def MkR (fr : Bool) (c : Str) (sp : SpD) (ds : List D) (G1 : HH) (Q : QD) (E : ED) : Prop := ∀ p, G1 p = none → sp (.ref p :: ds) (gput G1 p (.ins c [] []))
  (fun v G2 => v = .non ∧ if fr = true then ∃ ns vs, G2 p = some (.ins c ns vs) ∧ Q (.obj c ns vs) (gdel G2 p) else Q (.ref p) G2) E
def MkRK (fr : Bool) (c : Str) (n m : Nat) (perm : List Nat) (sp : SpD) (ds zs : List D) (G2 : HH) (Q : QD) (E : ED) : Prop := ds.length = n ∧ zs.length = m ∧ ∀ p, G2 p = none → sp (pick perm (.ref p :: (ds ++ zs))) (gput G2 p (.ins c [] []))
  (fun v G3 => v = .non ∧ if fr = true then ∃ ns vs, G3 p = some (.ins c ns vs) ∧ Q (.obj c ns vs) (gdel G3 p) else Q (.ref p) G3) E
section
variable {fr : Bool} {c : Str} {sp : SpD} {t tk : TAD} {σ : SD} {G : HH} {Q : QD} {E : ED} {n m : Nat} {perm : List Nat}
theorem st_mk (h : t σ G (fun ds G1 => MkR fr c sp ds G1 Q E) E) : dMake fr c sp t σ G Q E := h
theorem st_mkK (h : t σ G (fun ds G1 => tk σ G1 (fun zs G2 => MkRK fr c n m perm sp ds zs G2 Q E) E) E) : dMakeK fr c n m perm sp t tk σ G Q E := h
end
section
variable {σ : SD} {G : HH} {Q : QD} {E : ED} {ta tb tc : TED} {r r' : D → D → HH → QD → Prop}
theorem st_chainE {x y w : D} {k1 k2 : Bool} (ha : EvE ta σ G x) (hb : EvE tb σ G y) (hc : EvE tc σ G w) (h1 : ∀ Q : QD, Q (.bl k1) G → r x y G Q) (h2 : k1 = true → ∀ Q : QD, Q (.bl k2) G → r' y w G Q) (h : Q (.bl (k1 && k2)) G) : dChain r r' ta tb tc σ G Q E := by
  refine ha _ _ (hb _ _ (h1 _ ⟨k1, rfl, ?_⟩))
  cases k1
  · rw [if_neg Bool.false_ne_true]; exact h
  · rw [if_pos rfl]; exact hc _ _ (h2 rfl _ (by simpa using h))
end
theorem st_isim {x : D} {T : String} {G : HH} {Q : QD} (h : kIsi [x, .ty T] G Q) : kIsi [x, .ty T] G Q := h
theorem st_iteNT {A B : Prop} (q : B) : if (!true) = true then A else B := q
theorem st_iteNF {A B : Prop} (q : A) : if (!false) = true then A else B := q
/-- what is never asked -/
theorem FnG.no {P : Program} {w : World} {K : Frag} {mg : Str → Option Value} {base : Heap} {k : Nat} {f : Addr} {fd : FuncData} {ps : List Str} {sp : SpD} (h : ∀ ds G Q E, ¬ sp ds G Q E) : FnG P w K mg base k f fd ps sp :=
  ⟨fun ds G Q E z => absurd z (h ds G Q E), fun A outer s H args us vs Q E _ _ _ _ _ ⟨ds, G, QD, EX, _, _, z, _⟩ => absurd z (h ds G QD EX)⟩
end DL

namespace DL
open PySem PySem.Spec PyProof.Rows L2
open PySem.W (Frag)
/-! ### C() where no __init__ is written -/
structure MkN (K : Frag) (C : Addr) : Prop where
  makes : PySem.W.makesIn K C = true
  init : PySem.W.findIn K (.ref C) "__init__" = some (some (.builtin "object.__init__"))
  kp : PySem.W.keepIn K (.ref C) = true
section
variable {X : Cx} {W : WX} {C : Addr} {pos : Pos}
theorem run_makeN {pins : List (Addr × Obj)} {σ : L2.St} {H : Hp} {s : Shared} {Q : VK} (M : MkN X.K C) (I : Inv X pins σ H s)
    (h : ∀ x dx, H x = none → H dx = none → dx ≠ x → Q (.ref x) (upd (upd H dx (.own x)) x (.ins C dx []))) :
    wpAny (model X.prog X.w) X.A (call (.ref C) []) (EP X pins σ Q) X.xe s := by
  have hq := h (s.heap.objs.size + 1) s.heap.objs.size (I.hok.fresh (Nat.le_succ _)) (I.hok.fresh (Nat.le_refl _)) (Nat.ne_of_lt (Nat.lt_succ_self _))
  have I2 := Inv.made (C := C) I
  refine wpAny_call (make_map0 I.kIn M.makes M.init (fun self => PySem.W.Looks.of_pure (PySem.W.oi_bind self)) ?_)
  have Y := PySem.W.makes_of (M := model X.prog X.w) I.kIn M.makes
  have e2 : ((s.heap.push PySem.W.emptyDict).push (PySem.W.instObj C s.heap.objs.size)).get? (s.heap.objs.size + 1) = some (PySem.W.instObj C s.heap.objs.size) := by
    have z := Heap.get?_push_size (s.heap.push PySem.W.emptyDict) (o := PySem.W.instObj C s.heap.objs.size) rfl
    rwa [Heap.size_push] at z
  have t1 : PySem.W.Looks (model X.prog X.w) ((s.heap.push PySem.W.emptyDict).push (PySem.W.instObj C s.heap.objs.size)) (typeOf (.ref (s.heap.objs.size + 1))) (.ref C) := (PySem.W.Looks.ld e2).andThen .now
  have t2 : PySem.W.Looks (model X.prog X.w) ((s.heap.push PySem.W.emptyDict).push (PySem.W.instObj C s.heap.objs.size)) (isInstance (.ref (s.heap.objs.size + 1)) (.type "object")) true :=
    t1.andThen (Y.top.keeps fun b o e => Heap.get?_push_of_some _ (Heap.get?_push_of_some _ e))
  refine codeAny_call_builtin PySem.W.oi_plain PySem.W.entry_oi (@PySem.W.check_slot (model X.prog X.w) _ _ _ "object.__init__" "object" "__init__" (.ref (s.heap.objs.size + 1)) [] [] _ PySem.W.oi_kind PySem.W.oi_split t2 (PySem.W.oi_args (.ref (s.heap.objs.size + 1))) ?_)
  rw [PySem.W.oi_run]
  exact wpAny_pure ⟨rfl, ⟨V.ref (s.heap.objs.size + 1), _, I2, rfl, hq⟩⟩
def dNew (c : Str) : TED := fun _ G Q _ => Q (.obj c [] []) G
theorem de_new {c x : Str} {p : Pos} (hC : gaddr X.K c = some C) (M : MkN X.K C) (hg : Gl X x) (hm : X.mg x = some (.ref C))
    (hdb : (x == ("__debug__" : Str)) = false := by decide) : DE X W (.Call (.Name x p) [] [] pos) (dNew c) := by
  refine ⟨fun pins s σ H Q I ⟨σD, G, QD, E, hR, hS, q, hq, hE⟩ => ?_⟩
  refine wpAny_Call_Name_kw (ld_glob I hg hm ?_ hdb)
  refine PySem.W.callWith_K0 I.kIn M.kp (run_makeN M I fun x dx hx hdx hne => ?_)
  have s2 := Stp.new (G := G) (o := .own x) hdx
  have r2 := hR.new (o := .own x) hdx
  have hx2 : (upd H dx (.own x)) x = none := by rw [upd_ne (fun z => hne z.symm)]; exact hx
  have s3 := Stp.new (G := G) (o := .ins C dx []) hx2
  have r3 := r2.new (o := .ins C dx []) hx2
  exact hq _ _ _ _ (s2.trans s3) r3 (Rp.obj (ns := []) (xs := []) hC upd_same (hR.free hx) rfl .nil) q
theorem st_new {σ : SD} {G : HH} {Q : QD} {E : ED} {c : Str} (q : Q (.obj c [] []) G) : dNew c σ G Q E := q
end
theorem st_eqDiff {x y : Str} {A B : Prop} (h : ¬ x = y) (q : B) : if decide (x = y) = true then A else B := by rw [decide_eq_false h, if_neg Bool.false_ne_true]; exact q
theorem st_neDiff {x y : Str} {A B : Prop} (h : ¬ x = y) (q : A) : if (!decide (x = y)) = true then A else B := by rw [decide_eq_false h]; exact q
end DL

namespace DL
open PySem PySem.Spec PyProof.Rows L2
open PySem.W (Frag)
section
variable {X : Cx} {W : WX} {pos : Pos}
/-- a, b, .. = a list of that length -/
def gdLst (n : Nat) (t : TGsD) : TGD := fun d σ G Q => ∃ ds, LsW G d ds ∧ ds.length = n ∧ t ds σ G Q
theorem dg_lst {es : List Expr} {k n : Nat} {tG : TGsD} (hc : X.calm = true) (h : DGs X es tG) (hn : (assignEach es X.env).length = n := by rfl) (hst : (assignEach es X.env).findIdx? (·.1) = none := by rfl) : DG X (.Tuple es k pos) (gdLst n tG) :=
  PG.imp (pg_lst hc h hn hst) fun v σ H Q ⟨d, σD, G, QD, hR, hS, p, ⟨ds, e, l, q⟩, hq⟩ => by
    obtain ⟨a, vs, e1, hs, r⟩ := e.of hR p
    exact ⟨a, vs, e1, hs, by rw [← r.length]; exact l, ds, σD, G, QD, hR, hS, r, q, hq⟩
end
theorem st_glst {n : Nat} {ds : List D} {tG : TGsD} {σ : SD} {G : HH} {N : SD → HH → Prop} (hl : ds.length = n) (h : tG ds σ G N) : gdLst n tG (.lst ds) σ G N := ⟨ds, .lst _, hl, h⟩
theorem st_glstR {n : Nat} {p : Addr} {ds : List D} {tG : TGsD} {σ : SD} {G : HH} {N : SD → HH → Prop} (e : G p = some (.lst ds)) (hl : ds.length = n) (h : tG ds σ G N) : gdLst n tG (.ref p) σ G N := ⟨ds, .ref e, hl, h⟩
end DL

namespace DL
open PySem PySem.Spec PyProof.Rows L2
open PySem.W (Frag)
/-- isinstance's table at one class, in parts that k_is knows -/
theorem kit_same {K : Frag} {t c : Value} (e : (t == c) = true) : PySem.W.kitOne K t c = some true := by
  unfold PySem.W.kitOne
  rw [if_pos e]
theorem kit_ref {K : Frag} {t : Value} {C : Addr} {b : Bool} (e : (t == .ref C) = false) (h1 : (PySem.W.clsIn K C).isSome = true) (h2 : PySem.W.typeIn K (.ref C) = some (.type "type")) (h3 : PySem.W.subIn K t (.ref C) = some b) : PySem.W.kitOne K t (.ref C) = some b := by
  unfold PySem.W.kitOne
  rw [e, if_neg Bool.false_ne_true]
  show (if ((PySem.W.clsIn K C).isSome && PySem.W.typeIn K (.ref C) == some (.type "type")) = true then PySem.W.subIn K t (.ref C) else none) = some b
  rw [h1, h2, if_pos (by first | rfl | decide)]
  exact h3
/-! ### o.f(..): a field that is called -/
section
variable {X : Cx} {W : WX} {e o : Expr} {es : List Expr} {to : TED} {t : TAD} {pos apos : Pos}
theorem getfldm_ok {pins : List (Addr × Obj)} {s : Shared} {σ : L2.St} {H : Hp} {a C dx : Addr} {fs : List (Str × V)} {f : Str} {v : V} {A : Around} {E : Value → Shared → Prop} {pl : Sem Bool} {Q : Value × List Value → Shared → Prop} (I : Inv X pins σ H s) (h : H a = some (.ins C dx fs)) (c : Cls X.K C) (n : NoAttr X.K C f) (l : fs.lookup f = some v) (q : ∀ u s', Inv X pins σ H s' → RelV v u → Q (u, []) s') :
    wpAny (model X.prog X.w) A (getMethod (.ref a) f pl) Q E s := by
  obtain ⟨mA, O, _⟩ := ins_get I.hok h
  obtain ⟨od, J, hl⟩ := O.look
  exact PySem.W.method_usual (r := none) I.kIn J (PySem.W.plainGet_of (c.get f)).1 (PySem.W.plainGet_of (c.get f)).2 n rfl (getattr_ok I h c n l q)
theorem run_callV {pins : List (Addr × Obj)} {s1 : Shared} {σ : L2.St} {H1 : Hp} {σD : SD} {G1 : HH} {Q : VK} {QD : QD} {E : ED} {u : Value} {x : V} {d : D} {k : Nat} {tbo tbf : List (Str × SpD)} (ho : CTab X k tbo) (hf : FTab X k tbf) (hgd : X.A.guards = some []) (hr : Room k X.A) (tk : Takes X W) (ha : DA X W (e :: es) t)
    (I1 : Inv X pins σ H1 s1) (rx : RelV x u) (r1 : RelH X.K H1 G1) (hS : SRp X.K H1 G1 σD σ) (p1 : Rp X.K H1 G1 d x)
    (z : (∃ c sp ns ds, InsD G1 d c ns ds ∧ (c, sp) ∈ tbo ∧ t σD G1 (fun as G2 => (∃ ns ds, InsD G2 d c ns ds) ∧ sp (d :: as) G2 QD E) E) ∨ ∃ c sp, d = .gv c ∧ (c, sp) ∈ tbf ∧ t σD G1 (fun as G2 => sp as G2 QD E) E)
    (hq : Ct X.K H1 G1 Q QD) (hE : Exs X.K W σ H1 G1 E)
    (he : starEach (e :: es) X.env = (false, eval e X.env) :: starEach es X.env := by rfl) (hpl : (backTo pos (starEach es X.env)).any (·.1) = false := by rfl) :
    wpAny (model X.prog X.w) X.A (callWith pos u [] (backTo pos (starEach (e :: es) X.env)) []) (EP X pins σ Q) X.xe s1 := by
  have ha' : PA X (e :: es) (lftA X.K W t) := ha
  rcases z with ⟨c, sp, ns0, ds0, hi0, hm, q1⟩ | ⟨c, sp, rfl, hm, q1⟩
  · obtain ⟨C, g, fd, ps, hC, co, F, hb⟩ := ho _ hm
    obtain ⟨a, _, _, _, ex, _, _, _, _⟩ := hi0.of r1 p1
    subst ex
    obtain rfl : u = Value.ref a := rx
    refine StX.callO_with (thn (ha'.run pos pins s1 σ H1 (fun vs H2 => (∃ dx fs, H2 a = some (.ins C dx fs)) ∧ lsp X.K sp (.ref a :: vs) H2 Q (WE W σ)) I1 ⟨σD, G1, _, E, r1, hS, q1, fun vs H2 as G2 s2 r2 p2 ⟨⟨ns, ds, hi⟩, q2⟩ => ?_, hE⟩) fun us s2 ⟨vs, H2, I2, r, ⟨dx2, fs2, hi2⟩, q2⟩ => ?_) he hpl
    · have p3 := p1.mono s2
      obtain ⟨b, C', dx, xs, ex, h1, h2, h3, h4⟩ := hi.of r2 p3
      cases ex
      have hCC : C' = C := by rw [hC] at h1; exact (Option.some.inj h1).symm
      subst hCC
      exact ⟨⟨_, _, h2⟩, d :: as, G2, QD, E, r2, .cons p3 p2, q2, hq.mono s2, fun xd cls d' H' G' s' r' p' z' => hE _ _ _ _ _ (s2.trans s') r' p' z'⟩
    · obtain ⟨ox, od, J, hd⟩ := StX.insC_at I2 (Or.inr ⟨_, _, hi2⟩)
      refine ⟨⟨C, ox, od, J, hd⟩, ?_⟩
      have rv : Vals (V.ref a :: vs) (Value.ref a :: us) := .cons (vref a) r
      have hl : (Value.ref a :: us).length = ps.length := by rw [← rv.length]; exact F.llen q2
      have b := hb s2 (Value.ref a :: us) I2.kIn (by rw [List.append_nil]; exact hl)
      rw [List.append_nil] at b
      refine wpAny_call (PySem.W.kco_code I2.kIn J hd co.at_ co.fn co.fi (codeAny_mono (run_any F hgd hr tk I2 b rv q2) fun r s' hq' => ?_))
      cases r with
      | error e => exact hq'
      | ok fl =>
        cases fl with
        | ret u => exact hq'
        | next => exact False.elim hq'
        | brk => exact False.elim hq'
        | cont => exact False.elim hq'
  · obtain ⟨f, fd, ps, hC, hk, F, hb⟩ := hf _ hm
    cases p1 with
    | gv e1 =>
      rename_i a
      have hCC : a = f := by rw [show gaddr X.K c = some f from hC] at e1; exact (Option.some.inj e1).symm
      subst hCC
      obtain rfl : u = Value.ref a := rx
      refine PySem.W.callWith_K (first := []) (h₀ := X.base) I1.ok.mod.kin hk (thn (ha'.run pos pins s1 σ H1 (fun vs H2 => lsp X.K sp vs H2 Q (WE W σ)) I1 ⟨σD, G1, _, E, r1, hS, q1, fun vs H2 as G2 s2 r2 p2 q2 => ?_, hE⟩) fun us s2 ⟨vs, H2, I2, r, q2⟩ => ⟨I2.kIn, ?_⟩) he hpl
      · exact ⟨as, G2, QD, E, r2, p2, q2, hq.mono s2, fun xd cls d' H' G' s' r' p' z' => hE _ _ _ _ _ (s2.trans s') r' p' z'⟩
      · exact run_call F hgd hr hb tk I2 r q2
theorem de_callF {cs : List Str} {m : Str} {k : Nat} {tbo tbf : List (Str × SpD)} {pl : Sem Bool} (hF : FldOk X.K cs m) (ho : CTab X k tbo) (hf : FTab X k tbf) (hgd : X.A.guards = some []) (hr : Room k X.A) (tk : Takes X W) (hoe : DE X W o to) (ha : DA X W (e :: es) t)
    (hst : starEach (e :: es) X.env = (false, eval e X.env) :: starEach es X.env := by rfl) (hpl : (backTo pos (starEach es X.env)).any (·.1) = false := by rfl)
    (ht : eval (.Call (.Attribute o m apos) (e :: es) [] pos) X.env = (do
      let ov ← eval o X.env
      standAt apos.atName
      let (f, first) ← holding [ov] (getMethod ov m pl)
      callWith pos f first (backTo pos (starEach (e :: es) X.env)) (backToKw pos (keywordEach [] X.env))) := by rfl) :
    DE X W (.Call (.Attribute o m apos) (e :: es) [] pos) (dCallV tbo tbf (dFld cs m to) t) := by
  have ho' : PE X o (lft X.K W to) := hoe
  refine ⟨fun pins s σ H Q I ⟨σD, G, QD, E, hR, hS, q, hq, hE⟩ => ?_⟩
  refine PySem.W.methodCall_KW (pl := pl) (thn (ho'.run pins s σ H (fun v H1 => ∃ d G1, Stp H G H1 G1 ∧ RelH X.K H1 G1 ∧ Rp X.K H1 G1 d v ∧ ∃ c ns ds d', InsD G1 d c ns ds ∧ c ∈ cs ∧ lk m ns ds = some d' ∧ ((∃ c sp ns ds, InsD G1 d' c ns ds ∧ (c, sp) ∈ tbo ∧ t σD G1 (fun as G2 => (∃ ns ds, InsD G2 d' c ns ds) ∧ sp (d' :: as) G2 QD E) E) ∨ ∃ c sp, d' = .gv c ∧ (c, sp) ∈ tbf ∧ t σD G1 (fun as G2 => sp as G2 QD E) E)) I ⟨σD, G, _, E, hR, hS, q, fun v H1 d G1 s1 r1 p1 z => ⟨d, G1, s1, r1, p1, z⟩, hE⟩) fun u s1 ⟨x, H1, I1, rx, d, G1, s1', r1, p1, c, ns, ds, d', hi, hc, hl, z⟩ => ?_) ht
  obtain ⟨a, C, dx, xs, rfl, h1, h2, h3, h4⟩ := hi.of r1 p1
  rcases lk_zip (f := m) h4 h3 with ⟨y, _⟩ | ⟨d2, v, e1, e2, p2⟩
  · rw [hl] at y; cases y
  · rw [hl] at e1; cases e1
    obtain ⟨k1, k2⟩ := hF c hc C h1
    obtain rfl : u = Value.ref a := rx
    exact getfldm_ok I1 h2 k1 k2 e2 fun u' s2 I2 ru => run_callV ho hf hgd hr tk ha I2 ru r1 (hS.mono s1') p2 z (hq.mono s1') (hE.mono s1') hst hpl
end
end DL

namespace DL
open PySem PySem.Spec PyProof.Rows L2
open PySem.W (Frag)
section
variable {X : Cx}
/-- sorted(ints) -/
def kSortI : RCD := c1 fun x G Q => ∃ ns : List Int, LsW G x (ns.map D.int) ∧ ∀ ms : List Int, ms.Perm ns → ms.Pairwise (· ≤ ·) → Q (.lst (ms.map D.int)) G
theorem cSortI : CallD X (.builtin "sorted") kSortI := ⟨_, cr_sortedI, fun xs H Q ds G QD hR hp ⟨x, e, ns, s, q⟩ hq => by
  subst e
  obtain ⟨v, rfl, p⟩ := rps1 hp
  obtain ⟨a, vs, rfl, h, r⟩ := s.of hR p
  rw [r.ints] at h
  exact ⟨a, ns, rfl, h, fun ns' l hp hs hl => hq.lst hR hl (Rps.of_ints ns') (q ns' hp hs)⟩⟩
end
theorem st_sortI {G : HH} {Q : QD} {x : D} {ns : List Int} (h : LsW G x (ns.map D.int)) (q : ∀ ms : List Int, ms.Perm ns → ms.Pairwise (· ≤ ·) → Q (.lst (ms.map D.int)) G) : kSortI [x] G Q := ⟨x, rfl, ns, h, q⟩
/-- a comprehension that takes nothing -/
theorem lc_none {σ : SD} {G : HH} {Q : QD} {ok : HH → Prop} {g : Tgt} {tt : TTD} {te : TED} {vs : List Nat} {α : Type} {xs : List α} {c : α → D} (hok : ∀ p acc, G p = none → ok (gput G p (.lst acc))) (hl : xs.length ≤ sizeLine)
    (hs : ∀ a, a ∈ xs → ∀ p acc, G p = none → ∃ σ2, g.put (c a) (wipeD σ vs) = some σ2 ∧ EvT tt σ2 (gput G p (.lst acc)) false) (hq : Q (.lst []) G) : LcG true (xs.map c) ok g tt te vs σ G Q :=
  lc_ev (k := fun _ => false) (f := fun _ => .non) hok hl (fun a ha p acc hp => (hs a ha p acc hp).imp fun σ2 h => ⟨h.1, h.2, fun z => by cases z⟩) (by
    rw [show xs.filter (fun _ => false) = [] from List.filter_eq_nil_iff.mpr (by simp)]
    exact hq)
theorem atI_cons {x : D} {xs : List D} : atI (x :: xs) 0 = some x := by
  unfold atI
  have : ixN (x :: xs).length 0 = some 0 := by
    unfold ixN
    simp
  rw [this]
  rfl
theorem dcut_init (xs : List D) (y : D) : dcut (xs ++ [y]) none (some (-1)) = xs := by
  unfold dcut HT.sIx
  simp
  rw [show (-1 + ((xs.length : Int) + 1)).toNat = xs.length by omega, List.take_append_of_le_length (Nat.le_refl _), List.take_length]
theorem scs_ints : ∀ l : List Int, scs (l.map D.int) = some (l.map V.int)
  | [] => rfl
  | x :: l => by
    rw [List.map_cons, scs, scs_ints l]
    rfl
theorem inV_ints (z : Int) (l : List Int) : inV (.int z) (l.map V.int) = decide (z ∈ l) := by
  induction l with
  | nil => simp [inV]
  | cons x l ih =>
    simp only [inV, List.map_cons, List.any_cons] at ih ⊢
    rw [ih]
    show ((x == z) || _) = _
    by_cases h : x = z
    · subst h; simp
    · have h' : ¬ z = x := fun z => h z.symm
      simp [h, h']
theorem st_inI {G : HH} {Q : QD} {z : Int} {y : D} {l : List Int} (h : Sq G y (l.map D.int)) (q : Q (.bl (decide (z ∈ l))) G) : iAny false (.int z) y G Q :=
  .inl ⟨_, _, _, h, rfl, scs_ints l, by rw [if_neg Bool.false_ne_true, inV_ints]; exact q⟩
theorem st_notInI {G : HH} {Q : QD} {z : Int} {y : D} {l : List Int} (h : Sq G y (l.map D.int)) (q : Q (.bl (!decide (z ∈ l))) G) : iAny true (.int z) y G Q :=
  .inl ⟨_, _, _, h, rfl, scs_ints l, by rw [if_pos rfl, inV_ints]; exact q⟩
theorem st_ne00 {G : HH} {Q : QD} (q : Q (.bl false) G) : eAny true (.lst []) (.lst []) G Q := st_neLI (xs := []) q
theorem st_eq00 {G : HH} {Q : QD} (q : Q (.bl true) G) : eAny false (.lst []) (.lst []) G Q := st_eqLI (xs := []) q
end DL

namespace DL
open PySem PySem.Spec PyProof.Rows L2
open PySem.W (Frag)
/-- what stood there stands there -/
def Kp (G G' : HH) : Prop := ∀ b, G b ≠ none → G' b = G b
theorem Kp.refl {G : HH} : Kp G G := fun _ _ => rfl
theorem Kp.trans {G G1 G2 : HH} (a : Kp G G1) (b : Kp G1 G2) : Kp G G2 := fun c h => (b c (by rw [a c h]; exact h)).trans (a c h)
theorem Kp.at {G G' : HH} (a : Kp G G') {p : Addr} {o : HOD} (h : G p = some o) : G' p = some o := (a p (by rw [h]; simp)).trans h
theorem Kp.new {G : HH} {p : Addr} {o : HOD} (h : G p = none) : Kp G (gput G p o) := fun b hb => gput_ne fun e => hb (by rw [e]; exact h)
theorem Kp.put {G G1 : HH} {p : Addr} {o : HOD} (a : Kp G G1) (h : G p = none) : Kp G (gput G1 p o) := fun b hb => (gput_ne fun e => hb (by rw [e]; exact h)).trans (a b hb)
theorem Kp.del {G G1 : HH} {p : Addr} (a : Kp G G1) (h : G p = none) : Kp G (gdel G1 p) := fun b hb => (gdel_ne fun e => hb (by rw [e]; exact h)).trans (a b hb)
/-- .. but for p -/
def Bk (p : Addr) (G G' : HH) : Prop := ∀ b, b ≠ p → G b ≠ none → G' b = G b
theorem Bk.refl {p : Addr} {G : HH} : Bk p G G := fun _ _ _ => rfl
theorem Bk.trans {p : Addr} {G G1 G2 : HH} (a : Bk p G G1) (b : Bk p G1 G2) : Bk p G G2 := fun c h k => (b c h (by rw [a c h k]; exact k)).trans (a c h k)
theorem Bk.at {p : Addr} {G G' : HH} (a : Bk p G G') {q : Addr} {o : HOD} (n : q ≠ p) (h : G q = some o) : G' q = some o := (a q n (by rw [h]; simp)).trans h
theorem But.bk {p : Addr} {G G' : HH} (a : But p G G') : Bk p G G' := fun b h _ => a b h
theorem Kp.bk {p : Addr} {G G' : HH} (a : Kp G G') : Bk p G G' := fun b _ h => a b h
section
variable {σ : SD} {G : HH} {Q : QD} {ok : HH → Prop} {g : Tgt} {tt : TTD} {te : TED} {vs : List Nat}
/-- a comprehension, by an invariant -/
theorem lc_gen {α : Type} {xs : List α} {c : α → D} (I : List α → List D → HH → Prop) (hl : xs.length ≤ sizeLine)
    (hI : ∀ pre acc G' G'' q, G q = none → (∀ b, b ≠ q → G'' b = G' b) → I pre acc G' → I pre acc G'') (h0 : I [] [] G)
    (hok : ∀ pre acc G', I pre acc G' → ok G')
    (hs : ∀ pre a post G' acc p, G p = none → xs = pre ++ a :: post → I pre acc G' → G' p = some (.lst acc) → ∃ σ2, g.put (c a) (wipeD σ vs) = some σ2 ∧
      ∀ (KT : D → HH → Prop) (KF : HH → Prop), (∀ y G4, G4 p = some (.lst acc) → I (pre ++ [a]) (acc ++ [y]) G4 → KT y G4) → (∀ G3, G3 p = some (.lst acc) → I (pre ++ [a]) acc G3 → KF G3) →
      tt σ2 G' (fun b G3 => if b = true then te σ2 G3 KT (fun _ _ => False) else KF G3) (fun _ _ => False))
    (hq : ∀ acc G', I xs acc G' → acc.length ≤ xs.length → Q (.lst acc) G') : LcG true (xs.map c) ok g tt te vs σ G Q := by
  intro p hp
  refine ⟨fun pre G' => ∃ ys acc, pre = ys.map c ∧ ys <+: xs ∧ G' p = some (.lst acc) ∧ acc.length ≤ ys.length ∧ I ys acc G', ⟨[], [], rfl, List.nil_prefix, gput_same, Nat.le_refl _, hI _ _ _ _ p hp (fun b h => gput_ne h) h0⟩, ?_, ?_, ?_⟩
  · rintro pre G' ⟨ys, acc, rfl, _, _, _, h⟩
    exact hok _ _ _ h
  · rintro pre x post G' e ⟨ys, acc, rfl, ⟨zs, rfl⟩, h1, h2, h3⟩
    rw [List.map_append] at e
    have e := List.append_cancel_left e
    cases zs with
    | nil => cases e
    | cons a zs =>
      rw [List.map_cons] at e
      injection e with e1 e2
      subst e1
      obtain ⟨σ2, a1, a2⟩ := hs ys a zs G' acc p hp rfl h3 h1
      have hpre : ys ++ [a] <+: ys ++ a :: zs := ⟨zs, by simp⟩
      refine ⟨σ2, a1, a2 _ _ (fun y G4 b1 b2 => ⟨acc, b1, ?_, ys ++ [a], acc ++ [y], by simp, hpre, gput_same, by simp; omega, hI _ _ _ _ p hp (fun b h => gput_ne h) b2⟩) (fun G3 b1 b2 => ⟨ys ++ [a], acc, by simp, hpre, b1, by simp; omega, b2⟩)⟩
      have := hl
      rw [List.length_append, List.length_cons] at this
      omega
  · rintro G' ⟨ys, acc, e, hp', h1, h2, h3⟩
    have hlen : ys.length = xs.length := by
      have := congrArg List.length e
      simpa using this.symm
    have : ys = xs := hp'.eq_of_length hlen
    subst this
    refine ⟨acc, h1, ?_⟩
    rw [if_pos rfl]
    exact hq acc _ (hI _ _ _ _ p hp (fun b h => gdel_ne h) h3) h2
/-- .. whose parts leave things behind -/
theorem lc_kp {α : Type} {xs : List α} {c : α → D} (k : α → Bool) (f : α → D) (hl : xs.length ≤ sizeLine) (hok : ∀ G', Kp G G' → ok G')
    (hs : ∀ a, a ∈ xs → ∀ G', Kp G G' → ∃ σ2, g.put (c a) (wipeD σ vs) = some σ2 ∧ ∀ (KT : D → HH → Prop) (KF : HH → Prop), (k a = true → ∀ G4, Kp G' G4 → KT (f a) G4) → (k a = false → ∀ G3, Kp G' G3 → KF G3) →
      tt σ2 G' (fun b G3 => if b = true then te σ2 G3 KT (fun _ _ => False) else KF G3) (fun _ _ => False))
    (hq : ∀ G', Kp G G' → Q (.lst ((xs.filter k).map f)) G') : LcG true (xs.map c) ok g tt te vs σ G Q := by
  refine lc_gen (fun pre acc G' => acc = (pre.filter k).map f ∧ Kp G G') hl (fun pre acc G' G'' q hq' hb ⟨h1, h2⟩ => ⟨h1, fun b hn => (hb b fun e => hn (e ▸ hq')).trans (h2 b hn)⟩) ⟨rfl, .refl⟩ (fun _ _ G' h => hok G' h.2) ?_ ?_
  · rintro pre a post G' acc p hp rfl ⟨rfl, hk⟩ hG
    obtain ⟨σ2, a1, a2⟩ := hs a (by simp) G' hk
    refine ⟨σ2, a1, fun KT KF b1 b2 => a2 KT KF (fun e G4 h4 => b1 _ _ (h4.at hG) ⟨?_, hk.trans h4⟩) (fun e G3 h3 => b2 _ (h3.at hG) ⟨?_, hk.trans h3⟩)⟩
    · rw [List.filter_append, List.map_append]; simp [e]
    · rw [List.filter_append, List.map_append]; simp [e]
  · rintro acc G' ⟨rfl, hk⟩ _
    exact hq G' hk
theorem lc_kpN {α : Type} {xs : List α} {c : α → D} (hl : xs.length ≤ sizeLine) (hok : ∀ G', Kp G G' → ok G')
    (hs : ∀ a, a ∈ xs → ∀ G', Kp G G' → ∃ σ2, g.put (c a) (wipeD σ vs) = some σ2 ∧ ∀ QT : Bool → HH → Prop, (∀ G3, Kp G' G3 → QT false G3) → tt σ2 G' QT (fun _ _ => False))
    (hq : ∀ G', Kp G G' → Q (.lst []) G') : LcG true (xs.map c) ok g tt te vs σ G Q :=
  lc_kp (fun _ => false) (fun _ => .non) hl hok (fun a ha G' hk => (hs a ha G' hk).imp fun σ2 h => ⟨h.1, fun KT KF _ h2 => h.2 _ fun G3 h3 => by rw [if_neg Bool.false_ne_true]; exact h2 rfl G3 h3⟩) (fun G' hk => by
    rw [show xs.filter (fun _ => false) = [] from List.filter_eq_nil_iff.mpr (by simp)]
    exact hq G' hk)
end
theorem LsW.kp {G G' : HH} {x : D} {xs : List D} (h : Kp G G') (l : LsW G x xs) : LsW G' x xs := by
  cases l with
  | lst => exact .lst _
  | wls => exact .wls _
  | ref e => exact .ref (h.at e)
theorem LsW.bk {p : Addr} {G G' : HH} {q : Addr} {xs : List D} (h : Bk p G G') (n : q ≠ p) (l : LsW G (.ref q) xs) : LsW G' (.ref q) xs := by
  cases l with
  | ref e => exact .ref (h.at n e)
end DL

namespace DL
open PySem PySem.Spec PyProof.Rows L2
open PySem.W (Frag)
/-! ### o.m(.., k = ..), o of one of several classes -/
section
variable {X : Cx} {W : WX} {e o : Expr} {es : List Expr} {kws : List Keyword} {to : TED} {t tk : TAD} {pos apos : Pos}
def MTabK (X : Cx) (k : Nat) (m : Str) (n : Nat) (ks : List Str) (perm : List Nat) (tb : List (Str × SpD)) : Prop := ∀ p ∈ tb, ∃ C f fd ps, gaddr X.K p.1 = some C ∧ Cls X.K C ∧ Meth X.K C m f ∧ FnG X.prog X.w X.K X.mg X.base k f fd ps p.2 ∧ KBd X.K fd ps (n + 1) ks perm
def dMethVK (m : Str) (n l : Nat) (perm : List Nat) (tb : List (Str × SpD)) (ta : TED) (t tk : TAD) : TED := fun σ G Q E => ta σ G (fun x G1 => ∃ c sp ns ds, InsD G1 x c ns ds ∧ lk m ns ds = none ∧ (c, sp) ∈ tb ∧ t σ G1 (fun as G2 => tk σ G2 (fun zs G3 => as.length = n ∧ zs.length = l ∧ sp (pick perm (x :: (as ++ zs))) G3 Q E) E) E) E
theorem de_methVK0 {m : Str} {k l : Nat} {ks : List Str} {perm : List Nat} {tb : List (Str × SpD)} {pl : Sem Bool} (hT : MTabK X k m 0 ks perm tb) (hgd : X.A.guards = some []) (hr : Room k X.A) (tkw : Takes X W) (ho : DE X W o to) (hkw : DK X W kws tk)
    (hlen : ks.length = l := by rfl) (hall : (backToKw pos (keywordEach kws X.env)).all (·.1.isSome) = true := by rfl) (hks : (backToKw pos (keywordEach kws X.env)).filterMap (·.1) = ks := by rfl)
    (hpl : ((backTo pos (starEach [] X.env)).any (·.1) || (backToKw pos (keywordEach kws X.env)).any (·.1.isNone)) = false := by rfl)
    (ht : eval (.Call (.Attribute o m apos) [] kws pos) X.env = (do
      let ov ← eval o X.env
      standAt apos.atName
      let (f, first) ← holding [ov] (getMethod ov m pl)
      callWith pos f first (backTo pos (starEach [] X.env)) (backToKw pos (keywordEach kws X.env))) := by rfl) :
    DE X W (.Call (.Attribute o m apos) [] kws pos) (dMethVK m 0 l perm tb to dNil tk) := by
  subst hlen
  have hkw' : PK X kws (lftA X.K W tk) := hkw
  have ho' : PE X o (lft X.K W to) := ho
  refine ⟨fun pins s σ H Q I ⟨σD, G, QD, E, hR, hS, q, hq, hE⟩ => ?_⟩
  refine PySem.W.methodCall_KW (pl := pl) (thn (ho'.run pins s σ H (fun v H1 => ∃ d G1, Stp H G H1 G1 ∧ RelH X.K H1 G1 ∧ Rp X.K H1 G1 d v ∧ ∃ c sp ns ds, InsD G1 d c ns ds ∧ lk m ns ds = none ∧ (c, sp) ∈ tb ∧ tk σD G1 (fun zs G3 => ([] : List D).length = 0 ∧ zs.length = ks.length ∧ sp (pick perm (d :: ([] ++ zs))) G3 QD E) E) I ⟨σD, G, _, E, hR, hS, q, fun v H1 d G1 s1 r1 p1 z => ⟨d, G1, s1, r1, p1, z⟩, hE⟩) fun u s1 ⟨x, H1, I1, rx, d, G1, s1', r1, p1, c, sp, ns, ds, hi, hl, hm, q1⟩ => ?_) ht
  obtain ⟨a, C', dx, xs, ex, h1, h2, h3, h4⟩ := hi.of r1 p1
  obtain ⟨C, f, fd, ps, hC, hcl, hme, F, hb⟩ := hT _ hm
  have hCC : C' = C := by rw [hC] at h1; exact (Option.some.inj h1).symm
  subst hCC
  subst ex
  obtain rfl : u = Value.ref a := rx
  have hl' : (ns.zip xs).lookup m = none := by
    rcases lk_zip (f := m) h4 h3 with ⟨_, z⟩ | ⟨d', v, e1, _, _⟩
    · exact z
    · rw [hl] at e1; cases e1
  refine getmeth_ok I1 h2 hcl hme hl' ?_
  refine PySem.W.callWith_KW0 (first := [.ref a]) (h₀ := X.base) I.ok.mod.kin hme.kp hall (thn (hkw'.run pos pins s1 σ H1 (fun zs H2 => zs.length = ks.length ∧ lsp X.K sp (pick perm (V.ref a :: zs)) H2 Q (WE W σ)) I1 ⟨σD, G1, _, E, r1, hS.mono s1', q1, fun zs H2 as G2 s2 r2 p2 ⟨_, l2, q2⟩ => ?_, hE.mono s1'⟩) fun ws s2 ⟨zs, H2, I2, rz, l2, q2⟩ => ⟨I2.kIn, ?_⟩) hpl
  · exact ⟨by rw [← p2.length]; exact l2, pick perm (d :: as), G2, QD, E, r2, Rps.pick (.cons (p1.mono s2) p2), by simpa using q2, hq.mono (s1'.trans s2), fun xd cls d' H' G' s' r' p' z' => hE _ _ _ _ _ ((s1'.trans s2).trans s') r' p' z'⟩
  · rw [hks]
    exact run_callK F hgd hr hb tkw I2 (us := [Value.ref a]) (vs := V.ref a :: zs) (.cons rfl rz) rfl (by rw [← rz.length]; exact l2) q2
theorem MTabK.nil {k n : Nat} {m : Str} {ks : List Str} {perm : List Nat} : MTabK X k m n ks perm [] := fun _ h => by cases h
theorem MTabK.cons {j k n : Nat} {m c : Str} {ks : List Str} {perm : List Nat} {tb : List (Str × SpD)} {sp : SpD} {C f : Addr} {fd : FuncData} {ps : List Str} (hC : gaddr X.K c = some C) (cl : Cls X.K C) (me : Meth X.K C m f) (F : FnG X.prog X.w X.K X.mg X.base j f fd ps sp) (hk : j ≤ k) (hb : KBd X.K fd ps (n + 1) ks perm) (r : MTabK X k m n ks perm tb) : MTabK X k m n ks perm ((c, sp) :: tb) := fun p hp => by
  rcases List.mem_cons.mp hp with rfl | hp
  · exact ⟨C, f, fd, ps, hC, cl, me, F.mono hk, hb⟩
  · exact r p hp
end
section
variable {σ : SD} {G : HH} {Q : QD} {E : ED} {ta : TED} {t tk : TAD} {m c : Str} {n l : Nat} {perm : List Nat} {tb : List (Str × SpD)} {ns : List Str} {ds : List D}
theorem st_methVK (h : ta σ G (fun x G1 => ∃ c sp ns ds, InsD G1 x c ns ds ∧ lk m ns ds = none ∧ (c, sp) ∈ tb ∧ t σ G1 (fun as G2 => tk σ G2 (fun zs G3 => as.length = n ∧ zs.length = l ∧ sp (pick perm (x :: (as ++ zs))) G3 Q E) E) E) E) : dMethVK m n l perm tb ta t tk σ G Q E := h
theorem st_methVKq (sp : SpD) (hl : lk m ns ds = none) (hm : (c, sp) ∈ tb) (h : t σ G (fun as G2 => tk σ G2 (fun zs G3 => as.length = n ∧ zs.length = l ∧ sp (pick perm (.obj c ns ds :: (as ++ zs))) G3 Q E) E) E) :
    ∃ c' sp ns' ds', InsD G (.obj c ns ds) c' ns' ds' ∧ lk m ns' ds' = none ∧ (c', sp) ∈ tb ∧ t σ G (fun as G2 => tk σ G2 (fun zs G3 => as.length = n ∧ zs.length = l ∧ sp (pick perm (.obj c ns ds :: (as ++ zs))) G3 Q E) E) E := ⟨c, sp, ns, ds, .obj c ns ds, hl, hm, h⟩
end
end DL

namespace DL
open PySem PySem.Spec PyProof.Rows L2
open PySem.W (Frag)
/-! ### {k: v, ..}, keys numbers or texts -/
def mergeD (kvs more : List (Key × D)) : List (Key × D) := more.foldl (fun acc kv => kput acc kv.1 kv.2) kvs
theorem KRp.merge {K : Frag} {H : Hp} {G : HH} : ∀ {mk : List (Key × D)} {mx : List (Key × V)} {kvs : List (Key × D)} {xs : List (Key × V)}, KRp K H G mk mx → KRp K H G kvs xs → KRp K H G (mergeD kvs mk) (mergeK xs mx)
  | [], [], _, _, _, h => h
  | [], _ :: _, _, _, m, _ => by have := m.1; cases this
  | _ :: _, [], _, _, m, _ => by have := m.1; cases this
  | (k, d) :: mk, (k', v) :: mx, kvs, xs, ⟨m1, m2⟩, h => by
    simp only [List.map_cons] at m1 m2
    injection m1 with e1 e2
    subst e1
    cases m2 with
    | cons a r => exact KRp.merge (mk := mk) (mx := mx) ⟨e2, r⟩ (h.put a)
def dPairs : List (TED × TED) → SD → HH → (List (D × D) → HH → Prop) → ED → Prop
  | [], _, G, Q, _ => Q [] G
  | (tk, tv) :: r, σ, G, Q, E => tk σ G (fun x G1 => tv σ G1 (fun y G2 => dPairs r σ G2 (fun ps G3 => Q ((x, y) :: ps) G3) E) E) E
def DPs (X : Cx) (W : WX) (pos : Pos) (keys : List (Option Expr)) (values : List Expr) (trs : List (TED × TED)) : Prop := PPs X pos keys values (trs.map fun p => (lft X.K W p.1, lft X.K W p.2))
section
variable {X : Cx} {W : WX} {pos : Pos}
theorem dps_nil : DPs X W pos [] [] [] := pps_nil
theorem dps_cons {k v : Expr} {ks : List (Option Expr)} {vs : List Expr} {tk tv : TED} {trs : List (TED × TED)} (hk : DE X W k tk) (hv : DE X W v tv) (hr : DPs X W pos ks vs trs) : DPs X W pos (some k :: ks) (v :: vs) ((tk, tv) :: trs) := pps_cons hk hv hr
theorem dPairs_to {K : Frag} {σD : SD} {σ : L2.St} {E : ED} : ∀ (trs : List (TED × TED)) {QP : List (D × D) → HH → Prop} {Q : List (V × V) → Hp → Prop} (H : Hp) (G : HH), RelH K H G → SRp K H G σD σ → dPairs trs σD G QP E →
    (∀ ps H' pd G', Stp H G H' G' → RelH K H' G' → Rps K H' G' (pd.map (·.1)) (ps.map (·.1)) → Rps K H' G' (pd.map (·.2)) (ps.map (·.2)) → QP pd G' → Q ps H') → Exs K W σ H G E → tPairs (trs.map fun p => (lft K W p.1, lft K W p.2)) σ H Q
  | [], QP, Q, H, G, hR, hS, q, hq, hE => hq [] H [] G Stp.refl hR .nil .nil q
  | (tk, tv) :: r, QP, Q, H, G, hR, hS, q, hq, hE => by
    refine ⟨σD, G, _, E, hR, hS, q, fun x H1 dx G1 s1 r1 p1 q1 => ?_, hE⟩
    refine ⟨σD, G1, _, E, r1, hS.mono s1, q1, fun y H2 dy G2 s2 r2 p2 q2 => ?_, hE.mono s1⟩
    exact dPairs_to r H2 G2 r2 (hS.mono (s1.trans s2)) q2 (fun ps H' pd G' s' r' k1 k2 q' => hq ((x, y) :: ps) H' ((dx, dy) :: pd) G' ((s1.trans s2).trans s') r' (.cons (p1.mono (s2.trans s')) k1) (.cons (p2.mono s') k2) q') (hE.mono (s1.trans s2))
theorem keys_of {K : Frag} {H : Hp} {G : HH} : ∀ {ks : List Key} {vs : List V}, Rps K H G (ks.map kD) vs → vs = ks.map kV
  | [], _, .nil => rfl
  | .inl i :: ks, _, .cons a r => by cases a; rw [keys_of r]; rfl
  | .inr x :: ks, _, .cons a r => by cases a; rw [keys_of r]; rfl
def dDisp (trs : List (TED × TED)) : TED := fun σ G Q E => ∀ p, G p = none → dPairs trs σ (gput G p (.dK [])) (fun ps G2 => G2 p = some (.dK []) ∧ ∃ kvs : List (Key × D), ps = kvs.map (fun kv => (kD kv.1, kv.2)) ∧ kvs.length ≤ 15 ∧ Q (.ref p) (gput G2 p (.dK (mergeD [] kvs)))) E
theorem de_disp {keys : List (Option Expr)} {values : List Expr} {trs : List (TED × TED)} (h : DPs X W pos keys values trs) (hall : keys.all (·.isSome) = true := by rfl) (hl : keys.length = values.length := by rfl) (h0 : keys ≠ [] := by exact fun z => by cases z)
    (h15 : keys.length ≤ 15 := by decide) : DE X W (.Dict keys values pos) (dDisp trs) :=
  PE.imp (pe_disp h hall hl h0 h15) fun σ H Q ⟨σD, G, QD, E, hR, hS, q, hq, hE⟩ => fun p hp => by
    have s1 : Stp H G (upd H p (.dK [])) (gput G p (.dK [])) := .newM hp
    have r1 : RelH X.K (upd H p (.dK [])) (gput G p (.dK [])) := hR.newM hp ⟨[], upd_same, rfl, .nil⟩
    refine dPairs_to trs _ _ r1 (hS.mono s1) (q p (hR.free hp)) (fun ps H2 pd G2 s2 r2 k1 k2 ⟨e, kvs, ep, hlen, q2⟩ => ?_) (hE.mono s1)
    subst ep
    rw [List.map_map] at k1 k2
    have k1' : Rps X.K H2 G2 ((kvs.map (·.1)).map kD) (ps.map (·.1)) := by rw [List.map_map]; exact k1
    have ek := keys_of k1'
    have hH : H2 p = some (.dK []) := by
      obtain ⟨xs, e1, e2, _⟩ := r2 p _ e
      cases xs with
      | nil => exact e1
      | cons a b => cases e2
    have hlp : ps.length = kvs.length := by have := congrArg List.length ek; simpa using this
    refine ⟨hH, (kvs.map (·.1)).zip (ps.map (·.2)), ?_, by simp; omega, ?_⟩
    · refine List.ext_getElem? fun i => ?_
      have := congrArg (fun l => l[i]?) ek
      simp only [List.getElem?_map, List.getElem?_zip_eq_some, Option.map_map] at this ⊢
      rw [List.zip, List.getElem?_zipWith]
      simp only [List.getElem?_map]
      cases e1 : ps[i]? with
      | none =>
        cases e2 : kvs[i]? with
        | none => rfl
        | some kv => rw [e1, e2] at this; cases this
      | some pq =>
        cases e2 : kvs[i]? with
        | none => rw [e1, e2] at this; cases this
        | some kv =>
          rw [e1, e2] at this
          simp at this
          obtain ⟨a, b⟩ := pq
          simp only [Option.map_some]
          simp at this ⊢
          exact this
    · have kr : KRp X.K H2 G2 kvs ((kvs.map (·.1)).zip (ps.map (·.2))) := by
        constructor
        · rw [List.map_fst_zip (by simp [hlp])]
        · rw [List.map_snd_zip (by simp [hlp])]; exact k2
      have km := kr.merge (K := X.K) (kvs := []) (xs := []) .nil
      have s3 : Stp H2 G2 (upd H2 p (.dK (mergeK [] ((kvs.map (·.1)).zip (ps.map (·.2)))))) (gput G2 p (.dK (mergeD [] kvs))) := .put e
      exact hq _ _ _ _ ((s1.trans s2).trans s3) (r2.put e ⟨_, upd_same, (km.mono s3).1, (km.mono s3).2⟩) (.ref p) q2
end
section
variable {σ : SD} {G : HH} {Q : QD} {E : ED} {tk tv : TED} {trs : List (TED × TED)}
theorem st_disp (h : ∀ p, G p = none → dPairs trs σ (gput G p (.dK [])) (fun ps G2 => G2 p = some (.dK []) ∧ ∃ kvs : List (Key × D), ps = kvs.map (fun kv => (kD kv.1, kv.2)) ∧ kvs.length ≤ 15 ∧ Q (.ref p) (gput G2 p (.dK (mergeD [] kvs)))) E) : dDisp trs σ G Q E := h
theorem st_prs {QP : List (D × D) → HH → Prop} (h : tk σ G (fun x G1 => tv σ G1 (fun y G2 => dPairs trs σ G2 (fun ps G3 => QP ((x, y) :: ps) G3) E) E) E) : dPairs ((tk, tv) :: trs) σ G QP E := h
theorem st_prn {QP : List (D × D) → HH → Prop} (h : QP [] G) : dPairs [] σ G QP E := h
end
theorem st_eqB {a b : Bool} {G : HH} {Q : QD} (h : Q (.bl (decide (a = b))) G) : eAny false (.bl a) (.bl b) G Q := .inl ⟨_, _, rfl, rfl, rfl, by
  have : decide (V.bl a = V.bl b) = decide (a = b) := by cases a <;> cases b <;> decide
  simpa [this] using h⟩
theorem st_neB {a b : Bool} {G : HH} {Q : QD} (h : Q (.bl (!decide (a = b))) G) : eAny true (.bl a) (.bl b) G Q := .inl ⟨_, _, rfl, rfl, rfl, by
  have : decide (V.bl a = V.bl b) = decide (a = b) := by cases a <;> cases b <;> decide
  simpa [this] using h⟩
end DL

namespace DL
open PySem PySem.Spec PyProof.Rows L2
open PySem.W (Frag)
/-! ### try .. except C as n, try .. except C -/
theorem SRp.drop {K : Frag} {H G} {σD : SD} {σ : L2.St} (h : SRp K H G σD σ) (i : Nat) (v : Option V) : SRp K H G (σD.set i none) (σ.set i v) := by
  refine ⟨by simp [h.len], fun j e he => ?_⟩
  by_cases hj : i = j
  · subst hj
    have hlt : i < σD.length := by
      have := (List.getElem?_eq_some_iff.mp he).1
      simpa using this
    rw [List.getElem?_set_self hlt] at he
    cases he
  · rw [List.getElem?_set_ne hj] at he
    obtain ⟨u, e1, r1⟩ := h.at_ j e he
    exact ⟨u, by rw [List.getElem?_set_ne hj]; exact e1, r1⟩
/-- the exception as a suite has it -/
def excD (a : Addr) (d : Option Addr) (x : XD) : D := match d with
  | none => .ref a
  | some dd => .xe a dd x.ns x.vs
theorem XRp.excD {K H G x cls d} (a : Addr) (h : XRp K H G x cls d) : Rp K H G (DL.excD a d x) (.ref a) := by
  obtain ⟨_, h2⟩ := h
  cases d with
  | none => exact .ref a
  | some dd =>
    obtain ⟨xs, e1, e2, e3, e4⟩ := h2
    exact .xe e1 e2 e3 e4
abbrev WF : WX := fun _ _ _ _ => False
def dTryA (i : Nat) (tbl : List (Str × Bool)) (tb : TSD) (ts : Str → Addr → Option Addr → TSD) : TSD := fun D σ G =>
  tb { D with ex := fun x σ' G' => ∃ n b, x.cls = .own n ∧ (n, b) ∈ tbl ∧ (b = true → ∀ a d, (d = none → x.ns = []) → ts n a d { nx := fun σ2 G2 => D.nx (σ2.set i none) G2, rt := D.rt, bk := fun σ2 G2 => D.bk (σ2.set i none) G2, ct := fun σ2 G2 => D.ct (σ2.set i none) G2, ex := fun _ _ _ => False } (σ'.set i (some (excD a d x))) G') ∧ (b = false → D.ex x σ' G') } σ G
def dTryO (tbl : List (Str × Bool)) (tb : TSD) (ts : Str → Addr → Option Addr → TSD) : TSD := fun D σ G =>
  tb { D with ex := fun x σ' G' => ∃ n b, x.cls = .own n ∧ (n, b) ∈ tbl ∧ (b = true → ∀ a d, (d = none → x.ns = []) → ts n a d { D with ex := fun _ _ _ => False } σ' G') ∧ (b = false → D.ex x σ' G') } σ G
def ExTab (K : Frag) (C : Addr) (tbl : List (Str × Bool)) : Prop := ∀ p ∈ tbl, ∀ C', gaddr K p.1 = some C' → PySem.W.exmOne K (.ref C') (.ref C) = some p.2
section
variable {X : Cx} {W : WX} {x nm : Str} {C : Addr} {i : Nat} {body suite : List Stmt} {b₀ : Stmt} {np pos pos' : Pos} {tb : TSD} {ts : Str → Addr → Option Addr → TSD} {tbl : List (Str × Bool)}
def tsK (K : Frag) (ts : Str → Addr → Option Addr → TSD) : Addr → Value → Option Addr → TS := fun a cls d D σ H => ∃ n C, gaddr K n = some C ∧ cls = .ref C ∧ lftS K WF (ts n a d) D σ H
theorem ds_tryA (hN : X.N.Nodup) (hi : X.N[i]? = some nm) (hln : X.env.kindOf nm = some .local) (hg : Gl X x) (hm : X.mg x = some (.ref C)) (tk : Takes X W) (hT : ExTab X.K C tbl)
    (hb : ∀ (W' : WX) (pn : List (Addr × Obj)) (xe : Value → Shared → Prop), Takes (X.tr pn xe) W' → PassesOwn (model X.prog X.w) X.A X.env xe → DSs (X.tr pn xe) W' body tb)
    (hsu : ∀ (n : Str) (C' : Addr), gaddr X.K n = some C' → ∀ (a : Addr) (oe : Obj) (d : Option Addr) (pn : List (Addr × Obj)), Zc (.ref C') d oe → (∃ vs, oe.data = .fields vs) → DSs (X.suite a ((a, oe) :: pn)) WF (b₀ :: suite) (ts n a d))
    (hdb : (x == ("__debug__" : Str)) = false := by decide) (hs : X.stack = X.env :: X.outer := by rfl) (hf : X.env.frame = some X.env.locals := by rfl) :
    DS X W (.Try body [.ExceptHandler (some (.Name x np)) (some nm) (b₀ :: suite) pos'] [] [] pos) (dTryA i tbl tb ts) :=
  PS.imp (ps_try_as (tb := fun W' => lftS X.K W' tb) (ts := tsK X.K ts) (Wout := W) hs hf hN hi hln ⟨hg, hdb, .inl hm⟩ tk hb fun a oe cls d pn hz hv => ⟨fun pins s σ H D I ⟨n, C', hC, e, h⟩ => (hsu n C' hC a oe d pn (by rw [← e]; exact hz) hv).run pins s σ H D I h⟩)
    fun D σ H ⟨σD, G, DD, hR, hS, q, he⟩ => ⟨σD, G, _, hR, hS, q, ⟨he.nx, he.rt, he.bk, he.ct, fun y cls d σ' σD' H' G' s r p xr ⟨n, b, en, hm', h1, h2⟩ => by
      have xr0 := xr
      obtain ⟨hc, _⟩ := xr
      rw [en] at hc
      obtain ⟨C', hC, rfl⟩ := hc
      refine ⟨b, hT _ hm' C' hC, fun hb' a ha => ⟨n, C', hC, rfl, σD'.set i (some (excD a d y)), G', _, r, p.set i (xr0.excD a), h1 hb' a d (fun e => by subst e; exact xr0.2.1), ⟨fun σ2 H2 σD2 G2 s2 r2 p2 q2 => he.nx _ _ _ _ (s.trans s2) r2 (p2.drop i none) q2, he.rt.mono s, fun σ2 H2 σD2 G2 s2 r2 p2 q2 => he.bk _ _ _ _ (s.trans s2) r2 (p2.drop i none) q2, fun σ2 H2 σD2 G2 s2 r2 p2 q2 => he.ct _ _ _ _ (s.trans s2) r2 (p2.drop i none) q2, fun _ _ _ _ _ _ _ _ _ _ _ z => z⟩⟩, fun hb' => he.ex _ _ _ _ _ _ _ s r p xr0 (h2 hb')⟩⟩⟩
theorem ds_tryO (hg : Gl X x) (hm : X.mg x = some (.ref C)) (tk : Takes X W) (hT : ExTab X.K C tbl)
    (hb : ∀ (W' : WX) (pn : List (Addr × Obj)) (xe : Value → Shared → Prop), Takes (X.tr pn xe) W' → PassesOwn (model X.prog X.w) X.A X.env xe → DSs (X.tr pn xe) W' body tb)
    (hsu : ∀ (n : Str) (C' : Addr), gaddr X.K n = some C' → ∀ (a : Addr) (oe : Obj) (d : Option Addr) (pn : List (Addr × Obj)), Zc (.ref C') d oe → (∃ vs, oe.data = .fields vs) → DSs (X.suite a ((a, oe) :: pn)) WF (b₀ :: suite) (ts n a d))
    (hdb : (x == ("__debug__" : Str)) = false := by decide) (hs : X.stack = X.env :: X.outer := by rfl) (hf : X.env.frame = some X.env.locals := by rfl) :
    DS X W (.Try body [.ExceptHandler (some (.Name x np)) none (b₀ :: suite) pos'] [] [] pos) (dTryO tbl tb ts) :=
  PS.imp (ps_try_only (tb := fun W' => lftS X.K W' tb) (ts := tsK X.K ts) (Wout := W) hs hf ⟨hg, hdb, .inl hm⟩ tk hb fun a oe cls d pn hz hv => ⟨fun pins s σ H D I ⟨n, C', hC, e, h⟩ => (hsu n C' hC a oe d pn (by rw [← e]; exact hz) hv).run pins s σ H D I h⟩)
    fun D σ H ⟨σD, G, DD, hR, hS, q, he⟩ => ⟨σD, G, _, hR, hS, q, ⟨he.nx, he.rt, he.bk, he.ct, fun y cls d σ' σD' H' G' s r p xr ⟨n, b, en, hm', h1, h2⟩ => by
      have xr0 := xr
      obtain ⟨hc, _⟩ := xr
      rw [en] at hc
      obtain ⟨C', hC, rfl⟩ := hc
      refine ⟨b, hT _ hm' C' hC, fun hb' a ha => ⟨n, C', hC, rfl, σD', G', _, r, p, h1 hb' a d (fun e => by subst e; exact xr0.2.1), ⟨he.nx.mono s, he.rt.mono s, he.bk.mono s, he.ct.mono s, fun _ _ _ _ _ _ _ _ _ _ _ z => z⟩⟩, fun hb' => he.ex _ _ _ _ _ _ _ s r p xr0 (h2 hb')⟩⟩⟩
end
end DL

namespace DL
open PySem PySem.Spec PyProof.Rows L2
open PySem.W (Frag)
/-! ### what a suite asks of its exception: its fields, its class -/
section
variable {prog : Program} {w : World} {A : Around} {E : Value → Shared → Prop} {s : Shared} {K : Frag} {x D : Addr} {ox : Obj} {od : Option Obj} {Q : Option Value → Shared → Prop}
theorem exc_found (T : ExcC K D) : PySem.W.findObj K D od "__class__" = some (.bind (.builtin "getset_descriptor.__get__") (.builtin "object.__class__")) := by
  obtain ⟨cd, hc, _⟩ := PySem.W.any_some T.hd
  unfold PySem.W.findObj; rw [hc, Option.bind_some, T.ha, Option.bind_some]; simp [T.hn, T.ht]
theorem exc_class (T : ExcC K D) (hin : K.In s.heap) (I : PySem.W.InstAt s.heap x ox D od) (q : Q (some (.ref D)) { s with toks := s.toks + 1 }) : wpAny (model prog w) A (getAttr? (.ref x) "__class__") Q E s := by
  cases s with
  | mk hp g d t os =>
    have Y0 := I.type (M := model prog w); have Y1 := PySem.W.looks_findIn (M := model prog w) hin T.hg
    have Y2 := PySem.W.looks_findIn (M := model prog w) hin T.hk; have Y3 := PySem.W.looks_find (M := model prog w) hin I (exc_found T)
    have Ys : PySem.W.Looks (model prog w) hp (isInstance (.ref x) (.type "BaseException")) true := Y0.andThen (PySem.W.looks_subIn hin T.hs)
    have n2 : (Value.builtin "BaseException.__getattribute__" == Value.builtin "object.__getattribute__") = false := by decide +kernel
    have n1 : (onTheHeap (Value.ref D) && Value.builtin "BaseException.__getattribute__" == Value.builtin "object.__getattribute__") = false := by rw [n2]; rfl
    unfold getAttr? getAttrBy? getAttrBy; refine wpAny_bind (wpAny_mkText (wpAny_bind (wpAny_attempt (wpAny_holding (wpAny_bind (Y0.at (wpAny_bind (Y1.at ?_))))))))
    show wpAny _ _ (if (onTheHeap (Value.ref D) && Value.builtin "BaseException.__getattribute__" == Value.builtin "object.__getattribute__") = true then _ else _) _ _ _; rw [n1, if_neg Bool.false_ne_true]
    unfold getAttrByItsOwn hookBefore; refine wpAny_bind ?_; rw [if_pos (show onTheHeap (Value.ref D) = true from rfl)]
    refine Y2.at (wpAny_bind (wpAny_attempt (wpAny_holding ?_)))
    unfold callGetattribute; rw [show (false && onTheHeap (Value.builtin "BaseException.__getattribute__")) = false from rfl, if_neg Bool.false_ne_true]
    unfold boundAndCalled; rw [PySem.F.excAttr_ValueError.ga.bind (.ref x)]; refine wpAny_bind (wpAny_pure ?_)
    show wpAny _ _ (call (.builtin "BaseException.__getattribute__") [.ref x, .str "__class__" t]) _ _ _; refine wpAny_call (codeAny_call_builtin PySem.F.excAttr_ValueError.ga.plain PySem.F.entry_bexc_ga ?_)
    refine @PySem.W.check_slot (model prog w) _ _ ⟨hp, g, d, t + 1, os⟩ "BaseException.__getattribute__" "BaseException" "__getattribute__" (.ref x) [.str "__class__" t] [] _ (by decide +kernel) (by decide +kernel) Ys (PySem.F.args_bexc_ga (.ref x) (.str "__class__" t)) ?_
    unfold Builtin.«object.__getattribute__»; refine wpAny_bind (wpAny_of_eq (a := ((Value.ref x : Value), [Value.str "__class__" t])) (by first | rfl | (simp only [slotArgs]; rfl)) ?_)
    refine wpAny_bind (wpAny_pure (wpAny_bind (Y0.at (wpAny_bind (Y3.at ?_))))); show wpAny _ _ (holding [Value.builtin "object.__class__"] (call (.builtin "getset_descriptor.__get__") [.builtin "object.__class__", .ref x, .ref D]) >>= ret) _ _ _
    refine wpAny_bind (wpAny_holding (wpAny_call (PySem.W.class_get (s := ⟨hp, g, d, t + 1, os⟩) (ox := ox) (od := od) hin I T.hm ?_)))
    refine wpAny_pure ?_; show wpAny _ _ (handedOut (.ref D)) _ _ _; rw [PySem.W.handedOut_of (v := .ref D) rfl]
    first | exact wpAny_pure (wpAny_pure q) | exact wpAny_pure q | exact wpAny_pure (wpAny_bind (wpAny_pure (wpAny_pure q)))
theorem exc_kit (T : ExcC K D) : PySem.W.KitX K (.ref x) (.ref D) (fun h => ∃ od, PySem.W.InstAt h x ox D od) where
  ty := fun _ _ _ ⟨_, I⟩ => I.type
  it := fun _ _ hin _ => by
    obtain ⟨cdD, hcD, _⟩ := PySem.W.any_some T.hd
    unfold PySem.W.clsIn at hcD
    split at hcD
    · next c' d' cd' sl' ho => intro A' Q' E' s' k q; unfold isType loadHead; exact wpAny_bind (wpAny_loadPart (k _ _ (hin _ _ ho)) (wpAny_pure q))
    · cases hcD
  ne := fun h tp dd its n sl hin htp => by
    obtain ⟨cdD, hcD, _⟩ := PySem.W.any_some T.hd
    refine Bool.eq_false_iff.mpr fun q => ?_
    cases Value.ref.inj (beq_iff_eq.mp q)
    unfold PySem.W.clsIn at hcD
    split at hcD
    · next c' d' cd' sl' ho => have z := (hin _ _ ho).symm.trans htp; cases z
    · cases hcD
  ca := fun hin ⟨_, I⟩ k => exc_class T hin I k
end
def dExcF (a : Addr) (d : Option Addr) (n : Str) (cs : List Str) (f : Str) (te : TED) : TED := fun σ G Q E => te σ G (fun v G1 => ∃ dd ns vs y, d = some dd ∧ v = .xe a dd ns vs ∧ n ∈ cs ∧ lk f ns vs = some y ∧ Q y G1) E
section
variable {X : Cx} {a Da : Addr} {oe : Obj} {d : Option Addr} {pn : List (Addr × Obj)} {pos apos : Pos}
/-- the suite's exception as an instance -/
theorem exc_inst {pins : List (Addr × Obj)} {σ : L2.St} {H : Hp} {s : Shared} (hz : Zc (.ref Da) d oe) (hf : ∃ vs, oe.data = .fields vs) (I : Inv (X.suite a ((a, oe) :: pn)) pins σ H s) (h : ∀ dd, d = some dd → ∃ ns, H dd = some (.xd ns)) : ∃ od, PySem.W.InstAt s.heap a oe Da od := by
  obtain ⟨ha, _⟩ := I.pin (a, oe) (List.mem_append_left _ List.mem_cons_self)
  obtain ⟨vs, hd⟩ := hf
  have hn : PySem.W.notCls oe = true := by unfold PySem.W.notCls; rw [hd]
  cases d with
  | none => exact ⟨none, ha, hz.1, hn, by rw [hz.2]; trivial⟩
  | some dd =>
    obtain ⟨ns, e⟩ := h dd rfl
    obtain ⟨mA, hns, hr⟩ := (show ObjOk X.prog X.w H s.heap dd (.xd ns) from I.hok dd _ e)
    obtain ⟨od, ho, hl⟩ := lookIn_ns hns
    exact ⟨some od, ha, hz.1, hn, by rw [hz.2]; exact ho⟩
theorem de_excF {n f : Str} {cs : List Str} {e : Expr} {te : TED} (hC : gaddr X.K n = some Da) (hF : ∀ c ∈ cs, ∀ C, gaddr X.K c = some C → ExcC X.K C ∧ PySem.W.findIn X.K (.ref C) f = some none) (hz : Zc (.ref Da) d oe) (hf : ∃ vs, oe.data = .fields vs) (he : DE (X.suite a ((a, oe) :: pn)) WF e te)
    (hb : attributeBase e f X.env (eval e X.env) = eval e X.env := by rfl) : DE (X.suite a ((a, oe) :: pn)) WF (.Attribute e f pos) (dExcF a d n cs f te) := by
  have he' : PE (X.suite a ((a, oe) :: pn)) e (lft X.K WF te) := he
  refine ⟨fun pins s σ H Q I ⟨σD, G, QD, E, hR, hS, q, hq, hE⟩ => ?_⟩
  refine attr_of hb (thn (he'.run pins s σ H (fun v H1 => ∃ dd xs ns vs y G1, Stp H G H1 G1 ∧ RelH X.K H1 G1 ∧ v = .ref a ∧ d = some dd ∧ H1 dd = some (.xd (ns.zip xs)) ∧ ns.length = xs.length ∧ Rps X.K H1 G1 vs xs ∧ n ∈ cs ∧ lk f ns vs = some y ∧ QD y G1) I ⟨σD, G, _, E, hR, hS, q, fun v H1 dv G1 s1 r1 p1 ⟨dd, ns, vs, y, ed, ev, hn, hl, q1⟩ => ?_, hE⟩) fun u s1 ⟨x, H1, I1, rx, dd, xs, ns, vs, y, G1, ss, rr, ev, ed, eh, el, rp, hn, hl, q1⟩ => ?_)
  · subst ev
    cases p1 with
    | xe h g e r => exact ⟨_, _, _, _, _, _, s1, r1, rfl, ed, h, e, r, hn, hl, q1⟩
  · subst ev
    obtain rfl : u = Value.ref a := rx
    subst ed
    obtain ⟨T, no⟩ := hF n hn Da hC
    obtain ⟨ha, _⟩ := I1.pin (a, oe) (List.mem_append_left _ List.mem_cons_self)
    obtain ⟨ws, hd⟩ := hf
    obtain ⟨mA, hns, hr⟩ := (show ObjOk X.prog X.w H1 s1.heap dd (.xd (ns.zip xs)) from I1.hok dd _ eh)
    obtain ⟨od, ho, hl'⟩ := lookIn_ns hns
    rcases lk_zip (f := f) rp el with ⟨z, _⟩ | ⟨d2, v, e1, e2, p2⟩
    · rw [hl] at z; cases z
    rw [hl] at e1; cases e1
    obtain ⟨u, hu, ru⟩ := RelO.some_of (v := v) (o := mA f) (by rw [← e2]; exact hr f)
    have J : PySem.W.InstAt s1.heap a oe Da (some od) := ⟨ha, hz.1, by unfold PySem.W.notCls; rw [hd], by rw [hz.2]; exact ho⟩
    exact HandSPX.exc_get I1.kIn J T.hg T.hk T.hs (PySem.W.findObj_own T.hd no rfl (by rw [hl', hu])) (handed_of ru) ⟨v, H1, I1.tok _, ru, hq _ _ _ _ ss rr p2 q1⟩
/-- isinstance(e, c), e the suite's exception -/
def rIsX (K : Frag) (Da a : Addr) (d : Option Addr) : List V → Hp → VK → Prop := fun xs H Q => ∃ (c : V) (cv : Value) (b : Bool), xs = [.ref a, c] ∧ (∀ u, RelV c u → u = cv) ∧ PySem.W.kitOne K (.ref Da) cv = some b ∧ (∀ dd, d = some dd → ∃ ns, H dd = some (.xd ns)) ∧ Q (.bl b) H
theorem call_isX (T : ExcC X.K Da) (hz : Zc (.ref Da) d oe) (hf : ∃ vs, oe.data = .fields vs) : CallR (X.suite a ((a, oe) :: pn)) (.builtin "isinstance") (rIsX X.K Da a d) := by
  intro pins s σ H xs us Q I r ⟨c, cv, b, ex, hcv, e, hdd, q⟩
  subst ex
  obtain ⟨u1, u2, rfl, r1, r2⟩ := vals2 r
  obtain rfl : u1 = Value.ref a := r1
  have ec := hcv _ r2
  subst ec
  exact PySem.W.kia_one (exc_kit T) I.kIn (exc_inst hz hf I hdd) e (by intro z; cases z) fun tk => ⟨.bl b, H, I.tok tk, rfl, q⟩
/-- the class that is asked: an own one, or a built-in -/
inductive ClsD (K : Frag) : D → Value → Prop
  | own {c : Str} {C : Addr} : gaddr K c = some C → ClsD K (.gv c) (.ref C)
  | ty (T : String) : ClsD K (.ty T) (.type T)
def kIsX (a : Addr) (d : Option Addr) (n : Str) (y0 : D) (tbl : List (Str × Bool)) : RCD := c2 fun x y G Q => y = y0 ∧ ((∃ dd ns vs, d = some dd ∧ x = .xe a dd ns vs) ∨ (d = none ∧ x = .ref a)) ∧ ∃ b, (n, b) ∈ tbl ∧ Q (.bl b) G
theorem cIsX {n : Str} {y0 : D} {cv : Value} {tbl : List (Str × Bool)} (hC : gaddr X.K n = some Da) (hcl : ClsD X.K y0 cv) (hT : ∀ p ∈ tbl, ∀ C, gaddr X.K p.1 = some C → ExcC X.K C ∧ PySem.W.kitOne X.K (.ref C) cv = some p.2) (hz : Zc (.ref Da) d oe) (hf : ∃ vs, oe.data = .fields vs)
    (hE : n ∈ tbl.map (·.1) → ExcC X.K Da) (hn : n ∈ tbl.map (·.1)) : CallD (X.suite a ((a, oe) :: pn)) (.builtin "isinstance") (kIsX a d n y0 tbl) :=
  ⟨_, call_isX (hE hn) hz hf, fun xs H Q ds G QD hR hp ⟨x, y, e, ey, ex, b, hm, q⟩ hq => by
    subst e; subst ey
    obtain ⟨v, w, rfl, p1, p2⟩ := rps2 hp
    obtain ⟨T, hk⟩ := hT _ hm Da hC
    have hv : v = .ref a ∧ ∀ dd, d = some dd → ∃ ns, H dd = some (.xd ns) := by
      rcases ex with ⟨dd, ns, vs, ed, ex⟩ | ⟨ed, ex⟩
      · subst ex; subst ed
        cases p1 with
        | xe h g e r => exact ⟨rfl, fun dd' z => by cases z; exact ⟨_, h⟩⟩
      · subst ex; subst ed
        cases p1 with
        | ref a => exact ⟨rfl, fun dd z => by cases z⟩
    obtain ⟨rfl, hdd⟩ := hv
    refine ⟨w, cv, b, rfl, ?_, hk, hdd, hq.now hR (.bl _) q⟩
    intro u ru
    cases hcl with
    | own hc =>
      cases p2 with
      | gv hg =>
        rw [show gaddr X.K _ = some _ from hc] at hg
        cases hg
        exact ru
    | ty T =>
      cases p2
      exact ru⟩
theorem cIsX' {n : Str} {y0 : D} {cv : Value} {tbl : List (Str × Bool)} (hC : gaddr X.K n = some Da) (hcl : ClsD X.K y0 cv) (hT : ∀ p ∈ tbl, ∀ C, gaddr X.K p.1 = some C → ExcC X.K C ∧ PySem.W.kitOne X.K (.ref C) cv = some p.2) (hz : Zc (.ref Da) d oe) (hf : ∃ vs, oe.data = .fields vs) :
    CallD (X.suite a ((a, oe) :: pn)) (.builtin "isinstance") (kIsX a d n y0 tbl) := by
  by_cases hn : n ∈ tbl.map (·.1)
  · refine cIsX hC hcl hT hz hf (fun _ => ?_) hn
    obtain ⟨p, hp, e⟩ := List.mem_map.mp hn
    exact (hT p hp Da (by rw [e]; exact hC)).1
  · exact ⟨fun _ _ _ => False, fun pins s σ H xs us Q I r h => h.elim, fun xs H Q ds G QD hR hp ⟨x, y, e, ey, ex, b, hm, q⟩ hq => hn (List.mem_map.mpr ⟨_, hm, rfl⟩)⟩
end
section
variable {i : Nat} {tbl : List (Str × Bool)} {tb : TSD} {ts : Str → Addr → Option Addr → TSD} {σ : SD} {G : HH} {nx bk ct : SD → HH → Prop} {rt : QD} {ex : XD → SD → HH → Prop} {n : Str} {ns : List Str} {vs : List D} {Q : QD} {E : ED} {te : TED} {a dd : Addr} {f : Str} {cs : List Str} {y : D}
theorem st_tryA (h : tb ⟨nx, rt, bk, ct, fun x σ' G' => ∃ n b, x.cls = .own n ∧ (n, b) ∈ tbl ∧ (b = true → ∀ a d, (d = none → x.ns = []) → ts n a d { nx := fun σ2 G2 => nx (σ2.set i none) G2, rt := rt, bk := fun σ2 G2 => bk (σ2.set i none) G2, ct := fun σ2 G2 => ct (σ2.set i none) G2, ex := fun _ _ _ => False } (σ'.set i (some (excD a d x))) G') ∧ (b = false → ex x σ' G')⟩ σ G) : dTryA i tbl tb ts ⟨nx, rt, bk, ct, ex⟩ σ G := h
theorem st_tryO (h : tb ⟨nx, rt, bk, ct, fun x σ' G' => ∃ n b, x.cls = .own n ∧ (n, b) ∈ tbl ∧ (b = true → ∀ a d, (d = none → x.ns = []) → ts n a d ⟨nx, rt, bk, ct, fun _ _ _ => False⟩ σ' G') ∧ (b = false → ex x σ' G')⟩ σ G) : dTryO tbl tb ts ⟨nx, rt, bk, ct, ex⟩ σ G := h
theorem caught {P : Str → Addr → Option Addr → Prop} {F : Prop} (hm : (n, true) ∈ tbl) (hn : ns ≠ []) (h : ∀ a dd, P n a (some dd)) : ∃ n' b, (XC.own n) = .own n' ∧ (n', b) ∈ tbl ∧ (b = true → ∀ a d, (d = none → ns = []) → P n' a d) ∧ (b = false → F) :=
  ⟨n, true, rfl, hm, fun _ a d hd => by
    cases d with
    | none => exact absurd (hd rfl) hn
    | some dd => exact h a dd, fun z => by cases z⟩
theorem caught0 {P : Str → Addr → Option Addr → Prop} {F : Prop} (hm : (n, true) ∈ tbl) (h : ∀ a d, P n a d) : ∃ n' b, (XC.own n) = .own n' ∧ (n', b) ∈ tbl ∧ (b = true → ∀ a d, (d = none → ns = []) → P n' a d) ∧ (b = false → F) :=
  ⟨n, true, rfl, hm, fun _ a d hd => h a d, fun z => by cases z⟩
theorem passed {P : Str → Addr → Option Addr → Prop} {F : Prop} (hm : (n, false) ∈ tbl) (h : F) : ∃ n' b, (XC.own n) = .own n' ∧ (n', b) ∈ tbl ∧ (b = true → ∀ a d, (d = none → ns = []) → P n' a d) ∧ (b = false → F) :=
  ⟨n, false, rfl, hm, (fun z => by cases z), fun _ => h⟩
theorem st_excF (h : te σ G (fun v G1 => ∃ dd' ns' vs' y', some dd = some dd' ∧ v = .xe a dd' ns' vs' ∧ n ∈ cs ∧ lk f ns' vs' = some y' ∧ Q y' G1) E) : dExcF a (some dd) n cs f te σ G Q E := h
theorem st_excFq {P : D → Prop} (hn : n ∈ cs) (hl : lk f ns vs = some y) (h : P y) : ∃ dd' ns' vs' y', some dd = some dd' ∧ D.xe a dd ns vs = .xe a dd' ns' vs' ∧ n ∈ cs ∧ lk f ns' vs' = some y' ∧ P y' := ⟨dd, ns, vs, y, rfl, rfl, hn, hl, h⟩
theorem st_isX {y0 : D} {b : Bool} (hm : (n, b) ∈ tbl) (h : Q (.bl b) G) : kIsX a (some dd) n y0 tbl [.xe a dd ns vs, y0] G Q := ⟨_, _, rfl, rfl, .inl ⟨dd, ns, vs, rfl, rfl⟩, b, hm, h⟩
theorem st_isX0 {y0 : D} {b : Bool} (hm : (n, b) ∈ tbl) (h : Q (.bl b) G) : kIsX a none n y0 tbl [.ref a, y0] G Q := ⟨_, _, rfl, rfl, .inr ⟨rfl, rfl⟩, b, hm, h⟩
end
end DL
namespace DL
open PySem PySem.Spec PyProof.Rows L2
theorem kit_bi {K : PySem.W.Frag} {t : Value} {T : String} {b : Bool} (e : (t == .type T) = false) (h1 : PySem.W.kitMeta T = true) (h3 : PySem.W.subIn K t (.type T) = some b) : PySem.W.kitOne K t (.type T) = some b := by
  unfold PySem.W.kitOne
  rw [e, if_neg Bool.false_ne_true]
  show (if PySem.W.kitMeta T = true then PySem.W.subIn K t (.type T) else none) = some b
  rw [h1, if_pos rfl]
  exact h3
end DL

namespace DL
open PySem PySem.Spec PyProof.Rows L2
open PySem.W (Frag)
/-! ### enumerate(..) of a tuple or a list -/
theorem meets_enumB {v : Value} {ob : Obj} {P : Heap → Prop} (B : Begins v ob P) :
    Meets (Builtin.«enumerate.__new__» ⟨[.type "enumerate", v], []⟩) (fun _ Rr sh => P sh.heap ∧
      Rr (.ok (.ret (.ref (sh.heap.push ob).objs.size))) { sh with heap := (sh.heap.push ob).push { cls := .type "enumerate", data := .fields #[.none, .bool false, .ref sh.heap.objs.size, rawInt 0, .none, .none] } }) :=
  .of_wp fun prog w A Rr sh hh => by
    obtain ⟨hp, gg, dd, tt, oo⟩ := sh; obtain ⟨hP, hh⟩ := hh
    have sb := sub_enumerate
    have it0 : ∀ {A' : Around} {E Q : Value → Shared → Prop}, Q (.ref hp.objs.size) ⟨hp.push ob, gg, dd, tt, oo⟩ → wpAny (model prog w) A' (pyIter v) Q E ⟨hp, gg, dd, tt, oo⟩ :=
      fun z => B.iter prog w _ _ ⟨hp, gg, dd, tt, oo⟩ _ hP z
    wp_walk using it0
    refine wpAny_stack_any fun sk => wpAny_pure ?_
    split
    · rename_i cc _ _ _ _ _
      cases (cc == Value.type "enumerate") <;> (wp_walk using it0; exact ⟨_, rfl, hh⟩)
    · wp_walk using it0
      exact ⟨_, rfl, hh⟩
section
variable {prog : Program} {w : World} {A : Around} {E : Value → Shared → Prop} {s : Shared}
theorem call_enumB {v : Value} {ob : Obj} {P : Heap → Prop} {Q : Value → Shared → Prop} (B : Begins v ob P) (hP : P s.heap)
    (hq : ∀ h2, IsEnum h2 (s.heap.objs.size + 1) s.heap.objs.size 0 .none → h2.get? s.heap.objs.size = some ob → (∀ b o, s.heap.get? b = some o → h2.get? b = some o) → Q (.ref (s.heap.objs.size + 1)) { s with heap := h2 }) :
    wpAny (model prog w) A (call (.type "enumerate") [v]) Q E s := by
  refine callType_new F.called_enumerate (by decide) (F.typeCall_enumerate_1 _) (F.newCall_enumerate_1 _) (fun z => F.args_object_init_2 z _) F.entry_enumerate_new (meets_enumB B) ⟨hP, ?_⟩
  have sz : (s.heap.push ob).objs.size = s.heap.objs.size + 1 := Heap.size_push ..
  show _ ∧ _
  rw [sz]
  have e1 : IsEnum ((s.heap.push ob).push { cls := .type "enumerate", data := .fields #[.none, .bool false, .ref s.heap.objs.size, rawInt 0, .none, .none] }) (s.heap.objs.size + 1) s.heap.objs.size 0 .none := by
    have z := Heap.get?_push_size (s.heap.push ob) (o := { cls := .type "enumerate", data := .fields #[.none, .bool false, .ref s.heap.objs.size, rawInt 0, .none, .none] }) rfl
    rw [sz] at z
    exact z
  exact ⟨⟨_, e1, rfl⟩, hq _ e1 (Heap.get?_push_of_some _ (Heap.get?_push_size _ B.free)) fun b o z => Heap.get?_push_of_some _ (Heap.get?_push_of_some _ z)⟩
end
/-- the tuple at a, of n items, each in a new pair -/
def IteT (K : Frag) (a : Addr) (n : Nat) : It :=
  ⟨fun i H => ∃ (xs : List V) (x : V), SqT K H a xs ∧ xs[i]? = some x ∧ xs.length = n, fun i H v H' => ∃ T x, v = .ref T ∧ H T = none ∧ H' = upd H T (.tup [.int (i : Nat), x]) ∧ ∀ xs, SqT K H a xs → xs[i]? = some x, fun i H => ∃ xs : List V, SqT K H a xs ∧ xs.length ≤ i ∧ xs.length = n⟩
theorem turn_enumT {P : Program} {w : World} {K : Frag} {elts : List Expr} {kk : Nat} {tpos : Pos} (a e it : Addr) (n : Nat) :
    Turn P w K (.Tuple elts kk tpos) (IteT K a n) [e, it] e (fun i h => (∃ old, IsEnum h e it ((i : Nat) : Int) old) ∧ h.IsTupleIter it a i ∧ e ≠ it ∧ i ≤ n) where
  mem := List.mem_cons_self
  obj := fun i h st b hb => by
    obtain ⟨⟨old, ee⟩, ⟨o, ho, hc, hd⟩, _⟩ := st
    rcases List.mem_cons.mp hb with z | z
    · rw [z]; exact ⟨_, ee, fun v q => nomatch q⟩
    · rw [List.mem_singleton.mp z]; exact ⟨o, ho, fun v q => by rw [hd] at q; cases q⟩
  keep := fun i h h' st k => let ⟨⟨old, ee⟩, hi, nn, le⟩ := st; ⟨⟨old, k e (by simp) _ ee⟩, hi.at fun o q => k it (by simp) o q, nn, le⟩
  item := by
    intro X hP hw hK hc i pins s σ H E I hf st hg
    subst hP hw hK
    obtain ⟨⟨old, ee⟩, hit, nn, le⟩ := st
    obtain ⟨xs, x, hq, hx, hn⟩ := hg
    obtain ⟨its, rv, p, hz⟩ := I.tuple hq
    obtain ⟨u, hu, ru⟩ := rv.get hx
    have el : e < s.heap.objs.size := Heap.lt_size ee
    have il : it < s.heap.objs.size := by obtain ⟨_, q, _⟩ := hit; exact Heap.lt_size q
    have hlen := rv.length
    have hi : i < xs.length := (List.getElem?_eq_some_iff.mp hx).1
    have p' : s.heap.IsTuple a its.toArray := p
    have ne2 : a ≠ it := fun z => by
      obtain ⟨o1, e1, _, c1⟩ := hit
      obtain ⟨o2, e2, _, n2, c2⟩ := p'
      rw [z, e1] at e2; cases e2
      rw [c1] at c2; cases c2
    have ne3 : a ≠ e := fun z => by
      obtain ⟨o2, e2, _, n2, c2⟩ := p'
      rw [z, ee] at e2; cases e2
      cases c2
    have hh : X.A.in1.handled = none := I.ok.hd hc
    refine wpAny_pyNext_enum_itemD (Draws.tuple hh it a ne2 its.toArray) ee ⟨hit, p'⟩ (by simp; omega) nn (by simp [Ne.symm ne3, nn]) fun y h' tk hy ho st' hT hsz hk => ?_
    obtain rfl : y = u := by
      have hy' : its.toArray[i]? = some y := hy
      simp only [List.getElem?_toArray] at hy'
      rw [hu] at hy'
      exact (Option.some.inj hy').symm
    refine ⟨_, rfl, wpAny_letOwnedTupleGo_enum (s := { s with heap := h', toks := tk + 1 }) ho fun h2 e2 sb => ?_⟩
    have hT2 : h2.get? s.heap.objs.size = some { cls := .type "tuple", data := .seq #[.int i tk, y] } := (sb.2 _ (Nat.ne_of_gt el)).trans hT
    have nw : ObjOk X.prog X.w (upd H s.heap.objs.size (.tup [.int (i : Nat), x])) h2 s.heap.objs.size (.tup [.int (i : Nat), x]) :=
      ⟨by show 2 ≤ sizeLine; decide, [.int i tk, y], .cons ⟨_, rfl⟩ (.cons ru .nil), ⟨_, hT2, rfl, _, rfl⟩⟩
    have I1 : Inv X pins σ (upd H s.heap.objs.size (.tup [.int (i : Nat), x])) { s with heap := h2, toks := tk + 1 } :=
      I.turnedNew (ch := [e, it]) (fun b o hb q => (sb.2 b (fun z => hb (by simp [z]))).trans (hk b o (fun z => hb (by simp [z])) (fun z => hb (by simp [z])) q)) hf (Nat.le_refl _) nw
    refine ⟨.ref s.heap.objs.size, _, I1, rfl, ⟨_, x, rfl, I.hok.fresh (Nat.le_refl _), rfl, fun ys hy => by rw [I.tuple_inj hy hq]; exact hx⟩, ⟨⟨y, ?_⟩, st'.1.at fun o q => (sb.2 it (Ne.symm nn)).trans q, nn, by omega⟩, fun b hb => ?_⟩
    · rw [show ((i + 1 : Nat) : Int) = (i : Int) + 1 from by omega]
      exact e2
    · have hb' : b < s.heap.objs.size := by
        rcases List.mem_cons.mp hb with z | z
        · rw [z]; exact el
        · rw [List.mem_singleton.mp z]; exact il
      rw [upd_ne (Nat.ne_of_lt hb')]
      exact (hf b hb).1
  done := by
    intro X hP hw hK hc i pins s σ H E I hf st hg
    subst hP hw hK
    obtain ⟨⟨old, ee⟩, hit, nn, le⟩ := st
    obtain ⟨xs, hq, hx, hn⟩ := hg
    obtain ⟨its, rv, p, hz⟩ := I.tuple hq
    obtain ⟨f0, f1, f2, f3, f4, f5⟩ := hf it (by simp)
    have hlen := rv.length
    have p' : s.heap.IsTuple a its.toArray := p
    have ne2 : a ≠ it := fun z => by
      obtain ⟨o1, e1, _, c1⟩ := hit
      obtain ⟨o2, e2, _, n2, c2⟩ := p'
      rw [z, e1] at e2; cases e2
      rw [c1] at c2; cases c2
    have hh : X.A.in1.handled = none := I.ok.hd hc
    have en : i = its.toArray.size := by simp; omega
    exact wpAny_pyNext_enum_endD (Draws.tuple hh it a ne2 its.toArray) ee ⟨by rw [← en]; exact hit, p'⟩ fun h' eb => ⟨rfl, I.turned (t' := s.toks) (fun b o hb q => eb b o hb q) f0 f1 f3 f4 f5⟩
  self := fun A i s Q E st h => let ⟨⟨_, ee⟩, _⟩ := st; wpAny_pyIter_enum ee h
def iEnumV (K : Frag) (ta : TA) : TI := fun σ H R => ta σ H fun vs H1 => ∃ a xs, vs = [.ref a] ∧ ((SqL K H1 a xs ∧ R (Ite K a) H1) ∨ (SqT K H1 a xs ∧ R (IteT K a xs.length) H1))
theorem pi_enumV {X : Cx} {e : Expr} {ta : TA} {p pos tpos : Pos} {elts : List Expr} {kk : Nat} (hg : Gl X "enumerate") (hm : X.mg "enumerate" = none) (ha : PA X [e] ta) (hs : starEach [e] X.env = [(false, eval e X.env)] := by rfl) :
    PI X (.Tuple elts kk tpos) (.Call (.Name "enumerate" p) [e] [] pos) (iEnumV X.K ta) := by
  refine ⟨fun pins s σ H R I h => ?_⟩
  refine Call_ (ld_blt I hg hm boot_enumerate (PyProof.Rows.callWith_type1 (thn (ha.run pos pins s σ H _ I h) fun us s1 ⟨vs, H1, I1, r1, q1⟩ => ?_) hs rfl))
  obtain ⟨a, xs, ex, z⟩ := q1
  subst ex
  cases r1 with
  | cons r rr =>
    cases rr
    cases r
    have fp2 : ∀ b ∈ [s1.heap.objs.size + 1, s1.heap.objs.size], FpOk X pins H1 b := fun b hb => by
      have ge : s1.heap.objs.size ≤ b := by
        rcases List.mem_cons.mp hb with z | z
        · rw [z]; exact Nat.le_add_right _ _
        · rw [List.mem_singleton.mp z]; exact Nat.le_refl _
      exact I1.fpOk ge (I1.hok.fresh ge)
    rcases z with ⟨hq, q⟩ | ⟨hq, q⟩
    · obtain ⟨its, rv, p', hz⟩ := I1.list hq
      refine call_enumB (begins_list a its.toArray) p'.isList fun h2 ee hit hk => wpAny_pyIter_enum ee ?_
      have I2 : Inv X pins σ H1 { s1 with heap := h2 } := I1.kept (t' := s1.toks) hk
      exact ⟨s1.heap.objs.size + 1, [s1.heap.objs.size + 1, s1.heap.objs.size], _, _, H1, rfl, I2, turn_enum a (s1.heap.objs.size + 1) s1.heap.objs.size, ⟨⟨.none, ee⟩, ⟨_, hit, rfl, rfl⟩, Nat.succ_ne_self _⟩, fp2, q⟩
    · obtain ⟨its, rv, p', hz⟩ := I1.tuple hq
      refine call_enumB (begins_tuple a its.toArray) p' fun h2 ee hit hk => wpAny_pyIter_enum ee ?_
      have I2 : Inv X pins σ H1 { s1 with heap := h2 } := I1.kept (t' := s1.toks) hk
      exact ⟨s1.heap.objs.size + 1, [s1.heap.objs.size + 1, s1.heap.objs.size], _, _, H1, rfl, I2, turn_enumT a (s1.heap.objs.size + 1) s1.heap.objs.size xs.length, ⟨⟨.none, ee⟩, ⟨_, hit, rfl, rfl⟩, Nat.succ_ne_self _, Nat.zero_le _⟩, fp2, q⟩
/-- the pairs of enumerate -/
def enums (xs : List D) : List D := xs.mapIdx fun i x => .tup [.int (i : Int), x]
def SqE (x : D) (G : HH) (R : List D → (HH → Prop) → HH → Prop) : Prop := (∃ xs, x = .tup xs ∧ R (enums xs) okT G) ∨ ∃ xs, LsW G x xs ∧ R (enums xs) (okL x xs) G
def iEnD (t : TAD) : TID := fun σ G R E => t σ G (fun ds G1 => ∃ x, ds = [x] ∧ SqE x G1 R) E
theorem enums_get {xs : List D} {i : Nat} {d : D} (h : (enums xs)[i]? = some d) : ∃ x, xs[i]? = some x ∧ d = .tup [.int (i : Int), x] := by
  unfold enums at h
  rw [List.getElem?_mapIdx] at h
  cases e : xs[i]? with
  | none => rw [e] at h; cases h
  | some x => rw [e] at h; cases h; exact ⟨x, rfl, rfl⟩
theorem enums_len {xs : List D} : (enums xs).length = xs.length := by simp [enums]
theorem pair_new {K : Frag} {H : Hp} {G : HH} {T : Addr} {i : Int} {x : V} {d : D} (hn : H T = none) (r : RelH K H G) (p : Rp K H G d x) :
    Stp H G (upd H T (.tup [.int i, x])) G ∧ RelH K (upd H T (.tup [.int i, x])) G ∧ Rp K (upd H T (.tup [.int i, x])) G (.tup [.int i, d]) (.ref T) :=
  have st : Stp H G (upd H T (.tup [.int i, x])) G := .new hn
  ⟨st, r.new hn, .tup (.inl ⟨upd_same, r.free hn⟩) (.cons (.int i) (.cons (p.mono st) .nil))⟩
theorem di_enum {X : Cx} {W : WX} {a : Expr} {t : TAD} {p pos tpos : Pos} {elts : List Expr} {kk : Nat} (hg : Gl X "enumerate") (hm : X.mg "enumerate" = none) (ha : DA X W [a] t) (hs : starEach [a] X.env = [(false, eval a X.env)] := by rfl) :
    DI X W (.Tuple elts kk tpos) (.Call (.Name "enumerate" p) [a] [] pos) (iEnD t) :=
  PI.imp (pi_enumV hg hm ha hs) fun σ H R ⟨σD, G, RD, E, hR, hS, q, hr, he⟩ => ⟨σD, G, _, E, hR, hS, q, fun vs H1 ds G1 s r p1 ⟨x, ex, z⟩ => by
    subst ex
    obtain ⟨v, rfl, p2⟩ := rps1 p1
    rcases z with ⟨xs, rfl, z⟩ | ⟨xs, ls, z⟩
    · cases p2 with
      | @tup b us _ f rr =>
        refine ⟨b, us, rfl, .inr ⟨f.sq, hr _ _ _ _ _ s r (fun i H2 G2 s2 r2 _ => ⟨fun d hd => ?_, fun hl => ⟨_, (f.mono s2).sq, by rw [← rr.length, ← enums_len]; exact hl, rfl⟩⟩) z⟩⟩
        obtain ⟨y, hy, rfl⟩ := enums_get hd
        obtain ⟨u, hu, pu⟩ := (rr.mono s2).get hy
        refine ⟨⟨_, u, (f.mono s2).sq, hu, rfl⟩, fun w H3 ⟨T, y', ew, hn, e3, hy'⟩ => ?_⟩
        have t := hy' _ (f.mono s2).sq
        rw [hu] at t
        cases t
        subst e3; subst ew
        exact pair_new hn r2 pu
    · obtain ⟨b, us, rfl, h1, rr⟩ := ls.of r p2
      refine ⟨b, us, rfl, .inl ⟨h1, hr _ _ _ _ _ s r (fun i H2 G2 s2 r2 ok2 => ?_) z⟩⟩
      obtain ⟨c, ws, e2, h2, r3⟩ := LsW.of ok2 r2 (p2.mono s2)
      cases e2
      refine ⟨fun d hd => ?_, fun hl => ⟨_, h2, by rw [← r3.length, ← enums_len]; exact hl⟩⟩
      obtain ⟨y, hy, rfl⟩ := enums_get hd
      obtain ⟨u, hu, pu⟩ := r3.get hy
      refine ⟨⟨_, u, h2, hu⟩, fun w H3 ⟨T, y', ew, hn, e3, hy'⟩ => ?_⟩
      have t := hy' _ h2
      rw [hu] at t
      cases t
      subst e3; subst ew
      exact pair_new hn r2 pu, he⟩
section
variable {σ : SD} {G : HH} {E : ED} {t : TAD} {R : List D → (HH → Prop) → HH → Prop}
theorem st_iEn (h : t σ G (fun ds G1 => ∃ x, ds = [x] ∧ SqE x G1 R) E) : iEnD t σ G R E := h
theorem st_enT {xs : List D} (h : R (enums xs) okT G) : ∃ x, [D.tup xs] = [x] ∧ SqE x G R := ⟨_, rfl, .inl ⟨xs, rfl, h⟩⟩
theorem st_enL {x : D} {xs : List D} (hl : LsW G x xs) (h : R (enums xs) (okL x xs) G) : ∃ y, [x] = [y] ∧ SqE y G R := ⟨_, rfl, .inr ⟨xs, hl, h⟩⟩
end
end DL

namespace DL
open PySem PySem.Spec PyProof.Rows L2
open PySem.W (Frag)
/-! ### x[::-1]: a list's, a tuple's -/
theorem back_adjust (n : Nat) : Builtin.Slice.sliceAdjust none none (-1) (n : Int) = ((n : Int) - 1, -1) := by
  unfold Builtin.Slice.sliceAdjust
  simp
theorem back_places (n : Nat) : Builtin.Slice.slicePlaces ((n : Int) - 1) (-1) (-1) = n := by
  unfold Builtin.Slice.slicePlaces
  have h1 : ¬ ((-1 : Int) > 0) := by decide
  rw [if_neg h1, show (- -1 : Int) = 1 by decide, Int.ediv_one]
  split <;> omega
theorem back_pick (xs : Array Value) : ((List.range xs.size).filterMap fun (k : Nat) => xs[((xs.size : Int) - 1 + (k : Int) * -1).toNat]?).toArray = xs.toList.reverse.toArray := by
  congr 1
  apply List.ext_getElem?
  intro i
  have hall : ∀ k ∈ List.range xs.size, (xs[((xs.size : Int) - 1 + (k : Int) * -1).toNat]?) = some ((xs.toList.reverse)[k]?.getD .none) := by
    intro k hk
    have hk' := List.mem_range.mp hk
    have e : ((xs.size : Int) - 1 + (k : Int) * -1).toNat = xs.size - 1 - k := by omega
    rw [e, List.getElem?_reverse (by simpa using hk')]
    simp only [Array.length_toList, Array.getElem?_toList]
    rw [Array.getElem?_eq_getElem (by omega)]
    rfl
  have gen : ∀ (l : List Nat) (f : Nat → Option Value) (g : Nat → Value), (∀ k ∈ l, f k = some (g k)) → l.filterMap f = l.map g := by
    intro l f g h
    induction l with
    | nil => rfl
    | cons a l ih => rw [List.filterMap_cons, h a List.mem_cons_self, List.map_cons, ih fun k hk => h k (List.mem_cons_of_mem _ hk)]
  have e2 := gen _ _ _ hall
  rw [e2, List.getElem?_map]
  by_cases hi : i < xs.size
  · rw [List.getElem?_range hi]
    rw [List.getElem?_eq_getElem (by simpa using hi)]
    simp [hi]
  · rw [List.getElem?_eq_none (by simpa using hi), List.getElem?_eq_none (by simpa using hi)]
    rfl
section
variable {prog : Program} {w : World} {A : Around} {E : Value → Shared → Prop} {s : Shared}
theorem applied_back {sl : Addr} {vs : Value} {n : Nat} {Q : Int × Int × Nat → Shared → Prop} (hs : s.heap.IsSliceOf sl .none .none vs) (ps : IsPart vs (some (-1)))
    (hq : Q ((n : Int) - 1, -1, n) s) : wpAny (model prog w) A (Builtin.Slice.sliceApplied (.ref sl) (pure (n : Int))) Q E s := by
  obtain ⟨os, hos, hcs, hds⟩ := id hs
  unfold Builtin.Slice.sliceApplied Builtin.Slice.sliceFields
  refine wpAny_bind (wpAny_bind (wpAny_field hos hds (x := .none) rfl (wpAny_bind (wpAny_field hos hds (x := .none) rfl (wpAny_bind (wpAny_field hos hds (x := vs) rfl (wpAny_pure ?_)))))))
  refine wpAny_bind (HT.slicePart_ ps ?_)
  show wpAny _ _ (if ((-1 : Int) == 0) = true then _ else _) _ _ s
  rw [if_neg (by decide)]
  refine wpAny_bind (HT.slicePart_ .none (wpAny_bind (HT.slicePart_ .none (wpAny_bind (wpAny_pure ?_)))))
  show wpAny _ _ (match Builtin.Slice.sliceAdjust none none (-1) (n : Int) with | (lo, hi) => pure (lo, (-1 : Int), Builtin.Slice.slicePlaces lo hi (-1))) _ _ s
  rw [back_adjust n]
  show wpAny _ _ (pure ((n : Int) - 1, (-1 : Int), Builtin.Slice.slicePlaces ((n : Int) - 1) (-1) (-1))) _ _ s
  rw [back_places]
  exact wpAny_pure hq
theorem getItem_tuple_back {t sl : Addr} {items : Array Value} {vs : Value} {Q : Value → Shared → Prop} (ht : IsTup s.heap t items) (hs : s.heap.IsSliceOf sl .none .none vs) (ps : IsPart vs (some (-1)))
    (hq : Q (.ref s.heap.objs.size) { s with heap := s.heap.push { cls := .type "tuple", data := .seq items.toList.reverse.toArray } })
    (hz : items.size ≤ sizeLine) : wpAny (model prog w) A (getItem (.ref t) (.ref sl)) Q E s := by
  have ok : sizeOk (.seq items.toList.reverse.toArray) := by
    show items.toList.reverse.toArray.size ≤ sizeLine
    simpa using hz
  obtain ⟨os, hos, hcs, hds⟩ := id hs
  have hTs : s.TypeIs (.ref sl) "slice" := ⟨os, hos, hcs⟩
  unfold getItem
  try with_reducible refine wpAny_holding ?_
  first | refine wpAny_bind (wpAny_pure ?_) | skip
  refine wpAny_bind (wpAny_sequenceKey ht.typeIs (by decide) ?_)
  refine wpAny_bind (wpAny_callSpecial?_slot (name := Str.ofString "__getitem__") ht.typeIs PyProof.Rows.slot_tuple_getitem
      (wpAny_call_entry PyProof.Rows.slot_tuple_getitem ht.typeIs PySem.F.entry_tuple_getitem ?_ (PySem.F.args_tuple_getitem_2 _ _)))
  show wpAny _ _ (Builtin.Tuple.tupleItemsOf (.ref t) >>= _) _ _ s
  refine wpAny_bind (PyProof.Rows.tupleItemsOf_ ht ?_)
  refine wpAny_bind (wpAny_typeOf hTs ?_)
  rw [if_pos (by decide)]
  refine wpAny_bind (applied_back hs ps ?_)
  have no : ¬ ((((items.size : Int) - 1) == 0 && (-1 : Int) == 1 && items.size == items.size) = true) := by
    rw [show ((-1 : Int) == 1) = false by decide, Bool.and_false, Bool.false_and]
    exact Bool.false_ne_true
  show wpAny _ _ (if (((items.size : Int) - 1) == 0 && (-1 : Int) == 1 && items.size == items.size) = true then _ else _) _ _ s
  rw [if_neg no, back_pick]
  first
    | exact wpAny_bind (m := Builtin.Tuple.tupleExact _) (wpAny_newObj_type (wpAny_pure ⟨_, rfl, wpAny_pure hq⟩) ok)
    | exact wpAny_bind (m := Builtin.Tuple.tupleExact _) (wpAny_newObj_type (wpAny_bind (wpAny_pure (wpAny_pure ⟨_, rfl, wpAny_pure hq⟩))) ok)
    | exact wpAny_bind (wpAny_bind (m := Builtin.Tuple.tupleExact _) (wpAny_newObj_type (wpAny_pure (wpAny_pure ⟨_, rfl, wpAny_pure hq⟩)) ok))
    | exact wpAny_bind (wpAny_bind (m := Builtin.Tuple.tupleExact _) (wpAny_newObj_type (wpAny_pure ⟨_, rfl, wpAny_pure hq⟩) ok))
end
def tRevA (K : Frag) (te : TE) : TE := fun σ H Q => te σ H fun x H1 => ∃ a xs, x = .ref a ∧ ((SqL K H1 a xs ∧ ∀ p, H1 p = none → Q (.ref p) (upd H1 p (.lst xs.reverse))) ∨ (SqT K H1 a xs ∧ ∀ p, H1 p = none → Q (.ref p) (upd H1 p (.tup xs.reverse))))
section
variable {X : Cx} {W : WX}
theorem pe_revA {e : Expr} {te : TE} {k : Nat} {p1 p2 p3 pos : Pos} (he : PE X e te) : PE X (.Subscript e (.Slice none none (some (.UnaryOp .USub (.Constant (.int 1) k p1) p2)) p3) pos) (tRevA X.K te) := by
  refine ⟨fun pins s σ H Q I h => ?_⟩
  refine Subscript_ (thn (he.run pins s σ H _ I h) fun v s1 ⟨x, H1, I1, r1, q1⟩ => ?_)
  obtain ⟨a, xs, ex, q1⟩ := q1
  subst ex
  cases r1
  have st : PO X (some (.UnaryOp .USub (.Constant (.int 1) k p1) p2)) (tPart (tUn (rU fun i => .int (-i)) (tC (.int 1)))) := po_some (pe_un un_neg pe_int)
  refine wpAny_Slice (thn (po_none.run pins s1 σ H1 (fun o H2 => o = none ∧ H2 = H1) I1 ⟨rfl, rfl⟩) fun vl s2 ⟨l, H2, I2, pl, el, e2⟩ => ?_)
  subst el e2
  refine thn (po_none.run pins s2 σ H2 (fun o H3 => o = none ∧ H3 = H2) I2 ⟨rfl, rfl⟩) fun vu s3 ⟨u, H3, I3, pu, eu, e3⟩ => ?_
  subst eu e3
  refine thn (st.run pins s3 σ H3 (fun o H4 => o = some (-1) ∧ H4 = H3) I3 ⟨1, rfl, -1, rfl, rfl, rfl⟩) fun vs s4 ⟨o, H4, I4, ps, eo, e4⟩ => ?_
  subst eo e4
  cases pl
  cases pu
  have I5 : Inv X pins σ H4 { s4 with heap := s4.heap.push { cls := .type "slice", data := .fields #[.none, .none, vs] } } := I4.kept (t' := s4.toks) fun b ob q => Heap.get?_push_of_some _ q
  show wpAny (model X.prog X.w) X.A (subscriptTail e (.Slice none none (some (.UnaryOp .USub (.Constant (.int 1) k p1) p2)) p3) (.ref a) (.ref s4.heap.objs.size)) (EP X pins σ Q) X.xe { s4 with heap := s4.heap.push { cls := .type "slice", data := .fields #[.none, .none, vs] } }
  rcases q1 with ⟨hx, q⟩ | ⟨hx, q⟩
  · obtain ⟨its, r, ht, hz⟩ := I5.list hx
    have hl := r.length
    refine tail_any (ops := [.ref a, .ref s4.heap.objs.size]) ht.isList.typeIs (PySem.slot_list_getitem.lookup) ?_ (by with_unfolding_all rfl)
    refine wpAny_getItem_list_slice ht.isList (Heap.IsSliceOf.new _ .none .none vs) .none .none ps (by decide) ?_ (by rw [List.size_toArray]; omega)
    rw [PySem.W.krv_pick]
    refine ⟨.ref _, _, I5.laid (t' := s4.toks) (o := .lst xs.reverse) (fun b ob z => Heap.get?_push_of_some _ z) (Nat.le_refl _) ?_, rfl, q _ (I5.hok.fresh (Nat.le_refl _))⟩
    exact ⟨by rw [List.length_reverse]; exact hz, _, 0, r.reverse, Heap.get?_push_size _ rfl⟩
  · obtain ⟨its, r, ht, hz⟩ := I5.tuple hx
    have hl := r.length
    refine tail_any (ops := [.ref a, .ref s4.heap.objs.size]) ht.typeIs (PyProof.Rows.slot_tuple_getitem.lookup) ?_ (by with_unfolding_all rfl)
    refine getItem_tuple_back ht (Heap.IsSliceOf.new _ .none .none vs) ps ?_ (by rw [List.size_toArray]; omega)
    refine ⟨.ref _, _, I5.laid (t' := s4.toks) (o := .tup xs.reverse) (fun b ob z => Heap.get?_push_of_some _ z) (Nat.le_refl _) ?_, rfl, q _ (I5.hok.fresh (Nat.le_refl _))⟩
    exact ⟨by rw [List.length_reverse]; exact hz, _, r.reverse, IsTup.new _ _⟩
def reD (x : D) (G : HH) (Q : QD) : Prop := (∃ xs, LsW G x xs ∧ Q (.lst xs.reverse) G) ∨ ∃ xs, x = .tup xs ∧ Q (.tup xs.reverse) G
def dRev (te : TED) : TED := fun σ G Q E => te σ G (fun x G1 => reD x G1 Q) E
theorem de_rev {e : Expr} {te : TED} {k : Nat} {p1 p2 p3 pos : Pos} (he : DE X W e te) : DE X W (.Subscript e (.Slice none none (some (.UnaryOp .USub (.Constant (.int 1) k p1) p2)) p3) pos) (dRev te) :=
  PE.imp (pe_revA he) fun σ H Q ⟨σD, G, QD, E, hR, hS, q, hq, he⟩ => by
    refine ⟨σD, G, _, E, hR, hS, q, fun v1 H1 d1 G1 s1 r1 p1 q1 => ?_, he⟩
    have hq1 := hq.mono s1
    rcases q1 with ⟨xs, s, q1⟩ | ⟨xs, hx, q1⟩
    · obtain ⟨a, vs, rfl, hL, r⟩ := s.of r1 p1
      exact ⟨a, vs, rfl, .inl ⟨hL, fun p hp => hq1.lst r1 hp r.reverse q1⟩⟩
    · subst hx
      cases p1 with
      | tup f r => exact ⟨_, _, rfl, .inr ⟨f.sq, fun p hp => hq1.tup r1 hp r.reverse q1⟩⟩
end
section
variable {σ : SD} {G : HH} {E : ED} {te : TED} {Q : QD} {x : D} {xs : List D}
theorem st_rev (h : te σ G (fun x G1 => reD x G1 Q) E) : dRev te σ G Q E := h
theorem st_revT (h : Q (.tup xs.reverse) G) : reD (.tup xs) G Q := .inr ⟨xs, rfl, h⟩
theorem st_revL (hl : LsW G x xs) (h : Q (.lst xs.reverse) G) : reD x G Q := .inl ⟨xs, hl, h⟩
end
end DL

namespace DL
open PySem PySem.Spec PyProof.Rows L2
/-! ### marks: the form of a goal -/
theorem mk_E {t : TED} {σ : SD} {G : HH} {Q : QD} {E : ED} (h : t σ G Q E) : t σ G Q E := h
theorem mk_F {β : Type} {t : SD → HH → β → ED → Prop} {σ : SD} {G : HH} {Q : β} {E : ED} (h : t σ G Q E) : t σ G Q E := h
theorem mk_R {r : D → D → HH → QD → Prop} {x y : D} {G : HH} {Q : QD} (h : r x y G Q) : r x y G Q := h
theorem mk_K {k : List D → HH → QD → Prop} {ds : List D} {G : HH} {Q : QD} (h : k ds G Q) : k ds G Q := h
theorem mk_S {t : EndsD → SD → HH → Prop} {D' : EndsD} {σ : SD} {G : HH} (h : t D' σ G) : t D' σ G := h
theorem mk_X {α : Type} {p : α → Prop} (h : ∃ x, p x) : ∃ x, p x := h
theorem mk_I {c : Prop} [i : Decidable c] {a b : Prop} (h : if c then a else b) : if c then a else b := h
end DL
namespace DL
theorem mk_i {b : Bool} {x y : D} {G : HH} {Q : QD} (h : iAny b x y G Q) : iAny b x y G Q := h
theorem mk_e {b : Bool} {x y : D} {G : HH} {Q : QD} (h : eAny b x y G Q) : eAny b x y G Q := h
theorem mk_A {a b : Prop} (h : a ∧ b) : a ∧ b := h
end DL

namespace DL
open PySem PySem.Spec PyProof.Rows L2
open PySem.W (Frag)
/-! ### cuts within an expression -/
theorem st_cutE {t : TED} {σ : SD} {G : HH} {Q : QD} {E : ED} (P : D → HH → Prop) (h : ∀ Q' : QD, (∀ d G', P d G' → Q' d G') → t σ G Q' E) (k : ∀ d G', P d G' → Q d G') : t σ G Q E := h Q k
theorem st_cutT {t : TTD} {σ : SD} {G : HH} {Q : Bool → HH → Prop} {E : ED} (P : Bool → HH → Prop) (h : ∀ Q' : Bool → HH → Prop, (∀ d G', P d G' → Q' d G') → t σ G Q' E) (k : ∀ d G', P d G' → Q d G') : t σ G Q E := h Q k
/-- all but two addresses stay -/
def But2 (p q : Addr) (G G' : HH) : Prop := ∀ b, b ≠ p → b ≠ q → G' b = G b
theorem But2.new {p q : Addr} {G : HH} {o : HOD} : But2 p q G (gput G q o) := fun _ _ h => gput_ne h
theorem But2.then {p q : Addr} {G G1 G2 : HH} (a : But2 p q G G1) (b : But p G1 G2) : But2 p q G G2 := fun c h k => (b c h).trans (a c h k)
theorem But2.trans {p q : Addr} {G G1 G2 : HH} (a : But2 p q G G1) (b : But2 p q G1 G2) : But2 p q G G2 := fun c h k => (b c h k).trans (a c h k)
theorem But2.put {p q : Addr} {G G1 : HH} {o : HOD} (a : But2 p q G G1) : But2 p q G (gput G1 q o) := fun c h k => (gput_ne k).trans (a c h k)
theorem But2.del {p q : Addr} {G G1 : HH} (a : But2 p q G G1) (e : G q = none) : But p G (gdel G1 q) := fun c h => by
  by_cases k : c = q
  · subst k; rw [gdel_same, e]
  · rw [gdel_ne k]; exact a c h k
theorem But2.at {p q r : Addr} {G G' : HH} {o : HOD} (b : But2 p q G G') (h : r ≠ p) (k : r ≠ q) (e : G r = some o) : G' r = some o := (b r h k).trans e
theorem But2.refl {p q : Addr} {G : HH} : But2 p q G G := fun _ _ _ => rfl
end DL

namespace DL
open PySem PySem.Spec PyProof.Rows L2
open PySem.W (Frag)
/-! ### C.m(..), C a class of the program by its name, m a staticmethod of it -/
structure SMet (K : Frag) (C : Addr) (mc : Value) (m : Str) (p g : Addr) : Prop where
  rd : PySem.W.readsIn K C mc = true
  ga : PySem.W.specialIn K (.ref C) "__getattribute__" = some (some (.builtin "type.__getattribute__"))
  at_ : PySem.W.findCls K (.ref C) mc m = some (.get (.builtin "staticmethod.__get__") (.ref p) .none (.ref C))
  rc : ∃ rest, PySem.W.recIn K p "staticmethod" = some (.ref g :: rest)
  hv : PySem.W.handedIn (.ref g) = true
theorem getsmet_ok {X : Cx} {pins : List (Addr × Obj)} {σ : L2.St} {H : Hp} {s : Shared} {C p g : Addr} {mc : Value} {m : Str} {A : Around} {E : Value → Shared → Prop} {pl : Sem Bool} {Q : Value × List Value → Shared → Prop} (I : Inv X pins σ H s) (r : SMet X.K C mc m p g)
    (h : ∀ s', Inv X pins σ H s' → Q (.ref g, []) s') : wpAny (model X.prog X.w) A (getMethod (.ref C) m pl) Q E s := by
  obtain ⟨rest, hp⟩ := r.rc
  refine PySem.W.method_cls I.kIn r.ga (PySem.W.cls_bind I.kIn r.rd r.at_ (wpAny_call (PySem.W.sm_get (s := { s with toks := s.toks + 1 }) I.kIn hp (PySem.W.handed_on r.hv ?_))))
  exact h _ (I.tok _)
section
variable {X : Cx} {W : WX} {k : Nat} {C p g : Addr} {fd : FuncData} {ps : List Str} {mc : Value} {m x : Str} {sp : SpD} {e : Expr} {es : List Expr} {pos apos p0 : Pos} {t : TAD} {pl : Sem Bool}
theorem de_smeth (r : SMet X.K C mc m p g) (F : FnG X.prog X.w X.K X.mg X.base k g fd ps sp) (hgd : X.A.guards = some []) (hr : Room k X.A) (hg : Gl X x) (hm : X.mg x = some (.ref C)) (hk : PySem.W.keepIn X.K (.ref g) = true) (hb : Binds X.K fd ps []) (tk : Takes X W)
    (ha : DA X W (e :: es) t) (hdb : (x == ("__debug__" : Str)) = false := by decide) (he : starEach (e :: es) X.env = (false, eval e X.env) :: starEach es X.env := by rfl) (hpl : (backTo pos (starEach es X.env)).any (·.1) = false := by rfl)
    (ht : eval (.Call (.Attribute (.Name x p0) m apos) (e :: es) [] pos) X.env = (do
      let ov ← eval (.Name x p0) X.env
      standAt apos.atName
      let (f, first) ← holding [ov] (getMethod ov m pl)
      callWith pos f first (backTo pos (starEach (e :: es) X.env)) (backToKw pos (keywordEach [] X.env))) := by rfl) :
    DE X W (.Call (.Attribute (.Name x p0) m apos) (e :: es) [] pos) (dCall sp t) := by
  refine PE.imp (t := tCallS (lsp X.K sp) (WE W) (lftA X.K W t)) ⟨fun pins s σ H Q I h => ?_⟩ fun _ _ _ => lft_call
  have ha' : PA X (e :: es) (lftA X.K W t) := ha
  refine PySem.W.methodCall_KW (pl := pl) (ld_glob I hg hm (getsmet_ok I r fun s2 I2 => ?_) hdb) ht
  exact PySem.W.callWith_K (h₀ := X.base) I2.ok.mod.kin hk (thn (ha'.run pos pins s2 σ H _ I2 h) fun us s1 ⟨vs, H1, I1, r, q⟩ => ⟨I1.kIn, run_call F hgd hr hb tk I1 r q⟩) he hpl
theorem de_smeth0 (r : SMet X.K C mc m p g) (F : FnG X.prog X.w X.K X.mg X.base k g fd ps sp) (hgd : X.A.guards = some []) (hr : Room k X.A) (hg : Gl X x) (hm : X.mg x = some (.ref C)) (hk : PySem.W.keepIn X.K (.ref g) = true) (hb : Binds X.K fd ps []) (tk : Takes X W)
    (hdb : (x == ("__debug__" : Str)) = false := by decide)
    (ht : eval (.Call (.Attribute (.Name x p0) m apos) [] [] pos) X.env = (do
      let ov ← eval (.Name x p0) X.env
      standAt apos.atName
      let (f, first) ← holding [ov] (getMethod ov m pl)
      callWith pos f first (backTo pos (starEach [] X.env)) (backToKw pos (keywordEach [] X.env))) := by rfl) :
    DE X W (.Call (.Attribute (.Name x p0) m apos) [] [] pos) (dCall sp dNil) := by
  refine PE.imp (t := tCallS (lsp X.K sp) (WE W) tNil) ⟨fun pins s σ H Q I h => ?_⟩ fun σ H Q ⟨σD, G, QD, E, hR, hS, q, hq, he⟩ => ⟨[], G, QD, E, hR, .nil, q, hq, he⟩
  refine PySem.W.methodCall_KW (pl := pl) (ld_glob I hg hm (getsmet_ok I r fun s2 I2 => ?_) hdb) ht
  exact PySem.W.callWith_K0 I2.kIn hk (run_call (us := []) F hgd hr hb tk I2 .nil h)
end
/-! ### d.setdefault(k, v) -/
def dDSetd (td ty tx : TED) : TED := fun σ G Q E => td σ G (fun x G1 => IsDD G1 x ∧ ty σ G1 (fun y G2 => tx σ G2 (fun z G3 => ∃ p kvs k, x = .ref p ∧ G3 p = some (.dK kvs) ∧ dkey y = some k ∧ kvs.length < sizeLine ∧
  (∀ v, kget kvs k = some v → Q v G3) ∧ (kget kvs k = none → Q z (gput G3 p (.dK (kput kvs k z))))) E) E) E
section
variable {X : Cx} {W : WX} {o e f : Expr} {apos cpos : Pos} {td ty tx : TED} {σ : SD} {G : HH} {Q : QD} {E : ED}
theorem de_dsetd (ho : DE X W o td) (he : DE X W e ty) (hf : DE X W f tx) (m : M2 X o "setdefault" apos e f cpos) : DE X W (.Call (.Attribute o "setdefault" apos) [e, f] [] cpos) (dDSetd td ty tx) :=
  PE.imp (pe_dsetd ho he hf m) fun σ H Q ⟨σD, G, QD, E, hR, hS, q, hq, hE⟩ => by
    refine ⟨σD, G, _, E, hR, hS, q, fun v1 H1 d1 G1 s1 r1 p1 ⟨hi, q1⟩ => ?_, hE⟩
    obtain ⟨a, e1, hd⟩ := hi.of r1 p1
    refine ⟨a, e1, hd, σD, G1, _, E, r1, hS.mono s1, q1, fun v2 H2 d2 G2 s2 r2 p2 q2 => ?_, hE.mono s1⟩
    refine ⟨σD, G2, _, E, r2, hS.mono (s1.trans s2), q2, fun v3 H3 d3 G3 s3 r3 p3 ⟨p, kvs, k, e2, e3, e4, hl, h5, h6⟩ => ?_, hE.mono (s1.trans s2)⟩
    subst e2
    subst e1
    cases p1
    obtain ⟨xs, h1, h2⟩ := r3 _ _ e3
    have h2 : KRp X.K H3 G3 kvs xs := h2
    have hg := KRp.get (k := k) h2
    refine ⟨xs, k, h1, dkey_of (p2.mono s3) e4, by rw [← h2.length]; exact hl, fun v hv => ?_, fun hn => ?_⟩
    · rcases hg with ⟨_, z⟩ | ⟨d, w, g1, g2, pw⟩
      · exact absurd (hv.symm.trans z) (by simp)
      · have : v = w := Option.some.inj (hv.symm.trans g2)
        subst this
        exact hq _ _ _ _ ((s1.trans s2).trans s3) r3 pw (h5 d g1)
    · rcases hg with ⟨z, _⟩ | ⟨d, w, g1, g2, pw⟩
      · have s4 := Stp.put (H := H3) (o := .dK (putK xs k v3)) (od := .dK (kput kvs k d3)) e3
        exact hq _ _ _ _ (((s1.trans s2).trans s3).trans s4) (r3.put e3 ⟨_, upd_same, (h2.mono s4).put (p3.mono s4)⟩) (p3.mono s4) (h6 z)
      · exact absurd (hn.symm.trans g2) (by simp)
theorem st_dsetd (h : td σ G (fun x G1 => IsDD G1 x ∧ ty σ G1 (fun y G2 => tx σ G2 (fun z G3 => ∃ p kvs k, x = .ref p ∧ G3 p = some (.dK kvs) ∧ dkey y = some k ∧ kvs.length < sizeLine ∧
  (∀ v, kget kvs k = some v → Q v G3) ∧ (kget kvs k = none → Q z (gput G3 p (.dK (kput kvs k z))))) E) E) E) : dDSetd td ty tx σ G Q E := h
end
/-! // and % by any number -/
abbrev aDivN := oI CDivN fun i j => .int (i.fdiv j)
abbrev aModN := oI (fun _ j => j ≠ 0) fun i j => .int (i.fmod j)
theorem st_methOP {c m : Str} {ns : List Str} {ds : List D} {G : HH} {P : Prop} (hl : lk m ns ds = none) (h : P) : ∃ ns' ds', InsD G (.obj c ns ds) c ns' ds' ∧ lk m ns' ds' = none ∧ P := ⟨ns, ds, .obj c ns ds, hl, h⟩
/-! ### l.index(x), any data -/
def tyLs : D → HH → Prop := fun x G => ∃ xs, Ls G x xs
theorem tyLs_v {K : Frag} {H : Hp} {G : HH} {d : D} {v : V} (r : RelH K H G) (p : Rp K H G d v) (h : tyLs d G) : tyV K "list" v H := by
  obtain ⟨xs, h⟩ := h
  obtain ⟨a, vs, rfl, ha, _⟩ := h.of r p
  exact .inl ⟨rfl, vs, .inl (.inl ha)⟩
def mIndex : D → List D → HH → QD → Prop := fun x us G Q => ∃ (y : D) (d : PyData) (xs : List D) (ds : List PyData) (j : Nat) (z : PyData), us = [y] ∧ Ls G x xs ∧ Py G x (.list ds) ∧ Py G y d ∧
  SeqAt.shaped (.list ds) = true ∧ SeqAt.shaped d = true ∧ ds[j]? = some z ∧ PyData.eqv z d = true ∧ (∀ (m : Nat) (z' : PyData), m < j → ds[m]? = some z' → PyData.eqv z' d = false) ∧ Q (.int (j : Nat)) G
theorem mdIndex {X : Cx} (hu : X.A.units + 65 < cLine) : MtD X "list" "list.index" tyLs mIndex := ⟨fun _ _ _ _ => tyLs_v, _, mt_indexD hu, fun x us H Q d ds G QD hR hp hps ⟨y, dd, xs, pds, j, z, e1, e2, e3, e4, s1, s2, h1, h2, h3, q⟩ hq => by
  subst e1
  obtain ⟨w, rfl, py⟩ := rps1 hps
  obtain ⟨a, vs, rfl, ha, _⟩ := e2.of hR hp
  exact ⟨a, w, dd, pds, j, z, rfl, rfl, e3.dp hR hp, e4.dp hR py, s1, s2, h1, h2, h3, hq _ _ _ _ Stp.refl hR (.int _) q⟩⟩
theorem de_index {X : Cx} {W : WX} {o e : Expr} {es : List Expr} {apos cpos : Pos} {to : TED} {t : TAD} (hu : X.A.units + 65 < cLine) (ho : DE X W o to) (ha : DA X W (e :: es) t)
    (hbase : attributeBase o "index" X.env (eval o X.env) = eval o X.env := by rfl)
    (hfew : ((backTo cpos (starEach (e :: es) X.env)).all (fun x => !x.1) && (backToKw cpos (keywordEach [] X.env)).all (fun x => x.1.isSome)
      && decide ((e :: es).length + ([] : List Keyword).length + (if ([] : List Keyword).isEmpty then 0 else 1) < 30)) = true := by rfl)
    (hline : (apos.endLine == cpos.line) = true := by rfl) (hs : starEach (e :: es) X.env = (false, eval e X.env) :: starEach es X.env := by rfl) (hplain : (backTo cpos (starEach es X.env)).any (·.1) = false := by rfl) :
    DE X W (.Call (.Attribute o "index" apos) (e :: es) [] cpos) (dBM tyLs mIndex to t) := de_bm PySem.F.plainAttrs_list PySem.F.slot_list_index PySem.F.type_list_index (mdIndex hu) ho ha hbase hfew hline hs hplain
end DL

namespace DL
open PySem PySem.Spec PyProof.Rows L2
open PySem.W (Frag)
/-! ### defs whose exceptions have no context -/
theorem cx_of_n {P : Program} {w : World} {outer : List Env} {H : Hp} {s s' : Shared} {E : XK} {u : Value} (h : L2N.CX P w outer H s E u s') : L2.CX P w outer H s E u s' := by
  obtain ⟨a, B, H', cls, d, e, f, r⟩ := h
  exact ⟨a, B, H', cls, d, e, L2H.flyingZ_imp (fun o z => z.zc) f, r⟩
structure FnN (P : Program) (w : World) (K : Frag) (mg : Str → Option Value) (base : Heap) (k : Nat) (f : Addr) (fd : FuncData) (ps : List Str) (sp : SpD) : Prop where
  len : ∀ ds G Q E, sp ds G Q E → ds.length = ps.length
  run : ∀ (A : Around) (outer : List Env) (s : Shared) (H : Hp) (args : Args) (us : List Value) (vs : List V) (Q : VK) (E : XK), A.guards = some [] → Room k A → Env0 P w K mg base A outer s H → BindsTo s fd args (ps.zip us) → Vals vs us → lsp K sp vs H Q E →
    codeAny (model P w) A (.call (.ref f) args) (CR (L2N.CX P w) outer P w H s Q E) s
theorem FnN.g {P w K mg base k f fd ps sp} (F : FnN P w K mg base k f fd ps sp) : FnG P w K mg base k f fd ps sp :=
  ⟨F.len, fun A outer s H args us vs Q E hg hr he hb hv h => codeAny_mono (F.run A outer s H args us vs Q E hg hr he hb hv h) fun r s' z => by
    cases r with
    | error e => exact cx_of_n z
    | ok fl => cases fl <;> exact z⟩
theorem FnN.mono {P w K mg base j k f fd ps sp} (F : FnN P w K mg base j f fd ps sp) (h : j ≤ k) : FnN P w K mg base k f fd ps sp :=
  ⟨F.len, fun A outer s H args us vs Q E hg hr => F.run A outer s H args us vs Q E hg (hr.mono h)⟩
theorem FnN.llen {P w K mg base k f fd ps sp} (F : FnN P w K mg base k f fd ps sp) {vs H Q E} (h : lsp K sp vs H Q E) : vs.length = ps.length := F.g.llen h
section
variable {P : Program} {w : World} {K : Frag} {mg : Str → Option Value} {base : Heap}
theorem FunG.okN {x qual : Str} {st : Stmt} {f : Addr} {fd : FuncData} {N ps : List Str} {k : Nat} {sp : SpD} (F : Fun K x qual st f fd) (S : FnScope N ps (defScope st)) (len : ∀ ds G Q E, sp ds G Q E → ds.length = ps.length)
    (hbody : ∀ (cdv : Value) (A : Around) (outer : List Env) (s : Shared) (H : Hp) (E : XK), A.guards = some [] → Room k (A.deeper (envOfC qual (defScope st) s.heap.objs.size f cdv)) →
      ∃ t, DSs (cxOf (L2N.CX P w) P w K mg base N qual (defScope st) f cdv A outer s H E) (WD E) (defBody st) t ∧
        ∀ ds G Q EX, sp ds G Q EX → t { nx := fun _ G' => Q .non G', rt := Q, ex := fun x _ G' => EX x G' } (startD N ds) G) : FnN P w K mg base (k + 1) f fd ps sp := by
  obtain ⟨oc, od, kV, doc, pm, an, cdv, ct, osl, rfl, lk, hcd⟩ := F.ex
  refine ⟨len, fun A outer s H args us vs Q E hgd hr e0 hb r hsp => ?_⟩
  obtain ⟨ds, G, QD, EX, hR, hrp, hq, hct, hex⟩ := hsp
  have inK : K.In s.heap := e0.mod.kin.keeps fun b o q => (e0.bs b o q).1
  have nolim : s.heap.NoLimit := e0.mod.nolimit.keeps fun b o q => (e0.bs b o q).1
  have hvl : vs.length = ps.length := by rw [← hrp.length]; exact len _ _ _ _ hq
  have kinds : ∀ y ∈ ps.zip us, (defScope st).names.lookup y.1 = some .local ∨ ((defScope st).names.lookup y.1 = some .cell ∧ ((cellsFrom (s.heap.objs.size + 1) (defScope st).names []).lookup y.1).isSome = true) := by
    rintro ⟨n, v⟩ hy
    rcases S.par n (List.of_mem_zip hy).1 with q | q
    · exact .inl q
    · exact .inr ⟨q, PySem.W.cellsFrom_some _ _ _ (.inl q)⟩
  refine codeAny_call_function hr.depth (inK _ _ lk) rfl S.co S.gen rfl (PySem.W.codeRec_of inK hcd) (hb _ _ _ _ ?_)
  refine wpAny_newFunctionEnv_cells S.kind kinds fun env henv s1 xc => ?_
  subst henv
  refine ⟨nolim.keeps xc.toInCall.keep, codeAny_func ?_⟩
  obtain ⟨t, ht, hv⟩ := hbody cdv A outer s H E hgd (hr.deeper _)
  have I0 := inv_start (CX := L2N.CX P w) (E := E) S hr.hd e0 hvl r xc
  refine wpAny_mono (ht.run [] s1 (L2.start N vs) H { nx := fun _ H' => Q .non H', rt := Q } I0 ?_) (fun fl s' hs => ?_) fun e s' hs => hs
  · refine ⟨startD N ds, G, _, hR, SRp.start hrp, hv ds G QD EX hq, ⟨fun _ H' _ G' s r _ z => hct _ _ _ _ s r .non z, hct, fun _ _ _ _ _ _ _ z => z.elim, fun _ _ _ _ _ _ _ z => z.elim, fun x cls d _ _ H' G' s r _ p z => hex x cls d H' G' s r p z⟩⟩
  · cases fl with
    | ret u =>
      obtain ⟨v, σ', H', J, rv, q⟩ := hs
      exact ⟨v, H', J.os, J.bare, J.base, J.hok, rv, q⟩
    | next =>
      obtain ⟨σ', H', J, q⟩ := hs
      exact ⟨V.non, H', J.os, J.bare, J.base, J.hok, rfl, q⟩
    | brk => exact hs.elim fun _ ⟨_, _, z⟩ => z.elim
    | cont => exact hs.elim fun _ ⟨_, _, z⟩ => z.elim
end
section
variable {X : Cx} {W : WX} {k : Nat} {f : Addr} {fd : FuncData} {ps : List Str} {x : Str} {p pos : Pos} {sp : SpD} {e : Expr} {es : List Expr} {t : TAD}
theorem run_anyN {pins : List (Addr × Obj)} {σ : L2.St} {H : Hp} {s : Shared} {Q : VK} {us : List Value} {vs : List V} {args : Args} (F : FnN X.prog X.w X.K X.mg X.base k f fd ps sp) (hg : X.A.guards = some []) (hr : Room k X.A) (tk : L2N.Takes X W)
    (I : Inv X pins σ H s) (hb : BindsTo s fd args (ps.zip us)) (r : Vals vs us) (h : lsp X.K sp vs H Q (WE W σ)) : codeAny (model X.prog X.w) X.A (.call (.ref f) args) (fun r s' => match r with | .ok (.ret u) => EP X pins σ Q u s' | .ok _ => False | .error e => X.xe e s') s := by
  refine codeAny_mono (F.run X.A X.stack s H args us vs Q (WE W σ) hg hr I.env0 hb r h) fun r s' hq => ?_
  cases r with
  | error e => exact L2N.passAt tk σ pins H s e s' I hq
  | ok fl =>
    cases fl with
    | ret u => exact I.after hq
    | next => exact False.elim hq
    | brk => exact False.elim hq
    | cont => exact False.elim hq
theorem run_callN {pins : List (Addr × Obj)} {σ : L2.St} {H : Hp} {s : Shared} {Q : VK} {us : List Value} {vs : List V} (F : FnN X.prog X.w X.K X.mg X.base k f fd ps sp) (hg : X.A.guards = some []) (hr : Room k X.A) (hb : Binds X.K fd ps []) (tk : L2N.Takes X W)
    (I : Inv X pins σ H s) (r : Vals vs us) (h : lsp X.K sp vs H Q (WE W σ)) : wpAny (model X.prog X.w) X.A (call (.ref f) us) (EP X pins σ Q) X.xe s := by
  have hl : us.length = ps.length := by rw [← r.length]; exact F.llen h
  have b := hb s us I.kIn (by rw [List.append_nil]; exact hl)
  rw [List.append_nil] at b
  refine wpAny_call (codeAny_mono (run_anyN F hg hr tk I b r h) fun r s' hq => ?_)
  cases r with
  | error e => exact hq
  | ok fl =>
    cases fl with
    | ret u => exact hq
    | next => exact False.elim hq
    | brk => exact False.elim hq
    | cont => exact False.elim hq
theorem de_callN (F : FnN X.prog X.w X.K X.mg X.base k f fd ps sp) (hgd : X.A.guards = some []) (hr : Room k X.A) (hg : Gl X x) (hm : X.mg x = some (.ref f)) (hk : PySem.W.keepIn X.K (.ref f) = true) (hb : Binds X.K fd ps []) (tk : L2N.Takes X W)
    (ha : DA X W (e :: es) t) (hdb : (x == ("__debug__" : Str)) = false := by decide) (he : starEach (e :: es) X.env = (false, eval e X.env) :: starEach es X.env := by rfl) (hpl : (backTo pos (starEach es X.env)).any (·.1) = false := by rfl) :
    DE X W (.Call (.Name x p) (e :: es) [] pos) (dCall sp t) := by
  refine PE.imp (t := tCallS (lsp X.K sp) (WE W) (lftA X.K W t)) ⟨fun pins s σ H Q I h => ?_⟩ fun _ _ _ => lft_call
  refine wpAny_Call_Name_kw (ld_glob I hg hm ?_ hdb)
  have ha' : PA X (e :: es) (lftA X.K W t) := ha
  exact PySem.W.callWith_K (h₀ := X.base) I.ok.mod.kin hk (thn (ha'.run pos pins s σ H _ I h) fun us s1 ⟨vs, H1, I1, r, q⟩ => ⟨I1.kIn, run_callN F hgd hr hb tk I1 r q⟩) he hpl
/-! ### quiet calls: of a def that lets no exception out -/
abbrev EF : ED := fun _ _ => False
theorem run_quiet {pins : List (Addr × Obj)} {σ : L2.St} {H : Hp} {s : Shared} {Q : VK} {us : List Value} {vs : List V} (F : FnG X.prog X.w X.K X.mg X.base k f fd ps sp) (hg : X.A.guards = some []) (hr : Room k X.A) (hb : Binds X.K fd ps [])
    (I : Inv X pins σ H s) (r : Vals vs us) (h : lsp X.K sp vs H Q (fun _ _ _ => False)) : wpAny (model X.prog X.w) X.A (call (.ref f) us) (EP X pins σ Q) X.xe s := by
  have hl : us.length = ps.length := by rw [← r.length]; exact F.llen h
  have b := hb s us I.kIn (by rw [List.append_nil]; exact hl)
  rw [List.append_nil] at b
  refine wpAny_call (codeAny_mono (F.run X.A X.stack s H _ us vs Q (fun _ _ _ => False) hg hr I.env0 b r h) fun r s' hq => ?_)
  cases r with
  | error e =>
    obtain ⟨_, _, _, _, _, _, _, _, _, _, _, _, z⟩ := hq
    exact z.elim
  | ok fl =>
    cases fl with
    | ret u => exact I.after hq
    | next => exact False.elim hq
    | brk => exact False.elim hq
    | cont => exact False.elim hq
def dCallQ (sp : SpD) (t : TAD) : TED := fun σ G Q E => t σ G (fun ds G1 => sp ds G1 Q EF) E
theorem de_callQ (F : FnG X.prog X.w X.K X.mg X.base k f fd ps sp) (hgd : X.A.guards = some []) (hr : Room k X.A) (hg : Gl X x) (hm : X.mg x = some (.ref f)) (hk : PySem.W.keepIn X.K (.ref f) = true) (hb : Binds X.K fd ps [])
    (ha : DA X W (e :: es) t) (hdb : (x == ("__debug__" : Str)) = false := by decide) (he : starEach (e :: es) X.env = (false, eval e X.env) :: starEach es X.env := by rfl) (hpl : (backTo pos (starEach es X.env)).any (·.1) = false := by rfl) :
    DE X W (.Call (.Name x p) (e :: es) [] pos) (dCallQ sp t) := by
  have ha' : PA X (e :: es) (lftA X.K W t) := ha
  refine ⟨fun pins s σ H Q I ⟨σD, G, QD, E, hR, hS, q, hq, hE⟩ => ?_⟩
  refine wpAny_Call_Name_kw (ld_glob I hg hm ?_ hdb)
  refine PySem.W.callWith_K (h₀ := X.base) I.ok.mod.kin hk (thn (ha'.run pos pins s σ H (fun vs H1 => lsp X.K sp vs H1 Q (fun _ _ _ => False)) I ⟨σD, G, _, E, hR, hS, q, fun vs H1 ds G1 s1 r1 p1 q1 => ?_, hE⟩) fun us s1 ⟨vs, H1, I1, r, z⟩ => ⟨I1.kIn, run_quiet F hgd hr hb I1 r z⟩) he hpl
  exact ⟨ds, G1, QD, EF, r1, p1, q1, hq.mono s1, fun _ _ _ _ _ _ _ _ z => z⟩
theorem st_callQ {σ : SD} {G : HH} {Q : QD} {E : ED} (h : t σ G (fun ds G1 => sp ds G1 Q EF) E) : dCallQ sp t σ G Q E := h
end
end DL

namespace DL
open PySem PySem.Spec PyProof.Rows L2
open PySem.W (Frag)
/-! ### raise, the exception without a context -/
section
variable {X : Cx} {W : WX} {e : Expr} {es : List Expr} {pos pos' : Pos}
theorem pmk_oexN {CX : CXT} {x : Str} {p : Pos} {ta : TA} {C fI : Addr} {k : Nat} {fd : FuncData} {ps : List Str} {sp : Sp} (T : OexC X.K C) (iC : PySem.W.findIn X.K (.ref C) "__init__" = some (some (.ref fI))) (tI : PySem.W.typeIn X.K (.ref fI) = some (.type "function"))
    (F1 : FnOk X.prog X.w X.K X.mg X.base CX k fI fd ps sp) (hr : Room (k + 1) X.A) (hb : Binds X.K fd ps []) (hx : Passes CX X (fun _ _ _ => False)) (hg : Gl X x) (hm : X.mg x = some (.ref C)) (ha : PA X (e :: es) ta)
    (hdb : (x == ("__debug__" : Str)) = false := by decide) (he : starEach (e :: es) X.env = (false, eval e X.env) :: starEach es X.env := by rfl) (hpl : (backTo pos (starEach es X.env)).any (·.1) = false := by rfl) :
    L2N.PMk X (.Call (.Name x p) (e :: es) [] pos) (tMkO C sp [] ta) := by
  intro pins s σ H Q I h
  obtain ⟨nm, q, N, bs, bm, sn, sub, ab, col, dd, k0, k1, k2, k3, k5, hC, hbm⟩ := T.cls
  refine wpAny_Call_Name_kw (ld_glob I hg hm ?_ hdb)
  refine PySem.W.callWith_K (h₀ := X.base) I.ok.mod.kin T.kC (thn (ha.run pos pins s σ H _ I h) fun us s1 ⟨vs, H1, I1, r1, hz, q1⟩ => ⟨I1.kIn, ?_⟩) he hpl
  show wpAny _ _ (call (.ref C) us) _ _ _
  obtain ⟨hp, g, dr, tk, os⟩ := s1
  have hsz : hp.objs.size ≤ hp.objs.size + 1 := Nat.le_succ _
  have hn : H1 (hp.objs.size + 1) = none := I1.hok.fresh hsz
  have hq := q1 (hp.objs.size + 1) hn
  rw [List.append_nil] at hq
  have kk : ∀ b o, hp.get? b = some o → ((hp.push (PySem.W.kdv_tup us)).push (PySem.HandSPX.excO C hp.objs.size)).get? b = some o := fun b o e => Heap.get?_push_of_some _ (Heap.get?_push_of_some _ e)
  have hget : ((hp.push (PySem.W.kdv_tup us)).push (PySem.HandSPX.excO C hp.objs.size)).get? (hp.objs.size + 1) = some (PySem.HandSPX.excO C hp.objs.size) := by heap_get
  have I2 : Inv X pins σ (upd H1 (hp.objs.size + 1) (exo (hp.objs.size + 1) C none)) ⟨(hp.push (PySem.W.kdv_tup us)).push (PySem.HandSPX.excO C hp.objs.size), g, dr, tk, os⟩ :=
    I1.laid (t' := tk) (a := hp.objs.size + 1) (o := exo (hp.objs.size + 1) C none) (h' := (hp.push (PySem.W.kdv_tup us)).push (PySem.HandSPX.excO C hp.objs.size)) kk hsz (exo_ok hget)
  have r2 : Vals (V.ref (hp.objs.size + 1) :: vs) (Value.ref (hp.objs.size + 1) :: us) := .cons rfl r1
  have hl : (Value.ref (hp.objs.size + 1) :: us ++ []).length = ps.length := by
    have e := r2.length
    rw [F1.len _ _ _ _ hq] at e
    rw [List.append_nil]
    exact e.symm
  have hus : us.length ≤ sizeLine := by
    rw [← Paired.length r1, sizeLine_eq]
    omega
  have b2 := hb _ (Value.ref (hp.objs.size + 1) :: us) I2.kIn hl
  rw [List.append_nil] at b2
  refine wpAny_call (PySem.HandSPX.call_own F.excBase_ValueError (fun Y => PySem.HandSPX.refsVE_contains Y bm hbm) (I1.kIn _ _ hC) (PySem.W.looks_findIn I1.kIn iC) (fun self => PySem.W.bind_fn I1.kIn self tI) hus
    (codeAny_mono (F1.run _ X.stack _ _ ⟨Value.ref (hp.objs.size + 1) :: us, []⟩ (Value.ref (hp.objs.size + 1) :: us) _ _ (fun _ _ _ => False) (hr.make C us []) (I2.env0.make C us []) b2 r2 hq) fun r s' hq' => ?_))
  cases r with
  | error er => exact hx pins σ _ _ er s' I2 hq'
  | ok fl =>
    cases fl with
    | ret u =>
      obtain ⟨v, H2, os2, bare2, un2, hok2, rv, ev, d, fs, ea, ed, hd1, q2⟩ := hq'
      subst ev
      obtain ⟨h2, g2, d2, t2, os'⟩ := s'
      obtain ⟨t0, G, J, kG, ge, hoe, na⟩ := mk_end0 (d2 := d2) (t2 := t2) I1 hsz kk un2 hok2 os2 bare2 ea ed hd1
      refine ⟨rv, ⟨hp.objs.size + 1, _, _, ⟨G, g2, d2, t2, os'⟩, _, .ref C, some d, rfl, J, kG, ge, hoe, ⟨rfl, rfl, fun vs hv => ?_⟩, rfl, rfl, na, rfl, bare2, raises_own T.exC T.tyC, q2⟩⟩
      cases hv
      rfl
    | next => exact False.elim hq'
    | brk => exact False.elim hq'
    | cont => exact False.elim hq'
end
section
variable {X : Cx} {W : WX} {e : Expr} {es : List Expr} {pos pos' : Pos} {t : TAD} {k : Nat} {C fI : Addr} {fd : FuncData} {ps : List Str} {c x : Str} {p : Pos} {fns : List Str}
/-- what raise of an own class leaves, by the made exception -/
theorem lft_raise {K : Frag} {σ : L2.St} {H : Hp} {D : Ends} (hC : gaddr K c = some C) (hn : fns.length ≤ 1000) (h : lftS K W (dRaise c fns t) D σ H) : tMkO C (spExc C fns) [] (lftA K W t) σ H fun cls d H' => W cls d σ H' := by
  obtain ⟨σD, G, DD, hR, hS, q, hE⟩ := h
  refine ⟨σD, G, _, _, hR, hS, q, fun vs H1 ds G1 s1 r1 p1 ⟨hl, z⟩ => ?_, hE.ex.at hS⟩
  refine ⟨by rw [← p1.length]; omega, fun a ha => ⟨a, vs ++ [], rfl, by rw [List.append_nil, ← p1.length]; exact hl, upd_same, fun dx hdx hne => ⟨rfl, dx, _, upd_same, by rw [upd_ne hne]; exact upd_same, by rw [← hdx, upd_ne hne], ?_⟩⟩⟩
  rw [List.append_nil]
  have hd1 : H1 dx = none := by rw [← hdx, upd_ne hne]
  have e : upd (del (upd (upd (upd H1 a (exo a C none)) dx (exd dx (fns.reverse.zip vs.reverse))) a (exo a C (some dx))) a) dx (.xd (fns.reverse.zip vs.reverse)) = upd H1 dx (.xd (fns.reverse.zip vs.reverse)) := by
    funext b
    by_cases hb : b = dx
    · subst hb; rw [upd_same, upd_same]
    · rw [upd_ne hb, upd_ne hb]
      by_cases hba : b = a
      · subst hba; rw [del_same, ha]
      · rw [del_ne hba, upd_ne hba, upd_ne hb, upd_ne hba]
  rw [e]
  have s2 := Stp.new (G := G1) (o := .xd (fns.reverse.zip vs.reverse)) hd1
  exact hE.ex ⟨.own c, fns.reverse, ds.reverse⟩ _ _ _ σD _ G1 (s1.trans s2) (r1.new hd1) (hS.mono (s1.trans s2)) ⟨⟨C, hC, rfl⟩, vs.reverse, upd_same, r1.free hd1, by rw [List.length_reverse, List.length_reverse, ← p1.length]; exact hl.symm, (p1.mono s2).reverse⟩ z
theorem ds_raiseN (hc : X.calm = true) (tk : L2N.Takes X W) (hC : gaddr X.K c = some C) (T : OexC X.K C) (iC : PySem.W.findIn X.K (.ref C) "__init__" = some (some (.ref fI))) (tI : PySem.W.typeIn X.K (.ref fI) = some (.type "function"))
    (F1 : FnOk X.prog X.w X.K X.mg X.base CX0 k fI fd ps (spExc C fns)) (hr : Room (k + 1) X.A) (hb : Binds X.K fd ps []) (hg : Gl X x) (hm : X.mg x = some (.ref C)) (hn : fns.length ≤ 1000) (ha : DA X W (e :: es) t)
    (hdb : (x == ("__debug__" : Str)) = false := by decide) (he : starEach (e :: es) X.env = (false, eval e X.env) :: starEach es X.env := by rfl) (hpl : (backTo pos' (starEach es X.env)).any (·.1) = false := by rfl) :
    DS X W (.Raise (some (.Call (.Name x p) (e :: es) [] pos')) none pos) (dRaise c fns t) :=
  PS.imp (L2N.ps_raise hc tk (pmk_oexN (pos := pos') T iC tI F1 hr hb (fun _ _ _ _ _ _ _ z => z.elim) hg hm ha hdb he hpl)) fun D σ H h => lft_raise hC hn h
/-! ### an except suite that raises -/
theorem ds_raiseHN {j : Nat} {cpos : Pos} (hc : L2H.HotC X) (tk : L2.Takes X W) (hC : gaddr X.K c = some C) (T : OexC X.K C) (iC : PySem.W.findIn X.K (.ref C) "__init__" = some (some (.ref fI))) (tI : PySem.W.typeIn X.K (.ref fI) = some (.type "function"))
    (F1 : L2H.FnH X.prog X.w X.K X.mg X.base CX0 k fI fd ps (spExc C fns)) (hr : L2H.RoomH (k + 1) X.A) (hb : Binds X.K fd ps []) (hg : Gl X x) (hm : X.mg x = some (.ref C)) (hn : fns.length ≤ 1000) (ha : DA X W (e :: es) t)
    (hdb : (x == ("__debug__" : Str)) = false := by decide) (he : starEach (e :: es) X.env = (false, eval e X.env) :: starEach es X.env := by rfl) (hpl : (backTo pos' (starEach es X.env)).any (·.1) = false := by rfl) :
    DS X W (.Raise (some (.Call (.Name x p) (e :: es) [] pos')) (some (.Constant .none j cpos)) pos) (dRaise c fns t) :=
  PS.imp (L2H.ps_raiseHN hc tk (L2H.pmk5_oexH (pos := pos') T iC tI F1 hr hc hb (fun _ _ _ _ _ _ _ z => z.elim) hg hm ha hdb he hpl)) fun D σ H h => lft_raise hC hn h
def dTryX (tbl : List (Str × Bool)) (tb : TSD) (ts : Str → Addr → Option Addr → TSD) : TSD := fun D σ G =>
  tb { D with ex := fun x σ' G' => ∃ n b, x.cls = .own n ∧ (n, b) ∈ tbl ∧ (b = true → ∀ a d, (d = none → x.ns = []) → ts n a d D σ' G') ∧ (b = false → D.ex x σ' G') } σ G
end
section
variable {X : Cx} {W : WX} {x nm : Str} {C : Addr} {i : Nat} {body suite : List Stmt} {b₀ : Stmt} {np pos pos' : Pos} {tb : TSD} {ts : Str → Addr → Option Addr → TSD} {tbl : List (Str × Bool)}
theorem ds_tryX (hg : Gl X x) (hm : X.mg x = some (.ref C)) (tk : L2.Takes X W) (hT : ExTab X.K C tbl) (hpa : ∀ hd : Option Value, PassesOwnAt (model X.prog X.w) (X.A.mark hd) X.A X.env X.xe)
    (hb : ∀ (W' : WX) (pn : List (Addr × Obj)) (xe : Value → Shared → Prop), L2N.Takes (X.tr pn xe) W' → PassesOwn (model X.prog X.w) X.A X.env xe → DSs (X.tr pn xe) W' body tb)
    (hsu : ∀ (n : Str) (C' : Addr), gaddr X.K n = some C' → ∀ (a : Addr) (oe : Obj) (d : Option Addr) (pn : List (Addr × Obj)), Zc (.ref C') d oe → (∃ vs, oe.data = .fields vs) → L2.Takes (L2H.suiteX X a ((a, oe) :: pn)) W → L2H.HotC (L2H.suiteX X a ((a, oe) :: pn)) → DSs (L2H.suiteX X a ((a, oe) :: pn)) W (b₀ :: suite) (ts n a d))
    (hdb : (x == ("__debug__" : Str)) = false := by decide) (hs : X.stack = X.env :: X.outer := by rfl) (hf : X.env.frame = some X.env.locals := by rfl) :
    DS X W (.Try body [.ExceptHandler (some (.Name x np)) none (b₀ :: suite) pos'] [] [] pos) (dTryX tbl tb ts) :=
  PS.imp (L2H.ps_try_onlyX (tb := fun W' => lftS X.K W' tb) (ts := fun a cls d D σ H => ∃ n C, gaddr X.K n = some C ∧ cls = .ref C ∧ lftS X.K W (ts n a d) D σ H) (Wout := W) hs hf ⟨hg, hdb, .inl hm⟩ hpa tk (fun W' pn xe tk' _ po => hb W' pn xe tk' po) fun a oe cls d pn hz hv tkS hot => ⟨fun pins s σ H D I ⟨n, C', hC, e, h⟩ => (hsu n C' hC a oe d pn (by rw [← e]; exact hz.zc) hv tkS hot).run pins s σ H D I h⟩)
    fun D σ H ⟨σD, G, DD, hR, hS, q, he⟩ => ⟨σD, G, _, hR, hS, q, ⟨he.nx, he.rt, he.bk, he.ct, fun y cls d σ' σD' H' G' s r p xr ⟨n, b, en, hm', h1, h2⟩ => by
      have xr0 := xr
      obtain ⟨hc, _⟩ := xr
      rw [en] at hc
      obtain ⟨C', hC, rfl⟩ := hc
      refine ⟨b, hT _ hm' C' hC, fun hb' a ha => ⟨n, C', hC, rfl, σD', G', _, r, p, h1 hb' a d (fun e => by subst e; exact xr0.2.1), ⟨he.nx.mono s, he.rt.mono s, he.bk.mono s, he.ct.mono s, he.ex.mono s⟩⟩, fun hb' => he.ex _ _ _ _ _ _ _ s r p xr0 (h2 hb')⟩⟩⟩
end
end DL

namespace DL
open PySem PySem.Spec PyProof.Rows L2
open PySem.W (Frag)
/-! ### quiet calls of values -/
section
variable {X : Cx} {W : WX} {fe e o : Expr} {es : List Expr} {tf to : TED} {t : TAD} {pos apos : Pos}
theorem run_anyQ {pins : List (Addr × Obj)} {σ : L2.St} {H : Hp} {s : Shared} {Q : VK} {us : List Value} {vs : List V} {args : Args} {k : Nat} {f : Addr} {fd : FuncData} {ps : List Str} {sp : SpD} (F : FnG X.prog X.w X.K X.mg X.base k f fd ps sp) (hg : X.A.guards = some []) (hr : Room k X.A)
    (I : Inv X pins σ H s) (hb : BindsTo s fd args (ps.zip us)) (r : Vals vs us) (h : lsp X.K sp vs H Q (fun _ _ _ => False)) : codeAny (model X.prog X.w) X.A (.call (.ref f) args) (fun r s' => match r with | .ok (.ret u) => EP X pins σ Q u s' | .ok _ => False | .error e => X.xe e s') s := by
  refine codeAny_mono (F.run X.A X.stack s H args us vs Q (fun _ _ _ => False) hg hr I.env0 hb r h) fun r s' hq => ?_
  cases r with
  | error e =>
    obtain ⟨_, _, _, _, _, _, _, _, _, _, _, _, z⟩ := hq
    exact z.elim
  | ok fl =>
    cases fl with
    | ret u => exact I.after hq
    | next => exact False.elim hq
    | brk => exact False.elim hq
    | cont => exact False.elim hq
def dCallVQ (tbo tbf : List (Str × SpD)) (tf : TED) (t : TAD) : TED := fun σ G Q E => tf σ G (fun x G1 => (∃ c sp ns ds, InsD G1 x c ns ds ∧ (c, sp) ∈ tbo ∧ t σ G1 (fun as G2 => (∃ ns ds, InsD G2 x c ns ds) ∧ sp (x :: as) G2 Q EF) E) ∨ ∃ c sp, x = .gv c ∧ (c, sp) ∈ tbf ∧ t σ G1 (fun as G2 => sp as G2 Q EF) E) E
theorem de_callVQ {k : Nat} {tbo tbf : List (Str × SpD)} (ho : CTab X k tbo) (hf : FTab X k tbf) (hgd : X.A.guards = some []) (hr : Room k X.A) (hfe : DE X W fe tf) (ha : DA X W (e :: es) t)
    (ht : eval (.Call fe (e :: es) [] pos) X.env = (do callWith pos (← eval fe X.env) [] (backTo pos (starEach (e :: es) X.env)) (backToKw pos (keywordEach [] X.env))) := by rfl)
    (he : starEach (e :: es) X.env = (false, eval e X.env) :: starEach es X.env := by rfl) (hpl : (backTo pos (starEach es X.env)).any (·.1) = false := by rfl) : DE X W (.Call fe (e :: es) [] pos) (dCallVQ tbo tbf tf t) := by
  have ha' : PA X (e :: es) (lftA X.K W t) := ha
  have hf' : PE X fe (lft X.K W tf) := hfe
  refine ⟨fun pins s σ H Q I ⟨σD, G, QD, E, hR, hS, q, hq, hE⟩ => ?_⟩
  refine Call_ (thn (hf'.run pins s σ H (fun v H1 => ∃ d G1, Stp H G H1 G1 ∧ RelH X.K H1 G1 ∧ Rp X.K H1 G1 d v ∧ ((∃ c sp ns ds, InsD G1 d c ns ds ∧ (c, sp) ∈ tbo ∧ t σD G1 (fun as G2 => (∃ ns ds, InsD G2 d c ns ds) ∧ sp (d :: as) G2 QD EF) E) ∨ ∃ c sp, d = .gv c ∧ (c, sp) ∈ tbf ∧ t σD G1 (fun as G2 => sp as G2 QD EF) E)) I ⟨σD, G, _, E, hR, hS, q, fun v H1 d G1 s1 r1 p1 z => ⟨d, G1, s1, r1, p1, z⟩, hE⟩) fun u s1 ⟨x, H1, I1, rx, d, G1, s1', r1, p1, z⟩ => ?_) ht
  rcases z with ⟨c, sp, ns0, ds0, hi0, hm, q1⟩ | ⟨c, sp, rfl, hm, q1⟩
  · obtain ⟨C, g, fd, ps, hC, co, F, hb⟩ := ho _ hm
    obtain ⟨a, _, _, _, ex, _, _, _, _⟩ := hi0.of r1 p1
    subst ex
    obtain rfl : u = Value.ref a := rx
    refine StX.callO_with (thn (ha'.run pos pins s1 σ H1 (fun vs H2 => (∃ dx fs, H2 a = some (.ins C dx fs)) ∧ lsp X.K sp (.ref a :: vs) H2 Q (fun _ _ _ => False)) I1 ⟨σD, G1, _, E, r1, hS.mono s1', q1, fun vs H2 as G2 s2 r2 p2 ⟨⟨ns, ds, hi⟩, q2⟩ => ?_, hE.mono s1'⟩) fun us s2 ⟨vs, H2, I2, r, ⟨dx2, fs2, hi2⟩, q2⟩ => ?_) he hpl
    · have p3 := p1.mono s2
      obtain ⟨b, C', dx, xs, ex, h1, h2, h3, h4⟩ := hi.of r2 p3
      cases ex
      have hCC : C' = C := by rw [hC] at h1; exact (Option.some.inj h1).symm
      subst hCC
      exact ⟨⟨_, _, h2⟩, d :: as, G2, QD, EF, r2, .cons p3 p2, q2, hq.mono (s1'.trans s2), fun _ _ _ _ _ _ _ _ z => z⟩
    · obtain ⟨ox, od, J, hd⟩ := StX.insC_at I2 (Or.inr ⟨_, _, hi2⟩)
      refine ⟨⟨C, ox, od, J, hd⟩, ?_⟩
      have rv : Vals (V.ref a :: vs) (Value.ref a :: us) := .cons (vref a) r
      have hl : (Value.ref a :: us).length = ps.length := by rw [← rv.length]; exact F.llen q2
      have b := hb s2 (Value.ref a :: us) I2.kIn (by rw [List.append_nil]; exact hl)
      rw [List.append_nil] at b
      refine wpAny_call (PySem.W.kco_code I2.kIn J hd co.at_ co.fn co.fi (codeAny_mono (run_anyQ F hgd hr I2 b rv q2) fun r s' hq' => ?_))
      cases r with
      | error e => exact hq'
      | ok fl =>
        cases fl with
        | ret u => exact hq'
        | next => exact False.elim hq'
        | brk => exact False.elim hq'
        | cont => exact False.elim hq'
  · obtain ⟨f, fd, ps, hC, hk, F, hb⟩ := hf _ hm
    cases p1 with
    | gv e1 =>
      rename_i a
      have hCC : a = f := by rw [show gaddr X.K c = some f from hC] at e1; exact (Option.some.inj e1).symm
      subst hCC
      obtain rfl : u = Value.ref a := rx
      refine PySem.W.callWith_K (first := []) (h₀ := X.base) I.ok.mod.kin hk (thn (ha'.run pos pins s1 σ H1 (fun vs H2 => lsp X.K sp vs H2 Q (fun _ _ _ => False)) I1 ⟨σD, G1, _, E, r1, hS.mono s1', q1, fun vs H2 as G2 s2 r2 p2 q2 => ?_, hE.mono s1'⟩) fun us s2 ⟨vs, H2, I2, r, q2⟩ => ⟨I2.kIn, ?_⟩) he hpl
      · exact ⟨as, G2, QD, EF, r2, p2, q2, hq.mono (s1'.trans s2), fun _ _ _ _ _ _ _ _ z => z⟩
      · exact run_quiet F hgd hr hb I2 r q2
theorem st_callVQ {σ : SD} {G : HH} {Q : QD} {E : ED} {tbo tbf : List (Str × SpD)} (h : tf σ G (fun x G1 => (∃ c sp ns ds, InsD G1 x c ns ds ∧ (c, sp) ∈ tbo ∧ t σ G1 (fun as G2 => (∃ ns ds, InsD G2 x c ns ds) ∧ sp (x :: as) G2 Q EF) E) ∨ ∃ c sp, x = .gv c ∧ (c, sp) ∈ tbf ∧ t σ G1 (fun as G2 => sp as G2 Q EF) E) E) : dCallVQ tbo tbf tf t σ G Q E := h
end
theorem st_callVqQ {c : Str} {ns : List Str} {ds : List D} {G : HH} {Q : QD} {E : ED} {σ : SD} {t : TAD} {tbo : List (Str × SpD)} {P : Prop} (sp : SpD) (hm : (c, sp) ∈ tbo) (h : t σ G (fun as G2 => (∃ ns2 ds2, InsD G2 (.obj c ns ds) c ns2 ds2) ∧ sp (.obj c ns ds :: as) G2 Q EF) E) : (∃ c' sp ns' ds', InsD G (.obj c ns ds) c' ns' ds' ∧ (c', sp) ∈ tbo ∧ t σ G (fun as G2 => (∃ ns2 ds2, InsD G2 (.obj c ns ds) c' ns2 ds2) ∧ sp (.obj c ns ds :: as) G2 Q EF) E) ∨ P := .inl ⟨c, sp, ns, ds, .obj c ns ds, hm, h⟩
/-! ### __init__ of errors while another one is handled -/
section
variable {P : Program} {w : World} {K : Frag} {mg : Str → Option Value} {base : Heap}
theorem fn_exc1H {C : Addr} {qual p f : Str} {st : Stmt} {fI : Addr} {fd : FuncData} (T : OexC K C) (no : PySem.W.findIn K (.ref C) f = some none) (F : Fun K "__init__" qual st fI fd) (S : FnScope ["self", p] ["self", p] (defScope st))
    (hd : (p == ("__debug__" : Str)) = false) (hcd : (p == ("__classdict__" : Str)) = false) (hl : (defScope st).names.lookup p = some .local) (hs : (defScope st).names.lookup ("self" : Str) = some .local)
    (hb : ∃ q1 q2 q3 q4, defBody st = [.Assign [.Attribute (.Name "self" q1) f q2] (.Name p q3) q4]) :
    L2H.FnH P w K mg base CX0 1 fI fd ["self", p] (spExc C [f]) := by
  obtain ⟨q1, q2, q3, q4, hb⟩ := hb
  obtain ⟨oc, od, kV, doc, pm, an, cdv, ct, osl, rfl, lk, hcode⟩ := F.ex
  refine L2H.fn_ofH (k := 0) lk hcode S ?_ fun A outer s H vs Q E p0 hot hr hsp => ?_
  · rintro vs H Q E ⟨a, ws, rfl, h1, _⟩
    simpa using h1
  obtain ⟨a, ws, rfl, h1, h2, hq⟩ := hsp
  obtain ⟨v, rfl⟩ : ∃ v, ws = [v] := by
    cases ws with
    | nil => simp at h1
    | cons v r => cases r with
      | nil => exact ⟨v, rfl⟩
      | cons _ _ => simp at h1
  refine ⟨_, by rw [hb]; exact pss_one (ps_ost (pe_var (i := 0) rfl (Or.inl hs)) (pe_var (i := 1) rfl (Or.inl hl) hd hcd) (by rfl)), ?_⟩
  refine ⟨v, rfl, .ref a, rfl, a, C, rfl, T, no, .inl ⟨h2, fun dx hdx hne => hq dx hdx hne⟩⟩
theorem fn_exc2H {C : Addr} {qual p q f g : Str} {st : Stmt} {fI : Addr} {fd : FuncData} (T : OexC K C) (no : PySem.W.findIn K (.ref C) f = some none) (no2 : PySem.W.findIn K (.ref C) g = some none) (F : Fun K "__init__" qual st fI fd) (S : FnScope ["self", p, q] ["self", p, q] (defScope st))
    (hd : (p == ("__debug__" : Str)) = false) (hcd : (p == ("__classdict__" : Str)) = false) (hl : (defScope st).names.lookup p = some .local) (hs : (defScope st).names.lookup ("self" : Str) = some .local)
    (hd2 : (q == ("__debug__" : Str)) = false) (hcd2 : (q == ("__classdict__" : Str)) = false) (hl2 : (defScope st).names.lookup q = some .local)
    (hb : ∃ q1 q2 q3 q4 r1 r2 r3 r4, defBody st = [.Assign [.Attribute (.Name "self" q1) f q2] (.Name p q3) q4, .Assign [.Attribute (.Name "self" r1) g r2] (.Name q r3) r4]) :
    L2H.FnH P w K mg base CX0 1 fI fd ["self", p, q] (spExc C [f, g]) := by
  obtain ⟨q1, q2, q3, q4, r1, r2, r3, r4, hb⟩ := hb
  obtain ⟨oc, od, kV, doc, pm, an, cdv, ct, osl, rfl, lk, hcode⟩ := F.ex
  refine L2H.fn_ofH (k := 0) lk hcode S ?_ fun A outer s H vs Q E p0 hot hr hsp => ?_
  · rintro vs H Q E ⟨a, ws, rfl, h1, _⟩
    simpa using h1
  obtain ⟨a, ws, rfl, h1, h2, hq⟩ := hsp
  obtain ⟨v, v', rfl⟩ : ∃ v v', ws = [v, v'] := by
    cases ws with
    | nil => simp at h1
    | cons v r => cases r with
      | nil => simp at h1
      | cons v' r => cases r with
        | nil => exact ⟨v, v', rfl⟩
        | cons _ _ => simp at h1
  refine ⟨_, by rw [hb]; exact pss_cons (ps_ost (pe_var (i := 0) rfl (Or.inl hs)) (pe_var (i := 1) rfl (Or.inl hl) hd hcd) (by rfl)) (pss_one (ps_ost (pe_var (i := 0) rfl (Or.inl hs)) (pe_var (i := 2) rfl (Or.inl hl2) hd2 hcd2) (by rfl))), ?_⟩
  refine ⟨v, rfl, .ref a, rfl, a, C, rfl, T, no, .inl ⟨h2, fun dx hdx hne => ?_⟩⟩
  refine ⟨v', rfl, .ref a, rfl, a, C, rfl, T, no2, .inr ⟨dx, [(f, v)], upd_same, by rw [upd_ne hne]; exact upd_same, by simp, ?_⟩⟩
  have e : upd (upd (upd H dx (exd dx [(f, v)])) a (exo a C (some dx))) dx (exd dx ((g, v') :: [(f, v)])) = upd (upd H dx (exd dx ([f, g].reverse.zip [v, v'].reverse))) a (exo a C (some dx)) := by
    funext b
    by_cases hb : b = dx
    · subst hb; rw [upd_same, upd_ne hne, upd_same]; rfl
    · by_cases ha : b = a
      · subst ha; rw [upd_ne hb, upd_same, upd_same]
      · rw [upd_ne hb, upd_ne ha, upd_ne hb, upd_ne ha, upd_ne hb]
  show Q .non _
  rw [e]
  exact hq dx hdx hne
end
theorem st_tryX {tbl : List (Str × Bool)} {tb : TSD} {ts : Str → Addr → Option Addr → TSD} {nx bk ct : SD → HH → Prop} {rt : QD} {ex : XD → SD → HH → Prop} {σ : SD} {G : HH}
    (h : tb ⟨nx, rt, bk, ct, fun x σ' G' => ∃ n b, x.cls = .own n ∧ (n, b) ∈ tbl ∧ (b = true → ∀ a d, (d = none → x.ns = []) → ts n a d ⟨nx, rt, bk, ct, ex⟩ σ' G') ∧ (b = false → ex x σ' G')⟩ σ G) : dTryX tbl tb ts ⟨nx, rt, bk, ct, ex⟩ σ G := h
end DL

namespace DL
open PySem PySem.Spec PyProof.Rows L2
open PySem.W (Frag)
/-! ### powers of great numbers -/
section
variable {X : Cx}
def CPowB (i j : Int) : Prop := 0 ≤ j ∧ (Builtin.Int.intBits i : Int) * j ≤ 2 ^ 27
theorem op_powB : OpR X (binaryOp .Pow) (rI CPowB fun i j => .int (i ^ j.toNat)) := opI fun _ _ _ _ _ _ _ hc q => pow_int hc.1 hc.2 q
theorem oPowB : OpD X (binaryOp .Pow) (oI CPowB fun i j => .int (i ^ j.toNat)) := ⟨_, op_powB, sim_I fun i j _ _ => .int _⟩
end
abbrev aPowB := oI CPowB fun i j => .int (i ^ j.toNat)
theorem st_powB {x y : Int} {G : HH} {Q : QD} (h0 : 0 ≤ y) (h1 : (Builtin.Int.intBits x : Int) * y ≤ 2 ^ 27) (h : Q (.int (x ^ y.toNat)) G) : aPowB (.int x) (.int y) G Q := ⟨x, y, rfl, rfl, ⟨h0, h1⟩, h⟩
end DL

namespace DL
open PySem PySem.Spec PyProof.Rows L2
open PySem.W (Frag)
/-! ### == and != by an own __eq__ -/
section
variable {prog : Program} {w : World} {A : Around} {E : Value → Shared → Prop} {s : Shared} {K : Frag} {x C L f : Addr} {h₀ : Heap} {m : Str → Option Value} {ox : Obj} {od : Option Obj} {name : Str} {b tb : Value}
open PySem.W (InstAt findIn isFn mroIn notFirst looks_findIn looks_mroIn looks_subIn subIn Looks)
theorem ifBound_bi {M : Model} {args : List Value} {T : String} {name' : Str} {id : String} {Q : Option Value → Shared → Prop} (X : K.In s.heap) (I : InstAt s.heap x ox C od) (hs : findIn K (.ref C) name = some (some (.builtin id))) (S : Slot T name' id)
    (h : wpAny M A (call (.builtin id) (.ref x :: args)) (fun v => Q (some v)) E s) : wpAny M A (callSpecialIfBound? (.ref x) name args) Q E s := by
  simp only [callSpecialIfBound?, bindSpecialIfBound?]
  refine wpAny_holding (wpAny_bind (wpAny_bind (wpAny_bind (I.type.here ((looks_findIn X hs).here ?_)))))
  refine wpAny_bind (wpAny_askSetting (wpAny_ite ?_))
  have fin : wpAny M A (call (.builtin id) ([.ref x] ++ args) >>= fun v => pure (some v)) Q E s := wpAny_bind (wpAny_mono h (fun v s' h' => wpAny_pure h') fun _ _ h' => h')
  split
  · rw [S.bind]
    exact wpAny_bind (wpAny_pure (wpAny_pure (by exact fin)))
  · rw [S.bind]
    exact wpAny_tryCatch (wpAny_bind (wpAny_pure (wpAny_pure (by exact fin))))
theorem check_obj {M : Model} {rest : List Value} {Q : Unit → Shared → Prop} (X : K.In s.heap) (I : InstAt s.heap x ox C od) (hm : mroIn K C (.type "object") = some true)
    (ha : argsOk "object.__ne__" ⟨.ref x :: rest, []⟩) (hq : Q () s) : wpAny M A (checkBuiltinCall "object.__ne__" ⟨.ref x :: rest, []⟩) Q E s := by
  have L0 := I.type (M := M)
  have L1 := looks_mroIn (M := M) X hm
  simp only [checkBuiltinCall, F.cmpKind_ne, F.cmpSplit_ne]
  refine wpAny_bind ?_
  unfold isInstance
  refine wpAny_bind (L0.here (L1.here ?_))
  simp only [Bool.not_true, Bool.false_eq_true, if_false]
  cases hsig : Manifest.signature? "object.__ne__" with
  | none => exact wpAny_pure hq
  | some sig =>
    simp only [argsOk, hsig] at ha
    have h2 : Bind.checkArgs "object.__ne__" sig ⟨.ref x :: rest, []⟩ = pure () := ha
    show wpAny M A (Bind.checkArgs "object.__ne__" sig ⟨.ref x :: rest, []⟩) Q E _
    rw [h2]; exact wpAny_pure hq
theorem ne_K {Q : Value → Shared → Prop} (hu : A.units + 1 < cLine) (F0 : Fr h₀ L s.heap m) (X₀ : K.In h₀) (I : InstAt s.heap x ox C od) (hb : Looks (model prog w) s.heap (typeOf b) tb) (hn : notFirst K C tb = true)
    (hn2 : findIn K (.ref C) "__ne__" = some (some (.builtin "object.__ne__"))) (hm : mroIn K C (.type "object") = some true)
    (hs : findIn K (.ref C) "__eq__" = some (some (.ref f))) (hf : isFn K (.ref f) = true)
    (h : wpAny (model prog w) A.in1 (call (.ref f) [.ref x, b]) (fun v s' => ∃ r, v = .bool r ∧ Q (.bool (!r)) s') E s) : wpAny (model prog w) A (richCompare .NotEq (.ref x) b) Q E s := by
  have X := X₀.keeps F0.keep
  have one : wpAny (model prog w) A (tryCompare (.ref x) "__ne__" b) (fun r s' => ∃ v, r = some v ∧ Q v s') E s := by
    unfold tryCompare
    refine wpAny_bind (ifBound_bi X I hn2 F.cmp_object.ne (wpAny_call (codeAny_call_builtin F.cmp_object.ne.plain F.cmpEntry_ne (check_obj X I hm (F.cmpArgs_ne _ _) ?_))))
    unfold Builtin.«object.__ne__»
    repeat (first | with_reducible refine wpAny_cRoomFor (A := A.in1) hu ?_ | (with_reducible refine PySem.W.ifBound_K X I hs hf (wpAny_mono h (fun v s' hv => ?_) (fun _ _ e => ?_))) | wp_step)
    · obtain ⟨r, rfl, hq⟩ := hv
      repeat wp_step
      exact ⟨_, rfl, hq⟩
    · exact e
  unfold richCompare
  simp only [oneThing_ref]
  refine wpAny_holding (wpAny_bind (wpAny_cRoomFor (by omega) ?_))
  refine wpAny_bind (I.type.here (wpAny_bind (hb.here ?_)))
  split
  · rename_i q
    have e : subIn K tb (.ref C) = some false := by
      rcases Bool.or_eq_true_iff.mp hn with e | e
      · rw [beq_iff_eq.mp e] at q; simp at q
      · exact beq_iff_eq.mp e
    refine wpAny_bind ((looks_subIn X e).here ?_)
    simp only [Bool.false_eq_true, if_false]
    refine wpAny_bind (wpAny_mono one (fun r s' z => ?_) fun _ _ e => e)
    obtain ⟨v, rfl, hq⟩ := z
    exact wpAny_pure hq
  · refine wpAny_bind (wpAny_pure ?_)
    simp only [Bool.false_eq_true, if_false]
    refine wpAny_bind (wpAny_mono one (fun r s' z => ?_) fun _ _ e => e)
    obtain ⟨v, rfl, hq⟩ := z
    exact wpAny_pure hq
end
section
variable {X : Cx} {pins : List (Addr × Obj)} {σ : L2.St} {H : Hp} {s : Shared} {W : WX}
theorem looks_ty {x : V} {u t : Value} (I : Inv X pins σ H s) (rx : RelV x u) (ty : TyX X.K H x t) : PySem.W.Looks (model X.prog X.w) s.heap (typeOf u) t := by
  obtain ⟨P, k, hP, _⟩ := kit_of I rx ty
  exact k.ty _ _ I.kIn hP
/-- what the right side of an own == may be: of some built-in kinds, or of some own classes -/
def RhsD (G : HH) (y : D) (bi : List String) (ow : List Str) : Prop := (∃ k, TyD G y (.bi k) ∧ k ∈ bi) ∨ ∃ c' ns' ds', InsD G y c' ns' ds' ∧ c' ∈ ow
def rEqO (neg : Bool) (bi : List String) (ow : List Str) (c : Str) (sp : SpD) : D → D → HH → QD → Prop := fun x y G Q => ∃ ns ds, InsD G x c ns ds ∧ RhsD G y bi ow ∧ sp [x, y] G (fun v G1 => ∃ b, v = .bl b ∧ Q (.bl (if neg then !b else b)) G1) (fun _ _ => False)
/-- facts of the class: what stands on the right does not come first -/
structure EqC (K : Frag) (C : Addr) (bi : List String) (ow : List Str) : Prop where
  bi : ∀ T ∈ bi, PySem.W.notFirst K C (.type T) = true
  ow : ∀ c ∈ ow, ∀ C', gaddr K c = some C' → PySem.W.notFirst K C (.ref C') = true
structure NeC (K : Frag) (C : Addr) : Prop where
  ne : PySem.W.findIn K (.ref C) "__ne__" = some (some (.builtin "object.__ne__"))
  mro : PySem.W.mroIn K C (.type "object") = some true
theorem rhs_of {C : Addr} {bi : List String} {ow : List Str} {G : HH} {y : D} {vy : V} (e : EqC X.K C bi ow) (hR : RelH X.K H G) (h : RhsD G y bi ow) (p : Rp X.K H G y vy) :
    ∃ t, (∀ {pins : List (Addr × Obj)} {σ : L2.St} {s : Shared} {u : Value}, Inv X pins σ H s → RelV vy u → PySem.W.Looks (model X.prog X.w) s.heap (typeOf u) t) ∧ PySem.W.notFirst X.K C t = true := by
  rcases h with ⟨k, ht, hm⟩ | ⟨c', ns', ds', hi, hm⟩
  · obtain ⟨t, h1, h2⟩ := ht.of hR p
    obtain rfl : t = .type k := h2
    exact ⟨_, fun I r => looks_ty I r h1, e.bi k hm⟩
  · obtain ⟨a, C', dx, xs, e1, h1, h2, h3, h4⟩ := hi.of hR p
    subst e1
    refine ⟨.ref C', fun I r => ?_, e.ow c' hm C' h1⟩
    rename_i u
    obtain rfl : u = Value.ref a := r
    obtain ⟨ox, od, J, _⟩ := inst_of I h2
    exact J.type
variable {k : Nat} {f C : Addr} {fd : FuncData} {ps : List Str} {sp : SpD} {bi : List String} {ow : List Str}
theorem oEqO {c : Str} (hC : gaddr X.K c = some C) (hm : Meth X.K C "__eq__" f) (he : EqC X.K C bi ow) (F : FnG X.prog X.w X.K X.mg X.base k f fd ps sp) (hg : X.A.guards = some []) (hr : Room k X.A) (hb : Binds X.K fd ps []) : OpD X (compareOp .Eq) (rEqO false bi ow c sp) :=
  ⟨fun x y H Q => ∃ a dx fs t, x = .ref a ∧ H a = some (.ins C dx fs) ∧ (∀ {pins : List (Addr × Obj)} {σ : L2.St} {s : Shared} {u : Value}, Inv X pins σ H s → RelV y u → PySem.W.Looks (model X.prog X.w) s.heap (typeOf u) t) ∧ PySem.W.notFirst X.K C t = true ∧ lsp X.K sp [x, y] H (fun v H1 => ∃ b, v = .bl b ∧ Q (.bl b) H1) E0, fun pins s σ H x y v u Q I rx ry ⟨a, dx, fs, t, ex, ha, ht, hn, q⟩ => by
    subst ex
    obtain rfl : v = Value.ref a := rx
    obtain ⟨m, fr⟩ := fr_of I
    obtain ⟨ox, od, J, _⟩ := inst_of I ha
    show wpAny _ _ (richCompare .Eq _ _) _ _ _
    refine PySem.W.cmp_K (op := .Eq) hr.units0 fr I.ok.mod.kin J (ht I ry) hn hm.at_ hm.fn (wpAny_mono (run_at F hg hr I.env0 hb I (us := [.ref a, u]) (.cons (vref a) (.cons ry .nil)) q) (fun r s' hr' => ?_) fun _ _ z => z)
    obtain ⟨w, H', J', rw', b, ew, q'⟩ := hr'
    subst ew
    obtain rfl : r = Value.bool b := rw'
    exact ⟨.bl b, H', J', rfl, q'⟩, fun x y H Q dx dy G QD hR px py ⟨ns, ds, hi, hy, q⟩ hq => by
    obtain ⟨a, C', dx', xs, e1, h1, h2, h3, h4⟩ := hi.of hR px
    rw [hC] at h1; cases h1
    obtain ⟨t, ht, hn⟩ := rhs_of he hR hy py
    subst e1
    refine ⟨a, dx', _, t, rfl, h2, ht, hn, lsp0 hR (.cons px (.cons py .nil)) q fun v H' d G' s' r' p' ⟨b, e, z⟩ => ?_⟩
    subst e; cases p'
    exact ⟨b, rfl, hq _ _ _ _ s' r' (.bl _) z⟩⟩
theorem oNeO {c : Str} (hC : gaddr X.K c = some C) (hm : Meth X.K C "__eq__" f) (he : EqC X.K C bi ow) (hn2 : NeC X.K C) (F : FnG X.prog X.w X.K X.mg X.base k f fd ps sp) (hg : X.A.guards = some []) (hr : Room (k + 1) X.A) (hb : Binds X.K fd ps []) : OpD X (compareOp .NotEq) (rEqO true bi ow c sp) :=
  ⟨fun x y H Q => ∃ a dx fs t, x = .ref a ∧ H a = some (.ins C dx fs) ∧ (∀ {pins : List (Addr × Obj)} {σ : L2.St} {s : Shared} {u : Value}, Inv X pins σ H s → RelV y u → PySem.W.Looks (model X.prog X.w) s.heap (typeOf u) t) ∧ PySem.W.notFirst X.K C t = true ∧ lsp X.K sp [x, y] H (fun v H1 => ∃ b, v = .bl b ∧ Q (.bl (!b)) H1) E0, fun pins s σ H x y v u Q I rx ry ⟨a, dx, fs, t, ex, ha, ht, hn, q⟩ => by
    subst ex
    obtain rfl : v = Value.ref a := rx
    obtain ⟨m, fr⟩ := fr_of I
    obtain ⟨ox, od, J, _⟩ := inst_of I ha
    show wpAny _ _ (richCompare .NotEq _ _) _ _ _
    have hu : X.A.units + 1 < cLine := by have := hr.in1.un; have := hr.un; simp only [Around.in1] at *; omega
    refine ne_K hu fr I.ok.mod.kin J (ht I ry) hn hn2.ne hn2.mro hm.at_ hm.fn (wpAny_mono (run_at F (guards_in1 hg) hr.in1 I.env0.in1 hb I (us := [.ref a, u]) (.cons (vref a) (.cons ry .nil)) q) (fun r s' hr' => ?_) fun _ _ z => z)
    obtain ⟨w, H', J', rw', b, ew, q'⟩ := hr'
    subst ew
    obtain rfl : r = Value.bool b := rw'
    exact ⟨b, rfl, .bl (!b), H', J', rfl, q'⟩, fun x y H Q dx dy G QD hR px py ⟨ns, ds, hi, hy, q⟩ hq => by
    obtain ⟨a, C', dx', xs, e1, h1, h2, h3, h4⟩ := hi.of hR px
    rw [hC] at h1; cases h1
    obtain ⟨t, ht, hn⟩ := rhs_of he hR hy py
    subst e1
    refine ⟨a, dx', _, t, rfl, h2, ht, hn, lsp0 hR (.cons px (.cons py .nil)) q fun v H' d G' s' r' p' ⟨b, e, z⟩ => ?_⟩
    subst e; cases p'
    exact ⟨b, rfl, hq _ _ _ _ s' r' (.bl _) z⟩⟩
end
section
variable {G : HH} {Q : QD} {c c' : Str} {ns ns' : List Str} {ds ds' : List D} {bi : List String} {ow : List Str} {sp : SpD} {y : D} {neg : Bool}
theorem st_eqO (hy : RhsD G y bi ow) (h : sp [.obj c ns ds, y] G (fun v G1 => ∃ b, v = .bl b ∧ Q (.bl (if neg then !b else b)) G1) (fun _ _ => False)) : rEqO neg bi ow c sp (.obj c ns ds) y G Q := ⟨ns, ds, .obj c ns ds, hy, h⟩
theorem rhs_obj (hm : c' ∈ ow) : RhsD G (.obj c' ns' ds') bi ow := .inr ⟨c', ns', ds', .obj c' ns' ds', hm⟩
end
end DL

namespace DL
open PySem PySem.Spec PyProof.Rows L2
open PySem.W (Frag)
/-! ### several except clauses, with names or without -/
structure Cl where
  c : Value
  i : Option Nat
  ts : Addr → Value → Option Addr → TS
def suiteE (i : Option Nat) (D : Ends) : Ends := match i with
  | none => D
  | some i => { nx := fun σ' H' => D.nx (σ'.set i none) H', rt := D.rt, bk := fun σ' H' => D.bk (σ'.set i none) H', ct := fun σ' H' => D.ct (σ'.set i none) H' }
def suiteS (i : Option Nat) (a : Addr) (σ : L2.St) : L2.St := match i with
  | none => σ
  | some i => σ.set i (some (.ref a))
def wMix (K : Frag) (Wout : WX) (D : Ends) : List Cl → WX
  | [] => Wout
  | k :: r => fun cls d σ H => ∃ b, PySem.W.exmOne K cls k.c = some b ∧ (b = true → ∀ a, H a = none → k.ts a cls d (suiteE k.i D) (suiteS k.i a σ) H) ∧ (b = false → wMix K Wout D r cls d σ H)
inductive ClsOk (X : Cx) : List ExceptHandler → List Cl → Prop
  | nil : ClsOk X [] []
  | only {x : Str} {c : Value} {ts : Addr → Value → Option Addr → TS} {b₀ : Stmt} {suite : List Stmt} {np pos' : Pos} {hds : List ExceptHandler} {l : List Cl} (hc : Names X x c)
      (hsu : ∀ (a : Addr) (oe : Obj) (cls : Value) (d : Option Addr) (pn : List (Addr × Obj)), Zc cls d oe → (∃ vs, oe.data = .fields vs) → PSs (X.suite a ((a, oe) :: pn)) (b₀ :: suite) (ts a cls d)) (r : ClsOk X hds l) :
      ClsOk X (.ExceptHandler (some (.Name x np)) none (b₀ :: suite) pos' :: hds) (⟨c, none, ts⟩ :: l)
  | named {x n : Str} {i : Nat} {c : Value} {ts : Addr → Value → Option Addr → TS} {b₀ : Stmt} {suite : List Stmt} {np pos' : Pos} {hds : List ExceptHandler} {l : List Cl} (hc : Names X x c) (hi : X.N[i]? = some n) (hln : X.env.kindOf n = some .local)
      (hsu : ∀ (a : Addr) (oe : Obj) (cls : Value) (d : Option Addr) (pn : List (Addr × Obj)), Zc cls d oe → (∃ vs, oe.data = .fields vs) → PSs (X.suite a ((a, oe) :: pn)) (b₀ :: suite) (ts a cls d)) (r : ClsOk X hds l) :
      ClsOk X (.ExceptHandler (some (.Name x np)) (some n) (b₀ :: suite) pos' :: hds) (⟨c, some i, ts⟩ :: l)
section
variable {X : Cx} {body : List Stmt} {h₀ : ExceptHandler} {hds : List ExceptHandler} {l : List Cl} {pos : Pos} {tb : WX → TS} {Wout : WX}
theorem ps_try_mix (hs : X.stack = X.env :: X.outer) (hf : X.env.frame = some X.env.locals) (hN : X.N.Nodup) (tk : Takes X Wout)
    (hb : ∀ (W : WX) (pn : List (Addr × Obj)) (xe : Value → Shared → Prop), Takes (X.tr pn xe) W → PassesOwn (model X.prog X.w) X.A X.env xe → PSs (X.tr pn xe) body (tb W))
    (hh : ClsOk X (h₀ :: hds) l) : PS X (.Try body (h₀ :: hds) [] [] pos) (fun D σ H => tb (wMix X.K Wout D l) D σ H) := by
  refine ⟨fun pins s σ H D I h => ?_⟩
  have ok := I.ok
  have hfr : X.A.frames = some (X.env :: X.outer) := by rw [ok.frames, hs]
  refine wpAny_Try_except ?_
  refine wpAny_mono ((hb (wMix X.K Wout D l) (X.pn ++ pins) (fun e s₁ => wpAny (model X.prog X.w) X.A (noteFrame e X.env) (fun _ s₂ => wpAny (model X.prog X.w) X.A (setFlight e none) (fun _ s₃ =>
    wpAny (model X.prog X.w) X.A (handleBy e X.env (h₀ :: hds)) (SP X pins D) X.xe s₃) X.xe s₂) X.xe s₁) (fun u s' xx => ?_) PassesOwn.looking).run [] s σ H D (I.toTry _) h) (fun f s1 hsp => ?_) (fun e s1 he => he)
  · -- the catch
    obtain ⟨a, B, sI, pins', σ', H', cls, d, rfl, J', nb, up, sky, na, os, ag, w⟩ := xx
    have J : Inv X pins σ' H' sI := J'.ofTry ok
    have sky' : Sky B (X.env :: X.outer) a (Zc cls d) X.env.locals s'.heap := by rw [← hs]; exact sky
    show wpAny (model X.prog X.w) X.A (noteFrame (.ref a) X.env) _ _ _
    refine Sky.land Zc.steady hfr hf sky' fun h3 fl3 up3 => ?_
    have J3 : Inv X pins σ' H' { s' with heap := h3 } := J.landed nb fl3.1 (up.trans up3) os ag
    obtain ⟨oe3, vs3, he3, hz3, hd3⟩ := fl3.there
    have notFr : ∀ {h : Heap} {o : Obj} {vs : Array Value}, h.FunFrames B (X.env :: X.outer) → h.get? a = some o → o.data = .fields vs → a ∉ frs (X.env :: X.outer) := fun {h o vs} ff e dd hm => by
      obtain ⟨_, o', e', hnf⟩ := ff.mem hm
      rw [e] at e'; cases e'
      exact hnf _ dd
    have nfr := notFr fl3.2.2.1 he3 hd3
    have nL : a ≠ X.env.locals := fun z => nfr (List.mem_filterMap.mpr ⟨X.env, List.mem_cons_self, by rw [hf, z]⟩)
    have nF : a ∉ X.fs := fun hm => by
      obtain ⟨e, he, q⟩ := List.mem_filterMap.mp hm
      exact nfr (List.mem_filterMap.mpr ⟨e, List.mem_cons_of_mem _ he, q⟩)
    have S3 := J3.suite he3 hd3 na nL nF
    have go : ∀ {hds' : List ExceptHandler} {l' : List Cl}, ClsOk X hds' l' → wMix X.K Wout D l' cls d σ' H' →
        wpAny (model X.prog X.w) X.A (handleBy (.ref a) X.env hds') (SP X pins D) X.xe { s' with heap := h3 } := by
      intro hds' l' hk
      induction hk with
      | nil =>
        intro w
        refine wpAny_handleBy_nil ?_
        obtain ⟨k1, k2, k3, oe, vs, T, oT, ts', he, hz, hd, h1, hr⟩ := id fl3
        unfold PySem.passOn
        refine wpAny_bind (wpAny_field he hd h1 ?_)
        rw [if_neg (show ¬ ((Value.ref T == Value.none) = true) from by simp)]
        have fin : wpAny (model X.prog X.w) X.A (setFlight (.ref a) X.env.frame) (fun _ s4 => wpAny (model X.prog X.w) X.A (throw (.ref a) : Sem Flow) (SP X pins D) X.xe s4) X.xe { s' with heap := h3 } := by
          rw [hf]
          refine HandSPX.setFlight_upZ fl3 fun h4 hh4 up4 => wpAny_throw (tk _ _ ?_)
          exact ⟨a, B, sI, pins, σ', H', cls, d, rfl, J, nb, (up.trans up3).trans up4, .inr (.inr (by rw [hs]; exact hh4)), na, os, ag, w⟩
        first
          | exact wpAny_bind (wpAny_pure (wpAny_bind fin))
          | exact wpAny_bind fin
      | @only x c ts b₀ suite np pos' hds2 l2 hc hsu r ih =>
        intro w
        obtain ⟨b, hb1, hyes, hno⟩ := w
        refine wpAny_handleBy_cons (codeAny_handlers_test ?_) (by intro q; cases q)
        have LT : PySem.W.Looks (model X.prog X.w) h3 (typeOf (.ref a)) cls := fun A Q E s k q => wpAny_typeOf_ref (k _ _ he3) (by rw [hz3.1]; exact q)
        have LM := PySem.W.exm_one (M := model X.prog X.w) (J3.kIn) LT hb1
        have test : ∀ {Q : Value → Shared → Prop} {E : Value → Shared → Prop}, Q c { s' with heap := h3 } → wpAny (model X.prog X.w) (X.A.mark (some (.ref a))) (eval (.Name x np) X.env) Q E { s' with heap := h3 } := fun {Q E} q => by
          obtain ⟨hg, hdbg, hm | ⟨hm, hv, hnn⟩⟩ := hc
          · exact ld_glob (X := X.suite a ((a, oe3) :: (X.pn ++ pins))) S3 hg hm q hdbg
          · exact ld_blt (X := X.suite a ((a, oe3) :: (X.pn ++ pins))) S3 hg hm hv q hnn hdbg
        refine test (LM.here ?_)
        cases b with
        | true =>
          refine codeAny_handlers_suite ?_
          refine HandSPX.lands_againZ fl3 fun h4 fl4 up4 => ?_
          have J4 : Inv X pins σ' H' { s' with heap := h4 } := J.landed nb fl4.1 ((up.trans up3).trans up4) os ag
          obtain ⟨oe4, vs4, he4, hz4, hd4⟩ := fl4.there
          have S4 := J4.suite he4 hd4 na nL nF
          refine wpAny_mono ((hsu a oe4 cls d (X.pn ++ pins) hz4 ⟨_, hd4⟩).run [] _ _ H' _ S4 (hyes rfl a na)) (fun f s6 hsp => ?_) (fun _ _ z => False.elim z)
          cases f with
          | next =>
            obtain ⟨σ6, H6, S6, q6⟩ := hsp
            exact ⟨_, _, S6.unsuite ok, q6⟩
          | brk =>
            obtain ⟨σ6, H6, S6, q6⟩ := hsp
            exact ⟨_, _, S6.unsuite ok, q6⟩
          | cont =>
            obtain ⟨σ6, H6, S6, q6⟩ := hsp
            exact ⟨_, _, S6.unsuite ok, q6⟩
          | ret u =>
            obtain ⟨v6, σ6, H6, S6, r6, q6⟩ := hsp
            exact ⟨_, _, _, S6.unsuite ok, r6, q6⟩
        | false =>
          show wpAny _ X.A (handleBy (.ref a) X.env hds2) _ _ _
          exact ih (hno rfl)
      | @named x n i c ts b₀ suite np pos' hds2 l2 hc hi hln hsu r ih =>
        intro w
        obtain ⟨b, hb1, hyes, hno⟩ := w
        have hloc : Loc X.env.scope n := .inl hln
        refine wpAny_handleBy_cons (codeAny_handlers_test ?_) (by intro q; cases q)
        have LT : PySem.W.Looks (model X.prog X.w) h3 (typeOf (.ref a)) cls := fun A Q E s k q => wpAny_typeOf_ref (k _ _ he3) (by rw [hz3.1]; exact q)
        have LM := PySem.W.exm_one (M := model X.prog X.w) (J3.kIn) LT hb1
        have test : ∀ {Q : Value → Shared → Prop} {E : Value → Shared → Prop}, Q c { s' with heap := h3 } → wpAny (model X.prog X.w) (X.A.mark (some (.ref a))) (eval (.Name x np) X.env) Q E { s' with heap := h3 } := fun {Q E} q => by
          obtain ⟨hg, hdbg, hm | ⟨hm, hv, hnn⟩⟩ := hc
          · exact ld_glob (X := X.suite a ((a, oe3) :: (X.pn ++ pins))) S3 hg hm q hdbg
          · exact ld_blt (X := X.suite a ((a, oe3) :: (X.pn ++ pins))) S3 hg hm hv q hnn hdbg
        refine test (LM.here ?_)
        cases b with
        | true =>
          refine codeAny_handlers_suite_as ?_
          refine HandSPX.lands_againZ fl3 fun h4 fl4 up4 => ?_
          have J4 : Inv X pins σ' H' { s' with heap := h4 } := J.landed nb fl4.1 ((up.trans up3).trans up4) os ag
          obtain ⟨oe4, vs4, he4, hz4, hd4⟩ := fl4.there
          have S4 := J4.suite he4 hd4 na nL nF
          refine store_ok (X := X.suite a ((a, oe4) :: (X.pn ++ pins))) (v := .ref a) S4 hN hi hloc rfl (fun s5 S5 => ?_) (.inr hln)
          refine wpAny_mono ((hsu a oe4 cls d (X.pn ++ pins) hz4 ⟨_, hd4⟩).run [] s5 _ H' _ S5 (hyes rfl a na)) (fun f s6 hsp => ?_) (fun _ _ z => False.elim z)
          have end_ : ∀ {σ6 : L2.St} {H6 : Hp} {Q : Shared → Prop}, Inv (X.suite a ((a, oe4) :: (X.pn ++ pins))) [] σ6 H6 s6 → (∀ s7, Inv X pins (σ6.set i none) H6 s7 → Q s7) →
              wpAny (model X.prog X.w) X.A (do bindName X.env n .none; unbindBehindTheSuite X.env n pos') (fun _ s7 => Q s7) X.xe s6 := fun {σ6 H6 Q} S6 hq => gone_ok (S6.unsuite ok) hN hi hln hq
          cases f with
          | next =>
            obtain ⟨σ6, H6, S6, q6⟩ := hsp
            exact end_ S6 fun s7 J7 => ⟨_, _, J7, q6⟩
          | brk =>
            obtain ⟨σ6, H6, S6, q6⟩ := hsp
            exact end_ S6 fun s7 J7 => ⟨_, _, J7, q6⟩
          | cont =>
            obtain ⟨σ6, H6, S6, q6⟩ := hsp
            exact end_ S6 fun s7 J7 => ⟨_, _, J7, q6⟩
          | ret u =>
            obtain ⟨v6, σ6, H6, S6, r6, q6⟩ := hsp
            exact end_ S6 fun s7 J7 => ⟨_, _, _, J7, r6, q6⟩
        | false =>
          show wpAny _ X.A (handleBy (.ref a) X.env hds2) _ _ _
          exact ih (hno rfl)
    exact go hh w
  · cases f with
    | next =>
      obtain ⟨σ', H', J', q⟩ := hsp
      exact wpAny_execs_nil ⟨σ', H', J'.ofTry ok, q⟩
    | brk =>
      obtain ⟨σ', H', J', q⟩ := hsp
      exact ⟨σ', H', J'.ofTry ok, q⟩
    | cont =>
      obtain ⟨σ', H', J', q⟩ := hsp
      exact ⟨σ', H', J'.ofTry ok, q⟩
    | ret u =>
      obtain ⟨v, σ', H', J', r, q⟩ := hsp
      exact ⟨v, σ', H', J'.ofTry ok, r, q⟩
end
/-- one clause over data: which raised classes it takes, its name's slot, its suite -/
structure DCl where
  tbl : List (Str × Bool)
  i : Option Nat
  ts : Str → Addr → Option Addr → TSD
def suiteED (i : Option Nat) (D : EndsD) : EndsD := match i with
  | none => { D with ex := fun _ _ _ => False }
  | some i => { nx := fun σ2 G2 => D.nx (σ2.set i none) G2, rt := D.rt, bk := fun σ2 G2 => D.bk (σ2.set i none) G2, ct := fun σ2 G2 => D.ct (σ2.set i none) G2, ex := fun _ _ _ => False }
def suiteSD (i : Option Nat) (a : Addr) (d : Option Addr) (x : XD) (σ : SD) : SD := match i with
  | none => σ
  | some i => σ.set i (some (excD a d x))
def goM (D : EndsD) (n : Str) (x : XD) (σ : SD) (G : HH) : List DCl → Prop
  | [] => D.ex x σ G
  | k :: r => ∃ b, (n, b) ∈ k.tbl ∧ (b = true → ∀ a d, (d = none → x.ns = []) → k.ts n a d (suiteED k.i D) (suiteSD k.i a d x σ) G) ∧ (b = false → goM D n x σ G r)
def dTryM (ks : List DCl) (tb : TSD) : TSD := fun D σ G => tb { D with ex := fun x σ' G' => ∃ n, x.cls = .own n ∧ goM D n x σ' G' ks } σ G
section
variable {X : Cx} {W : WX} {body suite : List Stmt} {h₀ : ExceptHandler} {hds : List ExceptHandler} {b₀ : Stmt} {pos np pos' : Pos} {tb : TSD} {ks : List DCl}
inductive DClsOk (X : Cx) : List ExceptHandler → List DCl → List Value → Prop
  | nil : DClsOk X [] [] []
  | only {x : Str} {C : Addr} {tbl : List (Str × Bool)} {ts : Str → Addr → Option Addr → TSD} {b₀ : Stmt} {suite : List Stmt} {np pos' : Pos} {hds : List ExceptHandler} {l : List DCl} {vs : List Value} (hg : Gl X x) (hm : X.mg x = some (.ref C)) (hT : ExTab X.K C tbl)
      (hsu : ∀ (n : Str) (C' : Addr), gaddr X.K n = some C' → ∀ (a : Addr) (oe : Obj) (d : Option Addr) (pn : List (Addr × Obj)), Zc (.ref C') d oe → (∃ vs, oe.data = .fields vs) → DSs (X.suite a ((a, oe) :: pn)) WF (b₀ :: suite) (ts n a d))
      (r : DClsOk X hds l vs) (hdb : (x == ("__debug__" : Str)) = false := by decide) : DClsOk X (.ExceptHandler (some (.Name x np)) none (b₀ :: suite) pos' :: hds) (⟨tbl, none, ts⟩ :: l) (.ref C :: vs)
  | named {x nm : Str} {i : Nat} {C : Addr} {tbl : List (Str × Bool)} {ts : Str → Addr → Option Addr → TSD} {b₀ : Stmt} {suite : List Stmt} {np pos' : Pos} {hds : List ExceptHandler} {l : List DCl} {vs : List Value} (hi : X.N[i]? = some nm) (hln : X.env.kindOf nm = some .local) (hg : Gl X x) (hm : X.mg x = some (.ref C)) (hT : ExTab X.K C tbl)
      (hsu : ∀ (n : Str) (C' : Addr), gaddr X.K n = some C' → ∀ (a : Addr) (oe : Obj) (d : Option Addr) (pn : List (Addr × Obj)), Zc (.ref C') d oe → (∃ vs, oe.data = .fields vs) → DSs (X.suite a ((a, oe) :: pn)) WF (b₀ :: suite) (ts n a d))
      (r : DClsOk X hds l vs) (hdb : (x == ("__debug__" : Str)) = false := by decide) : DClsOk X (.ExceptHandler (some (.Name x np)) (some nm) (b₀ :: suite) pos' :: hds) (⟨tbl, some i, ts⟩ :: l) (.ref C :: vs)
def clOf (K : Frag) : List DCl → List Value → List Cl
  | k :: r, v :: vs => ⟨v, k.i, tsK K k.ts⟩ :: clOf K r vs
  | _, _ => []
theorem DClsOk.ok {hds : List ExceptHandler} {l : List DCl} {vs : List Value} (h : DClsOk X hds l vs) : ClsOk X hds (clOf X.K l vs) := by
  induction h with
  | nil => exact .nil
  | @only x C tbl ts b₀ suite np pos' hds l vs hg hm hT hsu r hdb ih =>
    exact .only ⟨hg, hdb, .inl hm⟩ (fun a oe cls d pn hz hv => ⟨fun pins s σ H D I ⟨n, C', hC, e, h⟩ => (hsu n C' hC a oe d pn (by rw [← e]; exact hz) hv).run pins s σ H D I h⟩) ih
  | @named x nm i C tbl ts b₀ suite np pos' hds l vs hi hln hg hm hT hsu r hdb ih =>
    exact .named ⟨hg, hdb, .inl hm⟩ hi hln (fun a oe cls d pn hz hv => ⟨fun pins s σ H D I ⟨n, C', hC, e, h⟩ => (hsu n C' hC a oe d pn (by rw [← e]; exact hz) hv).run pins s σ H D I h⟩) ih
theorem DClsOk.tabs {hds : List ExceptHandler} {l : List DCl} {vs : List Value} (h : DClsOk X hds l vs) : ∀ (i : Nat) k v, l[i]? = some k → vs[i]? = some v → ∃ C, v = .ref C ∧ ExTab X.K C k.tbl := by
  induction h with
  | nil => intro i k v e; simp at e
  | only hg hm hT hsu r hdb ih =>
    intro i k v e1 e2
    cases i with
    | zero => simp at e1 e2; subst e1; subst e2; exact ⟨_, rfl, hT⟩
    | succ i => exact ih i k v (by simpa using e1) (by simpa using e2)
  | named hi hln hg hm hT hsu r hdb ih =>
    intro i k v e1 e2
    cases i with
    | zero => simp at e1 e2; subst e1; subst e2; exact ⟨_, rfl, hT⟩
    | succ i => exact ih i k v (by simpa using e1) (by simpa using e2)
theorem mix_of {D : Ends} {DD : EndsD} {H H' : Hp} {G G' : HH} {y : XD} {n : Str} {C' : Addr} {d : Option Addr} {σ' : L2.St} {σD' : SD} (he : EndR X.K W H G DD D) (hC : gaddr X.K n = some C') (s : Stp H G H' G') (r : RelH X.K H' G') (p : SRp X.K H' G' σD' σ') (xr : XRp X.K H' G' y (.ref C') d) :
    ∀ {hds : List ExceptHandler} {l : List DCl} {vs : List Value}, DClsOk X hds l vs → goM DD n y σD' G' l → wMix X.K W D (clOf X.K l vs) (.ref C') d σ' H' := by
  intro hds l vs h
  induction h with
  | nil => intro w; exact he.ex _ _ _ _ _ _ _ s r p xr w
  | only hg hm hT hsu r' hdb ih =>
    rintro ⟨b, hm', h1, h2⟩
    refine ⟨b, hT _ hm' C' hC, fun hb' a ha => ⟨n, C', hC, rfl, σD', G', _, r, p, h1 hb' a d (fun e => by subst e; exact xr.2.1), ⟨he.nx.mono s, he.rt.mono s, he.bk.mono s, he.ct.mono s, fun _ _ _ _ _ _ _ _ _ _ _ z => z⟩⟩, fun hb' => ih (h2 hb')⟩
  | @named x nm i C tbl ts b₀ suite np pos' hds l vs hi hln hg hm hT hsu r' hdb ih =>
    rintro ⟨b, hm', h1, h2⟩
    refine ⟨b, hT _ hm' C' hC, fun hb' a ha => ⟨n, C', hC, rfl, σD'.set i (some (excD a d y)), G', _, r, p.set i (xr.excD a), h1 hb' a d (fun e => by subst e; exact xr.2.1), ⟨fun σ2 H2 σD2 G2 s2 r2 p2 q2 => he.nx _ _ _ _ (s.trans s2) r2 (p2.drop i none) q2, he.rt.mono s, fun σ2 H2 σD2 G2 s2 r2 p2 q2 => he.bk _ _ _ _ (s.trans s2) r2 (p2.drop i none) q2, fun σ2 H2 σD2 G2 s2 r2 p2 q2 => he.ct _ _ _ _ (s.trans s2) r2 (p2.drop i none) q2, fun _ _ _ _ _ _ _ _ _ _ _ z => z⟩⟩, fun hb' => ih (h2 hb')⟩
theorem ds_tryM {vs : List Value} (hN : X.N.Nodup) (tk : Takes X W)
    (hb : ∀ (W' : WX) (pn : List (Addr × Obj)) (xe : Value → Shared → Prop), Takes (X.tr pn xe) W' → PassesOwn (model X.prog X.w) X.A X.env xe → DSs (X.tr pn xe) W' body tb)
    (hh : DClsOk X (h₀ :: hds) ks vs) (hs : X.stack = X.env :: X.outer := by rfl) (hf : X.env.frame = some X.env.locals := by rfl) :
    DS X W (.Try body (h₀ :: hds) [] [] pos) (dTryM ks tb) :=
  PS.imp (ps_try_mix (tb := fun W' => lftS X.K W' tb) (Wout := W) hs hf hN tk hb hh.ok)
    fun D σ H ⟨σD, G, DD, hR, hS, q, he⟩ => ⟨σD, G, _, hR, hS, q, ⟨he.nx, he.rt, he.bk, he.ct, fun y cls d σ' σD' H' G' s r p xr ⟨n, en, w⟩ => by
      have xr0 := xr
      obtain ⟨hc, _⟩ := xr
      rw [en] at hc
      obtain ⟨C', hC, rfl⟩ := hc
      exact mix_of he hC s r p xr0 hh w⟩⟩
end
section
variable {D : EndsD} {σ : SD} {G : HH} {tb : TSD} {ks : List DCl}
theorem st_tryM (h : tb { D with ex := fun x σ' G' => ∃ n, x.cls = .own n ∧ goM D n x σ' G' ks } σ G) : dTryM ks tb D σ G := h
end
end DL

namespace DL
open PySem PySem.Spec PyProof.Rows L2
open PySem.W (Frag)
/-! ### o.m(), m a staticmethod of o's class -/
structure SInst (K : Frag) (C : Addr) (m : Str) (p g : Addr) : Prop where
  pg : PySem.W.plainGet K C Str.empty = true
  ic : PySem.W.isClsIn K C = true
  at_ : PySem.W.findIn K (.ref C) m = some (some (.ref p))
  ty : PySem.W.typeIn K (.ref p) = some (.type "staticmethod")
  get : PySem.W.specialIn K (.ref p) "__get__" = some (some (.builtin "staticmethod.__get__"))
  tk : PySem.W.takesIn K (.ref p) = some false
  cp : PySem.W.copiedNames.contains m = false
  rc : ∃ rest, PySem.W.recIn K p "staticmethod" = some (.ref g :: rest)
  hv : PySem.W.handedIn (.ref g) = true
theorem SInst.get' {K : Frag} {C : Addr} {m : Str} {p g : Addr} (k : SInst K C m p g) : PySem.W.plainGet K C m = true := k.pg
section
variable {X : Cx} {W : WX} {k : Nat} {C p g : Addr} {fd : FuncData} {ps : List Str} {mc : Value} {m x : Str} {sp : SpD} {e o : Expr} {es : List Expr} {pos apos p0 : Pos} {t : TAD} {to : TED} {pl : Sem Bool}
theorem getmethis_ok {A : Around} {E : Value → Shared → Prop} {pins : List (Addr × Obj)} {σ : L2.St} {H : Hp} {s : Shared} {a : Addr} {ox od : Obj} {Q : Value × List Value → Shared → Prop} (I : Inv X pins σ H s) (J : PySem.W.InstAt s.heap a ox C (some od)) (hl : PySem.W.lookIn m od = some none) (k : SInst X.K C m p g)
    (h : ∀ s', Inv X pins σ H s' → Q (.ref g, []) s') : wpAny (model X.prog X.w) A (getMethod (.ref a) m pl) Q E s := by
  obtain ⟨rest, hp⟩ := k.rc
  refine PySem.W.method_usual (r := some (.ref p)) I.kIn J (PySem.W.plainGet_of k.get').1 (PySem.W.plainGet_of k.get').2 k.at_ ?_ ?_
  · show ((PySem.W.typeIn X.K (.ref p)).any fun t => t != .type "function" && t != .type "method_descriptor" && t != .type "wrapper_descriptor") = true
    rw [k.ty]
    first
    | rfl
    | decide +kernel
  · refine PySem.W.get_bind I.kIn J (PySem.W.plainGet_of k.get').1 (ClX.find_cm k.ic k.at_ k.get k.tk k.cp hl) (PySem.W.plainGet_of k.get').2 ?_
    exact wpAny_call (PySem.W.sm_get (s := { s with toks := s.toks + 1 }) I.kIn hp (PySem.W.handed_on k.hv (h _ (I.tok _))))
def dSMeth (c m : Str) (sp : SpD) (ta : TED) : TED := fun σ G Q E => ta σ G (fun x G1 => ∃ ns ds, InsD G1 x c ns ds ∧ lk m ns ds = none ∧ sp [] G1 Q E) E
theorem de_ismeth0 {c m : Str} {pl : Sem Bool} (hC : gaddr X.K c = some C) (r : SInst X.K C m p g) (F : FnG X.prog X.w X.K X.mg X.base k g fd ps sp) (hgd : X.A.guards = some []) (hr : Room k X.A) (hk : PySem.W.keepIn X.K (.ref g) = true) (hb : Binds X.K fd ps []) (tk : Takes X W) (ho : DE X W o to)
    (ht : eval (.Call (.Attribute o m apos) [] [] pos) X.env = (do
      let ov ← eval o X.env
      standAt apos.atName
      let (f, first) ← holding [ov] (getMethod ov m pl)
      callWith pos f first (backTo pos (starEach [] X.env)) (backToKw pos (keywordEach [] X.env))) := by rfl) :
    DE X W (.Call (.Attribute o m apos) [] [] pos) (dSMeth c m sp to) := by
  have ho' : PE X o (lft X.K W to) := ho
  refine ⟨fun pins s σ H Q I ⟨σD, G, QD, E, hR, hS, q, hq, hE⟩ => ?_⟩
  refine PySem.W.methodCall_KW (pl := pl) (thn (ho'.run pins s σ H (fun v H1 => ∃ d G1, Stp H G H1 G1 ∧ RelH X.K H1 G1 ∧ Rp X.K H1 G1 d v ∧ ∃ ns ds, InsD G1 d c ns ds ∧ lk m ns ds = none ∧ sp [] G1 QD E) I ⟨σD, G, _, E, hR, hS, q, fun v H1 d G1 s1 r1 p1 z => ⟨d, G1, s1, r1, p1, z⟩, hE⟩) fun u s1 ⟨x, H1, I1, rx, d, G1, s1', r1, p1, ns, ds, hi, hl, q1⟩ => ?_) ht
  obtain ⟨a, C', dx, xs, ex, h1, h2, h3, h4⟩ := hi.of r1 p1
  rw [hC] at h1; cases h1
  subst ex
  obtain rfl : u = Value.ref a := rx
  have hl' : (ns.zip xs).lookup m = none := by
    rcases lk_zip (f := m) h4 h3 with ⟨_, z⟩ | ⟨d', v, e1, _, _⟩
    · exact z
    · rw [hl] at e1; cases e1
  obtain ⟨mA, O, rr, _, _, _⟩ := ins_get I1.hok h2
  have hn : mA m = none := RelO.none_of (by rw [← hl']; exact rr m)
  obtain ⟨od, J, hlk⟩ := O.look
  refine getmethis_ok I1 J (by rw [hlk m, hn]) r fun s2 I2 => ?_
  refine PySem.W.callWith_K0 I2.kIn hk (run_call (us := []) (vs := []) F hgd hr hb tk I2 .nil ?_)
  exact ⟨[], G1, QD, E, r1, .nil, q1, hq.mono s1', fun xd cls d' H' G' s' r' p' z' => hE _ _ _ _ _ (s1'.trans s') r' p' z'⟩
end
section
variable {σ : SD} {G : HH} {Q : QD} {E : ED} {c m : Str} {sp : SpD} {ta : TED}
theorem st_smeth (h : ta σ G (fun x G1 => ∃ ns ds, InsD G1 x c ns ds ∧ lk m ns ds = none ∧ sp [] G1 Q E) E) : dSMeth c m sp ta σ G Q E := h
end
/-- the built-in kinds -/
abbrev BI7 : List String := ["NoneType", "bool", "int", "str", "tuple", "list", "dict"]
/-! ### upper -/
section
variable {X : Cx} {W : WX} {o : Expr} {to : TED} {apos pos : Pos}
def upS : D → HH → QD → Prop := fun x G Q => ∃ a, x = .str a ∧ a.length ≤ 5592405 ∧ Q (.str (Txt.upper a)) G
theorem de_upper (ho : DE X W o to) (hbase : attributeBase o "upper" X.env (eval o X.env) = eval o X.env := by rfl) (hline : (apos.endLine == pos.line) = true := by rfl) : DE X W (.Call (.Attribute o "upper" apos) [] [] pos) (dUn upS to) :=
  PE.imp (pe_upper ho hbase hline) fun σ H Q ⟨σD, G, QD, E, hR, hS, q, hq, he⟩ =>
    ⟨σD, G, _, E, hR, hS, q, fun v1 H1 d1 G1 s1 r1 p1 ⟨a, e, hl, q1⟩ => by
      subst e; cases p1
      exact ⟨⟨_, rfl⟩, a, rfl, rfl, hl, hq _ _ _ _ s1 r1 (.str _) q1⟩, he⟩
theorem st_upper {G : HH} {Q : QD} {a : Str} (hl : a.length ≤ 5592405) (h : Q (.str (Txt.upper a)) G) : upS (.str a) G Q := ⟨a, rfl, hl, h⟩
end
end DL

namespace DL
open PySem PySem.Spec PyProof.Rows L2
open PySem.W (Frag)
/-! ### == with an own __eq__ on the right, a built-in value on the left -/
section
variable {prog : Program} {w : World} {A : Around} {E : Value → Shared → Prop} {s : Shared} {K : Frag} {x C L f : Addr} {h₀ : Heap} {m : Str → Option Value} {ox : Obj} {od : Option Obj} {name : Str} {u tb : Value}
open PySem.W (InstAt findIn isFn mroIn notFirst looks_findIn looks_mroIn looks_subIn subIn Looks)
def Declines (prog : Program) (w : World) (E : Value → Shared → Prop) (u : Value) (x : Addr) (id : String) (s : Shared) : Prop := ∀ (A : Around) (Q' : Value → Shared → Prop), Q' .notImplemented s → wpAny (model prog w) A (call (.builtin id) [u, .ref x]) Q' E s
theorem refl_K {T id : String} {Q : Value → Shared → Prop} (hu : A.units < cLine) (F0 : Fr h₀ L s.heap m) (X₀ : K.In h₀) (I : InstAt s.heap x ox C od) (ht : s.TypeIs u T) (S : Slot T "__eq__" id) (hm : mroIn K C (.type T) = some false)
    (hd : Declines prog w E u x id s) (hs : findIn K (.ref C) "__eq__" = some (some (.ref f))) (hf : isFn K (.ref f) = true)
    (h : wpAny (model prog w) A (call (.ref f) [.ref x, u]) (PySem.W.CmpBack Q) E s) : wpAny (model prog w) A (richCompare .Eq u (.ref x)) Q E s := by
  have X := X₀.keeps F0.keep
  have one : wpAny (model prog w) A (tryCompare (.ref x) "__eq__" u) (fun r s' => ∃ v, r = some v ∧ Q v s') E s := by
    unfold tryCompare
    refine wpAny_bind (PySem.W.ifBound_K X I hs hf (wpAny_mono h (fun v s' hv => ?_) fun _ _ e => e))
    cases v <;> first | exact hv.elim | exact wpAny_pure ⟨_, rfl, hv⟩
  have hi : cmpInfo .Eq = ("==", ("__eq__" : Str), ("__eq__" : Str)) := rfl
  unfold richCompare
  simp only [hi, ht.oneThing_none]
  refine wpAny_holding (wpAny_bind (wpAny_cRoomFor hu ?_))
  refine wpAny_bind (wpAny_typeOf ht (wpAny_bind (I.type.here ?_)))
  have hne : (Value.type T != Value.ref C) = true := by simp
  simp only [hne, if_true]
  refine wpAny_bind ((looks_mroIn X hm).here ?_)
  simp only [Bool.false_eq_true, if_false, Bool.not_false, if_true]
  refine wpAny_bind (m := tryCompare u _ (.ref x)) (wpAny_tryCompare_declines ht S (hd _ _ ⟨rfl, ?_⟩))
  refine wpAny_bind (m := tryCompare (.ref x) _ u) (wpAny_mono one (fun r s' z => ?_) fun _ _ e => e)
  obtain ⟨v, rfl, hq⟩ := z
  exact wpAny_pure hq
theorem dec_int {i : Int} {t : Tok} (I : InstAt s.heap x ox C od) (hd : ox.data = .plain) : Declines prog w E (.int i t) x "int.__eq__" s := fun A Q' q => by
  refine GQ.call_here F.slot_int_eq rfl F.entry_int_eq (F.args_int_eq_2 _ _) ?_
  obtain ⟨cls, dd, data, sl⟩ := ox
  have hl := I.at_
  simp only at hd
  subst hd
  obtain ⟨hp, g, d, tk, os⟩ := s
  wp_walk using wpAny_loadPart' hl, wpAny_load hl
  exact q
theorem dec_bool {i : Bool} (I : InstAt s.heap x ox C od) (hd : ox.data = .plain) : Declines prog w E (.bool i) x "int.__eq__" s := fun A Q' q => by
  refine GQ.call_here F.slot_bool_eq rfl F.entry_int_eq (F.args_int_eq_2 _ _) ?_
  obtain ⟨cls, dd, data, sl⟩ := ox
  have hl := I.at_
  simp only at hd
  subst hd
  obtain ⟨hp, g, d, tk, os⟩ := s
  wp_walk using wpAny_loadPart' hl, wpAny_load hl
  exact q
theorem dec_str {i : Str} {t : Tok} (I : InstAt s.heap x ox C od) (hd : ox.data = .plain) : Declines prog w E (.str i t) x "str.__eq__" s := fun A Q' q => by
  refine GQ.call_here F.slot_str_eq rfl F.entry_str_eq (F.args_str_eq_2 _ _) ?_
  obtain ⟨cls, dd, data, sl⟩ := ox
  have hl := I.at_
  simp only at hd
  subst hd
  obtain ⟨hp, g, d, tk, os⟩ := s
  wp_walk using wpAny_loadPart' hl, wpAny_load hl
  exact q
theorem dec_none (I : InstAt s.heap x ox C od) : Declines prog w E .none x "NoneType.__eq__" s := fun A Q' q => by
  refine GQ.call_here F.slot_NoneType_eq rfl F.entry_NoneType_eq (F.args_NoneType_eq_2 _ _) ?_
  obtain ⟨hp, g, d, tk, os⟩ := s
  wp_walk
  exact q
theorem dec_tuple {l : Addr} {o : Obj} (X : K.In s.heap) (I : InstAt s.heap x ox C od) (ho : s.heap.get? l = some o) (hc : o.cls = .type "tuple") (hm : mroIn K C (.type "tuple") = some false) : Declines prog w E (.ref l) x "tuple.__eq__" s := fun A Q' q => by
  refine GQ.call_here F.slot_tuple_eq ⟨_, ho, hc⟩ F.entry_tuple_eq (F.args_tuple_eq_2 _ _) ?_
  have LC := looks_mroIn (M := model prog w) X hm
  have L0 := I.type (M := model prog w)
  obtain ⟨hp, g, d, tk, os⟩ := s
  wp_walk using wpAny_loadPart' ho, L0.at, LC.at
  exact q
theorem dec_list {l : Addr} {o : Obj} (X : K.In s.heap) (I : InstAt s.heap x ox C od) (ho : s.heap.get? l = some o) (hc : o.cls = .type "list") (hm : mroIn K C (.type "list") = some false) : Declines prog w E (.ref l) x "list.__eq__" s := fun A Q' q => by
  refine GQ.call_here F.slot_list_eq ⟨_, ho, hc⟩ F.entry_list_eq (F.args_list_eq_2 _ _) ?_
  have LC := looks_mroIn (M := model prog w) X hm
  have L0 := I.type (M := model prog w)
  obtain ⟨hp, g, d, tk, os⟩ := s
  wp_walk using wpAny_loadPart' ho, L0.at, LC.at
  exact q
theorem dec_dict {l : Addr} {o : Obj} (X : K.In s.heap) (I : InstAt s.heap x ox C od) (ho : s.heap.get? l = some o) (hc : o.cls = .type "dict") (hm : mroIn K C (.type "dict") = some false) : Declines prog w E (.ref l) x "dict.__eq__" s := fun A Q' q => by
  refine GQ.call_here F.slot_dict_eq ⟨_, ho, hc⟩ F.entry_dict_eq (F.args_dict_eq_2 _ _) ?_
  have LC := looks_mroIn (M := model prog w) X hm
  have L0 := I.type (M := model prog w)
  obtain ⟨hp, g, d, tk, os⟩ := s
  wp_walk using wpAny_loadPart' ho, L0.at, LC.at
  exact q
end
section
variable {X : Cx} {pins : List (Addr × Obj)} {σ : L2.St} {H : Hp} {s : Shared} {W : WX}
/-- what stands on the left gives way -/
structure RefC (K : Frag) (C : Addr) : Prop where
  bi : ∀ T ∈ BI7, PySem.W.mroIn K C (.type T) = some false
theorem gives_way {E : Value → Shared → Prop} {v : V} {u : Value} {T : String} {x C : Addr} {ox : Obj} {od : Option Obj} (I : Inv X pins σ H s) (rv : RelV v u) (ty : TyX X.K H v (.type T)) (hT : T ∈ BI7) (J : PySem.W.InstAt s.heap x ox C od) (hp : ox.data = .plain) (r : RefC X.K C) :
    ∃ id, s.TypeIs u T ∧ Slot T "__eq__" id ∧ Declines X.prog X.w E u x id s := by
  have hm := r.bi T hT
  have tup : ∀ {a : Addr} {o : Obj}, T = "tuple" → u = .ref a → s.heap.get? a = some o → o.cls = .type "tuple" → ∃ id, s.TypeIs u T ∧ Slot T "__eq__" id ∧ Declines X.prog X.w E u x id s := fun eT eu h1 h2 => by
    subst eT eu; exact ⟨_, ⟨_, h1, h2⟩, F.slot_tuple_eq, dec_tuple I.kIn J h1 h2 hm⟩
  have lst : ∀ {a : Addr} {o : Obj}, T = "list" → u = .ref a → s.heap.get? a = some o → o.cls = .type "list" → ∃ id, s.TypeIs u T ∧ Slot T "__eq__" id ∧ Declines X.prog X.w E u x id s := fun eT eu h1 h2 => by
    subst eT eu; exact ⟨_, ⟨_, h1, h2⟩, F.slot_list_eq, dec_list I.kIn J h1 h2 hm⟩
  have dct : ∀ {a : Addr} {o : Obj}, T = "dict" → u = .ref a → s.heap.get? a = some o → o.cls = .type "dict" → ∃ id, s.TypeIs u T ∧ Slot T "__eq__" id ∧ Declines X.prog X.w E u x id s := fun eT eu h1 h2 => by
    subst eT eu; exact ⟨_, ⟨_, h1, h2⟩, F.slot_dict_eq, dec_dict I.kIn J h1 h2 hm⟩
  generalize hTT : Value.type T = TT at ty
  cases ty with
  | base b =>
    cases b with
    | non => cases hTT; cases (show u = Value.none from rv); exact ⟨_, rfl, F.slot_NoneType_eq, dec_none J⟩
    | bl y => cases hTT; cases (show u = Value.bool y from rv); exact ⟨_, rfl, F.slot_bool_eq, dec_bool J hp⟩
    | int i => cases hTT; obtain ⟨t, q⟩ := (show ∃ t, u = Value.int i t from rv); cases q; exact ⟨_, rfl, F.slot_int_eq, dec_int J hp⟩
    | str y => cases hTT; obtain ⟨t, q⟩ := (show ∃ t, u = Value.str y t from rv); cases q; exact ⟨_, rfl, F.slot_str_eq, dec_str J hp⟩
    | flt y => cases hTT; simp [BI7] at hT
    | @lst a xs ea =>
      cases hTT
      cases (show u = Value.ref a from rv)
      obtain ⟨_, _, n, _, h1⟩ := (show ObjOk X.prog X.w H s.heap a (.lst xs) from I.hok a _ ea)
      exact lst rfl rfl h1 rfl
    | @frz a ob xs ea =>
      cases hTT
      cases (show u = Value.ref a from rv)
      obtain ⟨_, _, _, n, _, h1⟩ := (show ObjOk X.prog X.w H s.heap a (.frz ob (.lst xs)) from I.hok a _ ea)
      exact lst rfl rfl h1 rfl
    | @tup a xs ea =>
      cases hTT
      cases (show u = Value.ref a from rv)
      obtain ⟨_, _, _, o, h1, h2, _⟩ := (show ObjOk X.prog X.w H s.heap a (.tup xs) from I.hok a _ ea)
      exact tup rfl rfl h1 h2
    | @dK a kvs ea =>
      cases hTT
      cases (show u = Value.ref a from rv)
      obtain ⟨_, _, vs, _, o, es, ep, h1, h2, _⟩ := (show ObjOk X.prog X.w H s.heap a (.dK kvs) from I.hok a _ ea)
      exact dct rfl rfl h1 h2.1
    | @dT a kvs ea =>
      cases hTT
      cases (show u = Value.ref a from rv)
      obtain ⟨_, _, xs, _, o, es, ep, h1, h2, _⟩ := (show ObjOk X.prog X.w H s.heap a (.dT kvs) from I.hok a _ ea)
      exact dct rfl rfl h1 h2.1
    | ins => cases hTT
  | byt y => cases hTT; simp [BI7] at hT
  | set => cases hTT; simp [BI7] at hT
  | @kList a o e c =>
    cases hTT
    cases (show u = Value.ref a from rv)
    exact lst rfl rfl (I.kIn a o e) c
  | @kTuple a o e c =>
    cases hTT
    cases (show u = Value.ref a from rv)
    exact tup rfl rfl (I.kIn a o e) c
  | @kDict a o e c =>
    cases hTT
    cases (show u = Value.ref a from rv)
    exact dct rfl rfl (I.kIn a o e) c
  | @fTuple a ob xs ea =>
    cases hTT
    cases (show u = Value.ref a from rv)
    obtain ⟨_, _, _, _, o, h1, h2, _⟩ := (show ObjOk X.prog X.w H s.heap a (.frz ob (.tup xs)) from I.hok a _ ea)
    exact tup rfl rfl h1 h2
  | @fDict a ob kvs ea =>
    cases hTT
    cases (show u = Value.ref a from rv)
    obtain ⟨_, _, _, vs, _, o, es, ep, h1, h2, _⟩ := (show ObjOk X.prog X.w H s.heap a (.frz ob (.dK kvs)) from I.hok a _ ea)
    exact dct rfl rfl h1 h2.1
def rEqR (c : Str) (sp : SpD) : D → D → HH → QD → Prop := fun x y G Q => ∃ k ns ds, TyD G x (.bi k) ∧ k ∈ BI7 ∧ InsD G y c ns ds ∧ sp [y, x] G (fun v G1 => ∃ b, v = .bl b ∧ Q (.bl b) G1) (fun _ _ => False)
theorem oEqR {k : Nat} {f C : Addr} {fd : FuncData} {ps : List Str} {sp : SpD} {c : Str} (hC : gaddr X.K c = some C) (hm : Meth X.K C "__eq__" f) (he : RefC X.K C) (F : FnG X.prog X.w X.K X.mg X.base k f fd ps sp) (hg : X.A.guards = some []) (hr : Room k X.A) (hb : Binds X.K fd ps []) : OpD X (compareOp .Eq) (rEqR c sp) :=
  ⟨fun x y H Q => ∃ a dx fs T, y = .ref a ∧ H a = some (.ins C dx fs) ∧ TyX X.K H x (.type T) ∧ T ∈ BI7 ∧ lsp X.K sp [y, x] H (fun v H1 => ∃ b, v = .bl b ∧ Q (.bl b) H1) E0, fun pins s σ H x y v u Q I rx ry ⟨a, dx, fs, T, ey, ha, ht, hT, q⟩ => by
    subst ey
    obtain rfl : u = Value.ref a := ry
    obtain ⟨m, fr⟩ := fr_of I
    obtain ⟨ox, od, J, hp⟩ := inst_of I ha
    obtain ⟨id, t1, t2, t3⟩ := gives_way (E := X.xe) I rx ht hT J hp he
    show wpAny _ _ (richCompare .Eq _ _) _ _ _
    refine refl_K hr.units0 fr I.ok.mod.kin J t1 t2 (he.bi T hT) t3 hm.at_ hm.fn (wpAny_mono (run_at F hg hr I.env0 hb I (us := [.ref a, v]) (.cons (vref a) (.cons rx .nil)) q) (fun r s' hr' => ?_) fun _ _ z => z)
    obtain ⟨w, H', J', rw', b, ew, q'⟩ := hr'
    subst ew
    obtain rfl : r = Value.bool b := rw'
    exact ⟨.bl b, H', J', rfl, q'⟩, fun x y H Q dx dy G QD hR px py ⟨k', ns, ds, ht, hk, hi, q⟩ hq => by
    obtain ⟨a, C', dx', xs, e1, h1, h2, h3, h4⟩ := hi.of hR py
    rw [hC] at h1; cases h1
    obtain ⟨t, t1, t2⟩ := ht.of hR px
    obtain rfl : t = .type k' := t2
    subst e1
    refine ⟨a, dx', _, k', rfl, h2, t1, hk, lsp0 hR (.cons py (.cons px .nil)) q fun v H' d G' s' r' p' ⟨b, e, z⟩ => ?_⟩
    subst e; cases p'
    exact ⟨b, rfl, hq _ _ _ _ s' r' (.bl _) z⟩⟩
theorem st_eqR {G : HH} {Q : QD} {c : Str} {T : String} {ns : List Str} {ds : List D} {sp : SpD} {x : D} (ht : TyD G x (.bi T)) (hT : T ∈ BI7) (h : sp [.obj c ns ds, x] G (fun v G1 => ∃ b, v = .bl b ∧ Q (.bl b) G1) (fun _ _ => False)) : rEqR c sp x (.obj c ns ds) G Q := ⟨T, ns, ds, ht, hT, .obj c ns ds, h⟩
end
end DL

namespace DL
open PySem PySem.Spec PyProof.Rows L2
open PySem.W (Frag)
/-! ### a comprehension's list that changes later: as one that is frozen, then put -/
section
variable {σ : SD} {G : HH} {Q : QD} {ok : HH → Prop} {g : Tgt} {tt : TTD} {te : TED} {vs : List Nat} {items : List D}
theorem lc_mut (h : LcG true items ok g tt te vs σ G (fun x G' => ∀ p, G p = none → G' p = none → ∀ acc, x = .lst acc → Q (.ref p) (gput G' p (.lst acc)))) : LcG false items ok g tt te vs σ G Q := by
  intro p hp
  obtain ⟨Iv, h1, h2, h3, h4⟩ := h p hp
  refine ⟨Iv, h1, h2, h3, fun G2 hI => ?_⟩
  obtain ⟨acc, e, hq⟩ := h4 G2 hI
  refine ⟨acc, e, ?_⟩
  rw [if_pos rfl] at hq
  rw [if_neg Bool.false_ne_true]
  have := hq p hp gdel_same acc rfl
  have eq : gput (gdel G2 p) p (.lst acc) = G2 := by
    funext b
    by_cases hb : b = p
    · subst hb; rw [gput_same, e]
    · rw [gput_ne hb, gdel_ne hb]
  rwa [eq] at this
end
end DL

namespace DL
open PySem PySem.Spec PyProof.Rows L2
open PySem.W (Frag)
/-! ### list(text) -/
def chrsV (z : Str) : List V := z.cps.toList.map fun c => V.str ⟨#[c]⟩
theorem call_list_text {X : Cx} (hc : X.calm = true) : CallR X (.type "list") (fun xs H Q => ∃ z, xs = [.str z] ∧ z.cps.size ≤ sizeLine ∧ ∀ q, H q = none → Q (.ref q) (upd H q (.lst (chrsV z)))) := by
  intro pins s σ H xs us Q I r h
  obtain ⟨z, e, hz, q⟩ := h
  subst e
  obtain ⟨u, eu, rx⟩ := vals1 r
  subst eu
  obtain ⟨t, rfl⟩ := rx
  refine PySem.call_list_str (I.ok.hd hc) z t (fun h' tk acc' c' hkeep hS hacc => ?_) hz
  refine ⟨.ref s.heap.objs.size, upd H s.heap.objs.size (.lst (chrsV z)), I.laid hkeep (Nat.le_refl _) (show ObjOk X.prog X.w _ _ _ (.lst (chrsV z)) from ⟨?_, acc'.toList, c', ?_, hS⟩), rfl, q _ (I.hok.fresh (Nat.le_refl _))⟩
  · simpa [chrsV] using hz
  · have el : acc'.toList.length = acc'.size := by simp
    refine vals_of_at (by rw [chrsV, List.length_map, el, hacc.1]; simp) fun j x w h1 h2 => ?_
    obtain ⟨c, u, hcu, hw⟩ := hacc.2 j w (by rw [← Array.getElem?_toList]; exact h2)
    unfold chrsV at h1
    rw [List.getElem?_map, Array.getElem?_toList, hcu] at h1
    cases h1
    exact ⟨u, hw⟩
def kListS : RCD := c1 fun x G Q => ∃ z, x = .str z ∧ z.cps.size ≤ sizeLine ∧ Q (.lst (chrs z)) G
theorem rps_chrs {K : Frag} {H : Hp} {G : HH} (z : Str) : Rps K H G (chrs z) (chrsV z) := by
  unfold chrs chrsV
  generalize z.cps.toList = l
  induction l with
  | nil => exact .nil
  | cons c l ih => exact .cons (.str _) ih
theorem cListS {X : Cx} (hc : X.calm = true) : CallD X (.type "list") kListS := ⟨_, call_list_text hc, fun xs H Q ds G QD hR hp ⟨x, e, z, ez, hz, q⟩ hq => by
  subst e
  obtain ⟨v, rfl, p⟩ := rps1 hp
  subst ez
  cases p
  exact ⟨z, rfl, hz, fun l hl => hq.lst hR hl (rps_chrs z) q⟩⟩
theorem st_listS {z : Str} {G : HH} {Q : QD} (hz : z.cps.size ≤ sizeLine) (h : Q (.lst (chrs z)) G) : kListS [.str z] G Q := ⟨_, rfl, z, rfl, hz, h⟩
end DL

namespace DL
open PySem PySem.Spec PyProof.Rows L2
open PySem.W (Frag)
/-! ### operators of an own class with a number beside it -/
section
variable {prog : Program} {w : World} {A : Around} {E : Value → Shared → Prop} {s : Shared} {K : Frag} {x C L f g : Addr} {h₀ : Heap} {m : Str → Option Value} {ox : Obj} {od : Option Obj} {name : Str} {a b tb : Value} {nm : String}
open PySem.W (InstAt findIn isFn mroIn notFirst looks_findIn looks_mroIn looks_subIn subIn Looks selfFirst)
/-- int op own: the number gives way -/
theorem rbin_K {op : Operator} {T id : String} {fo ro : Option Value} {Q : Value → Shared → Prop} (F0 : Fr h₀ L s.heap m) (X₀ : K.In h₀) (I : InstAt s.heap x ox C od) (ht : s.TypeIs a T) (S : Slot T (PySem.dunder op.info.2) id) (hc : selfFirst K C = true)
    (hs : findIn K (.ref C) (PySem.dunder op.info.2) = some (some (.ref f))) (hr : findIn K (.ref C) (dunderR op.info.2) = some (some (.ref g))) (hg : isFn K (.ref g) = true)
    (h1 : findIn K (.type T) (PySem.dunder op.info.2) = some fo) (h2 : findIn K (.type T) (dunderR op.info.2) = some ro) (hfo : ((fo.isSome && !isSeqSlot fo) || (ro.isSome && !isSeqSlot ro)) = true) (hm : mroIn K C (.type T) = some false)
    (hd : Declines prog w E a x id s)
    (h : wpAny (model prog w) A (call (.ref g) [.ref x, a]) (PySem.W.CmpBack Q) E s) : wpAny (model prog w) A (binaryOp op a (.ref x)) Q E s := by
  have X := X₀.keeps F0.keep
  obtain ⟨cd, rest, hcd, hmr⟩ := PySem.W.ksp_first hc
  rcases hi : op.info with ⟨sym, nm'⟩
  rw [hi] at hs hr h1 h2 S
  dsimp only at hs hr h1 h2 S
  have one := PySem.W.ksp_try (A := A) X I hr hg h
  have L4 := PySem.W.ksp_fillsT (M := model prog w) X h1 h2
  rw [hfo] at L4
  have hne : (Value.type T == Value.ref C) = false := by simp
  simp only [binaryOp, hi]
  refine wpAny_holding (wpAny_bind ?_)
  unfold binaryOp1
  refine wpAny_bind (wpAny_typeOf ht (wpAny_bind (I.type.here (wpAny_bind (L4.here ?_)))))
  simp only [hne, Bool.false_eq_true, if_false]
  refine wpAny_bind ((PySem.W.fills_K X hcd hmr hs).here ?_)
  simp only [Bool.and_self, if_true]
  refine wpAny_bind ((looks_mroIn X hm).here ?_)
  simp only [Bool.false_eq_true, if_false, Bool.not_false, Bool.and_true, Bool.and_self, if_true]
  refine wpAny_bind (wpAny_pure ?_)
  simp only [Bool.false_eq_true, if_false]
  refine wpAny_bind (m := tryMethod a _ (.ref x)) (wpAny_tryMethod_declines ht S (hd _ _ ⟨rfl, ?_⟩))
  dsimp only
  refine wpAny_bind (m := tryMethod (.ref x) _ a) (wpAny_mono one (fun r s' z => ?_) fun _ _ e => e)
  obtain ⟨v, rfl, hq⟩ := z
  refine wpAny_bind (wpAny_rule (wpAny_pure (wpAny_pure ?_)))
  exact hq
theorem dec_iadd {i : Int} {t : Tok} (I : InstAt s.heap x ox C od) (hd : ox.data = .plain) : Declines prog w E (.int i t) x "int.__add__" s := fun A Q' q => by
  refine GQ.call_here F.slot_int_add rfl F.entry_int_add (F.args_int_add_2 _ _) ?_
  obtain ⟨cls, dd, data, sl⟩ := ox
  have hl := I.at_
  simp only at hd
  subst hd
  obtain ⟨hp, g, d, tk, os⟩ := s
  wp_walk using wpAny_loadPart' hl, wpAny_load hl
  exact q
theorem dec_isub {i : Int} {t : Tok} (I : InstAt s.heap x ox C od) (hd : ox.data = .plain) : Declines prog w E (.int i t) x "int.__sub__" s := fun A Q' q => by
  refine GQ.call_here F.slot_int_sub rfl F.entry_int_sub (F.args_int_sub_2 _ _) ?_
  obtain ⟨cls, dd, data, sl⟩ := ox
  have hl := I.at_
  simp only at hd
  subst hd
  obtain ⟨hp, g, d, tk, os⟩ := s
  wp_walk using wpAny_loadPart' hl, wpAny_load hl
  exact q
theorem dec_imul {i : Int} {t : Tok} (I : InstAt s.heap x ox C od) (hd : ox.data = .plain) : Declines prog w E (.int i t) x "int.__mul__" s := fun A Q' q => by
  refine GQ.call_here F.slot_int_mul rfl F.entry_int_mul (F.args_int_mul_2 _ _) ?_
  obtain ⟨cls, dd, data, sl⟩ := ox
  have hl := I.at_
  simp only at hd
  subst hd
  obtain ⟨hp, g, d, tk, os⟩ := s
  wp_walk using wpAny_loadPart' hl, wpAny_load hl
  exact q
end
/-- an int beside an instance of the class at C: on the right .. -/
structure OpI (K : Frag) (C : Addr) (nm : String) : Prop where
  rc : ∃ rc, PySem.W.findIn K (.ref C) (dunderR nm) = some rc ∧ (rc = none ∨ ∃ g : Addr, rc = some (.ref g))
  fi : ∃ fo, PySem.W.findIn K (.type "int") (PySem.dunder nm) = some fo
  ri : ∃ ro, PySem.W.findIn K (.type "int") (dunderR nm) = some ro
  sub : PySem.W.subIn K (.type "int") (.ref C) = some false
/-- .. and on the left -/
structure OpRC (K : Frag) (C g : Addr) (nm : String) (id : String) : Prop where
  hs : ∃ f : Addr, PySem.W.findIn K (.ref C) (PySem.dunder nm) = some (some (.ref f))
  fi : PySem.W.findIn K (.type "int") (PySem.dunder nm) = some (some (.builtin id))
  ri : ∃ ro, PySem.W.findIn K (.type "int") (dunderR nm) = some ro
  mr : PySem.W.mroIn K C (.type "int") = some false
  nq : isSeqSlot (some (.builtin id)) = false
  sl : Slot "int" (PySem.dunder nm) id
  dc : ∀ {prog : Program} {w : World} {E : Value → Shared → Prop} {s : Shared} {x : Addr} {ox : Obj} {od : Option Obj} {i : Int} {t : Tok}, PySem.W.InstAt s.heap x ox C od → ox.data = .plain → Declines prog w E (.int i t) x id s
section
variable {X : Cx} {W : WX} {a b : Expr} {pos : Pos} {ta tb : TED} {k : Nat} {f C : Addr} {fd : FuncData} {ps : List Str} {sp : SpD}
def dOpI (c : Str) (sp : SpD) (ta tb : TED) : TED := fun σ G Q E => ta σ G (fun x G1 => tb σ G1 (fun y G2 => ∃ ns ds i, InsD G2 x c ns ds ∧ y = .int i ∧ sp [x, y] G2 Q E) E) E
theorem de_opI {c : Str} {op : Operator} {m : Str} (hC : gaddr X.K c = some C) (hsf : PySem.W.selfFirst X.K C = true) (hm : Meth X.K C m f) (em : PySem.dunder op.info.2 = m) (hi : OpI X.K C op.info.2) (F : FnG X.prog X.w X.K X.mg X.base k f fd ps sp) (hg : X.A.guards = some []) (hr : Room k X.A) (hb : Binds X.K fd ps []) (tk : Takes X W)
    (ha : DE X W a ta) (hb' : DE X W b tb) : DE X W (.BinOp a op b pos) (dOpI c sp ta tb) := by
  have ha1 : PE X a (lft X.K W ta) := ha
  have hb1 : PE X b (lft X.K W tb) := hb'
  refine ⟨fun pins s σ H Q I ⟨σD, G, QD, E, hR, hS, q, hq, hE⟩ => ?_⟩
  refine wpAny_BinOp (binT ha1 hb1 (R := fun x y H2 => ∃ aa dx fs i, x = .ref aa ∧ y = .int i ∧ H2 aa = some (.ins C dx fs) ∧ lsp X.K sp [x, y] H2 Q (WE W σ)) I ?_ fun v u s2 x y H2 I2 rx ry ⟨aa, dx, fs, i, ex, ey, ea, hl⟩ => ?_)
  · refine ⟨σD, G, _, E, hR, hS, q, fun v1 H1 d1 G1 s1 r1 p1 q1 => ?_, hE⟩
    refine ⟨σD, G1, _, E, r1, hS.mono s1, q1, fun v2 H2 d2 G2 s2 r2 p2 ⟨ns, ds, i, hi, ei, q2⟩ => ?_, hE.mono s1⟩
    have p1' := p1.mono s2
    obtain ⟨aa, C1, dx, xs, e1, h1, h2, _, _⟩ := hi.of r2 p1'
    rw [hC] at h1; cases h1
    subst ei
    have ev : v2 = .int i := by cases p2; rfl
    exact ⟨aa, dx, _, i, e1, ev, h2, [d1, .int i], G2, QD, E, r2, .cons p1' (.cons p2 .nil), q2, hq.mono (s1.trans s2), fun xd cls d' H' G' s' r' p' z' => hE _ _ _ _ _ ((s1.trans s2).trans s') r' p' z'⟩
  · subst ex; subst ey
    obtain rfl : v = Value.ref aa := rx
    obtain ⟨t, rfl⟩ := ry
    obtain ⟨m', fr⟩ := fr_of I2
    obtain ⟨ox, od, J, _⟩ := inst_of I2 ea
    obtain ⟨rc, hrc, hp⟩ := hi.rc
    obtain ⟨fo, hfo⟩ := hi.fi
    obtain ⟨ro, hro⟩ := hi.ri
    refine PySem.W.ksp_binT fr I2.ok.mod.kin J rfl hsf (by rw [em]; exact hm.at_) hm.fn hrc hp hfo hro hi.sub (wpAny_mono (run_call F hg hr hb tk I2 (us := [.ref aa, .int i t]) (vs := [.ref aa, .int i]) (.cons (vref aa) (.cons ⟨_, rfl⟩ .nil)) hl) (fun r s' hr' => ?_) fun _ _ z => z)
    obtain ⟨w, H', J', rw', q'⟩ := hr'
    cases r <;> first | exact ⟨w, H', J', rw', q'⟩ | (cases w <;> first | exact (nomatch rw') | (obtain ⟨_, z⟩ := rw'; cases z))
/-- int op own, by the reflected method -/
def dOpR (c : Str) (sp : SpD) (ta tb : TED) : TED := fun σ G Q E => ta σ G (fun x G1 => tb σ G1 (fun y G2 => ∃ ns ds i, InsD G2 y c ns ds ∧ x = .int i ∧ sp [y, x] G2 Q E) E) E
theorem de_opR {c : Str} {op : Operator} {m : Str} {id : String} (hC : gaddr X.K c = some C) (hsf : PySem.W.selfFirst X.K C = true) (hm : Meth X.K C m f) (em : dunderR op.info.2 = m) (hi : OpRC X.K C f op.info.2 id) (F : FnG X.prog X.w X.K X.mg X.base k f fd ps sp) (hg : X.A.guards = some []) (hr : Room k X.A) (hb : Binds X.K fd ps []) (tk : Takes X W)
    (ha : DE X W a ta) (hb' : DE X W b tb) : DE X W (.BinOp a op b pos) (dOpR c sp ta tb) := by
  have ha1 : PE X a (lft X.K W ta) := ha
  have hb1 : PE X b (lft X.K W tb) := hb'
  refine ⟨fun pins s σ H Q I ⟨σD, G, QD, E, hR, hS, q, hq, hE⟩ => ?_⟩
  refine wpAny_BinOp (binT ha1 hb1 (R := fun x y H2 => ∃ aa dx fs i, y = .ref aa ∧ x = .int i ∧ H2 aa = some (.ins C dx fs) ∧ lsp X.K sp [y, x] H2 Q (WE W σ)) I ?_ fun v u s2 x y H2 I2 rx ry ⟨aa, dx, fs, i, ex, ey, ea, hl⟩ => ?_)
  · refine ⟨σD, G, _, E, hR, hS, q, fun v1 H1 d1 G1 s1 r1 p1 q1 => ?_, hE⟩
    refine ⟨σD, G1, _, E, r1, hS.mono s1, q1, fun v2 H2 d2 G2 s2 r2 p2 ⟨ns, ds, i, hi, ei, q2⟩ => ?_, hE.mono s1⟩
    have p1' := p1.mono s2
    obtain ⟨aa, C1, dx, xs, e1, h1, h2, _, _⟩ := hi.of r2 p2
    rw [hC] at h1; cases h1
    subst ei
    have ev : v1 = .int i := by cases p1; rfl
    exact ⟨aa, dx, _, i, e1, ev, h2, [d2, .int i], G2, QD, E, r2, .cons p2 (.cons p1' .nil), q2, hq.mono (s1.trans s2), fun xd cls d' H' G' s' r' p' z' => hE _ _ _ _ _ ((s1.trans s2).trans s') r' p' z'⟩
  · subst ex; subst ey
    obtain rfl : u = Value.ref aa := ry
    obtain ⟨t, rfl⟩ := rx
    obtain ⟨m', fr⟩ := fr_of I2
    obtain ⟨ox, od, J, hp⟩ := inst_of I2 ea
    obtain ⟨g, hgg⟩ := hi.hs
    obtain ⟨ro, hro⟩ := hi.ri
    refine rbin_K (T := "int") fr I2.ok.mod.kin J rfl hi.sl hsf hgg (by rw [em]; exact hm.at_) hm.fn hi.fi hro (by rw [hi.nq]; rfl) hi.mr (hi.dc J hp) (wpAny_mono (run_call F hg hr hb tk I2 (us := [.ref aa, .int i t]) (vs := [.ref aa, .int i]) (.cons (vref aa) (.cons ⟨_, rfl⟩ .nil)) hl) (fun r s' hr' => ?_) fun _ _ z => z)
    obtain ⟨w, H', J', rw', q'⟩ := hr'
    cases r <;> first | exact ⟨w, H', J', rw', q'⟩ | (cases w <;> first | exact (nomatch rw') | (obtain ⟨_, z⟩ := rw'; cases z))
end
end DL

namespace DL
open PySem PySem.Spec PyProof.Rows L2
open PySem.W (Frag)
section
variable {X : Cx} {W : WX} {a b : Expr} {pos : Pos} {ta tb : TED} {k : Nat} {f C : Addr} {fd : FuncData} {ps : List Str} {sp : SpD}
/-! ### -o of an own class -/
def dNegO (c : Str) (sp : SpD) (ta : TED) : TED := fun σ G Q E => ta σ G (fun x G1 => ∃ ns ds, InsD G1 x c ns ds ∧ sp [x] G1 Q E) E
theorem de_negO {c : Str} (hC : gaddr X.K c = some C) (hm : Meth X.K C "__neg__" f) (F : FnG X.prog X.w X.K X.mg X.base k f fd ps sp) (hg : X.A.guards = some []) (hr : Room k X.A) (hb : Binds X.K fd ps []) (tk : Takes X W)
    (ha : DE X W a ta) : DE X W (.UnaryOp .USub a pos) (dNegO c sp ta) := by
  have ha1 : PE X a (lft X.K W ta) := ha
  refine ⟨fun pins s σ H Q I ⟨σD, G, QD, E, hR, hS, q, hq, hE⟩ => ?_⟩
  refine wpAny_UnaryOp (thn (ha1.run pins s σ H (fun x H1 => ∃ aa dx fs, x = .ref aa ∧ H1 aa = some (.ins C dx fs) ∧ lsp X.K sp [x] H1 Q (WE W σ)) I ?_) fun v s1 ⟨x, H1, I1, rx, aa, dx, fs, ex, ea, hl⟩ => ?_)
  · refine ⟨σD, G, _, E, hR, hS, q, fun v1 H1 d1 G1 s1 r1 p1 ⟨ns, ds, hi, q1⟩ => ?_, hE⟩
    obtain ⟨aa, C1, dx, xs, e1, h1, h2, _, _⟩ := hi.of r1 p1
    rw [hC] at h1; cases h1
    exact ⟨aa, dx, _, e1, h2, [d1], G1, QD, E, r1, .cons p1 .nil, q1, hq.mono s1, fun xd cls d' H' G' s' r' p' z' => hE _ _ _ _ _ (s1.trans s') r' p' z'⟩
  · subst ex
    obtain rfl : v = Value.ref aa := rx
    obtain ⟨m', fr⟩ := fr_of I1
    obtain ⟨ox, od, J, _⟩ := inst_of I1 ea
    exact PySem.W.ksp_neg fr I1.ok.mod.kin J hm.at_ hm.fn (run_call F hg hr hb tk I1 (us := [.ref aa]) (vs := [.ref aa]) (.cons (vref aa) .nil) hl)
theorem st_negO {σ : SD} {G : HH} {Q : QD} {E : ED} {c : Str} (h : ta σ G (fun x G1 => ∃ ns ds, InsD G1 x c ns ds ∧ sp [x] G1 Q E) E) : dNegO c sp ta σ G Q E := h
/-! ### o[i] of an own class, that raises nothing -/
def rGetO (c : Str) (sp : SpD) : D → D → HH → QD → Prop := fun x y G Q => ∃ ns ds, InsD G x c ns ds ∧ sp [x, y] G Q (fun _ _ => False)
theorem ixGetO {c : Str} {C : Addr} (hC : gaddr X.K c = some C) (hm : Meth X.K C "__getitem__" f) (hf : PySem.W.fnIn X.K f = true) (F : FnG X.prog X.w X.K X.mg X.base k f fd ps sp) (hg : X.A.guards = some []) (hr : Room (k + 1) X.A) (hb : Binds X.K fd ps [])
    (ha : DE X W a ta) (hb' : DE X W b tb) (hsl : ∀ (o : Addr) (i : Value), subscripted b true (.ref o) i = runValue (.builtin "lifetime.subscript" ⟨[.ref o, i], []⟩) := by intros; with_unfolding_all rfl) : DE X W (.Subscript a b pos) (dOp (rGetO c sp) ta tb) := by
  have ha1 : PE X a (lft X.K W ta) := ha
  have hb1 : PE X b (lft X.K W tb) := hb'
  refine ⟨fun pins s σ H Q I ⟨σD, G, QD, E, hR, hS, q, hq, hE⟩ => ?_⟩
  refine Subscript_ (binT ha1 hb1 (R := fun x y H2 => ∃ aa dx fs, x = .ref aa ∧ H2 aa = some (.ins C dx fs) ∧ lsp X.K sp [x, y] H2 Q E0) I ?_ fun v u s2 x y H2 I2 rx ry ⟨aa, dx, fs, ex, ea, hl⟩ => ?_)
  · refine ⟨σD, G, _, E, hR, hS, q, fun v1 H1 d1 G1 s1 r1 p1 q1 => ?_, hE⟩
    refine ⟨σD, G1, _, E, r1, hS.mono s1, q1, fun v2 H2 d2 G2 s2 r2 p2 ⟨ns, ds, hi, q2⟩ => ?_, hE.mono s1⟩
    have p1' := p1.mono s2
    obtain ⟨aa, C1, dx, xs, e1, h1, h2, _, _⟩ := hi.of r2 p1'
    rw [hC] at h1; cases h1
    exact ⟨aa, dx, _, e1, h2, lsp0 r2 (.cons p1' (.cons p2 .nil)) q2 (hq.mono (s1.trans s2))⟩
  · subst ex
    obtain rfl : v = Value.ref aa := rx
    obtain ⟨m', fr⟩ := fr_of I2
    obtain ⟨ox, od, J, _⟩ := inst_of I2 ea
    exact PySem.W.sub_K fr I2.ok.mod.kin J hm.at_ hf hm.fn (run_at F (guards_in1 hg) hr.in1 I2.env0.in1 hb I2 (us := [.ref aa, u]) (.cons (vref aa) (.cons ry .nil)) hl) (hsl aa u)
theorem st_getO {G : HH} {Q : QD} {c : Str} {x y : D} {ns : List Str} {ds : List D} (hi : InsD G x c ns ds) (h : sp [x, y] G Q (fun _ _ => False)) : rGetO c sp x y G Q := ⟨ns, ds, hi, h⟩
end
/-! ### != of instances without an own __eq__: by identity -/
section
variable {prog : Program} {w : World} {A : Around} {E : Value → Shared → Prop} {s : Shared} {K : Frag} {x y C L : Addr} {h₀ : Heap} {m : Str → Option Value} {ox oy : Obj} {od oe : Option Obj}
open PySem.W (InstAt findIn mroIn looks_findIn looks_mroIn Looks)
theorem check_eq {M : Model} {rest : List Value} {Q : Unit → Shared → Prop} (X : K.In s.heap) (I : InstAt s.heap x ox C od) (hm : mroIn K C (.type "object") = some true)
    (ha : argsOk "object.__eq__" ⟨.ref x :: rest, []⟩) (hq : Q () s) : wpAny M A (checkBuiltinCall "object.__eq__" ⟨.ref x :: rest, []⟩) Q E s := by
  have L0 := I.type (M := M)
  have L1 := looks_mroIn (M := M) X hm
  simp only [checkBuiltinCall, F.cmpKind_eq, F.cmpSplit_eq]
  refine wpAny_bind ?_
  unfold isInstance
  refine wpAny_bind (L0.here (L1.here ?_))
  simp only [Bool.not_true, Bool.false_eq_true, if_false]
  cases hsig : Manifest.signature? "object.__eq__" with
  | none => exact wpAny_pure hq
  | some sig =>
    simp only [argsOk, hsig] at ha
    have h2 : Bind.checkArgs "object.__eq__" sig ⟨.ref x :: rest, []⟩ = pure () := ha
    show wpAny M A (Bind.checkArgs "object.__eq__" sig ⟨.ref x :: rest, []⟩) Q E _
    rw [h2]; exact wpAny_pure hq
theorem special_id {Q : Option Value → Shared → Prop} (X : K.In s.heap) (I : InstAt s.heap x ox C od) (J : InstAt s.heap y oy C oe) (hm : mroIn K C (.type "object") = some true) (he : findIn K (.ref C) "__eq__" = some (some (.builtin "object.__eq__")))
    (h : Q (some (if x = y then .bool true else .notImplemented)) s) : wpAny (model prog w) A (callSpecialIfBound? (.ref x) "__eq__" [.ref y]) Q E s := by
  refine ifBound_bi X I he F.cmp_object.eq (wpAny_call (codeAny_call_builtin F.cmp_object.eq.plain F.cmpEntry_eq (check_eq X I hm (F.cmpArgs_eq _ _) ?_)))
  by_cases hxy : x = y
  · subst hxy
    rw [if_pos rfl] at h
    exact objEq_entry_same h
  · rw [if_neg hxy] at h
    have hc : ox.cls ≠ .type "tuple" := by rw [I.cls]; simp
    obtain ⟨hp, g, d, t, os⟩ := s
    exact objEq_entry_other hxy I.at_ J.at_ hc h
theorem try_ne_id {Q : Option Value → Shared → Prop} (hu : A.units + 1 < cLine) (X : K.In s.heap) (I : InstAt s.heap x ox C od) (J : InstAt s.heap y oy C oe) (hm : mroIn K C (.type "object") = some true) (he : findIn K (.ref C) "__eq__" = some (some (.builtin "object.__eq__")))
    (hn : findIn K (.ref C) "__ne__" = some (some (.builtin "object.__ne__"))) (h : Q (if x = y then some (.bool false) else none) s) : wpAny (model prog w) A (tryCompare (.ref x) "__ne__" (.ref y)) Q E s := by
  unfold tryCompare
  refine wpAny_bind (ifBound_bi X I hn F.cmp_object.ne (wpAny_call (codeAny_call_builtin F.cmp_object.ne.plain F.cmpEntry_ne (check_obj X I hm (F.cmpArgs_ne _ _) ?_))))
  unfold Builtin.«object.__ne__»
  repeat (first | with_reducible refine wpAny_cRoomFor (A := A.in1) hu ?_ | (with_reducible refine special_id X I J hm he ?_) | wp_step)
  by_cases hxy : x = y
  · rw [if_pos hxy] at h ⊢
    repeat wp_step
    exact h
  · rw [if_neg hxy] at h ⊢
    repeat wp_step
    exact h
theorem ne_id {Q : Value → Shared → Prop} (hu : A.units + 1 < cLine) (F0 : Fr h₀ L s.heap m) (X₀ : K.In h₀) (I : InstAt s.heap x ox C od) (J : InstAt s.heap y oy C oe) (hm : mroIn K C (.type "object") = some true) (he : findIn K (.ref C) "__eq__" = some (some (.builtin "object.__eq__")))
    (hn : findIn K (.ref C) "__ne__" = some (some (.builtin "object.__ne__"))) (h : Q (.bool (!decide (x = y))) s) : wpAny (model prog w) A (richCompare .NotEq (.ref x) (.ref y)) Q E s := by
  have X := X₀.keeps F0.keep
  unfold richCompare
  simp only [oneThing_ref]
  refine wpAny_holding (wpAny_bind (wpAny_cRoomFor (by omega) ?_))
  refine wpAny_bind (I.type.here (wpAny_bind (J.type.here ?_)))
  simp only [bne_self_eq_false, Bool.false_eq_true, if_false]
  refine wpAny_bind (wpAny_pure ?_)
  simp only [Bool.false_eq_true, if_false]
  refine wpAny_bind (m := tryCompare (.ref x) _ (.ref y)) (try_ne_id hu X I J hm he hn ?_)
  by_cases hxy : x = y
  · rw [if_pos hxy]
    rw [decide_eq_true hxy] at h
    exact wpAny_pure h
  · rw [if_neg hxy]
    rw [decide_eq_false hxy] at h
    simp only [Bool.not_false, if_true]
    refine wpAny_bind (m := tryCompare (.ref y) _ (.ref x)) (try_ne_id hu X J I hm he hn ?_)
    rw [if_neg (Ne.symm hxy)]
    have hc : ox.cls ≠ .type "tuple" := by rw [I.cls]; simp
    refine wpAny_bind (wpAny_rule (wpAny_bind ?_))
    obtain ⟨hp, g, d, t, os⟩ := s
    exact wpAny_isSame_ref_other hxy I.at_ J.at_ hc (wpAny_pure h)
end
structure IdC (K : Frag) (C : Addr) : Prop where
  mr : PySem.W.mroIn K C (.type "object") = some true
  eq : PySem.W.findIn K (.ref C) "__eq__" = some (some (.builtin "object.__eq__"))
  ne : PySem.W.findIn K (.ref C) "__ne__" = some (some (.builtin "object.__ne__"))
/-- two that may change -/
def rNeId (c : Str) : D → D → HH → QD → Prop := fun x y G Q => ∃ p q ns ds ns' ds', x = .ref p ∧ y = .ref q ∧ G p = some (.ins c ns ds) ∧ G q = some (.ins c ns' ds') ∧ Q (.bl (!decide (p = q))) G
theorem oNeId {X : Cx} {c : Str} {C : Addr} (hC : gaddr X.K c = some C) (hi : IdC X.K C) (hu : X.A.units + 1 < cLine) : OpD X (compareOp .NotEq) (rNeId c) :=
  ⟨fun x y H Q => ∃ a b dx fs dy gs, x = .ref a ∧ y = .ref b ∧ H a = some (.ins C dx fs) ∧ H b = some (.ins C dy gs) ∧ Q (.bl (!decide (a = b))) H, fun pins s σ H x y v u Q I rx ry ⟨a, b, dx, fs, dy, gs, ex, ey, ha, hb, q⟩ => by
    subst ex; subst ey
    obtain rfl : v = Value.ref a := rx
    obtain rfl : u = Value.ref b := ry
    obtain ⟨m, fr⟩ := fr_of I
    obtain ⟨ox, od, J, _⟩ := inst_of I ha
    obtain ⟨oy, oe, J2, _⟩ := inst_of I hb
    show wpAny _ _ (richCompare .NotEq _ _) _ _ _
    exact ne_id hu fr I.ok.mod.kin J J2 hi.mr hi.eq hi.ne ⟨.bl _, H, I, rfl, q⟩, fun x y H Q dx dy G QD hR px py ⟨p, q, ns, ds, ns', ds', ex, ey, g1, g2, h⟩ hq => by
    subst ex; subst ey
    cases px; cases py
    obtain ⟨C1, d1, xs1, h1, h2, _⟩ := hR _ _ g1
    obtain ⟨C2, d2, xs2, k1, k2, _⟩ := hR _ _ g2
    rw [hC] at h1 k1; cases h1; cases k1
    exact ⟨p, q, d1, _, d2, _, rfl, rfl, h2, k2, hq.now hR (.bl _) h⟩⟩
theorem st_neId {p q : Addr} {G : HH} {Q : QD} {c : Str} {ns ns' : List Str} {ds ds' : List D} (h1 : G p = some (.ins c ns ds)) (h2 : G q = some (.ins c ns' ds')) (h : Q (.bl (!decide (p = q))) G) : rNeId c (.ref p) (.ref q) G Q := ⟨p, q, ns, ds, ns', ds', rfl, rfl, h1, h2, h⟩
end DL

namespace DL
open PySem PySem.Spec PyProof.Rows L2
open PySem.W (Frag)
/-! ### zip of two tuples, of two lists -/
def zips (xs ys : List D) : List D := (xs.zip ys).map fun p => .tup [p.1, p.2]
def SqZ (x y : D) (G : HH) (R : List D → (HH → Prop) → HH → Prop) : Prop := (∃ xs ys, x = .tup xs ∧ y = .tup ys ∧ R (zips xs ys) okT G) ∨ ∃ xs ys, LsW G x xs ∧ LsW G y ys ∧ R (zips xs ys) (fun G' => okL x xs G' ∧ okL y ys G') G
def iZpD (t : TAD) : TID := fun σ G R E => t σ G (fun ds G1 => ∃ x y, ds = [x, y] ∧ SqZ x y G1 R) E
theorem zips_get {xs ys : List D} {i : Nat} {d : D} (h : (zips xs ys)[i]? = some d) : ∃ x y, xs[i]? = some x ∧ ys[i]? = some y ∧ d = .tup [x, y] := by
  unfold zips at h
  rw [List.getElem?_map] at h
  cases e : (xs.zip ys)[i]? with
  | none => rw [e] at h; cases h
  | some p =>
    rw [e] at h; cases h
    obtain ⟨h1, h2⟩ := List.getElem?_zip_eq_some.mp e
    exact ⟨p.1, p.2, h1, h2, rfl⟩
theorem zips_len {xs ys : List D} : (zips xs ys).length = min xs.length ys.length := by simp [zips]
theorem pair_new2 {K : Frag} {H : Hp} {G : HH} {T : Addr} {x y : V} {d e : D} (hn : H T = none) (r : RelH K H G) (p : Rp K H G d x) (q : Rp K H G e y) :
    Stp H G (upd H T (.tup [x, y])) G ∧ RelH K (upd H T (.tup [x, y])) G ∧ Rp K (upd H T (.tup [x, y])) G (.tup [d, e]) (.ref T) :=
  have st : Stp H G (upd H T (.tup [x, y])) G := .new hn
  ⟨st, r.new hn, .tup (.inl ⟨upd_same, r.free hn⟩) (.cons (p.mono st) (.cons (q.mono st) .nil))⟩
theorem di_zip {X : Cx} {W : WX} {a b : Expr} {t : TAD} {p pos tpos : Pos} {elts : List Expr} {kk : Nat} (hg : Gl X "zip") (hm : X.mg "zip" = none) (ha : DA X W [a, b] t)
    (hs : starEach [a, b] X.env = (false, eval a X.env) :: starEach [b] X.env := by rfl) (hpl : (backTo pos (starEach [b] X.env)).any (·.1) = false := by rfl) :
    DI X W (.Tuple elts kk tpos) (.Call (.Name "zip" p) [a, b] [] pos) (iZpD t) :=
  PI.imp (RZ.pi_zipA hg hm ha hs hpl) fun σ H R ⟨σD, G, RD, E, hR, hS, q, hr, he⟩ => ⟨σD, G, _, E, hR, hS, q, fun vs H1 ds G1 s r p1 ⟨x, y, ex, z⟩ => by
    subst ex
    obtain ⟨v, v2, rfl, p2, p3⟩ := rps2 p1
    rcases z with ⟨xs, ys, rfl, rfl, z⟩ | ⟨xs, ys, ls, ls2, z⟩
    · cases p2 with
      | @tup b us _ f rr =>
        cases p3 with
        | @tup b2 us2 _ f2 rr2 =>
          refine ⟨b, b2, us, us2, rfl, .inr ⟨f.sq, f2.sq, hr _ _ _ _ _ s r (fun i H2 G2 s2 r2 _ => ⟨fun d hd => ?_, fun hl => ⟨_, _, (f.mono s2).sq, (f2.mono s2).sq, by rw [zips_len] at hl; rw [← rr.length, ← rr2.length]; omega⟩⟩) z⟩⟩
          obtain ⟨y1, y2, hy1, hy2, rfl⟩ := zips_get hd
          obtain ⟨u, hu, pu⟩ := (rr.mono s2).get hy1
          obtain ⟨u2, hu2, pu2⟩ := (rr2.mono s2).get hy2
          refine ⟨⟨_, _, u, u2, (f.mono s2).sq, (f2.mono s2).sq, hu, hu2⟩, fun w H3 ⟨T, y', y2', ew, hn, e3, hy', hy2'⟩ => ?_⟩
          have t := hy' _ (f.mono s2).sq
          have t2 := hy2' _ (f2.mono s2).sq
          rw [hu] at t
          rw [hu2] at t2
          cases t; cases t2
          subst e3; subst ew
          exact pair_new2 hn r2 pu pu2
    · obtain ⟨b, us, rfl, h1, rr⟩ := ls.of r p2
      obtain ⟨b2, us2, rfl, h12, rr2⟩ := ls2.of r p3
      refine ⟨b, b2, us, us2, rfl, .inl ⟨h1, h12, hr _ _ _ _ _ s r (fun i H2 G2 s2 r2 ok2 => ?_) z⟩⟩
      obtain ⟨c, ws, e2, h2, r3⟩ := LsW.of ok2.1 r2 (p2.mono s2)
      obtain ⟨c2, ws2, e22, h22, r32⟩ := LsW.of ok2.2 r2 (p3.mono s2)
      cases e2; cases e22
      refine ⟨fun d hd => ?_, fun hl => ⟨_, _, h2, h22, by rw [zips_len] at hl; rw [← r3.length, ← r32.length]; omega⟩⟩
      obtain ⟨y1, y2, hy1, hy2, rfl⟩ := zips_get hd
      obtain ⟨u, hu, pu⟩ := r3.get hy1
      obtain ⟨u2, hu2, pu2⟩ := r32.get hy2
      refine ⟨⟨_, _, u, u2, h2, h22, hu, hu2⟩, fun w H3 ⟨T, y', y2', ew, hn, e3, hy', hy2'⟩ => ?_⟩
      have t := hy' _ h2
      have t2 := hy2' _ h22
      rw [hu] at t
      rw [hu2] at t2
      cases t; cases t2
      subst e3; subst ew
      exact pair_new2 hn r2 pu pu2, he⟩
section
variable {σ : SD} {G : HH} {E : ED} {t : TAD} {R : List D → (HH → Prop) → HH → Prop}
theorem st_iZp (h : t σ G (fun ds G1 => ∃ x y, ds = [x, y] ∧ SqZ x y G1 R) E) : iZpD t σ G R E := h
theorem st_zpT {xs ys : List D} (h : R (zips xs ys) okT G) : ∃ x y, [D.tup xs, D.tup ys] = [x, y] ∧ SqZ x y G R := ⟨_, _, rfl, .inl ⟨xs, ys, rfl, rfl, h⟩⟩
theorem st_zpL {x y : D} {xs ys : List D} (hl : LsW G x xs) (hk : LsW G y ys) (h : R (zips xs ys) (fun G' => okL x xs G' ∧ okL y ys G') G) : ∃ x' y', [x, y] = [x', y'] ∧ SqZ x' y' G R := ⟨_, _, rfl, .inr ⟨xs, ys, hl, hk, h⟩⟩
end
end DL

namespace DL
open PySem PySem.Spec PyProof.Rows L2
open PySem.W (Frag)
/-! ### name += e of an own class without an __iadd__ -/
section
variable {prog : Program} {w : World} {A : Around} {E : Value → Shared → Prop} {s : Shared} {K : Frag} {x C L f : Addr} {h₀ : Heap} {m : Str → Option Value} {ox : Obj} {od : Option Obj} {b : Value} {cd : ClassData}
open PySem.W (InstAt findIn isFn looks_findIn Looks clsIn looks_clsIn)
theorem aug_K {op : Operator} {Q : Value → Shared → Prop} (F0 : Fr h₀ L s.heap m) (X₀ : K.In h₀) (I : InstAt s.heap x ox C od) (hb : Looks (model prog w) s.heap (typeOf b) (.ref C)) (hcd : clsIn K C = some cd) (hmr : cd.mro = [.ref C, .type "object"])
    (hi : findIn K (.ref C) (dunderI op.info.2) = some none) (ho : findIn K (.type "object") (dunderI op.info.2) = some none)
    (hs : findIn K (.ref C) (PySem.dunder op.info.2) = some (some (.ref f))) (hf : isFn K (.ref f) = true)
    (h : wpAny (model prog w) A (call (.ref f) [.ref x, b]) (PySem.W.CmpBack Q) E s) : wpAny (model prog w) A (inplaceOp op (.ref x) b) Q E s := by
  have X := X₀.keeps F0.keep
  have one := PySem.W.ksp_try (A := A) X I hs hf h
  have L1 : Looks (model prog w) s.heap (fillsInplaceSlot (.ref C) op.info.2 (op == .Add)) false := by
    intro A' Q' E' s' k q
    have Lm : Looks (model prog w) s.heap (mroOf (.ref C)) cd.mro := (looks_clsIn X hcd).andThen (f := fun cd => pure cd.mro) .now
    have Lm' := Lm.keeps k
    have X' : K.In s'.heap := X.keeps k
    have La : Looks (model prog w) s'.heap (typeLookup (.ref C) (dunderI op.info.2)) none := looks_findIn X' hi
    have Lb : Looks (model prog w) s'.heap (typeLookup (.type "object") (dunderI op.info.2)) none := looks_findIn X' ho
    unfold fillsInplaceSlot
    refine wpAny_bind (Lm'.here ?_)
    rw [hmr, List.anyM_cons]
    refine wpAny_bind (wpAny_bind (La.here (wpAny_pure ?_)))
    try dsimp only
    rw [List.anyM_cons]
    refine wpAny_bind (wpAny_bind (Lb.here (wpAny_pure ?_)))
    try dsimp only
    exact wpAny_pure q
  unfold inplaceOp
  refine wpAny_holding (wpAny_bind (I.type.here (wpAny_bind (L1.here ?_))))
  simp only [Bool.false_eq_true, if_false]
  refine wpAny_bind ?_
  unfold binaryOp1
  refine wpAny_bind (I.type.here (wpAny_bind (hb.here (wpAny_bind ((PySem.W.fills_K X hcd hmr hs).here ?_)))))
  simp only [beq_self_eq_true, if_true]
  refine wpAny_bind (wpAny_pure ?_)
  simp only [Bool.and_false, Bool.false_eq_true, if_false, Bool.false_and]
  refine wpAny_bind (wpAny_pure ?_)
  simp only [Bool.false_eq_true, if_false]
  refine wpAny_bind (m := tryMethod (.ref x) _ b) (wpAny_mono one (fun r s' z => ?_) fun _ _ e => e)
  obtain ⟨v, rfl, hq⟩ := z
  exact wpAny_pure (wpAny_pure hq)
end
structure AugC (K : Frag) (C : Addr) (nm : String) : Prop where
  cd : ∃ cd, PySem.W.clsIn K C = some cd ∧ cd.mro = [.ref C, .type "object"]
  hi : PySem.W.findIn K (.ref C) (dunderI nm) = some none
  ho : PySem.W.findIn K (.type "object") (dunderI nm) = some none
section
variable {X : Cx} {W : WX} {e : Expr} {pos pos' : Pos} {te : TED} {k : Nat} {f C : Addr} {fd : FuncData} {ps : List Str} {sp : SpD}
def dAugO (i : Nat) (c : Str) (sp : SpD) (te : TED) : TSD := fun D σ G => ∃ x, σ[i]? = some (some x) ∧ te σ G (fun y G1 => ∃ ns ds ns' ds', InsD G1 x c ns ds ∧ InsD G1 y c ns' ds' ∧ sp [x, y] G1 (fun z G2 => D.nx (σ.set i (some z)) G2) (fun e G2 => D.ex e σ G2)) (fun e G1 => D.ex e σ G1)
theorem ds_augO {c x : Str} {i : Nat} {op : Operator} {m : Str} (hN : X.N.Nodup) (hi : X.N[i]? = some x) (hx : Loc X.env.scope x) (hC : gaddr X.K c = some C) (hm : Meth X.K C m f) (em : PySem.dunder op.info.2 = m) (ha : AugC X.K C op.info.2) (F : FnG X.prog X.w X.K X.mg X.base k f fd ps sp) (hg : X.A.guards = some []) (hr : Room k X.A) (hb : Binds X.K fd ps []) (tk : Takes X W)
    (he : DE X W e te) (hf : X.fn x = true ∨ X.env.scope.names.lookup x = some .local := by first | exact .inl rfl | exact .inr rfl | assumption) : DS X W (.AugAssign (.Name x pos') op e pos) (dAugO i c sp te) := by
  have he1 : PE X e (lft X.K W te) := he
  refine ⟨fun pins s σ H D I ⟨σD, G, DD, hR, hS, ⟨x0, ex0, q⟩, hE⟩ => ?_⟩
  obtain ⟨v, e1, pv⟩ := hS.at_ i x0 ex0
  obtain ⟨m', hn, hl⟩ := I.loc
  have vis : Vis X.env.scope x := by rcases hx with k | k; exact .inl k; exact .inr (.inl k)
  obtain ⟨u, r, l⟩ := hl i x v hi e1 vis
  refine wpAny_AugAssign_Name ?_
  have go : wpAny (model X.prog X.w) X.A (eval e X.env) (fun w s₂ => wpAny (model X.prog X.w) X.A (inplaceOp op u w) (fun r s₃ => wpAny (model X.prog X.w) X.A (storeName X.env x r) (fun _ => SP X pins D .next) X.xe s₃) X.xe s₂) X.xe s := by
    refine thn (he1.run pins s σ H (fun y H1 => ∃ aa dx fs bb dy gs, v = .ref aa ∧ y = .ref bb ∧ H1 aa = some (.ins C dx fs) ∧ H1 bb = some (.ins C dy gs) ∧ lsp X.K sp [v, y] H1 (fun z H2 => D.nx (σ.set i (some z)) H2) (WE W σ)) I ?_) fun w s1 ⟨y, H1, I1, r1, aa, dx, fs, bb, dy, gs, ex, ey, ea, eb, hl1⟩ => ?_
    · refine ⟨σD, G, _, _, hR, hS, q, fun v1 H1 d1 G1 s1 r1 p1 ⟨ns, ds, ns', ds', hi1, hj1, q1⟩ => ?_, hE.ex.at hS⟩
      have pv' := pv.mono s1
      obtain ⟨aa, C1, dx, xs, a1, h1, h2, _, _⟩ := hi1.of r1 pv'
      obtain ⟨bb, C2, dy, ys, a2, k1, k2, _, _⟩ := hj1.of r1 p1
      rw [hC] at h1 k1; cases h1; cases k1
      exact ⟨aa, dx, _, bb, dy, _, a1, a2, h2, k2, [x0, d1], G1, _, _, r1, .cons pv' (.cons p1 .nil), q1, fun z H2 dz G2 s2 r2 p2 q2 => hE.nx _ _ _ _ (s1.trans s2) r2 (((hS.mono s1).mono s2).set i p2) q2, fun xd cls d' H' G' s' r' p' z' => hE.ex _ _ _ _ _ _ _ (s1.trans s') r' ((hS.mono s1).mono s') p' z'⟩
    · subst ex; subst ey
      obtain rfl : u = Value.ref aa := r
      obtain rfl : w = Value.ref bb := r1
      obtain ⟨m2, fr⟩ := fr_of I1
      obtain ⟨ox, od, J, _⟩ := inst_of I1 ea
      obtain ⟨oy, oe, J2, _⟩ := inst_of I1 eb
      obtain ⟨cd, hcd, hmr⟩ := ha.cd
      refine aug_K fr I1.ok.mod.kin J J2.type hcd hmr ha.hi ha.ho (by rw [em]; exact hm.at_) hm.fn (wpAny_mono (run_call F hg hr hb tk I1 (us := [.ref aa, .ref bb]) (vs := [.ref aa, .ref bb]) (.cons (vref aa) (.cons (vref bb) .nil)) hl1) (fun r s' hr' => ?_) fun _ _ z => z)
      obtain ⟨w, H', J', rw', q'⟩ := hr'
      have fin : wpAny (model X.prog X.w) X.A (storeName X.env x r) (fun _ => SP X pins D .next) X.xe s' := store_ok J' hN hi hx rw' (fun s3 I3 => ⟨_, H', I3, q'⟩) hf
      cases r <;> first | exact fin | (cases w <;> first | exact (nomatch rw') | (obtain ⟨_, z⟩ := rw'; cases z))
  rcases l with ⟨hk, hm⟩ | ⟨hk, c, hc, hcell⟩
  · exact wpAny_loadName_local I.ok.kind hk hn hm go
  · rcases hk with hk | hk
    · exact wpAny_loadName_cell I.ok.kind hk hc hcell go
    · rcases hx with k | k
      · have : X.env.scope.names.lookup x = some .free := hk
        rw [k] at this; cases this
      · have : X.env.scope.names.lookup x = some .free := hk
        rw [k] at this; cases this
end
section
variable {σ : SD} {G : HH} {D' : EndsD} {te : TED} {i : Nat} {c : Str} {sp : SpD}
theorem st_augO {x : D} (h1 : GetAt σ i x) (h : te σ G (fun y G1 => ∃ ns ds ns' ds', InsD G1 x c ns ds ∧ InsD G1 y c ns' ds' ∧ sp [x, y] G1 (fun z G2 => D'.nx (σ.set i (some z)) G2) (fun e G2 => D'.ex e σ G2)) (fun e G1 => D'.ex e σ G1)) : dAugO i c sp te D' σ G := ⟨x, h1.at, h⟩
end
end DL

namespace DL
open PySem PySem.Spec PyProof.Rows L2
open PySem.W (Frag)
/-! ### list(range(..)) -/
section
variable {X : Cx} {W : WX} {a b : Expr} {ta tb : TED} {p pos p2 pos2 : Pos}
theorem rps_rg {K : Frag} {H : Hp} {G : HH} (lo hi : Int) : Rps K H G (rgItems lo (hi - lo).toNat) (rgV lo hi) := by
  unfold rgItems rgV
  generalize List.range (hi - lo).toNat = l
  induction l with
  | nil => exact .nil
  | cons i l ih => exact .cons (.int _) ih
def LsR (fr : Bool) (lo hi : Int) (G : HH) (Q : QD) : Prop := RgOk lo hi ∧ (if fr = true then Q (.lst (rgItems lo (hi - lo).toNat)) G else ∀ p, G p = none → Q (.ref p) (gput G p (.lst (rgItems lo (hi - lo).toNat))))
def dLsR1 (fr : Bool) (ta : TED) : TED := fun σ G Q E => ta σ G (fun x G1 => ∃ n, x = .int n ∧ LsR fr 0 n G1 Q) E
def dLsR2 (fr : Bool) (ta tb : TED) : TED := fun σ G Q E => ta σ G (fun x G1 => tb σ G1 (fun y G2 => ∃ i j, x = .int i ∧ y = .int j ∧ LsR fr i j G2 Q) E) E
theorem LsR.fin {K : Frag} {fr : Bool} {lo hi : Int} {H : Hp} {G : HH} {Q : VK} {QD : QD} (hR : RelH K H G) (hq : Ct K H G Q QD) (h : LsR fr lo hi G QD) : RgOk lo hi ∧ ∀ q, H q = none → Q (.ref q) (upd H q (.lst (rgV lo hi))) := by
  obtain ⟨ok, h⟩ := h
  refine ⟨ok, fun q hn => ?_⟩
  cases fr with
  | true =>
    rw [if_pos rfl] at h
    exact hq.lst hR hn (rps_rg lo hi) h
  | false =>
    rw [if_neg Bool.false_ne_true] at h
    have s1 : Stp H G (upd H q (.lst (rgV lo hi))) (gput G q (.lst (rgItems lo (hi - lo).toNat))) := .newM hn
    exact hq _ _ _ _ s1 (hR.newM hn ⟨_, upd_same, rps_rg lo hi⟩) (.ref q) (h q (hR.free hn))
theorem de_lsR1 (hc : X.calm = true) (hg : Gl X "list") (hm : X.mg "list" = none) (hg2 : Gl X "range") (hm2 : X.mg "range" = none) (fr : Bool) (ha : DE X W a ta) (na : starEach [a] X.env = (false, eval a X.env) :: starEach [] X.env := by rfl)
    (na2 : starEach [.Call (.Name "range" p2) [a] [] pos2] X.env = (false, eval (.Call (.Name "range" p2) [a] [] pos2) X.env) :: starEach [] X.env := by rfl) :
    DE X W (.Call (.Name "list" p) [.Call (.Name "range" p2) [a] [] pos2] [] pos) (dLsR1 fr ta) :=
  PE.imp (pe_listRg hc hg hm (prg_1 hg2 hm2 ha na) na2) fun σ H Q ⟨σD, G, QD, E, hR, hS, q, hq, hE⟩ =>
    ⟨σD, G, _, E, hR, hS, q, fun v1 H1 d1 G1 s1 r1 p1 ⟨n, en, h⟩ => by
      subst en; cases p1
      exact ⟨n, rfl, h.fin r1 (hq.mono s1)⟩, hE⟩
theorem de_lsR2 (hc : X.calm = true) (hg : Gl X "list") (hm : X.mg "list" = none) (hg2 : Gl X "range") (hm2 : X.mg "range" = none) (fr : Bool) (ha : DE X W a ta) (hb : DE X W b tb) (na : starEach [a, b] X.env = (false, eval a X.env) :: starEach [b] X.env := by rfl)
    (na1 : starEach [b] X.env = (false, eval b X.env) :: starEach [] X.env := by rfl) (hpl : (backTo pos2 (starEach [b] X.env)).any (·.1) = false := by rfl)
    (na2 : starEach [.Call (.Name "range" p2) [a, b] [] pos2] X.env = (false, eval (.Call (.Name "range" p2) [a, b] [] pos2) X.env) :: starEach [] X.env := by rfl) :
    DE X W (.Call (.Name "list" p) [.Call (.Name "range" p2) [a, b] [] pos2] [] pos) (dLsR2 fr ta tb) :=
  PE.imp (pe_listRg hc hg hm (prg_2 hg2 hm2 ha hb na na1 hpl) na2) fun σ H Q ⟨σD, G, QD, E, hR, hS, q, hq, hE⟩ => by
    refine ⟨σD, G, _, E, hR, hS, q, fun v1 H1 d1 G1 s1 r1 p1 q1 => ?_, hE⟩
    refine ⟨σD, G1, _, E, r1, hS.mono s1, q1, fun v2 H2 d2 G2 s2 r2 p2 ⟨i, j, e1, e2, h⟩ => ?_, hE.mono s1⟩
    subst e1; subst e2; cases p1; cases p2
    exact ⟨i, j, rfl, rfl, h.fin r2 (hq.mono (s1.trans s2))⟩
end
section
variable {σ : SD} {G : HH} {Q : QD} {E : ED} {ta tb : TED}
theorem st_lsR1 {fr : Bool} (h : ta σ G (fun x G1 => ∃ n, x = .int n ∧ LsR fr 0 n G1 Q) E) : dLsR1 fr ta σ G Q E := h
theorem st_lsR2 {fr : Bool} (h : ta σ G (fun x G1 => tb σ G1 (fun y G2 => ∃ i j, x = .int i ∧ y = .int j ∧ LsR fr i j G2 Q) E) E) : dLsR2 fr ta tb σ G Q E := h
theorem st_lsRq {n : Int} {fr : Bool} (h : LsR fr 0 n G Q) : ∃ m, D.int n = .int m ∧ LsR fr 0 m G Q := ⟨_, rfl, h⟩
theorem st_lsRm {n : Nat} (hn : n ≤ sizeLine) (h : ∀ p, G p = none → Q (.ref p) (gput G p (.lst (rgItems 0 n)))) : LsR false 0 (n : Int) G Q := by
  rw [sizeLine_eq] at hn
  refine ⟨⟨by omega, by omega, by omega, by omega, by omega⟩, ?_⟩
  rw [if_neg Bool.false_ne_true]
  rw [show ((n : Int) - 0).toNat = n by omega]
  exact h
theorem st_lsRf {n : Nat} (hn : n ≤ sizeLine) (h : Q (.lst (rgItems 0 n)) G) : LsR true 0 (n : Int) G Q := by
  rw [sizeLine_eq] at hn
  refine ⟨⟨by omega, by omega, by omega, by omega, by omega⟩, ?_⟩
  rw [if_pos rfl]
  rw [show ((n : Int) - 0).toNat = n by omega]
  exact h
end
end DL

namespace DL
open PySem PySem.Spec PyProof.Rows L2
open PySem.W (Frag)
/-! ### a statement that is never reached -/
def dNever : TSD := fun _ _ _ => False
theorem ds_never {X : Cx} {W : WX} {st : Stmt} : DS X W st dNever := ⟨fun _ _ _ _ _ _ ⟨_, _, _, _, _, q, _⟩ => q.elim⟩
end DL

namespace DL
open PySem PySem.Spec PyProof.Rows L2
open PySem.W (Frag)
/-! ### xs[i:j:k], xs a list -/
def pik {α : Type} (xs : List α) (lo hi st : Option Int) : List α := (sliceRange (sliceBounds lo hi st xs.length).1 (sliceBounds lo hi st xs.length).2.1 (sliceBounds lo hi st xs.length).2.2).filterMap (xs[·]?)
theorem vals_pick {vs : List V} {us : List Value} (r : Vals vs us) (l : List Nat) : Vals (l.filterMap (vs[·]?)) (l.filterMap (us[·]?)) := by
  induction l with
  | nil => exact .nil
  | cons i l ih =>
    have hl := r.length
    simp only [List.filterMap_cons]
    by_cases hi : i < vs.length
    · have hi2 : i < us.length := by omega
      rw [List.getElem?_eq_getElem hi, List.getElem?_eq_getElem hi2]
      refine .cons ?_ ih
      obtain ⟨v, e1, e2⟩ := r.get (i := i) (x := vs[i]) (List.getElem?_eq_getElem hi)
      rw [List.getElem?_eq_getElem hi2] at e1
      cases e1
      exact e2
    · rw [List.getElem?_eq_none (by omega), List.getElem?_eq_none (by omega)]
      exact ih
theorem Rps.pickL {K H G ds vs} (r : Rps K H G ds vs) (l : List Nat) : Rps K H G (l.filterMap (ds[·]?)) (l.filterMap (vs[·]?)) := by
  induction l with
  | nil => exact .nil
  | cons i l ih =>
    have hl := r.length
    simp only [List.filterMap_cons]
    by_cases hi : i < ds.length
    · have hi2 : i < vs.length := by omega
      rw [List.getElem?_eq_getElem hi, List.getElem?_eq_getElem hi2]
      refine .cons ?_ ih
      obtain ⟨v, e1, e2⟩ := r.get (i := i) (d := ds[i]) (List.getElem?_eq_getElem hi)
      rw [List.getElem?_eq_getElem hi2] at e1
      cases e1
      exact e2
    · rw [List.getElem?_eq_none (by omega), List.getElem?_eq_none (by omega)]
      exact ih
def tSl3 (K : Frag) (te : TE) (tl th ts : TO) : TE := fun σ H Q => te σ H fun x H1 => tl σ H1 fun l H2 => th σ H2 fun u H3 => ts σ H3 fun st H4 => ∃ a xs, x = .ref a ∧ SqL K H4 a xs ∧ st ≠ some 0 ∧ (pik xs l u st).length ≤ sizeLine ∧ ∀ p, H4 p = none → Q (.ref p) (upd H4 p (.lst (pik xs l u st)))
section
variable {X : Cx} {W : WX} {e : Expr} {te : TE} {lo hi : Option Expr} {st : Expr} {tl th ts : TO} {pos p2 : Pos}
theorem pe_sl3 (he : PE X e te) (hl : PO X lo tl) (hu : PO X hi th) (hst : PO X (some st) ts) : PE X (.Subscript e (.Slice lo hi (some st) p2) pos) (tSl3 X.K te tl th ts) := by
  refine ⟨fun pins s σ H Q I h => ?_⟩
  refine Subscript_ (thn (he.run pins s σ H _ I h) fun v s1 ⟨x, H1, I1, r1, q1⟩ => ?_)
  refine wpAny_Slice (thn (hl.run pins s1 σ H1 _ I1 q1) fun vl s2 ⟨l, H2, I2, pl, q2⟩ => thn (hu.run pins s2 σ H2 _ I2 q2) fun vu s3 ⟨u, H3, I3, pu, q3⟩ => thn (hst.run pins s3 σ H3 _ I3 q3) fun vs s4 ⟨o, H4, I4, ps, q4⟩ => ?_)
  obtain ⟨a, xs, ex, hx, h0, hz4, q⟩ := q4
  subst ex
  cases r1
  have I5 : Inv X pins σ H4 { s4 with heap := s4.heap.push { cls := .type "slice", data := .fields #[vl, vu, vs] } } := I4.kept (t' := s4.toks) fun b ob q => Heap.get?_push_of_some _ q
  obtain ⟨its, r, ht, hz⟩ := I5.list hx
  have hlen := r.length
  show wpAny (model X.prog X.w) X.A (subscriptTail e (.Slice lo hi (some st) p2) (.ref a) (.ref s4.heap.objs.size)) (EP X pins σ Q) X.xe { s4 with heap := s4.heap.push { cls := .type "slice", data := .fields #[vl, vu, vs] } }
  refine tail_any (ops := [.ref a, .ref s4.heap.objs.size]) ht.isList.typeIs (PySem.slot_list_getitem.lookup) ?_ (by with_unfolding_all rfl)
  refine wpAny_getItem_list_slice ht.isList (Heap.IsSliceOf.new _ vl vu vs) pl pu ps h0 ?_ (by rw [List.size_toArray]; omega)
  have ep : slicePick its.toArray l u o = (pik its l u o).toArray := by
    unfold slicePick pik
    simp
  rw [ep]
  have rp : Vals (pik xs l u o) (pik its l u o) := by
    have := vals_pick r (sliceRange (sliceBounds l u o xs.length).1 (sliceBounds l u o xs.length).2.1 (sliceBounds l u o xs.length).2.2)
    unfold pik
    rw [← hlen]
    exact this
  refine ⟨.ref _, _, I5.laid (t' := s4.toks) (o := .lst (pik xs l u o)) (fun b ob q => Heap.get?_push_of_some _ q) (Nat.le_refl _) ?_, rfl, q _ (I5.hok.fresh (Nat.le_refl _))⟩
  exact ⟨hz4, _, 0, rp, Heap.get?_push_size _ rfl⟩
end
section
variable {X : Cx} {W : WX} {a b c : Expr} {ta tb tc : TED} {lo hi : Option Expr} {st : Expr} {tl th ts : TOD} {p pos p2 pos2 : Pos}
def dSl3 (ta : TED) (tl th ts : TOD) : TED := fun σ G Q E => ta σ G (fun x G1 => tl σ G1 (fun lo G2 => th σ G2 (fun hi G3 => ts σ G3 (fun st G4 => ∃ xs, LsW G4 x xs ∧ st ≠ some 0 ∧ (pik xs lo hi st).length ≤ sizeLine ∧ Q (.lst (pik xs lo hi st)) G4) E) E) E) E
theorem Rps.pik {K H G ds vs} (r : Rps K H G ds vs) (l u o : Option Int) : Rps K H G (DL.pik ds l u o) (DL.pik vs l u o) := by
  unfold DL.pik
  rw [r.length]
  exact r.pickL _
theorem de_sl3 (ha : DE X W a ta) (hl : DO X W lo tl) (hh : DO X W hi th) (hst : DO X W (some st) ts) : DE X W (.Subscript a (.Slice lo hi (some st) p2) pos) (dSl3 ta tl th ts) :=
  PE.imp (pe_sl3 ha hl hh hst) fun σ H Q ⟨σD, G, QD, E, hR, hS, q, hq, he⟩ => by
    refine ⟨σD, G, _, E, hR, hS, q, fun v1 H1 d1 G1 s1 r1 p1 q1 => ?_, he⟩
    refine ⟨σD, G1, _, E, r1, hS.mono s1, q1, fun o2 H2 G2 s2 r2 q2 => ?_, he.mono s1⟩
    refine ⟨σD, G2, _, E, r2, hS.mono (s1.trans s2), q2, fun o3 H3 G3 s3 r3 q3 => ?_, he.mono (s1.trans s2)⟩
    refine ⟨σD, G3, _, E, r3, hS.mono ((s1.trans s2).trans s3), q3, fun o4 H4 G4 s4 r4 ⟨xs, ls, h0, hz, q4⟩ => ?_, he.mono ((s1.trans s2).trans s3)⟩
    have p4 := ((p1.mono s2).mono s3).mono s4
    obtain ⟨ad, vs, rfl, hL, rr⟩ := ls.of r4 p4
    refine ⟨ad, vs, rfl, hL, h0, by rw [← (rr.pik _ _ _).length]; exact hz, fun pp hp => ?_⟩
    exact (hq.mono (((s1.trans s2).trans s3).trans s4)).lst r4 hp (rr.pik _ _ _) q4
end
section
variable {σ : SD} {G : HH} {E : ED} {ta : TED} {tl th ts : TOD} {Q : QD} {x : D} {xs : List D} {lo hi st : Option Int}
theorem st_sl3 (h : ta σ G (fun x G1 => tl σ G1 (fun lo G2 => th σ G2 (fun hi G3 => ts σ G3 (fun st G4 => ∃ xs, LsW G4 x xs ∧ st ≠ some 0 ∧ (pik xs lo hi st).length ≤ sizeLine ∧ Q (.lst (pik xs lo hi st)) G4) E) E) E) E) : dSl3 ta tl th ts σ G Q E := h
theorem st_sl3q {P : List D → Prop} (hx : LsW G x xs) (h0 : st ≠ some 0) (hz : (pik xs lo hi st).length ≤ sizeLine) (h : P xs) : ∃ ys, LsW G x ys ∧ st ≠ some 0 ∧ (pik ys lo hi st).length ≤ sizeLine ∧ P ys := ⟨xs, hx, h0, hz, h⟩
end
/-! ### range(i, j, k) -/
def rgItemsC (lo c : Int) (n : Nat) : List D := (List.range n).map fun i : Nat => D.int (lo + (i : Int) * c)
theorem itR_rngC {K H G lo c n} : ItR K H G (Itc lo c n) (rgItemsC lo c n) okT := fun i H2 G2 s2 r2 _ => ⟨fun d hd => by
    have hi : i < n := by
      have := (List.getElem?_eq_some_iff.mp hd).1
      simpa [rgItemsC] using this
    refine ⟨hi, fun y H3 ⟨hy, e3⟩ => ?_⟩
    have e : d = .int (lo + (i : Int) * c) := by
      simp [rgItemsC, hi] at hd
      exact hd.symm
    first
      | (rw [e3, e, hy]; exact ⟨Stp.refl, r2, .int _⟩)
      | (rw [hy, e, e3]; exact ⟨Stp.refl, r2, .int _⟩), fun hl => by
    have : n ≤ i := by simpa [rgItemsC] using hl
    exact this⟩
/-- counted up, by steps of k -/
def upN (i j k : Int) : Nat := if i < j then ((j - i - 1) / k + 1).toNat else 0
theorem rgc_up {i j k : Int} (hi : -(2 ^ 61) ≤ i) (hi' : i < 2 ^ 61) (hj : -(2 ^ 61) ≤ j) (hj' : j < 2 ^ 61) (hk : 0 < k) (hk' : k < 1073741824) : RgC i j k (upN i j k) := by
  have e : Builtin.Range.rangeSize i j k = (upN i j k : Int) := by
    unfold Builtin.Range.rangeSize upN
    rw [if_pos hk]
    split
    · have : 0 ≤ (j - i - 1) / k := Int.ediv_nonneg (by omega) (by omega)
      omega
    · rfl
  have hn : (upN i j k : Int) ≤ 2 ^ 62 := by
    unfold upN
    split
    · have h1 : (j - i - 1) / k ≤ j - i - 1 := Int.ediv_le_self _ (by omega)
      have h0 : 0 ≤ (j - i - 1) / k := Int.ediv_nonneg (by omega) (by omega)
      omega
    · decide
  refine ⟨by omega, by omega, ?_, e⟩
  unfold Builtin.Range.small
  rw [e]
  simp only [Builtin.Range.rangeFitsLong, Bool.and_eq_true, Bool.or_eq_true, decide_eq_true_eq, beq_iff_eq, if_pos hk]
  refine ⟨⟨⟨⟨⟨by omega, by omega⟩, ⟨by omega, by omega⟩⟩, ⟨by omega, by omega⟩⟩, ⟨by omega, by omega⟩⟩, Or.inr ⟨by omega, by omega⟩⟩
section
variable {X : Cx} {W : WX} {tg a b c : Expr} {t : TAD} {p pos p2 pos2 : Pos}
def iRngD3 (t : TAD) : TID := fun σ G R E => t σ G (fun ds G1 => ∃ i j k : Int, ds = [.int i, .int j, .int k] ∧ (-(2 ^ 61) ≤ i ∧ i < 2 ^ 61 ∧ -(2 ^ 61) ≤ j ∧ j < 2 ^ 61 ∧ 0 < k ∧ k < 1073741824) ∧ R (rgItemsC i k (upN i j k)) okT G1) E
theorem di_rng3 (hg : Gl X "range") (hm : X.mg "range" = none) (ha : DA X W [a, b, c] t) (hs : starEach [a, b, c] X.env = (false, eval a X.env) :: starEach [b, c] X.env := by rfl) (hpl : (backTo pos (starEach [b, c] X.env)).any (·.1) = false := by rfl) :
    DI X W tg (.Call (.Name "range" p) [a, b, c] [] pos) (iRngD3 t) :=
  PI.imp (pi_range3 hg hm ha hs hpl) fun σ H R ⟨σD, G, RD, E, hR, hS, q, hr, he⟩ => ⟨σD, G, _, E, hR, hS, q, fun vs H1 ds G1 s r p ⟨i, j, k, e, ⟨l1, l2, l3, l4, l5, l6⟩, z⟩ => by
    subst e
    obtain ⟨v, w, u, rfl, p1, p2, p3⟩ := rps3 p
    cases p1; cases p2; cases p3
    exact ⟨i, j, k, _, rfl, rgc_up l1 l2 l3 l4 l5 l6, hr _ _ _ _ _ s r itR_rngC z⟩, he⟩
/-! list(range(i, j, k)) -/
def rgVC (lo c : Int) (n : Nat) : List V := (List.range n).map fun i => V.int (lo + (i : Nat) * c)
theorem vals_rgC {lo c : Int} {n : Nat} {acc : Array Value} (h : ItemsOf (fun i v => ∃ t, v = .int (lo + i * c) t) acc n) : Vals (rgVC lo c n) acc.toList := by
  have e : acc.toList.length = n := by rw [Array.length_toList]; exact h.1
  unfold rgVC
  rw [← e]
  refine vals_of_get acc.toList _ fun j u hj => ?_
  obtain ⟨t, rfl⟩ := h.2 j u (by rw [← hj, Array.getElem?_toList])
  exact ⟨t, rfl⟩
def tLstRg3 (ta : TA) : TE := fun σ H Q => ta σ H fun vs H1 => ∃ (i j c : Int) (n : Nat), vs = [.int i, .int j, .int c] ∧ RgC i j c n ∧ n ≤ 2 ^ 24 ∧ ∀ q, H1 q = none → Q (.ref q) (upd H1 q (.lst (rgVC i c n)))
theorem pe_listRg3 {ta : TA} (hc : X.calm = true) (hg : Gl X "list") (hm : X.mg "list" = none) (hg2 : Gl X "range") (hm2 : X.mg "range" = none) (ha : PA X [a, b, c] ta) (hs : starEach [a, b, c] X.env = (false, eval a X.env) :: starEach [b, c] X.env := by rfl) (hpl : (backTo pos2 (starEach [b, c] X.env)).any (·.1) = false := by rfl)
    (na : starEach [.Call (.Name "range" p2) [a, b, c] [] pos2] X.env = (false, eval (.Call (.Name "range" p2) [a, b, c] [] pos2) X.env) :: starEach [] X.env := by rfl) :
    PE X (.Call (.Name "list" p) [.Call (.Name "range" p2) [a, b, c] [] pos2] [] pos) (tLstRg3 ta) := by
  refine ⟨fun pins s σ H Q I h => ?_⟩
  refine Call_ (ld_blt I hg hm boot_list (PyProof.Rows.callWith_type1 (args_cons (thn (Call_ (ld_blt I hg2 hm2 boot_range (PyProof.Rows.callWith_type1 (thn (ha.run pos2 pins s σ H _ I h) fun us s1 ⟨vs, H1, I1, r1, q1⟩ => ?_) hs hpl))) fun x s1 (z : ∃ r i j k n t u v H1, x = .ref r ∧ IsRange s1.heap r i j k t u v ∧ Inv X pins σ H1 s1 ∧ RgC i j k n ∧ n ≤ 2 ^ 24 ∧ ∀ q, H1 q = none → Q (.ref q) (upd H1 q (.lst (rgVC i k n)))) => args_nil ?_) na) na))
  · obtain ⟨i, j, k, n, e, ok, hn, q⟩ := q1
    subst e
    cases r1 with
    | cons r rr =>
      cases rr with
      | cons r' rr =>
        cases rr with
        | cons r'' rr =>
          cases rr
          obtain ⟨t, rfl⟩ := r
          obtain ⟨t', rfl⟩ := r'
          obtain ⟨t'', rfl⟩ := r''
          refine call_range_3 ok.1 ?_ (.inl (PyProof.noPylong_small ok.2.1))
          exact ⟨_, i, j, k, n, _, _, _, H1, rfl, IsRange.new .., I1.kept (t' := s1.toks) fun b o e => Heap.get?_push_of_some _ e, ok, hn, q⟩
  · obtain ⟨r, i, j, k, n, t, u, v, H1, ex, hr, I1, ok, hn, q⟩ := z
    subst ex
    refine call_list_range (n := n) (I1.ok.hd hc) hr ok.2.2.1 ok.2.2.2 hn fun h' tk acc c' hk e' hi => ?_
    refine ⟨.ref s1.heap.objs.size, upd H1 s1.heap.objs.size (.lst (rgVC i k n)), I1.laid hk (Nat.le_refl _) (show ObjOk X.prog X.w _ _ _ (.lst (rgVC i k n)) from ⟨?_, acc.toList, c', vals_rgC hi, ?_⟩), rfl, q _ (I1.hok.fresh (Nat.le_refl _))⟩
    · unfold rgVC; rw [List.length_map, List.length_range, sizeLine_eq]; omega
    · rw [Array.toArray_toList]; exact e'
def dLsR3 (t : TAD) : TED := fun σ G Q E => t σ G (fun ds G1 => ∃ i j k : Int, ds = [.int i, .int j, .int k] ∧ (-(2 ^ 61) ≤ i ∧ i < 2 ^ 61 ∧ -(2 ^ 61) ≤ j ∧ j < 2 ^ 61 ∧ 0 < k ∧ k < 1073741824) ∧ upN i j k ≤ 2 ^ 24 ∧ Q (.lst (rgItemsC i k (upN i j k))) G1) E
theorem rps_rgC {K : Frag} {H : Hp} {G : HH} (lo c : Int) (n : Nat) : Rps K H G (rgItemsC lo c n) (rgVC lo c n) := by
  unfold rgItemsC rgVC
  generalize List.range n = l
  induction l with
  | nil => exact .nil
  | cons i l ih => exact .cons (.int _) ih
theorem de_lsR3 (hc : X.calm = true) (hg : Gl X "list") (hm : X.mg "list" = none) (hg2 : Gl X "range") (hm2 : X.mg "range" = none) (ha : DA X W [a, b, c] t) (hs : starEach [a, b, c] X.env = (false, eval a X.env) :: starEach [b, c] X.env := by rfl) (hpl : (backTo pos2 (starEach [b, c] X.env)).any (·.1) = false := by rfl)
    (na : starEach [.Call (.Name "range" p2) [a, b, c] [] pos2] X.env = (false, eval (.Call (.Name "range" p2) [a, b, c] [] pos2) X.env) :: starEach [] X.env := by rfl) :
    DE X W (.Call (.Name "list" p) [.Call (.Name "range" p2) [a, b, c] [] pos2] [] pos) (dLsR3 t) :=
  PE.imp (pe_listRg3 hc hg hm hg2 hm2 ha hs hpl na) fun σ H Q ⟨σD, G, QD, E, hR, hS, q, hq, he⟩ =>
    ⟨σD, G, _, E, hR, hS, q, fun vs H1 ds G1 s1 r1 p1 ⟨i, j, k, e, ⟨l1, l2, l3, l4, l5, l6⟩, hn, z⟩ => by
      subst e
      obtain ⟨v, w, u, rfl, p1, p2, p3⟩ := rps3 p1
      cases p1; cases p2; cases p3
      exact ⟨i, j, k, _, rfl, rgc_up l1 l2 l3 l4 l5 l6, hn, fun q hp => (hq.mono s1).lst r1 hp (rps_rgC i k _) z⟩, he⟩
/-! ### sorted texts -/
def kSortS : RCD := c1 fun x G Q => ∃ ns : List Str, LsW G x (ns.map D.str) ∧ ns.length < 64 ∧ ∀ ms : List Str, ms.Perm ns → sortedS ms = true → Q (.lst (ms.map D.str)) G
theorem cSortS : CallD X (.builtin "sorted") kSortS := ⟨_, cr_sortedS, fun xs H Q ds G QD hR hp ⟨x, e, ns, s, h64, q⟩ hq => by
  subst e
  obtain ⟨v, rfl, p⟩ := rps1 hp
  obtain ⟨a, vs, rfl, h, r⟩ := s.of hR p
  rw [r.strs] at h
  exact ⟨a, ns, rfl, h, h64, fun ns' l hp hs hl => hq.lst hR hl (Rps.of_strs ns') (q ns' hp hs)⟩⟩
/-- sorted(ints or texts) -/
def kSort : RCD := fun ds G Q => kSortI ds G Q ∨ kSortS ds G Q
theorem cSort : CallD X (.builtin "sorted") kSort := cSortI.or cSortS
end
section
variable {σ : SD} {G : HH} {E : ED} {t : TAD} {Q : QD} {x : D}
theorem st_rng3 {R : List D → (HH → Prop) → HH → Prop} (h : t σ G (fun ds G1 => ∃ i j k : Int, ds = [.int i, .int j, .int k] ∧ (-(2 ^ 61) ≤ i ∧ i < 2 ^ 61 ∧ -(2 ^ 61) ≤ j ∧ j < 2 ^ 61 ∧ 0 < k ∧ k < 1073741824) ∧ R (rgItemsC i k (upN i j k)) okT G1) E) : iRngD3 t σ G R E := h
theorem st_rng3q {i j k : Int} {P : Int → Int → Int → Prop} (hh : -(2 ^ 61) ≤ i ∧ i < 2 ^ 61 ∧ -(2 ^ 61) ≤ j ∧ j < 2 ^ 61 ∧ 0 < k ∧ k < 1073741824) (h : P i j k) : ∃ i' j' k' : Int, [D.int i, D.int j, D.int k] = [.int i', .int j', .int k'] ∧ (-(2 ^ 61) ≤ i' ∧ i' < 2 ^ 61 ∧ -(2 ^ 61) ≤ j' ∧ j' < 2 ^ 61 ∧ 0 < k' ∧ k' < 1073741824) ∧ P i' j' k' := ⟨i, j, k, rfl, hh, h⟩
theorem st_lsR3 (h : t σ G (fun ds G1 => ∃ i j k : Int, ds = [.int i, .int j, .int k] ∧ (-(2 ^ 61) ≤ i ∧ i < 2 ^ 61 ∧ -(2 ^ 61) ≤ j ∧ j < 2 ^ 61 ∧ 0 < k ∧ k < 1073741824) ∧ upN i j k ≤ 2 ^ 24 ∧ Q (.lst (rgItemsC i k (upN i j k))) G1) E) : dLsR3 t σ G Q E := h
theorem st_lsR3q {i j k : Int} (hh : -(2 ^ 61) ≤ i ∧ i < 2 ^ 61 ∧ -(2 ^ 61) ≤ j ∧ j < 2 ^ 61 ∧ 0 < k ∧ k < 1073741824) (hn : upN i j k ≤ 2 ^ 24) (h : Q (.lst (rgItemsC i k (upN i j k))) G) : ∃ i' j' k' : Int, [D.int i, D.int j, D.int k] = [.int i', .int j', .int k'] ∧ (-(2 ^ 61) ≤ i' ∧ i' < 2 ^ 61 ∧ -(2 ^ 61) ≤ j' ∧ j' < 2 ^ 61 ∧ 0 < k' ∧ k' < 1073741824) ∧ upN i' j' k' ≤ 2 ^ 24 ∧ Q (.lst (rgItemsC i' k' (upN i' j' k'))) G := ⟨i, j, k, rfl, hh, hn, h⟩
/-- the lesser text first -/
def leS (a b : Str) : Bool := !ltCps b.cps.toList a.cps.toList
def pairS (a b : Str) : List Str := if leS a b then [a, b] else [b, a]
theorem lt_tri : ∀ a b : List Nat, ltCps a b = false → ltCps b a = false → a = b
  | [], [], _, _ => rfl
  | [], _ :: _, h, _ => by simp [ltCps] at h
  | _ :: _, [], _, h => by simp [ltCps] at h
  | a :: r, b :: t, h1, h2 => by
    simp only [ltCps, Bool.or_eq_false_iff, decide_eq_false_iff_not, Bool.and_eq_false_iff, beq_eq_false_iff_ne] at h1 h2
    have e : a = b := by omega
    subst e
    rw [lt_tri r t (h1.2.resolve_left (by simp)) (h2.2.resolve_left (by simp))]
theorem le_anti {a b : Str} (h1 : leS a b = true) (h2 : leS b a = true) : a = b := by
  obtain ⟨⟨a⟩⟩ := a
  obtain ⟨⟨b⟩⟩ := b
  unfold leS at h1 h2
  simp only [Bool.not_eq_true'] at h1 h2
  rw [lt_tri a b h2 h1]
theorem lt_asym : ∀ a b : List Nat, ltCps a b = true → ltCps b a = false
  | [], [], _ => rfl
  | [], _ :: _, _ => rfl
  | _ :: _, [], h => by simp [ltCps] at h
  | a :: r, b :: t, h => by
    simp only [ltCps, Bool.or_eq_true, decide_eq_true_eq, Bool.and_eq_true, beq_iff_eq] at h
    simp only [ltCps, Bool.or_eq_false_iff, decide_eq_false_iff_not, Bool.and_eq_false_iff, beq_eq_false_iff_ne]
    rcases h with h | ⟨rfl, h⟩
    · exact ⟨by omega, .inl (by omega)⟩
    · exact ⟨by omega, .inr (lt_asym r t h)⟩
theorem le_total (a b : Str) : leS a b = true ∨ leS b a = true := by
  unfold leS
  cases h : ltCps b.cps.toList a.cps.toList with
  | false => exact .inl rfl
  | true => exact .inr (by rw [lt_asym _ _ h]; rfl)
theorem perm2 {α : Type} {a b : α} {ms : List α} (h : ms.Perm [a, b]) : ms = [a, b] ∨ ms = [b, a] := by
  have hl := h.length_eq
  match ms, hl with
  | [x, y], _ =>
    have hx : x ∈ [a, b] := h.mem_iff.mp (by simp)
    simp only [List.mem_cons, List.not_mem_nil, or_false] at hx
    rcases hx with rfl | rfl
    · have := (List.perm_cons x).mp h
      rw [List.perm_singleton.mp this]; exact .inl rfl
    · have := (List.perm_cons x).mp (h.trans (List.Perm.swap x a []))
      rw [List.perm_singleton.mp this]; exact .inr rfl
theorem pairS_of {a b : Str} {ms : List Str} (h : ms.Perm [a, b]) (s : sortedS ms = true) : ms = pairS a b := by
  unfold pairS
  rcases perm2 h with rfl | rfl
  · have h1 : leS a b = true := by simpa [sortedS, risingS, leS] using s
    rw [if_pos h1]
  · have h1 : leS b a = true := by simpa [sortedS, risingS, leS] using s
    split
    · rename_i h2
      rw [le_anti h1 h2]
    · rfl
theorem pairS_comm (a b : Str) : pairS a b = pairS b a := by
  unfold pairS
  by_cases h1 : leS a b = true <;> by_cases h2 : leS b a = true
  · rw [le_anti h1 h2]
  · rw [if_pos h1, if_neg h2]
  · rw [if_neg h1, if_pos h2]
  · rcases le_total a b with h | h
    · exact absurd h h1
    · exact absurd h h2
theorem st_sortS2 {G : HH} {Q : QD} {a b : Str} (q : Q (.lst ((pairS a b).map D.str)) G) : kSort [.lst [.str a, .str b]] G Q :=
  .inr ⟨_, rfl, [a, b], .lst _, by simp, fun ms hp hs => by rw [pairS_of hp hs]; exact q⟩
theorem st_sortI' {G : HH} {Q : QD} {x : D} {ns : List Int} (h : LsW G x (ns.map D.int)) (q : ∀ ms : List Int, ms.Perm ns → ms.Pairwise (· ≤ ·) → Q (.lst (ms.map D.int)) G) : kSort [x] G Q := .inl (st_sortI h q)
end
end DL

namespace DL
open PySem PySem.Spec PyProof.Rows L2
open PySem.W (Frag)
/-! ### raise C(), a class without a making of its own -/
abbrev bmVE : List Value := [Value.type "ValueError", Value.type "Exception", Value.type "BaseException", Value.type "object"]
/-- what the written part says of such a class -/
structure ExcN (K : Frag) (C : Addr) : Prop where
  q : PySem.W.excIn K C bmVE "ValueError.__new__" = true
  exC : PySem.W.subIn K (.ref C) (.type "BaseException") = some true
  tyC : PySem.W.typeIn K (.ref C) = some (.type "type")
  kC : PySem.W.keepIn K (.ref C) = true
section
variable {X : Cx} {W : WX} {C : Addr} {c x : Str} {p pos pos' : Pos}
theorem pmk_own0 (T : ExcN X.K C) (gC : X.mg x = some (.ref C)) (hg : Gl X x) (hdb : (x == ("__debug__" : Str)) = false := by decide) : PMk X (.Call (.Name x p) [] [] pos) (fun _ H Q => Q (.ref C) none H) := by
  intro pins s σ H Q I h
  refine wpAny_Call_Name_kw (ld_glob I hg gC ?_ hdb)
  refine PySem.W.callWith_K0 I.kIn T.kC ?_
  show wpAny _ _ (call (.ref C) []) _ _ _
  obtain ⟨bm, N, nm, qn, bs, hdct, sn, sub, ab, col, dd, k0, k1, k2, k3, k5, mN, hC, hN, hni, OT⟩ := exc_obj I.kIn T.q
  refine wpAny_call_exc_subT PySem.F.excBase_ValueError OT hC hN hni (fun h' e hm => ?_) (by show 0 ≤ sizeLine; omega)
  exact mk_of I hm (raises_own T.exC T.tyC) h (I.hok.gone hm.new)
def dRaise0 (c : Str) : TSD := fun D σ G => D.ex ⟨.own c, [], []⟩ σ G
theorem ds_raise0 (hc : X.calm = true) (tk : Takes X W) (hC : gaddr X.K c = some C) (T : ExcN X.K C) (hg : Gl X x) (hm : X.mg x = some (.ref C)) (hdb : (x == ("__debug__" : Str)) = false := by decide) :
    DS X W (.Raise (some (.Call (.Name x p) [] [] pos')) none pos) (dRaise0 c) :=
  PS.imp (ps_raise hc tk (pmk_own0 T hm hg hdb)) fun D σ H ⟨σD, G, DD, hR, hS, q, hE⟩ =>
    hE.ex ⟨.own c, [], []⟩ _ _ _ σD _ G Stp.refl hR hS ⟨⟨C, hC, rfl⟩, rfl, rfl⟩ q
end
section
variable {c : Str} {nx bk ct : SD → HH → Prop} {rt : QD} {ex : XD → SD → HH → Prop} {σ : SD} {G : HH}
theorem st_raise0 (h : ex ⟨.own c, [], []⟩ σ G) : dRaise0 c ⟨nx, rt, bk, ct, ex⟩ σ G := h
end
end DL

namespace DL
open PySem PySem.Spec PyProof.Rows L2
open PySem.W (Frag)
/-! ### o.m(e, ..), m a method f(self, *v) -/
section
variable {X : Cx} {W : WX} {e o : Expr} {es : List Expr} {to : TED} {t : TAD} {pos apos : Pos} {k : Nat} {f C : Addr} {sp : SpD}
theorem run_callS {pins : List (Addr × Obj)} {σ : L2.St} {H : Hp} {s : Shared} {Q : VK} {us : List Value} {vs : List V} (F : FnS X.prog X.w X.K X.mg X.base k f sp) (hg : X.A.guards = some []) (hr : Room k X.A) (tk : Takes X W)
    (I : Inv X pins σ H s) (r : Vals vs us) (h : lsp X.K sp vs H Q (WE W σ)) : wpAny (model X.prog X.w) X.A (call (.ref f) us) (EP X pins σ Q) X.xe s := by
  refine wpAny_call (codeAny_mono (F X.A X.stack s H us vs Q (WE W σ) hg hr I.env0 r h) fun r s' hq => ?_)
  cases r with
  | error e => exact passAt tk σ pins H s e s' I hq
  | ok fl =>
    cases fl with
    | ret u => exact I.after hq
    | next => exact False.elim hq
    | brk => exact False.elim hq
    | cont => exact False.elim hq
theorem de_methS {c m : Str} {pl : Sem Bool} (hC : gaddr X.K c = some C) (hcl : Cls X.K C) (hm : Meth X.K C m f) (F : FnS X.prog X.w X.K X.mg X.base k f sp) (hgd : X.A.guards = some []) (hr : Room k X.A) (tk : Takes X W) (ho : DE X W o to) (ha : DA X W (e :: es) t)
    (hst : starEach (e :: es) X.env = (false, eval e X.env) :: starEach es X.env := by rfl) (hpl : (backTo pos (starEach es X.env)).any (·.1) = false := by rfl)
    (ht : eval (.Call (.Attribute o m apos) (e :: es) [] pos) X.env = (do
      let ov ← eval o X.env
      standAt apos.atName
      let (f, first) ← holding [ov] (getMethod ov m pl)
      callWith pos f first (backTo pos (starEach (e :: es) X.env)) (backToKw pos (keywordEach [] X.env))) := by rfl) :
    DE X W (.Call (.Attribute o m apos) (e :: es) [] pos) (dMeth c m sp to t) := by
  have ha' : PA X (e :: es) (lftA X.K W t) := ha
  have ho' : PE X o (lft X.K W to) := ho
  refine ⟨fun pins s σ H Q I ⟨σD, G, QD, E, hR, hS, q, hq, hE⟩ => ?_⟩
  refine PySem.W.methodCall_KW (pl := pl) (thn (ho'.run pins s σ H (fun v H1 => ∃ d G1, Stp H G H1 G1 ∧ RelH X.K H1 G1 ∧ Rp X.K H1 G1 d v ∧ ∃ ns ds, InsD G1 d c ns ds ∧ lk m ns ds = none ∧ t σD G1 (fun as G2 => sp (d :: as) G2 QD E) E) I ⟨σD, G, _, E, hR, hS, q, fun v H1 d G1 s1 r1 p1 z => ⟨d, G1, s1, r1, p1, z⟩, hE⟩) fun u s1 ⟨x, H1, I1, rx, d, G1, s1', r1, p1, ns, ds, hi, hl, q1⟩ => ?_) ht
  obtain ⟨a, C', dx, xs, ex, h1, h2, h3, h4⟩ := hi.of r1 p1
  rw [hC] at h1; cases h1
  subst ex
  obtain rfl : u = Value.ref a := rx
  have hl' : (ns.zip xs).lookup m = none := by
    rcases lk_zip (f := m) h4 h3 with ⟨_, z⟩ | ⟨d', v, e1, _, _⟩
    · exact z
    · rw [hl] at e1; cases e1
  refine getmeth_ok I1 h2 hcl hm hl' ?_
  refine PySem.W.callWith_K (first := [.ref a]) (h₀ := X.base) I.ok.mod.kin hm.kp (thn (ha'.run pos pins s1 σ H1 (fun vs H2 => lsp X.K sp (.ref a :: vs) H2 Q (WE W σ)) I1 ⟨σD, G1, _, E, r1, hS.mono s1', q1, fun vs H2 as G2 s2 r2 p2 q2 => ?_, hE.mono s1'⟩) fun us s2 ⟨vs, H2, I2, r, q2⟩ => ⟨I2.kIn, ?_⟩) hst hpl
  · exact ⟨d :: as, G2, QD, E, r2, .cons (p1.mono s2) p2, q2, hq.mono (s1'.trans s2), fun xd cls d' H' G' s' r' p' z' => hE _ _ _ _ _ ((s1'.trans s2).trans s') r' p' z'⟩
  · exact run_callS F hgd hr tk I2 (us := Value.ref a :: us) (vs := V.ref a :: vs) (.cons rfl r) q2
end
section
variable {ds : List D} {G : HH} {Q : QD} {E : ED} {sp : SpD} {x : D}
theorem st_starM (hz : ds.length ≤ 1000) (h : sp [x, .tup ds] G Q E) : starSp 1 sp (x :: ds) G Q E := ⟨by simp, by rw [sizeLine_eq, List.length_cons]; omega, h⟩
end
end DL

namespace DL
open PySem PySem.Spec PyProof.Rows L2
open PySem.W (Frag)
/-! ### text.split(text) -/
section
variable {X : Cx} {W : WX} {o e : Expr} {to te : TED} {apos pos : Pos}
theorem rps_strs {K : Frag} {H : Hp} {G : HH} : ∀ zs : List Str, Rps K H G (zs.map D.str) (zs.map V.str)
  | [] => .nil
  | z :: zs => .cons (.str z) (rps_strs zs)
def SplT (fr : Bool) (a b : Str) (G : HH) (Q : QD) : Prop := (b.length == 0) = false ∧ a.length + 2 ≤ sizeLine ∧ if fr = true then Q (.lst ((Txt.split a b).map D.str)) G else ∀ p, G p = none → Q (.ref p) (gput G p (.lst ((Txt.split a b).map D.str)))
def dSplit (fr : Bool) (to te : TED) : TED := fun σ G Q E => to σ G (fun x G1 => ∃ a, x = .str a ∧ te σ G1 (fun y G2 => ∃ b, y = .str b ∧ SplT fr a b G2 Q) E) E
theorem de_split (fr : Bool) (ho : DE X W o to) (he : DE X W e te) (hs : starEach [e] X.env = [(false, eval e X.env)] := by rfl) (hbase : attributeBase o "split" X.env (eval o X.env) = eval o X.env := by rfl) (hline : (apos.endLine == pos.line) = true := by rfl) :
    DE X W (.Call (.Attribute o "split" apos) [e] [] pos) (dSplit fr to te) :=
  PE.imp (pe_split ho he hs hbase hline) fun σ H Q ⟨σD, G, QD, E, hR, hS, q, hq, hE⟩ => by
    refine ⟨σD, G, _, E, hR, hS, q, fun v1 H1 d1 G1 s1 r1 p1 ⟨a, ea, q1⟩ => ?_, hE⟩
    subst ea; cases p1
    refine ⟨⟨_, rfl⟩, σD, G1, _, E, r1, hS.mono s1, q1, fun v2 H2 d2 G2 s2 r2 p2 ⟨b, eb, hb, hl, q2⟩ => ?_, hE.mono s1⟩
    subst eb; cases p2
    refine ⟨a, b, rfl, rfl, hb, hl, fun l hn => ?_⟩
    cases fr with
    | true =>
      rw [if_pos rfl] at q2
      exact (hq.mono (s1.trans s2)).lst r2 hn (rps_strs _) q2
    | false =>
      rw [if_neg Bool.false_ne_true] at q2
      have s3 : Stp H2 G2 (upd H2 l (.lst ((Txt.split a b).map V.str))) (gput G2 l (.lst ((Txt.split a b).map D.str))) := .newM hn
      exact (hq.mono (s1.trans s2)) _ _ _ _ s3 (r2.newM hn ⟨_, upd_same, rps_strs _⟩) (.ref l) (q2 l (r2.free hn))
end
section
variable {σ : SD} {G : HH} {Q : QD} {E : ED} {fr : Bool} {to te : TED}
theorem st_split (h : to σ G (fun x G1 => ∃ a, x = .str a ∧ te σ G1 (fun y G2 => ∃ b, y = .str b ∧ SplT fr a b G2 Q) E) E) : dSplit fr to te σ G Q E := h
theorem st_splT {a b : Str} (hb : (b.length == 0) = false) (hl : a.length + 2 ≤ sizeLine) (q : Q (.lst ((Txt.split a b).map D.str)) G) : SplT true a b G Q := ⟨hb, hl, by rw [if_pos rfl]; exact q⟩
theorem st_splF {a b : Str} (hb : (b.length == 0) = false) (hl : a.length + 2 ≤ sizeLine) (q : ∀ p, G p = none → Q (.ref p) (gput G p (.lst ((Txt.split a b).map D.str)))) : SplT false a b G Q := ⟨hb, hl, by rw [if_neg Bool.false_ne_true]; exact q⟩
end
theorem st_exS {a : Str} {P : Str → Prop} (h : P a) : ∃ b, D.str a = .str b ∧ P b := ⟨a, rfl, h⟩
/-! ### int(text) -/
def kIntS : RCD := c1 fun x G Q => ∃ a n, x = .str a ∧ PySem.intText? a = some n ∧ a.length ≤ 640 ∧ Q (.int n) G
theorem cIntS {X : Cx} : CallD X (.type "int") kIntS := ⟨_, call_int_str, fun xs H Q ds G QD hR hp ⟨x, e, a, n, ea, hn, hl, q⟩ hq => by
  subst e
  obtain ⟨v, rfl, p⟩ := rps1 hp
  subst ea
  cases p
  exact ⟨a, n, rfl, hn, hl, hq.now hR (.int _) q⟩⟩
theorem st_intS {a : Str} {n : Int} {G : HH} {Q : QD} (hn : PySem.intText? a = some n) (hl : a.length ≤ 640) (h : Q (.int n) G) : kIntS [.str a] G Q := ⟨_, rfl, a, n, rfl, hn, hl, h⟩
end DL

namespace DL
open PySem PySem.Spec PyProof.Rows L2
open PySem.W (Frag)
/-! ### text * int -/
def repS (z : Str) (n : Nat) : Str := ⟨(List.replicate n z.cps).foldl (· ++ ·) #[]⟩
theorem foldl_app (z a : Array Nat) : ∀ n, ((List.replicate n z).foldl (· ++ ·) a).toList = a.toList ++ (List.replicate n z.toList).flatten
  | 0 => by simp
  | n + 1 => by
    rw [List.replicate_succ, List.foldl_cons, foldl_app z (a ++ z) n, List.replicate_succ, List.flatten_cons, Array.toList_append, List.append_assoc]
theorem repS_tl (z : Str) (n : Nat) : (repS z n).cps.toList = (List.replicate n z.cps.toList).flatten := by
  unfold repS
  rw [foldl_app]
  simp
theorem repS_len (z : Str) (n : Nat) : (repS z n).length = n * z.length := by
  have h : (repS z n).length = (repS z n).cps.toList.length := (Array.length_toList).symm
  rw [h, repS_tl, List.length_flatten, List.map_replicate, List.sum_replicate_nat, Array.length_toList]
  rfl
theorem repS_zero (z : Str) : repS z 0 = Str.empty := rfl
theorem repS_one (z : Str) : repS z 1 = z := by
  cases z with
  | mk c => simp [repS]
def rRepS : R2 := fun x y H Q => ∃ i k, x = .str i ∧ y = .int k ∧ 0 ≤ k ∧ k ≤ 100000 ∧ 0 < i.length ∧ i.length * k.toNat ≤ sizeLine ∧ Q (.str (repS i k.toNat)) H
theorem op_repS {X : Cx} : OpR X (binaryOp .Mult) rRepS := by
  intro pins s σ H x y v u Q I rx ry h
  obtain ⟨i, k, rfl, rfl, h0, hk, hi, hs, q⟩ := h
  obtain ⟨t, rfl⟩ := rx
  obtain ⟨t', rfl⟩ := ry
  have hsz : sizeLine = 16777216 := sizeLine_eq
  have hil : i.length ≤ sizeLine ∨ k = 0 := by
    by_cases hk0 : k = 0
    · exact .inr hk0
    · refine .inl (Nat.le_trans ?_ hs)
      exact Nat.le_mul_of_pos_right _ (by omega)
  refine P.mul_str (by rw [decide_eq_false (by omega), decide_eq_false (by omega)]; rfl) (fun hn _ => ?_) (fun _ _ => ?_) ?_
  · have hil := hil.resolve_right (by omega)
    have h1 : (16777216 : Int) ≤ (2 ^ 63 - 1) / k := (Int.le_ediv_iff_mul_le (by omega)).mpr (by
      have := Int.mul_le_mul_of_nonneg_left hk (by decide : (0 : Int) ≤ 16777216)
      omega)
    omega
  · unfold Builtin.Str.tooLong
    exact decide_eq_false (by omega)
  · by_cases hn : k < 1
    · obtain rfl : k = 0 := by omega
      rw [if_pos hn]
      exact ⟨by decide, .str Str.empty, H, I.tok _, ⟨_, rfl⟩, q⟩
    · rw [if_neg hn]
      by_cases h1 : k = 1
      · subst h1
        rw [if_pos (by rfl)]
        rw [show (1 : Int).toNat = 1 from rfl, repS_one] at q
        exact ⟨.str i, H, I, ⟨_, rfl⟩, q⟩
      · rw [if_neg (by
          rw [Bool.or_eq_true]
          rintro (h | h)
          · exact h1 (by simpa using h)
          · have : i.length = 0 := by simpa using h
            omega)]
        refine ⟨?_, .str (repS i k.toNat), H, I.tok _, ⟨_, rfl⟩, q⟩
        have := repS_len i k.toNat
        rw [Nat.mul_comm] at this
        show (repS i k.toNat).length ≤ sizeLine
        omega
def mStr : D → D → HH → QD → Prop := fun x y G Q => ∃ i k, x = .str i ∧ y = .int k ∧ 0 ≤ k ∧ k ≤ 100000 ∧ 0 < i.length ∧ i.length * k.toNat ≤ sizeLine ∧ Q (.str (repS i k.toNat)) G
theorem oMulS {X : Cx} : OpD X (binaryOp .Mult) mStr := ⟨_, op_repS, fun x y H Q dx dy G QD hR px py ⟨i, k, e1, e2, h0, h1, h2, h3, q⟩ hq => by
  subst e1; subst e2; cases px; cases py
  exact ⟨_, _, rfl, rfl, h0, h1, h2, h3, hq.now hR (.str _) q⟩⟩
theorem st_repS {i : Str} {k : Int} {G : HH} {Q : QD} (h0 : 0 ≤ k ∧ k ≤ 100000) (h2 : 0 < i.length) (h3 : i.length * k.toNat ≤ sizeLine) (q : Q (.str (repS i k.toNat)) G) : mStr (.str i) (.int k) G Q := ⟨_, _, rfl, rfl, h0.1, h0.2, h2, h3, q⟩
end DL

namespace DL
open PySem PySem.Spec PyProof.Rows L2
open PySem.W (Frag)
/-! ### repr of a tuple of own instances -/
section
variable {prog : Program} {w : World} {A : Around} {E : Value → Shared → Prop} {s : Shared} {K : Frag} {x C L f : Addr} {h₀ : Heap} {m : Str → Option Value} {ox : Obj} {od : Option Obj}
theorem ifBoundBy_K {M : Model} {last : Value → List Value → Sem Value} {name : Str} {Q : Option Value → Shared → Prop} (X : K.In s.heap) (I : PySem.W.InstAt s.heap x ox C od) (hs : PySem.W.findIn K (.ref C) name = some (some (.ref f))) (hf : PySem.W.isFn K (.ref f) = true)
    (h : wpAny M A (last (.ref f) [.ref x]) (fun v => Q (some v)) E s) : wpAny M A (callSpecialIfBoundBy? last (.ref x) name) Q E s := by
  simp only [callSpecialIfBoundBy?, bindSpecialIfBound?]
  refine wpAny_holding (wpAny_bind (wpAny_bind (wpAny_bind (I.type.here ((PySem.W.looks_findIn X hs).here ?_)))))
  refine wpAny_bind (wpAny_askSetting (wpAny_ite ?_))
  have fin : wpAny M A (last (.ref f) [.ref x] >>= fun v => pure (some v)) Q E s := wpAny_bind (wpAny_mono h (fun v s' h' => wpAny_pure h') fun _ _ h' => h')
  split
  · exact wpAny_bind ((PySem.W.bind_fn X _ (beq_iff_eq.mp hf)).here (wpAny_pure (by exact fin)))
  · exact wpAny_tryCatch (wpAny_bind ((PySem.W.bind_fn X _ (beq_iff_eq.mp hf)).here (wpAny_pure (by exact fin))))
theorem reprUnder_K {b : Nat} {Q : Str → Shared → Prop} (hb : b ≤ sizeLine) (hu : A.units < cLine) (X : K.In s.heap) (I : PySem.W.InstAt s.heap x ox C od) (hs : PySem.W.findIn K (.ref C) "__repr__" = some (some (.ref f))) (hf : PySem.W.isFn K (.ref f) = true)
    (h : wpAny (model prog w) A (call (.ref f) [.ref x]) (fun v s' => ∃ z u, v = .str z u ∧ Q z s') E s) : wpAny (model prog w) A (pyReprUnder b (.ref x)) Q E s := by
  refine wpAny_pyReprUnder_ref hb ?_
  unfold pyReprObjUnder pyReprObjBy
  refine wpAny_bind (wpAny_cRoomFor hu ?_)
  refine wpAny_bind (wpAny_bind (I.type.here ((PySem.W.looks_findIn X hs).here ?_)))
  show wpAny _ _ (if (some (Value.ref f)).isNone = true then _ else _) _ _ _
  rw [if_neg (by simp)]
  refine wpAny_bind (m := callSpecialIfBoundBy? _ (.ref x) (Str.ofString "__repr__")) (ifBoundBy_K X I hs hf ?_)
  show wpAny _ _ (call (.ref f) ([.ref x] ++ [])) _ _ _
  refine wpAny_mono h (fun r s' hr => ?_) fun _ _ y => y
  obtain ⟨z, u, rfl, q⟩ := hr
  refine wpAny_bind (wpAny_isInstance (typeIs_str _ _ _) isSubtype_str_str ?_)
  first
    | exact wpAny_pure ⟨_, _, rfl, q⟩
    | (rw [if_pos rfl]; exact wpAny_pure ⟨_, _, rfl, q⟩)
    | (simp only [if_true]; exact wpAny_pure ⟨_, _, rfl, q⟩)
end
/-- a def that may run while a repr is under way -/
structure FnU (P : Program) (w : World) (K : Frag) (mg : Str → Option Value) (base : Heap) (k : Nat) (f : Addr) (fd : FuncData) (ps : List Str) (sp : SpD) : Prop where
  len : ∀ ds G Q E, sp ds G Q E → ds.length = ps.length
  run : ∀ (A : Around) (outer : List Env) (s : Shared) (H : Hp) (args : Args) (us : List Value) (vs : List V) (Q : VK) (E : XK), Room k A → Env0 P w K mg base A outer s H → BindsTo s fd args (ps.zip us) → Vals vs us → lsp K sp vs H Q E →
    codeAny (model P w) A (.call (.ref f) args) (CR (L2.CX P w) outer P w H s Q E) s
theorem FnU.g {P w K mg base k f fd ps sp} (F : FnU P w K mg base k f fd ps sp) : FnG P w K mg base k f fd ps sp := ⟨F.len, fun A outer s H args us vs Q E _ => F.run A outer s H args us vs Q E⟩
theorem FnU.mono {P w K mg base j k f fd ps sp} (F : FnU P w K mg base j f fd ps sp) (h : j ≤ k) : FnU P w K mg base k f fd ps sp := ⟨F.len, fun A outer s H args us vs Q E hr => F.run A outer s H args us vs Q E (hr.mono h)⟩
section
variable {P : Program} {w : World} {K : Frag} {mg : Str → Option Value} {base : Heap}
theorem FunU.ok {x qual : Str} {st : Stmt} {f : Addr} {fd : FuncData} {N ps : List Str} {k : Nat} {sp : SpD} (F : Fun K x qual st f fd) (S : FnScope N ps (defScope st)) (len : ∀ ds G Q E, sp ds G Q E → ds.length = ps.length)
    (hbody : ∀ (cdv : Value) (A : Around) (outer : List Env) (s : Shared) (H : Hp) (E : XK), Room k (A.deeper (envOfC qual (defScope st) s.heap.objs.size f cdv)) →
      ∃ t, DSs (cxOf (L2.CX P w) P w K mg base N qual (defScope st) f cdv A outer s H E) (WD E) (defBody st) t ∧
        ∀ ds G Q EX, sp ds G Q EX → t { nx := fun _ G' => Q .non G', rt := Q, ex := fun x _ G' => EX x G' } (startD N ds) G) : FnU P w K mg base (k + 1) f fd ps sp := by
  obtain ⟨oc, od, kV, doc, pm, an, cdv, ct, osl, rfl, lk, hcd⟩ := F.ex
  refine ⟨len, fun A outer s H args us vs Q E hr e0 hb r hsp => ?_⟩
  obtain ⟨ds, G, QD, EX, hR, hrp, hq, hct, hex⟩ := hsp
  have inK : K.In s.heap := e0.mod.kin.keeps fun b o q => (e0.bs b o q).1
  have nolim : s.heap.NoLimit := e0.mod.nolimit.keeps fun b o q => (e0.bs b o q).1
  have hvl : vs.length = ps.length := by rw [← hrp.length]; exact len _ _ _ _ hq
  have kinds : ∀ y ∈ ps.zip us, (defScope st).names.lookup y.1 = some .local ∨ ((defScope st).names.lookup y.1 = some .cell ∧ ((cellsFrom (s.heap.objs.size + 1) (defScope st).names []).lookup y.1).isSome = true) := by
    rintro ⟨n, v⟩ hy
    rcases S.par n (List.of_mem_zip hy).1 with q | q
    · exact .inl q
    · exact .inr ⟨q, PySem.W.cellsFrom_some _ _ _ (.inl q)⟩
  refine codeAny_call_function hr.depth (inK _ _ lk) rfl S.co S.gen rfl (PySem.W.codeRec_of inK hcd) (hb _ _ _ _ ?_)
  refine wpAny_newFunctionEnv_cells S.kind kinds fun env henv s1 xc => ?_
  subst henv
  refine ⟨nolim.keeps xc.toInCall.keep, codeAny_func ?_⟩
  obtain ⟨t, ht, hv⟩ := hbody cdv A outer s H E (hr.deeper _)
  have I0 := inv_start (CX := L2.CX P w) (E := E) S hr.hd e0 hvl r xc
  refine wpAny_mono (ht.run [] s1 (L2.start N vs) H { nx := fun _ H' => Q .non H', rt := Q } I0 ?_) (fun fl s' hs => ?_) fun e s' hs => hs
  · refine ⟨startD N ds, G, _, hR, SRp.start hrp, hv ds G QD EX hq, ⟨fun _ H' _ G' s r _ z => hct _ _ _ _ s r .non z, hct, fun _ _ _ _ _ _ _ z => z.elim, fun _ _ _ _ _ _ _ z => z.elim, fun x cls d _ _ H' G' s r _ p z => hex x cls d H' G' s r p z⟩⟩
  · cases fl with
    | ret u =>
      obtain ⟨v, σ', H', J, rv, q⟩ := hs
      exact ⟨v, H', J.os, J.bare, J.base, J.hok, rv, q⟩
    | next =>
      obtain ⟨σ', H', J, q⟩ := hs
      exact ⟨V.non, H', J.os, J.bare, J.base, J.hok, rfl, q⟩
    | brk => exact hs.elim fun _ ⟨_, _, z⟩ => z.elim
    | cont => exact hs.elim fun _ ⟨_, _, z⟩ => z.elim
end
/-! repr(text), wherever -/
section
variable {X : Cx}
def kReprS : RCD := c1 fun x G Q => ∃ z, x = .str z ∧ (reprText z).length ≤ sizeLine ∧ Q (.str (reprText z)) G
theorem cReprS : CallD X (.builtin "repr") kReprS := ⟨fun xs H Q => ∃ z, xs = [.str z] ∧ (reprText z).length ≤ sizeLine ∧ Q (.str (reprText z)) H, fun pins s σ H xs us Q I r ⟨z, ex, hl, q⟩ => by
    subst ex
    obtain ⟨u, rfl, ru⟩ := vals1 r
    obtain ⟨tk, rfl⟩ := ru
    exact PySem.P.repr_of_str ⟨.str _, H, I.tok _, ⟨_, rfl⟩, q⟩ hl, fun xs H Q ds G QD hR hp ⟨x, e, z, ez, hl, q⟩ hq => by
    subst e
    obtain ⟨v, rfl, px⟩ := rps1 hp
    subst ez
    cases px
    exact ⟨z, rfl, hl, hq.now hR (.str _) q⟩⟩
theorem st_reprS {z : Str} {G : HH} {Q : QD} (h : (reprText z).length ≤ sizeLine) (q : Q (.str (reprText z)) G) : kReprS [.str z] G Q := ⟨_, rfl, z, rfl, h, q⟩
/-! the fold over the items -/
/-- own instances and what their repr is -/
inductive OT (c : Str) (sp : SpD) : List D → List Str → Prop
  | nil : OT c sp [] []
  | cons {ns : List Str} {fs : List D} {t : Str} {ds : List D} {ts : List Str} : (∀ G (Q : QD), Q (.str t) G → sp [.obj c ns fs] G Q (fun _ _ => False)) → OT c sp ds ts → OT c sp (.obj c ns fs :: ds) (t :: ts)
theorem OT.length {c : Str} {sp : SpD} : ∀ {ds : List D} {ts : List Str}, OT c sp ds ts → ds.length = ts.length
  | _, _, .nil => rfl
  | _, _, .cons _ h => by simp [h.length]
abbrev trC (a : Addr) : Code := .builtin "tuple.__repr__" ⟨[.ref a], []⟩
theorem under_env {P : Program} {w : World} {K : Frag} {mg : Str → Option Value} {base : Heap} {A : Around} {outer : List Env} {s : Shared} {H : Hp} {a : Addr} (e : Env0 P w K mg base A outer s H) : Env0 P w K mg base (A.under (trC a)) outer s H := ⟨e.frames, e.mod, e.bs, e.bsz, e.funs, e.frf, e.hok, e.bare⟩
theorem under_room {k : Nat} {A : Around} {a : Addr} (r : Room (k + 1) A) : Room k (A.under (trC a)) := by
  have h1 : (A.under (trC a)).depth ≤ A.depth + 3 := by
    first | exact Nat.le_of_eq rfl | (simp [Around.under, Code.weight, Code.isCreation, Code.isGuard, Code.isCaller, Code.frames, Code.isFrame, guardIds]; done) | (simp [Around.under, Code.weight, Code.isCreation, Code.isGuard, Code.isCaller, Code.frames, Code.isFrame, guardIds]; omega)
  have h2 : (A.under (trC a)).units ≤ A.units + 16 := by
    first | exact Nat.le_of_eq rfl | (simp [Around.under, Code.cUnits, Code.frames, Code.isFrame]; done) | (simp [Around.under, Code.cUnits, Code.frames, Code.isFrame]; omega)
  exact ⟨r.hd, by have := r.dp; omega, by have := r.un; omega⟩
variable {k : Nat} {f C : Addr} {fd : FuncData} {ps : List Str} {sp : SpD} {c : Str}
theorem run_atU {A' : Around} {pins : List (Addr × Obj)} {σ : L2.St} {H : Hp} {s : Shared} {Q : VK} {us : List Value} {vs : List V} (F : FnU X.prog X.w X.K X.mg X.base k f fd ps sp) (hr : Room k A') (e0 : Env0 X.prog X.w X.K X.mg X.base A' X.stack s H) (hb : Binds X.K fd ps [])
    (I : Inv X pins σ H s) (r : Vals vs us) (h : lsp X.K sp vs H Q E0) : wpAny (model X.prog X.w) A' (call (.ref f) us) (EP X pins σ Q) X.xe s := by
  have hl : us.length = ps.length := by rw [← r.length]; exact F.g.llen h
  have b := hb s us I.kIn (by rw [List.append_nil]; exact hl)
  rw [List.append_nil] at b
  refine wpAny_call (codeAny_mono (F.run A' X.stack s H ⟨us, []⟩ us vs Q E0 hr e0 b r h) fun r s' hq => ?_)
  cases r with
  | error e => exact passL pins σ H s e s' I hq
  | ok fl =>
    cases fl with
    | ret u => exact I.after hq
    | next => exact False.elim hq
    | brk => exact False.elim hq
    | cont => exact False.elim hq
theorem fold_O {A' : Around} {pins : List (Addr × Obj)} {σ : L2.St} (hC : gaddr X.K c = some C) (hm : Meth X.K C "__repr__" f) (F : FnU X.prog X.w X.K X.mg X.base k f fd ps sp) (hr : Room k A') (he : ∀ s H, Env0 X.prog X.w X.K X.mg X.base X.A X.stack s H → Env0 X.prog X.w X.K X.mg X.base A' X.stack s H) (hb : Binds X.K fd ps []) :
    ∀ (ds : List D) (vs : List V) (us : List Value) (ts : List Str) (acc : Array Str) (n : Nat) (s : Shared) (H : Hp) (G : HH) (Qf : (Array Str × Nat) → Shared → Prop), Inv X pins σ H s → RelH X.K H G → Rps X.K H G ds vs → Vals vs us → OT c sp ds ts → n + piled ts ≤ sizeLine →
      (∀ s' H', Inv X pins σ H' s' → Stp H G H' G → RelH X.K H' G → Qf ⟨acc ++ ts.toArray, n + piled ts⟩ s') → wpAny (model X.prog X.w) A' (forIn us (⟨acc, n⟩ : Array Str × Nat) tupBody) Qf X.xe s := by
  intro ds
  induction ds with
  | nil =>
    intro vs us ts acc n s H G Qf I hR hp hv ot hn h
    cases ot
    cases hp
    obtain rfl : us = [] := by
      have := hv.length
      cases us with
      | nil => rfl
      | cons u us => simp at this
    simp only [List.forIn_nil]
    have h0 := h s H I .refl hR
    exact wpAny_pure (by simpa [piled] using h0)
  | cons d ds ih =>
    intro vs us ts acc n s H G Qf I hR hp hv ot hn h
    cases ot with
    | @cons ns fs t _ ts hd ot =>
      cases hp with
      | @cons _ v _ vs p hp =>
        cases hv with
        | cons rv hv =>
          rename_i u us
          rw [piled_cons] at hn
          rw [List.forIn_cons]
          have p0 := p
          cases p with
          | @obj a dx C' _ _ xs _ hC' ha hG hlen hps =>
            rw [hC] at hC'; cases hC'
            obtain rfl : u = Value.ref a := rv
            obtain ⟨ox, od, J, _⟩ := inst_of I ha
            refine wpAny_bind (wpAny_bind (reprUnder_K (by omega) (by have := hr.un; omega) I.kIn J hm.at_ hm.fn (wpAny_mono (run_atU F hr (he _ _ I.env0) hb I (us := [.ref a]) (.cons (vref a) .nil) (lsp0 (QD := fun d G' => d = .str t ∧ G' = G) (Q := fun v' H' => Stp H G H' G ∧ RelH X.K H' G ∧ v' = .str t) hR (.cons p0 .nil) (hd G _ ⟨rfl, rfl⟩) fun v H' d G' stp rel rp hqd => ?_)) (fun r s' hr' => ?_) fun _ _ z => z)))
            · obtain ⟨hd1, hd2⟩ := hqd
              subst hd1; subst hd2
              cases rp
              exact ⟨stp, rel, rfl⟩
            · obtain ⟨w', H', I', rw', stp, rel, ew⟩ := hr'
              subst ew
              obtain ⟨tk, rfl⟩ := rw'
              refine ⟨t, tk, rfl, wpAny_pure ?_⟩
              refine ih vs us ts (acc.push t) (n + (t.length + 2)) s' H' G Qf I' rel (hp.mono stp) hv ot (by omega) fun s2 H2 I2 st2 r2 => ?_
              have h1 := h s2 H2 I2 (stp.trans st2) r2
              have e : n + piled (t :: ts) = n + (t.length + 2) + piled ts := by rw [piled_cons]; omega
              rw [e] at h1
              simpa using h1
/-- repr(t), t a tuple of own instances -/
def kReprT (c : Str) (sp : SpD) : RCD := c1 fun x G Q => ∃ ds ts, x = .tup ds ∧ OT c sp ds ts ∧ (tupleText ts).length ≤ sizeLine ∧ Q (.str (tupleText ts)) G
def rReprT (K : Frag) (c : Str) (sp : SpD) : List V → Hp → VK → Prop := fun xs H Q => ∃ a vs ds ts G, xs = [.ref a] ∧ SqT K H a vs ∧ RelH K H G ∧ Rps K H G ds vs ∧ OT c sp ds ts ∧ (tupleText ts).length ≤ sizeLine ∧ ∀ H', Stp H G H' G → RelH K H' G → Q (.str (tupleText ts)) H'
theorem call_reprT (hC : gaddr X.K c = some C) (hm : Meth X.K C "__repr__" f) (F : FnU X.prog X.w X.K X.mg X.base k f fd ps sp) (hg : X.A.guards = some []) (hr : Room (k + 2) X.A) (hb : Binds X.K fd ps []) : CallR X (.builtin "repr") (rReprT X.K c sp) := by
  intro pins s σ H xs us Q I r ⟨a, vs, ds, ts, G, ex, hT, hR, hp, ot, hl, q⟩
  subst ex
  obtain ⟨u, rfl, ru⟩ := vals1 r
  obtain rfl : u = Value.ref a := ru
  obtain ⟨its, rv, ⟨⟨cls, dd, data, sl⟩, ho, hc, n, hd⟩, hs⟩ := I.tuple hT
  simp only at hc hd
  subst hc hd
  have hTy : s.TypeIs (.ref a) "tuple" := ⟨_, ho, rfl⟩
  have hr1 : Room (k + 1) X.A.in1 := hr.in1
  have hu : X.A.in1.units < cLine := by have := hr1.un; omega
  refine Calls.call_function_entry PySem.F.kind_repr PySem.F.plain_repr PySem.F.entry_repr (PySem.F.args_repr1 _) ?_
  unfold Builtin.«repr»
  refine wpAny_bind (m := oneArg "repr" _) (wpAny_pure ?_)
  refine wpAny_bind (wpAny_cRoomFor hu ?_)
  refine wpAny_bind (wpAny_specialOf (name := Str.ofString "__repr__") hTy PySem.F.slot_tuple_repr.lookup ?_)
  refine wpAny_bind (m := callSpecialIfBound? (.ref a) (Str.ofString "__repr__") _) (wpAny_callSpecialIfBound?_slotG (name := Str.ofString "__repr__") hTy PySem.F.slot_tuple_repr ?_)
  refine wpAny_call (codeAny_call_builtin_own (Code.quiet_builtin _ (by decide +kernel)) PySem.F.entry_tuple_repr (PySem.F.slot_tuple_repr.check _ _ _ _ _ _ _ _ hTy (PySem.F.args_tuple_repr_1 _) ?_))
  show wpOwn _ _ _ (Builtin.tupleReprAt 0 ⟨[.ref a], []⟩) _ _ _
  rw [tuple_repr_tree, tupleReprUnderWay_eq]
  refine wpOwn_bind (wpOwn_stackTailAny (g := []) (show X.A.in1.guards = some [] from hg) (tupGuardF_off _) (tupGuardF_pos _) ?_)
  show wpOwn _ _ _ (tupleReprRest 0 (.ref a)) _ _ _
  refine wpOwn_of_wpAny ?_
  unfold tupleReprRest Builtin.Tuple.tupleItemsOf
  refine wpAny_bind (wpAny_bind (wpAny_seqItems ho rfl (wpAny_pure ?_)))
  rw [← Array.forIn_toList]
  have hpl := piled_le_tupleText ts
  have hlen : ts.length = its.length := by rw [← ot.length, hp.length, rv.length]
  refine wpAny_bind (fold_O hC hm F (under_room hr1) (fun s H e => under_env e.in1) hb ds vs its ts #[] 0 s H G _ I hR hp rv ot (by omega) fun s' H' I' stp rel => ?_)
  have hsz0 : (("(" : Str) ++ Str.join ", " (#[] ++ ts.toArray).toList ++ (if its.toArray.size == 1 then ",)" else ")" : String) : Str).length ≤ sizeLine := by simpa [tupleText, hlen] using hl
  refine wpAny_bind (wpAny_mkStr (wpAny_pure ?_) hsz0)
  have q1 := q H' stp rel
  have et : (("(" : Str) ++ Str.join ", " (#[] ++ ts.toArray).toList ++ (if its.toArray.size == 1 then ",)" else ")" : String) : Str) = tupleText ts := by simp [tupleText, hlen]
  show wpAny _ _ (do if ← isInstance (Value.str _ s'.toks) (.type "str") then ret _ else _) _ _ _
  refine wpAny_bind (wpAny_isInstance (typeIs_str _ _ _) isSubtype_str_str ?_)
  have fin : EP X pins σ Q (Value.str (("(" : Str) ++ Str.join ", " (#[] ++ ts.toArray).toList ++ (if its.toArray.size == 1 then ",)" else ")" : String) : Str) s'.toks) { s' with toks := s'.toks + 1 } := by
    rw [et]
    exact ⟨.str (tupleText ts), H', I'.tok _, ⟨_, rfl⟩, q1⟩
  first
    | exact wpAny_pure ⟨_, rfl, fin⟩
    | (rw [if_pos rfl]; exact wpAny_pure ⟨_, rfl, fin⟩)
    | (simp only [if_true]; exact wpAny_pure ⟨_, rfl, fin⟩)
theorem cReprT (hC : gaddr X.K c = some C) (hm : Meth X.K C "__repr__" f) (F : FnU X.prog X.w X.K X.mg X.base k f fd ps sp) (hg : X.A.guards = some []) (hr : Room (k + 2) X.A) (hb : Binds X.K fd ps []) : CallD X (.builtin "repr") (kReprT c sp) :=
  ⟨rReprT X.K c sp, call_reprT hC hm F hg hr hb, fun xs H Q ds G QD hR hp ⟨x, e, es, ts, ex, ot, hl, q⟩ hq => by
    subst e
    obtain ⟨v, rfl, px⟩ := rps1 hp
    subst ex
    cases px with
    | @tup a vs _ ft r => exact ⟨a, vs, es, ts, G, rfl, ft.sq, hR, r, ot, hl, fun H' stp rel => hq _ _ _ _ stp rel (.str _) q⟩⟩
theorem st_reprT {ds : List D} {ts : List Str} {G : HH} {Q : QD} (ot : OT c sp ds ts) (h : (tupleText ts).length ≤ sizeLine) (q : Q (.str (tupleText ts)) G) : kReprT c sp [.tup ds] G Q := ⟨_, rfl, ds, ts, rfl, ot, h, q⟩
end
end DL

namespace DL
open PySem PySem.Spec PyProof.Rows L2
open PySem.W (Frag)
/-! ### a list of anything == [] -/
section
variable {X : Cx}
def rEqNil (K : Frag) : R2 := fun x y H Q => ∃ a b xs, x = .ref a ∧ y = .ref b ∧ SqL K H a xs ∧ SqL K H b [] ∧ Q (.bl xs.isEmpty) H
theorem op_eqNil (hu : X.A.units + 64 < cLine) : OpR X (compareOp .Eq) (rEqNil X.K) := by
  intro pins s σ H x y v u Q I rx ry ⟨a, b, xs, ex, ey, ha, hb, q⟩
  subst ex; subst ey
  obtain rfl : v = Value.ref a := rx
  obtain rfl : u = Value.ref b := ry
  obtain ⟨its, rv, ⟨o, n, ho, hc, hd, hs⟩, _⟩ := I.list ha
  obtain ⟨its2, rv2, ⟨o2, n2, ho2, hc2, hd2, hs2⟩, _⟩ := I.list hb
  obtain rfl : its2 = [] := by
    have := rv2.length
    cases its2 with
    | nil => rfl
    | cons z r => simp at this
  have hl : s.heap.IsList a its.toArray := ⟨o, ho, hc, n, hs⟩
  have hl2 : s.heap.IsList b #[] := ⟨o2, ho2, hc2, n2, hs2⟩
  cases xs with
  | nil =>
    obtain rfl : its = [] := by
      have := rv.length
      cases its with
      | nil => rfl
      | cons z r => simp at this
    refine PySem.SeqAt.eq_listAt (e := fun _ => true) hl hl2 rfl (by omega) (fun j h1 _ => by simp at h1) ?_
    exact ⟨.bl true, H, I, rfl, q⟩
  | cons z r =>
    refine PySem.SeqAt.eq_list_lengthsAt hl hl2 ?_ (by omega) ?_
    · have := rv.length
      simp only [List.length_cons] at this
      cases its with
      | nil => simp at this
      | cons z r => simp
    · exact ⟨.bl false, H, I, rfl, q⟩
def eNil : D → D → HH → QD → Prop := fun x y G Q => ∃ xs, x = .lst xs ∧ y = .lst [] ∧ Q (.bl xs.isEmpty) G
theorem oEqNil (hu : X.A.units + 64 < cLine) : OpD X (compareOp .Eq) eNil := ⟨_, op_eqNil hu, fun x y H Q dx dy G QD hR px py ⟨xs, e1, e2, q⟩ hq => by
  subst e1; subst e2
  cases px with
  | @lst a vs _ h1 g1 r1 =>
    cases py with
    | @lst b us _ h2 g2 r2 =>
      cases r2
      refine ⟨a, b, vs, rfl, rfl, SqL.of h1, SqL.of h2, ?_⟩
      have e : vs.isEmpty = xs.isEmpty := by
        have := r1.length
        cases vs <;> cases xs <;> simp at this ⊢
      rw [e]
      exact hq.now hR (.bl _) q⟩
theorem st_eqNil {xs : List D} {G : HH} {Q : QD} (q : Q (.bl xs.isEmpty) G) : eNil (.lst xs) (.lst []) G Q := ⟨xs, rfl, rfl, q⟩
end
end DL

namespace DL
open PySem PySem.Spec PyProof.Rows L2
open PySem.W (Frag)
/-! ### a caught exception handed to a def that looks at its class -/
section
variable {X : Cx} {a Da : Addr} {oe : Obj} {d : Option Addr}
theorem exc_instP {pins : List (Addr × Obj)} {σ : L2.St} {H : Hp} {s : Shared} (hp : (a, oe) ∈ X.pn) (hz : Zc (.ref Da) d oe) (hf : ∃ vs, oe.data = .fields vs) (I : Inv X pins σ H s) (h : ∀ dd, d = some dd → ∃ ns, H dd = some (.xd ns)) : ∃ od, PySem.W.InstAt s.heap a oe Da od := by
  obtain ⟨ha, _⟩ := I.pin (a, oe) (List.mem_append_left _ hp)
  obtain ⟨vs, hd⟩ := hf
  have hn : PySem.W.notCls oe = true := by unfold PySem.W.notCls; rw [hd]
  cases d with
  | none => exact ⟨none, ha, hz.1, hn, by rw [hz.2]; trivial⟩
  | some dd =>
    obtain ⟨ns, e⟩ := h dd rfl
    obtain ⟨mA, hns, hr⟩ := (show ObjOk X.prog X.w H s.heap dd (.xd ns) from I.hok dd _ e)
    obtain ⟨od, ho, hl⟩ := lookIn_ns hns
    exact ⟨some od, ha, hz.1, hn, by rw [hz.2]; exact ho⟩
theorem call_isXP (hp : (a, oe) ∈ X.pn) (T : ExcC X.K Da) (hz : Zc (.ref Da) d oe) (hf : ∃ vs, oe.data = .fields vs) : CallR X (.builtin "isinstance") (rIsX X.K Da a d) := by
  intro pins s σ H xs us Q I r ⟨c, cv, b, ex, hcv, e, hdd, q⟩
  subst ex
  obtain ⟨u1, u2, rfl, r1, r2⟩ := vals2 r
  obtain rfl : u1 = Value.ref a := r1
  have ec := hcv _ r2
  subst ec
  exact PySem.W.kia_one (exc_kit T) I.kIn (exc_instP hp hz hf I hdd) e (by intro z; cases z) fun tk => ⟨.bl b, H, I.tok tk, rfl, q⟩
theorem cIsXP {n : Str} {y0 : D} {cv : Value} {tbl : List (Str × Bool)} (hp : (a, oe) ∈ X.pn) (hC : gaddr X.K n = some Da) (hcl : ClsD X.K y0 cv) (hT : ∀ p ∈ tbl, ∀ C, gaddr X.K p.1 = some C → ExcC X.K C ∧ PySem.W.kitOne X.K (.ref C) cv = some p.2) (hz : Zc (.ref Da) d oe) (hf : ∃ vs, oe.data = .fields vs) :
    CallD X (.builtin "isinstance") (kIsX a d n y0 tbl) := by
  by_cases hn : n ∈ tbl.map (·.1)
  · have hE : ExcC X.K Da := by
      obtain ⟨p, hpm, e⟩ := List.mem_map.mp hn
      exact (hT p hpm Da (by rw [e]; exact hC)).1
    exact ⟨_, call_isXP hp hE hz hf, fun xs H Q ds G QD hR hpp ⟨x, y, e, ey, ex, b, hm, q⟩ hq => by
      subst e; subst ey
      obtain ⟨v, w, rfl, p1, p2⟩ := rps2 hpp
      obtain ⟨T, hk⟩ := hT _ hm Da hC
      have hv : v = .ref a ∧ ∀ dd, d = some dd → ∃ ns, H dd = some (.xd ns) := by
        rcases ex with ⟨dd, ns, vs, ed, ex⟩ | ⟨ed, ex⟩
        · subst ex; subst ed
          cases p1 with
          | xe h g e r => exact ⟨rfl, fun dd' z => by cases z; exact ⟨_, h⟩⟩
        · subst ex; subst ed
          cases p1 with
          | ref a => exact ⟨rfl, fun dd z => by cases z⟩
      obtain ⟨rfl, hdd⟩ := hv
      refine ⟨w, cv, b, rfl, ?_, hk, hdd, hq.now hR (.bl _) q⟩
      intro u ru
      cases hcl with
      | own hc =>
        cases p2 with
        | gv hg =>
          rw [show gaddr X.K _ = some _ from hc] at hg
          cases hg
          exact ru
      | ty T =>
        cases p2
        exact ru⟩
  · exact ⟨fun _ _ _ => False, fun pins s σ H xs us Q I r h => h.elim, fun xs H Q ds G QD hR hp ⟨x, y, e, ey, ex, b, hm, q⟩ hq => hn (List.mem_map.mpr ⟨_, hm, rfl⟩)⟩
end
abbrev EN : XK := fun _ _ _ => False
/-- a def that gets the exception that is handled, and lets none out -/
structure FnE (P : Program) (w : World) (K : Frag) (mg : Str → Option Value) (base : Heap) (k : Nat) (f : Addr) (fd : FuncData) (ps : List Str) (sp : Str → Addr → Option Addr → SpD) : Prop where
  len : ∀ n a d ds G Q E, sp n a d ds G Q E → ds.length = ps.length
  run : ∀ (A : Around) (outer : List Env) (s : Shared) (H : Hp) (args : Args) (us : List Value) (vs : List V) (Q : VK) (n : Str) (a : Addr) (oe : Obj) (Da : Addr) (d : Option Addr), L2H.RoomH k A → L2H.PinOk outer H s (a, oe) → gaddr K n = some Da → Zc (.ref Da) d oe → (∃ vs, oe.data = .fields vs) → Env0 P w K mg base A outer s H → BindsTo s fd args (ps.zip us) → Vals vs us → lsp K (sp n a d) vs H Q EN →
    codeAny (model P w) A (.call (.ref f) args) (CR (L2.CX P w) outer P w H s Q EN) s
section
variable {P : Program} {w : World} {K : Frag} {mg : Str → Option Value} {base : Heap}
theorem FunE.ok {x qual : Str} {st : Stmt} {f : Addr} {fd : FuncData} {N ps : List Str} {k : Nat} {sp : Str → Addr → Option Addr → SpD} (F : Fun K x qual st f fd) (S : FnScope N ps (defScope st)) (len : ∀ n a d ds G Q E, sp n a d ds G Q E → ds.length = ps.length)
    (hbody : ∀ (cdv : Value) (A : Around) (outer : List Env) (s : Shared) (H : Hp) (n : Str) (C : Addr) (a : Addr) (oe : Obj) (d : Option Addr), L2H.RoomH k (A.deeper (envOfC qual (defScope st) s.heap.objs.size f cdv)) → gaddr K n = some C → Zc (.ref C) d oe → (∃ vs, oe.data = .fields vs) →
      ∃ t, DSs (L2H.cxH (L2.CX P w) P w K mg base N qual (defScope st) f cdv A outer s H EN (a, oe)) (WD EN) (defBody st) t ∧
        ∀ ds G Q EX, sp n a d ds G Q EX → t { nx := fun _ G' => Q .non G', rt := Q, ex := fun x _ G' => EX x G' } (startD N ds) G) : FnE P w K mg base (k + 1) f fd ps sp := by
  obtain ⟨oc, od, kV, doc, pm, an, cdv, ct, osl, rfl, lk, hcd⟩ := F.ex
  refine ⟨len, fun A outer s H args us vs Q n a oe Da d hr hpin hC hz hf e0 hb r hsp => ?_⟩
  obtain ⟨ds, G, QD, EX, hR, hrp, hq, hct, hex⟩ := hsp
  have inK : K.In s.heap := e0.mod.kin.keeps fun b o q => (e0.bs b o q).1
  have nolim : s.heap.NoLimit := e0.mod.nolimit.keeps fun b o q => (e0.bs b o q).1
  have hvl : vs.length = ps.length := by rw [← hrp.length]; exact len _ _ _ _ _ _ _ hq
  have kinds : ∀ y ∈ ps.zip us, (defScope st).names.lookup y.1 = some .local ∨ ((defScope st).names.lookup y.1 = some .cell ∧ ((cellsFrom (s.heap.objs.size + 1) (defScope st).names []).lookup y.1).isSome = true) := by
    rintro ⟨n, v⟩ hy
    rcases S.par n (List.of_mem_zip hy).1 with q | q
    · exact .inl q
    · exact .inr ⟨q, PySem.W.cellsFrom_some _ _ _ (.inl q)⟩
  refine codeAny_call_function hr.depth (inK _ _ lk) rfl S.co S.gen rfl (PySem.W.codeRec_of inK hcd) (hb _ _ _ _ ?_)
  refine wpAny_newFunctionEnv_cells S.kind kinds fun env henv s1 xc => ?_
  subst henv
  refine ⟨nolim.keeps xc.toInCall.keep, codeAny_func ?_⟩
  obtain ⟨t, ht, hv⟩ := hbody cdv A outer s H n Da a oe d (hr.deeper _) hC hz hf
  have I0 := L2H.inv_startH (CX := L2.CX P w) (E := EN) S hpin e0 hvl r xc
  refine wpAny_mono (ht.run [] s1 (L2.start N vs) H { nx := fun _ H' => Q .non H', rt := Q } I0 ?_) (fun fl s' hs => ?_) fun e s' hs => hs
  · refine ⟨startD N ds, G, _, hR, SRp.start hrp, hv ds G QD EX hq, ⟨fun _ H' _ G' s r _ z => hct _ _ _ _ s r .non z, hct, fun _ _ _ _ _ _ _ z => z.elim, fun _ _ _ _ _ _ _ z => z.elim, fun x cls d _ _ H' G' s r _ p z => hex x cls d H' G' s r p z⟩⟩
  · cases fl with
    | ret u =>
      obtain ⟨v, σ', H', J, rv, q⟩ := hs
      exact ⟨v, H', J.os, J.bare, J.base, J.hok, rv, q⟩
    | next =>
      obtain ⟨σ', H', J, q⟩ := hs
      exact ⟨V.non, H', J.os, J.bare, J.base, J.hok, rfl, q⟩
    | brk => exact hs.elim fun _ ⟨_, _, z⟩ => z.elim
    | cont => exact hs.elim fun _ ⟨_, _, z⟩ => z.elim
end
section
variable {X : Cx} {k : Nat} {f : Addr} {fd : FuncData} {ps : List Str} {sp : Str → Addr → Option Addr → SpD} {n x : Str} {a Da : Addr} {oe : Obj} {d : Option Addr} {pn : List (Addr × Obj)} {W : WX} {e : Expr} {es : List Expr} {t : TAD} {p pos : Pos}
theorem run_E {pins : List (Addr × Obj)} {σ : L2.St} {H : Hp} {s : Shared} {Q : VK} {us : List Value} {vs : List V} (F : FnE X.prog X.w X.K X.mg X.base k f fd ps sp) (hr : Room k X.A) (hC : gaddr X.K n = some Da) (hz : Zc (.ref Da) d oe) (hf : ∃ vs, oe.data = .fields vs) (hb : Binds X.K fd ps [])
    (I : Inv (X.suite a ((a, oe) :: pn)) pins σ H s) (r : Vals vs us) (h : lsp X.K (sp n a d) vs H Q EN) : wpAny (model X.prog X.w) (X.suite a ((a, oe) :: pn)).A (call (.ref f) us) (EP (X.suite a ((a, oe) :: pn)) pins σ Q) (X.suite a ((a, oe) :: pn)).xe s := by
  have hl : us.length = ps.length := by
    rw [← r.length]
    obtain ⟨ds, G, QD, EX, _, hrp, hq, _⟩ := h
    rw [← hrp.length]
    exact F.len _ _ _ _ _ _ _ hq
  have b := hb s us I.kIn (by rw [List.append_nil]; exact hl)
  rw [List.append_nil] at b
  have P1 := I.pin (a, oe) (List.mem_append_left _ List.mem_cons_self)
  have hpin : L2H.PinOk (X.suite a ((a, oe) :: pn)).stack H s (a, oe) := ⟨P1.1, P1.2.1, fun hm => (List.mem_cons.mp (I.stkSub a hm)).elim P1.2.2.1 P1.2.2.2.1, P1.2.2.2.2⟩
  refine wpAny_call (codeAny_mono (F.run (X.suite a ((a, oe) :: pn)).A (X.suite a ((a, oe) :: pn)).stack s H ⟨us, []⟩ us vs Q n a oe Da d ⟨hr.dp, hr.un⟩ hpin hC hz hf I.env0 b r h) fun r s' hq => ?_)
  cases r with
  | error e =>
    obtain ⟨_, _, _, _, _, _, _, _, _, _, _, _, z⟩ := hq
    exact z.elim
  | ok fl =>
    cases fl with
    | ret u => exact I.after hq
    | next => exact False.elim hq
    | brk => exact False.elim hq
    | cont => exact False.elim hq
def dCallE (sp : SpD) (t : TAD) : TED := fun σ G Q E => t σ G (fun ds G1 => sp ds G1 Q EF) E
theorem de_callE (F : FnE X.prog X.w X.K X.mg X.base k f fd ps sp) (hr : Room k X.A) (hg : Gl (X.suite a ((a, oe) :: pn)) x) (hm : X.mg x = some (.ref f)) (hk : PySem.W.keepIn X.K (.ref f) = true) (hb : Binds X.K fd ps []) (hC : gaddr X.K n = some Da) (hz : Zc (.ref Da) d oe) (hf : ∃ vs, oe.data = .fields vs)
    (ha : DA (X.suite a ((a, oe) :: pn)) W (e :: es) t) (hdb : (x == ("__debug__" : Str)) = false := by decide) (he : starEach (e :: es) X.env = (false, eval e X.env) :: starEach es X.env := by rfl) (hpl : (backTo pos (starEach es X.env)).any (·.1) = false := by rfl) :
    DE (X.suite a ((a, oe) :: pn)) W (.Call (.Name x p) (e :: es) [] pos) (dCallE (sp n a d) t) := by
  have ha' : PA (X.suite a ((a, oe) :: pn)) (e :: es) (lftA X.K W t) := ha
  refine ⟨fun pins s σ H Q I ⟨σD, G, QD, E, hR, hS, q, hq, hE⟩ => ?_⟩
  refine wpAny_Call_Name_kw (ld_glob I hg hm ?_ hdb)
  refine PySem.W.callWith_K (h₀ := X.base) I.ok.mod.kin hk (thn (ha'.run pos pins s σ H (fun vs H1 => lsp X.K (sp n a d) vs H1 Q EN) I ⟨σD, G, _, E, hR, hS, q, fun vs H1 ds G1 s1 r1 p1 q1 => ?_, hE⟩) fun us s1 ⟨vs, H1, I1, r, z⟩ => ⟨I1.kIn, run_E (X := X) F hr hC hz hf hb I1 r z⟩) he hpl
  exact ⟨ds, G1, QD, EF, r1, p1, q1, hq.mono s1, fun _ _ _ _ _ _ _ _ z => z⟩
theorem st_callE {σ : SD} {G : HH} {Q : QD} {E : ED} {sp : SpD} {t : TAD} (h : t σ G (fun ds G1 => sp ds G1 Q EF) E) : dCallE sp t σ G Q E := h
end
end DL

namespace DL
open PySem PySem.Spec PyProof.Rows L2
open PySem.W (Frag)
/-! ### functions handed to defs -/
theorem un_trans2 {fs fs' : List Addr} {H H1 H2 : Hp} {h h1 h2 : Heap} (a : Un fs [] H H1 h h1) (b : Un fs' [] H1 H2 h1 h2) (hsub : ∀ c ∈ fs', c ∈ fs ∨ h.get? c = none) : Un fs [] H H2 h h2 where
  keep := fun c ob q n hc hx => b.keep c ob (a.keep c ob q n hc hx) (a.free c ob q n hx) (fun z => (hsub c z).elim hc fun w => by rw [q] at w; cases w) hx
  slot := fun c ob q n hc hx => by
    obtain ⟨sl, e1⟩ := a.slot c ob q n hc hx
    obtain ⟨sl', e2⟩ := b.any e1 (a.free c ob q n hx) hx
    exact ⟨sl', e2⟩
  free := fun c ob q n hx => by
    obtain ⟨o', e1⟩ := a.there c ob q hx
    exact b.free c o' e1 (a.free c ob q n hx) hx
  there := fun c ob q hx => by
    obtain ⟨o', e1⟩ := a.there c ob q hx
    exact b.there c o' e1 hx
  tups := fun c xs q => b.tups c xs (a.tups c xs q)
  frzs := fun c o u q => b.frzs c o u (a.frzs c o u q)
  tbls := fun c ps q => by
    obtain ⟨m1, e1⟩ := a.tbls c ps q
    obtain ⟨m2, e2⟩ := b.tbls c _ e1
    exact ⟨m1 ++ m2, by rw [e2, Array.append_assoc]⟩
/-- what the function at g does whenever it is called from now on: outer the frames that stand -/
structure ActsAt (P : Program) (w : World) (K : Frag) (mg : Str → Option Value) (base : Heap) (k : Nat) (g : Addr) (sp : SpD) (outer : List Env) (s : Shared) (H : Hp) : Prop where
  fn : ∀ (s1 : Shared) (H1 : Hp), Un (frs outer) [] H H1 s.heap s1.heap → PySem.W.FnAt g s1.heap
  run : ∀ (A : Around) (outer' : List Env) (s1 : Shared) (H1 : Hp) (us : List Value) (vs : List V) (Q : VK) (E : XK), Un (frs outer) [] H H1 s.heap s1.heap → Env0 P w K mg base A outer' s1 H1 → A.guards = some [] → Room k A → Vals vs us → lsp K sp vs H1 Q E →
    codeAny (model P w) A (.call (.ref g) ⟨us, []⟩) (CR (L2.CX P w) outer' P w H1 s1 Q E) s1
theorem ActsAt.later {P : Program} {w : World} {K : Frag} {mg : Str → Option Value} {base : Heap} {k : Nat} {g : Addr} {sp : SpD} {outer outer2 : List Env} {s s2 : Shared} {H H2 : Hp} (a : ActsAt P w K mg base k g sp outer s H) (u : Un (frs outer) [] H H2 s.heap s2.heap) (hsub : ∀ c ∈ frs outer2, c ∈ frs outer ∨ s.heap.get? c = none) : ActsAt P w K mg base k g sp outer2 s2 H2 :=
  ⟨fun s1 H1 u1 => a.fn s1 H1 (un_trans2 u u1 hsub), fun A outer' s1 H1 us vs Q E u1 => a.run A outer' s1 H1 us vs Q E (un_trans2 u u1 hsub)⟩
/-- .. in a def that got it -/
theorem ActsAt.inv {X : Cx} {k : Nat} {g : Addr} {sp : SpD} {pins : List (Addr × Obj)} {σ : L2.St} {H : Hp} {s : Shared} (a : ActsAt X.prog X.w X.K X.mg X.base k g sp X.outer X.s_0 X.H_0) (hex : X.ex = []) (I : Inv X pins σ H s) : ActsAt X.prog X.w X.K X.mg X.base k g sp X.stack s H := by
  have u : Un (frs X.outer) [] X.H_0 H X.s_0.heap s.heap := by
    have := I.base
    rw [hex] at this
    exact this
  refine a.later u fun c hc => ?_
  rcases List.mem_cons.mp (I.stkSub c hc) with e | e
  · refine .inr ?_
    rw [e]
    cases q : X.s_0.heap.get? X.env.locals with
    | none => rfl
    | some o => exact absurd (Heap.lt_size q) (Nat.not_lt.mpr I.ok.above)
  · exact .inl e
/-- a def that gets a function -/
structure FnGA (P : Program) (w : World) (K : Frag) (mg : Str → Option Value) (base : Heap) (j k : Nat) (f : Addr) (fd : FuncData) (ps : List Str) (sp : SpD → Addr → SpD) : Prop where
  len : ∀ c g ds G Q E, sp c g ds G Q E → ds.length = ps.length
  run : ∀ (c : SpD) (g : Addr) (A : Around) (outer : List Env) (s : Shared) (H : Hp) (args : Args) (us : List Value) (vs : List V) (Q : VK) (E : XK), ActsAt P w K mg base j g c outer s H → A.guards = some [] → Room k A → Env0 P w K mg base A outer s H → BindsTo s fd args (ps.zip us) → Vals vs us → lsp K (sp c g) vs H Q E →
    codeAny (model P w) A (.call (.ref f) args) (CR (L2.CX P w) outer P w H s Q E) s
theorem FnGA.llen {P w K mg base j k f fd ps sp} (F : FnGA P w K mg base j k f fd ps sp) {c g vs H Q E} (h : lsp K (sp c g) vs H Q E) : vs.length = ps.length := by
  obtain ⟨ds, G, QD, EX, _, r, q, _⟩ := h
  rw [← r.length]
  exact F.len _ _ _ _ _ _ q
section
variable {P : Program} {w : World} {K : Frag} {mg : Str → Option Value} {base : Heap}
theorem FunGA.ok {x qual : Str} {st : Stmt} {f : Addr} {fd : FuncData} {N ps : List Str} {j k : Nat} {sp : SpD → Addr → SpD} (F : Fun K x qual st f fd) (S : FnScope N ps (defScope st)) (len : ∀ c g ds G Q E, sp c g ds G Q E → ds.length = ps.length)
    (hbody : ∀ (c : SpD) (g : Addr) (cdv : Value) (A : Around) (outer : List Env) (s : Shared) (H : Hp) (E : XK), ActsAt P w K mg base j g c outer s H → A.guards = some [] → Room k (A.deeper (envOfC qual (defScope st) s.heap.objs.size f cdv)) →
      ∃ t, DSs (cxOf (L2.CX P w) P w K mg base N qual (defScope st) f cdv A outer s H E) (WD E) (defBody st) t ∧
        ∀ ds G Q EX, sp c g ds G Q EX → t { nx := fun _ G' => Q .non G', rt := Q, ex := fun x _ G' => EX x G' } (startD N ds) G) : FnGA P w K mg base j (k + 1) f fd ps sp := by
  obtain ⟨oc, od, kV, doc, pm, an, cdv, ct, osl, rfl, lk, hcd⟩ := F.ex
  refine ⟨len, fun c g A outer s H args us vs Q E hact hgd hr e0 hb r hsp => ?_⟩
  obtain ⟨ds, G, QD, EX, hR, hrp, hq, hct, hex⟩ := hsp
  have inK : K.In s.heap := e0.mod.kin.keeps fun b o q => (e0.bs b o q).1
  have nolim : s.heap.NoLimit := e0.mod.nolimit.keeps fun b o q => (e0.bs b o q).1
  have hvl : vs.length = ps.length := by rw [← hrp.length]; exact len _ _ _ _ _ _ hq
  have kinds : ∀ y ∈ ps.zip us, (defScope st).names.lookup y.1 = some .local ∨ ((defScope st).names.lookup y.1 = some .cell ∧ ((cellsFrom (s.heap.objs.size + 1) (defScope st).names []).lookup y.1).isSome = true) := by
    rintro ⟨n, v⟩ hy
    rcases S.par n (List.of_mem_zip hy).1 with q | q
    · exact .inl q
    · exact .inr ⟨q, PySem.W.cellsFrom_some _ _ _ (.inl q)⟩
  refine codeAny_call_function hr.depth (inK _ _ lk) rfl S.co S.gen rfl (PySem.W.codeRec_of inK hcd) (hb _ _ _ _ ?_)
  refine wpAny_newFunctionEnv_cells S.kind kinds fun env henv s1 xc => ?_
  subst henv
  refine ⟨nolim.keeps xc.toInCall.keep, codeAny_func ?_⟩
  obtain ⟨t, ht, hv⟩ := hbody c g cdv A outer s H E hact hgd (hr.deeper _)
  have I0 := inv_start (CX := L2.CX P w) (E := E) S hr.hd e0 hvl r xc
  refine wpAny_mono (ht.run [] s1 (L2.start N vs) H { nx := fun _ H' => Q .non H', rt := Q } I0 ?_) (fun fl s' hs => ?_) fun e s' hs => hs
  · refine ⟨startD N ds, G, _, hR, SRp.start hrp, hv ds G QD EX hq, ⟨fun _ H' _ G' s r _ z => hct _ _ _ _ s r .non z, hct, fun _ _ _ _ _ _ _ z => z.elim, fun _ _ _ _ _ _ _ z => z.elim, fun x cls d _ _ H' G' s r _ p z => hex x cls d H' G' s r p z⟩⟩
  · cases fl with
    | ret u =>
      obtain ⟨v, σ', H', J, rv, q⟩ := hs
      exact ⟨v, H', J.os, J.bare, J.base, J.hok, rv, q⟩
    | next =>
      obtain ⟨σ', H', J, q⟩ := hs
      exact ⟨V.non, H', J.os, J.bare, J.base, J.hok, rfl, q⟩
    | brk => exact hs.elim fun _ ⟨_, _, z⟩ => z.elim
    | cont => exact hs.elim fun _ ⟨_, _, z⟩ => z.elim
end
end DL

namespace DL
open PySem PySem.Spec PyProof.Rows L2
open PySem.W (Frag)
/-! ### a function that was handed is called -/
section
variable {X : Cx} {W : WX} {k i : Nat} {g : Addr} {c : SpD} {x : Str} {e : Expr} {es : List Expr} {t : TAD} {p pos : Pos}
theorem run_act {pins : List (Addr × Obj)} {σ : L2.St} {H : Hp} {s : Shared} {Q : VK} {us : List Value} {vs : List V} (a : ActsAt X.prog X.w X.K X.mg X.base k g c X.stack s H) (hgd : X.A.guards = some []) (hr : Room k X.A) (tk : Takes X W)
    (I : Inv X pins σ H s) (r : Vals vs us) (h : lsp X.K c vs H Q (WE W σ)) : wpAny (model X.prog X.w) X.A (call (.ref g) us) (EP X pins σ Q) X.xe s := by
  refine wpAny_call (codeAny_mono (a.run X.A X.stack s H us vs Q (WE W σ) .refl I.env0 hgd hr r h) fun r s' hq => ?_)
  cases r with
  | error e => exact passAt tk σ pins H s e s' I hq
  | ok fl =>
    cases fl with
    | ret u => exact I.after hq
    | next => exact False.elim hq
    | brk => exact False.elim hq
    | cont => exact False.elim hq
/-- x(e, ..), x the def's own name for the function at g -/
def dAct (i : Nat) (g : Addr) (c : SpD) (t : TAD) : TED := fun σ G Q E => σ[i]? = some (some (.ref g)) ∧ t σ G (fun ds G1 => c ds G1 Q E) E
theorem de_act (hact : ActsAt X.prog X.w X.K X.mg X.base k g c X.outer X.s_0 X.H_0) (hex : X.ex = []) (hgd : X.A.guards = some []) (hr : Room k X.A) (tk : Takes X W) (ha : DA X W (e :: es) t)
    (hN : X.N[i]? = some x := by rfl) (hv : Vis X.env.scope x := by first | exact Or.inl rfl | exact Or.inr (Or.inl rfl) | exact Or.inr (Or.inr rfl)) (hd : (x == ("__debug__" : Str)) = false := by decide) (hcd : (x == ("__classdict__" : Str)) = false := by decide)
    (he : starEach (e :: es) X.env = (false, eval e X.env) :: starEach es X.env := by rfl) (hpl : (backTo pos (starEach es X.env)).any (·.1) = false := by rfl) :
    DE X W (.Call (.Name x p) (e :: es) [] pos) (dAct i g c t) := by
  have ha' : PA X (e :: es) (lftA X.K W t) := ha
  refine ⟨fun pins s σ H Q I ⟨σD, G, QD, E, hR, hS, ⟨hi, q⟩, hq, hE⟩ => ?_⟩
  obtain ⟨v, hv1, r1⟩ := hS.at_ i _ hi
  cases r1
  refine wpAny_Call_Name_kw (thn ((pe_var (pos := p) (i := i) hN hv hd hcd).run pins s σ H (fun v H1 => v = .ref g ∧ H1 = H) I ⟨.ref g, hv1, rfl, rfl⟩) fun u s1 ⟨v, H1, I1, r1, q1⟩ => ?_)
  obtain ⟨ev, eH⟩ := q1
  subst ev
  rw [eH] at I1
  obtain rfl : u = Value.ref g := r1
  refine PySem.W.callWith_F ((hact.inv hex I1).fn s1 H .refl) (thn (ha'.run pos pins s1 σ H (fun vs H1 => lsp X.K c vs H1 Q (WE W σ)) I1 ⟨σD, G, _, E, hR, hS, q, fun vs H1 ds G1 s1 r1 p1 q1 => ?_, hE⟩) fun us s2 ⟨vs, H2, I2, r, z⟩ => ⟨(hact.inv hex I2).fn s2 H2 .refl, run_act (hact.inv hex I2) hgd hr tk I2 r z⟩) he hpl
  exact ⟨ds, G1, QD, E, r1, p1, q1, hq.mono s1, hE.mono s1⟩
theorem de_act0 (hact : ActsAt X.prog X.w X.K X.mg X.base k g c X.outer X.s_0 X.H_0) (hex : X.ex = []) (hgd : X.A.guards = some []) (hr : Room k X.A) (tk : Takes X W)
    (hN : X.N[i]? = some x := by rfl) (hv : Vis X.env.scope x := by first | exact Or.inl rfl | exact Or.inr (Or.inl rfl) | exact Or.inr (Or.inr rfl)) (hd : (x == ("__debug__" : Str)) = false := by decide) (hcd : (x == ("__classdict__" : Str)) = false := by decide) :
    DE X W (.Call (.Name x p) [] [] pos) (dAct i g c dNil) := by
  refine ⟨fun pins s σ H Q I ⟨σD, G, QD, E, hR, hS, ⟨hi, q⟩, hq, hE⟩ => ?_⟩
  obtain ⟨v, hv1, r1⟩ := hS.at_ i _ hi
  cases r1
  refine wpAny_Call_Name_kw (thn ((pe_var (pos := p) (i := i) hN hv hd hcd).run pins s σ H (fun v H1 => v = .ref g ∧ H1 = H) I ⟨.ref g, hv1, rfl, rfl⟩) fun u s1 ⟨v, H1, I1, r1, q1⟩ => ?_)
  obtain ⟨ev, eH⟩ := q1
  subst ev
  rw [eH] at I1
  obtain rfl : u = Value.ref g := r1
  exact PySem.W.callWith_F0 ((hact.inv hex I1).fn s1 H .refl) (run_act (us := []) (vs := []) (hact.inv hex I1) hgd hr tk I1 .nil ⟨[], G, QD, E, hR, .nil, q, hq, hE⟩)
theorem st_act {σ : SD} {G : HH} {Q : QD} {E : ED} (h1 : σ[i]? = some (some (.ref g))) (h : t σ G (fun ds G1 => c ds G1 Q E) E) : dAct i g c t σ G Q E := ⟨h1, h⟩
/-- the function is handed on to a def that gets one -/
theorem de_callP {j : Nat} {f : Addr} {fd : FuncData} {ps : List Str} {sp : SpD → Addr → SpD} (F : FnGA X.prog X.w X.K X.mg X.base j k f fd ps sp) (hact : ActsAt X.prog X.w X.K X.mg X.base j g c X.outer X.s_0 X.H_0) (hex : X.ex = []) (hgd : X.A.guards = some []) (hr : Room k X.A)
    (hg : Gl X x) (hm : X.mg x = some (.ref f)) (hk : PySem.W.keepIn X.K (.ref f) = true) (hb : Binds X.K fd ps []) (tk : Takes X W)
    (ha : DA X W (e :: es) t) (hdb : (x == ("__debug__" : Str)) = false := by decide) (he : starEach (e :: es) X.env = (false, eval e X.env) :: starEach es X.env := by rfl) (hpl : (backTo pos (starEach es X.env)).any (·.1) = false := by rfl) :
    DE X W (.Call (.Name x p) (e :: es) [] pos) (dCall (sp c g) t) := by
  have ha' : PA X (e :: es) (lftA X.K W t) := ha
  refine ⟨fun pins s σ H Q I ⟨σD, G, QD, E, hR, hS, q, hq, hE⟩ => ?_⟩
  refine wpAny_Call_Name_kw (ld_glob I hg hm ?_ hdb)
  refine PySem.W.callWith_K (h₀ := X.base) I.ok.mod.kin hk (thn (ha'.run pos pins s σ H (fun vs H1 => lsp X.K (sp c g) vs H1 Q (WE W σ)) I ⟨σD, G, _, E, hR, hS, q, fun vs H1 ds G1 s1 r1 p1 q1 => ?_, hE⟩) fun us s1 ⟨vs, H1, I1, r, z⟩ => ⟨I1.kIn, ?_⟩) he hpl
  · exact ⟨ds, G1, QD, E, r1, p1, q1, hq.mono s1, hE.mono s1⟩
  · have hl : us.length = ps.length := by rw [← r.length]; exact F.llen z
    have b := hb s1 us I1.kIn (by rw [List.append_nil]; exact hl)
    rw [List.append_nil] at b
    refine wpAny_call (codeAny_mono (F.run c g X.A X.stack s1 H1 ⟨us, []⟩ us vs Q (WE W σ) (hact.inv hex I1) hgd hr I1.env0 b r z) fun r s' hq => ?_)
    cases r with
    | error e => exact passAt tk σ pins H1 s1 e s' I1 hq
    | ok fl =>
      cases fl with
      | ret u => exact I1.after hq
      | next => exact False.elim hq
      | brk => exact False.elim hq
      | cont => exact False.elim hq
end
/-! ### lambdas -/
/-- a lambda's names: its parameters are plain locals, all else is captured or global -/
structure LamP (sc scope : Scope) (ps : List Str) : Prop where
  kind : scope.kind = .function
  co : scope.isCoroutine = false
  gen : scope.isGenerator = false
  own : ∀ y ∈ scope.names, y.2 ≠ .cell
  par : ∀ y ∈ ps, scope.names.lookup y = some .local
  nd : ps.Nodup
  free : ∀ y ∈ scope.names, y.2 = .free → sc.names.lookup y.1 = some .cell ∨ sc.names.lookup y.1 = some .free
def lamPB (sc scope : Scope) (ps : List Str) : Bool :=
  decide (scope.kind = .function) && !scope.isCoroutine && !scope.isGenerator && (scope.names.all fun y => !decide (y.2 = .cell) && (!decide (y.2 = .free) || decide (sc.names.lookup y.1 = some .cell) || decide (sc.names.lookup y.1 = some .free))) &&
    (ps.all fun y => decide (scope.names.lookup y = some .local)) && decide ps.Nodup
theorem lamP_by {sc scope : Scope} {ps : List Str} (h : lamPB sc scope ps = true) : LamP sc scope ps := by
  unfold lamPB at h
  simp only [Bool.and_eq_true, Bool.or_eq_true, Bool.not_eq_true', decide_eq_true_eq, decide_eq_false_iff_not, List.all_eq_true] at h
  obtain ⟨⟨⟨⟨⟨h1, h2⟩, h3⟩, h4⟩, h5⟩, h6⟩ := h
  refine ⟨h1, h2, h3, fun y hy => (h4 y hy).1, h5, h6, fun y hy e => ?_⟩
  rcases (h4 y hy).2 with (z | z) | z
  · exact absurd e z
  · exact .inl z
  · exact .inr z
theorem LamP.has {X : Cx} {scope : Scope} {ps : List Str} (L : LamP X.env.scope scope ps) (ok : X.Ok) : ∀ y ∈ scope.names, y.2 = .free → ∃ c, X.env.cells.lookup y.1 = some c := fun y hy e => by
  rcases L.free y hy e with k | k
  · exact ok.has _ (.inl k)
  · exact ok.has _ (.inr k)
/-- the captured ones of the maker's slots -/
def mk (fr : List Bool) (σ : L2.St) : L2.St := List.zipWith (fun b v => if b = true then v else none) fr σ
def mkD (fr : List Bool) (σ : SD) : SD := List.zipWith (fun b v => if b = true then v else none) fr σ
theorem zip_at {α : Type} {fr : List Bool} {σ : List (Option α)} {i : Nat} {v : α} (h : (List.zipWith (fun b (v : Option α) => if b = true then v else none) fr σ)[i]? = some (some v)) : fr[i]? = some true ∧ σ[i]? = some (some v) := by
  rw [List.getElem?_zipWith] at h
  cases e1 : fr[i]? with
  | none => rw [e1] at h; cases h
  | some b =>
    cases e2 : σ[i]? with
    | none => rw [e1, e2] at h; cases h
    | some u =>
      rw [e1, e2] at h
      cases b with
      | true =>
        have h2 : some (if true = true then u else none) = some (some v) := h
        rw [if_pos rfl] at h2
        exact ⟨rfl, h2⟩
      | false =>
        have h2 : some (if false = true then u else none) = some (some v) := h
        rw [if_neg (by decide)] at h2
        cases h2
theorem zip_to {α : Type} {fr : List Bool} {σ : List (Option α)} {i : Nat} {v : Option α} (h1 : fr[i]? = some true) (h2 : σ[i]? = some v) : (List.zipWith (fun b (v : Option α) => if b = true then v else none) fr σ)[i]? = some v := by
  rw [List.getElem?_zipWith, h1, h2] <;> rfl
def frOk (scope : Scope) (N : List Str) (fr : List Bool) : Bool := decide (fr.length = N.length) && (fr.zip N).all fun p => !p.1 || decide (scope.names.lookup p.2 = some .free)
theorem frOk.len {scope : Scope} {N : List Str} {fr : List Bool} (h : frOk scope N fr = true) : fr.length = N.length := by
  unfold frOk at h
  exact of_decide_eq_true (Bool.and_eq_true_iff.mp h).1
theorem frOk.at {scope : Scope} {N : List Str} {fr : List Bool} (h : frOk scope N fr = true) {i : Nat} {x : Str} (h1 : fr[i]? = some true) (h2 : N[i]? = some x) : scope.names.lookup x = some .free := by
  unfold frOk at h
  have h3 := List.all_eq_true.mp (Bool.and_eq_true_iff.mp h).2 (true, x) (List.mem_iff_getElem?.mpr ⟨i, by rw [List.getElem?_zip_eq_some]; exact ⟨h1, h2⟩⟩)
  simpa using h3
-- data that lies as it lies: no frozen list, object or dict in it
mutual
def capD : D → Bool
  | .non => true
  | .bl _ => true
  | .int _ => true
  | .str _ => true
  | .ty _ => true
  | .ref _ => true
  | .gv _ => true
  | .tup xs => capsD xs
  | _ => false
def capsD : List D → Bool
  | [] => true
  | d :: ds => capD d && capsD ds
end
def capS (σ : SD) : Bool := σ.all fun o => match o with
  | none => true
  | some d => capD d
theorem HR.notup {K H G a o} (h : HR K H G a o) (xs : List V) : H a ≠ some (.tup xs) := fun z => by
  cases o with
  | lst ds => obtain ⟨_, e, _⟩ := h; rw [z] at e; cases e
  | ins C ns ds => obtain ⟨_, _, _, _, e, _⟩ := h; rw [z] at e; cases e
  | dK kvs => obtain ⟨_, e, _⟩ := h; rw [z] at e; cases e
  | dT kvs => obtain ⟨_, e, _⟩ := h; rw [z] at e; cases e
  | tab nm => obtain ⟨_, e, _⟩ := h; rw [z] at e; cases e
theorem RelH.notup {K H G a} {xs : List V} (h : RelH K H G) (e : H a = some (.tup xs)) : G a = none := by
  cases q : G a with
  | none => rfl
  | some o => exact absurd e ((h a o q).notup xs)
mutual
theorem Rp.cap {K H G H1 G1} (ht : ∀ b xs, H b = some (.tup xs) → H1 b = some (.tup xs)) (hR : RelH K H1 G1) : ∀ {d v}, Rp K H G d v → capD d = true → Rp K H1 G1 d v
  | _, _, .non, _ => .non
  | _, _, .bl b, _ => .bl b
  | _, _, .int i, _ => .int i
  | _, _, .str x, _ => .str x
  | _, _, .ty n, _ => .ty n
  | _, _, .ref a, _ => .ref a
  | _, _, .gv h, _ => .gv h
  | _, _, .tup h r, e => .tup (h.elim (fun z => .inl ⟨ht _ _ z.1, hR.notup (ht _ _ z.1)⟩) .inr) (Rps.cap ht hR r (by simpa [capD] using e))
  | _, _, .lst _ _ _, e => by simp [capD] at e
  | _, _, .wls _ _, e => by simp [capD] at e
  | _, _, .obj _ _ _ _ _, e => by simp [capD] at e
  | _, _, .xe _ _ _ _, e => by simp [capD] at e
  | _, _, .dK _ _ _ _, e => by simp [capD] at e
  | _, _, .dT _ _ _ _, e => by simp [capD] at e
theorem Rps.cap {K H G H1 G1} (ht : ∀ b xs, H b = some (.tup xs) → H1 b = some (.tup xs)) (hR : RelH K H1 G1) : ∀ {ds vs}, Rps K H G ds vs → capsD ds = true → Rps K H1 G1 ds vs
  | _, _, .nil, _ => .nil
  | d :: ds, _, .cons a r, e => by
    have e2 : (capD d && capsD ds) = true := by simpa [capsD] using e
    obtain ⟨h1, h2⟩ := Bool.and_eq_true_iff.mp e2
    exact .cons (Rp.cap ht hR a h1) (Rps.cap ht hR r h2)
end
/-- the context of the lambda's body -/
def lamCxP (X : Cx) (A : Around) (outer : List Env) (s : Shared) (H : Hp) (E : XK) (scope : Scope) (ps : List Str) (f c' : Addr) : Cx := { LamX.lamCx X A outer s H E scope f c' with N := ps ++ X.N }
theorem lookup_zip {ps : List Str} {us : List Value} {i : Nat} {x : Str} {u : Value} (nd : ps.Nodup) (h1 : ps[i]? = some x) (h2 : us[i]? = some u) : (ps.zip us).lookup x = some u := by
  induction ps generalizing us i with
  | nil => simp at h1
  | cons p ps ih =>
    cases us with
    | nil => simp at h2
    | cons w us =>
      cases i with
      | zero =>
        simp at h1 h2
        subst h1; subst h2
        simp [List.zip_cons_cons, List.lookup]
      | succ i =>
        have h1' : ps[i]? = some x := by simpa using h1
        have h2' : us[i]? = some u := by simpa using h2
        have ne : (x == p) = false := by
          refine beq_eq_false_iff_ne.mpr fun z => ?_
          rw [z] at h1'
          exact (List.nodup_cons.mp nd).1 (List.mem_of_getElem? h1')
        rw [List.zip_cons_cons, List.lookup_cons, ne]
        exact ih (List.nodup_cons.mp nd).2 h1' h2'
section
variable {X : Cx} {pins : List (Addr × Obj)} {σ : L2.St} {H HZ : Hp} {s s1 : Shared}
theorem lam_startP {A : Around} {outer : List Env} {E : XK} {scope : Scope} {ps : List Str} {fr : List Bool} {f c' : Addr} {h₁ : Heap} {tk : Nat} {vs : List V} {us : List Value} (I : Inv X pins σ H s) (L : LamP X.env.scope scope ps) (hfr : frOk scope X.N fr = true) (e0 : Env0 X.prog X.w X.K X.mg X.base A outer s1 HZ) (hd : A.handled = none)
    (un : Un (frs X.stack) [] H HZ s.heap s1.heap) (r : Vals vs us) (hl : vs.length = ps.length) (hns : h₁.Ns s1.heap.objs.size fun y => (ps.zip us).reverse.lookup y) (kp : ∀ b o, s1.heap.get? b = some o → h₁.get? b = some o) :
    Inv (lamCxP X A outer s1 HZ E scope ps f c') [] (vs.map some ++ mk fr σ) HZ { s1 with heap := h₁, toks := tk } := by
  have hfree := L.has I.ok
  have cm : ∀ {y c}, (cloFrom X.env.cells scope.names []).lookup y = some c → X.env.cells.lookup y = some c := fun {y c} e => by
    rcases cloFrom_mem (PySem.mem_of_lookup e) with hm | ⟨h1, h2⟩
    · cases hm
    · obtain ⟨c1, hc⟩ := hfree _ h1 rfl
      have hc : X.env.cells.lookup y = some c1 := hc
      have e2 : c = c1 := by
        rw [h2, hc] <;> rfl
      rw [e2]
      exact hc
  have look : ∀ {y}, scope.names.lookup y = some .free → ∃ c, (cloFrom X.env.cells scope.names []).lookup y = some c := fun {y} hl => by
    have hy : (y, NameKind.free) ∈ scope.names := PySem.mem_of_lookup hl
    exact mem_lookup (cloFrom_has (cells := X.env.cells) (acc := []) hy)
  have cellK : ∀ {c : Addr} {v : Option Value}, H c = none → s.heap.IsCell c v → h₁.IsCell c v := fun {c v} n ⟨o, ho, hd⟩ => by
    obtain ⟨sl, q⟩ := un.any ho n (by simp)
    exact ⟨_, kp _ _ q, hd⟩
  have noA : ∀ b : Addr, b ∉ (lamCxP X A outer s1 HZ E scope ps f c').ex := fun b z => absurd (show b ∈ ([] : List Addr) from z) (by simp)
  refine ⟨⟨e0.mod, L.kind, rfl, rfl, Nat.le_refl _, fun y z c e1 e2 => I.ok.inj y z c (cm e1) (cm e2), fun y hy => ?_, fun y c z _ => ?_, fun _ => hd, Around.frames_deeper e0.frames, .inr ⟨rfl, rfl⟩, fun b z => absurd z (noA b), e0.bs, e0.bsz, fun b _ _ => noA b,
      fun b z => absurd z (noA b), e0.funs, e0.frf⟩,
    rfl, e0.bare, Un.kept kp, ⟨_, hns, fun i y v e1 e2 e3 => ?_⟩, fun y c e => ?_, e0.hok.fresh (Nat.le_refl _), fun y c e => ?_, fun q hq => absurd (show q ∈ ([] : List (Addr × Obj)) ++ [] from hq) (by simp), e0.hok.kept kp, ?_⟩
  · have hy : scope.names.lookup y = some .cell ∨ scope.names.lookup y = some .free := hy
    rcases hy with hy | hy
    · exact absurd rfl (L.own _ (PySem.mem_of_lookup hy))
    · exact look hy
  · have z : false = true := z
    cases z
  · have e1 : (ps ++ X.N)[i]? = some y := e1
    by_cases hi : i < ps.length
    · rw [List.getElem?_append_left hi] at e1
      rw [List.getElem?_append_left (by rw [List.length_map, hl]; exact hi), List.getElem?_map] at e2
      cases ev : vs[i]? with
      | none => rw [ev] at e2; cases e2
      | some a =>
        rw [ev] at e2
        cases e2
        obtain ⟨u, hu, rv⟩ := r.get ev
        refine ⟨u, rv, .inl ⟨L.par y (List.mem_of_getElem? e1), ?_⟩⟩
        show (ps.zip us).reverse.lookup y = some u
        rw [PySem.lookup_reverse_of_nodup _ (by rw [List.map_fst_zip (by rw [← r.length, hl]; exact Nat.le_refl _)]; exact L.nd)]
        exact lookup_zip L.nd e1 hu
    · rw [List.getElem?_append_right (Nat.le_of_not_lt hi)] at e1
      rw [List.getElem?_append_right (by rw [List.length_map, hl]; exact Nat.le_of_not_lt hi), List.length_map, hl] at e2
      obtain ⟨g1, g2⟩ := zip_at e2
      have k := frOk.at hfr g1 e1
      obtain ⟨m, hn, hlk⟩ := I.loc
      have hvis : Vis X.env.scope y := (L.free _ (PySem.mem_of_lookup k) rfl).elim (fun k => .inr (.inl k)) (fun k => .inr (.inr k))
      obtain ⟨w', rv, q⟩ := hlk (i - ps.length) y v e1 g2 hvis
      obtain ⟨c2, h2⟩ := look k
      refine ⟨w', rv, .inr ⟨.inr k, c2, h2, ?_⟩⟩
      have c1 := cm h2
      rcases q with ⟨k', _⟩ | ⟨_, c3, e', z⟩
      · have k' : X.env.scope.names.lookup y = some .local := k'
        rcases L.free _ (PySem.mem_of_lookup k) rfl with k2 | k2 <;> rw [show X.env.scope.names.lookup y = _ from k2] at k' <;> cases k'
      · rw [c1] at e'
        cases e'
        exact cellK (I.freeC y _ c1) z
  · obtain ⟨w', z⟩ := I.cell y c (cm e)
    exact ⟨w', cellK (I.freeC y c (cm e)) z⟩
  · obtain ⟨v, o, ho, hd⟩ := I.cell y c (cm e)
    exact un.free c o ho (I.freeC y c (cm e)) (by simp)
  · show (vs.map some ++ mk fr σ).length = (ps ++ X.N).length
    unfold mk
    rw [List.length_append, List.length_map, List.length_zipWith, List.length_append, frOk.len hfr, I.len, hl, Nat.min_self]
end
end DL

namespace DL
open PySem PySem.Spec PyProof.Rows L2
open PySem.W (Frag)
/-! ### lambdas are made, and handed -/
section
variable {X : Cx} {pins : List (Addr × Obj)} {σ : L2.St} {H HZ : Hp} {s s1 : Shared}
/-- a new code object, tracked as it is -/
theorem inv_tableF {P c : Addr} {q : Str} {ps more : Array Value} {oc : Obj} {vs : Array Value} {t : Tok} {h' : Heap} {t' : Nat} (I : Inv X pins σ H s) (hP : H P = some (.tbl ps)) (k : ∀ b o, b ≠ P → s.heap.get? b = some o → h'.get? b = some o)
    (hm : h'.get? P = some { cls := .none, data := .fields (ps ++ more) }) (hc : s.heap.objs.size ≤ c) (e1 : h'.get? c = some oc) (e2 : oc.data = .fields vs) (e3 : vs[1]? = some (.str q t)) :
    Inv X pins σ (upd (upd H P (.tbl (ps ++ more))) c (.frz oc (LamX.CodeO c q))) { s with heap := h', toks := t' } := by
  have nC : H c = none := I.hok.fresh hc
  have nPc : P ≠ c := ne_of_none hP nC
  have at_ : ∀ b, b ≠ P → b ≠ c → upd (upd H P (.tbl (ps ++ more))) c (.frz oc (LamX.CodeO c q)) b = H b := fun b h1 h2 => by rw [upd_ne h2, upd_ne h1]
  have atP : upd (upd H P (.tbl (ps ++ more))) c (.frz oc (LamX.CodeO c q)) P = some (.tbl (ps ++ more)) := by rw [upd_ne nPc, upd_same]
  have nP : ∀ b u, H b = some u → (∀ q, u ≠ .tbl q) → b ≠ P := fun b u e q z => by
    rw [z, hP] at e
    exact q ps (Option.some.inj e).symm
  have nN : ∀ b, H b = none → b ≠ P := fun b e z => by
    rw [z, hP] at e
    cases e
  have lt' : ∀ b o, s.heap.get? b = some o → b ≠ c := fun b o e z => by
    rw [z] at e
    exact Nat.lt_irrefl _ (Nat.lt_of_lt_of_le (Heap.lt_size e) hc)
  have sm : ∀ b u, H b = some u → b ≠ c := fun b u e => ne_of_none e nC
  refine I.step (g' := s.gens) (d' := s.drawn) (ch := []) (fun b hb => absurd hb (by simp)) (fun b o _ _ _ e n => k b o (nN b n) e) (fun b o _ _ _ e n => ⟨o.slots, k b o (nN b n) e⟩)
    (fun b o _ e n => by rw [at_ b (nN b n) (lt' b o e)]; exact n) (fun b o _ e => ?_) (fun b xs e => by rw [at_ b (nP b _ e (fun q z => by cases z)) (sm b _ e)]; exact e) (fun b o u e => by rw [at_ b (nP b _ e (fun q z => by cases z)) (sm b _ e)]; exact e) (fun b qs e => ?_) (fun m hn => ?_) (fun b u e => ?_) I.bare
  · by_cases hb : b = P
    · rw [hb]
      exact ⟨_, hm⟩
    · exact ⟨o, k b o hb e⟩
  · by_cases hb : b = P
    · rw [hb, hP] at e
      cases e
      rw [hb, atP]
      exact ⟨more, rfl⟩
    · rw [at_ b hb (sm b _ e), e]
      exact ⟨#[], by simp⟩
  · obtain ⟨ob, es, ep, ho, r⟩ := hn
    exact ⟨ob, es, ep, k _ ob (nN _ I.free) ho, r⟩
  · by_cases hb : b = c
    · rw [hb, upd_same] at e
      cases e
      rw [hb]
      exact ⟨e1, ⟨oc, vs, t, e1, e2, e3⟩, ⟨oc, e1⟩, fun h1 h2 ⟨oc, vs, t, a, b, c⟩ st => ⟨oc, vs, t, st _ a, b, c⟩⟩
    · by_cases hb2 : b = P
      · rw [hb2, atP] at e
        cases e
        rw [hb2]
        exact hm
      · rw [at_ b hb2 hb] at e
        refine (I.hok b u e).stay (fun d v hd q => k d v ?_ q) (fun d q => by rw [at_ d (nP d _ q (fun q z => by cases z)) (sm d _ q)]; exact q) fun d xs q => by rw [at_ d (nP d _ q (fun q z => by cases z)) (sm d _ q)]; exact q
        rcases hd with z | z
        · rw [z]
          exact hb2
        · exact nP d _ z (fun q z => by cases z)
theorem among_at {pos p' : Pos} {c cv : Value} (l : List Value) (h : TriplesOk l) (hc : codeAmong p' (l ++ [rawInt pos.line, rawInt pos.col, c]) = some cv) : codeAmong p' l = some cv ∨ (cv = c ∧ p'.line = pos.line ∧ p'.col = pos.col) := by
  fun_induction TriplesOk l with
  | case1 =>
    simp only [List.nil_append, rawInt, codeAmong] at hc
    split at hc
    · rename_i q
      simp only [Bool.and_eq_true, beq_iff_eq] at q
      exact .inr ⟨(Option.some.inj hc).symm, by omega, by omega⟩
    · cases hc
  | case2 a t b u x rest ih =>
    simp only [List.cons_append, codeAmong] at hc ⊢
    split at hc
    · rename_i q
      rw [if_pos q]
      exact .inl hc
    · rename_i q
      rw [if_neg q]
      exact ih h hc
  | case3 l h1 h2 => exact h.elim
theorem lam_mk {G : HH} {c P : Addr} {nm : Nat → Nat → Str} {params : Arguments} {body : Expr} {scope : Scope} {pos : Pos} {E : Value → Shared → Prop} {Q : Value → Shared → Prop} (I : Inv X pins σ H s) (TB : LamX.TabB X.base X.mg c P) (hcode : X.env.code = .ref c)
    (hR : RelH X.K H G) (hG : G P = some (.tab nm)) (hn : nm pos.line pos.col = X.env.qual ++ "<lambda>") (hdef : defaultsOf params X.env = ([], [])) (hfree : ∀ y ∈ scope.names, y.2 = .free → ∃ c, X.env.cells.lookup y.1 = some c)
    (h : ∀ (f c' : Addr) (ob : Obj) (pm ctv : Value) (H1 : Hp) (s' : Shared), Inv X pins σ H1 s' → Stp H G H1 G → RelH X.K H1 G →
      s'.heap.get? f = some (PySem.W.kla_obj "<lambda>" (X.env.qual ++ "<lambda>") params body scope (cloFrom X.env.cells scope.names []) pm c' ctv) → H1 f = none → f ∉ frs X.stack → H1 c' = some (.frz ob (LamX.CodeO c' (X.env.qual ++ "<lambda>"))) → Q (.ref f) s') :
    wpAny (model X.prog X.w) X.A (eval (.Lambda params body scope pos) X.env) Q E s := by
  obtain ⟨ps, hP, ht, ha⟩ := hR _ _ hG
  refine PySem.W.kla_eval hdef ?_
  have bP : s.heap.BuiltinsAt X.mg P := TB.bm.keeps I.bk
  have hP' : s.heap.get? P = some { cls := .none, data := .fields ps } := I.hok P _ hP
  have nofr : ∀ f, s.heap.objs.size ≤ f → f ∉ frs X.stack := fun f hf z => by
    rcases List.mem_cons.mp (I.stkSub _ z) with e | e
    · have h1 := I.lt
      rw [← e] at h1
      exact Nat.lt_irrefl _ (Nat.lt_of_lt_of_le h1 hf)
    · exact I.nofs hf e
  cases hc : codeAmong pos ps.toList with
  | none =>
    refine PySem.W.kla_makeFunction (mg := X.mg) (c := c) (P := P) (ps := ps) (closure_ok hfree) I.ok.glob (I.mod.glob.keeps I.bk) hcode (TB.code.keeps I.bk) hP' ht hc TB.gP bP fun c' ctv h' tk hx hge hlt hrec htb => ?_
    obtain ⟨c2, oc, vs, t, e2, hoc, hd, hv⟩ := hrec
    cases e2
    have hsz : s.heap.objs.size ≤ h'.objs.size := Nat.le_trans hge (Nat.le_of_lt hlt)
    have nC : H c' = none := I.hok.fresh hge
    have nPc : P ≠ c' := ne_of_none hP nC
    have I1 := inv_tableF (t' := tk) (more := #[rawInt pos.line, rawInt pos.col, .ref c']) (h' := h'.push (PySem.W.kla_obj "<lambda>" (X.env.qual ++ "<lambda>") params body scope (cloFrom X.env.cells scope.names []) ((X.mg "__name__").getD .none) c' ctv)) I hP
      (fun b o hb e => Heap.get?_push_of_some _ (hx b o hb e)) (Heap.get?_push_of_some _ htb) hge (Heap.get?_push_of_some _ hoc) hd hv
    have gne : ∀ b, G b = none → b ≠ P := fun b e z => by rw [z, hG] at e; cases e
    have stp : Stp H G (upd (upd H P (.tbl (ps ++ #[rawInt pos.line, rawInt pos.col, .ref c']))) c' (.frz oc (LamX.CodeO c' (X.env.qual ++ "<lambda>")))) G :=
      ⟨fun b u e g _ => by rw [upd_ne (ne_of_none e nC), upd_ne (gne b g)]; exact e, fun b u e g => by
        have hb : b ≠ c' := fun z => rd_ne e (by rw [z]; exact nC)
        rcases e with e | ⟨o', e⟩
        · exact .inl (by rw [upd_ne hb, upd_ne (gne b g)]; exact e)
        · exact .inr ⟨o', by rw [upd_ne hb, upd_ne (gne b g)]; exact e⟩, fun b _ g => g⟩
    have eL : (ps ++ #[rawInt pos.line, rawInt pos.col, .ref c']).toList = ps.toList ++ [rawInt pos.line, rawInt pos.col, .ref c'] := by simp
    refine h h'.objs.size c' oc ((X.mg "__name__").getD .none) ctv _ _ I1 stp (fun p o hp => ?_) (Heap.get?_push_size _ rfl) ?_ (nofr _ hsz) upd_same
    · by_cases hb : p = P
      · subst hb
        rw [hG] at hp
        cases hp
        refine ⟨_, by rw [upd_ne nPc, upd_same], by rw [eL]; exact PySem.TriplesOk_snoc _ _ _ _ ht, fun p' cv hcv => ?_⟩
        rw [eL] at hcv
        rcases among_at _ ht hcv with z | ⟨z1, z2, z3⟩
        · obtain ⟨c0, ob, e1, e2, e3⟩ := ha p' cv z
          exact ⟨c0, ob, e1, stp.keep _ _ e2 e3 rfl, e3⟩
        · rw [z1]
          refine ⟨c', oc, rfl, ?_, hR.free nC⟩
          rw [z2, z3, hn]
          exact upd_same
      · refine (hR p o hp).at stp ?_
        rw [upd_ne (fun z => (hR p o hp).ne (by rw [z]; exact nC)), upd_ne hb]
    · have n1 : h'.objs.size ≠ c' := Nat.ne_of_gt hlt
      have n2 : h'.objs.size ≠ P := Nat.ne_of_gt (Nat.lt_of_lt_of_le (Heap.lt_size hP') hsz)
      rw [upd_ne n1, upd_ne n2]
      exact I.hok.fresh hsz
  | some cv =>
    obtain ⟨c', ob, e, hco, _⟩ := ha pos cv hc
    subst e
    refine PySem.W.kla_makeFunctionHit (mg := X.mg) (c := c) (P := P) (ps := ps) (closure_ok hfree) I.ok.glob (I.mod.glob.keeps I.bk) hcode (TB.code.keeps I.bk) hP' ht hc bP fun ctv h' tk hx hsz => ?_
    have I1 : Inv X pins σ H { s with heap := h'.push (PySem.W.kla_obj "<lambda>" (X.env.qual ++ "<lambda>") params body scope (cloFrom X.env.cells scope.names []) ((X.mg "__name__").getD .none) c' ctv), toks := tk } := I.kept fun b o e => Heap.get?_push_of_some _ (hx b o e)
    exact h h'.objs.size c' ob ((X.mg "__name__").getD .none) ctv H _ I1 .refl hR (Heap.get?_push_size _ rfl) (I.hok.fresh hsz) (nofr _ hsz) (by rw [hn] at hco; exact hco)
end
end DL

namespace DL
open PySem PySem.Spec PyProof.Rows L2
open PySem.W (Frag)
section
variable {X : Cx} {pins : List (Addr × Obj)} {σ : L2.St} {H HZ : Hp} {s s1 : Shared}
/-- what is asked of the lambda's promise c -/
def LamC (np : Nat) (tb : TED) (sg : SD) (c : SpD) : Prop := ∀ us G Q E, c us G Q E → us.length = np ∧ tb (us.map some ++ sg) G Q E
theorem lam_acts {G : HH} {σD : SD} {c : SpD} {scope : Scope} {ps : List Str} {fr : List Bool} {f c' : Addr} {ob : Obj} {pm ctv : Value} {params : Arguments} {body : Expr} {k : Nat} {tb : TED} (I : Inv X pins σ H s) (hgd : True) (L : LamP X.env.scope scope ps) (hfr : frOk scope X.N fr = true)
    (hf : s.heap.get? f = some (PySem.W.kla_obj "<lambda>" (X.env.qual ++ "<lambda>") params body scope (cloFrom X.env.cells scope.names []) pm c' ctv)) (hfn : H f = none) (hfs : f ∉ frs X.stack) (hco : H c' = some (.frz ob (LamX.CodeO c' (X.env.qual ++ "<lambda>"))))
    (hbind : ∀ us : List Value, us.length = ps.length → bindArgs (PySem.W.kla_fn "<lambda>" (X.env.qual ++ "<lambda>") params body scope (cloFrom X.env.cells scope.names []) pm (.ref c') ctv) ⟨us, []⟩ = pure (ps.zip us))
    (hbody : ∀ (A : Around) (outer : List Env) (s : Shared) (H : Hp) (E : XK), A.guards = some [] → Room k (A.deeper (LamX.lamEnv X scope s.heap.objs.size f c')) → DE (lamCxP X A outer s H E scope ps f c') (WD E) body tb)
    (hS : SRp X.K H G σD σ) (hcap : capS (mkD fr σD) = true) (hc : LamC ps.length tb (mkD fr σD) c) :
    ActsAt X.prog X.w X.K X.mg X.base (k + 1) f c X.stack s H := by
  have keepF : ∀ (s1 : Shared) (H1 : Hp), Un (frs X.stack) [] H H1 s.heap s1.heap → s1.heap.get? f = some (PySem.W.kla_obj "<lambda>" (X.env.qual ++ "<lambda>") params body scope (cloFrom X.env.cells scope.names []) pm c' ctv) := fun s1 H1 un => un.keep f _ hf hfn hfs (by simp)
  refine ⟨fun s1 H1 un => ⟨_, _, _, _, keepF s1 H1 un⟩, fun A outer s1 H1 us vs Q E un e0 hg hr r hsp => ?_⟩
  obtain ⟨ds, G1, QD, EX, hR1, hrp, hq, hct, hex⟩ := hsp
  obtain ⟨hdl, ht⟩ := hc ds G1 QD EX hq
  have hvl : vs.length = ps.length := by rw [← hrp.length]; exact hdl
  have oc1 : H1 c' = some (.frz ob (LamX.CodeO c' (X.env.qual ++ "<lambda>"))) := un.frzs _ _ _ hco
  obtain ⟨hob, hext⟩ := (show ObjOk X.prog X.w H1 s1.heap c' (.frz ob (LamX.CodeO c' (X.env.qual ++ "<lambda>"))) from e0.hok c' _ oc1)
  obtain ⟨⟨oc, us', t, hoc, hdc, hvc⟩, _, _⟩ := hext
  have lim : s1.heap.NoLimit := e0.mod.nolimit.keeps fun b o q => (e0.bs b o q).1
  refine PySem.W.kla_callFunE hr.depth (keepF s1 H1 un) rfl L.co L.gen rfl ⟨c', oc, us', t, rfl, hoc, hdc, hvc⟩ ?_
  rw [hbind us (by rw [← r.length]; exact hvl)]
  refine wpAny_pure (wpAny_newFunctionEnv L.own (fun y hy => L.par y.1 (List.of_mem_zip (show (y.1, y.2) ∈ ps.zip us from hy)).1) (fun h₁ hns hsb => ⟨lim.fresh _ hsb, ?_⟩) L.kind)
  show codeAny _ _ (.expr body (LamX.lamEnv X scope s1.heap.objs.size f c')) _ _
  have kp : ∀ b o, s1.heap.get? b = some o → h₁.get? b = some o := fun b o e => hsb.extBut b o (Nat.ne_of_lt (Heap.lt_size e)) (Heap.get?_push_of_some _ e)
  have J : Inv (lamCxP X A outer s1 H1 E scope ps f c') [] (vs.map some ++ mk fr σ) H1 { s1 with heap := h₁, toks := s1.toks + (ps.zip us).length } :=
    lam_startP I L hfr e0 hr.hd un r hvl hns kp
  have hS1 : SRp X.K H1 G1 (ds.map some ++ mkD fr σD) (vs.map some ++ mk fr σ) := by
    refine ⟨by unfold mk mkD; rw [List.length_append, List.length_append, List.length_map, List.length_map, List.length_zipWith, List.length_zipWith, hrp.length, hS.len], fun i d hd => ?_⟩
    by_cases hi : i < ds.length
    · rw [List.getElem?_append_left (by rw [List.length_map]; exact hi), List.getElem?_map] at hd
      cases ed : ds[i]? with
      | none => rw [ed] at hd; cases hd
      | some d' =>
        rw [ed] at hd
        cases hd
        obtain ⟨v, hv, rv⟩ := hrp.get ed
        refine ⟨v, ?_, rv⟩
        rw [List.getElem?_append_left (by rw [List.length_map, ← hrp.length]; exact hi), List.getElem?_map, hv] <;> rfl
    · rw [List.getElem?_append_right (by rw [List.length_map]; exact Nat.le_of_not_lt hi), List.length_map] at hd
      obtain ⟨g1, g2⟩ := zip_at hd
      obtain ⟨v, hv, rv⟩ := hS.at_ _ d g2
      refine ⟨v, ?_, ?_⟩
      · rw [List.getElem?_append_right (by rw [List.length_map, ← hrp.length]; exact Nat.le_of_not_lt hi), List.length_map, ← hrp.length]
        exact zip_to g1 hv
      · refine Rp.cap un.tups hR1 rv ?_
        unfold capS at hcap
        exact List.all_eq_true.mp hcap (some d) (List.mem_of_getElem? hd)
  refine PySem.W.kla_codeExpr (wpAny_mono ((hbody A outer s1 H1 E hg (hr.deeper _)).run [] _ _ H1 Q J ⟨_, G1, QD, EX, hR1, hS1, ht, hct, fun x cls d H' G' s r p z => hex x cls d H' G' s r p z⟩) (fun v s' hq => ?_) fun e s' hq => hq)
  obtain ⟨w', H', J', rv, q⟩ := hq
  exact ⟨w', H', J'.os, J'.bare, J'.base, J'.hok, rv, q⟩
/-! ### arguments, and more behind them -/
structure PAx (X : Cx) (es : List Expr) (t : TA) : Prop where
  run : ∀ (pos : Pos) (pins : List (Addr × Obj)) (s : Shared) (σ : L2.St) (H : Hp) (QQ : List V → Hp → Prop) (rest : List (Bool × Sem Value)) (Q : List Value → Shared → Prop), Inv X pins σ H s → t σ H QQ →
    (∀ us vs s1 H1, Inv X pins σ H1 s1 → Vals vs us → QQ vs H1 → wpAny (model X.prog X.w) X.A (spliced rest) (fun ws s2 => Q (us ++ ws) s2) X.xe s1) → wpAny (model X.prog X.w) X.A (spliced (backTo pos (starEach es X.env) ++ rest)) Q X.xe s
def DAx (X : Cx) (W : WX) (es : List Expr) (t : TAD) : Prop := PAx X es (lftA X.K W t)
variable {W : WX} {e : Expr} {es : List Expr} {ta : TED} {t : TAD}
theorem dax_nil : DAx X W [] dNil := ⟨fun pos pins s σ H QQ rest Q I ⟨σD, G, QD, E, hR, hS, q, hq, hE⟩ k => k [] [] s H I .nil (hq _ _ _ _ .refl hR .nil q)⟩
theorem dax_cons (he : DE X W e ta) (h : DAx X W es t) (hs : starEach (e :: es) X.env = (false, eval e X.env) :: starEach es X.env := by rfl) : DAx X W (e :: es) (dCons ta t) := by
  have he' : PE X e (lft X.K W ta) := he
  have h' : PAx X es (lftA X.K W t) := h
  refine ⟨fun pos pins s σ H QQ rest Q I ⟨σD, G, QD, E, hR, hS, q, hq, hE⟩ k => ?_⟩
  rw [hs]
  show wpAny (model X.prog X.w) X.A (spliced ((false, eval e X.env) :: (backTo pos (starEach es X.env) ++ rest))) Q X.xe s
  refine Calls.spliced_cons (thn (he'.run pins s σ H (fun v H1 => lftA X.K W t σ H1 fun vs H2 => QQ (v :: vs) H2) I ⟨σD, G, fun d G1 => t σD G1 (fun ds G2 => QD (d :: ds) G2) E, E, hR, hS, q, fun v1 H1 d1 G1 s1 r1 p1 q1 => ⟨σD, G1, fun ds G2 => QD (d1 :: ds) G2, E, r1, hS.mono s1, q1, fun vs H2 ds G2 s2 r2 p2 q2 => hq _ _ _ _ (s1.trans s2) r2 (.cons (p1.mono s2) p2) q2, hE.mono s1⟩, hE⟩) fun u s1 ⟨v, H1, I1, r1, q1⟩ => ?_)
  exact h'.run pos pins s1 σ H1 (fun vs H2 => QQ (v :: vs) H2) rest (fun ws s2 => Q (u :: ws) s2) I1 q1 fun us vs s2 H2 I2 r2 q2 => k (u :: us) (v :: vs) s2 H2 I2 (.cons r1 r2) q2
/-- x(e, .., lambda ..) -/
def dCallL (sp : SpD → Addr → SpD) (P : Addr) (nm : Nat → Nat → Str) (fr : List Bool) (np : Nat) (t : TAD) (tb : TED) : TED := fun σ G Q E =>
  t σ G (fun ds G1 => G1 P = some (.tab nm) ∧ capS (mkD fr σ) = true ∧ ∃ c : SpD, LamC np tb (mkD fr σ) c ∧ ∀ g, sp c g (ds ++ [.ref g]) G1 Q E) E
theorem de_callL {j kf jb : Nat} {f cA P : Addr} {fd : FuncData} {pf ps : List Str} {sp : SpD → Addr → SpD} {nm : Nat → Nat → Str} {fr : List Bool} {params : Arguments} {body : Expr} {scope : Scope} {lpos pos p : Pos} {x : Str} {e0 : Expr} {er : List Expr} {tb : TED}
    (F : FnGA X.prog X.w X.K X.mg X.base j kf f fd pf sp) (hgd : X.A.guards = some []) (hr : Room kf X.A) (hg : Gl X x) (hm : X.mg x = some (.ref f)) (hk : PySem.W.keepIn X.K (.ref f) = true) (hb : Binds X.K fd pf []) (tk : Takes X W)
    (TB : LamX.TabB X.base X.mg cA P) (hcode : X.env.code = .ref cA) (L : LamP X.env.scope scope ps) (hfr : frOk scope X.N fr = true) (hdef : defaultsOf params X.env = ([], [])) (hn : nm lpos.line lpos.col = X.env.qual ++ "<lambda>")
    (hbind : ∀ (q : Str) (cl : List (Str × Addr)) (pm cv ctv : Value) (us : List Value), us.length = ps.length → bindArgs (PySem.W.kla_fn "<lambda>" q params body scope cl pm cv ctv) ⟨us, []⟩ = pure (ps.zip us))
    (hj : jb + 1 = j) (hbody : ∀ (A : Around) (outer : List Env) (s : Shared) (H : Hp) (E : XK) (f c' : Addr), A.guards = some [] → Room jb (A.deeper (LamX.lamEnv X scope s.heap.objs.size f c')) → DE (lamCxP X A outer s H E scope ps f c') (WD E) body tb)
    (ha : DAx X W es t) (hes : e0 :: er = es ++ [.Lambda params body scope lpos]) (hst : starEach (e0 :: er) X.env = starEach es X.env ++ [(false, eval (.Lambda params body scope lpos) X.env)])
    (hdb : (x == ("__debug__" : Str)) = false := by decide) (he : starEach (e0 :: er) X.env = (false, eval e0 X.env) :: starEach er X.env := by rfl) (hpl : (backTo pos (starEach er X.env)).any (·.1) = false := by rfl) :
    DE X W (.Call (.Name x p) (e0 :: er) [] pos) (dCallL sp P nm fr ps.length t tb) := by
  have ha' : PAx X es (lftA X.K W t) := ha
  refine ⟨fun pins s σ H Q I ⟨σD, G, QD, E, hR, hS, q, hq, hE⟩ => ?_⟩
  refine wpAny_Call_Name_kw (ld_glob I hg hm ?_ hdb)
  refine PySem.W.callWith_K (h₀ := X.base) I.ok.mod.kin hk ?_ he hpl
  rw [hst]
  have hbt : backTo pos (starEach es X.env ++ [(false, eval (.Lambda params body scope lpos) X.env)]) = backTo pos (starEach es X.env) ++ [(false, eval (.Lambda params body scope lpos) X.env)] := by
    unfold backTo
    rw [List.map_append] <;> rfl
  rw [hbt]
  refine ha'.run pos pins s σ H (fun vs H1 => ∃ ds G1, Stp H G H1 G1 ∧ RelH X.K H1 G1 ∧ Rps X.K H1 G1 ds vs ∧ G1 P = some (.tab nm) ∧ capS (mkD fr σD) = true ∧ ∃ c : SpD, LamC ps.length tb (mkD fr σD) c ∧ ∀ g, sp c g (ds ++ [.ref g]) G1 QD E) _ _ I ⟨σD, G, _, E, hR, hS, q, fun vs H1 ds G1 s1 r1 p1 q1 => ⟨ds, G1, s1, r1, p1, q1⟩, hE⟩ fun us vs s1 H1 I1 r ⟨ds, G1, st1, R1, p1, hG, hcap, c, hc, hsp⟩ => ?_
  refine Calls.spliced_cons (lam_mk I1 TB hcode R1 hG hn hdef (L.has I.ok) fun g c' ob pm ctv H2 s2 I2 st2 R2 hf hfn hfs hco => Calls.spliced_nil ⟨I2.kIn, ?_⟩)
  have act : ActsAt X.prog X.w X.K X.mg X.base j g c X.stack s2 H2 := by
    subst hj
    exact lam_acts I2 trivial L hfr hf hfn hfs hco (hbind _ _ _ _ _) (fun A outer s H E hg hr => hbody A outer s H E g c' hg hr) (hS.mono (st1.trans st2)) hcap hc
  have rz : Vals (vs ++ [V.ref g]) (us ++ [Value.ref g]) := r.append (.cons rfl .nil)
  have z : lsp X.K (sp c g) (vs ++ [V.ref g]) H2 Q (WE W σ) := ⟨ds ++ [D.ref g], G1, QD, E, R2, (p1.mono st2).append (.cons (.ref g) .nil), hsp g, hq.mono (st1.trans st2), hE.mono (st1.trans st2)⟩
  show wpAny (model X.prog X.w) X.A (call (Value.ref f) (us ++ [Value.ref g])) (EP X pins σ Q) X.xe s2
  have hl : (us ++ [Value.ref g]).length = pf.length := by rw [← rz.length]; exact F.llen z
  have b := hb s2 (us ++ [Value.ref g]) I2.kIn (by rw [List.append_nil]; exact hl)
  rw [List.append_nil] at b
  refine wpAny_call (codeAny_mono (F.run c g X.A X.stack s2 H2 ⟨us ++ [Value.ref g], []⟩ (us ++ [Value.ref g]) (vs ++ [V.ref g]) Q (WE W σ) act hgd hr I2.env0 b rz z) fun r s' hq => ?_)
  cases r with
  | error e => exact passAt tk σ pins H2 s2 e s' I2 hq
  | ok fl =>
    cases fl with
    | ret u => exact I2.after hq
    | next => exact False.elim hq
    | brk => exact False.elim hq
    | cont => exact False.elim hq
theorem st_callL {sp : SpD → Addr → SpD} {P : Addr} {nm : Nat → Nat → Str} {fr : List Bool} {np : Nat} {tb : TED} {σ : SD} {G : HH} {Q : QD} {E : ED} (h : t σ G (fun ds G1 => G1 P = some (.tab nm) ∧ capS (mkD fr σ) = true ∧ ∃ c : SpD, LamC np tb (mkD fr σ) c ∧ ∀ g, sp c g (ds ++ [.ref g]) G1 Q E) E) : dCallL sp P nm fr np t tb σ G Q E := h
end
end DL

namespace DL
open PySem PySem.Spec PyProof.Rows L2
open PySem.W (Frag)
open LamX (TabB)
/-! ### defs whose code object is known; the law's end with tables of code objects -/
section
variable {P : Program} {w : World} {K : Frag} {mg : Str → Option Value} {base : Heap}
theorem FunG.okC {x qual : Str} {st : Stmt} {f c : Addr} {fd : FuncData} {N ps : List Str} {k : Nat} {sp : SpD} (F : Fun K x qual st f fd) (S : FnScope N ps (defScope st)) (hc : fd.code = .ref c) (len : ∀ ds G Q E, sp ds G Q E → ds.length = ps.length)
    (hbody : ∀ (A : Around) (outer : List Env) (s : Shared) (H : Hp) (E : XK), A.guards = some [] → Room k (A.deeper (envOfC qual (defScope st) s.heap.objs.size f (.ref c))) →
      ∃ t, DSs (cxOf (L2.CX P w) P w K mg base N qual (defScope st) f (.ref c) A outer s H E) (WD E) (defBody st) t ∧
        ∀ ds G Q EX, sp ds G Q EX → t { nx := fun _ G' => Q .non G', rt := Q, ex := fun x _ G' => EX x G' } (startD N ds) G) : FnG P w K mg base (k + 1) f fd ps sp := by
  obtain ⟨oc, od, kV, doc, pm, an, cdv, ct, osl, rfl, lk, hcd⟩ := F.ex
  obtain rfl : cdv = .ref c := hc
  refine ⟨len, fun A outer s H args us vs Q E hgd hr e0 hb r hsp => ?_⟩
  obtain ⟨ds, G, QD, EX, hR, hrp, hq, hct, hex⟩ := hsp
  have inK : K.In s.heap := e0.mod.kin.keeps fun b o q => (e0.bs b o q).1
  have nolim : s.heap.NoLimit := e0.mod.nolimit.keeps fun b o q => (e0.bs b o q).1
  have hvl : vs.length = ps.length := by rw [← hrp.length]; exact len _ _ _ _ hq
  have kinds : ∀ y ∈ ps.zip us, (defScope st).names.lookup y.1 = some .local ∨ ((defScope st).names.lookup y.1 = some .cell ∧ ((cellsFrom (s.heap.objs.size + 1) (defScope st).names []).lookup y.1).isSome = true) := by
    rintro ⟨n, v⟩ hy
    rcases S.par n (List.of_mem_zip hy).1 with q | q
    · exact .inl q
    · exact .inr ⟨q, PySem.W.cellsFrom_some _ _ _ (.inl q)⟩
  refine codeAny_call_function hr.depth (inK _ _ lk) rfl S.co S.gen rfl (PySem.W.codeRec_of inK hcd) (hb _ _ _ _ ?_)
  refine wpAny_newFunctionEnv_cells S.kind kinds fun env henv s1 xc => ?_
  subst henv
  refine ⟨nolim.keeps xc.toInCall.keep, codeAny_func ?_⟩
  obtain ⟨t, ht, hv⟩ := hbody A outer s H E hgd (hr.deeper _)
  have I0 := inv_start (CX := L2.CX P w) (E := E) S hr.hd e0 hvl r xc
  refine wpAny_mono (ht.run [] s1 (L2.start N vs) H { nx := fun _ H' => Q .non H', rt := Q } I0 ?_) (fun fl s' hs => ?_) fun e s' hs => hs
  · refine ⟨startD N ds, G, _, hR, SRp.start hrp, hv ds G QD EX hq, ⟨fun _ H' _ G' s r _ z => hct _ _ _ _ s r .non z, hct, fun _ _ _ _ _ _ _ z => z.elim, fun _ _ _ _ _ _ _ z => z.elim, fun x cls d _ _ H' G' s r _ p z => hex x cls d H' G' s r p z⟩⟩
  · cases fl with
    | ret u =>
      obtain ⟨v, σ', H', J, rv, q⟩ := hs
      exact ⟨v, H', J.os, J.bare, J.base, J.hok, rv, q⟩
    | next =>
      obtain ⟨σ', H', J, q⟩ := hs
      exact ⟨V.non, H', J.os, J.bare, J.base, J.hok, rfl, q⟩
    | brk => exact hs.elim fun _ ⟨_, _, z⟩ => z.elim
    | cont => exact hs.elim fun _ ⟨_, _, z⟩ => z.elim
end
/-- the law's promise: the tables of the makers are known -/
def spLawT (n : Nat) (Ps : List Addr) (nm : Nat → Nat → Str) : SpD := fun ds G Q _ => ∃ ns : List Int, ds = [.wls (ns.map D.int)] ∧ ns.length ≤ n ∧ Bits ns ∧ (∀ p ∈ Ps, G p = some (.tab nm)) ∧ ∀ G', Q (.bl true) G'
theorem law_callGT {P : Program} {w : World} {K : Frag} {mg mb : Str → Option Value} {n k : Nat} {fa a : Addr} {cs : List (Addr × Addr)} {nm : Nat → Nat → Str} {fd : FuncData} {x : Str} {s₁ : Shared} {vs : List Value} {ns : List Int}
    (KX : K.In s₁.heap) (hns : s₁.heap.Ns mainGlobals mg) (hb : s₁.heap.Ns builtinsNs mb) (hbb : ∀ x : Str, x ≠ "__name__" → mb x = bootBuiltins x) (hlim : s₁.heap.NoLimit) (hg : s₁.gens = #[])
    (hT : ∀ p ∈ cs, s₁.heap.get? p.2 = some { cls := .none, data := .fields #[] }) (nT : ∀ p ∈ cs, K.lookup p.2 = none) (C : ∀ p ∈ cs, PySem.W.CodeHd s₁.heap p.1 p.2)
    (hbm : ∃ (bm : Addr) (ob : Obj), mg "__builtins__" = some (.ref bm) ∧ bm ≠ builtinsNs ∧ s₁.heap.get? bm = some ob ∧ ob.cls = .type "module" ∧ ob.dict = some builtinsNs ∧ ob.data = .plain)
    (ha : s₁.heap.get? a = some { cls := .type "list", data := .seq vs.toArray }) (hi : IntsAre vs ns) (hln : ns.length ≤ n) (hbt : Bits ns) (hl : ns.length ≤ sizeLine) (hr : Room k callerA)
    (F : ∀ base : Heap, K.In base → base.Ns mainGlobals mg → (∀ p ∈ cs, TabB base mg p.1 p.2) → FnG P w K mg base k fa fd [x] (spLawT n (cs.map (·.2)) nm)) (hbind : ∀ (s : Shared) (u : Value), BindsTo s fd ⟨[u], []⟩ [(x, u)]) :
    codeAny (model P w) callerA (.call (.ref fa) ⟨[.ref a], []⟩) (fun r s' => r = .ok (.ret (.bool true)) ∧ OldK s₁.heap s'.heap ∧ s'.os = s₁.os ∧ AllBare s'.gens) s₁ := by
  have rv := vals_ints hi
  have lenV := hi.length
  have isT : ∀ b : Addr, b ∈ cs.map (·.2) → s₁.heap.get? b = some { cls := .none, data := .fields #[] } := fun b hb => by
    obtain ⟨p, hp, e⟩ := List.mem_map.mp hb
    rw [← e]
    exact hT p hp
  have aT : a ∉ cs.map (·.2) := fun z => by
    have q := isT a z
    rw [ha] at q
    have z' : Data.seq vs.toArray _ = Data.fields #[] := congrArg Obj.data (Option.some.inj q)
    cases z'
  have memT : ∀ p ∈ cs, p.2 ∈ cs.map (·.2) := fun p hp => List.mem_map.mpr ⟨p, hp, rfl⟩
  -- from an abstract heap in which nothing but the script and the tables may be tracked
  have core : ∀ H : Hp, (∀ p ∈ cs, H p.2 = some (.tbl #[])) → (∀ b, H b = none ∨ b ∈ cs.map (·.2) ∨ ∃ o xs, H b = some (.frz o (.lst xs))) → SqL K H a (ns.map V.int) → HOk P w H s₁.heap → (∀ b, H b ≠ none → b = a ∨ b ∈ cs.map (·.2)) → (H a ≠ none → K.lookup a = none) →
      codeAny (model P w) callerA (.call (.ref fa) ⟨[.ref a], []⟩) (fun r s' => r = .ok (.ret (.bool true)) ∧ OldK s₁.heap s'.heap ∧ s'.os = s₁.os ∧ AllBare s'.gens) s₁ := by
    intro H hH hO hS hok hA hK
    have base_of : ∀ {b : Addr} {o : Obj}, s₁.heap.get? b = some o → H b = none → (hidT s₁.heap H).get? b = some o := fun e n => hidT_get e n
    have noD : ∀ {b : Addr} {o : Obj}, s₁.heap.get? b = some o → (∀ vs n, o.data ≠ .seq vs n) → o.data ≠ .fields #[] → H b = none := fun {b o} e h1 h2 => by
      cases q : H b with
      | none => rfl
      | some u =>
        rcases hA b (by rw [q]; simp) with e' | e'
        · rw [e', ha] at e
          cases e
          exact (h1 _ _ rfl).elim
        · rw [isT b e'] at e
          cases e
          exact (h2 rfl).elim
    have noA : ∀ {b : Addr} {o : Obj} {es : Array DictEntry} {ep : Nat}, s₁.heap.get? b = some o → o.data = .dict es ep → H b = none := fun {b o es ep} e d => by
      refine noD e (fun vs n z => ?_) fun z => ?_
      · rw [d] at z
        cases z
      · rw [d] at z
        cases z
    have nsK : ∀ {b : Addr} {m : Str → Option Value}, s₁.heap.Ns b m → (hidT s₁.heap H).Ns b m := fun {b m} ⟨o, es, ep, e, d, r⟩ => ⟨o, es, ep, base_of e (noA e d), d, r⟩
    have hKb : K.In (hidT s₁.heap H) := fun b o e => base_of (KX b o e) (by
      cases q : H b with
      | none => rfl
      | some u =>
        rcases hA b (by rw [q]; simp) with e' | e'
        · rw [e'] at e q
          rw [hK (by rw [q]; simp)] at e
          cases e
        · obtain ⟨p, hp, ep⟩ := List.mem_map.mp e'
          rw [← ep, nT p hp] at e
          cases e)
    have hM : L2.Mod K mg (hidT s₁.heap H) := ⟨hKb, nsK hns, ⟨mb, nsK hb, hbb⟩, let ⟨mc, h1, h2⟩ := hlim; ⟨mc, nsK h1, h2⟩⟩
    have TB : ∀ p ∈ cs, TabB (hidT s₁.heap H) mg p.1 p.2 := fun p hp => by
      have hTp := hT p hp
      refine ⟨?_, ?_, fun z => ?_⟩
      · obtain ⟨o, us, file, tf, flags, tg, inF, text, tt, e1, r1, r2, r3, r4, r5, r6, r7, r8, hne⟩ := C p hp
        refine ⟨o, us, file, tf, flags, tg, inF, text, tt, base_of e1 (noD e1 (fun vs n z => ?_) fun z => ?_), r1, r2, r3, r4, r5, r6, r7, r8, hne⟩
        · rw [r2] at z
          cases z
        · rw [r2] at z
          cases z
          simp at r3
      · obtain ⟨bm, ob, b1, b2, b3, b4, b5, b6⟩ := hbm
        have nG : bm ≠ mainGlobals := fun q => by
          obtain ⟨o, es, ep, e, hd, _⟩ := hns
          rw [q, e] at b3
          cases b3
          rw [hd] at b6
          cases b6
        have nP : bm ≠ p.2 := fun q => by
          rw [q, hTp] at b3
          cases b3
          cases b6
        refine ⟨bm, ob, b1, b2, nG, nP, base_of b3 (noD b3 (fun vs n z => ?_) fun z => ?_), b4, b5, b6⟩
        · rw [b6] at z
          cases z
        · rw [b6] at z
          cases z
      · obtain ⟨o, es, ep, e, hd, _⟩ := hns
        rw [z, hTp] at e
        cases e
        cases hd
    have e0 : Env0 P w K mg (hidT s₁.heap H) callerA [] s₁ H := ⟨rfl, hM, fun b o e => of_hidT e, Nat.le_of_eq (hidT_size _ _), trivial, fun b hb => absurd (show b ∈ ([] : List Addr) from hb) (by simp), hok, .of_eq hg⟩
    have hsp : lsp K (spLawT n (cs.map (·.2)) nm) [.ref a] H (fun v _ => v = .bl true) fun _ _ _ => False := by
      refine ⟨[.wls (ns.map D.int)], fun b => if b ∈ cs.map (·.2) then some (.tab nm) else none, fun d _ => d = .bl true, fun _ _ => False, fun p o z => ?_, .cons (.wls ?_ (Rps.of_ints ns)) .nil, ⟨ns, rfl, hln, hbt, fun p hp => if_pos hp, fun _ => rfl⟩, fun v H' d G' _ _ p z => ?_, fun _ _ _ _ _ _ _ _ z => z⟩
      · by_cases hp : p ∈ cs.map (·.2)
        · have z' := (if_pos hp).symm.trans z
          cases z'
          obtain ⟨q, hq, e⟩ := List.mem_map.mp hp
          refine ⟨#[], by rw [← e]; exact hH q hq, True.intro, fun pos cv hc => ?_⟩
          have z2 : codeAmong pos [] = some cv := hc
          simp [codeAmong] at z2
        · have z' := (if_neg hp).symm.trans z
          cases z'
      · exact hS.elim (fun z => .inl ⟨z, if_neg aT⟩) .inr
      · subst z; cases p; rfl
    refine codeAny_mono ((F _ hKb (nsK hns) TB).run callerA [] s₁ H ⟨[.ref a], []⟩ [.ref a] [.ref a] _ _ rfl hr e0 (hbind s₁ (.ref a)) (.cons rfl .nil) hsp) fun r s' h => ?_
    cases r with
    | error e =>
      obtain ⟨_, _, _, _, _, _, _, _, _, _, _, _, z⟩ := h
      exact z.elim
    | ok fl =>
      cases fl with
      | next => exact False.elim h
      | brk => exact False.elim h
      | cont => exact False.elim h
      | ret u =>
        obtain ⟨v, H', os, bare, un, hok', r', q⟩ := h
        have q' : v = .bl true := q
        subst q'
        obtain rfl : u = Value.bool true := r'
        have key : ∀ b o, b ∉ cs.map (·.2) → s₁.heap.get? b = some o → s'.heap.get? b = some o := fun b o nb e => by
          cases q : H b with
          | none => exact un.keep b o e q (by intro z; exact absurd (show b ∈ ([] : List Addr) from z) (by simp)) (by simp)
          | some u =>
            rcases hO b with z | z | ⟨ob, xs, z⟩
            · rw [q] at z; cases z
            · exact absurd z nb
            · have z2 := un.frzs b ob _ z
              obtain ⟨e1, _⟩ := hok b _ z
              obtain ⟨e2, _⟩ := hok' b _ z2
              rw [e] at e1; cases e1
              exact e2
        have grown : ∀ p ∈ cs, ∃ more : Array Value, s'.heap.get? p.2 = some { cls := .none, data := .fields more } := fun p hp => by
          obtain ⟨more, z⟩ := un.tbls p.2 #[] (hH p hp)
          exact ⟨_, hok' p.2 _ z⟩
        refine ⟨rfl, ⟨fun b o e => ?_, fun b o e => ?_⟩, os, bare⟩
        · by_cases hb : b ∈ cs.map (·.2)
          · obtain ⟨p, hp, ep⟩ := List.mem_map.mp hb
            obtain ⟨more, hm⟩ := grown p hp
            rw [← ep] at e ⊢
            rw [hT p hp] at e
            cases e
            exact .inr (.inl ⟨((C p hp).tab (hT p hp)).isCodeTable, rfl, #[], more, rfl, by rw [Array.empty_append]; exact hm⟩)
          · exact .inl (key b o hb e)
        · by_cases hb : b ∈ cs.map (·.2)
          · obtain ⟨p, hp, ep⟩ := List.mem_map.mp hb
            obtain ⟨more, hm⟩ := grown p hp
            rw [← ep]
            exact ⟨_, hm⟩
          · exact ⟨o, key b o hb e⟩
  cases hk : K.lookup a with
  | some o =>
    have e := KX a o hk
    rw [ha] at e
    cases e
    refine core (fun b => if b ∈ cs.map (·.2) then some (.tbl #[]) else none) (fun p hp => if_pos (memT p hp)) (fun b => ?_) (.inr ⟨_, vs.toArray, _, hk, rfl, rfl, rfl, by rw [List.size_toArray, lenV]; exact hl, by simpa using rv⟩) (fun b u z => ?_) (fun b z => ?_) fun z => absurd (show (if a ∈ cs.map (·.2) then some (HO.tbl #[]) else none) = none from if_neg aT) z
    · by_cases hb : b ∈ cs.map (·.2)
      · exact .inr (.inl hb)
      · exact .inl (if_neg hb)
    · by_cases hb : b ∈ cs.map (·.2)
      · have z' := (if_pos hb).symm.trans z
        cases z'
        exact isT b hb
      · have z' := (if_neg hb).symm.trans z
        cases z'
    · by_cases hb : b ∈ cs.map (·.2)
      · exact .inr hb
      · exact absurd (if_neg hb) z
  | none =>
    refine core (fun b => if b = a then some (.frz { cls := .type "list", data := .seq vs.toArray } (.lst (ns.map V.int))) else if b ∈ cs.map (·.2) then some (.tbl #[]) else none) (fun p hp => (if_neg (show ¬ p.2 = a from fun z => aT (by rw [← z]; exact memT p hp))).trans (if_pos (memT p hp))) (fun b => ?_)
      (.inl (.inr ⟨{ cls := .type "list", data := .seq vs.toArray }, if_pos rfl⟩)) (fun b u z => ?_) (fun b z => ?_) fun _ => hk
    · by_cases hb : b = a
      · exact .inr (.inr ⟨_, _, if_pos hb⟩)
      · by_cases hb2 : b ∈ cs.map (·.2)
        · exact .inr (.inl hb2)
        · exact .inl ((if_neg hb).trans (if_neg hb2))
    · by_cases hb : b = a
      · have z' := (if_pos hb).symm.trans z
        cases z'
        rw [hb]
        exact ⟨ha, by rw [List.length_map]; exact hl, vs, _, rv, ha⟩
      · have z1 := (if_neg hb).symm.trans z
        by_cases hb2 : b ∈ cs.map (·.2)
        · have z' := (if_pos hb2).symm.trans z1
          cases z'
          exact isT b hb2
        · have z' := (if_neg hb2).symm.trans z1
          cases z'
    · by_cases hb : b = a
      · exact .inl hb
      · by_cases hb2 : b ∈ cs.map (·.2)
        · exact .inr hb2
        · exact absurd ((if_neg hb).trans (if_neg hb2)) z
theorem walkGT {l : PySem.W.OpenLaw} {n k : Nat} {q : Program} {loose : List Str} {XP : (Str → Option Value) → Heap → Prop} {YP : World → Heap → Prop} {d : DefRec} {K : Params → Frag} {x : Str} {Ps : List Addr}
    (hn : l.most = some n) (hn2 : n ≤ sizeLine) (hdf : d.params.defaults = []) (hr : Room k callerA) (hY : ∀ (w : World) (h : Heap), YP w h → (K w.params).In h) (hT : ∀ (w : World) (h : Heap), YP w h → ∀ P ∈ Ps, h.get? P = some { cls := .none, data := .fields #[] })
    (F : ∀ (w : World) (mg : Str → Option Value) (fa : Addr) (h : Heap), (K w.params).In h → h.Ns mainGlobals mg → mg d.name = some (.ref fa) →
      ∃ (fd : FuncData) (cs : List (Addr × Addr)) (nm : Nat → Nat → Str), (∀ p ∈ cs, p.2 ∈ Ps) ∧ (∀ p ∈ cs, (K w.params).lookup p.2 = none) ∧ (∀ p ∈ cs, PySem.W.codeHdIn (K w.params) p.1 p.2 = true) ∧ (∀ (s : Shared) (u : Value), BindsTo s fd ⟨[u], []⟩ [(x, u)]) ∧
        ∀ base : Heap, (K w.params).In base → base.Ns mainGlobals mg → (∀ p ∈ cs, TabB base mg p.1 p.2) → FnG l.prog w (K w.params) mg base k fa fd [x] (spLawT n (cs.map (·.2)) nm)) :
    PySem.W.WalkO q loose XP YP l.row.toRowW d [] (fun f vs => PySem.call f vs) := by
  refine Att.attach_callB hn hdf fun w s₀ s₁ mg mb fa o pm cd doc a vs ns G Y ho hd hcd hmg hobj hints hlen hbits hg => ?_
  have KX := hY w _ Y
  obtain ⟨fd, cs, nm, hP, nT, hC, hb, hF⟩ := F w mg fa _ KX G.T.g hmg
  exact law_callGT KX G.T.g G.T.b G.T.builtins G.T.nolimit hg (fun p hp => hT w _ Y p.2 (hP p hp)) nT (fun p hp => PySem.W.codeHd_of_K KX (hC p hp)) G.T.bmain hobj hints hlen (fun z hz => bits_of (hbits z hz)) (Nat.le_trans hlen hn2) hr hF hb
end DL

namespace DL
open PySem PySem.Spec PyProof.Rows L2
open PySem.W (Frag)
section
variable {X : Cx} {W : WX} {t : TAD}
theorem de_callL0 {j kf jb : Nat} {f cA P : Addr} {fd : FuncData} {pf ps : List Str} {sp : SpD → Addr → SpD} {nm : Nat → Nat → Str} {fr : List Bool} {params : Arguments} {body : Expr} {scope : Scope} {lpos pos p : Pos} {x : Str} {tb : TED}
    (F : FnGA X.prog X.w X.K X.mg X.base j kf f fd pf sp) (hgd : X.A.guards = some []) (hr : Room kf X.A) (hg : Gl X x) (hm : X.mg x = some (.ref f)) (hk : PySem.W.keepIn X.K (.ref f) = true) (hb : Binds X.K fd pf []) (tk : Takes X W)
    (TB : LamX.TabB X.base X.mg cA P) (hcode : X.env.code = .ref cA) (L : LamP X.env.scope scope ps) (hfr : frOk scope X.N fr = true) (hdef : defaultsOf params X.env = ([], [])) (hn : nm lpos.line lpos.col = X.env.qual ++ "<lambda>")
    (hbind : ∀ (q : Str) (cl : List (Str × Addr)) (pm cv ctv : Value) (us : List Value), us.length = ps.length → bindArgs (PySem.W.kla_fn "<lambda>" q params body scope cl pm cv ctv) ⟨us, []⟩ = pure (ps.zip us))
    (hj : jb + 1 = j) (hbody : ∀ (A : Around) (outer : List Env) (s : Shared) (H : Hp) (E : XK) (f c' : Addr), A.guards = some [] → Room jb (A.deeper (LamX.lamEnv X scope s.heap.objs.size f c')) → DE (lamCxP X A outer s H E scope ps f c') (WD E) body tb)
    (ha : DAx X W [] t) (hdb : (x == ("__debug__" : Str)) = false := by decide) (hst : starEach [.Lambda params body scope lpos] X.env = starEach [] X.env ++ [(false, eval (.Lambda params body scope lpos) X.env)] := by rfl)
    (he : starEach [.Lambda params body scope lpos] X.env = (false, eval (.Lambda params body scope lpos) X.env) :: starEach [] X.env := by rfl) (hpl : (backTo pos (starEach [] X.env)).any (·.1) = false := by rfl) :
    DE X W (.Call (.Name x p) [.Lambda params body scope lpos] [] pos) (dCallL sp P nm fr ps.length t tb) :=
  de_callL (es := []) F hgd hr hg hm hk hb tk TB hcode L hfr hdef hn hbind hj hbody ha rfl hst hdb he hpl
theorem de_callL1 {j kf jb : Nat} {f cA P : Addr} {fd : FuncData} {pf ps : List Str} {sp : SpD → Addr → SpD} {nm : Nat → Nat → Str} {fr : List Bool} {params : Arguments} {body : Expr} {scope : Scope} {lpos pos p : Pos} {x : Str} {e1 : Expr} {tb : TED}
    (F : FnGA X.prog X.w X.K X.mg X.base j kf f fd pf sp) (hgd : X.A.guards = some []) (hr : Room kf X.A) (hg : Gl X x) (hm : X.mg x = some (.ref f)) (hk : PySem.W.keepIn X.K (.ref f) = true) (hb : Binds X.K fd pf []) (tk : Takes X W)
    (TB : LamX.TabB X.base X.mg cA P) (hcode : X.env.code = .ref cA) (L : LamP X.env.scope scope ps) (hfr : frOk scope X.N fr = true) (hdef : defaultsOf params X.env = ([], [])) (hn : nm lpos.line lpos.col = X.env.qual ++ "<lambda>")
    (hbind : ∀ (q : Str) (cl : List (Str × Addr)) (pm cv ctv : Value) (us : List Value), us.length = ps.length → bindArgs (PySem.W.kla_fn "<lambda>" q params body scope cl pm cv ctv) ⟨us, []⟩ = pure (ps.zip us))
    (hj : jb + 1 = j) (hbody : ∀ (A : Around) (outer : List Env) (s : Shared) (H : Hp) (E : XK) (f c' : Addr), A.guards = some [] → Room jb (A.deeper (LamX.lamEnv X scope s.heap.objs.size f c')) → DE (lamCxP X A outer s H E scope ps f c') (WD E) body tb)
    (ha : DAx X W [e1] t) (hdb : (x == ("__debug__" : Str)) = false := by decide) (hst : starEach [e1, .Lambda params body scope lpos] X.env = starEach [e1] X.env ++ [(false, eval (.Lambda params body scope lpos) X.env)] := by rfl)
    (he : starEach [e1, .Lambda params body scope lpos] X.env = (false, eval e1 X.env) :: starEach [.Lambda params body scope lpos] X.env := by rfl) (hpl : (backTo pos (starEach [.Lambda params body scope lpos] X.env)).any (·.1) = false := by rfl) :
    DE X W (.Call (.Name x p) [e1, .Lambda params body scope lpos] [] pos) (dCallL sp P nm fr ps.length t tb) :=
  de_callL (es := [e1]) F hgd hr hg hm hk hb tk TB hcode L hfr hdef hn hbind hj hbody ha rfl hst hdb he hpl
theorem de_callL2 {j kf jb : Nat} {f cA P : Addr} {fd : FuncData} {pf ps : List Str} {sp : SpD → Addr → SpD} {nm : Nat → Nat → Str} {fr : List Bool} {params : Arguments} {body : Expr} {scope : Scope} {lpos pos p : Pos} {x : Str} {e1 e2 : Expr} {tb : TED}
    (F : FnGA X.prog X.w X.K X.mg X.base j kf f fd pf sp) (hgd : X.A.guards = some []) (hr : Room kf X.A) (hg : Gl X x) (hm : X.mg x = some (.ref f)) (hk : PySem.W.keepIn X.K (.ref f) = true) (hb : Binds X.K fd pf []) (tk : Takes X W)
    (TB : LamX.TabB X.base X.mg cA P) (hcode : X.env.code = .ref cA) (L : LamP X.env.scope scope ps) (hfr : frOk scope X.N fr = true) (hdef : defaultsOf params X.env = ([], [])) (hn : nm lpos.line lpos.col = X.env.qual ++ "<lambda>")
    (hbind : ∀ (q : Str) (cl : List (Str × Addr)) (pm cv ctv : Value) (us : List Value), us.length = ps.length → bindArgs (PySem.W.kla_fn "<lambda>" q params body scope cl pm cv ctv) ⟨us, []⟩ = pure (ps.zip us))
    (hj : jb + 1 = j) (hbody : ∀ (A : Around) (outer : List Env) (s : Shared) (H : Hp) (E : XK) (f c' : Addr), A.guards = some [] → Room jb (A.deeper (LamX.lamEnv X scope s.heap.objs.size f c')) → DE (lamCxP X A outer s H E scope ps f c') (WD E) body tb)
    (ha : DAx X W [e1, e2] t) (hdb : (x == ("__debug__" : Str)) = false := by decide) (hst : starEach [e1, e2, .Lambda params body scope lpos] X.env = starEach [e1, e2] X.env ++ [(false, eval (.Lambda params body scope lpos) X.env)] := by rfl)
    (he : starEach [e1, e2, .Lambda params body scope lpos] X.env = (false, eval e1 X.env) :: starEach [e2, .Lambda params body scope lpos] X.env := by rfl) (hpl : (backTo pos (starEach [e2, .Lambda params body scope lpos] X.env)).any (·.1) = false := by rfl) :
    DE X W (.Call (.Name x p) [e1, e2, .Lambda params body scope lpos] [] pos) (dCallL sp P nm fr ps.length t tb) :=
  de_callL (es := [e1, e2]) F hgd hr hg hm hk hb tk TB hcode L hfr hdef hn hbind hj hbody ha rfl hst hdb he hpl
theorem de_callL3 {j kf jb : Nat} {f cA P : Addr} {fd : FuncData} {pf ps : List Str} {sp : SpD → Addr → SpD} {nm : Nat → Nat → Str} {fr : List Bool} {params : Arguments} {body : Expr} {scope : Scope} {lpos pos p : Pos} {x : Str} {e1 e2 e3 : Expr} {tb : TED}
    (F : FnGA X.prog X.w X.K X.mg X.base j kf f fd pf sp) (hgd : X.A.guards = some []) (hr : Room kf X.A) (hg : Gl X x) (hm : X.mg x = some (.ref f)) (hk : PySem.W.keepIn X.K (.ref f) = true) (hb : Binds X.K fd pf []) (tk : Takes X W)
    (TB : LamX.TabB X.base X.mg cA P) (hcode : X.env.code = .ref cA) (L : LamP X.env.scope scope ps) (hfr : frOk scope X.N fr = true) (hdef : defaultsOf params X.env = ([], [])) (hn : nm lpos.line lpos.col = X.env.qual ++ "<lambda>")
    (hbind : ∀ (q : Str) (cl : List (Str × Addr)) (pm cv ctv : Value) (us : List Value), us.length = ps.length → bindArgs (PySem.W.kla_fn "<lambda>" q params body scope cl pm cv ctv) ⟨us, []⟩ = pure (ps.zip us))
    (hj : jb + 1 = j) (hbody : ∀ (A : Around) (outer : List Env) (s : Shared) (H : Hp) (E : XK) (f c' : Addr), A.guards = some [] → Room jb (A.deeper (LamX.lamEnv X scope s.heap.objs.size f c')) → DE (lamCxP X A outer s H E scope ps f c') (WD E) body tb)
    (ha : DAx X W [e1, e2, e3] t) (hdb : (x == ("__debug__" : Str)) = false := by decide) (hst : starEach [e1, e2, e3, .Lambda params body scope lpos] X.env = starEach [e1, e2, e3] X.env ++ [(false, eval (.Lambda params body scope lpos) X.env)] := by rfl)
    (he : starEach [e1, e2, e3, .Lambda params body scope lpos] X.env = (false, eval e1 X.env) :: starEach [e2, e3, .Lambda params body scope lpos] X.env := by rfl) (hpl : (backTo pos (starEach [e2, e3, .Lambda params body scope lpos] X.env)).any (·.1) = false := by rfl) :
    DE X W (.Call (.Name x p) [e1, e2, e3, .Lambda params body scope lpos] [] pos) (dCallL sp P nm fr ps.length t tb) :=
  de_callL (es := [e1, e2, e3]) F hgd hr hg hm hk hb tk TB hcode L hfr hdef hn hbind hj hbody ha rfl hst hdb he hpl
end
end DL

namespace DL
open PySem PySem.Spec PyProof.Rows L2
open PySem.W (Frag)
/-! ### repr of lists and tuples with ints of up to 12900 bits -/
theorem nodig_of {K : Frag} {h : Heap} (X : K.In h) (L : h.NoLimit) (e : PySem.W.nsIn K cStatics "sys.int_max_str_digits" = some none) : h.NoDigits := by
  obtain ⟨mc, ⟨o, es, ep, ho, hd, hr, hf⟩, _⟩ := L
  refine ⟨mc, ⟨o, es, ep, ho, hd, hr, hf⟩, ?_⟩
  unfold PySem.W.nsIn at e
  split at e
  · rename_i c d es' n' sl q
    have := X _ _ q
    rw [ho] at this
    cases this
    cases hd
    split at e
    · cases e
    · rename_i he
      rw [← hf]
      unfold nsFind findBy
      rw [← Array.find?_toList, he]
      rfl
  · cases e
section
variable {prog : Program} {w : World} {A : Around} {E : Value → Shared → Prop} {s : Shared} {a : Int} {t : Tok}
theorem call_int_reprB {Q : Value → Shared → Prop} (hn : s.heap.NoDigits) (hlt : a.natAbs < 10 ^ 4300) (h1 : Q (.str (toString a) s.toks) { s with toks := s.toks + 1 }) :
    wpAny (model prog w) A (call (.builtin "int.__repr__") [.int a t]) Q E s := by
  refine wpAny_call_entry F.slot_int_repr (typeIs_int s a t) F.entry_int_repr ?_ (F.args_int_repr_1 _)
  unfold Builtin.«int.__repr__»
  show wpAny _ _ (do let r ← Builtin.overDigitLimit? a; _) _ _ s
  exact wpAny_bind (overDigitLimit_any hn (fun _ => wpAny_bind (wpAny_mkStr (wpAny_pure ⟨_, rfl, h1⟩) (int_text_fits10 hlt))) (fun hge => absurd hlt (Nat.not_lt.mpr hge)))
theorem pyReprObj_intB {Q : Value → Shared → Prop} (hu : A.units < cLine) (hn : s.heap.NoDigits) (hlt : a.natAbs < 10 ^ 4300) (h1 : Q (.str (toString a) s.toks) { s with toks := s.toks + 1 }) : wpAny (model prog w) A (pyReprObj (.int a t)) Q E s :=
  wpAny_pyReprObj_slot hu (typeIs_int s a t) F.slot_int_repr.toG (call_int_reprB hn hlt ⟨_, _, rfl, h1⟩)
end
theorem lt_digits {b : Nat} {i : Int} (hb : b ≤ 12900) (h : i.natAbs < 2 ^ b) : i.natAbs < 10 ^ 4300 :=
  Nat.lt_of_lt_of_le h (Nat.le_trans (Nat.pow_le_pow_right (by decide) hb) PyProof.Rows.pow_lo)
theorem ReprK.intB {prog : Program} {w : World} {h₀ : Heap} {a : Int} (t : Tok) (hn : h₀.NoDigits) (hlt : a.natAbs < 10 ^ 4300) : ReprK prog w [] h₀ 0 (.int a t) (toString a) := fun n hz A g E s Q hg hcl hu hk hQ => by
  rw [pyReprUnder_leaf (v := .int a t) (by omega) (fun _ e => nomatch e)]
  unfold pyRepr
  exact wpAny_bind (pyReprObj_intB (by omega) (hn.keeps hk) hlt (wpAny_pure (hQ s.heap _ fun _ _ e => e)))
section
variable {prog : Program} {w : World} {h₀ : Heap}
mutual
theorem ReprK.of_fine {b : Nat} (hb : b ≤ 12900) (hd : h₀.NoDigits) : ∀ {v : Value} {d : PyData} {as : List Addr} {n : Nat}, Reads h₀ v d as → fine b n d → d.shown.length ≤ sizeLine → ∃ bs, ReadAtMost h₀ d.depth bs ∧ ReprK prog w bs h₀ d.depth v d.shown
  | _, _, _, _, .none, _, _ => ⟨[], (fun _ h => nomatch h), by simp only [PyData.shown]; exact .of_is ReprIs.none _ _ _⟩
  | _, _, _, _, .bool b, _, _ => ⟨[], (fun _ h => nomatch h), by simp only [PyData.shown]; exact .of_is (ReprIs.bool b) _ _ _⟩
  | _, _, _, n, .int i t, hf, _ => ⟨[], (fun _ h => nomatch h), by
      simp only [PyData.shown, PyData.depth]
      exact ReprK.intB t hd (lt_digits hb (by cases n <;> exact hf))⟩
  | _, _, _, _, .str x t, _, hz => ⟨[], (fun _ h => nomatch h), by simp only [PyData.shown]; exact .of_is (ReprIs.str x t (by simpa only [PyData.shown] using hz)) _ _ _⟩
  | _, _, _, n, .list (a := a) (vs := vs) (xs := xs) h1 h2 h3 h4, hf, hz => by
    have hz' : (listText (PyData.shownAll xs)).length ≤ sizeLine := by simpa only [PyData.shown] using hz
    obtain ⟨m, hf2⟩ : ∃ m, fineAll b m xs := by
      cases n with
      | zero => simp [fine] at hf
      | succ n => exact ⟨n, by simpa only [fine] using hf⟩
    obtain ⟨bs, hb2, hk⟩ := ReprAllK.of_fines hb hd h4 hf2 (fun t ht => Nat.le_trans (listText_mem_le ht) hz')
    have r : Reads h₀ (.ref a) (.list xs) _ := .list h1 h2 h3 h4
    have hna : a ∉ bs := not_mem_of_deeper r (by simp only [PyData.depth]; omega) hb2
    refine ⟨a :: bs, ReadAtMost.cons r (by simp only [PyData.depth]; omega) hb2, ?_⟩
    simp only [PyData.depth, PyData.shown]
    obtain ⟨l⟩ := vs
    cases l with
    | nil =>
      have h4' : ReadsAll h₀ [] xs _ := h4
      cases h4'
      simp only [PyData.shownAll, listText_nil]
      exact ReprK.listEmpty h1 h2 h3
    | cons x l => exact ReprK.list h1 h2 h3 hna (by simpa using hk.length_eq) (fun i y e => hk.item i y (by simpa using e))
  | _, _, _, n, .tuple (a := a) (xs := xs) h1 h2 h3 h4, hf, hz => by
    have hz' : (tupleText (PyData.shownAll xs)).length ≤ sizeLine := by simpa only [PyData.shown] using hz
    obtain ⟨m, hf2⟩ : ∃ m, fineAll b m xs := by
      cases n with
      | zero => simp [fine] at hf
      | succ n => exact ⟨n, by simpa only [fine] using hf⟩
    obtain ⟨bs, hb2, hk⟩ := ReprAllK.of_fines hb hd h4 hf2 (fun t ht => Nat.le_trans (tupleText_mem_le ht) hz')
    have r : Reads h₀ (.ref a) (.tuple xs) _ := .tuple h1 h2 h3 h4
    have hna : a ∉ bs := not_mem_of_deeper r (by simp only [PyData.depth]; omega) hb2
    refine ⟨a :: bs, ReadAtMost.cons r (by simp only [PyData.depth]; omega) hb2, ?_⟩
    simp only [PyData.depth, PyData.shown]
    exact ReprK.tuple h1 h2 h3 hna hk
  | _, _, _, n, .dict _ _ _ _ _, hf, _ => by cases n <;> simp [fine] at hf
theorem ReprAllK.of_fines {b : Nat} (hb : b ≤ 12900) (hd : h₀.NoDigits) : ∀ {vs : List Value} {ds : List PyData} {as : List Addr} {n : Nat}, ReadsAll h₀ vs ds as → fineAll b n ds → (∀ t ∈ PyData.shownAll ds, t.length ≤ sizeLine) →
    ∃ bs, ReadAtMost h₀ (PyData.depthAll ds) bs ∧ ReprAllK prog w bs h₀ (PyData.depthAll ds) vs (PyData.shownAll ds)
  | _, _, _, _, .nil, _, _ => ⟨[], (fun _ h => nomatch h), by simp only [PyData.shownAll]; exact .nil⟩
  | _, _, _, n, .cons (d := d) (ds := ds) r rs, hf, hz => by
    have hf' : fine b n d ∧ fineAll b n ds := by simpa only [fineAll] using hf
    obtain ⟨b1, hb1, k1⟩ := ReprK.of_fine hb hd r hf'.1 (hz _ (by simp only [PyData.shownAll]; exact List.mem_cons_self ..))
    obtain ⟨b2, hb2, k2⟩ := ReprAllK.of_fines hb hd rs hf'.2 (fun t ht => hz t (by simp only [PyData.shownAll]; exact List.mem_cons_of_mem _ ht))
    refine ⟨b1 ++ b2, ?_, ?_⟩
    · intro b hm
      simp only [PyData.depthAll]
      rcases List.mem_append.mp hm with hm | hm
      · obtain ⟨d', as', r', hd'⟩ := hb1 b hm
        exact ⟨d', as', r', Nat.le_trans hd' (Nat.le_max_left _ _)⟩
      · obtain ⟨d', as', r', hd'⟩ := hb2 b hm
        exact ⟨d', as', r', Nat.le_trans hd' (Nat.le_max_right _ _)⟩
    · simp only [PyData.depthAll, PyData.shownAll]
      exact .cons ((k1.more fun b hb => List.mem_append_left _ hb).level_le (Nat.le_max_left _ _)) (k2.more_le (fun b hb => List.mem_append_right _ hb) (Nat.le_max_right _ _))
end
end
mutual
theorem fine_lookB {b : Nat} (h0 : 0 < b) : ∀ (n : Nat) (d : PyData), fine b n d → d.canLay0 = true ∧ d.leavesShort (b + 10) = true ∧ d.depth ≤ n
  | n, .none, _ => by simp [PyData.canLay0, PyData.leavesShort, PyData.depth]
  | n, .bool _, _ => by simp [PyData.canLay0, PyData.leavesShort, PyData.depth]
  | n, .int i, h => by
    have h : i.natAbs < 2 ^ b := by cases n <;> exact h
    have h1 := int_len h0 h
    simp only [PyData.canLay0, PyData.leavesShort, PyData.depth]
    exact ⟨trivial, decide_eq_true (by omega), Nat.zero_le _⟩
  | n, .str x, h => by
    have h : PyData.strOk x = true := by cases n <;> exact h
    simp only [PyData.canLay0, PyData.leavesShort, PyData.depth]
    refine ⟨h, ?_, Nat.zero_le _⟩
    rw [List.all_eq_true]
    intro c hc
    unfold PyData.strOk at h
    rw [← Array.all_toList, List.all_eq_true] at h
    have := h c hc
    have : c < 0x110000 := by simpa using this
    exact decide_eq_true (Nat.lt_trans this (by decide))
  | 0, .list _, h => by simp [fine] at h
  | 0, .tuple _, h => by simp [fine] at h
  | n + 1, .list xs, h => by
    simp only [fine] at h
    obtain ⟨h2, h3, h4⟩ := fineAll_lookB h0 n xs h
    simp only [PyData.canLay0, PyData.leavesShort, PyData.depth]
    exact ⟨h2, h3, by omega⟩
  | n + 1, .tuple xs, h => by
    simp only [fine] at h
    obtain ⟨h2, h3, h4⟩ := fineAll_lookB h0 n xs h
    simp only [PyData.canLay0, PyData.leavesShort, PyData.depth]
    exact ⟨h2, h3, by omega⟩
  | n, .dict _, h => by cases n <;> simp [fine] at h
theorem fineAll_lookB {b : Nat} (h0 : 0 < b) : ∀ (n : Nat) (ds : List PyData), fineAll b n ds → PyData.canLayAll0 ds = true ∧ PyData.leavesShortAll (b + 10) ds = true ∧ PyData.depthAll ds ≤ n
  | n, [], _ => by simp [PyData.canLayAll0, PyData.leavesShortAll, PyData.depthAll]
  | n, d :: ds, h => by
    simp only [fineAll] at h
    obtain ⟨a2, a3, a4⟩ := fine_lookB h0 n d h.1
    obtain ⟨b2, b3, b4⟩ := fineAll_lookB h0 n ds h.2
    simp only [PyData.canLayAll0, PyData.leavesShortAll, PyData.depthAll, a2, a3, b2, b3, Bool.and_self, true_and]
    omega
end
/-- data that may be shown, ints of up to 12900 bits -/
def ShwB (d : PyData) : Prop := (∃ b n, b ≤ 12900 ∧ fine b n d) ∧ SeqAt.shaped d = true ∧ d.shown.length ≤ sizeLine
theorem shwB_of {b n : Nat} {d : PyData} (h0 : 0 < b) (hb : b ≤ 12900) (hn : n ≤ 64) (h : fine b n d) (hz : (b + 12) * d.bulk + b + 10 ≤ 16777216) : ShwB d := by
  obtain ⟨h2, h3, h4⟩ := fine_lookB h0 n d h
  refine ⟨⟨b, n, hb, h⟩, ?_, ?_⟩
  · unfold SeqAt.shaped
    rw [h2]
    exact decide_eq_true (by omega)
  have := PyData.shown_le_bulk (b + 10) (by omega) d h3
  have e : sizeLine = 16777216 := sizeLine_eq
  rw [e]
  have e2 : (b + 10 + 2) * d.bulk = (b + 12) * d.bulk := by rw [show b + 10 + 2 = b + 12 by omega]
  omega
section
variable {X : Cx}
theorem call_reprB (hg : X.A.guards = some []) (hu : X.A.units + 70 < cLine) (hnd : PySem.W.nsIn X.K cStatics "sys.int_max_str_digits" = some none) : CallR X (.builtin "repr") (fun xs H Q => ∃ v d, xs = [v] ∧ Dp X.K H v d ∧ ShwB d ∧ Q (.str d.shown) H) := by
  intro pins s σ H xs us Q I r h
  obtain ⟨v, d, rfl, hd, ⟨⟨b, n, hb, hf⟩, hsh, hz⟩, q⟩ := h
  obtain ⟨u, rfl, ru⟩ := vals1 r
  have nd : s.heap.NoDigits := nodig_of I.kIn I.nolimit hnd
  cases hd with
  | non =>
    cases ru
    simp only [PyData.shown] at q
    exact PySem.P.repr_of_none ⟨.str _, H, I.tok _, ⟨_, rfl⟩, q⟩
  | bl b =>
    cases ru
    simp only [PyData.shown] at q
    exact PySem.P.repr_of_bool ⟨.str _, H, I.tok _, ⟨_, rfl⟩, q⟩
  | int i =>
    obtain ⟨t, rfl⟩ := ru
    simp only [PyData.shown] at q
    exact call_repr_slot (by omega) (typeIs_int s i t) F.slot_int_repr.toG (call_int_reprB nd (lt_digits hb (by cases n <;> exact hf)) ⟨_, _, rfl, .str _, H, I.tok _, ⟨_, rfl⟩, q⟩)
  | str x =>
    obtain ⟨t, rfl⟩ := ru
    simp only [PyData.shown] at q hz
    exact PySem.P.repr_of_str ⟨.str _, H, I.tok _, ⟨_, rfl⟩, q⟩ hz
  | @lst a xs ds h1 h2 =>
    cases ru
    obtain ⟨as, rd⟩ := Dp.reads I (.list ds) (.ref a) (.ref a) (.lst h1 h2) rfl
    have hdp := SeqAt.depth_of_shaped hsh
    cases rd with
    | list k1 k2 k3 k4 =>
      rename_i o vs n2 bs₀
      have hz' : (listText (PyData.shownAll ds)).length ≤ sizeLine := by simpa only [PyData.shown] using hz
      obtain ⟨m, hf2⟩ : ∃ m, fineAll b m ds := by
        cases n with
        | zero => simp [fine] at hf
        | succ n => exact ⟨n, by simpa only [fine] using hf⟩
      obtain ⟨bs, hb2, hk⟩ := ReprAllK.of_fines (prog := X.prog) (w := X.w) hb nd k4 hf2 (fun t ht => Nat.le_trans (listText_mem_le ht) hz')
      have hna : a ∉ bs := not_mem_of_deeper (.list k1 k2 k3 k4) (by simp only [PyData.depth]; omega) hb2
      simp only [PyData.depth] at hdp
      refine call_repr_slot (by omega) ⟨o, k1, k2⟩ F.slot_list_repr.toG ?_
      simp only [PyData.shown] at q
      obtain ⟨l⟩ := vs
      cases l with
      | nil =>
        have h4' : ReadsAll s.heap [] ds _ := k4
        cases h4'
        simp only [PyData.shownAll, listText_nil] at q
        exact call_list_repr_empty ⟨o, k1, k2⟩ k1 k3 ⟨_, _, rfl, .str _, H, I.kept fun _ _ e => e, ⟨_, rfl⟩, q⟩
      | cons x l =>
        exact call_list_reprK k1 k2 k3 hna (by simpa using hk.length_eq) (fun i y e => hk.item i y (by simpa using e)) hg (fun b _ => Clear.nil b) (by show X.A.units + 1 + _ < _; omega) (fun _ _ e => e) (fun h' u tk k => ⟨_, _, rfl, .str _, H, I.kept k, ⟨u, rfl⟩, q⟩) hz'
  | @tup a xs ds h1 h2 =>
    cases ru
    obtain ⟨as, rd⟩ := Dp.reads I (.tuple ds) (.ref a) (.ref a) (.tup h1 h2) rfl
    have hdp := SeqAt.depth_of_shaped hsh
    cases rd with
    | tuple k1 k2 k3 k4 =>
      rename_i o vs n2
      have hz' : (tupleText (PyData.shownAll ds)).length ≤ sizeLine := by simpa only [PyData.shown] using hz
      obtain ⟨m, hf2⟩ : ∃ m, fineAll b m ds := by
        cases n with
        | zero => simp [fine] at hf
        | succ n => exact ⟨n, by simpa only [fine] using hf⟩
      obtain ⟨bs, hb2, hk⟩ := ReprAllK.of_fines (prog := X.prog) (w := X.w) hb nd k4 hf2 (fun t ht => Nat.le_trans (tupleText_mem_le ht) hz')
      have hna : a ∉ bs := not_mem_of_deeper (.tuple k1 k2 k3 k4) (by simp only [PyData.depth]; omega) hb2
      simp only [PyData.depth] at hdp
      refine call_repr_slot (by omega) ⟨o, k1, k2⟩ F.slot_tuple_repr ?_
      simp only [PyData.shown] at q
      exact call_tuple_reprK k1 k2 k3 hna hk hg (fun b _ => Clear.nil b) (by show X.A.units + 1 + _ < _; omega) (fun _ _ e => e) (fun h' u tk k => ⟨_, _, rfl, .str _, H, I.kept k, ⟨u, rfl⟩, q⟩) hz'
def kReprB : RCD := c1 fun x G Q => ∃ d, Py G x d ∧ ShwB d ∧ Q (.str d.shown) G
theorem cReprB (hg : X.A.guards = some []) (hu : X.A.units + 70 < cLine) (hnd : PySem.W.nsIn X.K cStatics "sys.int_max_str_digits" = some none) : CallD X (.builtin "repr") kReprB := ⟨_, call_reprB hg hu hnd, fun xs H Q ds G QD hR hp ⟨x, e, d, hd, hs, q⟩ hq => by
  subst e
  obtain ⟨v, rfl, p⟩ := rps1 hp
  exact ⟨v, d, rfl, hd.dp hR p, hs, hq.now hR (.str _) q⟩⟩
end
theorem st_reprX {G : HH} {Q : QD} {x : D} (b B : Nat) (h : Rpr b B x) (h0 : 0 < b ∧ b ≤ 12900) (hB : (b + 12) * B + b + 10 ≤ 16777216) (q : Q (.str x.pyd.shown) G) : kReprB [x] G Q := by
  refine ⟨x, rfl, x.pyd, Py.of (gd_py 60 x h.g).1, ?_, q⟩
  refine shwB_of (b := b) (n := 60) h0.1 h0.2 (by decide) (fine_of 60 x h.g h.s) ?_
  have := Nat.mul_le_mul_left (b + 12) (Nat.le_trans (bulk_le x) h.z)
  omega
end DL

namespace LW
open PySem PySem.Spec PyProof.Rows L2 DL
open PySem.W (Frag)
/-! short ways through the steps (local to this text) -/
local macro_rules | `(tactic| walk_at "get") => `(tactic| first | exact GetAt.z | (refine' GetAt.s ?k3; (case k3 => walk_at "get")))
local macro_rules | `(tactic| walk_at "put") => `(tactic| first | exact SetAt.z | (refine' SetAt.s ?k3; (case k3 => walk_at "put")))
local macro_rules | `(tactic| walk_at "ne") => `(tactic| first | assumption | (refine Ne.symm ?_; assumption) | exact ne_sn (by assumption) (by assumption) | exact Ne.symm (ne_sn (by assumption) (by assumption)))
local macro_rules | `(tactic| walk_at "hp") => `(tactic| first | assumption | exact gput_same | exact gdel_same | (refine' (gput_ne ?k4).trans ?k5; (case k4 => walk_at "ne"); (case k5 => walk_at "hp")) | (refine' (gdel_ne ?k4).trans ?k5; (case k4 => walk_at "ne"); (case k5 => walk_at "hp")))
local macro_rules | `(tactic| walk_at "sq") => `(tactic| first | with_reducible exact Sq.tup _ | with_reducible exact Sq.lst _ | with_reducible exact Sq.wls _ | with_reducible exact LsW.lst _ | with_reducible exact LsW.wls _ | with_reducible exact Ls.lst _ | ((with_reducible refine' Sq.ref ?k6); (case k6 => walk_at "hp")) | ((with_reducible refine' LsW.ref ?k6); (case k6 => walk_at "hp")) | ((with_reducible refine' Ls.ref ?k6); (case k6 => walk_at "hp")))
local macro_rules | `(tactic| walk_at "sz") => `(tactic| first | decide | omega | (simp only [List.length_append, List.length_cons, List.length_nil, List.length_map, sizeLine_eq]; omega) | (simp only [List.length_append, List.length_cons, List.length_nil, List.length_map, sizeLine_eq]; split <;> simp only [List.length_append, List.length_cons, List.length_nil, List.length_map] <;> omega))
local macro_rules | `(tactic| walk_at "lk") => `(tactic| first | with_reducible exact lk_here | with_reducible exact lk_nil | ((with_reducible refine' lk_next ?n1 ?n2); (case n1 => decide +kernel); (case n2 => walk_at "lk")) | ((with_reducible refine' lk_not ?n1 ?n2); (case n1 => decide +kernel); (case n2 => walk_at "lk")))
local macro_rules | `(tactic| walk_at "b1") => `(tactic| first
  | with_reducible refine st_iSq ?_ | with_reducible refine st_sqT ?_ | ((with_reducible refine' st_sqL ?k1 ?k2); (case k1 => walk_at "sq")) | with_reducible refine st_sqS ?_
  | with_reducible refine st_seq ?_ | with_reducible refine st_asg ?_
  | ((with_reducible refine' st_var ?k1 ?k2); (case k1 => walk_at "get"))
  | with_reducible refine st_c ?_ | with_reducible refine st_op ?_
  | with_reducible refine st_cons ?_ | with_reducible refine st_nil ?_
  | ((with_reducible refine' st_name ?k1 ?k2); (case k1 => walk_at "put"))
  | with_reducible refine st_oI0 ?_ | with_reducible refine st_addI ?_
  | with_reducible refine st_call ?_ | with_reducible refine st_cb ?_ | with_reducible refine st_callK ?_
  | with_reducible refine st_test ?_ | with_reducible refine st_bl ?_ | with_reducible refine st_blq ?_
  | with_reducible refine st_not ?_
  | with_reducible refine st_tru ?_ | with_reducible refine st_tru_blq ?_
  | with_reducible refine st_notV ?_
  | with_reducible refine st_sl ?_ | with_reducible refine st_nopart ?_ | with_reducible refine st_part ?_ | with_reducible refine st_int ?_
  | with_reducible refine st_next ?_ | with_reducible refine st_break ?_ | with_reducible refine st_cont ?_
  | with_reducible refine st_for ?_ | with_reducible refine st_lc ?_
  | ((with_reducible refine' st_setat ?k1 ?k2 ?k3); (case k1 => walk_at "hp"); (case k2 => first | assumption | rfl))
  | with_reducible refine st_drop ?_ | with_reducible refine st_ret ?_ | with_reducible refine st_retN ?_ | with_reducible refine st_retF ?_
  | with_reducible refine st_neSame ?_ | with_reducible refine st_eqSame ?_
  | ((with_reducible refine' st_eqDiff ?k1 ?k2); (case k1 => decide +kernel)) | ((with_reducible refine' st_neDiff ?k1 ?k2); (case k1 => decide +kernel))
  | with_reducible refine st_ifS ?_ | with_reducible refine st_iteT ?_ | with_reducible refine st_iteF ?_ | with_reducible refine st_iteNT ?_ | with_reducible refine st_iteNF ?_
  | with_reducible refine st_gtup rfl ?_ | with_reducible refine st_glst rfl ?_ | with_reducible refine st_gnil ?_ | with_reducible refine st_gcons ?_ | with_reducible refine st_gsub ?_
  | with_reducible refine st_par ?_ | with_reducible refine st_iTup ?_ | with_reducible refine st_tupq ?_ | with_reducible refine st_iLst ?_ | with_reducible refine st_lsq ?_ | with_reducible refine st_wlsq ?_
  | with_reducible refine st_rng1 ?_ | with_reducible refine st_rng2 ?_ | ((with_reducible refine' st_rng1q ?k1 ?k2 ?k3); (case k1 => walk_at "sz"); (case k2 => walk_at "sz"))
  | ((with_reducible refine' st_rng2q ?k1 ?k2); (case k1 => (refine ⟨?_, ?_, ?_, ?_⟩ <;> walk_at "sz")))
  | ((with_reducible refine' st_par2 ?k1 ?k2 ?k3); (case k1 => walk_at "put"); (case k2 => walk_at "put"))
  | with_reducible refine st_un ?_ | with_reducible refine st_uI ?_
  | ((with_reducible refine' st_mulI ?k1 ?k2); (case k1 => first | with_reducible assumption | decide))
  | ((with_reducible refine' st_oI ?k1 ?k2); (case k1 => first | with_reducible assumption | omega | decide | (refine ⟨?_, ?_, ?_⟩ <;> first | decide | omega)))
  | with_reducible refine st_eqI ?_ | with_reducible refine st_neI ?_ | with_reducible refine st_eqS ?_ | with_reducible refine st_neS ?_
  | with_reducible refine st_abs ?_ | with_reducible refine st_max2 ?_ | with_reducible refine st_min2 ?_ | with_reducible refine st_toInt ?_ | with_reducible refine st_toIntB ?_ | with_reducible refine st_bool ?_
  | ((with_reducible refine' st_tuple ?k1 ?k2); (case k1 => walk_at "sq"))
  | ((with_reducible refine' st_list ?k1 ?k2); (case k1 => walk_at "sq"))
  | with_reducible refine st_tup ⟨by walk_at "sz", ?_⟩ | with_reducible refine st_lst ?_ | with_reducible refine st_lstM ?_ | with_reducible refine st_tup ?_
  | ((with_reducible refine' st_sz ?k1 ?k2); (case k1 => walk_at "sz"))
  | with_reducible refine st_bm ?_ | with_reducible refine st_bm0 ?_
  | with_reducible refine st_fstr ?_ | with_reducible refine st_js ?_ | with_reducible refine st_jsn ?_ | with_reducible refine st_fmt ?_
  | with_reducible refine st_raise ?_ | with_reducible refine st_raise1 ?_ | with_reducible refine st_raise2 ?_ | with_reducible refine st_fld ?_ | with_reducible refine st_setF ?_ | with_reducible refine st_mk ?_ | with_reducible refine st_meth ?_ | with_reducible refine st_prop ?_ | with_reducible refine st_truO ?_ | with_reducible refine st_opO ?_
  | ((with_reducible refine' st_fldO ?fa1 ?fa2 ?fa3); (case fa1 => simp); (case fa2 => walk_at "lk"))
  | ((with_reducible refine' st_fldR ?fb1 ?fb2 ?fb3 ?fb4); (case fb1 => walk_at "hp"); (case fb2 => simp); (case fb3 => walk_at "lk"))
  | ((with_reducible refine' st_setFq ?fc1 ?fc2 ?fc3 ?fc4); (case fc1 => walk_at "hp"); (case fc2 => simp); (case fc3 => first | decide | simp); (try simp +decide only [stF, if_false, if_true]))
  | ((with_reducible refine' st_methO ?fd1 ?fd2); (case fd1 => walk_at "lk"))
  | ((with_reducible refine' st_frz ?k1 ?k2 ?k3 ?k4); (case k1 => walk_at "get"); (case k2 => walk_at "hp"); (case k3 => walk_at "put"))
  | ((with_reducible refine' st_tyL ?k1 ?k2); (case k1 => walk_at "hp"))
  | ((with_reducible refine' st_append ?k1 ?k2 ?k3); (case k1 => walk_at "hp"); (case k2 => walk_at "sz"))
  | with_reducible refine st_dget ?_ | with_reducible refine st_din ?_ | with_reducible refine st_dget1 ?_ | with_reducible refine st_dget2 ?_ | with_reducible refine st_dnew ?_ | with_reducible refine st_dput ?_ | with_reducible refine st_par3 ?_
  | ((with_reducible refine' st_isDD ?k1 ?k2); (case k1 => walk_at "hp"))
  | ((with_reducible refine' st_dinq ?k1 ?k2 ?k3); (case k1 => walk_at "hp"); (case k2 => rfl))
  | ((with_reducible refine' st_par3q ?k1 ?k2 ?k3 ?k4); (case k1 => walk_at "put"); (case k2 => walk_at "put"); (case k3 => walk_at "put"))
  | ((with_reducible refine' st_slL ?k1 ?k2); (case k1 => walk_at "sq")) | with_reducible refine st_slT ?_
  | ((with_reducible refine' st_ix ?k1 ?k2 ?k3); (case k1 => walk_at "sq"); (case k2 => first | assumption | rfl)))
local macro_rules | `(tactic| walk_at "z1") => `(tactic| first
  | with_reducible refine st_and ?_ | with_reducible refine st_or ?_ | with_reducible refine st_andV ?_ | with_reducible refine st_orV ?_ | with_reducible refine st_if ?_
  | ((with_reducible refine' st_len ?k1 ?k2); (case k1 => walk_at "sq"))
  | ((with_reducible refine' st_addL ?k1 ?k2 ?k3 ?k4); (case k1 => walk_at "sq"); (case k2 => walk_at "sq"); (case k3 => walk_at "sz"))
  | ((with_reducible refine' st_addT ?k1 ?k2); (case k1 => walk_at "sz")))
local macro_rules | `(tactic| walk_at "d1") => `(tactic| first | walk_at "b1" | walk_at "z1")
local macro_rules | `(tactic| walk_at "d") => `(tactic| repeat walk_at "d1")

theorem divW {i m : Int} (h0 : 0 < m) (h1 : m < 2 ^ 64) : CDivW i m := wide_div (b := 64) h0 (by omega) (by decide) (by decide)
theorem mulW64 {i j : Int} (h1 : i.natAbs < 2 ^ 64) (h2 : j.natAbs < 2 ^ 64) : CMulX i j := mulx_ok h1 h2 (by decide)

/-! ### drawing: great digits, then mixed ones -/
/-- drawn at p, after at most N draws -/
def Drw (G : HH) (p : Addr) (N : Nat) : Prop := ∃ x m n : Int, G p = some (.lst [.int x, .int m, .int n]) ∧ 0 ≤ x ∧ 0 ≤ m ∧ m < 2305843009213693951 ∧ 0 ≤ n ∧ n ≤ (N : Int)
theorem Drw.mono {G : HH} {p : Addr} {N M : Nat} (h : Drw G p N) (l : N ≤ M) : Drw G p M := by
  obtain ⟨x, m, n, h1, h2, h3, h4, h5, h6⟩ := h
  exact ⟨x, m, n, h1, h2, h3, h4, h5, by omega⟩
theorem Drw.at {G G' : HH} {p : Addr} {N : Nat} (h : Drw G p N) (e : G' p = G p) : Drw G' p N := by
  obtain ⟨x, m, n, h1, h2⟩ := h
  exact ⟨x, m, n, by rw [e]; exact h1, h2⟩
theorem Drw.ne {G : HH} {p q : Addr} {N : Nat} (h : Drw G p N) (e : G q = none) : p ≠ q := by
  obtain ⟨x, m, n, h1, h2⟩ := h
  intro z; rw [z, e] at h1; cases h1
theorem Drw.some {G : HH} {p : Addr} {N : Nat} (h : Drw G p N) : G p ≠ none := by
  obtain ⟨x, m, n, h1, h2⟩ := h
  rw [h1]; simp
theorem Drw.put {G : HH} {p q : Addr} {N : Nat} {o : HOD} (h : Drw G p N) (e : p ≠ q) : Drw (gput G q o) p N := h.at (gput_ne e)
theorem Drw.del {G : HH} {p q : Addr} {N : Nat} (h : Drw G p N) (e : p ≠ q) : Drw (gdel G q) p N := h.at (gdel_ne e)
def N_law_draws : List Str := ["_law_script", "_law_cell", "_law_great", "_law_mixed"]
def t_law_drawsQ (c1 c2 c3 c4 : Int) : TSD := (dSeq (dPar 2 3 (dCons (dC (.int 0)) (dCons (dOp aAny (dC (.int c1)) (dOp mAny (dC (.int c2)) (dCB kLen (dCons (dVar 0) dNil)))) dNil)))
  (dSeq (dFor (iLstD (dSl (dVar 0) dNoPart (dPart (dC (.int 60))))) (gdName 1)
  (dSeq (dAsg (dOp aMod (dOp aAny (dOp aAny (dOp aAny (dOp mAny (dVar 3) (dC (.int 1000003))) (dOp mAny (dC (.int 2)) (dCB kAbs (dCons (dVar 1) dNil)))) (dCB kInt (dCons (dOp cLtI (dVar 1) (dC (.int 0))) dNil))) (dC (.int c3))) (dC (.int 2305843009213693951))) (gdName 3))
  (dIfS (dTest (dOp cGeI (dCB kAbs (dCons (dVar 1) dNil)) (dOp aPow (dC (.int 10)) (dC (.int 18)))))
  (dAsg (dOp aAny (dOp mAny (dVar 2) (dC (.int c4))) (dCB kAbs (dCons (dVar 1) dNil))) (gdName 2))
  dNext)))
  (dRet (dLstM (dCons (dVar 2) (dCons (dVar 3) (dCons (dC (.int 0)) dNil)))))))
def sp_law_draws : SpD := fun ds G Q _ => ∃ ns : List Int, ds = [.wls (ns.map D.int)] ∧ ns.length ≤ 63 ∧ Bits ns ∧ ∀ p G', G p = none → Drw G' p 0 → But p G G' → Q (.ref p) G'
theorem len_law_draws : ∀ ds G Q E, sp_law_draws ds G Q E → ds.length = 1 := by rintro ds G Q E ⟨n, rfl, _⟩; rfl
theorem cutD_map {α : Type} {c : α → D} {xs : List α} {lo hi : Option Int} : dcut (xs.map c) lo hi = ((xs.drop (HT.sIx xs.length 0 lo)).take (HT.sIx xs.length xs.length hi - HT.sIx xs.length 0 lo)).map c := by
  unfold dcut
  rw [List.length_map, ← List.map_drop, ← List.map_take]
/-- as a name of its own, so that no arithmetic looks into it -/
@[irreducible] def Fit (x : Int) (b : Nat) : Prop := x.natAbs < 2 ^ (BB + b)
theorem Fit.of {x : Int} {b : Nat} (h : x.natAbs < 2 ^ (BB + b)) : Fit x b := by unfold Fit; exact h
theorem Fit.to {x : Int} {b : Nat} (h : Fit x b) : x.natAbs < 2 ^ (BB + b) := by unfold Fit at h; exact h
theorem Fit.bits {ns : List Int} (h : Bits ns) {z : Int} (hz : z ∈ ns) : Fit z 0 := by unfold Fit; rw [Nat.add_zero]; exact h z hz
theorem Fit.le {x : Int} {b c : Nat} (h : Fit x b) (l : b ≤ c) : Fit x c := .of (Nat.lt_of_lt_of_le h.to (Nat.pow_le_pow_right (by decide) (by omega)))
theorem Fit.zero {b : Nat} : Fit 0 b := .of (Nat.pos_of_ne_zero (by simp))
theorem great_next {x z c : Int} {b : Nat} (hc : 0 ≤ c ∧ c ≤ 29) (h0 : 0 ≤ x) (h1 : Fit x b) (h2 : Fit z 0) : Fit (x * c + (z.natAbs : Int)) (b + 5) := by
  unfold Fit at *
  rw [Nat.add_zero] at h2
  have e : 2 ^ (BB + (b + 5)) = 2 ^ (BB + b) * 32 := by rw [← Nat.add_assoc, Nat.pow_add]
  have l : 2 ^ BB ≤ 2 ^ (BB + b) := Nat.pow_le_pow_right (by decide) (by omega)
  rw [e]
  generalize 2 ^ (BB + b) = B at *
  generalize 2 ^ BB = A at *
  have a1 := Int.mul_nonneg h0 hc.1
  have a2 := Int.mul_le_mul_of_nonneg_left hc.2 h0
  omega
theorem mul_two_bb {z : Int} (h : Fit z 0) : CMulX 2 (z.natAbs : Int) := by
  refine mulx_ok (a := 2) (b := BB) (by decide) (by have h := h.to; rw [Nat.add_zero] at h; rw [Int.natAbs_natCast]; exact h) ?_
  show 2 + 1048576 ≤ 134217728
  decide
theorem mul_great_bb {x c : Int} {k : Nat} (hc : 0 ≤ c ∧ c ≤ 29) (h : Fit x (k * 5)) (hk : k ≤ 63) : CMulX x c := by
  refine mulx_ok (a := BB + k * 5) (b := 5) h.to (by omega) ?_
  show 1048576 + k * 5 + 5 ≤ 134217728
  omega
theorem vc_law_drawsQ (c1 c2 c3 c4 : Int) (k1 : 0 ≤ c1 ∧ c1 < 2 ^ 40) (k2 : 0 ≤ c2 ∧ c2 < 2 ^ 40) (k3 : 0 ≤ c3 ∧ c3 < 2 ^ 40) (k4 : 0 ≤ c4 ∧ c4 ≤ 29) : ∀ ds G Q EX, sp_law_draws ds G Q EX → t_law_drawsQ c1 c2 c3 c4 { nx := fun _ G' => Q .non G', rt := Q, ex := fun x _ G' => EX x G' } (startD N_law_draws ds) G := by
  rintro ds G Q EX ⟨ns, rfl, h1, hbt, hq⟩
  show t_law_drawsQ c1 c2 c3 c4 _ [some (D.wls (ns.map D.int)), none, none, none] _
  unfold t_law_drawsQ
  walk_at "d"
  rw [List.length_map]
  refine st_mulI (mulW64 (by omega) (by omega)) ?_
  walk_at "d"
  rw [cutD_map]
  have hcl : ((ns.drop (HT.sIx ns.length 0 none)).take (HT.sIx ns.length ns.length (some 60) - HT.sIx ns.length 0 none)).length ≤ 63 := by
    rw [List.length_take, List.length_drop]; omega
  have hcm : ∀ z ∈ (ns.drop (HT.sIx ns.length 0 none)).take (HT.sIx ns.length ns.length (some 60) - HT.sIx ns.length 0 none), Fit z 0 := fun z hz => Fit.bits hbt (List.mem_of_mem_drop (List.mem_of_mem_take hz))
  generalize (ns.drop (HT.sIx ns.length 0 none)).take (HT.sIx ns.length ns.length (some 60) - HT.sIx ns.length 0 none) = cl at hcl hcm
  refine for_map (fun pre σ G' => ∃ v x m : Int, ∃ w, σ = [some (.wls (ns.map D.int)), w, some (.int x), some (.int m)] ∧ G' = G ∧ 0 ≤ x ∧ Fit x (pre.length * 5) ∧ 0 ≤ m ∧ m < 2305843009213693951) ?_ ⟨0, 0, _, _, rfl, rfl, by omega, ?_, ?_, ?_⟩ ?_ ?_
  · rintro pre σ G' ⟨v, x, m, w, rfl, rfl, hx⟩
    exact LsW.lst _
  · exact Fit.zero
  · have := Int.mul_nonneg k2.1 (show (0 : Int) ≤ (ns.length : Int) by omega)
    omega
  · have := Int.mul_le_mul (a := c2) (b := (ns.length : Int)) (c := 2 ^ 40) (d := 63) (by omega) (by omega) (by omega) (by decide)
    omega
  · rintro pre a post σ G' e ⟨v, x, m, w, rfl, rfl, hx0, hx1, hm0, hm1⟩
    have ha := hcm a (by rw [e]; simp)
    have hl : pre.length < 63 := by
      have := congrArg List.length e
      simp at this
      omega
    walk_at "d"
    refine st_mulI (mulW64 (by omega) (by decide)) ?_
    walk_at "d"
    refine st_mulI (mul_two_bb ha) ?_
    walk_at "d"
    obtain ⟨m2, em, hm2, hm3⟩ : ∃ m2 : Int, (m * 1000003 + 2 * (a.natAbs : Int) + (if decide (a < 0) then 1 else 0) + c3) % 2305843009213693951 = m2 ∧ 0 ≤ m2 ∧ m2 < 2305843009213693951 :=
      ⟨_, rfl, Int.emod_nonneg _ (by decide), Int.emod_lt_of_pos _ (by decide)⟩
    rw [em]
    walk_at "d"
    refine st_ite (fun _ => ?_) (fun _ => ?_)
    · walk_at "d"
      refine st_mulI (mul_great_bb k4 hx1 (by omega)) ?_
      walk_at "d"
      have := Int.mul_nonneg hx0 k4.1
      refine ⟨0, _, _, _, rfl, rfl, by omega, ?_, hm2, hm3⟩
      rw [List.length_append, Nat.add_mul]
      exact great_next k4 hx0 hx1 ha
    · walk_at "d"
      refine ⟨0, _, _, _, rfl, rfl, hx0, hx1.le ?_, hm2, hm3⟩
      rw [List.length_append]
      omega
  · rintro σ G' ⟨v, x, m, w, rfl, rfl, hx0, hx1, hm0, hm1⟩
    walk_at "d"
    intro p hp
    exact hq p _ hp ⟨x, m, 0, gput_same, hx0, hm0, hm1, by omega, by omega⟩ (But.put But.refl)
abbrev t_law_drawsP (c1 c2 c3 : Int) : TSD := t_law_drawsQ c1 c2 c3 29
theorem vc_law_drawsP (c1 c2 c3 : Int) (k1 : 0 ≤ c1 ∧ c1 < 2 ^ 40) (k2 : 0 ≤ c2 ∧ c2 < 2 ^ 40) (k3 : 0 ≤ c3 ∧ c3 < 2 ^ 40) : ∀ ds G Q EX, sp_law_draws ds G Q EX → t_law_drawsP c1 c2 c3 { nx := fun _ G' => Q .non G', rt := Q, ex := fun x _ G' => EX x G' } (startD N_law_draws ds) G := vc_law_drawsQ c1 c2 c3 29 k1 k2 k3 (by decide)
def N_law_next : List Str := ["_law_drawn", "_law_many", "_law_mixed", "_law_digit"]
def t_law_next : TSD := (dSeq (dIfS (dTest (dOp cGtI (dOp xAny (dVar 0) (dC (.int 0))) (dC (.int 0))))
  (dSeq (dAsg (dOp aMod (dCB kInt (dCons (dOp xAny (dVar 0) (dC (.int 0))) dNil)) (dVar 1)) (gdName 3))
  (dSeq (dAsg (dOp aDiv (dOp xAny (dVar 0) (dC (.int 0))) (dVar 1)) (gdSub (dVar 0) (dC (.int 0))))
  (dRet (dVar 3))))
  dNext)
  (dSeq (dAsg (dOp aAny (dOp xAny (dVar 0) (dC (.int 2))) (dC (.int 1))) (gdSub (dVar 0) (dC (.int 2))))
  (dSeq (dAsg (dOp aMod (dOp aAny (dCB kInt (dCons (dOp xAny (dVar 0) (dC (.int 1))) dNil)) (dOp mAny (dC (.int 11400714819323198485)) (dOp xAny (dVar 0) (dC (.int 2))))) (dC (.int 18446744073709551557))) (gdName 2))
  (dSeq (dAsg (dOp aMod (dOp mAny (dVar 2) (dOp aAny (dOp aMod (dVar 2) (dC (.int 4294967291))) (dC (.int 7)))) (dC (.int 2305843009213693951))) (gdName 2))
  (dRet (dOp aMod (dOp aDiv (dOp aMod (dOp mAny (dVar 2) (dVar 2)) (dC (.int 2305843009213693921))) (dC (.int 2048))) (dVar 1)))))))
def sp_law_next : SpD := fun ds G Q _ => ∃ (p : Addr) (m : Int) (N : Nat), ds = [.ref p, .int m] ∧ Drw G p N ∧ N ≤ 2 ^ 30 ∧ 0 < m ∧ m < 2 ^ 64 ∧
  ∀ r G', 0 ≤ r → r < m → Drw G' p (N + 1) → But p G G' → Q (.int r) G'
theorem len_law_next : ∀ ds G Q E, sp_law_next ds G Q E → ds.length = 2 := by rintro ds G Q E ⟨p, m, N, rfl, _⟩; rfl
theorem vc_law_next : ∀ ds G Q EX, sp_law_next ds G Q EX → t_law_next { nx := fun _ G' => Q .non G', rt := Q, ex := fun x _ G' => EX x G' } (startD N_law_next ds) G := by
  rintro ds G Q EX ⟨p, m, N, rfl, ⟨x, c, n, hp, hx, hc0, hc1, hn, hnN⟩, hN, hm, hm2, hq⟩
  show t_law_next _ [some (D.ref p), some (D.int m), none, none] _
  unfold t_law_next
  walk_at "d"
  refine st_ite (fun hx0 => ?_) (fun hx0 => ?_)
  · walk_at "d"
    refine st_oI (divW hm hm2) ?_
    walk_at "d"
    refine hq _ _ (Int.emod_nonneg _ (by omega)) (Int.emod_lt_of_pos _ hm) ⟨x / m, c, n, gput_same, Int.ediv_nonneg hx (by omega), hc0, hc1, hn, by omega⟩ ?_
    exact But.put But.refl
  · walk_at "d"
    refine st_mulI (mulW64 (by decide) (by omega)) ?_
    walk_at "d"
    obtain ⟨y1, ey, hy1, hy2⟩ : ∃ y1 : Int, (c + 11400714819323198485 * (n + 1)) % 18446744073709551557 = y1 ∧ 0 ≤ y1 ∧ y1 < 18446744073709551557 :=
      ⟨_, rfl, Int.emod_nonneg _ (by decide), Int.emod_lt_of_pos _ (by decide)⟩
    rw [ey]
    refine st_mulI (mulW64 (by omega) (by omega)) ?_
    walk_at "d"
    obtain ⟨y2, ey2, hy3, hy4⟩ : ∃ y2 : Int, y1 * (y1 % 4294967291 + 7) % 2305843009213693951 = y2 ∧ 0 ≤ y2 ∧ y2 < 2305843009213693951 :=
      ⟨_, rfl, Int.emod_nonneg _ (by decide), Int.emod_lt_of_pos _ (by decide)⟩
    rw [ey2]
    refine st_mulI (mulW64 (by omega) (by omega)) ?_
    walk_at "d"
    refine st_oI (divW (by decide) (by decide)) ?_
    walk_at "d"
    exact hq _ _ (Int.emod_nonneg _ (by omega)) (Int.emod_lt_of_pos _ hm) ⟨x, c, n + 1, gput_same, hx, hc0, hc1, by omega, by omega⟩ (But.put But.refl)
def N_law_one : List Str := ["_law_drawn", "_law_items"]
def t_law_one : TSD := (dRet (dOp xAny (dVar 1) (dCall sp_law_next (dCons (dVar 0) (dCons (dCB kLen (dCons (dVar 1) dNil)) dNil)))))
def sp_law_one : SpD := fun ds G Q _ => ∃ (p : Addr) (x : D) (xs : List D) (N : Nat), ds = [.ref p, x] ∧ Drw G p N ∧ N ≤ 2 ^ 30 ∧ 0 < xs.length ∧ xs.length < 2 ^ 60 ∧ (∀ G', But p G G' → Sq G' x xs) ∧
  ∀ d G', d ∈ xs → Drw G' p (N + 1) → But p G G' → Q d G'
theorem len_law_one : ∀ ds G Q E, sp_law_one ds G Q E → ds.length = 2 := by rintro ds G Q E ⟨p, m, N, xs, rfl, _⟩; rfl
theorem vc_law_one : ∀ ds G Q EX, sp_law_one ds G Q EX → t_law_one { nx := fun _ G' => Q .non G', rt := Q, ex := fun x _ G' => EX x G' } (startD N_law_one ds) G := by
  rintro ds G Q EX ⟨p, x, xs, N, rfl, hd, hN, h0, h1, hs, hq⟩
  show t_law_one _ [some (D.ref p), some x] _
  unfold t_law_one
  walk_at "d"
  refine st_len (hs _ But.refl) ?_
  walk_at "d"
  refine ⟨p, xs.length, N, rfl, hd, hN, by omega, by omega, fun r G' r0 r1 hd' hb => ?_⟩
  obtain ⟨j, rfl⟩ := Int.eq_ofNat_of_zero_le r0
  have hj : j < xs.length := by omega
  exact st_ix (hs _ hb) (atI_nat (List.getElem?_eq_getElem hj)) (hq _ _ (List.getElem_mem hj) hd' hb)

theorem st_nextq {G : HH} {Q : QD} {E : ED} {p : Addr} {m : Int} {N : Nat} (h : Drw G p N) (hN : N ≤ 2 ^ 30) (h0 : 0 < m) (h1 : m < 2 ^ 64) (k : ∀ (r : Nat) G', (r : Int) < m → Drw G' p (N + 1) → But p G G' → Q (.int (r : Int)) G') : sp_law_next [.ref p, .int m] G Q E :=
  ⟨p, m, N, rfl, h, hN, h0, h1, fun r G' r0 r1 hd hb => by
    obtain ⟨j, rfl⟩ := Int.eq_ofNat_of_zero_le r0
    exact k j G' r1 hd hb⟩
theorem st_oneL {G : HH} {Q : QD} {E : ED} {p : Addr} {xs : List D} {N : Nat} (h : Drw G p N) (hN : N ≤ 2 ^ 30) (h0 : 0 < xs.length ∧ xs.length < 2 ^ 60) (k : ∀ d G', d ∈ xs → Drw G' p (N + 1) → But p G G' → Q d G') : sp_law_one [.ref p, .lst xs] G Q E :=
  ⟨p, _, xs, N, rfl, h, hN, h0.1, h0.2, fun _ _ => .lst xs, k⟩
/-- a comprehension over a range whose elements are drawn -/
theorem lc_drw {σ : SD} {G : HH} {Q : QD} {J : Nat} {g : Tgt} {te : TED} {vs : List Nat} {p : Addr} {N : Nat} (K : Nat) (P : D → Prop) (hd : Drw G p N) (hl : J ≤ sizeLine)
    (he : ∀ (a : Nat), a < J → ∀ (G' : HH) (M : Nat), Drw G' p M → M + K ≤ N + K * J → (∀ b, b ≠ p → G b ≠ none → G' b = G b) → ∃ σ2, g.put (.int (a : Int)) (wipeD σ vs) = some σ2 ∧
      ∀ Q' : QD, (∀ d G'', P d → Drw G'' p (M + K) → But p G' G'' → Q' d G'') → te σ2 G' Q' (fun _ _ => False))
    (hq : ∀ ds G', ds.length = J → (∀ d ∈ ds, P d) → Drw G' p (N + K * J) → But p G G' → Q (.lst ds) G') : LcG true (rgItems 0 J) okT g dYes te vs σ G Q := by
  have e : rgItems 0 J = (List.range J).map fun a : Nat => D.int (a : Int) := by
    unfold rgItems
    refine List.map_congr_left fun a _ => ?_
    rw [Int.zero_add]
  rw [e]
  refine lc_dr (fun G M => Drw G p M) (fun e h => h.at e) (fun h => h.some) K P hd (fun _ _ => trivial) (by rw [List.length_range]; exact hl) (fun a ha G' M h1 h2 h3 => he a (List.mem_range.mp ha) G' M h1 (by rw [List.length_range] at h2; exact h2) h3) (fun ds G' h1 h2 h3 h4 => hq ds G' (by rw [List.length_range] at h1; exact h1) h2 (by rw [List.length_range] at h3; exact h3) h4)

abbrev t_law_draws : TSD := t_law_drawsQ 29220 37 19 23
theorem vc_law_draws : ∀ ds G Q EX, sp_law_draws ds G Q EX → t_law_draws { nx := fun _ G' => Q .non G', rt := Q, ex := fun x _ G' => EX x G' } (startD N_law_draws ds) G := vc_law_drawsQ 29220 37 19 23 (by decide) (by decide) (by decide) (by decide)

/-! ### texts in rows of texts -/
theorem scs_strs : ∀ l : List Str, scs (l.map D.str) = some (l.map V.str)
  | [] => rfl
  | x :: l => by simp [scs, D.sc, scs_strs l]
theorem inV_strs (a : Str) : ∀ l : List Str, inV (.str a) (l.map V.str) = decide (a ∈ l)
  | [] => rfl
  | x :: l => by
    have ih := inV_strs a l
    unfold inV at ih ⊢
    rw [List.map_cons, List.any_cons, ih]
    show ((x == a) || _) = _
    by_cases h : x = a
    · subst h; simp
    · have h' : ¬ a = x := fun z => h z.symm
      simp [h, h']
theorem st_inT {G : HH} {Q : QD} {a : Str} {y : D} {l : List Str} (h : Sq G y (l.map D.str)) (q : Q (.bl (decide (a ∈ l))) G) : iAny false (.str a) y G Q :=
  .inl ⟨_, _, _, h, rfl, scs_strs l, by rw [if_neg Bool.false_ne_true, inV_strs]; exact q⟩
theorem st_notInT {G : HH} {Q : QD} {a : Str} {y : D} {l : List Str} (h : Sq G y (l.map D.str)) (q : Q (.bl (!decide (a ∈ l))) G) : iAny true (.str a) y G Q :=
  .inl ⟨_, _, _, h, rfl, scs_strs l, by rw [if_pos rfl, inV_strs]; exact q⟩
theorem st_inS1 {G : HH} {Q : QD} {x a0 : Str} (q : Q (.bl (decide (x ∈ ([a0] : List Str)))) G) : iAny false (.str x) (.tup [.str a0]) G Q := st_inT (l := [a0]) (.tup _) q
theorem st_notInS1 {G : HH} {Q : QD} {x a0 : Str} (q : Q (.bl (!decide (x ∈ ([a0] : List Str)))) G) : iAny true (.str x) (.tup [.str a0]) G Q := st_notInT (l := [a0]) (.tup _) q
theorem st_inS2 {G : HH} {Q : QD} {x a0 a1 : Str} (q : Q (.bl (decide (x ∈ ([a0, a1] : List Str)))) G) : iAny false (.str x) (.tup [.str a0, .str a1]) G Q := st_inT (l := [a0, a1]) (.tup _) q
theorem st_notInS2 {G : HH} {Q : QD} {x a0 a1 : Str} (q : Q (.bl (!decide (x ∈ ([a0, a1] : List Str)))) G) : iAny true (.str x) (.tup [.str a0, .str a1]) G Q := st_notInT (l := [a0, a1]) (.tup _) q
theorem st_inS3 {G : HH} {Q : QD} {x a0 a1 a2 : Str} (q : Q (.bl (decide (x ∈ ([a0, a1, a2] : List Str)))) G) : iAny false (.str x) (.tup [.str a0, .str a1, .str a2]) G Q := st_inT (l := [a0, a1, a2]) (.tup _) q
theorem st_notInS3 {G : HH} {Q : QD} {x a0 a1 a2 : Str} (q : Q (.bl (!decide (x ∈ ([a0, a1, a2] : List Str)))) G) : iAny true (.str x) (.tup [.str a0, .str a1, .str a2]) G Q := st_notInT (l := [a0, a1, a2]) (.tup _) q
theorem st_inS4 {G : HH} {Q : QD} {x a0 a1 a2 a3 : Str} (q : Q (.bl (decide (x ∈ ([a0, a1, a2, a3] : List Str)))) G) : iAny false (.str x) (.tup [.str a0, .str a1, .str a2, .str a3]) G Q := st_inT (l := [a0, a1, a2, a3]) (.tup _) q
theorem st_notInS4 {G : HH} {Q : QD} {x a0 a1 a2 a3 : Str} (q : Q (.bl (!decide (x ∈ ([a0, a1, a2, a3] : List Str)))) G) : iAny true (.str x) (.tup [.str a0, .str a1, .str a2, .str a3]) G Q := st_notInT (l := [a0, a1, a2, a3]) (.tup _) q
theorem st_inS5 {G : HH} {Q : QD} {x a0 a1 a2 a3 a4 : Str} (q : Q (.bl (decide (x ∈ ([a0, a1, a2, a3, a4] : List Str)))) G) : iAny false (.str x) (.tup [.str a0, .str a1, .str a2, .str a3, .str a4]) G Q := st_inT (l := [a0, a1, a2, a3, a4]) (.tup _) q
theorem st_notInS5 {G : HH} {Q : QD} {x a0 a1 a2 a3 a4 : Str} (q : Q (.bl (!decide (x ∈ ([a0, a1, a2, a3, a4] : List Str)))) G) : iAny true (.str x) (.tup [.str a0, .str a1, .str a2, .str a3, .str a4]) G Q := st_notInT (l := [a0, a1, a2, a3, a4]) (.tup _) q
theorem st_inS6 {G : HH} {Q : QD} {x a0 a1 a2 a3 a4 a5 : Str} (q : Q (.bl (decide (x ∈ ([a0, a1, a2, a3, a4, a5] : List Str)))) G) : iAny false (.str x) (.tup [.str a0, .str a1, .str a2, .str a3, .str a4, .str a5]) G Q := st_inT (l := [a0, a1, a2, a3, a4, a5]) (.tup _) q
theorem st_notInS6 {G : HH} {Q : QD} {x a0 a1 a2 a3 a4 a5 : Str} (q : Q (.bl (!decide (x ∈ ([a0, a1, a2, a3, a4, a5] : List Str)))) G) : iAny true (.str x) (.tup [.str a0, .str a1, .str a2, .str a3, .str a4, .str a5]) G Q := st_notInT (l := [a0, a1, a2, a3, a4, a5]) (.tup _) q

/-! more short ways -/
local macro_rules | `(tactic| walk_at "d1") => `(tactic| first | walk_at "b1" | walk_at "x1" | walk_at "z1")
local macro_rules | `(tactic| walk_at "ev") => `(tactic| (intro Qe Ee qe; (repeat walk_at "d1"); exact qe))
local macro_rules | `(tactic| walk_at "evh") => `(tactic| (intro he Qe Ee qe; (repeat walk_at "d1"); exact qe))
local macro_rules | `(tactic| walk_at "x1") => `(tactic| first
  | ((with_reducible refine' st_andE ?w1 ?w2 ?w3); (case w1 => walk_at "ev"); (case w2 => walk_at "evh"))
  | ((with_reducible refine' st_orE ?w1 ?w2 ?w3); (case w1 => walk_at "ev"); (case w2 => walk_at "evh"))
  | ((with_reducible refine' st_andVE ?w1 ?w2 ?w3); (case w1 => walk_at "ev"); (case w2 => walk_at "evh"))
  | ((with_reducible refine' st_orVE ?w1 ?w2 ?w3); (case w1 => walk_at "ev"); (case w2 => walk_at "evh"))
  | ((with_reducible refine' st_ifE D.int ?w1 ?w2 ?w3 ?w4); (case w1 => walk_at "ev"); (case w2 => walk_at "evh"); (case w3 => walk_at "evh"))
  | ((with_reducible refine' st_ifE D.str ?w1 ?w2 ?w3 ?w4); (case w1 => walk_at "ev"); (case w2 => walk_at "evh"); (case w3 => walk_at "evh"))
  | ((with_reducible refine' st_ifE D.bl ?w1 ?w2 ?w3 ?w4); (case w1 => walk_at "ev"); (case w2 => walk_at "evh"); (case w3 => walk_at "evh"))
  | ((with_reducible refine' st_ifE D.tup ?w1 ?w2 ?w3 ?w4); (case w1 => walk_at "ev"); (case w2 => walk_at "evh"); (case w3 => walk_at "evh"))
  | ((with_reducible refine' st_addLm ?w1 ?w2); (case w1 => walk_at "sz"))
  | ((with_reducible refine' st_addTm ?w1 ?w2); (case w1 => walk_at "sz"))
  | with_reducible refine st_lenLm ?_ | with_reducible refine st_lenTm ?_ | with_reducible refine st_lenWm ?_ | with_reducible refine st_tyS ?_ | with_reducible refine st_strq ?_ | walk_at "isi"
  | ((with_reducible refine' st_chainE ?w1 ?w2 ?w3 ?w4 ?w5 ?w6); (case w1 => walk_at "ev"); (case w2 => walk_at "ev"); (case w3 => walk_at "ev"); (case w4 => (intro Qe qe; walk_at "d1"; exact qe)); (case w5 => (intro he Qe qe; walk_at "d1"; exact qe))) | with_reducible refine st_neLI ?_ | with_reducible refine st_eqLI ?_ | with_reducible refine st_bits ?_ | with_reducible refine st_callV ?_ | with_reducible refine st_new ?_ | with_reducible refine st_insQ ?_ | with_reducible refine st_methV ?_ | with_reducible refine st_mkK ?_
  | with_reducible refine st_mulB ?_ | with_reducible refine st_reprB ?_ | ((with_reducible refine' st_reprI ?w1 ?w2); (case w1 => omega))
  | ((with_reducible refine' st_inT ?w1 ?w2); (case w1 => walk_at "sq"))
  | ((with_reducible refine' st_notInT ?w1 ?w2); (case w1 => walk_at "sq")))
local macro_rules | `(tactic| walk_at "x1") => `(tactic| first | with_reducible refine st_prs ?_ | with_reducible refine st_eqB ?_ | with_reducible refine st_neB ?_ | with_reducible refine st_prn ?_ | with_reducible refine st_methVK ?_)
local macro_rules | `(tactic| walk_at "x1") => `(tactic| first | with_reducible refine st_ne00 ?_ | with_reducible refine st_eq00 ?_)
local macro_rules | `(tactic| walk_at "x1") => `(tactic| first | with_reducible refine st_inS1 ?_ | with_reducible refine st_notInS1 ?_ | with_reducible refine st_inS2 ?_ | with_reducible refine st_notInS2 ?_ | with_reducible refine st_inS3 ?_ | with_reducible refine st_notInS3 ?_ | with_reducible refine st_inS4 ?_ | with_reducible refine st_notInS4 ?_ | with_reducible refine st_inS5 ?_ | with_reducible refine st_notInS5 ?_ | with_reducible refine st_inS6 ?_ | with_reducible refine st_notInS6 ?_)
local macro_rules | `(tactic| walk_at "x1") => `(tactic| first | with_reducible refine st_tryA ?_ | with_reducible refine st_tryO ?_ | with_reducible refine st_excF ?_ | with_reducible refine st_iEn ?_ | with_reducible refine st_enT ?_ | ((with_reducible refine' st_enL ?k1 ?k2); (case k1 => walk_at "sq")) | with_reducible refine st_rev ?_ | with_reducible refine st_revT ?_ | ((with_reducible refine' st_revL ?k1 ?k2); (case k1 => walk_at "sq")))
local macro_rules | `(tactic| walk_at "ok") => `(tactic| first | exact fun _ _ _ => trivial | exact fun _ _ _ => LsW.lst _ | exact fun _ _ _ => LsW.wls _ | exact fun _ _ hp => ok_put hp (by walk_at "sq"))
local macro_rules | `(tactic| walk_at "put1") => `(tactic| (refine ⟨_, rfl, ?_⟩; dsimp only [wipeD, Tgt.put, putL, Option.bind, List.set]))
local macro_rules | `(tactic| walk_at "el") => `(tactic| (intro ea eha ep eacc ehp; walk_at "put1"; walk_at "ev"))
local macro_rules | `(tactic| walk_at "el2") => `(tactic| (intro ea eha ep eacc ehp; walk_at "put1"; (refine' ⟨?wa, ?wb⟩); (case wa => walk_at "ev"); (case wb => walk_at "evh")))
local macro_rules | `(tactic| walk_at "lc") => `(tactic| first
  | ((with_reducible refine' lc_evYK D.str ?w1 ?w2 ?w3 ?w4); (case w1 => walk_at "ok"); (case w2 => walk_at "sz"); (case w3 => walk_at "el"))
  | ((with_reducible refine' lc_evYK D.bl ?w1 ?w2 ?w3 ?w4); (case w1 => walk_at "ok"); (case w2 => walk_at "sz"); (case w3 => walk_at "el"))
  | ((with_reducible refine' lc_evYK D.int ?w1 ?w2 ?w3 ?w4); (case w1 => walk_at "ok"); (case w2 => walk_at "sz"); (case w3 => walk_at "el"))
  | ((with_reducible refine' lc_evY ?w1 ?w2 ?w3 ?w4); (case w1 => walk_at "ok"); (case w2 => walk_at "sz"); (case w3 => walk_at "el"))
  | ((with_reducible refine' lc_evK D.str ?w1 ?w2 ?w3 ?w4); (case w1 => walk_at "ok"); (case w2 => walk_at "sz"); (case w3 => walk_at "el2"))
  | ((with_reducible refine' lc_evK D.bl ?w1 ?w2 ?w3 ?w4); (case w1 => walk_at "ok"); (case w2 => walk_at "sz"); (case w3 => walk_at "el2"))
  | ((with_reducible refine' lc_evK D.int ?w1 ?w2 ?w3 ?w4); (case w1 => walk_at "ok"); (case w2 => walk_at "sz"); (case w3 => walk_at "el2"))
  | ((with_reducible refine' lc_ev ?w1 ?w2 ?w3 ?w4); (case w1 => walk_at "ok"); (case w2 => walk_at "sz"); (case w3 => walk_at "el2")))
local macro_rules | `(tactic| walk_at "lcs") => `(tactic| first
  | refine lc_of [_, _, _, _] D.str rfl ?_ | refine lc_of [_, _] D.str rfl ?_ | refine lc_of [_, _, _] D.str rfl ?_ | refine lc_of [_] D.str rfl ?_
  | refine lc_of [_, _, _, _] D.int rfl ?_ | refine lc_of [_, _] D.int rfl ?_ | refine lc_of [_, _, _] D.int rfl ?_ | refine lc_of [_] D.int rfl ?_ | with_reducible refine lc_rg ?_)
local macro_rules | `(tactic| walk_at "x1") => `(tactic| ((with_reducible refine lc_mark ?_); first
  | walk_at "lc" | (walk_at "lcs"; walk_at "lc")); (try simp only [List.map_id']))
local macro_rules | `(tactic| walk_at "isi") => `(tactic| ((with_reducible refine st_isim ?_); first
  | ((with_reducible refine' st_isiI (b := true) ?w1 ?w2); (case w1 => with_unfolding_all rfl))
  | ((with_reducible refine' st_isiB (b := true) ?w1 ?w2); (case w1 => with_unfolding_all rfl))
  | ((with_reducible refine' st_isiS (b := true) ?w1 ?w2); (case w1 => with_unfolding_all rfl))
  | ((with_reducible refine' st_isiN (b := true) ?w1 ?w2); (case w1 => with_unfolding_all rfl))
  | ((with_reducible refine' st_isiT (b := true) ?w1 ?w2); (case w1 => with_unfolding_all rfl))
  | ((with_reducible refine' st_isiL (b := true) ?w1 ?w2); (case w1 => with_unfolding_all rfl))
  | ((with_reducible refine' st_isiI (b := false) ?w1 ?w2); (case w1 => with_unfolding_all rfl))
  | ((with_reducible refine' st_isiB (b := false) ?w1 ?w2); (case w1 => with_unfolding_all rfl))
  | ((with_reducible refine' st_isiS (b := false) ?w1 ?w2); (case w1 => with_unfolding_all rfl))
  | ((with_reducible refine' st_isiN (b := false) ?w1 ?w2); (case w1 => with_unfolding_all rfl))
  | ((with_reducible refine' st_isiT (b := false) ?w1 ?w2); (case w1 => with_unfolding_all rfl))
  | ((with_reducible refine' st_isiL (b := false) ?w1 ?w2); (case w1 => with_unfolding_all rfl))))
-- the start of a walk: walk_at "go NAME"
local macro_rules | `(tactic| walk_at $s:str) => do
  let t := s.getString
  if t.startsWith "go " then
    let x := (t.drop 3).toString
    let a := Lean.mkIdent (Lean.Name.mkSimple ("t_" ++ x))
    let n := Lean.mkIdent (Lean.Name.mkSimple ("N_" ++ x))
    `(tactic| (simp only [startD, $n:ident, List.map_cons, List.map_nil, List.length_cons, List.length_nil, List.cons_append, List.nil_append, List.replicate, Nat.reduceAdd, Nat.reduceSub]; unfold $a; walk_at "d"))
  else if t.startsWith "gi " then
    let x := (t.drop 3).toString
    let a := Lean.mkIdent (Lean.Name.mkSimple ("t_" ++ x))
    let n := Lean.mkIdent (Lean.Name.mkSimple ("N_" ++ x))
    `(tactic| (simp only [startD, $n:ident, List.map_cons, List.map_nil, List.length_cons, List.length_nil, List.cons_append, List.nil_append, List.replicate, Nat.reduceAdd, Nat.reduceSub]; unfold $a; walk_at "di"))
  else Lean.Macro.throwUnsupported
local macro_rules | `(tactic| walk_at "sl") => `(tactic| (dsimp only [setL, List.set]; walk_at "d"))
local macro_rules | `(tactic| walk_at "fin") => `(tactic| refine fin_set rfl ?_)
local macro_rules | `(tactic| walk_at "di") => `(tactic| repeat ((fail_if_success (with_reducible refine st_ifS ?_)); walk_at "d1"))
local macro_rules | `(tactic| walk_at "nope") => `(tactic| refine st_iteF' (by simp [*]) ?_)
local macro_rules | `(tactic| walk_at "yep") => `(tactic| refine st_iteT' (by simp [*]) ?_)

/-! ### any values: numbers, truths, None, texts, tuples and lists of such -/
mutual
def av (b : Nat) : Nat → D → Prop
  | _, .non => True
  | _, .bl _ => True
  | _, .int i => i.natAbs < b
  | _, .str x => PyData.strOk x = true
  | n + 1, .tup xs => avs b n xs
  | n + 1, .lst xs => avs b n xs
  | _, _ => False
def avs (b : Nat) : Nat → List D → Prop
  | _, [] => True
  | n, x :: xs => av b n x ∧ avs b n xs
end
mutual
theorem av_mono {b c n m : Nat} (hb : b ≤ c) (h : n ≤ m) : ∀ d : D, av b n d → av c m d
  | .non, _ => by cases m <;> simp [av]
  | .bl _, _ => by cases m <;> simp [av]
  | .int _, g => by cases n <;> cases m <;> simp only [av] at g ⊢ <;> omega
  | .str _, g => by cases n <;> cases m <;> simpa only [av] using g
  | .tup xs, g => by
    cases n with
    | zero => simp [av] at g
    | succ n =>
      cases m with
      | zero => omega
      | succ m => simp only [av] at g ⊢; exact avs_mono hb (by omega) xs g
  | .lst xs, g => by
    cases n with
    | zero => simp [av] at g
    | succ n =>
      cases m with
      | zero => omega
      | succ m => simp only [av] at g ⊢; exact avs_mono hb (by omega) xs g
  | .wls _, g => by cases n <;> simp [av] at g
  | .obj _ _ _, g => by cases n <;> simp [av] at g
  | .dct _ _, g => by cases n <;> simp [av] at g
  | .ref _, g => by cases n <;> simp [av] at g
  | .ty _, g => by cases n <;> simp [av] at g
  | .gv _, g => by cases n <;> simp [av] at g
  | .xe _ _ _ _, g => by cases n <;> simp [av] at g
theorem avs_mono {b c n m : Nat} (hb : b ≤ c) (h : n ≤ m) : ∀ ds : List D, avs b n ds → avs c m ds
  | [], _ => by simp [avs]
  | d :: ds, g => by
    simp only [avs] at g ⊢
    exact ⟨av_mono hb h d g.1, avs_mono hb h ds g.2⟩
end
mutual
theorem av_gd {b k : Nat} (hb : b ≤ 2 ^ k) : ∀ (n : Nat) (d : D), av b n d → gd n d ∧ sm k d
  | n, .non, _ => by cases n <;> simp [gd, sm]
  | n, .bl _, _ => by cases n <;> simp [gd, sm]
  | n, .int _, g => by cases n <;> simp only [av] at g <;> simp only [gd, sm] <;> exact ⟨trivial, Nat.lt_of_lt_of_le g hb⟩
  | n, .str _, g => by cases n <;> simp only [av] at g <;> simp only [gd, sm] <;> exact ⟨g, trivial⟩
  | 0, .tup _, g => by simp [av] at g
  | 0, .lst _, g => by simp [av] at g
  | n + 1, .tup xs, g => by simp only [av] at g; simp only [gd, sm]; exact avs_gd hb n xs g
  | n + 1, .lst xs, g => by simp only [av] at g; simp only [gd, sm]; exact avs_gd hb n xs g
  | n, .wls _, g => by cases n <;> simp [av] at g
  | n, .obj _ _ _, g => by cases n <;> simp [av] at g
  | n, .dct _ _, g => by cases n <;> simp [av] at g
  | n, .ref _, g => by cases n <;> simp [av] at g
  | n, .ty _, g => by cases n <;> simp [av] at g
  | n, .gv _, g => by cases n <;> simp [av] at g
  | n, .xe _ _ _ _, g => by cases n <;> simp [av] at g
theorem avs_gd {b k : Nat} (hb : b ≤ 2 ^ k) : ∀ (n : Nat) (ds : List D), avs b n ds → gds n ds ∧ sms k ds
  | n, [], _ => by simp [gds, sms]
  | n, d :: ds, g => by
    simp only [avs] at g
    simp only [gds, sms]
    have a := av_gd hb n d g.1
    have b := avs_gd hb n ds g.2
    exact ⟨⟨a.1, b.1⟩, a.2, b.2⟩
end
theorem avs_mem {b n : Nat} {d : D} : ∀ {ds : List D}, avs b n ds → d ∈ ds → av b n d
  | x :: xs, h, hm => by
    simp only [avs] at h
    rcases List.mem_cons.mp hm with rfl | hm
    · exact h.1
    · exact avs_mem h.2 hm
theorem avs_of {b n : Nat} : ∀ {ds : List D}, (∀ d ∈ ds, av b n d) → avs b n ds
  | [], _ => by simp [avs]
  | x :: xs, h => by simp only [avs]; exact ⟨h x (by simp), avs_of fun d hd => h d (by simp [hd])⟩
theorem bulk_pos (d : D) : 1 ≤ d.bulk := by cases d <;> simp [D.bulk]
theorem bulks_app : ∀ (xs ys : List D), bulks (xs ++ ys) = bulks xs + bulks ys
  | [], ys => by simp [bulks]
  | x :: xs, ys => by simp only [List.cons_append, bulks, bulks_app xs ys]; omega
theorem bulks_len : ∀ (xs : List D), 2 * xs.length ≤ bulks xs
  | [] => by simp
  | x :: xs => by
    have := bulks_len xs
    have := bulk_pos x
    simp only [bulks, List.length_cons]; omega
theorem bulks_mem {d : D} : ∀ {xs : List D}, d ∈ xs → d.bulk ≤ bulks xs
  | x :: xs, hm => by
    simp only [bulks]
    rcases List.mem_cons.mp hm with rfl | hm
    · omega
    · have := bulks_mem hm; omega
theorem bulks_sub {xs ys : List D} (h : List.Sublist xs ys) : bulks xs ≤ bulks ys := by
  induction h with
  | slnil => exact Nat.le_refl _
  | cons a _ ih => simp only [bulks]; omega
  | cons_cons a _ ih => simp only [bulks]; omega
theorem bulks_le_of {K : Nat} : ∀ {xs : List D}, (∀ d ∈ xs, d.bulk ≤ K) → bulks xs ≤ (K + 1) * xs.length
  | [], _ => by simp [bulks]
  | x :: xs, h => by
    have := h x (by simp)
    have := bulks_le_of (xs := xs) fun d hd => h d (by simp [hd])
    simp only [bulks, List.length_cons, Nat.mul_add]; omega
/-- any value, of depth n, its ints below b, and of such a bulk -/
structure Av (b n B : Nat) (d : D) : Prop where
  a : av b n d
  z : d.bulk ≤ B
theorem Av.mono {b c n m B C : Nat} {d : D} (h : Av b n B d) (k : b ≤ c) (l : n ≤ m) (j : B ≤ C) : Av c m C d := ⟨av_mono k l d h.a, Nat.le_trans h.z j⟩
theorem Av.rpr {b n B : Nat} {d : D} (h : Av b n B d) (hb : b ≤ 2 ^ 200) (l : n ≤ 60) : Rpr 200 B d := ⟨gd_mono l d (av_gd hb n d h.a).1, (av_gd hb n d h.a).2, h.z⟩
theorem Av.mem {b n B : Nat} {xs : List D} {d : D} (h : Av b (n + 1) B (.tup xs)) (m : d ∈ xs) : Av b n B d := by
  obtain ⟨a, z⟩ := h
  simp only [av] at a
  simp only [D.bulk] at z
  exact ⟨avs_mem a m, Nat.le_trans (bulks_mem m) (by omega)⟩
theorem Av.len {b n B : Nat} {xs : List D} (h : Av b n B (.tup xs)) : xs.length ≤ B := by
  have := h.z
  have := bulks_len xs
  simp only [D.bulk] at *
  omega
theorem Av.tup {b n B : Nat} {xs : List D} (h : ∀ d ∈ xs, av b n d) (l : bulks xs + 1 ≤ B) : Av b (n + 1) B (.tup xs) := ⟨by simp only [av]; exact avs_of h, by simpa only [D.bulk] using l⟩
theorem Av.lst {b n B : Nat} {xs : List D} (h : ∀ d ∈ xs, av b n d) (l : bulks xs + 1 ≤ B) : Av b (n + 1) B (.lst xs) := ⟨by simp only [av]; exact avs_of h, by simpa only [D.bulk] using l⟩
theorem Av.gds {b n B k : Nat} {xs : List D} (h : Av b n B (.tup xs)) (hb : b ≤ 2 ^ k) (l : n ≤ 60) : DL.gds 59 xs := by
  have := gd_mono l _ (av_gd hb n _ h.a).1
  rwa [gd_tup] at this
theorem av_items {b n : Nat} {xs : List D} (h : av b (n + 1) (.tup xs)) : ∀ d ∈ xs, av b n d := fun d m => avs_mem (by simpa only [av] using h) m
/-- what the walks ask of a value -/
abbrev Ok (d : D) : Prop := Av (2 ^ 1800) 40 70000 d
theorem Ok.mem {xs : List D} {d : D} (h : Ok (.tup xs)) (m : d ∈ xs) : Ok d := (Av.mem (n := 39) h m).mono (Nat.le_refl _) (by decide) (Nat.le_refl _)
theorem Ok.gds {xs : List D} (h : Ok (.tup xs)) : DL.gds 59 xs := Av.gds h (Nat.le_refl _) (by decide)
theorem Ok.split {d : D} (h : Ok d) : d = .non ∨ (∃ b, d = .bl b) ∨ (∃ i, d = .int i) ∨ (∃ x, d = .str x) ∨ (∃ xs, d = .lst xs) ∨ ∃ xs, d = .tup xs := by
  have a := h.a
  cases d with
  | non => exact .inl rfl
  | bl b => exact .inr (.inl ⟨b, rfl⟩)
  | int i => exact .inr (.inr (.inl ⟨i, rfl⟩))
  | str x => exact .inr (.inr (.inr (.inl ⟨x, rfl⟩)))
  | lst xs => exact .inr (.inr (.inr (.inr (.inl ⟨xs, rfl⟩))))
  | tup xs => exact .inr (.inr (.inr (.inr (.inr ⟨xs, rfl⟩))))
  | _ => simp [av] at a
/-- a tuple by its length -/
theorem two_split (xs : List D) : (∃ a b, xs = [a, b]) ∨ ((xs.length : Int) ≠ 2 ∧ ∀ a b, xs ≠ [a, b]) := by
  match xs with
  | [] => exact .inr ⟨by simp, by simp⟩
  | [_] => exact .inr ⟨by simp, by simp⟩
  | [a, b] => exact .inl ⟨a, b, rfl⟩
  | _ :: _ :: _ :: l => exact .inr ⟨by simp only [List.length_cons]; omega, by simp⟩
theorem three_split (xs : List D) : (∃ a b c, xs = [a, b, c]) ∨ ((xs.length : Int) ≠ 3 ∧ ∀ a b c, xs ≠ [a, b, c]) := by
  match xs with
  | [] => exact .inr ⟨by simp, by simp⟩
  | [_] => exact .inr ⟨by simp, by simp⟩
  | [_, _] => exact .inr ⟨by simp, by simp⟩
  | [a, b, c] => exact .inl ⟨a, b, c, rfl⟩
  | _ :: _ :: _ :: _ :: l => exact .inr ⟨by simp only [List.length_cons]; omega, by simp⟩
theorem gds_filter {n : Nat} {k : D → Bool} : ∀ {xs : List D}, gds n xs → gds n (xs.filter k)
  | [], _ => by simp [gds]
  | x :: xs, h => by
    simp only [gds] at h
    rw [List.filter_cons]
    split
    · simp only [gds]; exact ⟨h.1, gds_filter h.2⟩
    · exact gds_filter h.2
theorem filter_none {α : Type} (p : α → Bool) : ∀ xs : List α, (xs.filter fun x => !p x).isEmpty = xs.all p
  | [] => rfl
  | x :: xs => by
    rw [List.filter_cons, List.all_cons]
    cases p x
    · simp
    · simpa using filter_none p xs
section
variable {ok : HH → Prop} {tt : TTD} {te : TED} {vs : List Nat} {σ : SD} {G : HH} {Q : QD} {g : Tgt}
/-- [x for x in xs if ..] == [] -/
theorem lc_pick {xs : List D} (k : D → Bool) (hok : ∀ p acc, G p = none → ok (gput G p (.lst acc))) (hl : xs.length ≤ sizeLine)
    (hs : ∀ a, a ∈ xs → ∀ p acc, G p = none → ∃ σ2, g.put a (wipeD σ vs) = some σ2 ∧ EvT tt σ2 (gput G p (.lst acc)) (k a) ∧ EvE te σ2 (gput G p (.lst acc)) a)
    (hq : Q (.lst (xs.filter k)) G) : LcG true xs ok g tt te vs σ G Q :=
  lc_of xs id (List.map_id xs).symm (lc_ev (k := k) (f := id) hok hl (fun a ha p acc hp => by
    obtain ⟨σ2, h1, h2, h3⟩ := hs a ha p acc hp
    exact ⟨σ2, h1, h2, fun _ => h3⟩) (by rw [List.map_id]; exact hq))
/-- [f(x) for x in xs], truths -/
theorem lc_truths {xs : List D} (k : D → Bool) (hok : ∀ p acc, G p = none → ok (gput G p (.lst acc))) (hl : xs.length ≤ sizeLine)
    (hs : ∀ a, a ∈ xs → ∀ p acc, G p = none → ∃ σ2, g.put a (wipeD σ vs) = some σ2 ∧ EvE te σ2 (gput G p (.lst acc)) (.bl (k a)))
    (hq : Q (.lst ((xs.map k).map D.bl)) G) : LcG true xs ok g dYes te vs σ G Q :=
  lc_of xs id (List.map_id xs).symm (lc_evYK D.bl (f := k) hok hl hs hq)
theorem st_allB {bs : List Bool} (q : Q (.bl (bs.all id)) G) : kAll [.lst (bs.map D.bl)] G Q := ⟨_, rfl, bs, .lst _, q⟩
def NoneQ (neg : Bool) (x : D) (G : HH) (Q : QD) : Prop := ∃ k, (k = true → x = .non) ∧ (x = .non → k = true) ∧ Q (.bl (if neg then !k else k)) G
theorem st_isNq {neg : Bool} {ta : TED} {E : ED} (h : ta σ G (fun x G1 => NoneQ neg x G1 Q) E) : isN neg ta σ G Q E := h
theorem isN_int0 {i : Int} (q : Q (.bl false) G) : NoneQ false (.int i) G Q := ⟨false, nofun, nofun, q⟩
theorem isN_int1 {i : Int} (q : Q (.bl true) G) : NoneQ true (.int i) G Q := ⟨false, nofun, nofun, q⟩
theorem isN_non0 (q : Q (.bl true) G) : NoneQ false .non G Q := ⟨true, fun _ => rfl, fun _ => rfl, q⟩
theorem isN_non1 (q : Q (.bl false) G) : NoneQ true .non G Q := ⟨true, fun _ => rfl, fun _ => rfl, q⟩
theorem isi_non_tuple (q : Q (.bl false) G) : kIsi [.non, .ty "tuple"] G Q := st_isi (b := false) (by constructor) (by with_unfolding_all rfl) q
theorem isi_non_int (q : Q (.bl false) G) : kIsi [.non, .ty "int"] G Q := st_isi (b := false) (by constructor) (by with_unfolding_all rfl) q
theorem isi_non_bool (q : Q (.bl false) G) : kIsi [.non, .ty "bool"] G Q := st_isi (b := false) (by constructor) (by with_unfolding_all rfl) q
theorem isi_non_str (q : Q (.bl false) G) : kIsi [.non, .ty "str"] G Q := st_isi (b := false) (by constructor) (by with_unfolding_all rfl) q
theorem isi_non_list (q : Q (.bl false) G) : kIsi [.non, .ty "list"] G Q := st_isi (b := false) (by constructor) (by with_unfolding_all rfl) q
theorem isi_bl_tuple {b : Bool} (q : Q (.bl false) G) : kIsi [.bl b, .ty "tuple"] G Q := st_isi (b := false) (by constructor) (by with_unfolding_all rfl) q
theorem isi_bl_int {b : Bool} (q : Q (.bl true) G) : kIsi [.bl b, .ty "int"] G Q := st_isi (b := true) (by constructor) (by with_unfolding_all rfl) q
theorem isi_bl_bool {b : Bool} (q : Q (.bl true) G) : kIsi [.bl b, .ty "bool"] G Q := st_isi (b := true) (by constructor) (by with_unfolding_all rfl) q
theorem isi_bl_str {b : Bool} (q : Q (.bl false) G) : kIsi [.bl b, .ty "str"] G Q := st_isi (b := false) (by constructor) (by with_unfolding_all rfl) q
theorem isi_bl_list {b : Bool} (q : Q (.bl false) G) : kIsi [.bl b, .ty "list"] G Q := st_isi (b := false) (by constructor) (by with_unfolding_all rfl) q
theorem isi_int_tuple {i : Int} (q : Q (.bl false) G) : kIsi [.int i, .ty "tuple"] G Q := st_isi (b := false) (by constructor) (by with_unfolding_all rfl) q
theorem isi_int_int {i : Int} (q : Q (.bl true) G) : kIsi [.int i, .ty "int"] G Q := st_isi (b := true) (by constructor) (by with_unfolding_all rfl) q
theorem isi_int_bool {i : Int} (q : Q (.bl false) G) : kIsi [.int i, .ty "bool"] G Q := st_isi (b := false) (by constructor) (by with_unfolding_all rfl) q
theorem isi_int_str {i : Int} (q : Q (.bl false) G) : kIsi [.int i, .ty "str"] G Q := st_isi (b := false) (by constructor) (by with_unfolding_all rfl) q
theorem isi_int_list {i : Int} (q : Q (.bl false) G) : kIsi [.int i, .ty "list"] G Q := st_isi (b := false) (by constructor) (by with_unfolding_all rfl) q
theorem isi_str_tuple {x : Str} (q : Q (.bl false) G) : kIsi [.str x, .ty "tuple"] G Q := st_isi (b := false) (by constructor) (by with_unfolding_all rfl) q
theorem isi_str_int {x : Str} (q : Q (.bl false) G) : kIsi [.str x, .ty "int"] G Q := st_isi (b := false) (by constructor) (by with_unfolding_all rfl) q
theorem isi_str_bool {x : Str} (q : Q (.bl false) G) : kIsi [.str x, .ty "bool"] G Q := st_isi (b := false) (by constructor) (by with_unfolding_all rfl) q
theorem isi_str_str {x : Str} (q : Q (.bl true) G) : kIsi [.str x, .ty "str"] G Q := st_isi (b := true) (by constructor) (by with_unfolding_all rfl) q
theorem isi_str_list {x : Str} (q : Q (.bl false) G) : kIsi [.str x, .ty "list"] G Q := st_isi (b := false) (by constructor) (by with_unfolding_all rfl) q
theorem isi_lst_tuple {xs : List D} (q : Q (.bl false) G) : kIsi [.lst xs, .ty "tuple"] G Q := st_isi (b := false) (by constructor) (by with_unfolding_all rfl) q
theorem isi_lst_int {xs : List D} (q : Q (.bl false) G) : kIsi [.lst xs, .ty "int"] G Q := st_isi (b := false) (by constructor) (by with_unfolding_all rfl) q
theorem isi_lst_bool {xs : List D} (q : Q (.bl false) G) : kIsi [.lst xs, .ty "bool"] G Q := st_isi (b := false) (by constructor) (by with_unfolding_all rfl) q
theorem isi_lst_str {xs : List D} (q : Q (.bl false) G) : kIsi [.lst xs, .ty "str"] G Q := st_isi (b := false) (by constructor) (by with_unfolding_all rfl) q
theorem isi_lst_list {xs : List D} (q : Q (.bl true) G) : kIsi [.lst xs, .ty "list"] G Q := st_isi (b := true) (by constructor) (by with_unfolding_all rfl) q
theorem isi_tup_tuple {xs : List D} (q : Q (.bl true) G) : kIsi [.tup xs, .ty "tuple"] G Q := st_isi (b := true) (by constructor) (by with_unfolding_all rfl) q
theorem isi_tup_int {xs : List D} (q : Q (.bl false) G) : kIsi [.tup xs, .ty "int"] G Q := st_isi (b := false) (by constructor) (by with_unfolding_all rfl) q
theorem isi_tup_bool {xs : List D} (q : Q (.bl false) G) : kIsi [.tup xs, .ty "bool"] G Q := st_isi (b := false) (by constructor) (by with_unfolding_all rfl) q
theorem isi_tup_str {xs : List D} (q : Q (.bl false) G) : kIsi [.tup xs, .ty "str"] G Q := st_isi (b := false) (by constructor) (by with_unfolding_all rfl) q
theorem isi_tup_list {xs : List D} (q : Q (.bl false) G) : kIsi [.tup xs, .ty "list"] G Q := st_isi (b := false) (by constructor) (by with_unfolding_all rfl) q
end

/-! short ways through the steps, in groups (made by macgen.py out of mac and mac2) -/
local macro_rules | `(tactic| walk_at "get3") => `(tactic| first | exact GetAt.z | (refine' GetAt.s ?k3; (case k3 => walk_at "get3")))
local macro_rules | `(tactic| walk_at "put3") => `(tactic| first | exact SetAt.z | (refine' SetAt.s ?k3; (case k3 => walk_at "put3")))
local macro_rules | `(tactic| walk_at "ne3") => `(tactic| first | assumption | (refine Ne.symm ?_; assumption) | exact ne_sn (by assumption) (by assumption) | exact Ne.symm (ne_sn (by assumption) (by assumption)))
local macro_rules | `(tactic| walk_at "hp3") => `(tactic| first | assumption | exact gput_same | exact gdel_same | (refine' (gput_ne ?k4).trans ?k5; (case k4 => walk_at "ne3"); (case k5 => walk_at "hp3")) | (refine' (gdel_ne ?k4).trans ?k5; (case k4 => walk_at "ne3"); (case k5 => walk_at "hp3")))
local macro_rules | `(tactic| walk_at "sq3") => `(tactic| first | with_reducible exact Sq.tup _ | with_reducible exact Sq.lst _ | with_reducible exact Sq.wls _ | with_reducible exact LsW.lst _ | with_reducible exact LsW.wls _ | with_reducible exact Ls.lst _ | ((with_reducible refine' Sq.ref ?k6); (case k6 => walk_at "hp3")) | ((with_reducible refine' LsW.ref ?k6); (case k6 => walk_at "hp3")) | ((with_reducible refine' Ls.ref ?k6); (case k6 => walk_at "hp3")))
local macro_rules | `(tactic| walk_at "sz3") => `(tactic| first | decide | omega | (simp only [List.length_append, List.length_cons, List.length_nil, List.length_map, sizeLine_eq]; omega) | (simp only [List.length_append, List.length_cons, List.length_nil, List.length_map, sizeLine_eq]; split <;> simp only [List.length_append, List.length_cons, List.length_nil, List.length_map] <;> omega))
local macro_rules | `(tactic| walk_at "lk3") => `(tactic| first | with_reducible exact lk_here | with_reducible exact lk_nil | ((with_reducible refine' lk_next ?n1 ?n2); (case n1 => decide +kernel); (case n2 => walk_at "lk3")) | ((with_reducible refine' lk_not ?n1 ?n2); (case n1 => decide +kernel); (case n2 => walk_at "lk3")))
local macro_rules | `(tactic| walk_at "ev3") => `(tactic| (intro Qe Ee qe; (repeat walk_at "d13"); exact qe))
local macro_rules | `(tactic| walk_at "evh3") => `(tactic| (intro he Qe Ee qe; (repeat walk_at "d13"); exact qe))
local macro_rules | `(tactic| walk_at "ok3") => `(tactic| first | exact fun _ _ _ => trivial | exact fun _ _ _ => LsW.lst _ | exact fun _ _ _ => LsW.wls _ | exact fun _ _ hp => ok_put hp (by walk_at "sq3"))
local macro_rules | `(tactic| walk_at "put1") => `(tactic| (refine ⟨_, rfl, ?_⟩; dsimp only [wipeD, Tgt.put, putL, Option.bind, List.set]))
local macro_rules | `(tactic| walk_at "el3") => `(tactic| (intro ea eha ep eacc ehp; walk_at "put1"; walk_at "ev3"))
local macro_rules | `(tactic| walk_at "el23") => `(tactic| (intro ea eha ep eacc ehp; walk_at "put1"; (refine' ⟨?wa, ?wb⟩); (case wa => walk_at "ev3"); (case wb => walk_at "evh3")))
local macro_rules | `(tactic| walk_at "lc3") => `(tactic| first
  | ((with_reducible refine' lc_evYK D.str ?w1 ?w2 ?w3 ?w4); (case w1 => walk_at "ok3"); (case w2 => walk_at "sz3"); (case w3 => walk_at "el3"))
  | ((with_reducible refine' lc_evYK D.bl ?w1 ?w2 ?w3 ?w4); (case w1 => walk_at "ok3"); (case w2 => walk_at "sz3"); (case w3 => walk_at "el3"))
  | ((with_reducible refine' lc_evYK D.int ?w1 ?w2 ?w3 ?w4); (case w1 => walk_at "ok3"); (case w2 => walk_at "sz3"); (case w3 => walk_at "el3"))
  | ((with_reducible refine' lc_evY ?w1 ?w2 ?w3 ?w4); (case w1 => walk_at "ok3"); (case w2 => walk_at "sz3"); (case w3 => walk_at "el3"))
  | ((with_reducible refine' lc_evK D.str ?w1 ?w2 ?w3 ?w4); (case w1 => walk_at "ok3"); (case w2 => walk_at "sz3"); (case w3 => walk_at "el23"))
  | ((with_reducible refine' lc_evK D.bl ?w1 ?w2 ?w3 ?w4); (case w1 => walk_at "ok3"); (case w2 => walk_at "sz3"); (case w3 => walk_at "el23"))
  | ((with_reducible refine' lc_evK D.int ?w1 ?w2 ?w3 ?w4); (case w1 => walk_at "ok3"); (case w2 => walk_at "sz3"); (case w3 => walk_at "el23"))
  | ((with_reducible refine' lc_ev ?w1 ?w2 ?w3 ?w4); (case w1 => walk_at "ok3"); (case w2 => walk_at "sz3"); (case w3 => walk_at "el23")))
local macro_rules | `(tactic| walk_at "lcs3") => `(tactic| first
  | refine lc_of [_, _, _, _] D.str rfl ?_ | refine lc_of [_, _] D.str rfl ?_ | refine lc_of [_, _, _] D.str rfl ?_ | refine lc_of [_] D.str rfl ?_
  | refine lc_of [_, _, _, _] D.int rfl ?_ | refine lc_of [_, _] D.int rfl ?_ | refine lc_of [_, _, _] D.int rfl ?_ | refine lc_of [_] D.int rfl ?_ | with_reducible refine lc_rg ?_)
local macro_rules | `(tactic| walk_at "isi3") => `(tactic| ((with_reducible refine st_isim ?_); first
  | ((with_reducible refine' st_isiI (b := true) ?w1 ?w2); (case w1 => with_unfolding_all rfl))
  | ((with_reducible refine' st_isiB (b := true) ?w1 ?w2); (case w1 => with_unfolding_all rfl))
  | ((with_reducible refine' st_isiS (b := true) ?w1 ?w2); (case w1 => with_unfolding_all rfl))
  | ((with_reducible refine' st_isiN (b := true) ?w1 ?w2); (case w1 => with_unfolding_all rfl))
  | ((with_reducible refine' st_isiT (b := true) ?w1 ?w2); (case w1 => with_unfolding_all rfl))
  | ((with_reducible refine' st_isiL (b := true) ?w1 ?w2); (case w1 => with_unfolding_all rfl))
  | ((with_reducible refine' st_isiI (b := false) ?w1 ?w2); (case w1 => with_unfolding_all rfl))
  | ((with_reducible refine' st_isiB (b := false) ?w1 ?w2); (case w1 => with_unfolding_all rfl))
  | ((with_reducible refine' st_isiS (b := false) ?w1 ?w2); (case w1 => with_unfolding_all rfl))
  | ((with_reducible refine' st_isiN (b := false) ?w1 ?w2); (case w1 => with_unfolding_all rfl))
  | ((with_reducible refine' st_isiT (b := false) ?w1 ?w2); (case w1 => with_unfolding_all rfl))
  | ((with_reducible refine' st_isiL (b := false) ?w1 ?w2); (case w1 => with_unfolding_all rfl))))
local macro_rules | `(tactic| walk_at $s:str) => do
  let t := s.getString
  if t.startsWith "go " then
    let x := (t.drop 3).toString
    let a := Lean.mkIdent (Lean.Name.mkSimple ("t_" ++ x))
    let n := Lean.mkIdent (Lean.Name.mkSimple ("N_" ++ x))
    `(tactic| (simp only [startD, $n:ident, List.map_cons, List.map_nil, List.length_cons, List.length_nil, List.cons_append, List.nil_append, List.replicate, Nat.reduceAdd, Nat.reduceSub]; unfold $a; walk_at "d"))
  else if t.startsWith "gi " then
    let x := (t.drop 3).toString
    let a := Lean.mkIdent (Lean.Name.mkSimple ("t_" ++ x))
    let n := Lean.mkIdent (Lean.Name.mkSimple ("N_" ++ x))
    `(tactic| (simp only [startD, $n:ident, List.map_cons, List.map_nil, List.length_cons, List.length_nil, List.cons_append, List.nil_append, List.replicate, Nat.reduceAdd, Nat.reduceSub]; unfold $a; walk_at "di"))
  else Lean.Macro.throwUnsupported
local macro_rules | `(tactic| walk_at "sl") => `(tactic| (dsimp only [setL, List.set]; walk_at "d"))
local macro_rules | `(tactic| walk_at "fin") => `(tactic| refine fin_set rfl ?_)
local macro_rules | `(tactic| walk_at "di") => `(tactic| repeat ((fail_if_success (with_reducible refine st_ifS ?_)); walk_at "d13"))
local macro_rules | `(tactic| walk_at "nope") => `(tactic| refine st_iteF' (by simp [*]) ?_)
local macro_rules | `(tactic| walk_at "yep") => `(tactic| refine st_iteT' (by simp [*]) ?_)
local macro_rules | `(tactic| walk_at "gE") => `(tactic| first
  | ((with_reducible refine' st_var ?k1 ?k2); (case k1 => walk_at "get3"))
  | with_reducible refine st_c ?_
  | with_reducible refine st_op ?_
  | with_reducible refine st_call ?_
  | with_reducible refine st_cb ?_
  | with_reducible refine st_callK ?_
  | with_reducible refine st_notV ?_
  | with_reducible refine st_sl ?_
  | with_reducible refine st_lc ?_
  | with_reducible refine st_un ?_
  | with_reducible refine st_tup ⟨by walk_at "sz3", ?_⟩
  | with_reducible refine st_lst ?_
  | with_reducible refine st_lstM ?_
  | with_reducible refine st_tup ?_
  | with_reducible refine st_bm ?_
  | with_reducible refine st_bm0 ?_
  | with_reducible refine st_fstr ?_
  | with_reducible refine st_fmt ?_
  | with_reducible refine st_fld ?_
  | with_reducible refine st_mk ?_
  | with_reducible refine st_meth ?_
  | with_reducible refine st_prop ?_
  | with_reducible refine st_opO ?_
  | with_reducible refine st_dget ?_
  | with_reducible refine st_din ?_
  | with_reducible refine st_dget1 ?_
  | with_reducible refine st_dget2 ?_
  | with_reducible refine st_dnew ?_
  | with_reducible refine st_excF ?_
  | with_reducible refine st_rev ?_
  | with_reducible refine st_methVK ?_
  | ((with_reducible refine' st_andVE ?w1 ?w2 ?w3); (case w1 => walk_at "ev3"); (case w2 => walk_at "evh3"))
  | ((with_reducible refine' st_orVE ?w1 ?w2 ?w3); (case w1 => walk_at "ev3"); (case w2 => walk_at "evh3"))
  | ((with_reducible refine' st_ifE D.int ?w1 ?w2 ?w3 ?w4); (case w1 => walk_at "ev3"); (case w2 => walk_at "evh3"); (case w3 => walk_at "evh3"))
  | ((with_reducible refine' st_ifE D.str ?w1 ?w2 ?w3 ?w4); (case w1 => walk_at "ev3"); (case w2 => walk_at "evh3"); (case w3 => walk_at "evh3"))
  | ((with_reducible refine' st_ifE D.bl ?w1 ?w2 ?w3 ?w4); (case w1 => walk_at "ev3"); (case w2 => walk_at "evh3"); (case w3 => walk_at "evh3"))
  | ((with_reducible refine' st_ifE D.tup ?w1 ?w2 ?w3 ?w4); (case w1 => walk_at "ev3"); (case w2 => walk_at "evh3"); (case w3 => walk_at "evh3"))
  | ((with_reducible refine' st_chainE ?w1 ?w2 ?w3 ?w4 ?w5 ?w6); (case w1 => walk_at "ev3"); (case w2 => walk_at "ev3"); (case w3 => walk_at "ev3"); (case w4 => (intro Qe qe; walk_at "d13"; exact qe)); (case w5 => (intro he Qe qe; walk_at "d13"; exact qe)))
  | with_reducible refine st_callV ?_
  | with_reducible refine st_new ?_
  | with_reducible refine st_methV ?_
  | with_reducible refine st_mkK ?_)
local macro_rules | `(tactic| walk_at "hE") => `(tactic| first
  | with_reducible refine st_andV ?_
  | with_reducible refine st_orV ?_
  | with_reducible refine st_if ?_)
local macro_rules | `(tactic| walk_at "gS") => `(tactic| first
  | with_reducible refine st_seq ?_
  | with_reducible refine st_asg ?_
  | with_reducible refine st_next ?_
  | with_reducible refine st_break ?_
  | with_reducible refine st_cont ?_
  | with_reducible refine st_for ?_
  | with_reducible refine st_drop ?_
  | with_reducible refine st_ret ?_
  | with_reducible refine st_retN ?_
  | with_reducible refine st_retF ?_
  | with_reducible refine st_ifS ?_
  | with_reducible refine st_par ?_
  | with_reducible refine st_raise ?_
  | with_reducible refine st_setF ?_
  | ((with_reducible refine' st_frz ?k1 ?k2 ?k3 ?k4); (case k1 => walk_at "get3"); (case k2 => walk_at "hp3"); (case k3 => walk_at "put3"))
  | with_reducible refine st_dput ?_
  | with_reducible refine st_par3 ?_
  | with_reducible refine st_tryA ?_
  | with_reducible refine st_tryO ?_)
local macro_rules | `(tactic| walk_at "gi") => `(tactic| first
  | with_reducible refine st_inS1 ?_
  | with_reducible refine st_notInS1 ?_
  | with_reducible refine st_inS2 ?_
  | with_reducible refine st_notInS2 ?_
  | with_reducible refine st_inS3 ?_
  | with_reducible refine st_notInS3 ?_
  | with_reducible refine st_inS4 ?_
  | with_reducible refine st_notInS4 ?_
  | with_reducible refine st_inS5 ?_
  | with_reducible refine st_notInS5 ?_
  | with_reducible refine st_inS6 ?_
  | with_reducible refine st_notInS6 ?_
  | ((with_reducible refine' st_inT ?w1 ?w2); (case w1 => walk_at "sq3"))
  | ((with_reducible refine' st_notInT ?w1 ?w2); (case w1 => walk_at "sq3")))
local macro_rules | `(tactic| walk_at "ge") => `(tactic| first
  | with_reducible refine st_eqI ?_
  | with_reducible refine st_neI ?_
  | with_reducible refine st_eqS ?_
  | with_reducible refine st_neS ?_
  | with_reducible refine st_ne00 ?_
  | with_reducible refine st_eq00 ?_
  | with_reducible refine st_eqB ?_
  | with_reducible refine st_neB ?_
  | with_reducible refine st_neLI ?_
  | with_reducible refine st_eqLI ?_)
local macro_rules | `(tactic| walk_at "gR") => `(tactic| first
  | with_reducible refine st_oI0 ?_
  | with_reducible refine st_addI ?_
  | ((with_reducible refine' st_mulI ?k1 ?k2); (case k1 => first | with_reducible assumption | decide))
  | ((with_reducible refine' st_oI ?k1 ?k2); (case k1 => first | with_reducible assumption | omega | decide | (refine ⟨?_, ?_, ?_⟩ <;> first | decide | omega)))
  | ((with_reducible refine' st_ix ?k1 ?k2 ?k3); (case k1 => walk_at "sq3"); (case k2 => first | assumption | rfl))
  | ((with_reducible refine' st_addLm ?w1 ?w2); (case w1 => walk_at "sz3"))
  | ((with_reducible refine' st_addTm ?w1 ?w2); (case w1 => walk_at "sz3"))
  | with_reducible refine st_mulB ?_)
local macro_rules | `(tactic| walk_at "hR") => `(tactic| first
  | ((with_reducible refine' st_addL ?k1 ?k2 ?k3 ?k4); (case k1 => walk_at "sq3"); (case k2 => walk_at "sq3"); (case k3 => walk_at "sz3"))
  | ((with_reducible refine' st_addT ?k1 ?k2); (case k1 => walk_at "sz3")))
local macro_rules | `(tactic| walk_at "gK") => `(tactic| first
  | with_reducible refine st_abs ?_
  | with_reducible refine st_max2 ?_
  | with_reducible refine st_min2 ?_
  | with_reducible refine st_toInt ?_
  | with_reducible refine st_toIntB ?_
  | with_reducible refine st_bool ?_
  | ((with_reducible refine' st_tuple ?k1 ?k2); (case k1 => walk_at "sq3"))
  | ((with_reducible refine' st_list ?k1 ?k2); (case k1 => walk_at "sq3"))
  | with_reducible refine st_lenLm ?_
  | with_reducible refine st_lenTm ?_
  | with_reducible refine st_lenWm ?_
  | walk_at "isi3"
  | with_reducible refine st_reprB ?_
  | ((with_reducible refine' st_reprI ?w1 ?w2); (case w1 => omega)))
local macro_rules | `(tactic| walk_at "hK") => `(tactic| first
  | ((with_reducible refine' st_len ?k1 ?k2); (case k1 => walk_at "sq3")))
local macro_rules | `(tactic| walk_at "gX") => `(tactic| first
  | with_reducible refine st_bl ?_
  | with_reducible refine st_blq ?_
  | with_reducible refine st_tru_blq ?_
  | with_reducible refine st_int ?_
  | ((with_reducible refine' st_setat ?k1 ?k2 ?k3); (case k1 => walk_at "hp3"); (case k2 => first | assumption | rfl))
  | with_reducible refine st_tupq ?_
  | with_reducible refine st_lsq ?_
  | with_reducible refine st_wlsq ?_
  | ((with_reducible refine' st_rng1q ?k1 ?k2 ?k3); (case k1 => walk_at "sz3"); (case k2 => walk_at "sz3"))
  | ((with_reducible refine' st_rng2q ?k1 ?k2); (case k1 => (refine ⟨?_, ?_, ?_, ?_⟩ <;> walk_at "sz3")))
  | ((with_reducible refine' st_par2 ?k1 ?k2 ?k3); (case k1 => walk_at "put3"); (case k2 => walk_at "put3"))
  | ((with_reducible refine' st_fldO ?fa1 ?fa2 ?fa3); (case fa1 => simp); (case fa2 => walk_at "lk3"))
  | ((with_reducible refine' st_fldR ?fb1 ?fb2 ?fb3 ?fb4); (case fb1 => walk_at "hp3"); (case fb2 => simp); (case fb3 => walk_at "lk3"))
  | ((with_reducible refine' st_setFq ?fc1 ?fc2 ?fc3 ?fc4); (case fc1 => walk_at "hp3"); (case fc2 => simp); (case fc3 => first | decide | simp); (try simp +decide only [stF, if_false, if_true]))
  | ((with_reducible refine' st_methOP ?fd1 ?fd2); (case fd1 => walk_at "lk3"))
  | ((with_reducible refine' st_dinq ?k1 ?k2 ?k3); (case k1 => walk_at "hp3"); (case k2 => rfl))
  | ((with_reducible refine' st_par3q ?k1 ?k2 ?k3 ?k4); (case k1 => walk_at "put3"); (case k2 => walk_at "put3"); (case k3 => walk_at "put3"))
  | with_reducible refine st_enT ?_
  | ((with_reducible refine' st_enL ?k1 ?k2); (case k1 => walk_at "sq3"))
  | with_reducible refine st_strq ?_)
local macro_rules | `(tactic| walk_at "gI") => `(tactic| first
  | with_reducible refine st_neSame ?_
  | with_reducible refine st_eqSame ?_
  | ((with_reducible refine' st_eqDiff ?k1 ?k2); (case k1 => decide +kernel))
  | ((with_reducible refine' st_neDiff ?k1 ?k2); (case k1 => decide +kernel))
  | with_reducible refine st_iteT ?_
  | with_reducible refine st_iteF ?_
  | with_reducible refine st_iteNT ?_
  | with_reducible refine st_iteNF ?_)
local macro_rules | `(tactic| walk_at "gF") => `(tactic| first
  | with_reducible refine st_iSq ?_
  | with_reducible refine st_cons ?_
  | with_reducible refine st_nil ?_
  | with_reducible refine st_test ?_
  | with_reducible refine st_not ?_
  | with_reducible refine st_tru ?_
  | with_reducible refine st_nopart ?_
  | with_reducible refine st_part ?_
  | with_reducible refine st_iTup ?_
  | with_reducible refine st_iLst ?_
  | with_reducible refine st_rng1 ?_
  | with_reducible refine st_rng2 ?_
  | with_reducible refine st_js ?_
  | with_reducible refine st_jsn ?_
  | with_reducible refine st_truO ?_
  | with_reducible refine st_iEn ?_
  | with_reducible refine st_prs ?_
  | with_reducible refine st_prn ?_
  | ((with_reducible refine' st_andE ?w1 ?w2 ?w3); (case w1 => walk_at "ev3"); (case w2 => walk_at "evh3"))
  | ((with_reducible refine' st_orE ?w1 ?w2 ?w3); (case w1 => walk_at "ev3"); (case w2 => walk_at "evh3")))
local macro_rules | `(tactic| walk_at "hF") => `(tactic| first
  | with_reducible refine st_and ?_
  | with_reducible refine st_or ?_)
local macro_rules | `(tactic| walk_at "gA") => `(tactic| first
  | ((with_reducible refine' st_sz ?k1 ?k2); (case k1 => walk_at "sz3"))
  | with_reducible refine st_raise1 ?_
  | with_reducible refine st_raise2 ?_
  | ((with_reducible refine' st_tyL ?k1 ?k2); (case k1 => walk_at "hp3"))
  | ((with_reducible refine' st_isDD ?k1 ?k2); (case k1 => walk_at "hp3"))
  | with_reducible refine st_tyS ?_
  | with_reducible refine st_insQ ?_)
local macro_rules | `(tactic| walk_at "gO") => `(tactic| first
  | with_reducible refine st_sqT ?_
  | ((with_reducible refine' st_sqL ?k1 ?k2); (case k1 => walk_at "sq3"))
  | with_reducible refine st_sqS ?_
  | ((with_reducible refine' st_name ?k1 ?k2); (case k1 => walk_at "put3"))
  | with_reducible refine st_gtup rfl ?_
  | with_reducible refine st_glst rfl ?_
  | with_reducible refine st_gnil ?_
  | with_reducible refine st_gcons ?_
  | with_reducible refine st_gsub ?_
  | with_reducible refine st_uI ?_
  | ((with_reducible refine' st_append ?k1 ?k2 ?k3); (case k1 => walk_at "hp3"); (case k2 => walk_at "sz3"))
  | ((with_reducible refine' st_slL ?k1 ?k2); (case k1 => walk_at "sq3"))
  | with_reducible refine st_slT ?_
  | with_reducible refine st_revT ?_
  | ((with_reducible refine' st_revL ?k1 ?k2); (case k1 => walk_at "sq3"))
  | with_reducible refine st_bits ?_
  | ((with_reducible refine lc_mark ?_); (first | walk_at "lc3" | (walk_at "lcs3"; walk_at "lc3")); (try simp only [List.map_id'])))
local macro_rules | `(tactic| walk_at "x13") => `(tactic| fail)
local macro_rules | `(tactic| walk_at "d13") => `(tactic| first
  | ((with_reducible refine mk_E ?_); walk_at "gE")
  | ((with_reducible refine mk_S ?_); walk_at "gS")
  | ((with_reducible refine mk_i ?_); walk_at "gi")
  | ((with_reducible refine mk_e ?_); walk_at "ge")
  | ((with_reducible refine mk_R ?_); walk_at "gR")
  | ((with_reducible refine mk_K ?_); walk_at "gK")
  | ((with_reducible refine mk_X ?_); walk_at "gX")
  | ((with_reducible refine mk_I ?_); walk_at "gI")
  | ((with_reducible refine mk_F ?_); walk_at "gF")
  | ((with_reducible refine mk_A ?_); walk_at "gA")
  | walk_at "gO"
  | walk_at "x13"
  | ((with_reducible refine mk_E ?_); walk_at "hE")
  | ((with_reducible refine mk_R ?_); walk_at "hR")
  | ((with_reducible refine mk_K ?_); walk_at "hK")
  | ((with_reducible refine mk_F ?_); walk_at "hF"))
local macro_rules | `(tactic| walk_at "d") => `(tactic| repeat walk_at "d13")

/-! more short ways -/
local macro_rules | `(tactic| walk_at "de") => `(tactic| repeat ((fail_if_success (with_reducible refine st_if ?_)); walk_at "d13"))
local macro_rules | `(tactic| walk_at "sle") => `(tactic| (dsimp only [setL, List.set]; walk_at "de"))
local macro_rules | `(tactic| walk_at "x13") => `(tactic| first | with_reducible refine st_callQ ?_ | with_reducible refine st_callVQ ?_ | with_reducible refine st_tryX ?_ | with_reducible refine st_tryM ?_ | with_reducible refine st_smeth ?_ | with_reducible refine st_opOq ?_ | with_reducible refine st_lsR1 ?_ | with_reducible refine st_lsR2 ?_ | with_reducible refine st_iZp ?_ | with_reducible refine st_zpT ?_ | with_reducible refine st_negO ?_ | ((with_reducible refine' st_augO ?k1 ?k2); (case k1 => walk_at "get3")) | ((with_reducible refine' st_listM ?k1 ?k2); (case k1 => walk_at "sq3")) | with_reducible refine st_powB (by decide) (by decide +kernel) ?_)

/-! short ways for any values -/
local macro_rules | `(tactic| walk_at "x13") => `(tactic| first | with_reducible refine st_isNq ?_ | with_reducible refine isN_int0 ?_ | with_reducible refine isN_int1 ?_ | with_reducible refine isN_non0 ?_ | with_reducible refine isN_non1 ?_ | with_reducible refine st_allB ?_)
local macro_rules | `(tactic| walk_at "isi3") => `(tactic| first | with_reducible refine isi_non_tuple ?_ | with_reducible refine isi_non_int ?_ | with_reducible refine isi_non_bool ?_ | with_reducible refine isi_non_str ?_ | with_reducible refine isi_non_list ?_ | with_reducible refine isi_bl_tuple ?_ | with_reducible refine isi_bl_int ?_ | with_reducible refine isi_bl_bool ?_ | with_reducible refine isi_bl_str ?_ | with_reducible refine isi_bl_list ?_ | with_reducible refine isi_int_tuple ?_ | with_reducible refine isi_int_int ?_ | with_reducible refine isi_int_bool ?_ | with_reducible refine isi_int_str ?_ | with_reducible refine isi_int_list ?_ | with_reducible refine isi_str_tuple ?_ | with_reducible refine isi_str_int ?_ | with_reducible refine isi_str_bool ?_ | with_reducible refine isi_str_str ?_ | with_reducible refine isi_str_list ?_ | with_reducible refine isi_lst_tuple ?_ | with_reducible refine isi_lst_int ?_ | with_reducible refine isi_lst_bool ?_ | with_reducible refine isi_lst_str ?_ | with_reducible refine isi_lst_list ?_ | with_reducible refine isi_tup_tuple ?_ | with_reducible refine isi_tup_int ?_ | with_reducible refine isi_tup_bool ?_ | with_reducible refine isi_tup_str ?_ | with_reducible refine isi_tup_list ?_)
local macro_rules | `(tactic| walk_at "x13") => `(tactic| ((with_reducible refine mk_I ?_); first | ((refine' st_iteF' ?w1 ?w2); (case w1 => (simp; done))) | ((refine' st_iteT' ?w1 ?w2); (case w1 => (simp; done)))))
local macro_rules | `(tactic| walk_at "yy") => `(tactic| (refine st_iteT' (by simp [*]) ?_; walk_at "d"))

/-! ### the drawing of law_draws by the words of feedbase and feedone -/
abbrev Feed (G : HH) (p : Addr) (N : Nat) : Prop := Drw G p N
theorem Feed.mono {G : HH} {p : Addr} {N M : Nat} (h : Feed G p N) (l : N ≤ M) : Feed G p M := Drw.mono h l
theorem Feed.at {G G' : HH} {p : Addr} {N : Nat} (h : Feed G p N) (e : G' p = G p) : Feed G' p N := Drw.at h e
theorem Feed.some {G : HH} {p : Addr} {N : Nat} (h : Feed G p N) : G p ≠ none := Drw.some h
theorem Feed.ne {G : HH} {p q : Addr} {N : Nat} (h : Feed G p N) (e : G q = none) : p ≠ q := Drw.ne h e
theorem Feed.put {G : HH} {p q : Addr} {N : Nat} {o : HOD} (h : Feed G p N) (e : p ≠ q) : Feed (gput G q o) p N := Drw.put h e
theorem Feed.del {G : HH} {p q : Addr} {N : Nat} (h : Feed G p N) (e : p ≠ q) : Feed (gdel G q) p N := Drw.del h e
theorem st_draw {G : HH} {Q : QD} {E : ED} {p : Addr} {m : Int} {N : Nat} (h : Feed G p N) (hN : N ≤ 2 ^ 30) (h0 : 0 < m) (h1 : m < 2 ^ 64) (k : ∀ (r : Nat) G', (r : Int) < m → Feed G' p (N + 1) → But p G G' → Q (.int (r : Int)) G') : sp_law_next [.ref p, .int m] G Q E := st_nextq h hN h0 h1 k
theorem st_drawI {G : HH} {Q : QD} {E : ED} {p : Addr} {m : Int} {N : Nat} (h : Feed G p N) (hN : N ≤ 2 ^ 30) (h0 : 0 < m ∧ m < 2 ^ 64) (k : ∀ (r : Int) G', 0 ≤ r → r < m → Feed G' p (N + 1) → But p G G' → Q (.int r) G') : sp_law_next [.ref p, .int m] G Q E := ⟨p, m, N, rfl, h, hN, h0.1, h0.2, k⟩
theorem st_oneM {α : Type} {c : α → D} {l : List α} {G : HH} {Q : QD} {E : ED} {p : Addr} {N : Nat} (h : Feed G p N) (hN : N ≤ 2 ^ 30) (h0 : 0 < l.length ∧ l.length < 2 ^ 60) (k : ∀ a G', a ∈ l → Feed G' p (N + 1) → But p G G' → Q (c a) G') : sp_law_one [.ref p, .lst (l.map c)] G Q E :=
  st_oneL h hN (by simpa using h0) fun d G' hd hF hB => by
    obtain ⟨a, ha, rfl⟩ := List.mem_map.mp hd
    exact k a G' ha hF hB
theorem lc_feed {σ : SD} {G : HH} {Q : QD} {J : Nat} {g : Tgt} {te : TED} {vs : List Nat} {p : Addr} {N : Nat} (K : Nat) (P : D → Prop) (hd : Feed G p N) (hl : J ≤ sizeLine)
    (he : ∀ (a : Nat), a < J → ∀ (G' : HH) (M : Nat), Feed G' p M → M + K ≤ N + K * J → (∀ b, b ≠ p → G b ≠ none → G' b = G b) → ∃ σ2, g.put (.int (a : Int)) (wipeD σ vs) = some σ2 ∧
      ∀ Q' : QD, (∀ d G'', P d → Feed G'' p (M + K) → But p G' G'' → Q' d G'') → te σ2 G' Q' (fun _ _ => False))
    (hq : ∀ ds G', ds.length = J → (∀ d ∈ ds, P d) → Feed G' p (N + K * J) → But p G G' → Q (.lst ds) G') : LcG true (rgItems 0 J) okT g dYes te vs σ G Q := lc_drw K P hd hl he hq

/-! ### programs and steps as data of Lean -/
abbrev dN (n : Nat) : D := .int (n : Int)
/-- a row of things, each as its place asks -/
def Stair {α : Type} (P : Nat → α → Prop) (k : Nat) (xs : List α) : Prop := ∀ i (h : i < xs.length), P (k + i) xs[i]
theorem Stair.nil {α : Type} {P : Nat → α → Prop} {k : Nat} : Stair P k [] := fun i h => absurd h (Nat.not_lt_zero _)
theorem Stair.snoc {α : Type} {P : Nat → α → Prop} {k : Nat} {xs : List α} {x : α} (h : Stair P k xs) (hx : P (k + xs.length) x) : Stair P k (xs ++ [x]) := fun i hi => by
  rw [List.length_append, List.length_singleton] at hi
  by_cases e : i < xs.length
  · rw [List.getElem_append_left e]; exact h i e
  · have : i = xs.length := by omega
    subst this
    rw [List.getElem_append_right (Nat.le_refl _)]
    simpa using hx
theorem Stair.mem {α : Type} {P : Nat → α → Prop} {k : Nat} {xs : List α} (h : Stair P k xs) {x : α} (hx : x ∈ xs) : ∃ i, i < xs.length ∧ P (k + i) x := by
  obtain ⟨i, hi, rfl⟩ := List.getElem_of_mem hx
  exact ⟨i, hi, h i hi⟩
theorem Stair.imp {α : Type} {P R : Nat → α → Prop} {k : Nat} {xs : List α} (h : Stair P k xs) (f : ∀ i x, P i x → R i x) : Stair R k xs := fun i hi => f _ _ (h i hi)
theorem Stair.cons {α : Type} {P : Nat → α → Prop} {k : Nat} {x : α} {xs : List α} : Stair P k (x :: xs) ↔ P k x ∧ Stair P (k + 1) xs := by
  constructor
  · intro h
    refine ⟨h 0 (by simp), fun i hi => ?_⟩
    have := h (i + 1) (by simpa using hi)
    rw [show k + 1 + i = k + (i + 1) by omega]
    simpa using this
  · rintro ⟨h1, h2⟩ i hi
    cases i with
    | zero => exact h1
    | succ i =>
      have := h2 i (by simpa using hi)
      rw [show k + (i + 1) = k + 1 + i by omega]
      simpa using this
theorem listP_of {α : Type} {c : α → D} {P : α → Prop} : ∀ {ds : List D}, (∀ d ∈ ds, ∃ w, d = c w ∧ P w) → ∃ ws : List α, ds = ws.map c ∧ ∀ w ∈ ws, P w
  | [], _ => ⟨[], rfl, by simp⟩
  | d :: ds, h => by
    obtain ⟨w, rfl, hw⟩ := h d (by simp)
    obtain ⟨ws, rfl, hws⟩ := listP_of (ds := ds) fun e he => h e (by simp [he])
    refine ⟨w :: ws, rfl, fun z hz => ?_⟩
    rcases List.mem_cons.mp hz with rfl | hz
    · exact hw
    · exact hws z hz
abbrev Tm := Int × List Nat
abbrev tmV (t : Tm) : D := .tup [.int t.1, .tup (t.2.map dN)]
abbrev tmsV (ts : List Tm) : D := .tup (ts.map tmV)
/-- a term over so many places, its coefficient and its places within bounds -/
structure TmOk (c m : Nat) (k : Nat) (t : Tm) : Prop where
  co : t.1.natAbs ≤ c
  len : t.2.length ≤ m
  at_ : ∀ p ∈ t.2, p < k
structure TmsOk (c m l : Nat) (k : Nat) (ts : List Tm) : Prop where
  len : ts.length ≤ l
  all : ∀ t ∈ ts, TmOk c m k t
theorem tm_gd {t : Tm} : gd 3 (tmV t) := by
  simp only [tmV, gd, gds]
  exact ⟨trivial, gds_dN _, trivial⟩
theorem tms_gd {ts : List Tm} : gd 4 (tmsV ts) := by
  simp only [tmsV, gd]
  exact gds_map fun t _ => tm_gd
theorem bulks_dN (l : List Nat) : bulks (l.map dN) = 2 * l.length := by
  induction l with
  | nil => rfl
  | cons a l ih => simp only [List.map_cons, bulks, D.bulk, List.length_cons, ih]; omega
theorem sms_dN {b : Nat} {l : List Nat} (h : ∀ n ∈ l, n < 2 ^ b) : sms b (l.map dN) := sms_map fun a ha => by simpa only [sm, Int.natAbs_natCast] using h a ha
theorem tm_bulk (t : Tm) : (tmV t).bulk = 5 + 2 * t.2.length := by
  simp only [tmV, D.bulk, bulks, bulks_dN]; omega

/-! ### programs run -/
abbrev Rw := Bool × List Tm
def wordV (b : Bool) : Str := if b = true then "round" else "exact"
abbrev rwV (r : Rw) : D := .tup [.str (wordV r.1), tmsV r.2]
structure Pg where
  n : Nat
  rows : List Rw
  outs : List Nat
abbrev pgV (g : Pg) : D := .tup [dN g.n, .tup (g.rows.map rwV), .tup (g.outs.map dN)]
/-- terms that may be worked out over so many numbers -/
def TsOk (k : Nat) (ts : List Tm) : Prop := ∀ t ∈ ts, Bt 2000 t.1 ∧ t.2.length ≤ 40 ∧ ∀ p ∈ t.2, p < k
structure PgOk (g : Pg) : Prop where
  rw : Stair (fun k r => TsOk k r.2) g.n g.rows
  rl : g.rows.length ≤ 1000
  outs : ∀ o ∈ g.outs, o < g.n + g.rows.length
  ol : g.outs.length ≤ 1000

/-! ### steps and loops as data of Lean -/
abbrev Mv := Int × Nat
abbrev mvV (m : Mv) : D := .tup [.int m.1, dN m.2]
structure Stp where
  rows : List (List Tm)
  moves : List Mv
abbrev stpV (s : Stp) : D := .tup [.tup (s.rows.map tmsV), .tup (s.moves.map mvV)]
structure Lp where
  regs : Nat
  steps : List Stp
abbrev lpV (l : Lp) : D := .tup [dN l.regs, .tup (l.steps.map stpV)]

/-! ### running programs -/
def prodT (nums : List Int) (c : Int) (ps : List Nat) : Int := ps.foldl (fun b p => b * nums.getD p 0) c
def sumT (nums : List Int) (ts : List Tm) : Int := ts.foldl (fun a t => a + prodT nums t.1 t.2) 0
theorem prodT_snoc (nums : List Int) (c : Int) (ps : List Nat) (p : Nat) : prodT nums c (ps ++ [p]) = prodT nums c ps * nums.getD p 0 := by simp [prodT]
theorem sumT_snoc (nums : List Int) (ts : List Tm) (t : Tm) : sumT nums (ts ++ [t]) = sumT nums ts + prodT nums t.1 t.2 := by simp [sumT]
theorem getD_bt {nums : List Int} (h : ∀ z ∈ nums, Bt 4000 z) (p : Nat) : Bt 4000 (nums.getD p 0) := by
  rw [List.getD_eq_getElem?_getD]
  cases e : nums[p]? with
  | none => exact .of (Nat.two_pow_pos _)
  | some z => exact h z (List.mem_of_getElem? e)
theorem prodT_bt {nums : List Int} (h : ∀ z ∈ nums, Bt 4000 z) {c : Int} : ∀ (ps : List Nat) {b : Nat}, Bt b c → Bt (b + 4000 * ps.length) (prodT nums c ps)
  | [], b, hc => hc
  | p :: ps, b, hc => by
    have := prodT_bt h ps (hc.mul (getD_bt h p))
    simp only [List.length_cons]
    exact (show Bt (b + 4000 + 4000 * ps.length) (prodT nums (c * nums.getD p 0) ps) from this).mono (by omega)
theorem at_num {nums : List Int} {p : Nat} (h : p < nums.length) : atI (nums.map D.int) (p : Int) = some (.int (nums.getD p 0)) := by
  refine atI_nat ?_
  rw [List.getElem?_map, List.getElem?_eq_getElem h, List.getD_eq_getElem?_getD, List.getElem?_eq_getElem h]
  rfl
def sp_sum_of_terms : SpD := fun ds G Q _ => ∃ (ts : List Tm) (nums : List Int) (y : D), ds = [tmsV ts, y] ∧ Sq G y (nums.map D.int) ∧ (∀ z ∈ nums, Bt 4000 z) ∧ TsOk nums.length ts ∧ Q (.int (sumT nums ts)) G
theorem len_sum_of_terms : LN sp_sum_of_terms 2 := by rintro ds G Q E ⟨ts, nums, y, rfl, _⟩; rfl
def N_sum_of_terms : List Str := ["terms", "numbers", "found", "coefficient", "places", "part", "place"]
abbrev t_sum_of_terms_1 : TSD := (dSeq (dAsg (dVar 3) (gdName 5))
  (dSeq (dFor (iSqD (dVar 4)) (gdName 6)
  (dAsg (dOp mAny (dVar 5) (dOp xAny (dVar 1) (dVar 6))) (gdName 5)))
  (dAsg (dOp aAny (dVar 2) (dVar 5)) (gdName 2))))
def t_sum_of_terms : TSD := (dSeq (dAsg (dC (.int 0)) (gdName 2))
  (dSeq (dFor (iSqD (dVar 0)) (gdTup 2 (gdCons (gdName 3) (gdCons (gdName 4) gdNil)))
  t_sum_of_terms_1)
  (dRet (dVar 2))))
theorem vc_sum_of_terms : VC sp_sum_of_terms N_sum_of_terms t_sum_of_terms := by
  rintro ds G Q EX ⟨ts, nums, y, rfl, hy, hb, ht, hq⟩
  walk_at "go sum_of_terms"
  refine for_set [2, 3, 4, 5, 6] (fun pre vs G' => (∃ (a : Int) (u3 : Option D) (u4 : Option D) (u5 : Option D) (u6 : Option D), vs = [some (.int a), u3, u4, u5, u6] ∧ G' = G ∧ a = sumT nums pre)) (fun _ _ _ _ => trivial) rfl ⟨(0), _, _, _, _, rfl, rfl, rfl⟩ ?_ ?_
  · rintro pre t post vs G1 et ⟨a, u3, u4, u5, u6, rfl, hG, ha⟩
    walk_at "sl"
    obtain ⟨t1, t2, t3⟩ := ht t (by rw [et]; simp)
    subst hG
    refine for_set [5, 6] (fun pre2 vs G' => (∃ (b : Int) (u6 : Option D), vs = [some (.int b), u6] ∧ G' = G1 ∧ b = prodT nums t.1 pre2)) (fun _ _ _ _ => trivial) rfl ⟨(t.1), _, rfl, rfl, rfl⟩ ?_ ?_
    · rintro pre2 p post2 vs G2 ep ⟨b, u6, rfl, hG, hb2⟩
      walk_at "sl"
      subst hG
      subst hb2
      have hpl : p < nums.length := t3 p (by rw [ep]; simp)
      have hl2 : pre2.length < 40 := by
        have := congrArg List.length ep
        simp at this
        omega
      refine st_ix hy (at_num hpl) ?_
      walk_at "d"
      refine st_mulI (cmul_bt (prodT_bt hb pre2 t1) (getD_bt hb p) (by omega)) ?_
      walk_at "d"
      walk_at "fin"
      exact ⟨(prodT nums t.1 pre2 * nums.getD p 0), _, rfl, rfl, (prodT_snoc nums t.1 pre2 p).symm⟩
    · rintro vs G2 ⟨b, u6, rfl, hG, hb2⟩
      walk_at "sl"
      subst hG
      subst hb2
      walk_at "d"
      walk_at "fin"
      exact ⟨(a + prodT nums t.1 t.2), _, _, _, _, rfl, rfl, by rw [ha, sumT_snoc]⟩
  · rintro vs G1 ⟨a, u3, u4, u5, u6, rfl, hG, ha⟩
    walk_at "sl"
    subst hG
    subst ha
    exact hq
def v_MOST : Int := (10 ^ 50) ^ 20
theorem most_bt {z : Int} (h : ¬ v_MOST ≤ (z.natAbs : Int)) : Bt 3400 z := by
  refine .of ?_
  have h1 : v_MOST < 2 ^ 3400 := by unfold v_MOST; decide +kernel
  have h2 : ((2 ^ 3400 : Nat) : Int) = (2 : Int) ^ 3400 := by norm_cast
  rw [← h2] at h1
  omega
theorem enums_map {α : Type} (c : α → D) (xs : List α) : enums (xs.map c) = (xs.mapIdx fun i x => (i, x)).map fun p => D.tup [.int (p.1 : Int), c p.2] := by
  unfold enums
  apply List.ext_getElem (by simp)
  intro i h1 h2
  simp
theorem mapIdx_at {α : Type} {xs : List α} {pre post : List (Nat × α)} {a : Nat × α} (e : (xs.mapIdx fun i x => (i, x)) = pre ++ a :: post) : a.1 = pre.length ∧ pre.length < xs.length ∧ xs[pre.length]? = some a.2 ∧ xs.drop pre.length = a.2 :: xs.drop (pre.length + 1) := by
  have h : (xs.mapIdx fun i x => (i, x))[pre.length]? = some a := by
    rw [e, List.getElem?_append_right (Nat.le_refl _)]
    simp
  rw [List.getElem?_mapIdx] at h
  cases ex : xs[pre.length]? with
  | none => rw [ex] at h; cases h
  | some x =>
    rw [ex] at h
    have h : (pre.length, x) = a := Option.some.inj h
    subst h
    have hl := (List.getElem?_eq_some_iff.mp ex)
    obtain ⟨h1, h2⟩ := hl
    exact ⟨rfl, h1, rfl, by rw [List.drop_eq_getElem_cons h1, h2]⟩

/-! ### running loops -/
abbrev v_GREAT : Int := v_MOST
def runR (f : Int → Int) : List (List Tm) → List Int → Nat → Except Nat (List Int)
  | [], l, _ => .ok l
  | ts :: rs, l, j => if v_MOST ≤ ((sumT l ts).natAbs : Int) then .error j else runR f rs (l ++ [f (sumT l ts)]) (j + 1)
def mvN (nums : List Int) (m : Mv) : Int := m.1 * nums.getD m.2 0
def runL (f : Int → Int) (ss : List Stp) : List Int → List Int → Nat → List Int → Except Nat (List Int)
  | [], _, _, shown => .ok shown
  | x :: xs, held, i, shown =>
    match ss[i % ss.length]? with
    | none => .ok shown
    | some s =>
      match runR f s.rows (held ++ [x]) 0 with
      | .error j => .error j
      | .ok nums => runL f ss xs (s.moves.map (mvN nums)) (i + 1) (shown ++ [(s.moves.map (mvN nums)).getD 0 0])
def loopR (f : Int → Int) (l : Lp) (xs : List Int) : Except Nat (List Int) := runL f l.steps xs (List.replicate l.regs 0) 0 [0]
structure SrOk (r : Nat) (s : Stp) : Prop where
  rw : Stair TsOk (r + 1) s.rows
  rl : s.rows.length ≤ 100
  ml : s.moves.length = r
  mv : ∀ m ∈ s.moves, (m.1 = 1 ∨ m.1 = -1 ∨ m.1 = 0) ∧ m.2 < r + 1 + s.rows.length
structure LrOk (l : Lp) : Prop where
  r0 : 0 < l.regs
  r3 : l.regs ≤ 100
  s0 : 0 < l.steps.length
  s3 : l.steps.length ≤ 100
  ok : ∀ s ∈ l.steps, SrOk l.regs s
theorem runR_len {f : Int → Int} : ∀ {rs : List (List Tm)} {l m : List Int} {i : Nat}, runR f rs l i = .ok m → m.length = l.length + rs.length
  | [], l, m, i, h => by
    rw [runR] at h
    cases h
    simp
  | r :: rs, l, m, i, h => by
    rw [runR] at h
    split at h
    · cases h
    · rw [runR_len h]
      simp
      omega
theorem runL_end {f : Int → Int} {ss : List Stp} {held shown : List Int} {i : Nat} : runL f ss [] held i shown = .ok shown := by rw [runL]
theorem runL_step {f : Int → Int} {ss : List Stp} {x : Int} {xs held shown : List Int} {i : Nat} {s : Stp} (h : ss[i % ss.length]? = some s) :
    runL f ss (x :: xs) held i shown = match runR f s.rows (held ++ [x]) 0 with
      | .error j => .error j
      | .ok nums => runL f ss xs (s.moves.map (mvN nums)) (i + 1) (shown ++ [(s.moves.map (mvN nums)).getD 0 0]) := by rw [runL, h]
theorem mvN_bt {nums : List Int} {m : Mv} (h : ∀ z ∈ nums, Bt 4000 z) (hm : m.1 = 1 ∨ m.1 = -1 ∨ m.1 = 0) : Bt 4000 (mvN nums m) := by
  have h1 := getD_bt h m.2
  unfold mvN
  rcases hm with e | e | e
  · rw [e, Int.one_mul]; exact h1
  · rw [e, show (-1 : Int) * nums.getD m.2 0 = -(nums.getD m.2 0) by omega]; exact h1.neg
  · rw [e, Int.zero_mul]; exact .of (Nat.two_pow_pos _)
/-- the rounding that is handed: its promise, what it does to a number that is not great -/
def Rho (c : SpD) (rho : Int → Int) : Prop := (∀ (z : Int) (G : HH) (Q : QD) (E : ED), ¬ v_MOST ≤ (z.natAbs : Int) → Q (.int (rho z)) G → c [.int z] G Q E) ∧ ∀ z : Int, ¬ v_MOST ≤ (z.natAbs : Int) → Bt 4000 (rho z)
theorem atI_mod {α : Type} {c : α → D} {xs : List α} {i : Nat} (h : 0 < xs.length) : ∃ a, xs[i % xs.length]? = some a ∧ a ∈ xs ∧ atI (xs.map c) ((i : Int) % (xs.length : Int)) = some (c a) := by
  have hl := Nat.mod_lt i h
  refine ⟨xs[i % xs.length], List.getElem?_eq_getElem hl, List.getElem_mem hl, ?_⟩
  rw [← Int.natCast_emod]
  refine atI_nat ?_
  rw [List.getElem?_map, List.getElem?_eq_getElem hl] <;> rfl
/-- the promise's end -/
def RunEnd (G : HH) (Q : QD) (E : ED) : Except Nat (List Int) → Prop
  | .ok s => ∀ G', Kp G G' → Q (.tup (s.map D.int)) G'
  | .error j => ∀ G', Kp G G' → E ⟨.own "TooGreat", ["row"], [.int (j : Int)]⟩ G'
def sp_run_loop (c : SpD) (g : Addr) : SpD := fun ds G Q E => ∃ (l : Lp) (xs : List Int) (rho : Int → Int), ds = [lpV l, .tup (xs.map D.int), .ref g] ∧ LrOk l ∧ xs.length ≤ 1000 ∧ (∀ z ∈ xs, Bt 4000 z) ∧ Rho c rho ∧ RunEnd G Q E (loopR rho l xs)
theorem len_run_loop (c : SpD) (g : Addr) : LN (sp_run_loop c g) 3 := by rintro ds G Q E ⟨l, xs, rho, rfl, _⟩; rfl
def N_run_loop : List Str := ["loop", "letters", "rounding", "held", "shown", "registers", "steps", "i", "letter", "numbers", "rows", "moves", "row", "terms", "total", "sign", "place"]
abbrev t_run_loop_1 (c : SpD) (g : Addr) : TSD := (dSeq (dIfS (dTest (dOp cGeI (dCB kAbs (dCons (dVar 14) dNil)) (dC (.int v_GREAT))))
  (dRaise "TooGreat" ["row"] (dCons (dVar 12) dNil))
  dNext)
  (dDrop (dBM tyL mAppend (dVar 9) (dCons (dAct 2 g c (dCons (dVar 14) dNil)) dNil))))
abbrev t_run_loop_2 (c : SpD) (g : Addr) : TSD := (dFrz 9 (dSeq (dAsg (dLc true (iSqD (dVar 11)) (.tp [(.nm 15), (.nm 16)]) dYes (dOp mAny (dVar 15) (dOp xAny (dVar 9) (dVar 16))) [15, 16]) (gdName 3))
  (dDrop (dBM tyL mAppend (dVar 4) (dCons (dOp xAny (dVar 3) (dC (.int 0))) dNil)))))
abbrev t_run_loop_3 (c : SpD) (g : Addr) : TSD := (dSeq (dFor (iEnD (dCons (dVar 10) dNil)) (gdTup 2 (gdCons (gdName 12) (gdCons (gdName 13) gdNil)))
  (dSeq (dAsg (dCall sp_sum_of_terms (dCons (dVar 13) (dCons (dVar 9) dNil))) (gdName 14))
  (t_run_loop_1 c g)))
  (t_run_loop_2 c g))
abbrev t_run_loop_4 (c : SpD) (g : Addr) : TSD := (dSeq (dAsg (dOp xAny (dVar 6) (dOp aMod (dVar 7) (dCB kLen (dCons (dVar 6) dNil)))) (gdTup 2 (gdCons (gdName 10) (gdCons (gdName 11) gdNil))))
  (dSeq (dAsg (dOp aLstM (dVar 3) (dLst (dCons (dVar 8) dNil))) (gdName 9))
  (t_run_loop_3 c g)))
abbrev t_run_loop_5 (c : SpD) (g : Addr) : TSD := (dSeq (dFor (iEnD (dCons (dVar 1) dNil)) (gdTup 2 (gdCons (gdName 7) (gdCons (gdName 8) gdNil)))
  (t_run_loop_4 c g))
  (dFrz 4 (dRet (dCB kTuple (dCons (dVar 4) dNil)))))
def t_run_loop (c : SpD) (g : Addr) : TSD := (dSeq (dAsg (dVar 0) (gdTup 2 (gdCons (gdName 5) (gdCons (gdName 6) gdNil))))
  (dSeq (dAsg (dOp mAny (dLst (dCons (dC (.int 0)) dNil)) (dVar 5)) (gdName 3))
  (dSeq (dAsg (dLstM (dCons (dC (.int 0)) dNil)) (gdName 4))
  (t_run_loop_5 c g))))
theorem vc_run_loop (c : SpD) (g : Addr) : VC (sp_run_loop c g) N_run_loop (t_run_loop c g) := by
  rintro ds G Q EX ⟨l, xs, rho, rfl, hl, hxl, hxb, hrho, hq⟩
  walk_at "go run_loop"
  refine st_mul1 (c := D.int) (a := (0 : Int)) ⟨by have := hl.r3; omega, by have := hl.r3; omega⟩ (by have := hl.r3; rw [sizeLine_eq]; omega) ?_
  rw [Int.toNat_natCast]
  walk_at "d"
  intro q hq1
  walk_at "d"
  rw [enums_map D.int xs]
  refine for_of _ _ rfl ?_
  refine for_set [3, 7, 8, 9, 10, 11, 12, 13, 14] (fun pre vs G' => ∃ (held shown : List Int), (∃ a b c d e f g h, vs = [some (.lst (held.map D.int)), a, b, c, d, e, f, g, h]) ∧ (∀ b, b ≠ q → G' b = G b) ∧ G' q = some (.lst (shown.map D.int)) ∧ held.length = l.regs ∧ (∀ z ∈ held, Bt 4000 z) ∧ shown.length = pre.length + 1 ∧ loopR rho l xs = runL rho l.steps (xs.drop pre.length) held pre.length shown) (fun _ _ _ _ => trivial) rfl
    ⟨List.replicate l.regs 0, [0], ⟨_, _, _, _, _, _, _, _, rfl⟩, fun b h => gput_ne h, gput_same, List.length_replicate, fun z hz => by rw [List.eq_of_mem_replicate hz]; exact .of (Nat.two_pow_pos _), rfl, rfl⟩ ?_ ?_
  · rintro pre a post vs G2 e ⟨held, shown, ⟨u7, u8, u9, u10, u11, u12, u13, u14, rfl⟩, hG, hsq, hll, hlb, hsl, hrun⟩
    obtain ⟨a1, a2, a3, a4⟩ := mapIdx_at e
    obtain ⟨i, x⟩ := a
    dsimp only at a1 a3 a4
    subst a1
    have hxb2 := hxb x (List.mem_of_getElem? a3)
    obtain ⟨s, hs1, hs2, hs3⟩ := atI_mod (c := stpV) (xs := l.steps) (i := pre.length) hl.s0
    have hso := hl.ok s hs2
    rw [a4, runL_step hs1] at hrun
    have hk : Kp G G2 := fun b hb => hG b fun z => hb (by rw [z]; exact hq1)
    walk_at "sl"
    refine ⟨_, _, rfl, rfl, by have := hl.s0; omega, ?_⟩
    refine st_ix (.tup _) hs3 ?_
    walk_at "d"
    refine st_addLM (.lst _) (.lst _) (by rw [List.length_map, hll, sizeLine_eq]; have := hl.r3; simp; omega) fun n hn => ?_
    have hnq : n ≠ q := fun z => by rw [z, hsq] at hn; cases hn
    rw [show List.map D.int held ++ [D.int x] = (held ++ [x]).map D.int by simp]
    walk_at "d"
    rw [enums_map tmsV s.rows]
    refine for_of _ _ rfl ?_
    refine for_set [12, 13, 14] (fun pre2 vs G' => ∃ (nums : List Int), (∃ a b c, vs = [a, b, c]) ∧ (∀ b, b ≠ n → G' b = G2 b) ∧ G' n = some (.lst (nums.map D.int)) ∧ nums.length = l.regs + 1 + pre2.length ∧ (∀ z ∈ nums, Bt 4000 z) ∧ runR rho s.rows (held ++ [x]) 0 = runR rho (s.rows.drop pre2.length) nums pre2.length) (fun _ _ _ _ => trivial) rfl
      ⟨held ++ [x], ⟨_, _, _, rfl⟩, fun b h => gput_ne h, gput_same, by simp [hll], fun z hz => (List.mem_append.mp hz).elim (hlb z) fun h => by rw [List.mem_singleton.mp h]; exact hxb2, rfl⟩ ?_ ?_
    · rintro pre2 a post2 vs G3 e2 ⟨nums, ⟨w12, w13, w14, rfl⟩, hG3, hn3, hnl, hnb, hrun2⟩
      obtain ⟨a1, b2, b3, b4⟩ := mapIdx_at e2
      obtain ⟨j, ts⟩ := a
      dsimp only at a1 b3 b4
      subst a1
      have hts := hso.rw pre2.length b2
      rw [List.getElem?_eq_getElem b2] at b3
      rw [Option.some.inj b3, ← hnl] at hts
      rw [b4, runR] at hrun2
      walk_at "sl"
      refine ⟨ts, nums, .ref n, rfl, .ref hn3, hnb, hts, ?_⟩
      walk_at "d"
      refine st_iteB (fun hm => ?_) (fun hm => ?_)
      · have hm : v_MOST ≤ ((sumT nums ts).natAbs : Int) := by simpa using hm
        rw [if_pos hm] at hrun2
        rw [hrun2] at hrun
        dsimp only at hrun
        rw [hrun] at hq
        walk_at "d"
        refine ⟨rfl, hq G3 fun b hb => ?_⟩
        have h1 : b ≠ n := fun z => by rw [z] at hb; exact hb (by rw [← hG n hnq]; exact hn)
        rw [hG3 b h1, hk b hb]
      · have hm2 : ¬ v_MOST ≤ ((sumT nums ts).natAbs : Int) := by simpa using hm
        rw [if_neg hm2] at hrun2
        walk_at "d"
        refine st_act rfl ?_
        walk_at "d"
        refine hrho.1 _ _ _ _ hm2 ?_
        have happ : (nums.map D.int).length < sizeLine := by
          have := hl.r3
          have := hso.rl
          rw [List.length_map, sizeLine_eq]
          omega
        walk_at "d"
        walk_at "fin"
        refine ⟨nums ++ [_], ⟨_, _, _, rfl⟩, fun b hb => (gput_ne hb).trans (hG3 b hb), by rw [gput_same, List.map_append]; rfl, by simp; omega, fun y hy => ?_, by rw [hrun2, List.length_append]; rfl⟩
        rcases List.mem_append.mp hy with hy | hy
        · exact hnb y hy
        · rw [List.mem_singleton.mp hy]; exact hrho.2 _ hm2
    · rintro vs G3 ⟨nums, ⟨w12, w13, w14, rfl⟩, hG3, hn3, hnl, hnb, hrun2⟩
      have e0 : (s.rows.mapIdx fun i x => (i, x)).length = s.rows.length := by simp
      rw [e0] at hnl
      rw [e0, List.drop_length, runR] at hrun2
      rw [hrun2] at hrun
      dsimp only at hrun
      walk_at "sl"
      refine lc_evYK D.int (f := mvN nums) (fun _ _ _ => trivial) (by rw [hso.ml, sizeLine_eq]; have := hl.r3; omega) (fun m hm p acc hp => ?_) ?_
      · obtain ⟨m1, m2⟩ := hso.mv m hm
        walk_at "put1"
        intro Qe Ee qe
        have hb := getD_bt hnb m.2
        walk_at "d"
        refine st_ix (.lst _) (at_num (by omega)) ?_
        walk_at "d"
        refine st_mulI (cmul_bt (a := 2) (.of (by rcases m1 with h | h | h <;> rw [h] <;> decide)) hb (by omega)) ?_
        exact qe
      have hq3 : gdel G3 n q = some (.lst (shown.map D.int)) := by rw [gdel_ne hnq.symm, hG3 q hnq.symm]; exact hsq
      have hml : 0 < (s.moves.map (mvN nums)).length := by rw [List.length_map, hso.ml]; exact hl.r0
      walk_at "d"
      refine st_ix (.lst _) (at_num hml) ?_
      have happ : (shown.map D.int).length < sizeLine := by
        rw [List.length_map, sizeLine_eq]
        omega
      walk_at "d"
      walk_at "fin"
      refine ⟨s.moves.map (mvN nums), shown ++ [_], ⟨_, _, _, _, _, _, _, _, rfl⟩, fun b hb => ?_, by rw [gput_same, List.map_append]; rfl, by rw [List.length_map, hso.ml], fun z hz => ?_, by simp; omega, by rw [hrun, List.length_append]; rfl⟩
      · rw [gput_ne hb]
        by_cases hbn : b = n
        · rw [hbn, gdel_same, ← hG n hnq, hn]
        · rw [gdel_ne hbn, hG3 b hbn, hG b hb]
      · obtain ⟨m, hm, rfl⟩ := List.mem_map.mp hz
        exact mvN_bt hnb (hso.mv m hm).1
  · rintro vs G2 ⟨held, shown, ⟨u7, u8, u9, u10, u11, u12, u13, u14, rfl⟩, hG, hsq, hll, hlb, hsl, hrun⟩
    have e0 : (xs.mapIdx fun i x => (i, x)).length = xs.length := by simp
    rw [e0, List.drop_length, runL_end] at hrun
    rw [hrun] at hq
    walk_at "sl"
    refine hq _ fun b hb => ?_
    have : b ≠ q := fun z => hb (by rw [z]; exact hq1)
    rw [gdel_ne this]
    exact hG b this

abbrev sp_law_sum : SpD := sp_sum_of_terms
theorem len_law_sum : LN sp_law_sum 2 := len_sum_of_terms
def N_law_sum : List Str := ["_law_terms", "_law_numbers", "_law_found", "_law_coefficient", "_law_places", "_law_part", "_law_place"]
abbrev t_law_sum_1 : TSD := (dSeq (dAsg (dVar 3) (gdName 5))
  (dSeq (dFor (iSqD (dVar 4)) (gdName 6)
  (dAsg (dOp mAny (dVar 5) (dOp xAny (dVar 1) (dVar 6))) (gdName 5)))
  (dAsg (dOp aAny (dVar 2) (dVar 5)) (gdName 2))))
def t_law_sum : TSD := (dSeq (dAsg (dC (.int 0)) (gdName 2))
  (dSeq (dFor (iSqD (dVar 0)) (gdTup 2 (gdCons (gdName 3) (gdCons (gdName 4) gdNil)))
  t_law_sum_1)
  (dRet (dVar 2))))
theorem vc_law_sum : VC sp_law_sum N_law_sum t_law_sum := vc_sum_of_terms

/-- the law's own running of a loop: its end -/
def FarEnd (G : HH) (Q : QD) : Except Nat (List Int) → Prop
  | .ok s => ∀ G', Kp G G' → Q (.tup [.lst (s.map D.int), .non]) G'
  | .error j => ∀ (q : Addr) G', Kp G G' → Q (.tup [.ref q, dN j]) G'
def sp_law_loop_far (c : SpD) (g : Addr) : SpD := fun ds G Q E => ∃ (l : Lp) (xs : List Int) (rho : Int → Int), ds = [lpV l, .lst (xs.map D.int), .ref g] ∧ LrOk l ∧ xs.length ≤ 1000 ∧ (∀ z ∈ xs, Bt 4000 z) ∧ Rho c rho ∧ FarEnd G Q (loopR rho l xs)
theorem len_law_loop_far (c : SpD) (g : Addr) : LN (sp_law_loop_far c g) 3 := by rintro ds G Q E ⟨l, xs, rho, rfl, _⟩; rfl
def N_law_loop_far : List Str := ["_law_loop_here", "_law_letters", "_law_rounding", "_law_held", "_law_shown", "_law_i", "_law_letter", "_law_numbers", "_law_rows", "_law_moves", "_law_row", "_law_terms", "_law_total", "_law_sign", "_law_place"]
abbrev t_law_loop_far_1 (c : SpD) (g : Addr) : TSD := (dSeq (dIfS (dTest (dOp cGeI (dCB kAbs (dCons (dVar 12) dNil)) (dOp aPowB (dOp aPow (dC (.int 10)) (dC (.int 50))) (dC (.int 20)))))
  (dRet (dTup (dCons (dVar 4) (dCons (dVar 10) dNil))))
  dNext)
  (dDrop (dBM tyL mAppend (dVar 7) (dCons (dAct 2 g c (dCons (dVar 12) dNil)) dNil))))
abbrev t_law_loop_far_2 (c : SpD) (g : Addr) : TSD := (dFrz 7 (dSeq (dAsg (dLc true (iSqD (dVar 9)) (.tp [(.nm 13), (.nm 14)]) dYes (dOp mAny (dVar 13) (dOp xAny (dVar 7) (dVar 14))) [13, 14]) (gdName 3))
  (dDrop (dBM tyL mAppend (dVar 4) (dCons (dOp xAny (dVar 3) (dC (.int 0))) dNil)))))
abbrev t_law_loop_far_3 (c : SpD) (g : Addr) : TSD := (dSeq (dFor (iEnD (dCons (dVar 8) dNil)) (gdTup 2 (gdCons (gdName 10) (gdCons (gdName 11) gdNil)))
  (dSeq (dAsg (dCall sp_law_sum (dCons (dVar 11) (dCons (dVar 7) dNil))) (gdName 12))
  (t_law_loop_far_1 c g)))
  (t_law_loop_far_2 c g))
abbrev t_law_loop_far_4 (c : SpD) (g : Addr) : TSD := (dSeq (dAsg (dOp xAny (dOp xAny (dVar 0) (dC (.int 1))) (dOp aMod (dVar 5) (dCB kLen (dCons (dOp xAny (dVar 0) (dC (.int 1))) dNil)))) (gdTup 2 (gdCons (gdName 8) (gdCons (gdName 9) gdNil))))
  (dSeq (dAsg (dOp aLstM (dVar 3) (dLst (dCons (dVar 6) dNil))) (gdName 7))
  (t_law_loop_far_3 c g)))
abbrev t_law_loop_far_5 (c : SpD) (g : Addr) : TSD := (dSeq (dFor (iEnD (dCons (dVar 1) dNil)) (gdTup 2 (gdCons (gdName 5) (gdCons (gdName 6) gdNil)))
  (t_law_loop_far_4 c g))
  (dFrz 4 (dRet (dTup (dCons (dVar 4) (dCons (dC .non) dNil))))))
def t_law_loop_far (c : SpD) (g : Addr) : TSD := (dSeq (dPar 3 4 (dCons (dOp mAny (dLst (dCons (dC (.int 0)) dNil)) (dOp xAny (dVar 0) (dC (.int 0)))) (dCons (dLstM (dCons (dC (.int 0)) dNil)) dNil)))
  (t_law_loop_far_5 c g))
theorem vc_law_loop_far (c : SpD) (g : Addr) : VC (sp_law_loop_far c g) N_law_loop_far (t_law_loop_far c g) := by
  rintro ds G Q EX ⟨l, xs, rho, rfl, hl, hxl, hxb, hrho, hq⟩
  walk_at "go law_loop_far"
  refine st_mul1 (c := D.int) (a := (0 : Int)) ⟨by have := hl.r3; omega, by have := hl.r3; omega⟩ (by have := hl.r3; rw [sizeLine_eq]; omega) ?_
  rw [Int.toNat_natCast]
  walk_at "d"
  intro q hq1
  walk_at "d"
  rw [enums_map D.int xs]
  refine for_of _ _ rfl ?_
  refine for_set [3, 5, 6, 7, 8, 9, 10, 11, 12] (fun pre vs G' => ∃ (held shown : List Int), (∃ a b c d e f g h, vs = [some (.lst (held.map D.int)), a, b, c, d, e, f, g, h]) ∧ (∀ b, b ≠ q → G' b = G b) ∧ G' q = some (.lst (shown.map D.int)) ∧ held.length = l.regs ∧ (∀ z ∈ held, Bt 4000 z) ∧ shown.length = pre.length + 1 ∧ loopR rho l xs = runL rho l.steps (xs.drop pre.length) held pre.length shown) (fun _ _ _ _ => .lst _) rfl
    ⟨List.replicate l.regs 0, [0], ⟨_, _, _, _, _, _, _, _, rfl⟩, fun b h => gput_ne h, gput_same, List.length_replicate, fun z hz => by rw [List.eq_of_mem_replicate hz]; exact .of (Nat.two_pow_pos _), rfl, rfl⟩ ?_ ?_
  · rintro pre a post vs G2 e ⟨held, shown, ⟨u7, u8, u9, u10, u11, u12, u13, u14, rfl⟩, hG, hsq, hll, hlb, hsl, hrun⟩
    obtain ⟨a1, a2, a3, a4⟩ := mapIdx_at e
    obtain ⟨i, x⟩ := a
    dsimp only at a1 a3 a4
    subst a1
    have hxb2 := hxb x (List.mem_of_getElem? a3)
    obtain ⟨s, hs1, hs2, hs3⟩ := atI_mod (c := stpV) (xs := l.steps) (i := pre.length) hl.s0
    have hso := hl.ok s hs2
    rw [a4, runL_step hs1] at hrun
    have hk : Kp G G2 := fun b hb => hG b fun z => hb (by rw [z]; exact hq1)
    walk_at "sl"
    refine ⟨_, _, rfl, rfl, by have := hl.s0; omega, ?_⟩
    refine st_ix (.tup _) hs3 ?_
    walk_at "d"
    refine st_addLM (.lst _) (.lst _) (by rw [List.length_map, hll, sizeLine_eq]; have := hl.r3; simp; omega) fun n hn => ?_
    have hnq : n ≠ q := fun z => by rw [z, hsq] at hn; cases hn
    rw [show List.map D.int held ++ [D.int x] = (held ++ [x]).map D.int by simp]
    walk_at "d"
    rw [enums_map tmsV s.rows]
    refine for_of _ _ rfl ?_
    refine for_set [10, 11, 12] (fun pre2 vs G' => ∃ (nums : List Int), (∃ a b c, vs = [a, b, c]) ∧ (∀ b, b ≠ n → G' b = G2 b) ∧ G' n = some (.lst (nums.map D.int)) ∧ nums.length = l.regs + 1 + pre2.length ∧ (∀ z ∈ nums, Bt 4000 z) ∧ runR rho s.rows (held ++ [x]) 0 = runR rho (s.rows.drop pre2.length) nums pre2.length) (fun _ _ _ _ => trivial) rfl
      ⟨held ++ [x], ⟨_, _, _, rfl⟩, fun b h => gput_ne h, gput_same, by simp [hll], fun z hz => (List.mem_append.mp hz).elim (hlb z) fun h => by rw [List.mem_singleton.mp h]; exact hxb2, rfl⟩ ?_ ?_
    · rintro pre2 a post2 vs G3 e2 ⟨nums, ⟨w12, w13, w14, rfl⟩, hG3, hn3, hnl, hnb, hrun2⟩
      obtain ⟨a1, b2, b3, b4⟩ := mapIdx_at e2
      obtain ⟨j, ts⟩ := a
      dsimp only at a1 b3 b4
      subst a1
      have hts := hso.rw pre2.length b2
      rw [List.getElem?_eq_getElem b2] at b3
      rw [Option.some.inj b3, ← hnl] at hts
      rw [b4, runR] at hrun2
      walk_at "sl"
      refine ⟨ts, nums, .ref n, rfl, .ref hn3, hnb, hts, ?_⟩
      walk_at "d"
      refine st_iteB (fun hm => ?_) (fun hm => ?_)
      · have hm : v_MOST ≤ ((sumT nums ts).natAbs : Int) := of_decide_eq_true hm
        rw [if_pos hm] at hrun2
        rw [hrun2] at hrun
        dsimp only at hrun
        rw [hrun] at hq
        walk_at "d"
        refine hq q G3 fun b hb => ?_
        have h1 : b ≠ n := fun z => by rw [z] at hb; exact hb (by rw [← hG n hnq]; exact hn)
        rw [hG3 b h1, hk b hb]
      · have hm2 : ¬ v_MOST ≤ ((sumT nums ts).natAbs : Int) := of_decide_eq_false hm
        rw [if_neg hm2] at hrun2
        walk_at "d"
        refine st_act rfl ?_
        walk_at "d"
        refine hrho.1 _ _ _ _ hm2 ?_
        have happ : (nums.map D.int).length < sizeLine := by
          have := hl.r3
          have := hso.rl
          rw [List.length_map, sizeLine_eq]
          omega
        walk_at "d"
        walk_at "fin"
        refine ⟨nums ++ [_], ⟨_, _, _, rfl⟩, fun b hb => (gput_ne hb).trans (hG3 b hb), by rw [gput_same, List.map_append]; rfl, by simp; omega, fun y hy => ?_, by rw [hrun2, List.length_append]; rfl⟩
        rcases List.mem_append.mp hy with hy | hy
        · exact hnb y hy
        · rw [List.mem_singleton.mp hy]; exact hrho.2 _ hm2
    · rintro vs G3 ⟨nums, ⟨w12, w13, w14, rfl⟩, hG3, hn3, hnl, hnb, hrun2⟩
      have e0 : (s.rows.mapIdx fun i x => (i, x)).length = s.rows.length := by simp
      rw [e0] at hnl
      rw [e0, List.drop_length, runR] at hrun2
      rw [hrun2] at hrun
      dsimp only at hrun
      walk_at "sl"
      refine lc_evYK D.int (f := mvN nums) (fun _ _ _ => trivial) (by rw [hso.ml, sizeLine_eq]; have := hl.r3; omega) (fun m hm p acc hp => ?_) ?_
      · obtain ⟨m1, m2⟩ := hso.mv m hm
        walk_at "put1"
        intro Qe Ee qe
        have hb := getD_bt hnb m.2
        walk_at "d"
        refine st_ix (.lst _) (at_num (by omega)) ?_
        walk_at "d"
        refine st_mulI (cmul_bt (a := 2) (.of (by rcases m1 with h | h | h <;> rw [h] <;> decide)) hb (by omega)) ?_
        exact qe
      have hq3 : gdel G3 n q = some (.lst (shown.map D.int)) := by rw [gdel_ne hnq.symm, hG3 q hnq.symm]; exact hsq
      have hml : 0 < (s.moves.map (mvN nums)).length := by rw [List.length_map, hso.ml]; exact hl.r0
      walk_at "d"
      refine st_ix (.lst _) (at_num hml) ?_
      have happ : (shown.map D.int).length < sizeLine := by
        rw [List.length_map, sizeLine_eq]
        omega
      walk_at "d"
      walk_at "fin"
      refine ⟨s.moves.map (mvN nums), shown ++ [_], ⟨_, _, _, _, _, _, _, _, rfl⟩, fun b hb => ?_, by rw [gput_same, List.map_append]; rfl, by rw [List.length_map, hso.ml], fun z hz => ?_, by simp; omega, by rw [hrun, List.length_append]; rfl⟩
      · rw [gput_ne hb]
        by_cases hbn : b = n
        · rw [hbn, gdel_same, ← hG n hnq, hn]
        · rw [gdel_ne hbn, hG3 b hbn, hG b hb]
      · obtain ⟨m, hm, rfl⟩ := List.mem_map.mp hz
        exact mvN_bt hnb (hso.mv m hm).1
  · rintro vs G2 ⟨held, shown, ⟨u7, u8, u9, u10, u11, u12, u13, u14, rfl⟩, hG, hsq, hll, hlb, hsl, hrun⟩
    have e0 : (xs.mapIdx fun i x => (i, x)).length = xs.length := by simp
    rw [e0, List.drop_length, runL_end] at hrun
    rw [hrun] at hq
    walk_at "sl"
    refine hq _ fun b hb => ?_
    have : b ≠ q := fun z => hb (by rw [z]; exact hq1)
    rw [gdel_ne this]
    exact hG b this

/-! ### drawn rules of rounding -/
structure Rul where
  ws : List Str
  a : Int
  b : Int
  m : Int
abbrev rulV (r : Rul) : D := .tup [.tup (r.ws.map D.str), .int r.a, .int r.b, .int r.m]
structure RulOk (r : Rul) : Prop where
  a0 : 0 ≤ r.a ∧ r.a < 2 ^ 30
  b0 : 0 ≤ r.b ∧ r.b < 2 ^ 30
  m0 : 1000 ≤ r.m ∧ r.m < 2 ^ 40
def sp_law_words : SpD := fun ds G Q _ => ∃ i : Nat, ds = [dN i] ∧ i < 10 ∧ ∀ ws : List Str, Q (.tup (ws.map D.str)) G
theorem len_law_words : LN sp_law_words 1 := by rintro ds G Q E ⟨i, rfl, _⟩; rfl
def N_law_words : List Str := ["_law_number", "_law_some"]
abbrev t_law_words_1 : TSD := (dRet (dOp xAny (dOp aAny (dVar 1) (dLst (dCons (dTup (dCons (dC (.str "still")) (dCons (dC (.str "merge")) dNil))) (dCons (dTup (dCons (dC (.str "odd")) (dCons (dC (.str "two")) (dCons (dC (.str "still")) dNil)))) (dCons (dTup (dCons (dC (.str "odd")) (dCons (dC (.str "still")) (dCons (dC (.str "merge")) dNil)))) dNil))))) (dVar 0)))
def t_law_words : TSD := (dSeq (dAsg (dLst (dCons (dTup dNil) (dCons (dTup (dCons (dC (.str "odd")) dNil)) (dCons (dTup (dCons (dC (.str "two")) dNil)) (dCons (dTup (dCons (dC (.str "still")) dNil)) (dCons (dTup (dCons (dC (.str "odd")) (dCons (dC (.str "two")) dNil))) (dCons (dTup (dCons (dC (.str "odd")) (dCons (dC (.str "still")) dNil))) (dCons (dTup (dCons (dC (.str "two")) (dCons (dC (.str "still")) dNil))) dNil)))))))) (gdName 1))
  t_law_words_1)
theorem vc_law_words : VC sp_law_words N_law_words t_law_words := by
  rintro ds G Q EX ⟨i, rfl, hi, hq⟩
  walk_at "go law_words"
  obtain ⟨ws, hw⟩ : ∃ ws : List Str, atI [D.tup [], .tup [.str "odd"], .tup [.str "two"], .tup [.str "still"], .tup [.str "odd", .str "two"], .tup [.str "odd", .str "still"], .tup [.str "two", .str "still"], .tup [.str "still", .str "merge"], .tup [.str "odd", .str "two", .str "still"], .tup [.str "odd", .str "still", .str "merge"]] (i : Int) = some (.tup (ws.map D.str)) := by
    match i, hi with
    | 0, _ => exact ⟨[], rfl⟩
    | 1, _ => exact ⟨["odd"], rfl⟩
    | 2, _ => exact ⟨["two"], rfl⟩
    | 3, _ => exact ⟨["still"], rfl⟩
    | 4, _ => exact ⟨["odd", "two"], rfl⟩
    | 5, _ => exact ⟨["odd", "still"], rfl⟩
    | 6, _ => exact ⟨["two", "still"], rfl⟩
    | 7, _ => exact ⟨["still", "merge"], rfl⟩
    | 8, _ => exact ⟨["odd", "two", "still"], rfl⟩
    | 9, _ => exact ⟨["odd", "still", "merge"], rfl⟩
  refine st_ix (.lst _) hw ?_
  exact hq ws
def sp_law_rule : SpD := fun ds G Q _ => ∃ (p : Addr) (ws : List Str) (N : Nat), ds = [.ref p, .tup (ws.map D.str)] ∧ Feed G p N ∧ N ≤ 2 ^ 27 ∧ ∀ (r : Rul) G', (RulOk r) → Feed G' p (N + 3) → But p G G' → Q (rulV r) G'
theorem len_law_rule : LN sp_law_rule 2 := by rintro ds G Q E ⟨p, ws, N, rfl, _⟩; rfl
def N_law_rule : List Str := ["_law_drawn", "_law_words_here"]
def t_law_rule : TSD := (dRet (dTup (dCons (dVar 1) (dCons (dOp aAny (dC (.int 1)) (dCall sp_law_next (dCons (dVar 0) (dCons (dOp aPow (dC (.int 10)) (dC (.int 6))) dNil)))) (dCons (dCall sp_law_next (dCons (dVar 0) (dCons (dOp aPow (dC (.int 10)) (dC (.int 6))) dNil))) (dCons (dOp aAny (dOp mAny (dC (.int 2)) (dCall sp_law_next (dCons (dVar 0) (dCons (dOp aPow (dC (.int 10)) (dC (.int 8))) dNil)))) (dC (.int 1001))) dNil))))))
theorem vc_law_rule : VC sp_law_rule N_law_rule t_law_rule := by
  rintro ds G Q EX ⟨p, ws, N, rfl, hF, hN, hq⟩
  walk_at "go law_rule"
  refine st_drawI hF (by omega) (by decide) fun a G1 a0 a1 hF1 hB1 => ?_
  walk_at "d"
  refine st_drawI hF1 (by omega) (by decide) fun b G2 b0 b1 hF2 hB2 => ?_
  walk_at "d"
  refine st_drawI hF2 (by omega) (by decide) fun c G3 c0 c1 hF3 hB3 => ?_
  walk_at "d"
  rw [show (10 : Int) ^ Int.toNat 6 = 1000000 from rfl] at a1 b1
  rw [show (10 : Int) ^ Int.toNat 8 = 100000000 from rfl] at c1
  refine st_mulI (mulW64 (by decide) (by omega)) ?_
  walk_at "d"
  exact hq ⟨ws, 1 + a, b, 2 * c + 1001⟩ _ ⟨⟨by show 0 ≤ 1 + a; omega, by show 1 + a < _; omega⟩, ⟨b0, by show b < _; omega⟩, ⟨by show 1000 ≤ 2 * c + 1001; omega, by show 2 * c + 1001 < _; omega⟩⟩ hF3 ((hB1.trans hB2).trans hB3)
def halves : Nat → Int → Int → Int × Int
  | 0, f, c => (f, c)
  | n + 1, f, c => if c ≠ 0 ∧ c % 2 = 0 then halves n (2 * f) (c / 2) else (f, c)
theorem halves_stop {n : Nat} {f c : Int} (h : ¬ (c ≠ 0 ∧ c % 2 = 0)) : halves n f c = (f, c) := by
  cases n with
  | zero => rfl
  | succ n => rw [halves, if_neg h]
theorem halves_mul {z : Int} : ∀ {n : Nat} {f c : Int}, f * c = z → 0 < f → (halves n f c).1 * (halves n f c).2 = z ∧ 0 < (halves n f c).1
  | 0, f, c, h, p => ⟨h, p⟩
  | n + 1, f, c, h, p => by
    rw [halves]
    split
    · rename_i hc
      refine halves_mul ?_ (by omega)
      have : c = 2 * (c / 2) := by omega
      rw [← h]
      conv => rhs; rw [this]
      ac_rfl
    · exact ⟨h, p⟩
def coreR (ws : List Str) (z : Int) : Int × Int :=
  let p := if ("two" : Str) ∈ ws then halves z.natAbs 1 z else (1, z)
  if ("odd" : Str) ∈ ws ∧ p.2 < 0 then (0 - p.1, 0 - p.2) else p
theorem le_mul {f c : Int} (hf : 0 < f) (hc : c ≠ 0) : f.natAbs ≤ (f * c).natAbs ∧ c.natAbs ≤ (f * c).natAbs := by
  rw [Int.natAbs_mul]
  have h1 : 0 < f.natAbs := by omega
  have h2 : 0 < c.natAbs := by omega
  exact ⟨Nat.le_mul_of_pos_right _ h2, Nat.le_mul_of_pos_left _ h1⟩
theorem bt_le {b : Nat} {x y : Int} (h : Bt b y) (l : x.natAbs ≤ y.natAbs) : Bt b x := .of (Nat.lt_of_le_of_lt l h.to)
theorem half_bt {b n : Nat} {z : Int} (h : Bt b z) (hb : 2 ≤ b) : Bt b (halves n 1 z).1 ∧ Bt b (halves n 1 z).2 := by
  by_cases hz : z = 0
  · subst hz
    rw [halves_stop (by simp)]
    exact ⟨(Bt.of (b := 2) (by decide)).mono hb, h⟩
  · obtain ⟨h1, h2⟩ := halves_mul (z := z) (n := n) (f := 1) (c := z) (by omega) (by decide)
    have hc : (halves n 1 z).2 ≠ 0 := fun e => hz (by rw [← h1, e]; simp)
    obtain ⟨a1, a2⟩ := le_mul h2 hc
    rw [h1] at a1 a2
    exact ⟨bt_le h a1, bt_le h a2⟩
theorem core_bt {ws : List Str} {z : Int} (h : Bt 3400 z) : Bt 3400 (coreR ws z).1 ∧ Bt 3400 (coreR ws z).2 := by
  have k : ∀ p : Int × Int, Bt 3400 p.1 ∧ Bt 3400 p.2 → Bt 3400 (if ("odd" : Str) ∈ ws ∧ p.2 < 0 then (0 - p.1, 0 - p.2) else p).1 ∧ Bt 3400 (if ("odd" : Str) ∈ ws ∧ p.2 < 0 then (0 - p.1, 0 - p.2) else p).2 := by
    rintro p ⟨h1, h2⟩
    split
    · simp only [Int.zero_sub]
      exact ⟨h1.neg, h2.neg⟩
    · exact ⟨h1, h2⟩
  refine k _ ?_
  split
  · exact half_bt h (by decide)
  · exact ⟨(Bt.of (x := 1) (b := 2) (by decide)).mono (by decide), h⟩
theorem core_mul {ws : List Str} {z : Int} : (coreR ws z).1 * (coreR ws z).2 = z := by
  have k : ∀ p : Int × Int, p.1 * p.2 = z → (if ("odd" : Str) ∈ ws ∧ p.2 < 0 then (0 - p.1, 0 - p.2) else p).1 * (if ("odd" : Str) ∈ ws ∧ p.2 < 0 then (0 - p.1, 0 - p.2) else p).2 = z := by
    rintro p h
    split
    · simp only [Int.zero_sub, Int.neg_mul_neg]; exact h
    · exact h
  refine k _ ?_
  split
  · exact (halves_mul (by omega) (by decide)).1
  · simp
def pickR (r : Rul) (z : Int) : Int :=
  let p : Int × Int := if ("odd" : Str) ∈ r.ws ∧ r.m / 2 < z % r.m then (r.m - z % r.m, -1) else (z % r.m, 1)
  if p.1 < 100 then p.2 * p.1 else p.2 * (p.1 + r.m * ((p.1 * r.a + r.b) % 1000003 % 5))
def roundR (r : Rul) (z : Int) : Int :=
  if ("merge" : Str) ∈ r.ws then pickR r z
  else if z = 0 ∧ (("odd" : Str) ∈ r.ws ∨ ("two" : Str) ∈ r.ws) then 0
  else
    let p := coreR r.ws z
    let m := (p.2 * r.a + r.b) % 1000003
    if ("still" : Str) ∉ r.ws then p.1 * (m - 500000)
    else if p.2 % 14 = 1 then p.1 * p.2 else p.1 * (14 * m + 1)
theorem pick_bt {r : Rul} (h : RulOk r) (z : Int) : Bt 400 (pickR r z) := by
  obtain ⟨⟨a0, a1⟩, ⟨b0, b1⟩, ⟨m0, m1⟩⟩ := h
  have h1 := Int.emod_nonneg z (show r.m ≠ 0 by omega)
  have h2 := Int.emod_lt_of_pos z (show 0 < r.m by omega)
  have k : ∀ p : Int × Int, (0 ≤ p.1 ∧ p.1 < 2 ^ 40) → (p.2 = 1 ∨ p.2 = -1) → Bt 400 (if p.1 < 100 then p.2 * p.1 else p.2 * (p.1 + r.m * ((p.1 * r.a + r.b) % 1000003 % 5))) := by
    rintro ⟨x, s⟩ ⟨x0, x1⟩ hs
    dsimp only at x0 x1 hs ⊢
    have bs : Bt 2 s := .of (by rcases hs with h | h <;> rw [h] <;> decide)
    have bx : Bt 64 x := .of (by omega)
    have bm : Bt 64 r.m := .of (by omega)
    have hq0 := Int.emod_nonneg ((x * r.a + r.b) % 1000003) (show (5 : Int) ≠ 0 by decide)
    have hq1 := Int.emod_lt_of_pos ((x * r.a + r.b) % 1000003) (show (0 : Int) < 5 by decide)
    have bq : Bt 64 ((x * r.a + r.b) % 1000003 % 5) := .of (by omega)
    split
    · exact (bs.mul bx).mono (by decide)
    · exact (bs.mul (bx.add (bm.mul bq))).mono (by decide)
  refine k _ ?_ ?_
  · split
    · exact ⟨by show 0 ≤ r.m - z % r.m; omega, by show r.m - z % r.m < _; omega⟩
    · exact ⟨h1, by show z % r.m < _; omega⟩
  · split
    · exact .inr rfl
    · exact .inl rfl
theorem round_bt {r : Rul} (h : RulOk r) {z : Int} (hz : Bt 3400 z) : Bt 4000 (roundR r z) := by
  unfold roundR
  split
  · exact (pick_bt h z).mono (by decide)
  · split
    · exact (Bt.of (b := 2) (by decide)).mono (by decide)
    · obtain ⟨c1, c2⟩ := core_bt (ws := r.ws) hz
      have h1 := Int.emod_nonneg ((coreR r.ws z).2 * r.a + r.b) (show (1000003 : Int) ≠ 0 by decide)
      have h2 := Int.emod_lt_of_pos ((coreR r.ws z).2 * r.a + r.b) (show (0 : Int) < 1000003 by decide)
      have b1 : Bt 64 (((coreR r.ws z).2 * r.a + r.b) % 1000003 - 500000) := .of (by omega)
      have b2 : Bt 64 (14 * (((coreR r.ws z).2 * r.a + r.b) % 1000003) + 1) := .of (by omega)
      dsimp only
      split
      · exact (c1.mul b1).mono (by decide)
      · split
        · rw [core_mul]; exact hz.mono (by decide)
        · exact (c1.mul b2).mono (by decide)
def sp_law_core : SpD := fun ds G Q _ => ∃ (ws : List Str) (z : Int), ds = [.tup (ws.map D.str), .int z] ∧ Bt 3400 z ∧ Q (.tup [.int (coreR ws z).1, .int (coreR ws z).2]) G
theorem len_law_core : LN sp_law_core 2 := by rintro ds G Q E ⟨ws, z, rfl, _⟩; rfl
def N_law_core : List Str := ["_law_words_here", "_law_number", "_law_factor", "_law_core_here"]
abbrev t_law_core_1 : TSD := (dSeq (dIfS (dAnd (dTest (dOp (iAny false) (dC (.str "odd")) (dVar 0))) (dTest (dOp cLtI (dVar 3) (dC (.int 0)))))
  (dPar 2 3 (dCons (dOp aSub (dC (.int 0)) (dVar 2)) (dCons (dOp aSub (dC (.int 0)) (dVar 3)) dNil)))
  dNext)
  (dRet (dTup (dCons (dVar 2) (dCons (dVar 3) dNil)))))
abbrev t_law_core_2 : TSD := (dSeq (dWhile (dAnd (dTest (dOp (iAny false) (dC (.str "two")) (dVar 0))) (dAnd (dTest (dOp (eAny true) (dVar 3) (dC (.int 0)))) (dTest (dOp (eAny false) (dOp aMod (dVar 3) (dC (.int 2))) (dC (.int 0))))))
  (dPar 2 3 (dCons (dOp mAny (dC (.int 2)) (dVar 2)) (dCons (dOp aDiv (dVar 3) (dC (.int 2))) dNil))))
  t_law_core_1)
def t_law_core : TSD := (dSeq (dPar 2 3 (dCons (dC (.int 1)) (dCons (dVar 1) dNil)))
  t_law_core_2)
theorem vc_law_core : VC sp_law_core N_law_core t_law_core := by
  rintro ds G Q EX ⟨ws, z, rfl, hz, hq⟩
  walk_at "go law_core"
  refine while_set [2, 3] (fun m vs G' => ∃ f c : Int, vs = [some (.int f), some (.int c)] ∧ G' = G ∧ f * c = z ∧ 0 < f ∧ (c ≠ 0 ∨ f = 1) ∧ c.natAbs ≤ m ∧ (if ("two" : Str) ∈ ws then halves z.natAbs 1 z else (1, z)) = (if ("two" : Str) ∈ ws then halves m f c else (f, c))) z.natAbs rfl ⟨1, z, rfl, rfl, by omega, by decide, .inr rfl, Nat.le_refl _, rfl⟩ ?_
  rintro m vs G' nx' ⟨f, c, rfl, rfl, hm, hf, hfc, hcm, he⟩ hn
  walk_at "sl"
  have hbf : Bt 3400 f ∧ Bt 3400 c := by
    by_cases hc : c = 0
    · obtain rfl : f = 1 := hfc.resolve_left fun h => h hc
      subst hc
      exact ⟨(Bt.of (b := 2) (by decide)).mono (by decide), (Bt.of (b := 2) (by decide)).mono (by decide)⟩
    · obtain ⟨a1, a2⟩ := le_mul hf hc
      rw [hm] at a1 a2
      exact ⟨bt_le hz a1, bt_le hz a2⟩
  by_cases hg : ("two" : Str) ∈ ws ∧ c ≠ 0 ∧ c % 2 = 0
  · obtain ⟨g1, g2, g3⟩ := hg
    rw [if_pos g1, if_pos g1] at he
    obtain ⟨m, rfl⟩ : ∃ k, m = k + 1 := ⟨m - 1, by omega⟩
    rw [halves, if_pos ⟨g2, g3⟩] at he
    rw [if_pos (by simp [g1, g2, g3])]
    walk_at "d"
    refine st_mulI (cmul_bt (Bt.of (x := 2) (b := 3) (by decide)) hbf.1 (by decide)) ?_
    walk_at "d"
    refine st_oI (cdiv_bt (by decide) (Bt.of (x := 2) (b := 3) (by decide)) (by decide)) ?_
    walk_at "d"
    refine while_go hn rfl (m' := m) (by omega) ⟨2 * f, c / 2, rfl, rfl, ?_, by omega, .inl (by omega), by omega, ?_⟩
    · have e2 : c = 2 * (c / 2) := by omega
      rw [← hm]
      conv => rhs; rw [e2]
      ac_rfl
    · rw [if_pos g1, if_pos g1]; exact he
  · rw [if_neg (by simpa using fun h1 h2 h3 => hg ⟨h1, h2, h3⟩)]
    have hp : (if ("two" : Str) ∈ ws then halves z.natAbs 1 z else (1, z)) = (f, c) := by
      rw [he]
      split
      · rename_i h1
        exact halves_stop fun h2 => hg ⟨h1, h2.1, h2.2⟩
      · rfl
    have hcore : coreR ws z = if ("odd" : Str) ∈ ws ∧ c < 0 then (0 - f, 0 - c) else (f, c) := by
      unfold coreR
      dsimp only
      rw [hp]
    rw [hcore] at hq
    walk_at "d"
    refine st_iteB (fun h1 => ?_) (fun h1 => ?_)
    · rw [if_pos (by simpa using h1)] at hq
      walk_at "d"
      exact hq
    · rw [if_neg (by simpa using h1)] at hq
      walk_at "d"
      exact hq
def sp_law_pick : SpD := fun ds G Q _ => ∃ (r : Rul) (z : Int), ds = [rulV r, .int z] ∧ RulOk r ∧ Q (.int (pickR r z)) G
theorem len_law_pick : LN sp_law_pick 2 := by rintro ds G Q E ⟨r, z, rfl, _⟩; rfl
def N_law_pick : List Str := ["_law_rule_here", "_law_number", "_law_words_here", "_law_one_here", "_law_other", "_law_modulus", "_law_rest", "_law_sign"]
abbrev t_law_pick_1 : TSD := (dRet (dOp mAny (dVar 7) (dOp aAny (dVar 6) (dOp mAny (dVar 5) (dOp aMod (dOp aMod (dOp aAny (dOp mAny (dVar 6) (dVar 3)) (dVar 4)) (dC (.int 1000003))) (dC (.int 5)))))))
abbrev t_law_pick_2 : TSD := (dSeq (dIfS (dAnd (dTest (dOp (iAny false) (dC (.str "odd")) (dVar 2))) (dTest (dOp cGtI (dVar 6) (dOp aDiv (dVar 5) (dC (.int 2))))))
  (dPar 6 7 (dCons (dOp aSub (dVar 5) (dVar 6)) (dCons (dUn uNeg (dC (.int 1))) dNil)))
  dNext)
  (dSeq (dIfS (dTest (dOp cLtI (dVar 6) (dC (.int 100))))
  (dRet (dOp mAny (dVar 7) (dVar 6)))
  dNext)
  t_law_pick_1))
def t_law_pick : TSD := (dSeq (dAsg (dVar 0) (gdTup 4 (gdCons (gdName 2) (gdCons (gdName 3) (gdCons (gdName 4) (gdCons (gdName 5) gdNil))))))
  (dSeq (dPar 6 7 (dCons (dOp aMod (dCB kInt (dCons (dVar 1) dNil)) (dVar 5)) (dCons (dC (.int 1)) dNil)))
  t_law_pick_2))
theorem vc_law_pick : VC sp_law_pick N_law_pick t_law_pick := by
  rintro ds G Q EX ⟨r, z, rfl, hr, hq⟩
  have m0 := hr.m0
  obtain ⟨⟨a0, a1⟩, ⟨b0, b1⟩, _⟩ := hr
  have h1 := Int.emod_nonneg z (show r.m ≠ 0 by omega)
  have h2 := Int.emod_lt_of_pos z (show 0 < r.m by omega)
  unfold pickR at hq
  have hd2 : CDivW r.m 2 := cdiv_bt (by decide) (Bt.of (x := 2) (b := 3) (by decide)) (by decide)
  walk_at "gi law_pick"
  refine st_cut [6, 7] (fun vs G' => ∃ p : Int × Int, vs = [some (.int p.1), some (.int p.2)] ∧ G' = G ∧ p = (if ("odd" : Str) ∈ r.ws ∧ r.m / 2 < z % r.m then (r.m - z % r.m, -1) else (z % r.m, 1))) (fun nx' hk => ?_) ?_
  · walk_at "d"
    refine st_iteB (fun hc => ?_) (fun hc => ?_)
    · walk_at "d"
      exact cut_fin hk rfl ⟨(r.m - z % r.m, -1), rfl, rfl, by rw [if_pos (by simpa using hc)]⟩
    · walk_at "d"
      exact cut_fin hk rfl ⟨(z % r.m, 1), rfl, rfl, by rw [if_neg (by simpa using hc)]⟩
  rintro vs G' ⟨p, rfl, rfl, hp⟩
  rw [← hp] at hq
  have hp1 : 0 ≤ p.1 ∧ p.1 < 2 ^ 40 ∧ (p.2 = 1 ∨ p.2 = -1) := by
    rw [hp]
    split
    · exact ⟨by show 0 ≤ r.m - z % r.m; omega, by show r.m - z % r.m < _; omega, .inr rfl⟩
    · exact ⟨h1, by show z % r.m < _; omega, .inl rfl⟩
  obtain ⟨p1, p2⟩ := p
  dsimp only at hp1 hq
  walk_at "sl"
  have bs : p2.natAbs < 2 ^ 64 := by omega
  have hq0 := Int.emod_nonneg ((p1 * r.a + r.b) % 1000003) (show (5 : Int) ≠ 0 by decide)
  have hq1 := Int.emod_lt_of_pos ((p1 * r.a + r.b) % 1000003) (show (0 : Int) < 5 by decide)
  have bp : Bt 64 p1 := .of (by omega)
  have bs : Bt 64 p2 := .of (by omega)
  have bm : Bt 64 r.m := .of (by omega)
  have ba : Bt 64 r.a := .of (by omega)
  have bq : Bt 64 ((p1 * r.a + r.b) % 1000003 % 5) := .of (by omega)
  refine st_iteB (fun hc => ?_) (fun hc => ?_)
  · rw [if_pos (by simpa using hc)] at hq
    walk_at "d"
    refine st_mulI (cmul_bt bs bp (by decide)) ?_
    exact hq
  · rw [if_neg (by simpa using hc)] at hq
    walk_at "d"
    refine st_mulI (cmul_bt bp ba (by decide)) ?_
    walk_at "d"
    refine st_mulI (cmul_bt bm bq (by decide)) ?_
    walk_at "d"
    refine st_mulI (cmul_bt bs (bp.add (bm.mul bq)) (by decide)) ?_
    exact hq
def sp_law_round : SpD := fun ds G Q _ => ∃ (r : Rul) (z : Int), ds = [rulV r, .int z] ∧ RulOk r ∧ Bt 3400 z ∧ Q (.int (roundR r z)) G
theorem len_law_round : LN sp_law_round 2 := by rintro ds G Q E ⟨r, z, rfl, _⟩; rfl
def N_law_round : List Str := ["_law_rule_here", "_law_number", "_law_mixed", "_law_words_here", "_law_one_here", "_law_other", "_law_modulus", "_law_factor", "_law_core_here"]
abbrev t_law_round_1 : TSD := (dRet (dIf (dTest (dOp (eAny false) (dOp aMod (dCB kInt (dCons (dVar 8) dNil)) (dC (.int 14))) (dC (.int 1)))) (dOp mAny (dVar 7) (dVar 8)) (dOp mAny (dVar 7) (dOp aAny (dOp mAny (dC (.int 14)) (dVar 2)) (dC (.int 1))))))
abbrev t_law_round_2 : TSD := (dSeq (dAsg (dOp aMod (dOp aAny (dOp mAny (dVar 8) (dVar 4)) (dVar 5)) (dC (.int 1000003))) (gdName 2))
  (dSeq (dIfS (dTest (dOp (iAny true) (dC (.str "still")) (dVar 3)))
  (dRet (dOp mAny (dVar 7) (dOp aSub (dVar 2) (dC (.int 500000)))))
  dNext)
  t_law_round_1))
abbrev t_law_round_3 : TSD := (dSeq (dIfS (dAnd (dTest (dOp (eAny false) (dVar 1) (dC (.int 0)))) (dOr (dTest (dOp (iAny false) (dC (.str "odd")) (dVar 3))) (dTest (dOp (iAny false) (dC (.str "two")) (dVar 3)))))
  (dRet (dC (.int 0)))
  dNext)
  (dSeq (dAsg (dCall sp_law_core (dCons (dVar 3) (dCons (dVar 1) dNil))) (gdTup 2 (gdCons (gdName 7) (gdCons (gdName 8) gdNil))))
  t_law_round_2))
abbrev t_law_round_4 : TSD := (dSeq (dIfS (dTest (dOp (iAny false) (dC (.str "merge")) (dVar 3)))
  (dRet (dCall sp_law_pick (dCons (dVar 0) (dCons (dVar 1) dNil))))
  dNext)
  t_law_round_3)
def t_law_round : TSD := (dSeq (dAsg (dVar 0) (gdTup 4 (gdCons (gdName 3) (gdCons (gdName 4) (gdCons (gdName 5) (gdCons (gdName 6) gdNil))))))
  t_law_round_4)
theorem vc_law_round : VC sp_law_round N_law_round t_law_round := by
  rintro ds G Q EX ⟨r, z, rfl, hr, hz, hq⟩
  unfold roundR at hq
  walk_at "go law_round"
  refine st_iteB (fun h1 => ?_) (fun h1 => ?_)
  · rw [if_pos (by simpa using h1)] at hq
    walk_at "d"
    exact ⟨r, z, rfl, hr, hq⟩
  rw [if_neg (by simpa using h1)] at hq
  walk_at "d"
  refine st_iteB (fun h2 => ?_) (fun h2 => ?_)
  · rw [if_pos (by simpa using h2)] at hq
    walk_at "d"
    exact hq
  rw [if_neg (by simpa using h2)] at hq
  dsimp only at hq
  obtain ⟨⟨a0, a1⟩, ⟨b0, b1⟩, ⟨m0, m1⟩⟩ := hr
  obtain ⟨c1, c2⟩ := core_bt (ws := r.ws) hz
  have k1 := Int.emod_nonneg ((coreR r.ws z).2 * r.a + r.b) (show (1000003 : Int) ≠ 0 by decide)
  have k2 := Int.emod_lt_of_pos ((coreR r.ws z).2 * r.a + r.b) (show (0 : Int) < 1000003 by decide)
  have d0 : Bt 64 (((coreR r.ws z).2 * r.a + r.b) % 1000003) := .of (by omega)
  have d1 : Bt 64 (((coreR r.ws z).2 * r.a + r.b) % 1000003 - 500000) := .of (by omega)
  have d2 : Bt 64 (14 * (((coreR r.ws z).2 * r.a + r.b) % 1000003) + 1) := .of (by omega)
  have ba : Bt 64 r.a := .of (by omega)
  walk_at "d"
  refine ⟨r.ws, z, rfl, hz, ?_⟩
  generalize coreR r.ws z = p at *
  obtain ⟨f, c⟩ := p
  dsimp only at *
  walk_at "d"
  refine st_mulI (cmul_bt c2 ba (by decide)) ?_
  walk_at "d"
  refine st_iteB (fun h3 => ?_) (fun h3 => ?_)
  · rw [if_pos (by simpa using h3)] at hq
    walk_at "d"
    refine st_mulI (cmul_bt c1 d1 (by decide)) ?_
    exact hq
  rw [if_neg (by simpa using h3)] at hq
  walk_at "d"
  refine st_iteB (fun h4 => ?_) (fun h4 => ?_)
  · rw [if_pos (by simpa using h4)] at hq
    walk_at "d"
    refine st_mulI (cmul_bt c1 c2 (by decide)) ?_
    exact hq
  · rw [if_neg (by simpa using h4)] at hq
    walk_at "d"
    refine st_mulI (cmul_bt (Bt.of (x := 14) (b := 8) (by decide)) d0 (by decide)) ?_
    walk_at "d"
    refine st_mulI (cmul_bt c1 d2 (by decide)) ?_
    exact hq
theorem caps_strs : ∀ l : List Str, capsD (l.map D.str) = true
  | [] => rfl
  | x :: l => by
    show (capD (.str x) && capsD (l.map D.str)) = true
    rw [caps_strs l]; rfl
theorem cap_rul (r : Rul) : capD (rulV r) = true := by
  show ((capsD (r.ws.map D.str)) && _) = true
  rw [caps_strs]; rfl
/-- what a lambda promises that rounds by the rule -/
def rulC (r : Rul) : SpD := fun us G Q _ => ∃ z : Int, us = [.int z] ∧ ¬ v_MOST ≤ (z.natAbs : Int) ∧ Q (.int (roundR r z)) G
theorem rulC_rho {r : Rul} (h : RulOk r) : Rho (rulC r) (roundR r) := ⟨fun z G Q E h q => ⟨z, rfl, h, q⟩, fun z hz => round_bt h (most_bt hz)⟩

/-! ### far integers -/
theorem pow10_lt {f : Nat} (h : f ≤ 64) : (10 : Int) ^ f ≤ 10 ^ 64 := by
  have := Nat.pow_le_pow_right (n := 10) (by decide) h
  exact_mod_cast this
def sp_law_far : SpD := fun ds G Q _ => ∃ (p : Addr) (f : Nat) (N : Nat), ds = [.ref p, .int (f : Int)] ∧ 0 < f ∧ f ≤ 64 ∧ Feed G p N ∧ N ≤ 2 ^ 27 ∧ ∀ (z : Int) G', (z.natAbs < 10 ^ f) → Feed G' p (N + 70) → But p G G' → Q (.int z) G'
theorem len_law_far : LN sp_law_far 2 := by rintro ds G Q E ⟨p, f, N, rfl, _⟩; rfl
def N_law_far : List Str := ["_law_drawn", "_law_figures", "_law_found", "_law_k"]
abbrev t_law_far_1 : TSD := (dSeq (dFor (iRngD1 (dCons (dOp aAny (dC (.int 1)) (dCall sp_law_next (dCons (dVar 0) (dCons (dVar 1) dNil)))) dNil)) (gdName 3)
  (dAsg (dOp aAny (dOp mAny (dC (.int 10)) (dVar 2)) (dCall sp_law_next (dCons (dVar 0) (dCons (dC (.int 10)) dNil)))) (gdName 2)))
  (dRet (dIf (dTest (dOp (eAny false) (dCall sp_law_next (dCons (dVar 0) (dCons (dC (.int 2)) dNil))) (dC (.int 0)))) (dVar 2) (dOp aSub (dC (.int 0)) (dVar 2)))))
def t_law_far : TSD := (dSeq (dAsg (dC (.int 0)) (gdName 2))
  t_law_far_1)
theorem vc_law_far : VC sp_law_far N_law_far t_law_far := by
  rintro ds G Q EX ⟨p, f, N, rfl, h1, h2, hF, hN, hq⟩
  walk_at "go law_far"
  refine st_draw hF (by omega) (by omega) (by omega) fun t G1 ht hF1 hB1 => ?_
  walk_at "d"
  rw [show (1 + (t : Int)).toNat = t + 1 by omega]
  refine for_rng_set (n := (t + 1)) [2, 3] (fun i vs G' => (∃ (e : Int) (u3 : Option D), vs = [some (.int e), u3] ∧ Feed G' p (N + 1 + i) ∧ But p G G' ∧ 0 ≤ e ∧ e < 10 ^ i)) rfl ⟨_, _, rfl, hF1.mono (by first | omega | (simp only [List.length_append, List.length_cons, List.length_nil, List.length_map]; omega)), hB1, by decide, by decide⟩ ?_ ?_
  · rintro i vs G2 hi ⟨e, u3, rfl, hF2, hB2, lo, hi⟩
    walk_at "sl"
    have hb : (10 : Int) ^ i ≤ 10 ^ 64 := pow10_lt (by omega)
    refine st_mulI (mulx_ok (a := 4) (b := 240) (by decide) (by omega) (by decide)) ?_
    walk_at "d"
    refine st_drawI hF2 (by omega) (by decide) fun c G3 c0 c1 hF3 hB3 => ?_
    walk_at "d"
    walk_at "fin"
    refine ⟨_, _, rfl, hF3.mono (by omega), (hB2.trans hB3), by omega, ?_⟩
    rw [Int.pow_succ]
    omega
  · rintro vs G2 ⟨e, u3, rfl, hF2, hB2, lo, hi⟩
    walk_at "sl"
    have hb : (10 : Int) ^ (t + 1) ≤ 10 ^ f := by
      have := Nat.pow_le_pow_right (n := 10) (by decide) (show t + 1 ≤ f by omega)
      exact_mod_cast this
    have hz : e.natAbs < 10 ^ f := by
      have : ((10 ^ f : Nat) : Int) = (10 : Int) ^ f := by simp
      omega
    refine st_drawI hF2 (by omega) (by decide) fun c G3 c0 c1 hF3 hB3 => ?_
    walk_at "d"
    refine st_ite (fun hc => ?_) (fun hc => ?_)
    · walk_at "d"
      exact hq _ _ hz (hF3.mono (by omega)) (hB2.trans hB3)
    · walk_at "d"
      exact hq _ _ (by rw [Int.zero_sub, Int.natAbs_neg]; exact hz) (hF3.mono (by omega)) (hB2.trans hB3)

/-! ### a drawn step of a loop -/
structure MvOk (k : Nat) (m : Mv) : Prop where
  sg : m.1 = 1 ∨ m.1 = -1 ∨ m.1 = 0
  at_ : m.2 < k
structure StpOk (r : Nat) (s : Stp) : Prop where
  rl : s.rows.length ≤ 6
  rw : Stair (TmsOk 10 2 3) (r + 1) s.rows
  ml : s.moves.length = r
  mv : ∀ m ∈ s.moves, MvOk (r + 1 + s.rows.length) m
theorem atI_lt {xs : List D} {k : Nat} (h : k < xs.length) : atI xs (k : Int) = some xs[k] := atI_nat (List.getElem?_eq_getElem h)
theorem cut_from1 (xs : List D) : dcut xs (some 1) none = xs.drop 1 := by
  unfold dcut
  rw [show HT.sIx xs.length xs.length none = xs.length from rfl]
  cases xs with
  | nil => rfl
  | cons a l =>
    rw [show HT.sIx (a :: l).length 0 (some 1) = 1 by rw [show (1 : Int) = ((1 : Nat) : Int) by rfl, HT.sIx_nat]; simp]
    apply List.take_of_length_le
    simp
theorem step_some (pl ot : Nat) (s : Nat) (h : s < 7) : ∃ ps : List Nat, [D.tup [], .tup [dN pl, dN ot], .tup [dN ot, dN pl], .tup [dN pl], .tup [dN pl], .tup [dN pl], .tup [dN pl]][s]? = some (.tup (ps.map dN)) ∧ ps.length ≤ 2 ∧ ∀ p ∈ ps, p = pl ∨ p = ot := by
  match s, h with
  | 0, _ => exact ⟨[], rfl, by simp, by simp⟩
  | 1, _ => exact ⟨[pl, ot], rfl, by simp, by simp⟩
  | 2, _ => exact ⟨[ot, pl], rfl, by simp, fun p hp => by simp at hp; omega⟩
  | 3, _ => exact ⟨[pl], rfl, by simp, by simp⟩
  | 4, _ => exact ⟨[pl], rfl, by simp, by simp⟩
  | 5, _ => exact ⟨[pl], rfl, by simp, by simp⟩
  | 6, _ => exact ⟨[pl], rfl, by simp, by simp⟩
def sp_law_step : SpD := fun ds G Q _ => ∃ (p : Addr) (r : Nat) (N : Nat), ds = [.ref p, dN r] ∧ 0 < r ∧ r ≤ 3 ∧ Feed G p N ∧ N ≤ 2 ^ 27 ∧ ∀ (s : Stp) G', (StpOk r s) → Feed G' p (N + 150) → But p G G' → Q (stpV s) G'
theorem len_law_step : LN sp_law_step 2 := by rintro ds G Q E ⟨p, r, N, rfl, _⟩; rfl
def N_law_step : List Str := ["_law_drawn", "_law_registers", "_law_number", "_law_moves", "_law_kept", "_law_rows", "_law_letter", "_law_ahead", "_law_terms", "_law_k", "_law_sort", "_law_places", "_law_some", "_law_place", "_law_other"]
abbrev t_law_step_1 : TSD := (dDrop (dBM tyL mAppend (dVar 8) (dCons (dTup (dCons (dCall sp_law_one (dCons (dVar 0) (dCons (dLst (dCons (dC (.int 1)) (dCons (dUn uNeg (dC (.int 1))) (dCons (dC (.int 2)) (dCons (dUn uNeg (dC (.int 2))) (dCons (dOp aSub (dCall sp_law_next (dCons (dVar 0) (dCons (dC (.int 19)) dNil))) (dC (.int 9))) dNil)))))) dNil))) (dCons (dVar 12) dNil))) dNil)))
abbrev t_law_step_2 : TSD := (dSeq (dAsg (dOp xAny (dLst (dCons (dTup dNil) (dCons (dTup (dCons (dVar 13) (dCons (dVar 14) dNil))) (dCons (dTup (dCons (dVar 14) (dCons (dVar 13) dNil))) (dCons (dTup (dCons (dVar 13) dNil)) (dCons (dTup (dCons (dVar 13) dNil)) (dCons (dTup (dCons (dVar 13) dNil)) (dCons (dTup (dCons (dVar 13) dNil)) dNil)))))))) (dVar 10)) (gdName 12))
  t_law_step_1)
abbrev t_law_step_3 : TSD := (dSeq (dIfS (dAnd (dTest (dOp cLtI (dVar 2) (dC (.int 2)))) (dTest (dOp (eAny false) (dCall sp_law_next (dCons (dVar 0) (dCons (dC (.int 2)) dNil))) (dC (.int 0)))))
  (dAsg (dCall sp_law_next (dCons (dVar 0) (dCons (dOp aAny (dOp aAny (dVar 6) (dC (.int 1))) (dVar 2)) dNil))) (gdName 14))
  dNext)
  t_law_step_2)
abbrev t_law_step_4 : TSD := (dSeq (dPar3 13 14 10 (dCons (dCall sp_law_next (dCons (dVar 0) (dCons (dOp aAny (dOp aAny (dVar 6) (dC (.int 1))) (dVar 2)) dNil))) (dCons (dVar 6) (dCons (dCall sp_law_next (dCons (dVar 0) (dCons (dC (.int 7)) dNil))) dNil))))
  t_law_step_3)
abbrev t_law_step_5 : TSD := (dDrop (dBM tyL mAppend (dVar 5) (dCons (dCB kTuple (dCons (dIf (dTest (dOp cLtI (dVar 10) (dC (.int 2)))) (dOp xAny (dLst (dCons (dSl (dVar 8) (dPart (dC (.int 1))) dNoPart) (dCons (dLst (dCons (dTup (dCons (dC (.int 5)) (dCons (dTup dNil) dNil))) dNil)) dNil))) (dVar 10)) (dVar 8)) dNil)) dNil)))
abbrev t_law_step_6 : TSD := (dSeq (dFor (iRngD1 (dCons (dCall sp_law_next (dCons (dVar 0) (dCons (dC (.int 3)) dNil))) dNil)) (gdName 9)
  t_law_step_4)
  (dFrz 8 (dSeq (dAsg (dCall sp_law_next (dCons (dVar 0) (dCons (dC (.int 24)) dNil))) (gdName 10))
  t_law_step_5)))
abbrev t_law_step_7 : TSD := (dSeq (dAsg (dLstM (dCons (dTup (dCons (dCall sp_law_one (dCons (dVar 0) (dCons (dLst (dCons (dC (.int 1)) (dCons (dC (.int 1)) (dCons (dUn uNeg (dC (.int 1))) (dCons (dC (.int 2)) dNil))))) dNil))) (dCons (dTup (dCons (dVar 7) dNil)) dNil))) dNil)) (gdName 8))
  t_law_step_6)
abbrev t_law_step_8 : TSD := (dSeq (dAsg (dIf (dTest (dOp (eAny false) (dVar 2) (dC (.int 0)))) (dVar 6) (dCall sp_law_one (dCons (dVar 0) (dCons (dLst (dCons (dVar 6) (dCons (dOp aAny (dVar 6) (dVar 2)) dNil))) dNil)))) (gdName 7))
  t_law_step_7)
abbrev t_law_step_9 : TSD := (dDrop (dBM tyL mAppend (dVar 3) (dCons (dTup (dCons (dCall sp_law_one (dCons (dVar 0) (dCons (dLst (dCons (dC (.int 1)) (dCons (dC (.int 1)) (dCons (dC (.int 1)) (dCons (dC (.int 1)) (dCons (dUn uNeg (dC (.int 1))) (dCons (dC (.int 0)) dNil))))))) dNil))) (dCons (dCall sp_law_one (dCons (dVar 0) (dCons (dVar 11) dNil))) dNil))) dNil)))
abbrev t_law_step_10 : TSD := (dSeq (dAsg (dLst (dCons (dVar 4) (dCons (dCall sp_law_next (dCons (dVar 0) (dCons (dVar 6) dNil))) (dCons (dOp aAny (dVar 6) (dCB kLen (dCons (dVar 5) dNil))) (dCons (dOp aAny (dVar 6) (dCB kLen (dCons (dVar 5) dNil))) dNil))))) (gdName 11))
  t_law_step_9)
abbrev t_law_step_11 : TSD := (dSeq (dFor (iRngD1 (dCons (dVar 1) dNil)) (gdName 4)
  t_law_step_10)
  (dFrz 3 (dRet (dTup (dCons (dCB kTuple (dCons (dVar 5) dNil)) (dCons (dCB kTuple (dCons (dVar 3) dNil)) dNil))))))
abbrev t_law_step_12 : TSD := (dSeq (dFor (iRngD1 (dCons (dCall sp_law_one (dCons (dVar 0) (dCons (dLst (dCons (dC (.int 0)) (dCons (dC (.int 1)) (dCons (dC (.int 2)) (dCons (dC (.int 3)) (dCons (dC (.int 3)) (dCons (dC (.int 6)) dNil))))))) dNil))) dNil)) (gdName 2)
  t_law_step_8)
  (dFrz 5 (dSeq (dAsg (dLstM dNil) (gdName 3))
  t_law_step_11)))
def t_law_step : TSD := (dSeq (dPar 5 6 (dCons (dLstM dNil) (dCons (dVar 1) dNil)))
  t_law_step_12)
theorem vc_law_step : VC sp_law_step N_law_step t_law_step := by
  rintro ds G Q EX ⟨p, r, N, rfl, h1, h2, hF, hN, hq⟩
  walk_at "go law_step"
  intro q hq1
  have hpq := hF.ne hq1
  walk_at "d"
  have hF := hF.put hpq (o := .lst [])
  refine st_oneM (c := dN) (l := [0, 1, 2, 3, 3, 6]) hF (by omega) ⟨by simp, by simp⟩ fun K G1 hK hF1 hB1 => ?_
  have hK6 : K ≤ 6 := by simp at hK; omega
  walk_at "d"
  have hq2 := hB1 q hpq.symm
  rw [gput_same] at hq2
  refine for_rng_set (n := K) [2, 7, 8, 9, 10, 12, 13, 14] (fun i vs G' => (∃ (rows : List (List Tm)) (u2 : Option D) (u7 : Option D) (u8 : Option D) (u9 : Option D) (u10 : Option D) (u12 : Option D) (u13 : Option D) (u14 : Option D), vs = [u2, u7, u8, u9, u10, u12, u13, u14] ∧ Feed G' p (N + 1 + 16 * i) ∧ But2 p q G G' ∧ G' q = some (.lst (rows.map tmsV)) ∧ rows.length = i ∧ Stair (TmsOk 10 2 3) (r + 1) rows)) rfl ⟨([]), _, _, _, _, _, _, _, _, rfl, hF1.mono (by first | omega | (simp only [List.length_append, List.length_cons, List.length_nil, List.length_map]; omega)), (But2.new.then hB1), hq2, rfl, Stair.nil⟩ ?_ ?_
  · rintro i vs G2 hi ⟨rows, u2, u7, u8, u9, u10, u12, u13, u14, rfl, hF2, hb, hr, hl, hs⟩
    walk_at "sle"
    refine st_cutE (fun d G' => ∃ a : Nat, d = dN a ∧ a < r + 1 + i ∧ Feed G' p (N + 1 + 16 * i + 1) ∧ But p G2 G') (fun Q' hk => ?_) ?_
    · walk_at "d"
      refine st_ite (fun hc => ?_) (fun hc => ?_)
      · walk_at "d"
        exact hk _ _ ⟨r, rfl, by omega, hF2.mono (by omega), .refl⟩
      · walk_at "d"
        refine st_oneM (c := D.int) (l := [(r : Int), r + i]) hF2 (by omega) ⟨by simp, by simp⟩ fun a G3 ha hF3 hB3 => ?_
        refine hk _ _ ⟨if a = r then r else r + i, ?_, ?_, hF3.mono (by omega), hB3⟩
        · simp only [List.mem_cons, List.not_mem_nil, or_false] at ha
          congr 1
          split <;> omega
        · split <;> omega
    rintro d G3 ⟨a, rfl, ha, hF3, hB3⟩
    walk_at "d"
    refine st_oneM (c := D.int) (l := [1, 1, -1, 2]) hF3 (by omega) ⟨by simp, by simp⟩ fun c G4 hc hF4 hB4 => ?_
    have hc10 : c.natAbs ≤ 10 := by simp only [List.mem_cons, List.not_mem_nil, or_false] at hc; omega
    walk_at "d"
    intro u hu
    have hpu := hF4.ne hu
    have hr3 := ((hB3.trans hB4) q hpq.symm).trans hr
    have hu2 := ((hB3.trans hB4) u hpu.symm).symm.trans hu
    have hqu : q ≠ u := ne_sn hr3 hu
    have hF4 := hF4.put hpu (o := .lst [tmV (c, [a])])
    have hb0 : But2 p u G2 (gput G4 u (.lst [tmV (c, [a])])) := fun b h1 h2 => (gput_ne h2).trans ((hB3.trans hB4) b h1)
    walk_at "d"
    refine st_draw hF4 (by omega) (by decide) (by decide) fun t G5 ht hF5 hB5 => ?_
    walk_at "d"
    have hu5 := (hB5 u hpu.symm).trans gput_same
    refine for_rng_set (n := t) [9, 10, 12, 13, 14] (fun j vs G' => (∃ (ts : List Tm) (u9 : Option D) (u10 : Option D) (u12 : Option D) (u13 : Option D) (u14 : Option D), vs = [u9, u10, u12, u13, u14] ∧ Feed G' p (N + 1 + 16 * i + 3 + 6 * j) ∧ But2 p u G2 G' ∧ G' u = some (.lst (ts.map tmV)) ∧ ts.length = 1 + j ∧ (∀ x ∈ ts, TmOk 10 2 (r + 1 + i) x))) rfl ⟨([(c, [a])]), _, _, _, _, _, rfl, hF5.mono (by first | omega | (simp only [List.length_append, List.length_cons, List.length_nil, List.length_map]; omega)), (hb0.then hB5), hu5, rfl, (fun x hx => by rw [List.mem_singleton.mp hx]; exact ⟨hc10, by simp, by simpa using ha⟩)⟩ ?_ ?_
    · rintro j vs G6 hj ⟨ts, u9, u10, u12, u13, u14, rfl, hF6, hb2, ht, tl, tok⟩
      walk_at "sl"
      refine st_draw hF6 (by omega) (by omega) (by omega) fun pl G7 hpl hF7 hB7 => ?_
      walk_at "d"
      refine st_draw hF7 (by omega) (by omega) (by omega) fun so G8 hso hF8 hB8 => ?_
      walk_at "di"
      refine st_cut [14] (fun vs G' => ∃ ot : Nat, vs = [some (dN ot)] ∧ ot < r + 1 + i ∧ Feed G' p (N + 1 + 16 * i + 3 + 6 * j + 4) ∧ But p G8 G') (fun nx' hk => ?_) ?_
      · walk_at "d"
        refine st_ite (fun h2 => ?_) (fun h2 => ?_)
        · walk_at "d"
          refine st_drawI hF8 (by omega) (by decide) fun w G9 w0 w1 hF9 hB9 => ?_
          walk_at "d"
          refine st_ite (fun h3 => ?_) (fun h3 => ?_)
          · walk_at "d"
            refine st_draw hF9 (by omega) (by omega) (by omega) fun ot G10 hot hF10 hB10 => ?_
            walk_at "d"
            exact cut_fin hk rfl ⟨ot, rfl, by omega, hF10.mono (by omega), hB9.trans hB10⟩
          · walk_at "d"
            exact cut_fin hk rfl ⟨r, rfl, by omega, hF9.mono (by omega), hB9⟩
        · walk_at "d"
          exact cut_fin hk rfl ⟨r, rfl, by omega, hF8.mono (by omega), .refl⟩
      rintro vs G9 ⟨ot, rfl, hot, hF9, hB9⟩
      have ht1 := (((hB7.trans hB8).trans hB9) u hpu.symm).trans ht
      walk_at "sl"
      obtain ⟨ps, eps, hp2, hps⟩ := step_some pl ot so (by omega)
      refine st_ix (.lst _) (atI_nat eps) ?_
      walk_at "d"
      refine st_drawI hF9 (by omega) (by decide) fun v G10 v0 v1 hF10 hB10 => ?_
      walk_at "d"
      refine st_oneM (c := D.int) (l := [1, -1, 2, -2, v - 9]) hF10 (by omega) ⟨by simp, by simp⟩ fun co G11 hco hF11 hB11 => ?_
      have hco10 : co.natAbs ≤ 10 := by simp only [List.mem_cons, List.not_mem_nil, or_false] at hco; omega
      have ht2 := (((((hB7.trans hB8).trans hB9).trans hB10).trans hB11) u hpu.symm).trans ht
      walk_at "d"
      walk_at "fin"
      refine ⟨(ts ++ [(co, ps)]), _, _, _, _, _, rfl, (hF11.put hpu).mono (by first | omega | (simp only [List.length_append, List.length_cons, List.length_nil, List.length_map]; omega)), (hb2.then ((((hB7.trans hB8).trans hB9).trans hB10).trans hB11)).put, (by rw [List.map_append]; exact gput_same), by simp; omega, ?_⟩
      intro x hx
      rcases List.mem_append.mp hx with hx | hx
      · exact tok x hx
      · rw [List.mem_singleton.mp hx]
        exact ⟨hco10, hp2, fun y hy => by rcases hps y hy with rfl | rfl <;> omega⟩
    · rintro vs G6 ⟨ts, u9, u10, u12, u13, u14, rfl, hF6, hb2, ht, tl, tok⟩
      walk_at "sl"
      have hF6 := hF6.del hpu
      have hr6 := (gdel_ne hqu).trans ((hb2.at hpq.symm hqu) hr)
      have hb6 := hb2.del hu2
      refine st_drawI hF6 (by omega) (by decide) fun sr G7 sr0 sr1 hF7 hB7 => ?_
      have hr7 := (hB7 q hpq.symm).trans hr6
      walk_at "de"
      refine st_cutE (fun d G' => ∃ ts2 : List Tm, d = .lst (ts2.map tmV) ∧ TmsOk 10 2 3 (r + 1 + i) ts2 ∧ G' = G7) (fun Q' hk => ?_) ?_
      · walk_at "d"
        refine st_ite (fun hc => ?_) (fun hc => ?_)
        · walk_at "d"
          have e1 : dcut (ts.map tmV) (some 1) none = (ts.drop 1).map tmV := by rw [cut_from1, List.map_drop]
          rcases (show sr = 0 ∨ sr = 1 by omega) with rfl | rfl
          · refine st_ix (.lst _) (show atI _ 0 = some (D.lst (dcut (ts.map tmV) (some 1) none)) from rfl) ?_
            rw [e1]
            exact hk _ _ ⟨_, rfl, ⟨by rw [List.length_drop]; omega, fun x hx => tok x (List.mem_of_mem_drop hx)⟩, rfl⟩
          · refine st_ix (.lst _) (show atI _ 1 = some (D.lst [D.tup [D.int 5, D.tup []]]) from rfl) ?_
            exact hk _ _ ⟨[(5, [])], rfl, ⟨by simp, fun x hx => by rw [List.mem_singleton.mp hx]; exact ⟨by decide, by simp, by simp⟩⟩, rfl⟩
        · walk_at "d"
          exact hk _ _ ⟨ts, rfl, ⟨by omega, tok⟩, rfl⟩
      rintro d G' ⟨ts2, rfl, hts2, rfl⟩
      walk_at "d"
      walk_at "fin"
      exact ⟨(rows ++ [ts2]), _, _, _, _, _, _, _, _, rfl, (hF7.put hpq).mono (by first | omega | (simp only [List.length_append, List.length_cons, List.length_nil, List.length_map]; omega)), (hb.then (hb6.trans hB7)).put, (by rw [List.map_append]; exact gput_same), by simp; omega, hs.snoc (by rw [hl]; exact hts2)⟩
  · rintro vs G2 ⟨rows, u2, u7, u8, u9, u10, u12, u13, u14, rfl, hF2, hb, hr, hl, hs⟩
    walk_at "sl"
    have hF2 := hF2.del hpq
    have hb3 := hb.del hq1
    have hr6 : rows.length ≤ 6 := by omega
    intro m hm
    have hpm := hF2.ne hm
    have hF2 := hF2.put hpm (o := .lst [])
    walk_at "d"
    have hbm : But2 p m G (gput (gdel G2 q) m (.lst [])) := fun b h1 h2 => (gput_ne h2).trans (hb3 b h1)
    refine for_rng_set (n := r) [4, 11] (fun j vs G' => (∃ (ms : List Mv) (u4 : Option D) (u11 : Option D), vs = [u4, u11] ∧ Feed G' p (N + 1 + 16 * K + 3 * j) ∧ But2 p m G G' ∧ G' m = some (.lst (ms.map mvV)) ∧ ms.length = j ∧ (∀ x ∈ ms, MvOk (r + 1 + rows.length) x))) rfl ⟨([]), _, _, rfl, hF2.mono (by first | omega | (simp only [List.length_append, List.length_cons, List.length_nil, List.length_map]; omega)), hbm, gput_same, rfl, (by simp)⟩ ?_ ?_
    · rintro j vs G3 hj ⟨ms, u4, u11, rfl, hF3, hbm2, hm2, ml, mok⟩
      walk_at "sl"
      refine st_draw hF3 (by omega) (by omega) (by omega) fun y G4 hy hF4 hB4 => ?_
      have hm4 := (hB4 m hpm.symm).trans hm2
      walk_at "d"
      refine st_oneM (c := D.int) (l := [1, 1, 1, 1, -1, 0]) hF4 (by omega) ⟨by simp, by simp⟩ fun sg G5 hsg hF5 hB5 => ?_
      have hsg2 : sg = 1 ∨ sg = -1 ∨ sg = 0 := by simp only [List.mem_cons, List.not_mem_nil, or_false] at hsg; omega
      walk_at "d"
      refine st_oneM (c := D.int) (l := [(j : Int), y, r + rows.length, r + rows.length]) hF5 (by omega) ⟨by simp, by simp⟩ fun pl G6 hpl hF6 hB6 => ?_
      obtain ⟨pn, rfl, hpn⟩ : ∃ n : Nat, pl = n ∧ n < r + 1 + rows.length := by
        simp only [List.mem_cons, List.not_mem_nil, or_false, List.length_map] at hpl
        exact ⟨pl.toNat, by omega, by omega⟩
      have hm5 := (((hB4.trans hB5).trans hB6) m hpm.symm).trans hm2
      walk_at "d"
      walk_at "fin"
      refine ⟨(ms ++ [(sg, pn)]), _, _, rfl, (hF6.put hpm).mono (by first | omega | (simp only [List.length_append, List.length_cons, List.length_nil, List.length_map]; omega)), (hbm2.then ((hB4.trans hB5).trans hB6)).put, (by rw [List.map_append]; exact gput_same), by simp; omega, ?_⟩
      intro x hx
      rcases List.mem_append.mp hx with hx | hx
      · exact mok x hx
      · rw [List.mem_singleton.mp hx]
        exact ⟨hsg2, hpn⟩
    · rintro vs G3 ⟨ms, u4, u11, rfl, hF3, hbm2, hm2, ml, mok⟩
      walk_at "sl"
      exact hq ⟨rows, ms⟩ _ ⟨hr6, hs, ml, mok⟩ ((hF3.del hpm).mono (by omega)) (hbm2.del ((hb3 m hpm.symm).symm.trans hm))

/-! ### a drawn loop -/
structure LpOk (l : Lp) : Prop where
  r0 : 0 < l.regs
  r3 : l.regs ≤ 3
  s0 : 0 < l.steps.length
  s3 : l.steps.length ≤ 3
  ok : ∀ s ∈ l.steps, StpOk l.regs s
def sp_law_loop : SpD := fun ds G Q _ => ∃ (p : Addr)  (N : Nat), ds = [.ref p] ∧ Feed G p N ∧ N ≤ 2 ^ 26 ∧ ∀ (l : Lp) G', (LpOk l) → Feed G' p (N + 460) → But p G G' → Q (lpV l) G'
theorem len_law_loop : LN sp_law_loop 1 := by rintro ds G Q E ⟨p, N, rfl, _⟩; rfl
def N_law_loop : List Str := ["_law_drawn", "_law_registers", "_law_k"]
abbrev t_law_loop_1 : TSD := (dRet (dTup (dCons (dVar 1) (dCons (dCB kTuple (dCons (dLc true (iRngD1 (dCons (dCall sp_law_one (dCons (dVar 0) (dCons (dLst (dCons (dC (.int 1)) (dCons (dC (.int 1)) (dCons (dC (.int 2)) (dCons (dC (.int 3)) dNil))))) dNil))) dNil)) (.nm 2) dYes (dCall sp_law_step (dCons (dVar 0) (dCons (dVar 1) dNil))) [2]) dNil)) dNil))))
def t_law_loop : TSD := (dSeq (dAsg (dOp aAny (dC (.int 1)) (dCall sp_law_next (dCons (dVar 0) (dCons (dC (.int 3)) dNil)))) (gdName 1))
  t_law_loop_1)
theorem vc_law_loop : VC sp_law_loop N_law_loop t_law_loop := by
  rintro ds G Q EX ⟨p, N, rfl, hF, hN, hq⟩
  walk_at "go law_loop"
  refine st_draw hF (by omega) (by decide) (by decide) fun r G1 hr hF1 hB1 => ?_
  walk_at "d"
  refine st_oneM (c := dN) (l := [1, 1, 2, 3]) hF1 (by omega) ⟨by simp, by simp⟩ fun K G2 hK hF2 hB2 => ?_
  have hK3 : 0 < K ∧ K ≤ 3 := by simp at hK; omega
  walk_at "d"
  refine lc_feed (J := K) 150 (fun d => ∃ s, d = stpV s ∧ StpOk (1 + r) s) hF2 (by rw [sizeLine_eq]; omega) (fun a ha G9 M hF9 hM _ => ⟨_, rfl, fun Q' q' => ?_⟩) fun ds G3 e1 e2 hF3 hB3 => ?_
  · walk_at "d"
    refine ⟨p, 1 + r, M, by simp, by omega, by omega, hF9, by omega, fun s G5 hs hF5 hB5 => q' _ _ ⟨s, rfl, hs⟩ hF5 hB5⟩
  obtain ⟨ss, rfl, hss⟩ := listP_of e2
  rw [List.length_map] at e1
  walk_at "d"
  rw [show (1 : Int) + r = ((1 + r : Nat) : Int) by simp]
  refine hq ⟨1 + r, ss⟩ _ ⟨by show 0 < 1 + r; omega, by show 1 + r ≤ 3; omega, by show 0 < ss.length; omega, by show ss.length ≤ 3; omega, hss⟩ (hF3.mono (by omega)) ((hB1.trans hB2).trans hB3)

/-! ### drawn loops: bounds -/
theorem tms_fit {k : Nat} {ts : List Tm} (h : TmsOk 10 2 3 k ts) (hk : k ≤ 100) : gd 4 (tmsV ts) ∧ sm 64 (tmsV ts) ∧ (tmsV ts).bulk ≤ 31 := by
  refine ⟨tms_gd, ?_, ?_⟩
  · simp only [tmsV, sm]
    refine sms_map fun t ht => ?_
    have := h.all t ht
    simp only [tmV, sm, sms, and_true]
    exact ⟨by have := this.co; omega, sms_dN fun n hn => by have := this.at_ n hn; omega⟩
  · simp only [tmsV, D.bulk]
    have h1 : bulks (ts.map tmV) ≤ (9 + 1) * ts.length := bulks_map fun t ht => by
      rw [tm_bulk]
      have := (h.all t ht).len
      omega
    have := h.len
    omega
theorem mv_fit {k : Nat} {m : Mv} (h : MvOk k m) (hk : k ≤ 100) : gd 2 (mvV m) ∧ sm 64 (mvV m) ∧ (mvV m).bulk ≤ 5 := by
  obtain ⟨s, q⟩ := m
  have h1 : s = 1 ∨ s = -1 ∨ s = 0 := h.sg
  have h2 : q < k := h.at_
  simp only [mvV, gd, gds, sm, sms, D.bulk, bulks, and_true]
  refine ⟨trivial, ?_, by omega⟩
  omega
theorem stp_fit {r : Nat} {s : Stp} (h : StpOk r s) (hr : r ≤ 3) : gd 6 (stpV s) ∧ sm 64 (stpV s) ∧ (stpV s).bulk ≤ 260 := by
  have hl := h.rl
  have hm := h.ml
  have hrw : ∀ t ∈ s.rows, gd 4 (tmsV t) ∧ sm 64 (tmsV t) ∧ (tmsV t).bulk ≤ 31 := fun t ht => by
    obtain ⟨i, hi, h2⟩ := h.rw.mem ht
    exact tms_fit h2 (by omega)
  have hmv : ∀ m ∈ s.moves, gd 2 (mvV m) ∧ sm 64 (mvV m) ∧ (mvV m).bulk ≤ 5 := fun m hm => mv_fit (h.mv m hm) (by omega)
  refine ⟨?_, ?_, ?_⟩
  · simp only [stpV, gd, gds, and_true]
    exact ⟨gds_map fun t ht => (hrw t ht).1, gds_map fun m hm => gd_mono (by decide) _ (hmv m hm).1⟩
  · simp only [stpV, sm, sms, and_true]
    exact ⟨sms_map fun t ht => (hrw t ht).2.1, sms_map fun m hm => (hmv m hm).2.1⟩
  · simp only [stpV, D.bulk, bulks]
    have b1 : bulks (s.rows.map tmsV) ≤ (31 + 1) * s.rows.length := bulks_map fun t ht => (hrw t ht).2.2
    have b2 : bulks (s.moves.map mvV) ≤ (5 + 1) * s.moves.length := bulks_map fun t ht => (hmv t ht).2.2
    omega
theorem lp_fit {l : Lp} (h : LpOk l) : gd 8 (lpV l) ∧ sm 64 (lpV l) ∧ (lpV l).bulk ≤ 900 := by
  have h3 := h.r3
  have hs := h.s3
  have hst : ∀ s ∈ l.steps, gd 6 (stpV s) ∧ sm 64 (stpV s) ∧ (stpV s).bulk ≤ 260 := fun s hs => stp_fit (h.ok s hs) h3
  refine ⟨?_, ?_, ?_⟩
  · simp only [lpV, gd, gds, and_true]
    exact ⟨trivial, gds_map fun s hs => (hst s hs).1⟩
  · simp only [lpV, sm, sms, and_true]
    exact ⟨by rw [Int.natAbs_natCast]; omega, sms_map fun s hs => (hst s hs).2.1⟩
  · simp only [lpV, D.bulk, bulks]
    have b1 : bulks (l.steps.map stpV) ≤ (260 + 1) * l.steps.length := bulks_map fun t ht => (hst t ht).2.2
    omega
theorem LpOk.lr {l : Lp} (h : LpOk l) : LrOk l := by
  have h3 := h.r3
  have hs := h.s3
  refine ⟨h.r0, by omega, h.s0, by omega, fun s hs => ?_⟩
  have hso := h.ok s hs
  refine ⟨fun i hi t ht => ?_, by have := hso.rl; omega, hso.ml, fun m hm => ⟨(hso.mv m hm).sg, (hso.mv m hm).at_⟩⟩
  have := hso.rw i hi
  have ht2 := this.all t ht
  exact ⟨(Bt.of (b := 4) (by have := ht2.co; omega)).mono (by decide), by have := ht2.len; omega, ht2.at_⟩
theorem rpr_le {b B C : Nat} {d : D} (h : Rpr b B d) (l : B ≤ C) : Rpr b C d := ⟨h.g, h.s, Nat.le_trans h.z l⟩
theorem rpr_dx {d : D} {b B : Nat} {xs : List Int} (h : gd 8 d ∧ sm b d ∧ d.bulk ≤ B) (hx : ∀ z ∈ xs, Bt b z) : Rpr b (B + 2 * xs.length + 10) (.lst [d, .lst (xs.map D.int)]) := by
  obtain ⟨a1, a2, a3⟩ := h
  have := bulks_map (B := 1) (c := D.int) (xs := xs) fun a _ => by simp [D.bulk]
  refine ⟨?_, ?_, ?_⟩
  · simp only [gd, gds, and_true]
    exact ⟨gd_mono (by decide) _ a1, gds_map fun a _ => by simp [gd]⟩
  · simp only [sm, sms, and_true]
    exact ⟨a2, sms_map fun a ha => by simpa only [sm] using (hx a ha).to⟩
  · simp only [D.bulk, bulks]
    omega

/-! ### bounds of what loops show -/
def FndOk (n : Nat) : Except Nat (List Int) → Prop
  | .ok s => s.length ≤ n ∧ ∀ z ∈ s, Bt 4000 z
  | .error j => j < 100
theorem runR_ok {f : Int → Int} (hf : ∀ z : Int, ¬ v_MOST ≤ (z.natAbs : Int) → Bt 4000 (f z)) : ∀ (rs : List (List Tm)) (l : List Int) (i : Nat), (∀ z ∈ l, Bt 4000 z) → match runR f rs l i with
    | .ok m => ∀ z ∈ m, Bt 4000 z
    | .error j => j < i + rs.length
  | [], l, i, h => by rw [runR]; exact h
  | ts :: rs, l, i, h => by
    rw [runR]
    by_cases hm : v_MOST ≤ ((sumT l ts).natAbs : Int)
    · rw [if_pos hm]
      show i < i + (ts :: rs).length
      simp
    · rw [if_neg hm]
      have := runR_ok hf rs (l ++ [f (sumT l ts)]) (i + 1) fun z hz => (List.mem_append.mp hz).elim (h z) fun e => by rw [List.mem_singleton.mp e]; exact hf _ hm
      revert this
      cases runR f rs (l ++ [f (sumT l ts)]) (i + 1) with
      | ok m => exact fun z => z
      | error j =>
        intro z
        have z : j < i + 1 + rs.length := z
        show j < i + (ts :: rs).length
        simp
        omega
theorem runL_ok {f : Int → Int} {ss : List Stp} {r : Nat} (hss : ∀ s ∈ ss, SrOk r s) (hf : ∀ z : Int, ¬ v_MOST ≤ (z.natAbs : Int) → Bt 4000 (f z)) : ∀ (xs held : List Int) (i : Nat) (shown : List Int), (∀ z ∈ xs, Bt 4000 z) → (∀ z ∈ held, Bt 4000 z) → (∀ z ∈ shown, Bt 4000 z) → FndOk (shown.length + xs.length) (runL f ss xs held i shown)
  | [], held, i, shown, _, _, h => by rw [runL]; exact ⟨by simp, h⟩
  | x :: xs, held, i, shown, hx, hh, h => by
    rw [runL]
    cases e : ss[i % ss.length]? with
    | none => exact ⟨by simp, h⟩
    | some s =>
      have hs := hss s (List.mem_of_getElem? e)
      dsimp only
      have h1 := runR_ok hf s.rows (held ++ [x]) 0 fun z hz => (List.mem_append.mp hz).elim (hh z) fun e => by rw [List.mem_singleton.mp e]; exact hx x (by simp)
      revert h1
      cases runR f s.rows (held ++ [x]) 0 with
      | error j =>
        intro h1
        have h1 : j < 0 + s.rows.length := h1
        have := hs.rl
        show j < 100
        omega
      | ok nums =>
        intro h1
        have h1 : ∀ z ∈ nums, Bt 4000 z := h1
        have hm : ∀ z ∈ s.moves.map (mvN nums), Bt 4000 z := fun z hz => by
          obtain ⟨m, hm, rfl⟩ := List.mem_map.mp hz
          exact mvN_bt h1 (hs.mv m hm).1
        have := runL_ok hss hf xs (s.moves.map (mvN nums)) (i + 1) (shown ++ [(s.moves.map (mvN nums)).getD 0 0]) (fun z hz => hx z (by simp [hz])) hm fun z hz => (List.mem_append.mp hz).elim (h z) fun e => by
          rw [List.mem_singleton.mp e]
          exact getD_bt hm 0
        rw [List.length_append, List.length_singleton, Nat.add_assoc, Nat.add_comm 1] at this
        exact this
theorem loopR_ok {f : Int → Int} {l : Lp} (hl : LrOk l) (hf : ∀ z : Int, ¬ v_MOST ≤ (z.natAbs : Int) → Bt 4000 (f z)) {xs : List Int} (hx : ∀ z ∈ xs, Bt 4000 z) : FndOk (1 + xs.length) (loopR f l xs) :=
  runL_ok hl.ok hf xs _ 0 [0] hx (fun z hz => by rw [List.eq_of_mem_replicate hz]; exact .of (Nat.two_pow_pos _)) fun z hz => by rw [List.mem_singleton.mp hz]; exact .of (Nat.two_pow_pos _)
def foundV : Except Nat (List Int) → D
  | .ok s => .tup (s.map D.int)
  | .error j => .lst [dN j]
theorem rpr_found {n : Nat} {R : Except Nat (List Int)} (h : FndOk n R) (hn : n ≤ 101) : gd 2 (foundV R) ∧ sm 4000 (foundV R) ∧ (foundV R).bulk ≤ 300 := by
  cases R with
  | error j =>
    have h : j < 100 := h
    refine ⟨by simp [foundV, gd, gds], ?_, by simp [foundV, D.bulk, bulks]⟩
    simp only [foundV, sm, sms, and_true, Int.natAbs_natCast]
    exact Nat.lt_of_lt_of_le (show j < 2 ^ 7 by omega) (Nat.pow_le_pow_right (by decide) (by decide))
  | ok s =>
    obtain ⟨h1, h2⟩ := h
    refine ⟨?_, ?_, ?_⟩
    · simp only [foundV, gd]
      exact gds_map fun a _ => by simp [gd]
    · simp only [foundV, sm]
      exact sms_map fun a ha => by simpa only [sm] using (h2 a ha).to
    · have := bulks_map (B := 1) (c := D.int) (xs := s) fun a _ => by simp [D.bulk]
      simp only [foundV, D.bulk]
      omega
theorem rpr_found1 {n : Nat} {R : Except Nat (List Int)} (h : FndOk n R) (hn : n ≤ 101) : Rpr 4000 700 (foundV R) := by
  obtain ⟨a1, a2, a3⟩ := rpr_found h hn
  exact ⟨gd_mono (by decide) _ a1, a2, by omega⟩

def NM : Nat → Nat → Str := fun _ _ => "law.<locals>.<lambda>"
def sp_law_told (c : SpD) (g : Addr) : SpD := fun ds G Q _ => ∃ (l : Lp) (xs : List Int) (rho : Int → Int), ds = [lpV l, .tup (xs.map D.int), .ref g] ∧ LrOk l ∧ xs.length ≤ 1000 ∧ (∀ z ∈ xs, Bt 4000 z) ∧ Rho c rho ∧ ∀ G', Kp G G' → Q (foundV (loopR rho l xs)) G'
theorem len_law_told (c : SpD) (g : Addr) : LN (sp_law_told c g) 3 := by rintro ds G Q E ⟨l, xs, rho, rfl, _⟩; rfl
def N_law_told : List Str := ["_law_loop_here", "_law_letters", "_law_rounding", "e"]
def t_law_told (c : SpD) (g : Addr) : TSD := (dTryA 3 [("TooGreat", true)] (dRet (dCall (sp_run_loop c g) (dCons (dVar 0) (dCons (dVar 1) (dCons (dVar 2) dNil))))) (fun n a d => (dRet (dLst (dCons (dExcF a d n ["TooGreat"] "row" (dVar 3)) dNil)))))
theorem vc_law_told (c : SpD) (g : Addr) : VC (sp_law_told c g) N_law_told (t_law_told c g) := by
  rintro ds G Q EX ⟨l, xs, rho, rfl, hl, hxl, hxb, hrho, hq⟩
  walk_at "go law_told"
  refine ⟨l, xs, rho, rfl, hl, hxl, hxb, hrho, ?_⟩
  cases e : loopR rho l xs with
  | ok s =>
    rw [e] at hq
    intro G' hk
    walk_at "d"
    exact hq G' hk
  | error j =>
    rw [e] at hq
    intro G' hk
    refine ⟨"TooGreat", true, rfl, by simp, fun _ a d hd => ?_, fun h => by cases h⟩
    cases d with
    | none => exact absurd (hd rfl) (by simp)
    | some d =>
      walk_at "d"
      refine st_excFq (by simp) rfl ?_
      walk_at "d"
      exact hq G' hk
abbrev sp_law (P : Addr) : SpD := spLawT 63 [P] NM
theorem len_law (P : Addr) : LN (sp_law P) 1 := by rintro ds G Q E ⟨n, rfl, _⟩; rfl
def N_law : List Str := ["_law_script", "_law_drawn", "_law_turn", "_law_letters", "_law_k", "_law_found", "_law_due", "_law_loop_here", "_law_rule_here", "_law_held", "_law_shown"]
abbrev t_law_1 (P_law : Addr) : TSD := (dDrop (dBM tyL mAppend (dVar 3) (dCons (dIf (dTest (dOp (eAny false) (dCall sp_law_next (dCons (dVar 1) (dCons (dC (.int 5)) dNil))) (dC (.int 0)))) (dCall sp_law_far (dCons (dVar 1) (dCons (dC (.int 8)) dNil))) (dOp aSub (dCall sp_law_next (dCons (dVar 1) (dCons (dC (.int 61)) dNil))) (dC (.int 30)))) dNil)))
abbrev t_law_2 (P_law : Addr) : TSD := (dIfS (dOr (dTest (dOp (eAny true) (dCB kReprB (dCons (dVar 5) dNil)) (dCB kReprB (dCons (dVar 6) dNil)))) (dTest (dOp (eAny true) (dCB kReprB (dCons (dLst (dCons (dVar 7) (dCons (dVar 3) dNil))) dNil)) (dVar 9))))
  (dRet (dC (.bl false)))
  dNext)
abbrev t_law_3 (P_law : Addr) : TSD := (dSeq (dAsg (dIf (dTest (isN false (dOp xAny (dVar 10) (dC (.int 1))))) (dCB kTuple (dCons (dOp xAny (dVar 10) (dC (.int 0))) dNil)) (dLst (dCons (dOp xAny (dVar 10) (dC (.int 1))) dNil))) (gdName 6))
  (t_law_2 P_law))
abbrev t_law_4 (P_law : Addr) : TSD := (dSeq (dAsg (dCallL sp_law_told P_law NM [false, false, false, false, false, false, false, false, true, false, false] 1 (dCons (dVar 7) (dCons (dCB kTuple (dCons (dVar 3) dNil)) dNil)) (dCall sp_law_round (dCons (dVar 9) (dCons (dVar 0) dNil)))) (gdName 5))
  (t_law_3 P_law))
abbrev t_law_5 (P_law : Addr) : TSD := (dFrz 3 (dSeq (dPar 9 10 (dCons (dCB kReprB (dCons (dLst (dCons (dVar 7) (dCons (dVar 3) dNil))) dNil)) (dCons (dCallL sp_law_loop_far P_law NM [false, false, false, false, false, false, false, false, true, false, false] 1 (dCons (dVar 7) (dCons (dVar 3) dNil)) (dCall sp_law_round (dCons (dVar 9) (dCons (dVar 0) dNil)))) dNil)))
  (t_law_4 P_law)))
abbrev t_law_6 (P_law : Addr) : TSD := (dSeq (dFor (iRngD1 (dCons (dCall sp_law_one (dCons (dVar 1) (dCons (dLst (dCons (dCall sp_law_next (dCons (dVar 1) (dCons (dC (.int 13)) dNil))) (dCons (dCall sp_law_next (dCons (dVar 1) (dCons (dC (.int 13)) dNil))) (dCons (dCall sp_law_next (dCons (dVar 1) (dCons (dC (.int 101)) dNil))) dNil)))) dNil))) dNil)) (gdName 4)
  (t_law_1 P_law))
  (t_law_5 P_law))
abbrev t_law_7 (P_law : Addr) : TSD := (dSeq (dAsg (dTup (dCons (dCall sp_law_loop (dCons (dVar 1) dNil)) (dCons (dCall sp_law_rule (dCons (dVar 1) (dCons (dCall sp_law_words (dCons (dCall sp_law_next (dCons (dVar 1) (dCons (dC (.int 10)) dNil))) dNil)) dNil))) dNil))) (gdTup 2 (gdCons (gdName 7) (gdCons (gdName 8) gdNil))))
  (dSeq (dAsg (dLstM dNil) (gdName 3))
  (t_law_6 P_law)))
def t_law (P_law : Addr) : TSD := (dSeq (dAsg (dCall sp_law_draws (dCons (dVar 0) dNil)) (gdName 1))
  (dSeq (dFor (iRngD1 (dCons (dC (.int 4)) dNil)) (gdName 2)
  (t_law_7 P_law))
  (dRet (dC (.bl true)))))
theorem vc_law (P : Addr) : VC (sp_law P) N_law (t_law P) := by
  rintro ds G Q EX ⟨ns, rfl, hlen, hbt, hP, hq⟩
  have hP := hP P (by simp)
  walk_at "go law"
  refine ⟨ns, rfl, hlen, hbt, fun p G1 hp hF1 hB1 => ?_⟩
  have hpP : P ≠ p := ne_sn hP hp
  have hP1 := (hB1 P hpP).trans hP
  walk_at "d"
  refine for_rng_set (n := 4) [2, 3, 4, 5, 6, 7, 8, 9, 10] (fun i vs G' => (∃ (u2 : Option D) (u3 : Option D) (u4 : Option D) (u5 : Option D) (u6 : Option D) (u7 : Option D) (u8 : Option D) (u9 : Option D) (u10 : Option D), vs = [u2, u3, u4, u5, u6, u7, u8, u9, u10]) ∧ Feed G' p (0 + 9000 * i) ∧ G' P = some (.tab NM)) rfl ⟨⟨_, _, _, _, _, _, _, _, _, rfl⟩, hF1, hP1⟩ ?_ ?_
  · rintro i vs G2 hi ⟨⟨u2, u3, u4, u5, u6, u7, u8, u9, u10, rfl⟩, hF2, hPi⟩
    walk_at "sl"
    refine ⟨p, _, rfl, hF2, by omega, fun l G3 hl hF3 hB3 => ?_⟩
    walk_at "d"
    refine st_draw hF3 (by omega) (by omega) (by omega) fun w G4 hw hF4 hB4 => ?_
    walk_at "d"
    refine ⟨w, rfl, by omega, fun ws => ?_⟩
    walk_at "d"
    refine ⟨p, ws, _, rfl, hF4, by omega, fun r G5 hr hF5 hB5 => ?_⟩
    have hPr := (((hB3.trans hB4).trans hB5) P hpP).trans hPi
    walk_at "d"
    intro q hq1
    have hpq := hF5.ne hq1
    have hPq : P ≠ q := ne_sn hPr hq1
    have hF5 := hF5.put hpq (o := .lst [])
    have hPt : gput G5 q (.lst []) P = some (.tab NM) := (gput_ne hPq).trans hPr
    walk_at "d"
    refine st_drawI hF5 (by omega) (by decide) fun a G6 a0 a1 hF6 hB6 => ?_
    walk_at "d"
    refine st_drawI hF6 (by omega) (by decide) fun b G7 b0 b1 hF7 hB7 => ?_
    walk_at "d"
    refine st_drawI hF7 (by omega) (by decide) fun c G8 c0 c1 hF8 hB8 => ?_
    walk_at "d"
    refine st_oneM (c := D.int) (l := [a, b, c]) hF8 (by omega) ⟨by simp, by simp⟩ fun m G9 hm hF9 hB9 => ?_
    obtain ⟨m, rfl, hm⟩ : ∃ k : Nat, m = (k : Int) ∧ k ≤ 100 := by
      simp only [List.mem_cons, List.not_mem_nil, or_false] at hm
      exact ⟨m.toNat, by omega, by omega⟩
    have hPu := (hB9 P hpP).trans ((hB8 P hpP).trans ((hB7 P hpP).trans ((hB6 P hpP).trans hPt)))
    have hq2 := (hB9 q hpq.symm).trans ((hB8 q hpq.symm).trans ((hB7 q hpq.symm).trans ((hB6 q hpq.symm).trans gput_same)))
    walk_at "d"
    refine for_rng_set (n := m) [4] (fun j vs G' => (∃ (xs : List Int) (u4 : Option D), vs = [u4] ∧ Feed G' p (0 + 9000 * i + 500 + 80 * j) ∧ G' P = some (.tab NM) ∧ G' q = some (.lst (xs.map D.int)) ∧ xs.length = j ∧ (∀ z ∈ xs, Bt 60 z))) rfl ⟨([]), _, rfl, hF9.mono (by first | omega | (simp only [List.length_append, List.length_cons, List.length_nil, List.length_map]; omega)), hPu, hq2, rfl, (by simp)⟩ ?_ ?_
    · rintro j vs G10 hj ⟨xs, u4, rfl, hF10, hPj, hx, hxl, hxb⟩
      walk_at "sl"
      refine st_drawI hF10 (by omega) (by decide) fun t G11 t0 t1 hF11 hB11 => ?_
      walk_at "d"
      have hPx := (hB11 P hpP).trans hPj
      have hx1 := (hB11 q hpq.symm).trans hx
      refine st_ite (fun hc => ?_) (fun hc => ?_)
      · walk_at "d"
        refine ⟨p, 8, _, rfl, by decide, by decide, hF11, by omega, fun z G12 hz hF12 hB12 => ?_⟩
        have hPy := (hB12 P hpP).trans hPx
        have hx2 := (hB12 q hpq.symm).trans hx1
        walk_at "d"
        walk_at "fin"
        exact ⟨(xs ++ [z]), _, rfl, (hF12.put hpq).mono (by first | omega | (simp only [List.length_append, List.length_cons, List.length_nil, List.length_map]; omega)), (gput_ne hPq).trans hPy, (by rw [List.map_append]; exact gput_same), by simp; omega, fun y hy => (List.mem_append.mp hy).elim (hxb y) fun h => by rw [List.mem_singleton.mp h]; exact .of (Nat.lt_trans hz (by decide))⟩
      · walk_at "d"
        refine st_drawI hF11 (by omega) (by decide) fun y G12 y0 y1 hF12 hB12 => ?_
        walk_at "d"
        have hPy := (hB12 P hpP).trans hPx
        have hx2 := (hB12 q hpq.symm).trans hx1
        walk_at "d"
        walk_at "fin"
        exact ⟨(xs ++ [y - 30]), _, rfl, (hF12.put hpq).mono (by first | omega | (simp only [List.length_append, List.length_cons, List.length_nil, List.length_map]; omega)), (gput_ne hPq).trans hPy, (by rw [List.map_append]; exact gput_same), by simp; omega, fun y hy => (List.mem_append.mp hy).elim (hxb y) fun h => by rw [List.mem_singleton.mp h]; exact .of (by omega)⟩
    · rintro vs G10 ⟨xs, u4, rfl, hF10, hPj, hx, hxl, hxb⟩
      walk_at "sl"
      have hF10 := hF10.del hpq
      have hPd : gdel G10 q P = some (.tab NM) := (gdel_ne hPq).trans hPj
      have hlr := hl.lr
      have hxb4 : ∀ z ∈ xs, Bt 4000 z := fun z hz => (hxb z hz).mono (by decide)
      have hrp : Rpr 64 2000 (.lst [lpV l, .lst (xs.map D.int)]) := rpr_le (rpr_dx (lp_fit hl) fun z hz => (hxb z hz).mono (by decide)) (by omega)
      generalize hlv : D.lst [lpV l, .lst (xs.map D.int)] = lv at hrp
      refine st_reprX 64 2000 hrp (by decide) (by decide) ?_
      walk_at "d"
      have hcap : ∀ a b c d e f g h j k : Option D, capS (mkD [false, false, false, false, false, false, false, false, true, false, false] [a, b, c, d, e, f, g, h, some (rulV r), j, k]) = true := fun _ _ _ _ _ _ _ _ _ _ => by
        show (true && (true && (true && (true && (true && (true && (true && (true && (capD (rulV r) && (true && (true && true))))))))))) = true
        rw [cap_rul]; rfl
      refine st_callL ?_
      walk_at "d"
      refine ⟨hPd, hcap _ _ _ _ _ _ _ _ _ _, rulC r, ?_, fun g => ⟨l, xs, roundR r, rfl, hlr, by omega, hxb4, rulC_rho hr, ?_⟩⟩
      · rintro us G20 Q2 E2 ⟨z, rfl, hz, q2⟩
        refine ⟨rfl, ?_⟩
        show dCall _ _ [some (.int z), none, none, none, none, none, none, none, none, some (rulV r), none, none] _ _ _
        walk_at "d"
        exact ⟨r, z, rfl, hr, most_bt hz, q2⟩
      have hok := loopR_ok hlr (f := roundR r) (fun z hz => (rulC_rho hr).2 z hz) hxb4
      cases eR : loopR (roundR r) l xs with
      | ok sh =>
        intro G31 hk31
        have hPd := hk31.at hPd
        have hF10 := hF10.at (hk31 p hF10.some)
        walk_at "d"
        refine st_callL ?_
        walk_at "d"
        refine ⟨hPd, hcap _ _ _ _ _ _ _ _ _ _, rulC r, ?_, fun g2 => ⟨l, xs, roundR r, rfl, hlr, by omega, hxb4, rulC_rho hr, fun G32 hk32 => ?_⟩⟩
        · rintro us G20 Q2 E2 ⟨z, rfl, hz, q2⟩
          refine ⟨rfl, ?_⟩
          show dCall _ _ [some (.int z), none, none, none, none, none, none, none, none, some (rulV r), none, none] _ _ _
          walk_at "d"
          exact ⟨r, z, rfl, hr, most_bt hz, q2⟩
        rw [eR]
        have hPd := hk32.at hPd
        have hF10 := hF10.at (hk32 p hF10.some)
        walk_at "d"
        have hrf : Rpr 4000 700 (foundV (Except.ok sh)) := rpr_found1 (n := 1 + xs.length) (by rw [← eR]; exact hok) (by omega)
        rw [show foundV (Except.ok sh) = D.tup (List.map D.int sh) from rfl] at hrf ⊢
        generalize D.tup (List.map D.int sh) = fv at hrf ⊢
        refine st_reprX 4000 700 hrf (by decide) (by decide) ?_
        walk_at "d"
        refine st_reprX 4000 700 hrf (by decide) (by decide) ?_
        walk_at "d"
        rw [hlv]
        refine st_reprX 64 2000 hrp (by decide) (by decide) ?_
        walk_at "d"
        walk_at "fin"
        exact ⟨⟨_, _, _, _, _, _, _, _, _, rfl⟩, hF10.mono (by omega), hPd⟩
      | error j =>
        intro y G31 hk31
        have hPd := hk31.at hPd
        have hF10 := hF10.at (hk31 p hF10.some)
        walk_at "d"
        refine st_callL ?_
        walk_at "d"
        refine ⟨hPd, hcap _ _ _ _ _ _ _ _ _ _, rulC r, ?_, fun g2 => ⟨l, xs, roundR r, rfl, hlr, by omega, hxb4, rulC_rho hr, fun G32 hk32 => ?_⟩⟩
        · rintro us G20 Q2 E2 ⟨z, rfl, hz, q2⟩
          refine ⟨rfl, ?_⟩
          show dCall _ _ [some (.int z), none, none, none, none, none, none, none, none, some (rulV r), none, none] _ _ _
          walk_at "d"
          exact ⟨r, z, rfl, hr, most_bt hz, q2⟩
        rw [eR]
        have hPd := hk32.at hPd
        have hF10 := hF10.at (hk32 p hF10.some)
        walk_at "d"
        have hrf : Rpr 4000 700 (foundV (Except.error j)) := rpr_found1 (n := 1 + xs.length) (by rw [← eR]; exact hok) (by omega)
        rw [show foundV (Except.error j) = D.lst [dN j] from rfl] at hrf ⊢
        generalize D.lst [dN j] = fv at hrf ⊢
        refine st_reprX 4000 700 hrf (by decide) (by decide) ?_
        walk_at "d"
        refine st_reprX 4000 700 hrf (by decide) (by decide) ?_
        walk_at "d"
        rw [hlv]
        refine st_reprX 64 2000 hrp (by decide) (by decide) ?_
        walk_at "d"
        walk_at "fin"
        exact ⟨⟨_, _, _, _, _, _, _, _, _, rfl⟩, hF10.mono (by omega), hPd⟩
  · rintro vs G2 ⟨⟨u2, u3, u4, u5, u6, u7, u8, u9, u10, rfl⟩, hF2, hPi⟩
    walk_at "sl"
    exact hq _

def inCls (st : Stmt) (j : Nat) : Stmt := match st with
  | .ClassDef _ _ _ body _ _ _ _ _ _ _ => body.getD j (.Pass ⟨0, 0, 0, 0⟩)
  | _ => .Pass ⟨0, 0, 0, 0⟩
theorem fld_one {K : PySem.W.Frag} {c f : Str} {C : Addr} (a : PySem.W.nsIn K mainGlobals c = some (some (.ref C))) (k : Cls K C) (n : NoAttr K C f) : FldOk K [c] f := by
  intro c' hc C' hC'
  rw [List.mem_singleton.mp hc, gaddr_of a] at hC'
  cases hC'
  exact ⟨k, n⟩
def top (i : Nat) : Stmt := PySem.Challenge.pw_everyround_k50_what_loops_show.main.body.getD i (.Pass ⟨0, 0, 0, 0⟩)
abbrev s_law_draws : Stmt := top 9
theorem sc_law_draws : FnScope N_law_draws ["_law_script"] (defScope s_law_draws) := ⟨rfl, rfl, rfl, by decide +kernel, rfl, by decide +kernel, by decide +kernel⟩
abbrev s_law_next : Stmt := top 10
theorem sc_law_next : FnScope N_law_next ["_law_drawn", "_law_many"] (defScope s_law_next) := ⟨rfl, rfl, rfl, by decide +kernel, rfl, by decide +kernel, by decide +kernel⟩
abbrev s_law_one : Stmt := top 11
theorem sc_law_one : FnScope N_law_one ["_law_drawn", "_law_items"] (defScope s_law_one) := ⟨rfl, rfl, rfl, by decide +kernel, rfl, by decide +kernel, by decide +kernel⟩
abbrev s_law_step : Stmt := top 14
theorem sc_law_step : FnScope N_law_step ["_law_drawn", "_law_registers"] (defScope s_law_step) := ⟨rfl, rfl, rfl, by decide +kernel, rfl, by decide +kernel, by decide +kernel⟩
abbrev s_law_loop : Stmt := top 15
theorem sc_law_loop : FnScope N_law_loop ["_law_drawn"] (defScope s_law_loop) := ⟨rfl, rfl, rfl, by decide +kernel, rfl, by decide +kernel, by decide +kernel⟩
abbrev s_law_rule : Stmt := top 16
theorem sc_law_rule : FnScope N_law_rule ["_law_drawn", "_law_words_here"] (defScope s_law_rule) := ⟨rfl, rfl, rfl, by decide +kernel, rfl, by decide +kernel, by decide +kernel⟩
abbrev s_law_words : Stmt := top 13
theorem sc_law_words : FnScope N_law_words ["_law_number"] (defScope s_law_words) := ⟨rfl, rfl, rfl, by decide +kernel, rfl, by decide +kernel, by decide +kernel⟩
abbrev s_law_far : Stmt := top 12
theorem sc_law_far : FnScope N_law_far ["_law_drawn", "_law_figures"] (defScope s_law_far) := ⟨rfl, rfl, rfl, by decide +kernel, rfl, by decide +kernel, by decide +kernel⟩
abbrev s_law_sum : Stmt := top 20
theorem sc_law_sum : FnScope N_law_sum ["_law_terms", "_law_numbers"] (defScope s_law_sum) := ⟨rfl, rfl, rfl, by decide +kernel, rfl, by decide +kernel, by decide +kernel⟩
abbrev s_law_loop_far : Stmt := top 21
theorem sc_law_loop_far : FnScope N_law_loop_far ["_law_loop_here", "_law_letters", "_law_rounding"] (defScope s_law_loop_far) := ⟨rfl, rfl, rfl, by decide +kernel, rfl, by decide +kernel, by decide +kernel⟩
abbrev s_law_pick : Stmt := top 18
theorem sc_law_pick : FnScope N_law_pick ["_law_rule_here", "_law_number"] (defScope s_law_pick) := ⟨rfl, rfl, rfl, by decide +kernel, rfl, by decide +kernel, by decide +kernel⟩
abbrev s_law_core : Stmt := top 17
theorem sc_law_core : FnScope N_law_core ["_law_words_here", "_law_number"] (defScope s_law_core) := ⟨rfl, rfl, rfl, by decide +kernel, rfl, by decide +kernel, by decide +kernel⟩
abbrev s_law_round : Stmt := top 19
theorem sc_law_round : FnScope N_law_round ["_law_rule_here", "_law_number"] (defScope s_law_round) := ⟨rfl, rfl, rfl, by decide +kernel, rfl, by decide +kernel, by decide +kernel⟩
abbrev s_sum_of_terms : Stmt := top 4
theorem sc_sum_of_terms : FnScope N_sum_of_terms ["terms", "numbers"] (defScope s_sum_of_terms) := ⟨rfl, rfl, rfl, by decide +kernel, rfl, by decide +kernel, by decide +kernel⟩
abbrev s_run_loop : Stmt := top 7
theorem sc_run_loop : FnScope N_run_loop ["loop", "letters", "rounding"] (defScope s_run_loop) := ⟨rfl, rfl, rfl, by decide +kernel, rfl, by decide +kernel, by decide +kernel⟩
abbrev s_law_told : Stmt := top 22
theorem sc_law_told : FnScope N_law_told ["_law_loop_here", "_law_letters", "_law_rounding"] (defScope s_law_told) := ⟨rfl, rfl, rfl, by decide +kernel, rfl, by decide +kernel, by decide +kernel⟩
abbrev s_law : Stmt := top 23
theorem sc_law : FnScope N_law ["_law_script"] (defScope s_law) := ⟨rfl, rfl, rfl, by decide +kernel, rfl, by decide +kernel, by decide +kernel⟩
abbrev s_TooGreat_init : Stmt := inCls (top 2) 0
theorem sc_TooGreat_init : FnScope ["self", "row"] ["self", "row"] (defScope s_TooGreat_init) := ⟨rfl, rfl, rfl, by decide +kernel, rfl, by decide +kernel, by decide +kernel⟩
/-- what the top has written -/
structure Txt (K : PySem.W.Frag) (mg : Str → Option Value) where
  c_TooGreat : Addr
  g_TooGreat : gaddr K "TooGreat" = some c_TooGreat
  mc_TooGreat : mg "TooGreat" = some (.ref c_TooGreat)
  f_law_draws : Addr
  fd_law_draws : FuncData
  F_law_draws : Fun K "_law_draws" "_law_draws" s_law_draws f_law_draws fd_law_draws
  m_law_draws : mg "_law_draws" = some (.ref f_law_draws)
  b_law_draws : Binds K fd_law_draws ["_law_script"] []
  f_law_next : Addr
  fd_law_next : FuncData
  F_law_next : Fun K "_law_next" "_law_next" s_law_next f_law_next fd_law_next
  m_law_next : mg "_law_next" = some (.ref f_law_next)
  b_law_next : Binds K fd_law_next ["_law_drawn", "_law_many"] []
  f_law_one : Addr
  fd_law_one : FuncData
  F_law_one : Fun K "_law_one" "_law_one" s_law_one f_law_one fd_law_one
  m_law_one : mg "_law_one" = some (.ref f_law_one)
  b_law_one : Binds K fd_law_one ["_law_drawn", "_law_items"] []
  f_law_step : Addr
  fd_law_step : FuncData
  F_law_step : Fun K "_law_step" "_law_step" s_law_step f_law_step fd_law_step
  m_law_step : mg "_law_step" = some (.ref f_law_step)
  b_law_step : Binds K fd_law_step ["_law_drawn", "_law_registers"] []
  f_law_loop : Addr
  fd_law_loop : FuncData
  F_law_loop : Fun K "_law_loop" "_law_loop" s_law_loop f_law_loop fd_law_loop
  m_law_loop : mg "_law_loop" = some (.ref f_law_loop)
  b_law_loop : Binds K fd_law_loop ["_law_drawn"] []
  f_law_rule : Addr
  fd_law_rule : FuncData
  F_law_rule : Fun K "_law_rule" "_law_rule" s_law_rule f_law_rule fd_law_rule
  m_law_rule : mg "_law_rule" = some (.ref f_law_rule)
  b_law_rule : Binds K fd_law_rule ["_law_drawn", "_law_words_here"] []
  f_law_words : Addr
  fd_law_words : FuncData
  F_law_words : Fun K "_law_words" "_law_words" s_law_words f_law_words fd_law_words
  m_law_words : mg "_law_words" = some (.ref f_law_words)
  b_law_words : Binds K fd_law_words ["_law_number"] []
  f_law_far : Addr
  fd_law_far : FuncData
  F_law_far : Fun K "_law_far" "_law_far" s_law_far f_law_far fd_law_far
  m_law_far : mg "_law_far" = some (.ref f_law_far)
  b_law_far : Binds K fd_law_far ["_law_drawn", "_law_figures"] []
  f_law_sum : Addr
  fd_law_sum : FuncData
  F_law_sum : Fun K "_law_sum" "_law_sum" s_law_sum f_law_sum fd_law_sum
  m_law_sum : mg "_law_sum" = some (.ref f_law_sum)
  b_law_sum : Binds K fd_law_sum ["_law_terms", "_law_numbers"] []
  f_law_loop_far : Addr
  fd_law_loop_far : FuncData
  F_law_loop_far : Fun K "_law_loop_far" "_law_loop_far" s_law_loop_far f_law_loop_far fd_law_loop_far
  m_law_loop_far : mg "_law_loop_far" = some (.ref f_law_loop_far)
  b_law_loop_far : Binds K fd_law_loop_far ["_law_loop_here", "_law_letters", "_law_rounding"] []
  f_law_pick : Addr
  fd_law_pick : FuncData
  F_law_pick : Fun K "_law_pick" "_law_pick" s_law_pick f_law_pick fd_law_pick
  m_law_pick : mg "_law_pick" = some (.ref f_law_pick)
  b_law_pick : Binds K fd_law_pick ["_law_rule_here", "_law_number"] []
  f_law_core : Addr
  fd_law_core : FuncData
  F_law_core : Fun K "_law_core" "_law_core" s_law_core f_law_core fd_law_core
  m_law_core : mg "_law_core" = some (.ref f_law_core)
  b_law_core : Binds K fd_law_core ["_law_words_here", "_law_number"] []
  f_law_round : Addr
  fd_law_round : FuncData
  F_law_round : Fun K "_law_round" "_law_round" s_law_round f_law_round fd_law_round
  m_law_round : mg "_law_round" = some (.ref f_law_round)
  b_law_round : Binds K fd_law_round ["_law_rule_here", "_law_number"] []
  f_sum_of_terms : Addr
  fd_sum_of_terms : FuncData
  F_sum_of_terms : Fun K "sum_of_terms" "sum_of_terms" s_sum_of_terms f_sum_of_terms fd_sum_of_terms
  m_sum_of_terms : mg "sum_of_terms" = some (.ref f_sum_of_terms)
  b_sum_of_terms : Binds K fd_sum_of_terms ["terms", "numbers"] []
  f_run_loop : Addr
  fd_run_loop : FuncData
  F_run_loop : Fun K "run_loop" "run_loop" s_run_loop f_run_loop fd_run_loop
  m_run_loop : mg "run_loop" = some (.ref f_run_loop)
  b_run_loop : Binds K fd_run_loop ["loop", "letters", "rounding"] []
  f_law_told : Addr
  fd_law_told : FuncData
  F_law_told : Fun K "_law_told" "_law_told" s_law_told f_law_told fd_law_told
  m_law_told : mg "_law_told" = some (.ref f_law_told)
  b_law_told : Binds K fd_law_told ["_law_loop_here", "_law_letters", "_law_rounding"] []
  f_law : Addr
  fd_law : FuncData
  F_law : Fun K "law" "law" s_law f_law fd_law
  m_law : mg "law" = some (.ref f_law)
  ca_law : Addr
  P_law : Addr
  cc_law : fd_law.code = .ref ca_law
  b_law : Binds K fd_law ["_law_script"] []
  f_TooGreat_init : Addr
  fd_TooGreat_init : FuncData
  F_TooGreat_init : Fun K "__init__" "TooGreat.__init__" s_TooGreat_init f_TooGreat_init fd_TooGreat_init
  b_TooGreat_init : Binds K fd_TooGreat_init ["self", "row"] []
  x_TooGreat : OexC K c_TooGreat
  i_TooGreat : PySem.W.findIn K (.ref c_TooGreat) "__init__" = some (some (.ref f_TooGreat_init))
  t_TooGreat : PySem.W.typeIn K (.ref f_TooGreat_init) = some (.type "function")
  no_TooGreat_row : PySem.W.findIn K (.ref c_TooGreat) "row" = some none
  xt_TooGreat : ExTab K c_TooGreat [("TooGreat", true)]
  xf_row : ∀ c ∈ (["TooGreat"] : List Str), ∀ C, gaddr K c = some C → ExcC K C ∧ PySem.W.findIn K (.ref C) "row" = some none
  tk_GREAT : Tok
  m_GREAT : mg "GREAT" = some (.int v_GREAT tk_GREAT)
  n_range : mg "range" = none
  n_repr : mg "repr" = none
  n_tuple : mg "tuple" = none
  n_len : mg "len" = none
  n_abs : mg "abs" = none
  n_int : mg "int" = none
  n_enumerate : mg "enumerate" = none
  nd : PySem.W.nsIn K cStatics "sys.int_max_str_digits" = some none
structure TxB (K : PySem.W.Frag) (mg : Str → Option Value) (base : Heap) extends Txt K mg where
  tb_law : LamX.TabB base mg ca_law P_law
section
variable {P : Program} {w : World} {K : PySem.W.Frag} {mg : Str → Option Value} {base : Heap}
theorem okx_TooGreat_init (T : TxB K mg base) : FnOk P w K mg base CX0 1 T.f_TooGreat_init T.fd_TooGreat_init ["self", "row"] (spExc T.c_TooGreat ["row"]) := fn_exc1 T.x_TooGreat T.no_TooGreat_row T.F_TooGreat_init sc_TooGreat_init rfl rfl rfl rfl ⟨_, _, _, _, rfl⟩
theorem ok_law_draws (T : TxB K mg base) : FnG P w K mg base 1 T.f_law_draws T.fd_law_draws ["_law_script"] sp_law_draws :=
  FunG.ok (N := N_law_draws) T.F_law_draws sc_law_draws len_law_draws fun cdv A outer s H E hA hr => ⟨t_law_draws, (by exact (dss_cons (ds_par (i := 2) (j := 3) rfl sc_law_draws.nd rfl rfl (by decide) rfl rfl (da_cons de_int (da_cons (de_op oAdd de_int (de_op oMul de_int (de_callB cLen (by rfl) T.n_len (by decide +kernel) (da_cons (de_var 0) da_nil)))) da_nil)) (by rfl))
  (dss_cons (ds_for (passes_of rfl) rfl (di_lst (de_sl (de_var 0) do_none (do_some de_int))) (dg_name sc_law_draws.nd (i := 1) rfl (Or.inl rfl))
  (dss_cons (ds_set (i := 3) sc_law_draws.nd rfl (Or.inl rfl) (de_op oMod (de_op oAdd (de_op oAdd (de_op oAdd (de_op oMul (de_var 3) de_int) (de_op oMul de_int (de_callB cAbs (by rfl) T.n_abs (by decide +kernel) (da_cons (de_var 1) da_nil)))) (de_callTy cInt (by rfl) T.n_int (by decide +kernel) (da_cons (de_cmp oLt (de_var 1) de_int (nomark _)) da_nil))) de_int) de_int))
  (dss_one (ds_if (dt_cmp oGe (de_callB cAbs (by rfl) T.n_abs (by decide +kernel) (da_cons (de_var 1) da_nil)) (de_op oPow de_int de_int) (nomark _))
  (dss_one (ds_set (i := 2) sc_law_draws.nd rfl (Or.inl rfl) (de_op oAdd (de_op oMul (de_var 2) de_int) (de_callB cAbs (by rfl) T.n_abs (by decide +kernel) (da_cons (de_var 1) da_nil)))))
  dss_nil))))
  (dss_one (ds_ret (de_lstM (da_cons (de_var 2) (da_cons (de_var 3) (da_cons de_int da_nil))))))))), vc_law_draws⟩
theorem ok_law_next (T : TxB K mg base) : FnG P w K mg base 1 T.f_law_next T.fd_law_next ["_law_drawn", "_law_many"] sp_law_next :=
  FunG.ok (N := N_law_next) T.F_law_next sc_law_next len_law_next fun cdv A outer s H E hA hr => ⟨t_law_next, (by exact (dss_cons (ds_if (dt_cmp oGt (de_ix (de_var 0) de_int) de_int (nomark _))
  (dss_cons (ds_set (i := 3) sc_law_next.nd rfl (Or.inl rfl) (de_op oMod (de_callTy cInt (by rfl) T.n_int (by decide +kernel) (da_cons (de_ix (de_var 0) de_int) da_nil)) (de_var 1)))
  (dss_cons (ds_asg (de_op oDiv (de_ix (de_var 0) de_int) (de_var 1)) (dg_sub (de_var 0) de_int))
  (dss_one (ds_ret (de_var 3)))))
  dss_nil)
  (dss_cons (ds_asg (de_op oAdd (de_ix (de_var 0) de_int) de_int) (dg_sub (de_var 0) de_int))
  (dss_cons (ds_set (i := 2) sc_law_next.nd rfl (Or.inl rfl) (de_op oMod (de_op oAdd (de_callTy cInt (by rfl) T.n_int (by decide +kernel) (da_cons (de_ix (de_var 0) de_int) da_nil)) (de_op oMul de_int (de_ix (de_var 0) de_int))) de_int))
  (dss_cons (ds_set (i := 2) sc_law_next.nd rfl (Or.inl rfl) (de_op oMod (de_op oMul (de_var 2) (de_op oAdd (de_op oMod (de_var 2) de_int) de_int)) de_int))
  (dss_one (ds_ret (de_op oMod (de_op oDiv (de_op oMod (de_op oMul (de_var 2) (de_var 2)) de_int) de_int) (de_var 1))))))))), vc_law_next⟩
theorem ok_law_one (T : TxB K mg base) : FnG P w K mg base 2 T.f_law_one T.fd_law_one ["_law_drawn", "_law_items"] sp_law_one :=
  FunG.ok (N := N_law_one) T.F_law_one sc_law_one len_law_one fun cdv A outer s H E hA hr => ⟨t_law_one, (by exact (dss_one (ds_ret (de_ix (de_var 1) (de_call (ok_law_next T) hA (hr.mono (by decide)) (by rfl) T.m_law_next T.F_law_next.kp T.b_law_next (takes_of rfl rfl rfl rfl) (da_cons (de_var 0) (da_cons (de_callB cLen (by rfl) T.n_len (by decide +kernel) (da_cons (de_var 1) da_nil)) da_nil))))))), vc_law_one⟩
theorem ok_law_step (T : TxB K mg base) : FnG P w K mg base 3 T.f_law_step T.fd_law_step ["_law_drawn", "_law_registers"] sp_law_step :=
  FunG.ok (N := N_law_step) T.F_law_step sc_law_step len_law_step fun cdv A outer s H E hA hr => ⟨t_law_step, (by exact (dss_cons (ds_par (i := 5) (j := 6) rfl sc_law_step.nd rfl rfl (by decide) rfl rfl (da_cons (de_lstM da_nil) (da_cons (de_var 1) da_nil)) (by rfl))
  (dss_cons (ds_for (passes_of rfl) rfl (di_rng1 (by rfl) T.n_range (da_cons (de_call (ok_law_one T) hA (hr.mono (by decide)) (by rfl) T.m_law_one T.F_law_one.kp T.b_law_one (takes_of rfl rfl rfl rfl) (da_cons (de_var 0) (da_cons (de_lst (da_cons de_int (da_cons de_int (da_cons de_int (da_cons de_int (da_cons de_int (da_cons de_int da_nil))))))) da_nil))) da_nil)) (dg_name sc_law_step.nd (i := 2) rfl (Or.inl rfl))
  (dss_cons (ds_set (i := 7) sc_law_step.nd rfl (Or.inl rfl) (de_ifExp (dt_cmp (oEq (hu64 hr)) (de_var 2) de_int (nomark _)) (de_var 6) (de_call (ok_law_one T) hA (hr.mono (by decide)) (by rfl) T.m_law_one T.F_law_one.kp T.b_law_one (takes_of rfl rfl rfl rfl) (da_cons (de_var 0) (da_cons (de_lst (da_cons (de_var 6) (da_cons (de_op oAdd (de_var 6) (de_var 2)) da_nil))) da_nil)))))
  (dss_cons (ds_set (i := 8) sc_law_step.nd rfl (Or.inl rfl) (de_lstM (da_cons (de_tup (da_cons (de_call (ok_law_one T) hA (hr.mono (by decide)) (by rfl) T.m_law_one T.F_law_one.kp T.b_law_one (takes_of rfl rfl rfl rfl) (da_cons (de_var 0) (da_cons (de_lst (da_cons de_int (da_cons de_int (da_cons (de_neg de_int) (da_cons de_int da_nil))))) da_nil))) (da_cons (de_tup (da_cons (de_var 7) da_nil)) da_nil))) da_nil)))
  (dss_cons (ds_for (passes_of rfl) rfl (di_rng1 (by rfl) T.n_range (da_cons (de_call (ok_law_next T) hA (hr.mono (by decide)) (by rfl) T.m_law_next T.F_law_next.kp T.b_law_next (takes_of rfl rfl rfl rfl) (da_cons (de_var 0) (da_cons de_int da_nil))) da_nil)) (dg_name sc_law_step.nd (i := 9) rfl (Or.inl rfl))
  (dss_cons (ds_par3 (i := 13) (j := 14) (l := 10) rfl sc_law_step.nd rfl rfl rfl (by decide) (by decide) (by decide) rfl rfl rfl (da_cons (de_call (ok_law_next T) hA (hr.mono (by decide)) (by rfl) T.m_law_next T.F_law_next.kp T.b_law_next (takes_of rfl rfl rfl rfl) (da_cons (de_var 0) (da_cons (de_op oAdd (de_op oAdd (de_var 6) de_int) (de_var 2)) da_nil))) (da_cons (de_var 6) (da_cons (de_call (ok_law_next T) hA (hr.mono (by decide)) (by rfl) T.m_law_next T.F_law_next.kp T.b_law_next (takes_of rfl rfl rfl rfl) (da_cons (de_var 0) (da_cons de_int da_nil))) da_nil))) (by rfl))
  (dss_cons (ds_if (DW.pt (dw_and (dt_cmp oLt (de_var 2) de_int (nomark _)) (dw_and1 (dt_cmp (oEq (hu64 hr)) (de_call (ok_law_next T) hA (hr.mono (by decide)) (by rfl) T.m_law_next T.F_law_next.kp T.b_law_next (takes_of rfl rfl rfl rfl) (da_cons (de_var 0) (da_cons de_int da_nil))) de_int (nomark _)))))
  (dss_one (ds_set (i := 14) sc_law_step.nd rfl (Or.inl rfl) (de_call (ok_law_next T) hA (hr.mono (by decide)) (by rfl) T.m_law_next T.F_law_next.kp T.b_law_next (takes_of rfl rfl rfl rfl) (da_cons (de_var 0) (da_cons (de_op oAdd (de_op oAdd (de_var 6) de_int) (de_var 2)) da_nil)))))
  dss_nil)
  (dss_cons (ds_set (i := 12) sc_law_step.nd rfl (Or.inl rfl) (de_ix (de_lst (da_cons (de_tup da_nil) (da_cons (de_tup (da_cons (de_var 13) (da_cons (de_var 14) da_nil))) (da_cons (de_tup (da_cons (de_var 14) (da_cons (de_var 13) da_nil))) (da_cons (de_tup (da_cons (de_var 13) da_nil)) (da_cons (de_tup (da_cons (de_var 13) da_nil)) (da_cons (de_tup (da_cons (de_var 13) da_nil)) (da_cons (de_tup (da_cons (de_var 13) da_nil)) da_nil)))))))) (de_var 10)))
  (dss_one (ds_expr (de_append (de_var 8) (da_cons (de_tup (da_cons (de_call (ok_law_one T) hA (hr.mono (by decide)) (by rfl) T.m_law_one T.F_law_one.kp T.b_law_one (takes_of rfl rfl rfl rfl) (da_cons (de_var 0) (da_cons (de_lst (da_cons de_int (da_cons (de_neg de_int) (da_cons de_int (da_cons (de_neg de_int) (da_cons (de_op oSub (de_call (ok_law_next T) hA (hr.mono (by decide)) (by rfl) T.m_law_next T.F_law_next.kp T.b_law_next (takes_of rfl rfl rfl rfl) (da_cons (de_var 0) (da_cons de_int da_nil))) de_int) da_nil)))))) da_nil))) (da_cons (de_var 12) da_nil))) da_nil))))))))
  (dss_frz 8 (dss_cons (ds_set (i := 10) sc_law_step.nd rfl (Or.inl rfl) (de_call (ok_law_next T) hA (hr.mono (by decide)) (by rfl) T.m_law_next T.F_law_next.kp T.b_law_next (takes_of rfl rfl rfl rfl) (da_cons (de_var 0) (da_cons de_int da_nil))))
  (dss_one (ds_expr (de_append (de_var 5) (da_cons (de_callTy cTuple (by rfl) T.n_tuple (by decide +kernel) (da_cons (de_ifExp (dt_cmp oLt (de_var 10) de_int (nomark _)) (de_ix (de_lst (da_cons (de_sl (de_var 8) (do_some de_int) do_none) (da_cons (de_lst (da_cons (de_tup (da_cons de_int (da_cons (de_tup da_nil) da_nil))) da_nil)) da_nil))) (de_var 10)) (de_var 8)) da_nil)) da_nil))))))))))
  (dss_frz 5 (dss_cons (ds_set (i := 3) sc_law_step.nd rfl (Or.inl rfl) (de_lstM da_nil))
  (dss_cons (ds_for (passes_of rfl) rfl (di_rng1 (by rfl) T.n_range (da_cons (de_var 1) da_nil)) (dg_name sc_law_step.nd (i := 4) rfl (Or.inl rfl))
  (dss_cons (ds_set (i := 11) sc_law_step.nd rfl (Or.inl rfl) (de_lst (da_cons (de_var 4) (da_cons (de_call (ok_law_next T) hA (hr.mono (by decide)) (by rfl) T.m_law_next T.F_law_next.kp T.b_law_next (takes_of rfl rfl rfl rfl) (da_cons (de_var 0) (da_cons (de_var 6) da_nil))) (da_cons (de_op oAdd (de_var 6) (de_callB cLen (by rfl) T.n_len (by decide +kernel) (da_cons (de_var 5) da_nil))) (da_cons (de_op oAdd (de_var 6) (de_callB cLen (by rfl) T.n_len (by decide +kernel) (da_cons (de_var 5) da_nil))) da_nil))))))
  (dss_one (ds_expr (de_append (de_var 3) (da_cons (de_tup (da_cons (de_call (ok_law_one T) hA (hr.mono (by decide)) (by rfl) T.m_law_one T.F_law_one.kp T.b_law_one (takes_of rfl rfl rfl rfl) (da_cons (de_var 0) (da_cons (de_lst (da_cons de_int (da_cons de_int (da_cons de_int (da_cons de_int (da_cons (de_neg de_int) (da_cons de_int da_nil))))))) da_nil))) (da_cons (de_call (ok_law_one T) hA (hr.mono (by decide)) (by rfl) T.m_law_one T.F_law_one.kp T.b_law_one (takes_of rfl rfl rfl rfl) (da_cons (de_var 0) (da_cons (de_var 11) da_nil))) da_nil))) da_nil))))))
  (dss_frz 3 (dss_one (ds_ret (de_tup (da_cons (de_callTy cTuple (by rfl) T.n_tuple (by decide +kernel) (da_cons (de_var 5) da_nil)) (da_cons (de_callTy cTuple (by rfl) T.n_tuple (by decide +kernel) (da_cons (de_var 3) da_nil)) da_nil)))))))))))), vc_law_step⟩
theorem ok_law_loop (T : TxB K mg base) : FnG P w K mg base 4 T.f_law_loop T.fd_law_loop ["_law_drawn"] sp_law_loop :=
  FunG.ok (N := N_law_loop) T.F_law_loop sc_law_loop len_law_loop fun cdv A outer s H E hA hr => ⟨t_law_loop, (by exact (dss_cons (ds_set (i := 1) sc_law_loop.nd rfl (Or.inr rfl) (de_op oAdd de_int (de_call (ok_law_next T) hA (hr.mono (by decide)) (by rfl) T.m_law_next T.F_law_next.kp T.b_law_next (takes_of rfl rfl rfl rfl) (da_cons (de_var 0) (da_cons de_int da_nil)))))
  (dss_one (ds_ret (de_tup (da_cons (de_var 1) (da_cons (de_callTy cTuple (by rfl) T.n_tuple (by decide +kernel) (da_cons (de_lc (own := [("_law_k", 2)]) true (.nm 2) rfl sc_law_loop.nd (di_rng1 (by rfl) T.n_range (da_cons (de_call (ok_law_one T) hA (hr.mono (by decide)) (by rfl) T.m_law_one T.F_law_one.kp T.b_law_one (takes_of rfl rfl rfl rfl) (da_cons (de_var 0) (da_cons (de_lst (da_cons de_int (da_cons de_int (da_cons de_int (da_cons de_int da_nil))))) da_nil))) da_nil)) (blkOk_by (N := N_law_loop) (sc := defScope s_law_loop) (by decide +kernel)) (by decide) (fun _ _ _ _ _ => by exact (pg_name (i := 2) sc_law_loop.nd rfl (Or.inl rfl))) (fun _ _ _ _ _ => by exact dts_nil) (fun _ _ _ _ _ => by exact (de_call (ok_law_step T) hA (hr.mono (by decide)) (by rfl) T.m_law_step T.F_law_step.kp T.b_law_step takes0 (da_cons (de_var 0) (da_cons (de_var 1) da_nil))))) da_nil)) da_nil))))))), vc_law_loop⟩
theorem ok_law_rule (T : TxB K mg base) : FnG P w K mg base 2 T.f_law_rule T.fd_law_rule ["_law_drawn", "_law_words_here"] sp_law_rule :=
  FunG.ok (N := N_law_rule) T.F_law_rule sc_law_rule len_law_rule fun cdv A outer s H E hA hr => ⟨t_law_rule, (by exact (dss_one (ds_ret (de_tup (da_cons (de_var 1) (da_cons (de_op oAdd de_int (de_call (ok_law_next T) hA (hr.mono (by decide)) (by rfl) T.m_law_next T.F_law_next.kp T.b_law_next (takes_of rfl rfl rfl rfl) (da_cons (de_var 0) (da_cons (de_op oPow de_int de_int) da_nil)))) (da_cons (de_call (ok_law_next T) hA (hr.mono (by decide)) (by rfl) T.m_law_next T.F_law_next.kp T.b_law_next (takes_of rfl rfl rfl rfl) (da_cons (de_var 0) (da_cons (de_op oPow de_int de_int) da_nil))) (da_cons (de_op oAdd (de_op oMul de_int (de_call (ok_law_next T) hA (hr.mono (by decide)) (by rfl) T.m_law_next T.F_law_next.kp T.b_law_next (takes_of rfl rfl rfl rfl) (da_cons (de_var 0) (da_cons (de_op oPow de_int de_int) da_nil)))) de_int) da_nil)))))))), vc_law_rule⟩
theorem ok_law_words (T : TxB K mg base) : FnG P w K mg base 1 T.f_law_words T.fd_law_words ["_law_number"] sp_law_words :=
  FunG.ok (N := N_law_words) T.F_law_words sc_law_words len_law_words fun cdv A outer s H E hA hr => ⟨t_law_words, (by exact (dss_cons (ds_set (i := 1) sc_law_words.nd rfl (Or.inl rfl) (de_lst (da_cons (de_tup da_nil) (da_cons (de_tup (da_cons de_str da_nil)) (da_cons (de_tup (da_cons de_str da_nil)) (da_cons (de_tup (da_cons de_str da_nil)) (da_cons (de_tup (da_cons de_str (da_cons de_str da_nil))) (da_cons (de_tup (da_cons de_str (da_cons de_str da_nil))) (da_cons (de_tup (da_cons de_str (da_cons de_str da_nil))) da_nil)))))))))
  (dss_one (ds_ret (de_ix (de_op oAdd (de_var 1) (de_lst (da_cons (de_tup (da_cons de_str (da_cons de_str da_nil))) (da_cons (de_tup (da_cons de_str (da_cons de_str (da_cons de_str da_nil)))) (da_cons (de_tup (da_cons de_str (da_cons de_str (da_cons de_str da_nil)))) da_nil))))) (de_var 0)))))), vc_law_words⟩
theorem ok_law_far (T : TxB K mg base) : FnG P w K mg base 2 T.f_law_far T.fd_law_far ["_law_drawn", "_law_figures"] sp_law_far :=
  FunG.ok (N := N_law_far) T.F_law_far sc_law_far len_law_far fun cdv A outer s H E hA hr => ⟨t_law_far, (by exact (dss_cons (ds_set (i := 2) sc_law_far.nd rfl (Or.inl rfl) de_int)
  (dss_cons (ds_for (passes_of rfl) rfl (di_rng1 (by rfl) T.n_range (da_cons (de_op oAdd de_int (de_call (ok_law_next T) hA (hr.mono (by decide)) (by rfl) T.m_law_next T.F_law_next.kp T.b_law_next (takes_of rfl rfl rfl rfl) (da_cons (de_var 0) (da_cons (de_var 1) da_nil)))) da_nil)) (dg_name sc_law_far.nd (i := 3) rfl (Or.inl rfl))
  (dss_one (ds_set (i := 2) sc_law_far.nd rfl (Or.inl rfl) (de_op oAdd (de_op oMul de_int (de_var 2)) (de_call (ok_law_next T) hA (hr.mono (by decide)) (by rfl) T.m_law_next T.F_law_next.kp T.b_law_next (takes_of rfl rfl rfl rfl) (da_cons (de_var 0) (da_cons de_int da_nil)))))))
  (dss_one (ds_ret (de_ifExp (dt_cmp (oEq (hu64 hr)) (de_call (ok_law_next T) hA (hr.mono (by decide)) (by rfl) T.m_law_next T.F_law_next.kp T.b_law_next (takes_of rfl rfl rfl rfl) (da_cons (de_var 0) (da_cons de_int da_nil))) de_int (nomark _)) (de_var 2) (de_op oSub de_int (de_var 2)))))))), vc_law_far⟩
theorem ok_law_sum (T : TxB K mg base) : FnG P w K mg base 1 T.f_law_sum T.fd_law_sum ["_law_terms", "_law_numbers"] sp_law_sum :=
  FunG.ok (N := N_law_sum) T.F_law_sum sc_law_sum len_law_sum fun cdv A outer s H E hA hr => ⟨t_law_sum, (by exact (dss_cons (ds_set (i := 2) sc_law_sum.nd rfl (Or.inl rfl) de_int)
  (dss_cons (ds_for (passes_of rfl) rfl (di_sq (de_var 0)) (dg_tup rfl (dgs_cons (dg_name sc_law_sum.nd (i := 3) rfl (Or.inl rfl)) (dgs_cons (dg_name sc_law_sum.nd (i := 4) rfl (Or.inl rfl)) dgs_nil)))
  (dss_cons (ds_set (i := 5) sc_law_sum.nd rfl (Or.inl rfl) (de_var 3))
  (dss_cons (ds_for (passes_of rfl) rfl (di_sq (de_var 4)) (dg_name sc_law_sum.nd (i := 6) rfl (Or.inl rfl))
  (dss_one (ds_set (i := 5) sc_law_sum.nd rfl (Or.inl rfl) (de_op oMul (de_var 5) (de_ix (de_var 1) (de_var 6))))))
  (dss_one (ds_set (i := 2) sc_law_sum.nd rfl (Or.inl rfl) (de_op oAdd (de_var 2) (de_var 5)))))))
  (dss_one (ds_ret (de_var 2)))))), vc_law_sum⟩
theorem okA_law_loop_far (T : TxB K mg base) : FnGA P w K mg base 3 4 T.f_law_loop_far T.fd_law_loop_far ["_law_loop_here", "_law_letters", "_law_rounding"] sp_law_loop_far :=
  FunGA.ok (N := N_law_loop_far) T.F_law_loop_far sc_law_loop_far (fun c g => len_law_loop_far c g) fun c g cdv A outer s H E hact hA hr => ⟨t_law_loop_far c g, (by exact (dss_cons (ds_par (i := 3) (j := 4) rfl sc_law_loop_far.nd rfl rfl (by decide) rfl rfl (da_cons (de_op oMul (de_lst (da_cons de_int da_nil)) (de_ix (de_var 0) de_int)) (da_cons (de_lstM (da_cons de_int da_nil)) da_nil)) (by rfl))
  (dss_cons (ds_for (passes_of rfl) rfl (di_enum (by rfl) T.n_enumerate (da_cons (de_var 1) da_nil)) (dg_tup rfl (dgs_cons (dg_name sc_law_loop_far.nd (i := 5) rfl (Or.inl rfl)) (dgs_cons (dg_name sc_law_loop_far.nd (i := 6) rfl (Or.inl rfl)) dgs_nil)))
  (dss_cons (ds_asg (de_ix (de_ix (de_var 0) de_int) (de_op oMod (de_var 5) (de_callB cLen (by rfl) T.n_len (by decide +kernel) (da_cons (de_ix (de_var 0) de_int) da_nil)))) (dg_tup rfl (dgs_cons (dg_name sc_law_loop_far.nd (i := 8) rfl (Or.inl rfl)) (dgs_cons (dg_name sc_law_loop_far.nd (i := 9) rfl (Or.inl rfl)) dgs_nil))))
  (dss_cons (ds_set (i := 7) sc_law_loop_far.nd rfl (Or.inr rfl) (de_op oAddLstM (de_var 3) (de_lst (da_cons (de_var 6) da_nil))))
  (dss_cons (ds_for (passes_of rfl) rfl (di_enum (by rfl) T.n_enumerate (da_cons (de_var 8) da_nil)) (dg_tup rfl (dgs_cons (dg_name sc_law_loop_far.nd (i := 10) rfl (Or.inl rfl)) (dgs_cons (dg_name sc_law_loop_far.nd (i := 11) rfl (Or.inl rfl)) dgs_nil)))
  (dss_cons (ds_set (i := 12) sc_law_loop_far.nd rfl (Or.inl rfl) (de_call (ok_law_sum T) hA (hr.mono (by decide)) (by rfl) T.m_law_sum T.F_law_sum.kp T.b_law_sum (takes_of rfl rfl rfl rfl) (da_cons (de_var 11) (da_cons (de_var 7) da_nil))))
  (dss_cons (ds_if (dt_cmp oGe (de_callB cAbs (by rfl) T.n_abs (by decide +kernel) (da_cons (de_var 12) da_nil)) (de_op oPowB (de_op oPow de_int de_int) de_int) (nomark _))
  (dss_one (ds_ret (de_tup (da_cons (de_var 4) (da_cons (de_var 10) da_nil)))))
  dss_nil)
  (dss_one (ds_expr (de_append (de_var 7) (da_cons (de_act (i := 2) hact rfl hA (hr.mono (by decide)) (takes_of rfl rfl rfl rfl) (da_cons (de_var 12) da_nil)) da_nil)))))))
  (dss_frz 7 (dss_cons (ds_setLc (own := [("_law_sign", 13), ("_law_place", 14)]) (i := 3) rfl sc_law_loop_far.nd rfl rfl (sw_true rfl rfl rfl (by decide +kernel)) true (.tp [(.nm 13), (.nm 14)]) (di_sq (de_var 9)) (blkOk_by (N := N_law_loop_far) (sc := defScope s_law_loop_far) (by decide +kernel)) (by decide) (fun _ _ _ _ _ => by exact (pg_tup rfl (pgs_cons (pg_name (i := 13) sc_law_loop_far.nd rfl (Or.inl rfl)) (pgs_cons (pg_name (i := 14) sc_law_loop_far.nd rfl (Or.inl rfl)) pgs_nil)))) (fun _ _ _ _ _ => by exact dts_nil) (fun _ _ _ _ _ => by exact (de_op oMul (de_var 13) (de_ix (de_var 7) (de_var 14)))))
  (dss_one (ds_expr (de_append (de_var 4) (da_cons (de_ix (de_var 3) de_int) da_nil))))))))))
  (dss_frz 4 (dss_one (ds_ret (de_tup (da_cons (de_var 4) (da_cons de_non da_nil))))))))), vc_law_loop_far c g⟩
theorem ok_law_pick (T : TxB K mg base) : FnG P w K mg base 1 T.f_law_pick T.fd_law_pick ["_law_rule_here", "_law_number"] sp_law_pick :=
  FunG.ok (N := N_law_pick) T.F_law_pick sc_law_pick len_law_pick fun cdv A outer s H E hA hr => ⟨t_law_pick, (by exact (dss_cons (ds_asg (de_var 0) (dg_tup rfl (dgs_cons (dg_name sc_law_pick.nd (i := 2) rfl (Or.inl rfl)) (dgs_cons (dg_name sc_law_pick.nd (i := 3) rfl (Or.inl rfl)) (dgs_cons (dg_name sc_law_pick.nd (i := 4) rfl (Or.inl rfl)) (dgs_cons (dg_name sc_law_pick.nd (i := 5) rfl (Or.inl rfl)) dgs_nil))))))
  (dss_cons (ds_par (i := 6) (j := 7) rfl sc_law_pick.nd rfl rfl (by decide) rfl rfl (da_cons (de_op oMod (de_callTy cInt (by rfl) T.n_int (by decide +kernel) (da_cons (de_var 1) da_nil)) (de_var 5)) (da_cons de_int da_nil)) (by rfl))
  (dss_cons (ds_if (DW.pt (dw_and (dt_cmp (oIn (hu65 hr)) de_str (de_var 2) (by with_unfolding_all rfl)) (dw_and1 (dt_cmp oGt (de_var 6) (de_op oDiv (de_var 5) de_int) (nomark _)))))
  (dss_one (ds_par (i := 6) (j := 7) rfl sc_law_pick.nd rfl rfl (by decide) rfl rfl (da_cons (de_op oSub (de_var 5) (de_var 6)) (da_cons (de_neg de_int) da_nil)) (by rfl)))
  dss_nil)
  (dss_cons (ds_if (dt_cmp oLt (de_var 6) de_int (nomark _))
  (dss_one (ds_ret (de_op oMul (de_var 7) (de_var 6))))
  dss_nil)
  (dss_one (ds_ret (de_op oMul (de_var 7) (de_op oAdd (de_var 6) (de_op oMul (de_var 5) (de_op oMod (de_op oMod (de_op oAdd (de_op oMul (de_var 6) (de_var 3)) (de_var 4)) de_int) de_int))))))))))), vc_law_pick⟩
theorem ok_law_core (T : TxB K mg base) : FnG P w K mg base 1 T.f_law_core T.fd_law_core ["_law_words_here", "_law_number"] sp_law_core :=
  FunG.ok (N := N_law_core) T.F_law_core sc_law_core len_law_core fun cdv A outer s H E hA hr => ⟨t_law_core, (by exact (dss_cons (ds_par (i := 2) (j := 3) rfl sc_law_core.nd rfl rfl (by decide) rfl rfl (da_cons de_int (da_cons (de_var 1) da_nil)) (by rfl))
  (dss_cons (ds_while (passes_of rfl) (DW.pt (dw_and (dt_cmp (oIn (hu65 hr)) de_str (de_var 0) (by with_unfolding_all rfl)) (dw_and (dt_cmp (oNe (hu64 hr)) (de_var 3) de_int (nomark _)) (dw_and1 (dt_cmp (oEq (hu64 hr)) (de_op oMod (de_var 3) de_int) de_int (nomark _))))))
  (dss_one (ds_par (i := 2) (j := 3) rfl sc_law_core.nd rfl rfl (by decide) rfl rfl (da_cons (de_op oMul de_int (de_var 2)) (da_cons (de_op oDiv (de_var 3) de_int) da_nil)) (by rfl))))
  (dss_cons (ds_if (DW.pt (dw_and (dt_cmp (oIn (hu65 hr)) de_str (de_var 0) (by with_unfolding_all rfl)) (dw_and1 (dt_cmp oLt (de_var 3) de_int (nomark _)))))
  (dss_one (ds_par (i := 2) (j := 3) rfl sc_law_core.nd rfl rfl (by decide) rfl rfl (da_cons (de_op oSub de_int (de_var 2)) (da_cons (de_op oSub de_int (de_var 3)) da_nil)) (by rfl)))
  dss_nil)
  (dss_one (ds_ret (de_tup (da_cons (de_var 2) (da_cons (de_var 3) da_nil))))))))), vc_law_core⟩
theorem ok_law_round (T : TxB K mg base) : FnG P w K mg base 2 T.f_law_round T.fd_law_round ["_law_rule_here", "_law_number"] sp_law_round :=
  FunG.ok (N := N_law_round) T.F_law_round sc_law_round len_law_round fun cdv A outer s H E hA hr => ⟨t_law_round, (by exact (dss_cons (ds_asg (de_var 0) (dg_tup rfl (dgs_cons (dg_name sc_law_round.nd (i := 3) rfl (Or.inl rfl)) (dgs_cons (dg_name sc_law_round.nd (i := 4) rfl (Or.inl rfl)) (dgs_cons (dg_name sc_law_round.nd (i := 5) rfl (Or.inl rfl)) (dgs_cons (dg_name sc_law_round.nd (i := 6) rfl (Or.inl rfl)) dgs_nil))))))
  (dss_cons (ds_if (dt_cmp (oIn (hu65 hr)) de_str (de_var 3) (by with_unfolding_all rfl))
  (dss_one (ds_ret (de_call (ok_law_pick T) hA (hr.mono (by decide)) (by rfl) T.m_law_pick T.F_law_pick.kp T.b_law_pick (takes_of rfl rfl rfl rfl) (da_cons (de_var 0) (da_cons (de_var 1) da_nil)))))
  dss_nil)
  (dss_cons (ds_if (DW.pt (dw_and (dt_cmp (oEq (hu64 hr)) (de_var 1) de_int (nomark _)) (dw_and1 (DW.pt (dw_or (dt_cmp (oIn (hu65 hr)) de_str (de_var 3) (by with_unfolding_all rfl)) (dw_or1 (dt_cmp (oIn (hu65 hr)) de_str (de_var 3) (by with_unfolding_all rfl))))))))
  (dss_one (ds_ret de_int))
  dss_nil)
  (dss_cons (ds_asg (de_call (ok_law_core T) hA (hr.mono (by decide)) (by rfl) T.m_law_core T.F_law_core.kp T.b_law_core (takes_of rfl rfl rfl rfl) (da_cons (de_var 3) (da_cons (de_var 1) da_nil))) (dg_tup rfl (dgs_cons (dg_name sc_law_round.nd (i := 7) rfl (Or.inl rfl)) (dgs_cons (dg_name sc_law_round.nd (i := 8) rfl (Or.inl rfl)) dgs_nil))))
  (dss_cons (ds_set (i := 2) sc_law_round.nd rfl (Or.inl rfl) (de_op oMod (de_op oAdd (de_op oMul (de_var 8) (de_var 4)) (de_var 5)) de_int))
  (dss_cons (ds_if (dt_cmp (oNotIn (hu65 hr)) de_str (de_var 3) (by with_unfolding_all rfl))
  (dss_one (ds_ret (de_op oMul (de_var 7) (de_op oSub (de_var 2) de_int))))
  dss_nil)
  (dss_one (ds_ret (de_ifExp (dt_cmp (oEq (hu64 hr)) (de_op oMod (de_callTy cInt (by rfl) T.n_int (by decide +kernel) (da_cons (de_var 8) da_nil)) de_int) de_int (nomark _)) (de_op oMul (de_var 7) (de_var 8)) (de_op oMul (de_var 7) (de_op oAdd (de_op oMul de_int (de_var 2)) de_int)))))))))))), vc_law_round⟩
theorem ok_sum_of_terms (T : TxB K mg base) : FnG P w K mg base 1 T.f_sum_of_terms T.fd_sum_of_terms ["terms", "numbers"] sp_sum_of_terms :=
  FunG.ok (N := N_sum_of_terms) T.F_sum_of_terms sc_sum_of_terms len_sum_of_terms fun cdv A outer s H E hA hr => ⟨t_sum_of_terms, (by exact (dss_cons (ds_set (i := 2) sc_sum_of_terms.nd rfl (Or.inl rfl) de_int)
  (dss_cons (ds_for (passes_of rfl) rfl (di_sq (de_var 0)) (dg_tup rfl (dgs_cons (dg_name sc_sum_of_terms.nd (i := 3) rfl (Or.inl rfl)) (dgs_cons (dg_name sc_sum_of_terms.nd (i := 4) rfl (Or.inl rfl)) dgs_nil)))
  (dss_cons (ds_set (i := 5) sc_sum_of_terms.nd rfl (Or.inl rfl) (de_var 3))
  (dss_cons (ds_for (passes_of rfl) rfl (di_sq (de_var 4)) (dg_name sc_sum_of_terms.nd (i := 6) rfl (Or.inl rfl))
  (dss_one (ds_set (i := 5) sc_sum_of_terms.nd rfl (Or.inl rfl) (de_op oMul (de_var 5) (de_ix (de_var 1) (de_var 6))))))
  (dss_one (ds_set (i := 2) sc_sum_of_terms.nd rfl (Or.inl rfl) (de_op oAdd (de_var 2) (de_var 5)))))))
  (dss_one (ds_ret (de_var 2)))))), vc_sum_of_terms⟩
theorem okA_run_loop (T : TxB K mg base) : FnGA P w K mg base 3 4 T.f_run_loop T.fd_run_loop ["loop", "letters", "rounding"] sp_run_loop :=
  FunGA.ok (N := N_run_loop) T.F_run_loop sc_run_loop (fun c g => len_run_loop c g) fun c g cdv A outer s H E hact hA hr => ⟨t_run_loop c g, (by exact (dss_cons (ds_asg (de_var 0) (dg_tup rfl (dgs_cons (dg_name sc_run_loop.nd (i := 5) rfl (Or.inl rfl)) (dgs_cons (dg_name sc_run_loop.nd (i := 6) rfl (Or.inl rfl)) dgs_nil))))
  (dss_cons (ds_set (i := 3) sc_run_loop.nd rfl (Or.inl rfl) (de_op oMul (de_lst (da_cons de_int da_nil)) (de_var 5)))
  (dss_cons (ds_set (i := 4) sc_run_loop.nd rfl (Or.inl rfl) (de_lstM (da_cons de_int da_nil)))
  (dss_cons (ds_for (passes_of rfl) rfl (di_enum (by rfl) T.n_enumerate (da_cons (de_var 1) da_nil)) (dg_tup rfl (dgs_cons (dg_name sc_run_loop.nd (i := 7) rfl (Or.inl rfl)) (dgs_cons (dg_name sc_run_loop.nd (i := 8) rfl (Or.inl rfl)) dgs_nil)))
  (dss_cons (ds_asg (de_ix (de_var 6) (de_op oMod (de_var 7) (de_callB cLen (by rfl) T.n_len (by decide +kernel) (da_cons (de_var 6) da_nil)))) (dg_tup rfl (dgs_cons (dg_name sc_run_loop.nd (i := 10) rfl (Or.inl rfl)) (dgs_cons (dg_name sc_run_loop.nd (i := 11) rfl (Or.inl rfl)) dgs_nil))))
  (dss_cons (ds_set (i := 9) sc_run_loop.nd rfl (Or.inr rfl) (de_op oAddLstM (de_var 3) (de_lst (da_cons (de_var 8) da_nil))))
  (dss_cons (ds_for (passes_of rfl) rfl (di_enum (by rfl) T.n_enumerate (da_cons (de_var 10) da_nil)) (dg_tup rfl (dgs_cons (dg_name sc_run_loop.nd (i := 12) rfl (Or.inl rfl)) (dgs_cons (dg_name sc_run_loop.nd (i := 13) rfl (Or.inl rfl)) dgs_nil)))
  (dss_cons (ds_set (i := 14) sc_run_loop.nd rfl (Or.inl rfl) (de_call (ok_sum_of_terms T) hA (hr.mono (by decide)) (by rfl) T.m_sum_of_terms T.F_sum_of_terms.kp T.b_sum_of_terms (takes_of rfl rfl rfl rfl) (da_cons (de_var 13) (da_cons (de_var 9) da_nil))))
  (dss_cons (ds_if (dt_cmp oGe (de_callB cAbs (by rfl) T.n_abs (by decide +kernel) (da_cons (de_var 14) da_nil)) (de_glob (fun _ _ => .int _) (by rfl) T.m_GREAT ⟨_, rfl⟩) (nomark _))
  (dss_one (ds_raise rfl (takes_of rfl rfl rfl rfl) T.g_TooGreat T.x_TooGreat T.i_TooGreat T.t_TooGreat (okx_TooGreat_init T) (hr.mono (by decide)) T.b_TooGreat_init (by rfl) T.mc_TooGreat (by decide) (da_cons (de_var 12) da_nil)))
  dss_nil)
  (dss_one (ds_expr (de_append (de_var 9) (da_cons (de_act (i := 2) hact rfl hA (hr.mono (by decide)) (takes_of rfl rfl rfl rfl) (da_cons (de_var 14) da_nil)) da_nil)))))))
  (dss_frz 9 (dss_cons (ds_setLc (own := [("sign", 15), ("place", 16)]) (i := 3) rfl sc_run_loop.nd rfl rfl (sw_true rfl rfl rfl (by decide +kernel)) true (.tp [(.nm 15), (.nm 16)]) (di_sq (de_var 11)) (blkOk_by (N := N_run_loop) (sc := defScope s_run_loop) (by decide +kernel)) (by decide) (fun _ _ _ _ _ => by exact (pg_tup rfl (pgs_cons (pg_name (i := 15) sc_run_loop.nd rfl (Or.inl rfl)) (pgs_cons (pg_name (i := 16) sc_run_loop.nd rfl (Or.inl rfl)) pgs_nil)))) (fun _ _ _ _ _ => by exact dts_nil) (fun _ _ _ _ _ => by exact (de_op oMul (de_var 15) (de_ix (de_var 9) (de_var 16)))))
  (dss_one (ds_expr (de_append (de_var 4) (da_cons (de_ix (de_var 3) de_int) da_nil))))))))))
  (dss_frz 4 (dss_one (ds_ret (de_callTy cTuple (by rfl) T.n_tuple (by decide +kernel) (da_cons (de_var 4) da_nil)))))))))), vc_run_loop c g⟩
theorem okA_law_told (T : TxB K mg base) : FnGA P w K mg base 3 5 T.f_law_told T.fd_law_told ["_law_loop_here", "_law_letters", "_law_rounding"] sp_law_told :=
  FunGA.ok (N := N_law_told) T.F_law_told sc_law_told (fun c g => len_law_told c g) fun c g cdv A outer s H E hact hA hr => ⟨t_law_told c g, (by exact (dss_one (ds_tryA (i := 3) sc_law_told.nd rfl rfl (by rfl) T.mc_TooGreat (takes_of rfl rfl rfl rfl) T.xt_TooGreat (fun W' pn xe tk po => by exact (dss_one (ds_ret (de_callP (okA_run_loop T) hact rfl hA (hr.mono (by decide)) (by rfl) T.m_run_loop T.F_run_loop.kp T.b_run_loop tk (da_cons (de_var 0) (da_cons (de_var 1) (da_cons (de_var 2) da_nil))))))) (fun n C' hC a oe d pn hz hf => by exact (dss_one (ds_ret (de_lst (da_cons (de_excF hC T.xf_row hz hf (de_var 3)) da_nil)))))))), vc_law_told c g⟩
theorem ok_law (T : TxB K mg base) : FnG P w K mg base 6 T.f_law T.fd_law ["_law_script"] (sp_law T.P_law) :=
  FunG.okC (N := N_law) T.F_law sc_law T.cc_law (len_law T.P_law) fun A outer s H E hA hr => ⟨t_law T.P_law, (by exact (dss_cons (ds_set (i := 1) sc_law.nd rfl (Or.inl rfl) (de_call (ok_law_draws T) hA (hr.mono (by decide)) (by rfl) T.m_law_draws T.F_law_draws.kp T.b_law_draws (takes_of rfl rfl rfl rfl) (da_cons (de_var 0) da_nil)))
  (dss_cons (ds_for (passes_of rfl) rfl (di_rng1 (by rfl) T.n_range (da_cons de_int da_nil)) (dg_name sc_law.nd (i := 2) rfl (Or.inl rfl))
  (dss_cons (ds_asg (de_tup (da_cons (de_call (ok_law_loop T) hA (hr.mono (by decide)) (by rfl) T.m_law_loop T.F_law_loop.kp T.b_law_loop (takes_of rfl rfl rfl rfl) (da_cons (de_var 1) da_nil)) (da_cons (de_call (ok_law_rule T) hA (hr.mono (by decide)) (by rfl) T.m_law_rule T.F_law_rule.kp T.b_law_rule (takes_of rfl rfl rfl rfl) (da_cons (de_var 1) (da_cons (de_call (ok_law_words T) hA (hr.mono (by decide)) (by rfl) T.m_law_words T.F_law_words.kp T.b_law_words (takes_of rfl rfl rfl rfl) (da_cons (de_call (ok_law_next T) hA (hr.mono (by decide)) (by rfl) T.m_law_next T.F_law_next.kp T.b_law_next (takes_of rfl rfl rfl rfl) (da_cons (de_var 1) (da_cons de_int da_nil))) da_nil)) da_nil))) da_nil))) (dg_tup rfl (dgs_cons (dg_name sc_law.nd (i := 7) rfl (Or.inl rfl)) (dgs_cons (dg_name sc_law.nd (i := 8) rfl (Or.inr rfl)) dgs_nil))))
  (dss_cons (ds_set (i := 3) sc_law.nd rfl (Or.inl rfl) (de_lstM da_nil))
  (dss_cons (ds_for (passes_of rfl) rfl (di_rng1 (by rfl) T.n_range (da_cons (de_call (ok_law_one T) hA (hr.mono (by decide)) (by rfl) T.m_law_one T.F_law_one.kp T.b_law_one (takes_of rfl rfl rfl rfl) (da_cons (de_var 1) (da_cons (de_lst (da_cons (de_call (ok_law_next T) hA (hr.mono (by decide)) (by rfl) T.m_law_next T.F_law_next.kp T.b_law_next (takes_of rfl rfl rfl rfl) (da_cons (de_var 1) (da_cons de_int da_nil))) (da_cons (de_call (ok_law_next T) hA (hr.mono (by decide)) (by rfl) T.m_law_next T.F_law_next.kp T.b_law_next (takes_of rfl rfl rfl rfl) (da_cons (de_var 1) (da_cons de_int da_nil))) (da_cons (de_call (ok_law_next T) hA (hr.mono (by decide)) (by rfl) T.m_law_next T.F_law_next.kp T.b_law_next (takes_of rfl rfl rfl rfl) (da_cons (de_var 1) (da_cons de_int da_nil))) da_nil)))) da_nil))) da_nil)) (dg_name sc_law.nd (i := 4) rfl (Or.inl rfl))
  (dss_one (ds_expr (de_append (de_var 3) (da_cons (de_ifExp (dt_cmp (oEq (hu64 hr)) (de_call (ok_law_next T) hA (hr.mono (by decide)) (by rfl) T.m_law_next T.F_law_next.kp T.b_law_next (takes_of rfl rfl rfl rfl) (da_cons (de_var 1) (da_cons de_int da_nil))) de_int (nomark _)) (de_call (ok_law_far T) hA (hr.mono (by decide)) (by rfl) T.m_law_far T.F_law_far.kp T.b_law_far (takes_of rfl rfl rfl rfl) (da_cons (de_var 1) (da_cons de_int da_nil))) (de_op oSub (de_call (ok_law_next T) hA (hr.mono (by decide)) (by rfl) T.m_law_next T.F_law_next.kp T.b_law_next (takes_of rfl rfl rfl rfl) (da_cons (de_var 1) (da_cons de_int da_nil))) de_int)) da_nil)))))
  (dss_frz 3 (dss_cons (ds_par (i := 9) (j := 10) rfl sc_law.nd rfl rfl (by decide) rfl rfl (da_cons (de_callB (cReprB hA (hu70 hr) T.nd) (by rfl) T.n_repr (by decide +kernel) (da_cons (de_lst (da_cons (de_var 7) (da_cons (de_var 3) da_nil))) da_nil)) (da_cons (de_callL2 (pf := ["_law_loop_here", "_law_letters", "_law_rounding"]) (ps := ["_law_number"]) (fr := [false, false, false, false, false, false, false, false, true, false, false]) (okA_law_loop_far T) hA (hr.mono (by decide)) (by rfl) T.m_law_loop_far T.F_law_loop_far.kp T.b_law_loop_far (takes_of rfl rfl rfl rfl) T.tb_law rfl (lamP_by (by kernel_rfl)) (by kernel_rfl) rfl (by rfl) (fun _ _ _ _ _ us hl => match us, hl with | [_], _ => rfl) rfl (fun A outer s H E f c' hA hr => (de_call (ok_law_round T) hA (hr.mono (by decide)) (by rfl) T.m_law_round T.F_law_round.kp T.b_law_round (takes_of rfl rfl rfl rfl) (da_cons (de_var 9) (da_cons (de_var 0) da_nil)))) (dax_cons (de_var 7) (dax_cons (de_var 3) dax_nil))) da_nil)) (by rfl))
  (dss_cons (ds_set (i := 5) sc_law.nd rfl (Or.inl rfl) (de_callL2 (pf := ["_law_loop_here", "_law_letters", "_law_rounding"]) (ps := ["_law_number"]) (fr := [false, false, false, false, false, false, false, false, true, false, false]) (okA_law_told T) hA (hr.mono (by decide)) (by rfl) T.m_law_told T.F_law_told.kp T.b_law_told (takes_of rfl rfl rfl rfl) T.tb_law rfl (lamP_by (by kernel_rfl)) (by kernel_rfl) rfl (by rfl) (fun _ _ _ _ _ us hl => match us, hl with | [_], _ => rfl) rfl (fun A outer s H E f c' hA hr => (de_call (ok_law_round T) hA (hr.mono (by decide)) (by rfl) T.m_law_round T.F_law_round.kp T.b_law_round (takes_of rfl rfl rfl rfl) (da_cons (de_var 9) (da_cons (de_var 0) da_nil)))) (dax_cons (de_var 7) (dax_cons (de_callTy cTuple (by rfl) T.n_tuple (by decide +kernel) (da_cons (de_var 3) da_nil)) dax_nil))))
  (dss_cons (ds_set (i := 6) sc_law.nd rfl (Or.inl rfl) (de_ifExp (dt_isN (de_ix (de_var 10) de_int)) (de_callTy cTuple (by rfl) T.n_tuple (by decide +kernel) (da_cons (de_ix (de_var 10) de_int) da_nil)) (de_lst (da_cons (de_ix (de_var 10) de_int) da_nil))))
  (dss_one (ds_if (DW.pt (dw_or (dt_cmp (oNe (hu64 hr)) (de_callB (cReprB hA (hu70 hr) T.nd) (by rfl) T.n_repr (by decide +kernel) (da_cons (de_var 5) da_nil)) (de_callB (cReprB hA (hu70 hr) T.nd) (by rfl) T.n_repr (by decide +kernel) (da_cons (de_var 6) da_nil)) (nomark _)) (dw_or1 (dt_cmp (oNe (hu64 hr)) (de_callB (cReprB hA (hu70 hr) T.nd) (by rfl) T.n_repr (by decide +kernel) (da_cons (de_lst (da_cons (de_var 7) (da_cons (de_var 3) da_nil))) da_nil)) (de_var 9) (nomark _)))))
  (dss_one (ds_ret de_bl))
  dss_nil))))))))))
  (dss_one (ds_ret de_bl))))), vc_law T.P_law⟩
end
theorem all_mk {Ps : List Addr} {l : PySem.W.OpenLaw} {w : World} {K : PySem.W.Frag} {h : Heap} {mg : Str → Option Value} {fa : Addr} (X : K.In h) (G : h.Ns mainGlobals mg) (hfa : mg "law" = some (.ref fa))
    {c_TooGreat : Addr}
    {f_law_draws : Addr} {od_law_draws an_law_draws : Option Addr} {sl_law_draws : Array (Option Value)} {oc_law_draws kV_law_draws dc_law_draws pm_law_draws cd_law_draws ct_law_draws : Value}
    {f_law_next : Addr} {od_law_next an_law_next : Option Addr} {sl_law_next : Array (Option Value)} {oc_law_next kV_law_next dc_law_next pm_law_next cd_law_next ct_law_next : Value}
    {f_law_one : Addr} {od_law_one an_law_one : Option Addr} {sl_law_one : Array (Option Value)} {oc_law_one kV_law_one dc_law_one pm_law_one cd_law_one ct_law_one : Value}
    {f_law_step : Addr} {od_law_step an_law_step : Option Addr} {sl_law_step : Array (Option Value)} {oc_law_step kV_law_step dc_law_step pm_law_step cd_law_step ct_law_step : Value}
    {f_law_loop : Addr} {od_law_loop an_law_loop : Option Addr} {sl_law_loop : Array (Option Value)} {oc_law_loop kV_law_loop dc_law_loop pm_law_loop cd_law_loop ct_law_loop : Value}
    {f_law_rule : Addr} {od_law_rule an_law_rule : Option Addr} {sl_law_rule : Array (Option Value)} {oc_law_rule kV_law_rule dc_law_rule pm_law_rule cd_law_rule ct_law_rule : Value}
    {f_law_words : Addr} {od_law_words an_law_words : Option Addr} {sl_law_words : Array (Option Value)} {oc_law_words kV_law_words dc_law_words pm_law_words cd_law_words ct_law_words : Value}
    {f_law_far : Addr} {od_law_far an_law_far : Option Addr} {sl_law_far : Array (Option Value)} {oc_law_far kV_law_far dc_law_far pm_law_far cd_law_far ct_law_far : Value}
    {f_law_sum : Addr} {od_law_sum an_law_sum : Option Addr} {sl_law_sum : Array (Option Value)} {oc_law_sum kV_law_sum dc_law_sum pm_law_sum cd_law_sum ct_law_sum : Value}
    {f_law_loop_far : Addr} {od_law_loop_far an_law_loop_far : Option Addr} {sl_law_loop_far : Array (Option Value)} {oc_law_loop_far kV_law_loop_far dc_law_loop_far pm_law_loop_far cd_law_loop_far ct_law_loop_far : Value}
    {f_law_pick : Addr} {od_law_pick an_law_pick : Option Addr} {sl_law_pick : Array (Option Value)} {oc_law_pick kV_law_pick dc_law_pick pm_law_pick cd_law_pick ct_law_pick : Value}
    {f_law_core : Addr} {od_law_core an_law_core : Option Addr} {sl_law_core : Array (Option Value)} {oc_law_core kV_law_core dc_law_core pm_law_core cd_law_core ct_law_core : Value}
    {f_law_round : Addr} {od_law_round an_law_round : Option Addr} {sl_law_round : Array (Option Value)} {oc_law_round kV_law_round dc_law_round pm_law_round cd_law_round ct_law_round : Value}
    {f_sum_of_terms : Addr} {od_sum_of_terms an_sum_of_terms : Option Addr} {sl_sum_of_terms : Array (Option Value)} {oc_sum_of_terms kV_sum_of_terms dc_sum_of_terms pm_sum_of_terms cd_sum_of_terms ct_sum_of_terms : Value}
    {f_run_loop : Addr} {od_run_loop an_run_loop : Option Addr} {sl_run_loop : Array (Option Value)} {oc_run_loop kV_run_loop dc_run_loop pm_run_loop cd_run_loop ct_run_loop : Value}
    {f_law_told : Addr} {od_law_told an_law_told : Option Addr} {sl_law_told : Array (Option Value)} {oc_law_told kV_law_told dc_law_told pm_law_told cd_law_told ct_law_told : Value}
    {f_law : Addr} {od_law an_law : Option Addr} {sl_law : Array (Option Value)} {oc_law kV_law dc_law pm_law cd_law ct_law : Value}
    {f_TooGreat_init : Addr} {od_TooGreat_init an_TooGreat_init : Option Addr} {sl_TooGreat_init : Array (Option Value)} {oc_TooGreat_init kV_TooGreat_init dc_TooGreat_init pm_TooGreat_init cd_TooGreat_init ct_TooGreat_init : Value}
    {nm_TooGreat : _} {q_TooGreat : _} {N_TooGreat : _} {bs_TooGreat : _} {bm_TooGreat : _} {sn_TooGreat : _} {sub_TooGreat : _} {ab_TooGreat : _} {col_TooGreat : _} {dd_TooGreat : _} {k0_TooGreat : _} {k1_TooGreat : _} {k2_TooGreat : _} {k3_TooGreat : _} {k5_TooGreat : _}
    {tk_GREAT : Tok}
    {ca_law P_law : Addr} {ct1_law : Value} {ct2_law : Option Addr} {ct3_law : Array Value} {ct4_law : Array (Option Value)}
    (a_TooGreat : PySem.W.nsIn K mainGlobals "TooGreat" = some (some (.ref c_TooGreat)))
    (sa_TooGreat : PySem.W.findIn K (.ref c_TooGreat) "__setattr__" = some (some (.builtin "object.__setattr__")))
    (kc_TooGreat : PySem.W.keepIn K (.ref c_TooGreat) = true)
    (ge_TooGreat : PySem.W.findIn K (.ref c_TooGreat) "__getattribute__" = some (some (.builtin "BaseException.__getattribute__")))
    (gk_TooGreat : PySem.W.findIn K (.ref c_TooGreat) "__getattr__" = some none)
    (sE_TooGreat : PySem.W.subIn K (.ref c_TooGreat) (.type "BaseException") = some true)
    (hd_TooGreat : PySem.W.hasDictIn K c_TooGreat = true)
    (hx_TooGreat : PySem.W.findIn K (.ref c_TooGreat) "__class__" = some (some (.builtin "object.__class__")))
    (oc1 : PySem.W.specialIn K (.builtin "object.__class__") "__get__" = some (some (.builtin "getset_descriptor.__get__")))
    (oc2 : PySem.W.takesIn K (.builtin "object.__class__") = some true)
    (om_TooGreat : PySem.W.mroIn K c_TooGreat (.type "object") = some true)
    (no_TooGreat_row : PySem.W.findIn K (.ref c_TooGreat) "row" = some none)
    (xl_TooGreat : K.lookup c_TooGreat = some (PySem.excClassObj nm_TooGreat q_TooGreat c_TooGreat N_TooGreat bs_TooGreat bm_TooGreat true sn_TooGreat sub_TooGreat ab_TooGreat col_TooGreat dd_TooGreat k0_TooGreat k1_TooGreat k2_TooGreat k3_TooGreat k5_TooGreat "ValueError.__new__"))
    (xr_TooGreat : PySem.HandSPX.refsVE bm_TooGreat = true)
    (xe_TooGreat : PySem.W.subIn K (.ref c_TooGreat) (.type "BaseException") = some true)
    (xt_TooGreat : PySem.W.typeIn K (.ref c_TooGreat) = some (.type "type"))
    (at_TooGreat_init : PySem.W.findIn K (.ref c_TooGreat) "__init__" = some (some (.ref f_TooGreat_init)))
    (ti_TooGreat : PySem.W.typeIn K (.ref f_TooGreat_init) = some (.type "function"))
    (tc_TooGreat : PySem.W.typeIn K (.ref c_TooGreat) = some (.type "type"))
    (sb_TooGreat_TooGreat : PySem.W.subIn K (.ref c_TooGreat) (.ref c_TooGreat) = some true)
    (a_GREAT : PySem.W.nsIn K mainGlobals "GREAT" = some (some (.int v_GREAT tk_GREAT)))
    (a_law_draws : PySem.W.nsIn K mainGlobals "_law_draws" = some (some (.ref f_law_draws)))
    (l_law_draws : K.lookup f_law_draws = some ⟨oc_law_draws, od_law_draws, .func (PySem.W.fnOf "_law_draws" "_law_draws" (defArgs s_law_draws) (defBody s_law_draws) (defScope s_law_draws) .none kV_law_draws dc_law_draws pm_law_draws an_law_draws cd_law_draws ct_law_draws), sl_law_draws⟩)
    (c_law_draws : PySem.W.codeIn K cd_law_draws "_law_draws" = true) (k_law_draws : PySem.W.keepIn K (.ref f_law_draws) = true)
    (a_law_next : PySem.W.nsIn K mainGlobals "_law_next" = some (some (.ref f_law_next)))
    (l_law_next : K.lookup f_law_next = some ⟨oc_law_next, od_law_next, .func (PySem.W.fnOf "_law_next" "_law_next" (defArgs s_law_next) (defBody s_law_next) (defScope s_law_next) .none kV_law_next dc_law_next pm_law_next an_law_next cd_law_next ct_law_next), sl_law_next⟩)
    (c_law_next : PySem.W.codeIn K cd_law_next "_law_next" = true) (k_law_next : PySem.W.keepIn K (.ref f_law_next) = true)
    (a_law_one : PySem.W.nsIn K mainGlobals "_law_one" = some (some (.ref f_law_one)))
    (l_law_one : K.lookup f_law_one = some ⟨oc_law_one, od_law_one, .func (PySem.W.fnOf "_law_one" "_law_one" (defArgs s_law_one) (defBody s_law_one) (defScope s_law_one) .none kV_law_one dc_law_one pm_law_one an_law_one cd_law_one ct_law_one), sl_law_one⟩)
    (c_law_one : PySem.W.codeIn K cd_law_one "_law_one" = true) (k_law_one : PySem.W.keepIn K (.ref f_law_one) = true)
    (a_law_step : PySem.W.nsIn K mainGlobals "_law_step" = some (some (.ref f_law_step)))
    (l_law_step : K.lookup f_law_step = some ⟨oc_law_step, od_law_step, .func (PySem.W.fnOf "_law_step" "_law_step" (defArgs s_law_step) (defBody s_law_step) (defScope s_law_step) .none kV_law_step dc_law_step pm_law_step an_law_step cd_law_step ct_law_step), sl_law_step⟩)
    (c_law_step : PySem.W.codeIn K cd_law_step "_law_step" = true) (k_law_step : PySem.W.keepIn K (.ref f_law_step) = true)
    (a_law_loop : PySem.W.nsIn K mainGlobals "_law_loop" = some (some (.ref f_law_loop)))
    (l_law_loop : K.lookup f_law_loop = some ⟨oc_law_loop, od_law_loop, .func (PySem.W.fnOf "_law_loop" "_law_loop" (defArgs s_law_loop) (defBody s_law_loop) (defScope s_law_loop) .none kV_law_loop dc_law_loop pm_law_loop an_law_loop cd_law_loop ct_law_loop), sl_law_loop⟩)
    (c_law_loop : PySem.W.codeIn K cd_law_loop "_law_loop" = true) (k_law_loop : PySem.W.keepIn K (.ref f_law_loop) = true)
    (a_law_rule : PySem.W.nsIn K mainGlobals "_law_rule" = some (some (.ref f_law_rule)))
    (l_law_rule : K.lookup f_law_rule = some ⟨oc_law_rule, od_law_rule, .func (PySem.W.fnOf "_law_rule" "_law_rule" (defArgs s_law_rule) (defBody s_law_rule) (defScope s_law_rule) .none kV_law_rule dc_law_rule pm_law_rule an_law_rule cd_law_rule ct_law_rule), sl_law_rule⟩)
    (c_law_rule : PySem.W.codeIn K cd_law_rule "_law_rule" = true) (k_law_rule : PySem.W.keepIn K (.ref f_law_rule) = true)
    (a_law_words : PySem.W.nsIn K mainGlobals "_law_words" = some (some (.ref f_law_words)))
    (l_law_words : K.lookup f_law_words = some ⟨oc_law_words, od_law_words, .func (PySem.W.fnOf "_law_words" "_law_words" (defArgs s_law_words) (defBody s_law_words) (defScope s_law_words) .none kV_law_words dc_law_words pm_law_words an_law_words cd_law_words ct_law_words), sl_law_words⟩)
    (c_law_words : PySem.W.codeIn K cd_law_words "_law_words" = true) (k_law_words : PySem.W.keepIn K (.ref f_law_words) = true)
    (a_law_far : PySem.W.nsIn K mainGlobals "_law_far" = some (some (.ref f_law_far)))
    (l_law_far : K.lookup f_law_far = some ⟨oc_law_far, od_law_far, .func (PySem.W.fnOf "_law_far" "_law_far" (defArgs s_law_far) (defBody s_law_far) (defScope s_law_far) .none kV_law_far dc_law_far pm_law_far an_law_far cd_law_far ct_law_far), sl_law_far⟩)
    (c_law_far : PySem.W.codeIn K cd_law_far "_law_far" = true) (k_law_far : PySem.W.keepIn K (.ref f_law_far) = true)
    (a_law_sum : PySem.W.nsIn K mainGlobals "_law_sum" = some (some (.ref f_law_sum)))
    (l_law_sum : K.lookup f_law_sum = some ⟨oc_law_sum, od_law_sum, .func (PySem.W.fnOf "_law_sum" "_law_sum" (defArgs s_law_sum) (defBody s_law_sum) (defScope s_law_sum) .none kV_law_sum dc_law_sum pm_law_sum an_law_sum cd_law_sum ct_law_sum), sl_law_sum⟩)
    (c_law_sum : PySem.W.codeIn K cd_law_sum "_law_sum" = true) (k_law_sum : PySem.W.keepIn K (.ref f_law_sum) = true)
    (a_law_loop_far : PySem.W.nsIn K mainGlobals "_law_loop_far" = some (some (.ref f_law_loop_far)))
    (l_law_loop_far : K.lookup f_law_loop_far = some ⟨oc_law_loop_far, od_law_loop_far, .func (PySem.W.fnOf "_law_loop_far" "_law_loop_far" (defArgs s_law_loop_far) (defBody s_law_loop_far) (defScope s_law_loop_far) .none kV_law_loop_far dc_law_loop_far pm_law_loop_far an_law_loop_far cd_law_loop_far ct_law_loop_far), sl_law_loop_far⟩)
    (c_law_loop_far : PySem.W.codeIn K cd_law_loop_far "_law_loop_far" = true) (k_law_loop_far : PySem.W.keepIn K (.ref f_law_loop_far) = true)
    (a_law_pick : PySem.W.nsIn K mainGlobals "_law_pick" = some (some (.ref f_law_pick)))
    (l_law_pick : K.lookup f_law_pick = some ⟨oc_law_pick, od_law_pick, .func (PySem.W.fnOf "_law_pick" "_law_pick" (defArgs s_law_pick) (defBody s_law_pick) (defScope s_law_pick) .none kV_law_pick dc_law_pick pm_law_pick an_law_pick cd_law_pick ct_law_pick), sl_law_pick⟩)
    (c_law_pick : PySem.W.codeIn K cd_law_pick "_law_pick" = true) (k_law_pick : PySem.W.keepIn K (.ref f_law_pick) = true)
    (a_law_core : PySem.W.nsIn K mainGlobals "_law_core" = some (some (.ref f_law_core)))
    (l_law_core : K.lookup f_law_core = some ⟨oc_law_core, od_law_core, .func (PySem.W.fnOf "_law_core" "_law_core" (defArgs s_law_core) (defBody s_law_core) (defScope s_law_core) .none kV_law_core dc_law_core pm_law_core an_law_core cd_law_core ct_law_core), sl_law_core⟩)
    (c_law_core : PySem.W.codeIn K cd_law_core "_law_core" = true) (k_law_core : PySem.W.keepIn K (.ref f_law_core) = true)
    (a_law_round : PySem.W.nsIn K mainGlobals "_law_round" = some (some (.ref f_law_round)))
    (l_law_round : K.lookup f_law_round = some ⟨oc_law_round, od_law_round, .func (PySem.W.fnOf "_law_round" "_law_round" (defArgs s_law_round) (defBody s_law_round) (defScope s_law_round) .none kV_law_round dc_law_round pm_law_round an_law_round cd_law_round ct_law_round), sl_law_round⟩)
    (c_law_round : PySem.W.codeIn K cd_law_round "_law_round" = true) (k_law_round : PySem.W.keepIn K (.ref f_law_round) = true)
    (a_sum_of_terms : PySem.W.nsIn K mainGlobals "sum_of_terms" = some (some (.ref f_sum_of_terms)))
    (l_sum_of_terms : K.lookup f_sum_of_terms = some ⟨oc_sum_of_terms, od_sum_of_terms, .func (PySem.W.fnOf "sum_of_terms" "sum_of_terms" (defArgs s_sum_of_terms) (defBody s_sum_of_terms) (defScope s_sum_of_terms) .none kV_sum_of_terms dc_sum_of_terms pm_sum_of_terms an_sum_of_terms cd_sum_of_terms ct_sum_of_terms), sl_sum_of_terms⟩)
    (c_sum_of_terms : PySem.W.codeIn K cd_sum_of_terms "sum_of_terms" = true) (k_sum_of_terms : PySem.W.keepIn K (.ref f_sum_of_terms) = true)
    (a_run_loop : PySem.W.nsIn K mainGlobals "run_loop" = some (some (.ref f_run_loop)))
    (l_run_loop : K.lookup f_run_loop = some ⟨oc_run_loop, od_run_loop, .func (PySem.W.fnOf "run_loop" "run_loop" (defArgs s_run_loop) (defBody s_run_loop) (defScope s_run_loop) .none kV_run_loop dc_run_loop pm_run_loop an_run_loop cd_run_loop ct_run_loop), sl_run_loop⟩)
    (c_run_loop : PySem.W.codeIn K cd_run_loop "run_loop" = true) (k_run_loop : PySem.W.keepIn K (.ref f_run_loop) = true)
    (a_law_told : PySem.W.nsIn K mainGlobals "_law_told" = some (some (.ref f_law_told)))
    (l_law_told : K.lookup f_law_told = some ⟨oc_law_told, od_law_told, .func (PySem.W.fnOf "_law_told" "_law_told" (defArgs s_law_told) (defBody s_law_told) (defScope s_law_told) .none kV_law_told dc_law_told pm_law_told an_law_told cd_law_told ct_law_told), sl_law_told⟩)
    (c_law_told : PySem.W.codeIn K cd_law_told "_law_told" = true) (k_law_told : PySem.W.keepIn K (.ref f_law_told) = true)
    (a_law : PySem.W.nsIn K mainGlobals "law" = some (some (.ref f_law)))
    (l_law : K.lookup f_law = some ⟨oc_law, od_law, .func (PySem.W.fnOf "law" "law" (defArgs s_law) (defBody s_law) (defScope s_law) .none kV_law dc_law pm_law an_law cd_law ct_law), sl_law⟩)
    (c_law : PySem.W.codeIn K cd_law "law" = true) (k_law : PySem.W.keepIn K (.ref f_law) = true)
    (ec_law : cd_law = .ref ca_law)
    (lc_law : K.lookup ca_law = some ⟨ct1_law, ct2_law, .fields ct3_law, ct4_law⟩)
    (ep_law : ct3_law[11]? = some (.ref P_law))
    (ip_law : P_law ∈ Ps)
    (np_law : K.lookup P_law = none)
    (hp_law : PySem.W.codeHdIn K ca_law P_law = true)
    (l_TooGreat_init : K.lookup f_TooGreat_init = some ⟨oc_TooGreat_init, od_TooGreat_init, .func (PySem.W.fnOf "__init__" "TooGreat.__init__" (defArgs s_TooGreat_init) (defBody s_TooGreat_init) (defScope s_TooGreat_init) .none kV_TooGreat_init dc_TooGreat_init pm_TooGreat_init an_TooGreat_init cd_TooGreat_init ct_TooGreat_init), sl_TooGreat_init⟩)
    (c_TooGreat_init : PySem.W.codeIn K cd_TooGreat_init "TooGreat.__init__" = true) (k_TooGreat_init : PySem.W.keepIn K (.ref f_TooGreat_init) = true)
    (nd : PySem.W.nsIn K cStatics "sys.int_max_str_digits" = some none)
    (n_range : PySem.W.nsIn K mainGlobals "range" = some none)
    (n_repr : PySem.W.nsIn K mainGlobals "repr" = some none)
    (n_tuple : PySem.W.nsIn K mainGlobals "tuple" = some none)
    (n_len : PySem.W.nsIn K mainGlobals "len" = some none)
    (n_abs : PySem.W.nsIn K mainGlobals "abs" = some none)
    (n_int : PySem.W.nsIn K mainGlobals "int" = some none)
    (n_enumerate : PySem.W.nsIn K mainGlobals "enumerate" = some none) :
    ∃ (fd : FuncData) (cs : List (Addr × Addr)) (nm : Nat → Nat → Str), (∀ p ∈ cs, p.2 ∈ Ps) ∧ (∀ p ∈ cs, K.lookup p.2 = none) ∧ (∀ p ∈ cs, PySem.W.codeHdIn K p.1 p.2 = true) ∧ (∀ (s : Shared) (v : Value), BindsTo s fd ⟨[v], []⟩ [("_law_script", v)]) ∧ ∀ base : Heap, K.In base → base.Ns mainGlobals mg → (∀ p ∈ cs, LamX.TabB base mg p.1 p.2) → FnG l.prog w K mg base 6 fa fd ["_law_script"] (spLawT 63 (cs.map (·.2)) nm) := by
  have e := hfa.symm.trans (PySem.W.mg_of X G a_law)
  cases e
  have F_law_draws := fun_mk (st := s_law_draws) l_law_draws c_law_draws k_law_draws
  have b_law_draws := F_law_draws.binds (ps := ["_law_script"]) fun _ _ _ _ _ _ us hl => match us, hl with | [_], _ => rfl
  have F_law_next := fun_mk (st := s_law_next) l_law_next c_law_next k_law_next
  have b_law_next := F_law_next.binds (ps := ["_law_drawn", "_law_many"]) fun _ _ _ _ _ _ us hl => match us, hl with | [_, _], _ => rfl
  have F_law_one := fun_mk (st := s_law_one) l_law_one c_law_one k_law_one
  have b_law_one := F_law_one.binds (ps := ["_law_drawn", "_law_items"]) fun _ _ _ _ _ _ us hl => match us, hl with | [_, _], _ => rfl
  have F_law_step := fun_mk (st := s_law_step) l_law_step c_law_step k_law_step
  have b_law_step := F_law_step.binds (ps := ["_law_drawn", "_law_registers"]) fun _ _ _ _ _ _ us hl => match us, hl with | [_, _], _ => rfl
  have F_law_loop := fun_mk (st := s_law_loop) l_law_loop c_law_loop k_law_loop
  have b_law_loop := F_law_loop.binds (ps := ["_law_drawn"]) fun _ _ _ _ _ _ us hl => match us, hl with | [_], _ => rfl
  have F_law_rule := fun_mk (st := s_law_rule) l_law_rule c_law_rule k_law_rule
  have b_law_rule := F_law_rule.binds (ps := ["_law_drawn", "_law_words_here"]) fun _ _ _ _ _ _ us hl => match us, hl with | [_, _], _ => rfl
  have F_law_words := fun_mk (st := s_law_words) l_law_words c_law_words k_law_words
  have b_law_words := F_law_words.binds (ps := ["_law_number"]) fun _ _ _ _ _ _ us hl => match us, hl with | [_], _ => rfl
  have F_law_far := fun_mk (st := s_law_far) l_law_far c_law_far k_law_far
  have b_law_far := F_law_far.binds (ps := ["_law_drawn", "_law_figures"]) fun _ _ _ _ _ _ us hl => match us, hl with | [_, _], _ => rfl
  have F_law_sum := fun_mk (st := s_law_sum) l_law_sum c_law_sum k_law_sum
  have b_law_sum := F_law_sum.binds (ps := ["_law_terms", "_law_numbers"]) fun _ _ _ _ _ _ us hl => match us, hl with | [_, _], _ => rfl
  have F_law_loop_far := fun_mk (st := s_law_loop_far) l_law_loop_far c_law_loop_far k_law_loop_far
  have b_law_loop_far := F_law_loop_far.binds (ps := ["_law_loop_here", "_law_letters", "_law_rounding"]) fun _ _ _ _ _ _ us hl => match us, hl with | [_, _, _], _ => rfl
  have F_law_pick := fun_mk (st := s_law_pick) l_law_pick c_law_pick k_law_pick
  have b_law_pick := F_law_pick.binds (ps := ["_law_rule_here", "_law_number"]) fun _ _ _ _ _ _ us hl => match us, hl with | [_, _], _ => rfl
  have F_law_core := fun_mk (st := s_law_core) l_law_core c_law_core k_law_core
  have b_law_core := F_law_core.binds (ps := ["_law_words_here", "_law_number"]) fun _ _ _ _ _ _ us hl => match us, hl with | [_, _], _ => rfl
  have F_law_round := fun_mk (st := s_law_round) l_law_round c_law_round k_law_round
  have b_law_round := F_law_round.binds (ps := ["_law_rule_here", "_law_number"]) fun _ _ _ _ _ _ us hl => match us, hl with | [_, _], _ => rfl
  have F_sum_of_terms := fun_mk (st := s_sum_of_terms) l_sum_of_terms c_sum_of_terms k_sum_of_terms
  have b_sum_of_terms := F_sum_of_terms.binds (ps := ["terms", "numbers"]) fun _ _ _ _ _ _ us hl => match us, hl with | [_, _], _ => rfl
  have F_run_loop := fun_mk (st := s_run_loop) l_run_loop c_run_loop k_run_loop
  have b_run_loop := F_run_loop.binds (ps := ["loop", "letters", "rounding"]) fun _ _ _ _ _ _ us hl => match us, hl with | [_, _, _], _ => rfl
  have F_law_told := fun_mk (st := s_law_told) l_law_told c_law_told k_law_told
  have b_law_told := F_law_told.binds (ps := ["_law_loop_here", "_law_letters", "_law_rounding"]) fun _ _ _ _ _ _ us hl => match us, hl with | [_, _, _], _ => rfl
  have F_law := fun_mk (st := s_law) l_law c_law k_law
  have b_law := F_law.binds (ps := ["_law_script"]) fun _ _ _ _ _ _ us hl => match us, hl with | [_], _ => rfl
  have F_TooGreat_init := fun_mk (st := s_TooGreat_init) l_TooGreat_init c_TooGreat_init k_TooGreat_init
  have b_TooGreat_init := F_TooGreat_init.binds (ps := ["self", "row"]) fun _ _ _ _ _ _ us hl => match us, hl with | [_, _], _ => rfl
  let T : Txt K mg := {
    c_TooGreat := c_TooGreat, g_TooGreat := gaddr_of a_TooGreat, mc_TooGreat := PySem.W.mg_of X G a_TooGreat,
    x_TooGreat := ⟨⟨_, _, _, _, _, _, _, _, _, _, _, _, _, _, _, xl_TooGreat, xr_TooGreat⟩, sa_TooGreat, xe_TooGreat, xt_TooGreat, kc_TooGreat⟩, i_TooGreat := at_TooGreat_init, t_TooGreat := ti_TooGreat,
    no_TooGreat_row := no_TooGreat_row,
    tk_GREAT := tk_GREAT, m_GREAT := PySem.W.mg_of X G a_GREAT,
    xt_TooGreat := fun p hp C hC => by
      simp only [List.mem_cons, List.not_mem_nil, or_false] at hp
      rcases hp with rfl
      · rw [gaddr_of a_TooGreat] at hC; cases hC; exact PySem.W.exm_ref sE_TooGreat hd_TooGreat tc_TooGreat sb_TooGreat_TooGreat,
    xf_row := fun p hp C hC => by
      simp only [List.mem_cons, List.not_mem_nil, or_false] at hp
      rcases hp with rfl
      · rw [gaddr_of a_TooGreat] at hC; cases hC; exact ⟨⟨ge_TooGreat, gk_TooGreat, sE_TooGreat, hd_TooGreat, hx_TooGreat, oc1, oc2, om_TooGreat⟩, no_TooGreat_row⟩,
    f_law_draws := f_law_draws, fd_law_draws := _, F_law_draws := F_law_draws, m_law_draws := PySem.W.mg_of X G a_law_draws, b_law_draws := b_law_draws,
    f_law_next := f_law_next, fd_law_next := _, F_law_next := F_law_next, m_law_next := PySem.W.mg_of X G a_law_next, b_law_next := b_law_next,
    f_law_one := f_law_one, fd_law_one := _, F_law_one := F_law_one, m_law_one := PySem.W.mg_of X G a_law_one, b_law_one := b_law_one,
    f_law_step := f_law_step, fd_law_step := _, F_law_step := F_law_step, m_law_step := PySem.W.mg_of X G a_law_step, b_law_step := b_law_step,
    f_law_loop := f_law_loop, fd_law_loop := _, F_law_loop := F_law_loop, m_law_loop := PySem.W.mg_of X G a_law_loop, b_law_loop := b_law_loop,
    f_law_rule := f_law_rule, fd_law_rule := _, F_law_rule := F_law_rule, m_law_rule := PySem.W.mg_of X G a_law_rule, b_law_rule := b_law_rule,
    f_law_words := f_law_words, fd_law_words := _, F_law_words := F_law_words, m_law_words := PySem.W.mg_of X G a_law_words, b_law_words := b_law_words,
    f_law_far := f_law_far, fd_law_far := _, F_law_far := F_law_far, m_law_far := PySem.W.mg_of X G a_law_far, b_law_far := b_law_far,
    f_law_sum := f_law_sum, fd_law_sum := _, F_law_sum := F_law_sum, m_law_sum := PySem.W.mg_of X G a_law_sum, b_law_sum := b_law_sum,
    f_law_loop_far := f_law_loop_far, fd_law_loop_far := _, F_law_loop_far := F_law_loop_far, m_law_loop_far := PySem.W.mg_of X G a_law_loop_far, b_law_loop_far := b_law_loop_far,
    f_law_pick := f_law_pick, fd_law_pick := _, F_law_pick := F_law_pick, m_law_pick := PySem.W.mg_of X G a_law_pick, b_law_pick := b_law_pick,
    f_law_core := f_law_core, fd_law_core := _, F_law_core := F_law_core, m_law_core := PySem.W.mg_of X G a_law_core, b_law_core := b_law_core,
    f_law_round := f_law_round, fd_law_round := _, F_law_round := F_law_round, m_law_round := PySem.W.mg_of X G a_law_round, b_law_round := b_law_round,
    f_sum_of_terms := f_sum_of_terms, fd_sum_of_terms := _, F_sum_of_terms := F_sum_of_terms, m_sum_of_terms := PySem.W.mg_of X G a_sum_of_terms, b_sum_of_terms := b_sum_of_terms,
    f_run_loop := f_run_loop, fd_run_loop := _, F_run_loop := F_run_loop, m_run_loop := PySem.W.mg_of X G a_run_loop, b_run_loop := b_run_loop,
    f_law_told := f_law_told, fd_law_told := _, F_law_told := F_law_told, m_law_told := PySem.W.mg_of X G a_law_told, b_law_told := b_law_told,
    ca_law := ca_law, P_law := P_law, cc_law := ec_law,
    f_law := fa, fd_law := _, F_law := F_law, m_law := PySem.W.mg_of X G a_law, b_law := b_law,
    f_TooGreat_init := f_TooGreat_init, fd_TooGreat_init := _, F_TooGreat_init := F_TooGreat_init, b_TooGreat_init := b_TooGreat_init,
    nd := nd,
    n_range := PySem.W.mg_none_of X G n_range,
    n_repr := PySem.W.mg_none_of X G n_repr,
    n_tuple := PySem.W.mg_none_of X G n_tuple,
    n_len := PySem.W.mg_none_of X G n_len,
    n_abs := PySem.W.mg_none_of X G n_abs,
    n_int := PySem.W.mg_none_of X G n_int,
    n_enumerate := PySem.W.mg_none_of X G n_enumerate }
  exact ⟨_, [(ca_law, P_law)], NM, (List.forall_mem_cons.mpr ⟨ip_law, (fun _ h => nomatch h)⟩), (List.forall_mem_cons.mpr ⟨np_law, (fun _ h => nomatch h)⟩), (List.forall_mem_cons.mpr ⟨hp_law, (fun _ h => nomatch h)⟩), fun s v => .of_eq rfl, fun base _ _ hTB => ok_law ({ toTxt := T, tb_law := hTB _ List.mem_cons_self } : TxB K mg base)⟩
end LW
open PySem PySem.W PyProof.Rows
set_option maxRecDepth 100000 in
set_option maxHeartbeats 0 in
theorem PySem.Challenge.cw_everyround_k50_what_loops_show_holds : PySem.Challenge.rw_everyround_k50_what_loops_show.Holds := by
  w_on; o_law; k_head; (case hw => w_witness2)
  k_fill
  refine DL.walkGT (l := PySem.Challenge.rw_everyround_k50_what_loops_show) (n := 63) (k := 6) (x := "_law_script") rfl (by decide) rfl ⟨rfl, by decide, by decide⟩ (fun w h Y => PySem.W.km_in_of Y) (fun w h Y => PySem.W.km_tabs_of Y) ?F
  case F =>
    intro w mg fa h KX G hmg
    refine' LW.all_mk KX G hmg ?a_TooGreat ?sa_TooGreat ?kc_TooGreat ?ge_TooGreat ?gk_TooGreat ?sE_TooGreat ?hd_TooGreat ?hx_TooGreat ?oc1 ?oc2 ?om_TooGreat ?no_TooGreat_row ?xl_TooGreat ?xr_TooGreat ?xe_TooGreat ?xt_TooGreat ?at_TooGreat_init ?ti_TooGreat ?tc_TooGreat ?sb_TooGreat_TooGreat ?a_GREAT ?a_law_draws ?l_law_draws ?c_law_draws ?k_law_draws ?a_law_next ?l_law_next ?c_law_next ?k_law_next ?a_law_one ?l_law_one ?c_law_one ?k_law_one ?a_law_step ?l_law_step ?c_law_step ?k_law_step ?a_law_loop ?l_law_loop ?c_law_loop ?k_law_loop ?a_law_rule ?l_law_rule ?c_law_rule ?k_law_rule ?a_law_words ?l_law_words ?c_law_words ?k_law_words ?a_law_far ?l_law_far ?c_law_far ?k_law_far ?a_law_sum ?l_law_sum ?c_law_sum ?k_law_sum ?a_law_loop_far ?l_law_loop_far ?c_law_loop_far ?k_law_loop_far ?a_law_pick ?l_law_pick ?c_law_pick ?k_law_pick ?a_law_core ?l_law_core ?c_law_core ?k_law_core ?a_law_round ?l_law_round ?c_law_round ?k_law_round ?a_sum_of_terms ?l_sum_of_terms ?c_sum_of_terms ?k_sum_of_terms ?a_run_loop ?l_run_loop ?c_run_loop ?k_run_loop ?a_law_told ?l_law_told ?c_law_told ?k_law_told ?a_law ?l_law ?c_law ?k_law ?ec_law ?lc_law ?ep_law ?ip_law ?np_law ?hp_law ?l_TooGreat_init ?c_TooGreat_init ?k_TooGreat_init ?nd ?n_range ?n_repr ?n_tuple ?n_len ?n_abs ?n_int ?n_enumerate
    (case a_TooGreat => k_is)
    (case sa_TooGreat => k_is)
    (case kc_TooGreat => k_is)
    (case ge_TooGreat => k_is)
    (case gk_TooGreat => k_is)
    (case sE_TooGreat => k_is)
    (case hd_TooGreat => k_is)
    (case hx_TooGreat => k_is)
    (case oc1 => k_is)
    (case oc2 => k_is)
    (case om_TooGreat => k_is)
    (case no_TooGreat_row => k_is)
    (case xl_TooGreat => k_is)
    (case xr_TooGreat => decide +kernel)
    (case xe_TooGreat => k_is)
    (case xt_TooGreat => k_is)
    (case at_TooGreat_init => k_is)
    (case ti_TooGreat => k_is)
    (case tc_TooGreat => k_is)
    (case sb_TooGreat_TooGreat => k_is)
    (case a_GREAT => k_is)
    (case a_law_draws => k_is)
    (case l_law_draws => k_is)
    (case c_law_draws => k_is)
    (case k_law_draws => k_is)
    (case a_law_next => k_is)
    (case l_law_next => k_is)
    (case c_law_next => k_is)
    (case k_law_next => k_is)
    (case a_law_one => k_is)
    (case l_law_one => k_is)
    (case c_law_one => k_is)
    (case k_law_one => k_is)
    (case a_law_step => k_is)
    (case l_law_step => k_is)
    (case c_law_step => k_is)
    (case k_law_step => k_is)
    (case a_law_loop => k_is)
    (case l_law_loop => k_is)
    (case c_law_loop => k_is)
    (case k_law_loop => k_is)
    (case a_law_rule => k_is)
    (case l_law_rule => k_is)
    (case c_law_rule => k_is)
    (case k_law_rule => k_is)
    (case a_law_words => k_is)
    (case l_law_words => k_is)
    (case c_law_words => k_is)
    (case k_law_words => k_is)
    (case a_law_far => k_is)
    (case l_law_far => k_is)
    (case c_law_far => k_is)
    (case k_law_far => k_is)
    (case a_law_sum => k_is)
    (case l_law_sum => k_is)
    (case c_law_sum => k_is)
    (case k_law_sum => k_is)
    (case a_law_loop_far => k_is)
    (case l_law_loop_far => k_is)
    (case c_law_loop_far => k_is)
    (case k_law_loop_far => k_is)
    (case a_law_pick => k_is)
    (case l_law_pick => k_is)
    (case c_law_pick => k_is)
    (case k_law_pick => k_is)
    (case a_law_core => k_is)
    (case l_law_core => k_is)
    (case c_law_core => k_is)
    (case k_law_core => k_is)
    (case a_law_round => k_is)
    (case l_law_round => k_is)
    (case c_law_round => k_is)
    (case k_law_round => k_is)
    (case a_sum_of_terms => k_is)
    (case l_sum_of_terms => k_is)
    (case c_sum_of_terms => k_is)
    (case k_sum_of_terms => k_is)
    (case a_run_loop => k_is)
    (case l_run_loop => k_is)
    (case c_run_loop => k_is)
    (case k_run_loop => k_is)
    (case a_law_told => k_is)
    (case l_law_told => k_is)
    (case c_law_told => k_is)
    (case k_law_told => k_is)
    (case a_law => k_is)
    (case l_law => k_is)
    (case c_law => k_is)
    (case k_law => k_is)
    (case ec_law => rfl)
    (case lc_law => k_is)
    (case ep_law => rfl)
    (case ip_law => decide)
    (case np_law => kernel_rfl)
    (case hp_law => kernel_rfl)
    (case l_TooGreat_init => k_is)
    (case c_TooGreat_init => k_is)
    (case k_TooGreat_init => k_is)
    (case nd => k_is)
    (case n_range => k_is)
    (case n_repr => k_is)
    (case n_tuple => k_is)
    (case n_len => k_is)
    (case n_abs => k_is)
    (case n_int => k_is)
    (case n_enumerate => k_is)
#print axioms PySem.Challenge.cw_everyround_k50_what_loops_show_holds
