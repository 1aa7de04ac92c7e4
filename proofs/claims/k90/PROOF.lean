import PyProof.Rows.All
import Wide.All
import OpenK.AllK
import Wide.FinOn
import HandS.ForMost
import HandS.Defaults
import HandS.ForExc
import HandS.Small
import HandS.CallLocal
import HandS.Walk
import HandS.Zip
import HandS.Rev
import HandS.Deep
import HandS.TupAny
import HandS.TupMul
import HandS.Wide
import HandS.Style
import HandS.SortInts
import HandS.IsInst
import HandS.Conv
import HandS.More
import HandS.SetFor
import HandS.Lambda
import HandS.ExcIs
import HandS.WideBits
import HandS.HeadHook4
import HandS.Dict
import HandS.RevTup
import HandS.HeadWalk
import HandS.Head2
import HandS.Words
import HandS.WordsExc
import PySem.Challenge.RW_nextterms_k90_whole_pairs
set_option Elab.async false
set_option linter.all false
set_option maxRecDepth 100000
/-! The data layer: what a def computes, said of plain data. -/
namespace DL
open PySem L2
/-- plain data -/
inductive D where
  | non | bl (b : Bool) | int (i : Int) | str (s : Str)
  | tup (ds : List D) | lst (ds : List D)
  | dic (kvs : List (Key × D)) | dit (kvs : List (List Key × D))
  | ref (a : Addr)
section
variable (K : PySem.W.Frag) (H : Hp) (O : Addr → Prop)
mutual
def Rep : D → V → Prop
  | .non, v => v = .non
  | .bl b, v => v = .bl b
  | .int i, v => v = .int i
  | .str s, v => v = .str s
  | .ref a, v => v = .ref a
  | .tup ds, v => ∃ a vs, v = .ref a ∧ SqT K H a vs ∧ RepL ds vs
  | .lst ds, v => ∃ a vs, v = .ref a ∧ H a = some (.lst vs) ∧ ¬ O a ∧ RepL ds vs
  | .dic kvs, v => ∃ a kws, v = .ref a ∧ H a = some (.dK kws) ∧ ¬ O a ∧ RepK kvs kws
  | .dit kvs, v => ∃ a kws, v = .ref a ∧ H a = some (.dT kws) ∧ ¬ O a ∧ RepT kvs kws
def RepL : List D → List V → Prop
  | [], vs => vs = []
  | d :: ds, vs => ∃ v r, vs = v :: r ∧ Rep d v ∧ RepL ds r
def RepK : List (Key × D) → List (Key × V) → Prop
  | [], kws => kws = []
  | (k, d) :: r, kws => ∃ v q, kws = (k, v) :: q ∧ Rep d v ∧ RepK r q
def RepT : List (List Key × D) → List (List Key × V) → Prop
  | [], kws => kws = []
  | (k, d) :: r, kws => ∃ v q, kws = (k, v) :: q ∧ Rep d v ∧ RepT r q
end
end
section
variable {K : PySem.W.Frag} {H H' : Hp} {O O' : Addr → Prop}
/-- what carries a description over -/
structure Carry (K : PySem.W.Frag) (H H' : Hp) (O O' : Addr → Prop) : Prop where
  t : ∀ a vs, SqT K H a vs → SqT K H' a vs
  l : ∀ a vs, H a = some (.lst vs) → ¬ O a → H' a = some (.lst vs) ∧ ¬ O' a
  k : ∀ a kws, H a = some (.dK kws) → ¬ O a → H' a = some (.dK kws) ∧ ¬ O' a
  d : ∀ a kws, H a = some (.dT kws) → ¬ O a → H' a = some (.dT kws) ∧ ¬ O' a
mutual
theorem Rep.carry (c : Carry K H H' O O') : ∀ {d : D} {v : V}, Rep K H O d v → Rep K H' O' d v
  | .non, _, h => h
  | .bl _, _, h => h
  | .int _, _, h => h
  | .str _, _, h => h
  | .ref _, _, h => h
  | .tup ds, _, h => let ⟨a, vs, e, q, r⟩ := h; ⟨a, vs, e, c.t a vs q, RepL.carry c r⟩
  | .lst ds, _, h => let ⟨a, vs, e, q, n, r⟩ := h; ⟨a, vs, e, (c.l a vs q n).1, (c.l a vs q n).2, RepL.carry c r⟩
  | .dic kvs, _, h => let ⟨a, vs, e, q, n, r⟩ := h; ⟨a, vs, e, (c.k a vs q n).1, (c.k a vs q n).2, RepK.carry c r⟩
  | .dit kvs, _, h => let ⟨a, vs, e, q, n, r⟩ := h; ⟨a, vs, e, (c.d a vs q n).1, (c.d a vs q n).2, RepT.carry c r⟩
theorem RepL.carry (c : Carry K H H' O O') : ∀ {ds : List D} {vs : List V}, RepL K H O ds vs → RepL K H' O' ds vs
  | [], _, h => h
  | _ :: _, _, h => let ⟨v, r, e, h1, h2⟩ := h; ⟨v, r, e, Rep.carry c h1, RepL.carry c h2⟩
theorem RepK.carry (c : Carry K H H' O O') : ∀ {ds : List (Key × D)} {vs : List (Key × V)}, RepK K H O ds vs → RepK K H' O' ds vs
  | [], _, h => h
  | (_, _) :: _, _, h => let ⟨v, r, e, h1, h2⟩ := h; ⟨v, r, e, Rep.carry c h1, RepK.carry c h2⟩
theorem RepT.carry (c : Carry K H H' O O') : ∀ {ds : List (List Key × D)} {vs : List (List Key × V)}, RepT K H O ds vs → RepT K H' O' ds vs
  | [], _, h => h
  | (_, _) :: _, _, h => let ⟨v, r, e, h1, h2⟩ := h; ⟨v, r, e, Rep.carry c h1, RepT.carry c h2⟩
end
/-- what a list, a dict is -/
def Mu : HO → Prop
  | .lst _ => True
  | .dK _ => True
  | .dT _ => True
  | _ => False
/-- no table of code objects -/
def NT (o : HO) : Prop := ∀ ps, o ≠ .tbl ps
/-- something stands there (no table) -/
def nT (H : Hp) (a : Addr) : Prop := ∃ o, H a = some o ∧ NT o
def Keep (O : Addr → Prop) (H H' : Hp) : Prop := ∀ a o, H a = some o → ¬ O a → NT o → H' a = some o
def OM (O : Addr → Prop) (H : Hp) : Prop := ∀ a, O a → ∃ o, H a = some o ∧ Mu o
theorem Keep.refl {O : Addr → Prop} {H : Hp} : Keep O H H := fun _ _ h _ _ => h
theorem Keep.trans {O : Addr → Prop} {H H1 H2 : Hp} (a : Keep O H H1) (b : Keep O H1 H2) : Keep O H H2 := fun c o h n t => b c o (a c o h n t) n t
theorem Keep.sub {O O' : Addr → Prop} {H H1 : Hp} (a : Keep O H H1) (s : ∀ b, O b → O' b) : Keep O' H H1 := fun c o h n t => a c o h (fun z => n (s c z)) t
theorem Keep.new {O : Addr → Prop} {H : Hp} {p : Addr} {o : HO} (h : H p = none) : Keep O H (upd H p o) := fun a u e _ _ => by rw [upd_ne (ne_of_none e h)]; exact e
theorem nt_lst {xs : List V} : NT (.lst xs) := fun _ z => by cases z
theorem nt_tup {xs : List V} : NT (.tup xs) := fun _ z => by cases z
theorem nt_frz {o : Obj} {u : HO} : NT (.frz o u) := fun _ z => by cases z
theorem nt_dK {xs : List (Key × V)} : NT (.dK xs) := fun _ z => by cases z
theorem nt_dT {xs : List (List Key × V)} : NT (.dT xs) := fun _ z => by cases z
theorem Carry.keep {P : Addr → Prop} (k : Keep P H H') (s : ∀ a, P a → O a) (om : OM P H) : Carry K H H' O O where
  t := fun a vs h => by
    rcases h with (h | ⟨o, h⟩) | h
    · exact .inl (.inl (k a _ h (fun z => by obtain ⟨o, e, m⟩ := om a z; rw [h] at e; cases e; exact m) nt_tup))
    · exact .inl (.inr ⟨o, k a _ h (fun z => by obtain ⟨o, e, m⟩ := om a z; rw [h] at e; cases e; exact m) nt_frz⟩)
    · exact .inr h
  l := fun a vs h n => ⟨k a _ h (fun z => n (s a z)) nt_lst, n⟩
  k := fun a kws h n => ⟨k a _ h (fun z => n (s a z)) nt_dK, n⟩
  d := fun a kws h n => ⟨k a _ h (fun z => n (s a z)) nt_dT, n⟩
theorem Carry.sub (s : ∀ a, O' a → O a) : Carry K H H O O' := ⟨fun _ _ h => h, fun a _ h n => ⟨h, fun z => n (s a z)⟩, fun a _ h n => ⟨h, fun z => n (s a z)⟩, fun a _ h n => ⟨h, fun z => n (s a z)⟩⟩
theorem Carry.trans {H2 : Hp} {O2 : Addr → Prop} (a : Carry K H H' O O') (b : Carry K H' H2 O' O2) : Carry K H H2 O O2 :=
  ⟨fun x vs h => b.t x vs (a.t x vs h), fun x vs h n => b.l x vs (a.l x vs h n).1 (a.l x vs h n).2, fun x vs h n => b.k x vs (a.k x vs h n).1 (a.k x vs h n).2, fun x vs h n => b.d x vs (a.d x vs h n).1 (a.d x vs h n).2⟩
/-- one more owner: of a thing that was not there -/
theorem Carry.add {p : Addr} (h : H p = none) (s : ∀ a, O' a → O a ∨ a = p) : Carry K H H O O' where
  t := fun _ _ h => h
  l := fun a vs q n => ⟨q, fun z => by
    rcases s a z with z | z
    · exact n z
    · rw [z, h] at q; cases q⟩
  k := fun a vs q n => ⟨q, fun z => by
    rcases s a z with z | z
    · exact n z
    · rw [z, h] at q; cases q⟩
  d := fun a vs q n => ⟨q, fun z => by
    rcases s a z with z | z
    · exact n z
    · rw [z, h] at q; cases q⟩
theorem Carry.new {p : Addr} {o : HO} (h : H p = none) : Carry K H (upd H p o) O O := Carry.keep (P := fun _ => False) (Keep.new h) (fun _ z => z.elim) fun _ z => z.elim
theorem RepL.length : ∀ {ds : List D} {vs : List V}, RepL K H O ds vs → ds.length = vs.length
  | [], _, h => by cases h; rfl
  | _ :: _, _, h => by obtain ⟨v, r, rfl, _, h2⟩ := h; simp [RepL.length h2]
theorem RepL.get : ∀ {ds : List D} {vs : List V} {i : Nat} {d : D}, RepL K H O ds vs → ds[i]? = some d → ∃ v, vs[i]? = some v ∧ Rep K H O d v
  | [], _, i, _, _, e => by simp at e
  | _ :: _, _, 0, _, h, e => by obtain ⟨v, r, rfl, h1, _⟩ := h; simp at e; subst e; exact ⟨v, rfl, h1⟩
  | _ :: _, _, i + 1, _, h, e => by
    obtain ⟨v, r, rfl, _, h2⟩ := h
    obtain ⟨u, e1, e2⟩ := RepL.get h2 (by simpa using e)
    exact ⟨u, by simpa using e1, e2⟩
theorem RepL.get' : ∀ {ds : List D} {vs : List V} {i : Nat} {v : V}, RepL K H O ds vs → vs[i]? = some v → ∃ d, ds[i]? = some d ∧ Rep K H O d v := fun {ds vs i v} h e => by
  have hl := h.length
  have hi : i < ds.length := by rw [hl]; exact (List.getElem?_eq_some_iff.mp e).1
  obtain ⟨u, e1, e2⟩ := h.get (List.getElem?_eq_getElem hi)
  rw [e] at e1; cases e1
  exact ⟨_, List.getElem?_eq_getElem hi, e2⟩
theorem RepL.append : ∀ {ds es : List D} {vs us : List V}, RepL K H O ds vs → RepL K H O es us → RepL K H O (ds ++ es) (vs ++ us)
  | [], _, _, _, h, q => by cases h; exact q
  | _ :: _, _, _, _, h, q => by obtain ⟨v, r, rfl, h1, h2⟩ := h; exact ⟨v, _, rfl, h1, RepL.append h2 q⟩
theorem RepL.one {d : D} {v : V} (h : Rep K H O d v) : RepL K H O [d] [v] := ⟨v, [], rfl, h, rfl⟩
theorem RepL.take : ∀ {ds : List D} {vs : List V} (n : Nat), RepL K H O ds vs → RepL K H O (ds.take n) (vs.take n)
  | _, _, 0, _ => rfl
  | [], _, n + 1, h => by cases h; rfl
  | _ :: _, _, n + 1, h => by obtain ⟨v, r, rfl, h1, h2⟩ := h; exact ⟨v, _, rfl, h1, RepL.take n h2⟩
theorem RepL.drop : ∀ {ds : List D} {vs : List V} (n : Nat), RepL K H O ds vs → RepL K H O (ds.drop n) (vs.drop n)
  | _, _, 0, h => h
  | [], _, n + 1, h => by cases h; rfl
  | _ :: _, _, n + 1, h => by obtain ⟨v, r, rfl, h1, h2⟩ := h; exact RepL.drop n h2
theorem RepL.set : ∀ {ds : List D} {vs : List V} {d : D} {v : V} (i : Nat), RepL K H O ds vs → Rep K H O d v → RepL K H O (ds.set i d) (vs.set i v)
  | [], _, _, _, _, h, _ => by cases h; rfl
  | _ :: _, _, _, _, 0, h, q => by obtain ⟨v, r, rfl, h1, h2⟩ := h; exact ⟨_, r, rfl, q, h2⟩
  | _ :: _, _, _, _, i + 1, h, q => by obtain ⟨v, r, rfl, h1, h2⟩ := h; exact ⟨_, _, rfl, h1, RepL.set i h2 q⟩
theorem RepL.rev : ∀ {ds : List D} {vs : List V}, RepL K H O ds vs → RepL K H O ds.reverse vs.reverse
  | [], _, h => by cases h; rfl
  | d :: ds, _, h => by
    obtain ⟨v, r, rfl, h1, h2⟩ := h
    rw [List.reverse_cons, List.reverse_cons]
    exact RepL.append (RepL.rev h2) (RepL.one h1)
theorem RepL.ints : ∀ {ns : List Int}, RepL K H O (ns.map D.int) (ns.map V.int)
  | [] => rfl
  | _ :: _ => ⟨_, _, rfl, rfl, RepL.ints⟩
/-- the thing itself may be owned; what is in it is not -/
def RepTop (K : PySem.W.Frag) (H : Hp) (O : Addr → Prop) : D → V → Prop
  | .lst ds, v => ∃ a vs, v = .ref a ∧ H a = some (.lst vs) ∧ RepL K H O ds vs
  | .dic kvs, v => ∃ a kws, v = .ref a ∧ H a = some (.dK kws) ∧ RepK K H O kvs kws
  | .dit kvs, v => ∃ a kws, v = .ref a ∧ H a = some (.dT kws) ∧ RepT K H O kvs kws
  | d, v => Rep K H O d v
theorem Rep.top {d : D} {v : V} (h : Rep K H O d v) : RepTop K H O d v := by
  cases d with
  | lst ds => obtain ⟨a, vs, e, q, _, r⟩ := h; exact ⟨a, vs, e, q, r⟩
  | dic ds => obtain ⟨a, vs, e, q, _, r⟩ := h; exact ⟨a, vs, e, q, r⟩
  | dit ds => obtain ⟨a, vs, e, q, _, r⟩ := h; exact ⟨a, vs, e, q, r⟩
  | _ => exact h
end
/-- what of the heap the defs may change among themselves, what always holds of it -/
structure Amb where
  C : Addr → Prop
  inv : Hp → Prop
  new : ∀ H p o, inv H → H p = none → NT o → inv (upd H p o)
  wr : ∀ H p o o', inv H → ¬ C p → H p = some o → Mu o → Mu o' → inv (upd H p o')
  muC : ∀ H a, inv H → C a → ∃ o, H a = some o ∧ Mu o
/-- a name's slot -/
inductive Sl where
  | un | val (d : D)
  | own (ds : List D) | ownD (kvs : List (Key × D)) | ownT (kvs : List (List Key × D))
  | lent (ds : List D)
abbrev Env := List Sl
def Ow (B : Addr → Prop) (ω : List (Option Addr)) (a : Addr) : Prop := B a ∨ ∃ i : Nat, ω[i]? = some (some a)
def SlOk (K : PySem.W.Frag) (S : Addr → HO → Prop) (A : Nat → Option Addr) (H : Hp) (O : Addr → Prop) (i : Nat) (x : Option (Option V)) (w : Option (Option Addr)) : Sl → Prop
  | .un => w = some none
  | .val d => w = some none ∧ ∃ v, x = some (some v) ∧ Rep K H O d v
  | .own ds => ∃ a vs, w = some (some a) ∧ x = some (some (.ref a)) ∧ H a = some (.lst vs) ∧ RepL K H O ds vs
  | .ownD kvs => ∃ a kws, w = some (some a) ∧ x = some (some (.ref a)) ∧ H a = some (.dK kws) ∧ RepK K H O kvs kws
  | .ownT kvs => ∃ a kws, w = some (some a) ∧ x = some (some (.ref a)) ∧ H a = some (.dT kws) ∧ RepT K H O kvs kws
  | .lent ds => w = some none ∧ ∃ a vs, x = some (some (.ref a)) ∧ A i = some a ∧ S a (.lst vs) ∧ RepL K H O ds vs
/-- the state of a def's frame: S what stays as it is, T what stays there, B what is not ours, A where the lent ones stand, ω where ours stand -/
structure Fr (G : Amb) (K : PySem.W.Frag) (S : Addr → HO → Prop) (T B : Addr → Prop) (A : Nat → Option Addr) (ω : List (Option Addr)) (H : Hp) (σ : St) (δ : Env) : Prop where
  inv : G.inv H
  cb : ∀ a, G.C a → B a
  bt : ∀ a, B a → T a
  sT : ∀ a o, S a o → T a
  sc : ∀ a o, S a o → ¬ G.C a ∧ NT o
  al : ∀ i a, A i = some a → B a
  bm : OM B H
  dm : ∀ a, T a → nT H a
  st : ∀ a o, S a o → H a = some o
  sw : ∀ (i : Nat) a, ω[i]? = some (some a) → ¬ B a ∧ ∀ o, ¬ S a o
  inj : ∀ (i j : Nat) a, ω[i]? = some (some a) → ω[j]? = some (some a) → i = j
  wm : ∀ (i : Nat) a, ω[i]? = some (some a) → ∃ o, H a = some o ∧ Mu o
  len : σ.length = δ.length
  lw : ω.length = δ.length
  slot : ∀ (i : Nat) s, δ[i]? = some s → SlOk K S A H (Ow B ω) i (σ[i]?) (ω[i]?) s
/-- what an expression hands on: a thing, a name's own thing, a new list or dict -/
inductive Op where
  | v (d : D) | b (i : Nat) | n (ds : List D) | nd (kvs : List (Key × D)) | nt (kvs : List (List Key × D))
/-- what it is, read now -/
def rd : Op → Env → Option D
  | .v d, _ => some d
  | .n ds, _ => some (.lst ds)
  | .nd kvs, _ => some (.dic kvs)
  | .nt kvs, _ => some (.dit kvs)
  | .b i, δ => match δ[i]? with
    | some (.own ds) => some (.lst ds)
    | some (.lent ds) => some (.lst ds)
    | some (.ownD kvs) => some (.dic kvs)
    | some (.ownT kvs) => some (.dit kvs)
    | _ => none
/-- what may be kept of it -/
def kp : Op → Option D
  | .v d => some d
  | .n ds => some (.lst ds)
  | .nd kvs => some (.dic kvs)
  | .nt kvs => some (.dit kvs)
  | .b _ => none
def ROp (K : PySem.W.Frag) (T : Addr → Prop) (H : Hp) (O : Addr → Prop) (σ : St) (P : Option Addr) : Op → V → Prop
  | .v d, v => P = none ∧ Rep K H O d v
  | .b i, v => P = none ∧ σ[i]? = some (some v)
  | .n ds, v => ∃ p vs, P = some p ∧ v = .ref p ∧ ¬ T p ∧ H p = some (.lst vs) ∧ RepL K H O ds vs
  | .nd kvs, v => ∃ p kws, P = some p ∧ v = .ref p ∧ ¬ T p ∧ H p = some (.dK kws) ∧ RepK K H O kvs kws
  | .nt kvs, v => ∃ p kws, P = some p ∧ v = .ref p ∧ ¬ T p ∧ H p = some (.dT kws) ∧ RepT K H O kvs kws
/-- an exception: its class, its field -/
structure Ex where
  cls : Addr
  fld : Option (Str × D) := none
def ExR (K : PySem.W.Frag) (H : Hp) (O : Addr → Prop) (E : XK) (x : Ex) : Prop := match x.fld with
  | none => E (.ref x.cls) none H
  | some (f, d) => ∀ dx v, H dx = some (.xd [(f, v)]) → Rep K H O d v → E (.ref x.cls) (some dx) H
def EOk (G : Amb) (K : PySem.W.Frag) (S : Addr → HO → Prop) (T B : Addr → Prop) (Z : Ex → Prop) (E : XK) : Prop :=
  ∀ x H', Z x → G.inv H' → (∀ a o, S a o → H' a = some o) → (∀ a, T a → nT H' a) → ExR K H' B E x
def Bp (B : Addr → Prop) (P : Option Addr) (a : Addr) : Prop := B a ∨ P = some a
def WSub (ω' ω : List (Option Addr)) : Prop := ∀ (i : Nat) a, ω'[i]? = some (some a) → ω[i]? = some (some a)
abbrev DT := (Ex → Prop) → Env → (Op → Env → Prop) → Prop
def tD (G : Amb) (K : PySem.W.Frag) (E : XK) (τ : DT) : TE := fun σ H Q => ∃ S T B A ω δ Z, Fr G K S T B A ω H σ δ ∧ EOk G K S T B Z E ∧
  τ Z δ (fun o δ' => ∀ v H' ω' P, Fr G K S (Bp T P) (Bp B P) A ω' H' σ δ' → WSub ω' ω → ROp K T H' (Ow (Bp B P) ω') σ P o v → Q v H')
/-- as it grows with what is wanted -/
structure Mono (τ : DT) : Prop where
  m : ∀ (Z Z' : Ex → Prop) (δ : Env) (Q Q' : Op → Env → Prop), (∀ x, Z x → Z' x) → (∀ o δ', Q o δ' → Q' o δ') → τ Z δ Q → τ Z' δ Q'
structure DE (X : Cx) (G : Amb) (E : XK) (e : Expr) (τ : DT) : Prop where
  pe : PE X e (tD G X.K E τ)
  mono : Mono τ
theorem PE.imp {X : Cx} {e : Expr} {t t' : TE} (h : PE X e t) (i : ∀ σ H Q, t' σ H Q → t σ H Q) : PE X e t' := ⟨fun pins s σ H Q I q => h.run pins s σ H Q I (i σ H Q q)⟩
theorem PT.imp {X : Cx} {e : Expr} {t t' : TT} (h : PT X e t) (i : ∀ σ H Q, t' σ H Q → t σ H Q) : PT X e t' := ⟨fun pins s σ H Q I q => h.run pins s σ H Q I (i σ H Q q)⟩
theorem nt_mu {o : HO} (h : Mu o) : NT o := fun ps z => by subst z; exact h
section
variable {G : Amb} {K : PySem.W.Frag} {S S' : Addr → HO → Prop} {T T' B B' : Addr → Prop} {A : Nat → Option Addr} {ω ω' ω2 : List (Option Addr)} {H H' : Hp} {σ : St} {δ : Env} {P : Option Addr} {Z : Ex → Prop} {E : XK}
theorem WSub.refl : WSub ω ω := fun _ _ h => h
theorem WSub.trans (a : WSub ω2 ω') (b : WSub ω' ω) : WSub ω2 ω := fun i x h => b i x (a i x h)
theorem WSub.ow (a : WSub ω' ω) (hb : ∀ x, B' x → B x) : ∀ x, Ow B' ω' x → Ow B ω x := fun x h => h.elim (fun z => .inl (hb x z)) fun ⟨i, z⟩ => .inr ⟨i, a i x z⟩
theorem bp_none : Bp B none = B := by funext a; unfold Bp; simp
theorem Fr.om (F : Fr G K S T B A ω H σ δ) : OM (Ow B ω) H := fun a h => by
  rcases h with h | ⟨i, h⟩
  · exact F.bm a h
  · exact F.wm i a h
theorem Fr.fresh (F : Fr G K S T B A ω H σ δ) {p : Addr} (h : H p = none) : ¬ Ow B ω p := fun z => by
  obtain ⟨o, e, _⟩ := F.om p z
  rw [h] at e; cases e
/-- a thing read now -/
theorem Fr.rd (F : Fr G K S T B A ω H σ δ) {T0 : Addr → Prop} {o : Op} {v : V} {d : D} (r : ROp K T0 H (Ow B ω) σ P o v) (e : rd o δ = some d) : RepTop K H (Ow B ω) d v := by
  cases o with
  | v d' => cases e; exact Rep.top r.2
  | n ds => cases e; obtain ⟨p, vs, _, e1, _, e2, e3⟩ := r; exact ⟨p, vs, e1, e2, e3⟩
  | nd ds => cases e; obtain ⟨p, vs, _, e1, _, e2, e3⟩ := r; exact ⟨p, vs, e1, e2, e3⟩
  | nt ds => cases e; obtain ⟨p, vs, _, e1, _, e2, e3⟩ := r; exact ⟨p, vs, e1, e2, e3⟩
  | b i =>
    have r' : σ[i]? = some (some v) := r.2
    unfold DL.rd at e
    cases q : δ[i]? with
    | none => simp [q] at e
    | some s =>
      have z := F.slot i s q
      cases s with
      | un => simp [q] at e
      | val _ => simp [q] at e
      | own ds =>
        simp only [q, Option.some.injEq] at e; subst e
        obtain ⟨a, vs, _, e2, e3, e4⟩ := z
        rw [r'] at e2; cases e2
        exact ⟨a, vs, rfl, e3, e4⟩
      | ownD ds =>
        simp only [q, Option.some.injEq] at e; subst e
        obtain ⟨a, vs, _, e2, e3, e4⟩ := z
        rw [r'] at e2; cases e2
        exact ⟨a, vs, rfl, e3, e4⟩
      | ownT ds =>
        simp only [q, Option.some.injEq] at e; subst e
        obtain ⟨a, vs, _, e2, e3, e4⟩ := z
        rw [r'] at e2; cases e2
        exact ⟨a, vs, rfl, e3, e4⟩
      | lent ds =>
        simp only [q, Option.some.injEq] at e; subst e
        obtain ⟨_, a, vs, e2, _, e3, e4⟩ := z
        rw [r'] at e2; cases e2
        exact ⟨a, vs, rfl, F.st _ _ e3, e4⟩
/-- what may be kept: nobody owns it -/
theorem ROp.kp {O O' : Addr → Prop} {o : Op} {v : V} {d : D} (r : ROp K T H O σ P o v) (s : ∀ a, O' a → O a) (n : ∀ p, P = some p → ¬ O' p) (e : kp o = some d) : Rep K H O' d v := by
  cases o with
  | v d' => cases e; exact Rep.carry (Carry.sub s) r.2
  | n ds => cases e; obtain ⟨p, vs, e0, e1, _, e2, e3⟩ := r; exact ⟨p, vs, e1, e2, n p e0, RepL.carry (Carry.sub s) e3⟩
  | nd ds => cases e; obtain ⟨p, vs, e0, e1, _, e2, e3⟩ := r; exact ⟨p, vs, e1, e2, n p e0, RepK.carry (Carry.sub s) e3⟩
  | nt ds => cases e; obtain ⟨p, vs, e0, e1, _, e2, e3⟩ := r; exact ⟨p, vs, e1, e2, n p e0, RepT.carry (Carry.sub s) e3⟩
  | b i => cases e
theorem SlOk.carry {O O' : Addr → Prop} {i : Nat} {x : Option (Option V)} {w : Option (Option Addr)} {s : Sl} (c : Carry K H H' O O') (hS : ∀ a o, S a o → S' a o) (ow : ∀ a o, w = some (some a) → H a = some o → Mu o → H' a = some o)
    (h : SlOk K S A H O i x w s) : SlOk K S' A H' O' i x w s := by
  cases s with
  | un => exact h
  | val d => obtain ⟨e, v, e1, r⟩ := h; exact ⟨e, v, e1, Rep.carry c r⟩
  | own ds => obtain ⟨a, vs, e, e1, e2, r⟩ := h; exact ⟨a, vs, e, e1, ow a _ e e2 trivial, RepL.carry c r⟩
  | ownD ds => obtain ⟨a, vs, e, e1, e2, r⟩ := h; exact ⟨a, vs, e, e1, ow a _ e e2 trivial, RepK.carry c r⟩
  | ownT ds => obtain ⟨a, vs, e, e1, e2, r⟩ := h; exact ⟨a, vs, e, e1, ow a _ e e2 trivial, RepT.carry c r⟩
  | lent ds => obtain ⟨e, a, vs, e1, e2, e3, r⟩ := h; exact ⟨e, a, vs, e1, e2, hS _ _ e3, RepL.carry c r⟩
/-- behind a step that keeps what we do not share: C alone changes -/
theorem Fr.grow (F : Fr G K S T B A ω H σ δ) (k : Keep G.C H H') (i : G.inv H') (s : ∀ a o, S a o → H' a = some o) (t : ∀ a, T a → nT H' a) : Fr G K S T B A ω H' σ δ where
  inv := i
  cb := F.cb
  bt := F.bt
  sT := F.sT
  sc := F.sc
  al := F.al
  bm := fun a h => by
    by_cases c : G.C a
    · exact G.muC H' a i c
    · obtain ⟨o, e, mu⟩ := F.bm a h; exact ⟨o, k a o e c (nt_mu mu), mu⟩
  dm := t
  st := s
  sw := F.sw
  inj := F.inj
  wm := fun j a h => by
    obtain ⟨o, e, mu⟩ := F.wm j a h
    exact ⟨o, k a o e (fun c => (F.sw j a h).1 (F.cb a c)) (nt_mu mu), mu⟩
  len := F.len
  lw := F.lw
  slot := fun j x h => (F.slot j x h).carry (Carry.keep k (fun a c => .inl (F.cb a c)) fun a c => F.bm a (F.cb a c)) (fun _ _ h => h) fun a o e ea mu => k a o ea (fun c => (F.sw j a e).1 (F.cb a c)) (nt_mu mu)
theorem Fr.laid (F : Fr G K S T B A ω H σ δ) {p : Addr} {o : HO} (h : H p = none) (n : NT o) : Fr G K S T B A ω (upd H p o) σ δ :=
  F.grow (Keep.new h) (G.new H p o F.inv h n) (fun a u z => by rw [upd_ne (ne_of_none (F.st a u z) h)]; exact F.st a u z) fun a c => by
    obtain ⟨u, e, ne⟩ := F.dm a c
    exact ⟨u, by rw [upd_ne (ne_of_none e h)]; exact e, ne⟩
/-- a new thing that nobody knows yet -/
theorem Fr.laidP (F : Fr G K S T B A ω H σ δ) {p : Addr} {o : HO} (h : H p = none) (m : Mu o) : Fr G K S (Bp T (some p)) (Bp B (some p)) A ω (upd H p o) σ δ := by
  have F1 := F.laid h (nt_mu m)
  have nTp : ¬ T p := fun z => by obtain ⟨u, e, _⟩ := F.dm p z; rw [h] at e; cases e
  refine ⟨F1.inv, fun a c => .inl (F.cb a c), fun a c => c.elim (fun z => .inl (F.bt a z)) .inr, fun a o z => .inl (F.sT a o z), F.sc, fun i a z => .inl (F.al i a z), fun a c => ?_, fun a c => ?_, F1.st, fun i a z => ⟨fun c => ?_, (F.sw i a z).2⟩, F.inj, F1.wm, F.len, F.lw, fun i s z => ?_⟩
  · rcases c with c | c
    · exact F1.bm a c
    · cases c; exact ⟨o, upd_same, m⟩
  · rcases c with c | c
    · exact F1.dm a c
    · cases c; exact ⟨o, upd_same, nt_mu m⟩
  · rcases c with c | c
    · exact (F.sw i a z).1 c
    · cases c
      obtain ⟨u, e, _⟩ := F.wm i _ z
      rw [h] at e; cases e
  · refine (F.slot i s z).carry (Carry.trans (Carry.add (O' := Ow (Bp B (some p)) ω) h fun a c => ?_) (Carry.new h)) (fun _ _ h => h) fun a u e ea mu => ?_
    · rcases c with (c | c) | c
      · exact .inl (.inl c)
      · cases c; exact .inr rfl
      · exact .inl (.inr c)
    · rw [upd_ne (ne_of_none ea h)]; exact ea
/-- more is asked to stay -/
theorem Fr.more (F : Fr G K S T B A ω H σ δ) (h1 : ∀ a o, S a o → S' a o) (h2 : ∀ a o, S' a o → H a = some o ∧ (¬ G.C a ∧ NT o) ∧ T' a ∧ ∀ i : Nat, ω[i]? ≠ some (some a)) (h3 : ∀ a, T a → T' a) (h4 : ∀ a, T' a → nT H a) : Fr G K S' T' B A ω H σ δ where
  inv := F.inv
  cb := F.cb
  bt := fun a h => h3 a (F.bt a h)
  sT := fun a o h => (h2 a o h).2.2.1
  sc := fun a o h => (h2 a o h).2.1
  al := F.al
  bm := F.bm
  dm := h4
  st := fun a o h => (h2 a o h).1
  sw := fun i a h => ⟨(F.sw i a h).1, fun o z => (h2 a o z).2.2.2 i h⟩
  inj := F.inj
  wm := F.wm
  len := F.len
  lw := F.lw
  slot := fun i s h => (F.slot i s h).carry (Carry.sub fun _ z => z) h1 fun _ _ _ e _ => e
/-- less is asked to stay, less is another's -/
theorem Fr.less (F : Fr G K S' T' B' A ω H σ δ) (h1 : ∀ a o, S a o → S' a o) (h2 : ∀ a, T a → T' a) (h3 : ∀ a, B a → B' a) (h4 : ∀ a, G.C a → B a) (h5 : ∀ a, B a → T a) (h6 : ∀ a o, S a o → T a) (h7 : ∀ i a, A i = some a → B a)
    (hl : ∀ a o, S' a o → (∃ i, A i = some a) → S a o) : Fr G K S T B A ω H σ δ where
  inv := F.inv
  cb := h4
  bt := h5
  sT := h6
  sc := fun a o h => F.sc a o (h1 a o h)
  al := h7
  bm := fun a h => F.bm a (h3 a h)
  dm := fun a h => F.dm a (h2 a h)
  st := fun a o h => F.st a o (h1 a o h)
  sw := fun i a h => ⟨fun z => (F.sw i a h).1 (h3 a z), fun o z => (F.sw i a h).2 o (h1 a o z)⟩
  inj := F.inj
  wm := F.wm
  len := F.len
  lw := F.lw
  slot := fun i s h => by
    have z := F.slot i s h
    have c : Carry K H H (Ow B' ω) (Ow B ω) := Carry.sub fun a q => q.elim (fun q => .inl (h3 a q)) .inr
    cases s with
    | lent ds => obtain ⟨e, a, vs, e1, e2, e3, r⟩ := z; exact ⟨e, a, vs, e1, e2, hl _ _ e3 ⟨i, e2⟩, RepL.carry c r⟩
    | un => exact z
    | val d => obtain ⟨e, v, e1, r⟩ := z; exact ⟨e, v, e1, Rep.carry c r⟩
    | own ds => obtain ⟨a, vs, e, e1, e2, r⟩ := z; exact ⟨a, vs, e, e1, e2, RepL.carry c r⟩
    | ownD ds => obtain ⟨a, vs, e, e1, e2, r⟩ := z; exact ⟨a, vs, e, e1, e2, RepK.carry c r⟩
    | ownT ds => obtain ⟨a, vs, e, e1, e2, r⟩ := z; exact ⟨a, vs, e, e1, e2, RepT.carry c r⟩
theorem EOk.less (z : EOk G K S T B Z E) (h1 : ∀ a o, S a o → S' a o) (h2 : ∀ a, T a → T' a) (h3 : ∀ a, B a → B' a) : EOk G K S' T' B' Z E := fun x H' hz i hs ht => by
  have q := z x H' hz i (fun a o h => hs a o (h1 a o h)) fun a h => ht a (h2 a h)
  unfold ExR at q ⊢
  cases e : x.fld with
  | none => rw [e] at q; exact q
  | some fd =>
    obtain ⟨f, d⟩ := fd
    rw [e] at q
    exact fun dx v e1 r => q dx v e1 (Rep.carry (Carry.sub h3) r)
end
end DL

set_option Elab.async false
set_option linter.all false
set_option maxRecDepth 100000
namespace DL
open PySem L2
/-! ### one evaluation behind another -/
structure Ev (G : Amb) (K : PySem.W.Frag) (S : Addr → HO → Prop) (T B : Addr → Prop) (A : Nat → Option Addr) (ω : List (Option Addr)) (H' : Hp) (σ : St) (δ' : Env) (ω' : List (Option Addr)) (P : Option Addr) (o : Op) (v : V) : Prop where
  fr : Fr G K S (Bp T P) (Bp B P) A ω' H' σ δ'
  ws : WSub ω' ω
  rp : ROp K T H' (Ow (Bp B P) ω') σ P o v
/-- what stays behind a thing was told -/
def nS (S : Addr → HO → Prop) (H : Hp) (B : Addr → Prop) (P : Option Addr) (ω : List (Option Addr)) (a : Addr) (o : HO) : Prop := S a o ∨ (H a = some o ∧ NT o ∧ (¬ Ow (Bp B P) ω a ∨ P = some a))
section
variable {G : Amb} {K : PySem.W.Frag} {S : Addr → HO → Prop} {T B : Addr → Prop} {A : Nat → Option Addr} {ω ω1 ω2 : List (Option Addr)} {H H1 H2 : Hp} {σ : St} {δ δ1 δ2 : Env} {P P1 P2 : Option Addr} {Z : Ex → Prop} {E : XK} {o o1 o2 : Op} {v v1 v2 : V}
theorem ROp.nt {O : Addr → Prop} (r : ROp K T H O σ P o v) : ∀ p, P = some p → ¬ T p := fun p e => by
  cases o with
  | v d => rw [r.1] at e; cases e
  | b i => rw [r.1] at e; cases e
  | n ds => obtain ⟨q, vs, e0, _, h, _⟩ := r; rw [e0] at e; cases e; exact h
  | nd ds => obtain ⟨q, vs, e0, _, h, _⟩ := r; rw [e0] at e; cases e; exact h
  | nt ds => obtain ⟨q, vs, e0, _, h, _⟩ := r; rw [e0] at e; cases e; exact h
theorem Ev.go (F : Fr G K S T B A ω H σ δ) (e : Ev G K S T B A ω H1 σ δ1 ω1 P1 o1 v1) : Fr G K (nS S H1 B P1 ω1) (nT H1) (Bp B P1) A ω1 H1 σ δ1 := by
  refine e.fr.more (fun a o h => .inl h) (fun a o h => ?_) (fun a h => e.fr.dm a h) fun a h => h
  rcases h with h | ⟨h, n, h'⟩
  · exact ⟨e.fr.st a o h, e.fr.sc a o h, ⟨o, e.fr.st a o h, (e.fr.sc a o h).2⟩, fun i z => (e.fr.sw i a z).2 o h⟩
  · refine ⟨h, ⟨fun c => ?_, n⟩, ⟨o, h, n⟩, fun i z => ?_⟩
    · rcases h' with h' | h'
      · exact h' (.inl (e.fr.cb a c))
      · exact e.rp.nt a h' (F.bt a (F.cb a c))
    · rcases h' with h' | h'
      · exact h' (.inr ⟨i, z⟩)
      · exact (e.fr.sw i a z).1 (.inr h')
theorem Ev.eok (F : Fr G K S T B A ω H σ δ) (e : Ev G K S T B A ω H1 σ δ1 ω1 P1 o1 v1) (z : EOk G K S T B Z E) : EOk G K (nS S H1 B P1 ω1) (nT H1) (Bp B P1) Z E :=
  z.less (fun _ _ h => .inl h) (fun a h => e.fr.dm a (.inl h)) fun _ h => .inl h
/-- the things told carry over -/
theorem Ev.carry (e : Ev G K S T B A ω H1 σ δ1 ω1 P1 o1 v1) (e2 : Ev G K (nS S H1 B P1 ω1) (nT H1) (Bp B P1) A ω1 H2 σ δ2 ω2 P2 o2 v2) : Carry K H1 H2 (Ow (Bp B P1) ω1) (Ow (Bp (Bp B P1) P2) ω2) where
  t := fun a vs h => by
    have key : ∀ o, H1 a = some o → NT o → ¬ Mu o → H2 a = some o := fun o h n m => e2.fr.st a o (.inr ⟨h, n, .inl fun z => by
      obtain ⟨u, e', m'⟩ := e.fr.om a z
      rw [h] at e'; cases e'; exact m m'⟩)
    rcases h with (h | ⟨o, h⟩) | h
    · exact .inl (.inl (key _ h nt_tup fun z => z))
    · exact .inl (.inr ⟨o, key _ h nt_frz fun z => z⟩)
    · exact .inr h
  l := fun a vs h n => ⟨e2.fr.st a _ (.inr ⟨h, nt_lst, .inl n⟩), fun z => by
    rcases z with (z | z) | ⟨i, z⟩
    · exact n (.inl z)
    · exact e2.rp.nt a z ⟨_, h, nt_lst⟩
    · exact n (.inr ⟨i, e2.ws i a z⟩)⟩
  k := fun a vs h n => ⟨e2.fr.st a _ (.inr ⟨h, nt_dK, .inl n⟩), fun z => by
    rcases z with (z | z) | ⟨i, z⟩
    · exact n (.inl z)
    · exact e2.rp.nt a z ⟨_, h, nt_dK⟩
    · exact n (.inr ⟨i, e2.ws i a z⟩)⟩
  d := fun a vs h n => ⟨e2.fr.st a _ (.inr ⟨h, nt_dT, .inl n⟩), fun z => by
    rcases z with (z | z) | ⟨i, z⟩
    · exact n (.inl z)
    · exact e2.rp.nt a z ⟨_, h, nt_dT⟩
    · exact n (.inr ⟨i, e2.ws i a z⟩)⟩
theorem Ev.old (e : Ev G K S T B A ω H1 σ δ1 ω1 P1 o1 v1) (e2 : Ev G K (nS S H1 B P1 ω1) (nT H1) (Bp B P1) A ω1 H2 σ δ2 ω2 P2 o2 v2) : ROp K T H2 (Ow (Bp (Bp B P1) P2) ω2) σ P1 o1 v1 := by
  have r := e.rp
  have c := e.carry e2
  cases o1 with
  | v d => exact ⟨r.1, Rep.carry c r.2⟩
  | b i => exact r
  | n ds => obtain ⟨p, vs, h0, h1, h2, h3, h4⟩ := r; exact ⟨p, vs, h0, h1, h2, e2.fr.st p _ (.inr ⟨h3, nt_lst, .inr h0⟩), RepL.carry c h4⟩
  | nd ds => obtain ⟨p, vs, h0, h1, h2, h3, h4⟩ := r; exact ⟨p, vs, h0, h1, h2, e2.fr.st p _ (.inr ⟨h3, nt_dK, .inr h0⟩), RepK.carry c h4⟩
  | nt ds => obtain ⟨p, vs, h0, h1, h2, h3, h4⟩ := r; exact ⟨p, vs, h0, h1, h2, e2.fr.st p _ (.inr ⟨h3, nt_dT, .inr h0⟩), RepT.carry c h4⟩
/-- what was new is let go -/
theorem Ev.drop (F : Fr G K S T B A ω H σ δ) (e : Ev G K S T B A ω H1 σ δ1 ω1 P1 o1 v1) : Fr G K S T B A ω1 H1 σ δ1 :=
  e.fr.less (fun _ _ h => h) (fun _ h => .inl h) (fun _ h => .inl h) F.cb F.bt F.sT F.al fun _ _ h _ => h
theorem Ev.back (F : Fr G K S T B A ω H σ δ) (e : Ev G K S T B A ω H1 σ δ1 ω1 P1 o1 v1) (F2 : Fr G K (nS S H1 B P1 ω1) (Bp (nT H1) P2) (Bp (Bp B P1) P2) A ω2 H2 σ δ2) : Fr G K S T B A ω2 H2 σ δ2 := by
  refine F2.less (fun _ _ h => .inl h) (fun a h => .inl (e.fr.dm a (.inl h))) (fun _ h => .inl (.inl h)) F.cb F.bt F.sT F.al fun a o h ⟨i, q⟩ => ?_
  rcases h with h | ⟨h, n, h'⟩
  · exact h
  · rcases h' with h' | h'
    · exact (h' (.inl (.inl (F.al i a q)))).elim
    · exact (e.rp.nt a h' (F.bt a (F.al i a q))).elim
theorem ow_less {a : Addr} (h : Ow B ω a) : Ow (Bp B P) ω a := h.elim (fun z => .inl (.inl z)) .inr
/-- what was told before, kept -/
theorem Ev.kp1 (F : Fr G K S T B A ω H σ δ) (e : Ev G K S T B A ω H1 σ δ1 ω1 P1 o1 v1) (e2 : Ev G K (nS S H1 B P1 ω1) (nT H1) (Bp B P1) A ω1 H2 σ δ2 ω2 P2 o2 v2) {d : D} (q : kp o1 = some d) : Rep K H2 (Ow B ω2) d v1 :=
  (e.old e2).kp (fun a h => ow_less (ow_less h)) (fun p hp z => by
    rcases z with z | ⟨i, z⟩
    · exact e.rp.nt p hp (F.bt p z)
    · exact (e2.fr.sw i p z).1 (.inl (.inr hp))) q
theorem Ev.kp (F : Fr G K S T B A ω H σ δ) (e : Ev G K S T B A ω H1 σ δ1 ω1 P1 o1 v1) {d : D} (q : DL.kp o1 = some d) : Rep K H1 (Ow B ω1) d v1 :=
  e.rp.kp (fun a h => ow_less h) (fun p hp z => by
    rcases z with z | ⟨i, z⟩
    · exact e.rp.nt p hp (F.bt p z)
    · exact (e.fr.sw i p z).1 (.inr hp)) q
theorem RepTop.sub {O O' : Addr → Prop} (s : ∀ a, O' a → O a) {d : D} {v : V} (h : RepTop K H O d v) : RepTop K H O' d v := by
  cases d with
  | lst ds => obtain ⟨a, vs, e, q, r⟩ := h; exact ⟨a, vs, e, q, RepL.carry (Carry.sub s) r⟩
  | dic ds => obtain ⟨a, vs, e, q, r⟩ := h; exact ⟨a, vs, e, q, RepK.carry (Carry.sub s) r⟩
  | dit ds => obtain ⟨a, vs, e, q, r⟩ := h; exact ⟨a, vs, e, q, RepT.carry (Carry.sub s) r⟩
  | non => exact h
  | bl _ => exact h
  | int _ => exact h
  | str _ => exact h
  | ref _ => exact h
  | tup ds => exact Rep.carry (d := .tup ds) (Carry.sub s) h
end
/-- what an operation gives: a thing that stood, a new tuple, a new list or dict -/
inductive Gv (K : PySem.W.Frag) (H : Hp) (O : Addr → Prop) : Op → V → Hp → Prop
  | same {d : D} {v : V} : Rep K H O d v → Gv K H O (.v d) v H
  | tup {p : Addr} {ds : List D} {vs : List V} : H p = none → RepL K H O ds vs → Gv K H O (.v (.tup ds)) (.ref p) (upd H p (.tup vs))
  | lst {p : Addr} {ds : List D} {vs : List V} : H p = none → RepL K H O ds vs → Gv K H O (.n ds) (.ref p) (upd H p (.lst vs))
  | dic {p : Addr} {ds : List (Key × D)} {vs : List (Key × V)} : H p = none → RepK K H O ds vs → Gv K H O (.nd ds) (.ref p) (upd H p (.dK vs))
  | dit {p : Addr} {ds : List (List Key × D)} {vs : List (List Key × V)} : H p = none → RepT K H O ds vs → Gv K H O (.nt ds) (.ref p) (upd H p (.dT vs))
section
variable {G : Amb} {K : PySem.W.Frag} {S : Addr → HO → Prop} {T B : Addr → Prop} {A : Nat → Option Addr} {ω ω1 ω2 : List (Option Addr)} {H H1 H2 : Hp} {σ : St} {δ δ1 δ2 : Env} {o : Op} {v : V}
theorem SqT.up {p : Addr} {vs : List V} : SqT K (upd H p (.tup vs)) p vs := .inl (.inl upd_same)
theorem ow_new {p : Addr} : ∀ a, Ow (Bp B (some p)) ω a → Ow B ω a ∨ a = p := fun a h => by
  rcases h with (h | h) | h
  · exact .inl (.inl h)
  · cases h; exact .inr rfl
  · exact .inl (.inr h)
theorem Gv.ev (F : Fr G K S T B A ω2 H2 σ δ2) (w : WSub ω2 ω) (g : Gv K H2 (Ow B ω2) o v H1) : ∃ P, Ev G K S T B A ω H1 σ δ2 ω2 P o v := by
  have nTp : ∀ p, H2 p = none → ¬ T p := fun p h z => by obtain ⟨u, e, _⟩ := F.dm p z; rw [h] at e; cases e
  cases g with
  | same r => exact ⟨none, by rw [bp_none, bp_none]; exact F, w, rfl, by rw [bp_none]; exact r⟩
  | tup h r => exact ⟨none, by rw [bp_none, bp_none]; exact F.laid h nt_tup, w, rfl, by rw [bp_none]; exact ⟨_, _, rfl, SqT.up, RepL.carry (Carry.new h) r⟩⟩
  | lst h r => exact ⟨some _, F.laidP h trivial, w, _, _, rfl, rfl, nTp _ h, upd_same, RepL.carry (Carry.trans (Carry.add h ow_new) (Carry.new h)) r⟩
  | dic h r => exact ⟨some _, F.laidP h trivial, w, _, _, rfl, rfl, nTp _ h, upd_same, RepK.carry (Carry.trans (Carry.add h ow_new) (Carry.new h)) r⟩
  | dit h r => exact ⟨some _, F.laidP h trivial, w, _, _, rfl, rfl, nTp _ h, upd_same, RepT.carry (Carry.trans (Carry.add h ow_new) (Carry.new h)) r⟩
end
/-- the continuation in short -/
def tK (G : Amb) (K : PySem.W.Frag) (S : Addr → HO → Prop) (T B : Addr → Prop) (A : Nat → Option Addr) (ω : List (Option Addr)) (σ : St) (Q : VK) (o : Op) (δ' : Env) : Prop :=
  ∀ v H' ω' P, Ev G K S T B A ω H' σ δ' ω' P o v → Q v H'
theorem tD_of {G : Amb} {K : PySem.W.Frag} {E : XK} {τ : DT} {σ : St} {H : Hp} {Q : VK} {S : Addr → HO → Prop} {T B : Addr → Prop} {A : Nat → Option Addr} {ω : List (Option Addr)} {δ : Env} {Z : Ex → Prop}
    (F : Fr G K S T B A ω H σ δ) (z : EOk G K S T B Z E) (h : τ Z δ (tK G K S T B A ω σ Q)) (m : Mono τ) : tD G K E τ σ H Q :=
  ⟨S, T, B, A, ω, δ, Z, F, z, m.m _ _ _ _ _ (fun _ z => z) (fun o δ' k v H' ω' P a b c => k v H' ω' P ⟨a, b, c⟩) h⟩
theorem tD_to {G : Amb} {K : PySem.W.Frag} {E : XK} {τ : DT} {σ : St} {H : Hp} {Q : VK} (m : Mono τ) (h : tD G K E τ σ H Q) : ∃ S T B A ω δ Z, Fr G K S T B A ω H σ δ ∧ EOk G K S T B Z E ∧ τ Z δ (tK G K S T B A ω σ Q) := by
  obtain ⟨S, T, B, A, ω, δ, Z, F, z, q⟩ := h
  exact ⟨S, T, B, A, ω, δ, Z, F, z, m.m _ _ _ _ _ (fun _ z => z) (fun o δ' k v H' ω' P e => k v H' ω' P e.fr e.ws e.rp) q⟩
/-! ### names, constants -/
/-- a name: what stands there, or (ours) by its place -/
def xVar (i : Nat) : DT := fun _ δ Q => match δ[i]? with
  | some (.val d) => Q (.v d) δ
  | some (.own _) => Q (.b i) δ
  | some (.ownD _) => Q (.b i) δ
  | some (.ownT _) => Q (.b i) δ
  | some (.lent _) => Q (.b i) δ
  | _ => False
/-- a name whose thing is handed on for good -/
def xMov (i : Nat) : DT := fun _ δ Q => match δ[i]? with
  | some (.val d) => Q (.v d) δ
  | some (.own ds) => Q (.v (.lst ds)) (δ.set i (.val (.lst ds)))
  | some (.ownD ds) => Q (.v (.dic ds)) (δ.set i (.val (.dic ds)))
  | some (.ownT ds) => Q (.v (.dit ds)) (δ.set i (.val (.dit ds)))
  | _ => False
def xC (d : D) : DT := fun _ δ Q => Q (.v d) δ
section
variable {X : Cx} {G : Amb} {E : XK}
theorem mono_var {i : Nat} : Mono (xVar i) := ⟨fun Z Z' δ Q Q' _ h q => by
  unfold xVar at q ⊢
  split at q <;> first | exact h _ _ q | exact q⟩
theorem mono_mov {i : Nat} : Mono (xMov i) := ⟨fun Z Z' δ Q Q' _ h q => by
  unfold xMov at q ⊢
  split at q <;> first | exact h _ _ q | exact q⟩
theorem de_var {i : Nat} {x : Str} {pos : Pos} (hN : X.N[i]? = some x) (hv : Vis X.env.scope x) (hd : (x == ("__debug__" : Str)) = false := by decide) (hcd : (x == ("__classdict__" : Str)) = false := by decide) : DE X G E (.Name x pos) (xVar i) := by
  refine ⟨PE.imp (pe_var hN hv hd hcd) fun σ H Q h => ?_, mono_var⟩
  obtain ⟨S, T, B, A, ω, δ, Z, F, z, q⟩ := tD_to mono_var h
  unfold xVar at q
  cases e : δ[i]? with
  | none => rw [e] at q; exact q.elim
  | some s =>
    rw [e] at q
    have sl := F.slot i s e
    have fin : ∀ {v : V}, σ[i]? = some (some v) → tK G X.K S T B A ω σ Q (.b i) δ → tVar i σ H Q := fun {v} e1 q => ⟨v, e1, q v H ω none ⟨by rw [bp_none, bp_none]; exact F, .refl, rfl, e1⟩⟩
    cases s with
    | un => exact q.elim
    | val d => obtain ⟨_, v, e1, r⟩ := sl; exact ⟨v, e1, q v H ω none ⟨by rw [bp_none, bp_none]; exact F, .refl, rfl, by rw [bp_none]; exact r⟩⟩
    | own ds => obtain ⟨a, vs, _, e1, _⟩ := sl; exact fin e1 q
    | ownD ds => obtain ⟨a, vs, _, e1, _⟩ := sl; exact fin e1 q
    | ownT ds => obtain ⟨a, vs, _, e1, _⟩ := sl; exact fin e1 q
    | lent ds => obtain ⟨_, a, vs, e1, _⟩ := sl; exact fin e1 q
/-- ours is handed on: from now on nobody changes it -/
theorem Fr.freeze {K : PySem.W.Frag} {S : Addr → HO → Prop} {T B : Addr → Prop} {A : Nat → Option Addr} {ω : List (Option Addr)} {H : Hp} {σ : St} {δ : Env} {i : Nat} {a : Addr} {d : D} (F : Fr G K S T B A ω H σ δ) (e : ω[i]? = some (some a)) (e1 : σ[i]? = some (some (.ref a)))
    (r : ¬ Ow B (ω.set i none) a → Rep K H (Ow B (ω.set i none)) d (.ref a)) : Fr G K S T B A (ω.set i none) H σ (δ.set i (.val d)) ∧ WSub (ω.set i none) ω ∧ Rep K H (Ow B (ω.set i none)) d (.ref a) := by
  have hi : i < ω.length := (List.getElem?_eq_some_iff.mp e).1
  have w : WSub (ω.set i none) ω := fun j b h => by
    by_cases hj : j = i
    · subst hj; rw [List.getElem?_set_self hi] at h; cases h
    · rw [List.getElem?_set_ne (Ne.symm hj)] at h; exact h
  have n : ¬ Ow B (ω.set i none) a := fun z => by
    rcases z with z | ⟨j, z⟩
    · exact (F.sw i a e).1 z
    · have := F.inj i j a e (w j a z)
      subst this
      rw [List.getElem?_set_self hi] at z; cases z
  refine ⟨⟨F.inv, F.cb, F.bt, F.sT, F.sc, F.al, F.bm, F.dm, F.st, fun j b h => F.sw j b (w j b h), fun j k b h1 h2 => F.inj j k b (w j b h1) (w k b h2), fun j b h => F.wm j b (w j b h), by rw [List.length_set]; exact F.len, by rw [List.length_set, List.length_set]; exact F.lw, fun j s h => ?_⟩, w, r n⟩
  by_cases hj : j = i
  · subst hj
    have hjd : j < δ.length := by rw [← F.lw]; exact hi
    rw [List.getElem?_set_self hjd] at h; cases h
    rw [List.getElem?_set_self hi]
    exact ⟨rfl, _, e1, r n⟩
  · rw [List.getElem?_set_ne (Ne.symm hj)] at h ⊢
    exact (F.slot j s h).carry (Carry.sub (w.ow fun _ z => z)) (fun _ _ z => z) fun _ _ _ z _ => z
theorem de_mov {i : Nat} {x : Str} {pos : Pos} (hN : X.N[i]? = some x) (hv : Vis X.env.scope x) (hd : (x == ("__debug__" : Str)) = false := by decide) (hcd : (x == ("__classdict__" : Str)) = false := by decide) : DE X G E (.Name x pos) (xMov i) := by
  refine ⟨PE.imp (pe_var hN hv hd hcd) fun σ H Q h => ?_, mono_mov⟩
  obtain ⟨S, T, B, A, ω, δ, Z, F, z, q⟩ := tD_to mono_mov h
  unfold xMov at q
  cases e : δ[i]? with
  | none => rw [e] at q; exact q.elim
  | some s =>
    rw [e] at q
    have sl := F.slot i s e
    have fin : ∀ {a : Addr} {d : D}, ω[i]? = some (some a) → σ[i]? = some (some (.ref a)) → (¬ Ow B (ω.set i none) a → Rep X.K H (Ow B (ω.set i none)) d (.ref a)) → tK G X.K S T B A ω σ Q (.v d) (δ.set i (.val d)) → tVar i σ H Q := fun {a d} e0 e1 r q => by
      obtain ⟨F1, w, r1⟩ := F.freeze e0 e1 r
      exact ⟨_, e1, q _ H _ none ⟨by rw [bp_none, bp_none]; exact F1, w, rfl, by rw [bp_none]; exact r1⟩⟩
    have sub : ∀ a, Ow B (ω.set i none) a → Ow B ω a := fun a h => h.elim .inl fun ⟨j, h⟩ => .inr ⟨j, by
      by_cases hj : j = i
      · subst hj
        have := (List.getElem?_eq_some_iff.mp h).1
        rw [List.length_set] at this
        rw [List.getElem?_set_self this] at h; cases h
      · rw [List.getElem?_set_ne (Ne.symm hj)] at h; exact h⟩
    cases s with
    | un => exact q.elim
    | lent _ => exact q.elim
    | val d => obtain ⟨_, v, e1, r⟩ := sl; exact ⟨v, e1, q v H ω none ⟨by rw [bp_none, bp_none]; exact F, .refl, rfl, by rw [bp_none]; exact r⟩⟩
    | own ds => obtain ⟨a, vs, e0, e1, e2, r⟩ := sl; exact fin (d := .lst ds) e0 e1 (fun n => ⟨a, vs, rfl, e2, n, RepL.carry (Carry.sub sub) r⟩) q
    | ownD ds => obtain ⟨a, vs, e0, e1, e2, r⟩ := sl; exact fin (d := .dic ds) e0 e1 (fun n => ⟨a, vs, rfl, e2, n, RepK.carry (Carry.sub sub) r⟩) q
    | ownT ds => obtain ⟨a, vs, e0, e1, e2, r⟩ := sl; exact fin (d := .dit ds) e0 e1 (fun n => ⟨a, vs, rfl, e2, n, RepT.carry (Carry.sub sub) r⟩) q
theorem mono_c {d : D} : Mono (xC d) := ⟨fun _ _ _ _ _ _ h q => h _ _ q⟩
theorem de_c {e : Expr} {d : D} {v : V} (he : PE X e (tC v)) (hr : ∀ H O, Rep X.K H O d v) : DE X G E e (xC d) := by
  refine ⟨PE.imp he fun σ H Q h => ?_, mono_c⟩
  obtain ⟨S, T, B, A, ω, δ, Z, F, z, q⟩ := tD_to mono_c h
  obtain ⟨P, ev⟩ := Gv.ev (o := .v d) (v := v) F .refl (.same (hr _ _))
  exact q v H ω P ev
theorem de_int {i : Int} {j pos} : DE X G E (.Constant (.int i) j pos) (xC (.int i)) := de_c pe_int fun _ _ => rfl
theorem de_bl {b j pos} : DE X G E (.Constant (.bool b) j pos) (xC (.bl b)) := de_c pe_bl fun _ _ => rfl
theorem de_non {j pos} : DE X G E (.Constant .none j pos) (xC .non) := de_c pe_non fun _ _ => rfl
theorem de_str {x j pos} : DE X G E (.Constant (.str x) j pos) (xC (.str x)) := de_c pe_str fun _ _ => rfl
theorem de_glob {x : Str} {d : D} {v : V} {u : Value} {pos : Pos} (hg : Gl X x) (hm : X.mg x = some u) (r : RelV v u) (hr : ∀ H O, Rep X.K H O d v) (hd : (x == ("__debug__" : Str)) = false := by decide) : DE X G E (.Name x pos) (xC d) := de_c (pe_glob hg hm r hd) hr
end
/-! ### operations by values -/
def rdK (o : Op) (δ : Env) (k : D → Prop) : Prop := match rd o δ with
  | some d => k d
  | none => False
theorem rdK_mono {o : Op} {δ : Env} {k k' : D → Prop} (h : ∀ d, k d → k' d) (q : rdK o δ k) : rdK o δ k' := by
  unfold rdK at q ⊢
  split at q
  · exact h _ q
  · exact q
theorem rdK_some {o : Op} {δ : Env} {k : D → Prop} (q : rdK o δ k) : ∃ d, rd o δ = some d ∧ k d := by
  unfold rdK at q
  cases e : rd o δ with
  | none => rw [e] at q; exact q.elim
  | some d => rw [e] at q; exact ⟨d, rfl, q⟩
abbrev D2 := D → D → (Op → Prop) → Prop
structure M2 (ρ : D2) : Prop where
  m : ∀ (d1 d2 : D) (P P' : Op → Prop), (∀ o, P o → P' o) → ρ d1 d2 P → ρ d1 d2 P'
structure OpD (X : Cx) (f : Value → Value → Sem Value) (ρ : D2) : Prop where
  ok : ∃ r : R2, OpR X f r ∧ ∀ {H : Hp} {O : Addr → Prop} {d1 d2 : D} {v1 v2 : V} {P : Op → Prop} {Q : VK}, OM O H → RepTop X.K H O d1 v1 → RepTop X.K H O d2 v2 → ρ d1 d2 P → (∀ o v H', P o → Gv X.K H O o v H' → Q v H') → r v1 v2 H Q
  mono : M2 ρ
def xOp (ρ : D2) (τa τb : DT) : DT := fun Z δ Q => τa Z δ fun o1 δ1 => τb Z δ1 fun o2 δ2 => rdK o1 δ2 fun d1 => rdK o2 δ2 fun d2 => ρ d1 d2 fun o => Q o δ2
theorem mono_op {ρ : D2} {τa τb : DT} (hm : M2 ρ) (ma : Mono τa) (mb : Mono τb) : Mono (xOp ρ τa τb) := ⟨fun _ _ _ _ _ hz h q =>
  ma.m _ _ _ _ _ hz (fun _ _ q => mb.m _ _ _ _ _ hz (fun _ _ q => rdK_mono (fun _ q => rdK_mono (fun _ q => hm.m _ _ _ _ (fun _ q => h _ _ q) q) q) q) q) q⟩
section
variable {X : Cx} {G : Amb} {E : XK} {a b c : Expr} {τa τb τc : DT} {pos : Pos} {ρ ρ' : D2}
/-- two things told, then an operation on them -/
theorem two_then {K : PySem.W.Frag} {r : R2} {σ : St} {H : Hp} {Q : VK} (ma : Mono τa) (mb : Mono τb) {S : Addr → HO → Prop} {T B : Addr → Prop} {A : Nat → Option Addr} {ω : List (Option Addr)} {δ : Env} {Z : Ex → Prop} (F : Fr G K S T B A ω H σ δ) (z : EOk G K S T B Z E)
    {R : D → D → Env → Prop} (q : τa Z δ fun o1 δ1 => τb Z δ1 fun o2 δ2 => rdK o1 δ2 fun d1 => rdK o2 δ2 fun d2 => R d1 d2 δ2)
    (k : ∀ {H2 : Hp} {ω2 : List (Option Addr)} {δ2 : Env} {d1 d2 : D} {v1 v2 : V}, Fr G K S T B A ω2 H2 σ δ2 → WSub ω2 ω → RepTop K H2 (Ow B ω2) d1 v1 → RepTop K H2 (Ow B ω2) d2 v2 → R d1 d2 δ2 → r v1 v2 H2 Q) :
    tD G K E τa σ H fun x H1 => tD G K E τb σ H1 fun y H2 => r x y H2 Q := by
  refine tD_of F z (ma.m _ _ _ _ _ (fun _ z => z) (fun o1 δ1 q v1 H1 ω1 P1 e1 => ?_) q) ma
  refine tD_of (e1.go F) (e1.eok F z) (mb.m _ _ _ _ _ (fun _ z => z) (fun o2 δ2 q v2 H2 ω2 P2 e2 => ?_) q) mb
  obtain ⟨d1, h1, q⟩ := rdK_some q
  obtain ⟨d2, h2, q⟩ := rdK_some q
  exact k (e1.back F e2.fr) (e2.ws.trans e1.ws) (RepTop.sub (fun _ z => ow_less (ow_less z)) (e2.fr.rd (e1.old e2) h1)) (RepTop.sub (fun _ z => ow_less (ow_less z)) (e2.fr.rd e2.rp h2)) q
theorem de_op {op : Operator} (ho : OpD X (binaryOp op) ρ) (ha : DE X G E a τa) (hb : DE X G E b τb) : DE X G E (.BinOp a op b pos) (xOp ρ τa τb) := by
  have m : Mono (xOp ρ τa τb) := mono_op ho.mono ha.mono hb.mono
  obtain ⟨r, hr, hv⟩ := ho.ok
  refine ⟨PE.imp (pe_op hr ha.pe hb.pe) fun σ H Q h => ?_, m⟩
  obtain ⟨S, T, B, A, ω, δ, Z, F, z, q⟩ := tD_to m h
  refine two_then (r := r) (R := fun d1 d2 δ2 => ρ d1 d2 fun o => tK G X.K S T B A ω σ Q o δ2) ha.mono hb.mono F z q fun {H2 ω2 δ2 d1 d2 v1 v2} F2 w t1 t2 q => hv F2.om t1 t2 q fun o v H' k g => ?_
  obtain ⟨P, ev⟩ := g.ev F2 w
  exact k v H' ω2 P ev
theorem de_cmp {op : CmpOp} (ho : OpD X (compareOp op) ρ) (ha : DE X G E a τa) (hb : DE X G E b τb) (hm : behindInMarks op b = false) : DE X G E (.Compare a [op] [b] pos) (xOp ρ τa τb) := by
  have m : Mono (xOp ρ τa τb) := mono_op ho.mono ha.mono hb.mono
  obtain ⟨r, hr, hv⟩ := ho.ok
  refine ⟨PE.imp (pe_cmpR hr ha.pe hb.pe hm) fun σ H Q h => ?_, m⟩
  obtain ⟨S, T, B, A, ω, δ, Z, F, z, q⟩ := tD_to m h
  refine two_then (r := r) (R := fun d1 d2 δ2 => ρ d1 d2 fun o => tK G X.K S T B A ω σ Q o δ2) ha.mono hb.mono F z q fun {H2 ω2 δ2 d1 d2 v1 v2} F2 w t1 t2 q => hv F2.om t1 t2 q fun o v H' k g => ?_
  obtain ⟨P, ev⟩ := g.ev F2 w
  exact k v H' ω2 P ev
end
end DL

set_option Elab.async false
set_option linter.all false
set_option maxRecDepth 100000
namespace DL
open PySem L2
/-! ### tests -/
abbrev DTT := (Ex → Prop) → Env → (Bool → Env → Prop) → Prop
structure MonoT (τ : DTT) : Prop where
  m : ∀ (Z Z' : Ex → Prop) (δ : Env) (Q Q' : Bool → Env → Prop), (∀ x, Z x → Z' x) → (∀ b δ', Q b δ' → Q' b δ') → τ Z δ Q → τ Z' δ Q'
def tT (G : Amb) (K : PySem.W.Frag) (E : XK) (τ : DTT) : TT := fun σ H Q => ∃ S T B A ω δ Z, Fr G K S T B A ω H σ δ ∧ EOk G K S T B Z E ∧
  τ Z δ (fun b δ' => ∀ H' ω', Fr G K S T B A ω' H' σ δ' → WSub ω' ω → Q b H')
structure DB (X : Cx) (G : Amb) (E : XK) (e : Expr) (τ : DTT) : Prop where
  pt : PT X e (tT G X.K E τ)
  mono : MonoT τ
/-- a thing's truth -/
def truK : D → (Bool → Prop) → Prop
  | .non, k => k false
  | .bl b, k => k b
  | .int i, k => k (i != 0)
  | .str s, k => s.length ≤ 16777216 ∧ k ((s.length : Int) != 0)
  | .tup ds, k => k (!ds.isEmpty)
  | .lst ds, k => k (!ds.isEmpty)
  | .dic kvs, k => k (!kvs.isEmpty)
  | _, _ => False
theorem truK_mono {d : D} {k k' : Bool → Prop} (h : ∀ b, k b → k' b) (q : truK d k) : truK d k' := by
  cases d <;> first | exact h _ q | exact ⟨q.1, h _ q.2⟩ | exact q
def xTru (τ : DT) : DTT := fun Z δ Q => τ Z δ fun o δ' => rdK o δ' fun d => truK d fun b => Q b δ'
theorem mono_tru {τ : DT} (m : Mono τ) : MonoT (xTru τ) := ⟨fun _ _ _ _ _ hz h q => m.m _ _ _ _ _ hz (fun _ _ q => rdK_mono (fun _ q => truK_mono (fun _ q => h _ _ q) q) q) q⟩
section
variable {K : PySem.W.Frag} {H : Hp} {O : Addr → Prop}
theorem isEmptyL {ds : List D} {vs : List V} (r : RepL K H O ds vs) : (!vs.isEmpty) = !ds.isEmpty := by
  cases ds with
  | nil => cases r; rfl
  | cons d ds => obtain ⟨v, q, rfl, _⟩ := r; rfl
theorem isEmptyK {ds : List (Key × D)} {vs : List (Key × V)} (r : RepK K H O ds vs) : (!vs.isEmpty) = !ds.isEmpty := by
  cases ds with
  | nil => cases r; rfl
  | cons d ds => obtain ⟨k, d⟩ := d; obtain ⟨v, q, rfl, _⟩ := r; rfl
theorem truV_of {d : D} {v : V} {k : Bool → Prop} (r : RepTop K H O d v) (q : truK d k) : ∃ b, TruV K v H b ∧ k b := by
  cases d with
  | non => cases r; exact ⟨_, rfl, q⟩
  | bl b => cases r; exact ⟨_, rfl, q⟩
  | int i => cases r; exact ⟨_, rfl, q⟩
  | str s => cases r; exact ⟨_, ⟨by rw [sizeLine_eq]; exact q.1, rfl⟩, q.2⟩
  | tup ds => obtain ⟨a, vs, rfl, h, r⟩ := r; exact ⟨_, .inr (.inl ⟨vs, h, rfl⟩), by rw [isEmptyL r]; exact q⟩
  | lst ds => obtain ⟨a, vs, rfl, h, r⟩ := r; exact ⟨_, .inl ⟨vs, SqL.of h, rfl⟩, by rw [isEmptyL r]; exact q⟩
  | dic ds => obtain ⟨a, vs, rfl, h, r⟩ := r; exact ⟨_, .inr (.inr ⟨vs, h, rfl⟩), by rw [isEmptyK r]; exact q⟩
  | _ => exact q.elim
end
section
variable {X : Cx} {G : Amb} {E : XK} {e a b c : Expr} {τ τa τb τc : DT} {θ θ' : DTT} {pos : Pos} {ρ ρ' : D2}
theorem db_tru (he : DE X G E e τ) (hh : ∀ whole, isTrue e X.env whole = (do let v ← whole; standAt e.pos; holding [v] (truthy v)) := by intro _; rfl) : DB X G E e (xTru τ) := by
  refine ⟨PT.imp (pt_truth he.pe hh) fun σ H Q h => ?_, mono_tru he.mono⟩
  obtain ⟨S, T, B, A, ω, δ, Z, F, z, q⟩ := h
  refine tD_of F z (he.mono.m _ _ _ _ _ (fun _ z => z) (fun o δ' q v H' ω' P ev => ?_) q) he.mono
  obtain ⟨d, e1, q⟩ := rdK_some q
  obtain ⟨b, tv, q⟩ := truV_of (ev.fr.rd ev.rp e1) q
  exact ⟨b, tv, q H' ω' (ev.drop F) ev.ws⟩
theorem db_cmp {op : CmpOp} (ho : OpD X (compareOp op) ρ) (ha : DE X G E a τa) (hb : DE X G E b τb) (hm : behindInMarks op b = false) (hbl : ∀ d1 d2 P, ρ d1 d2 P → ρ d1 d2 fun o => P o ∧ ∃ k, o = .v (.bl k)) : DB X G E (.Compare a [op] [b] pos) (xTru (xOp ρ τa τb)) := by
  have m : Mono (xOp ρ τa τb) := mono_op ho.mono ha.mono hb.mono
  obtain ⟨r, hr, hv⟩ := ho.ok
  refine ⟨PT.imp (pt_cmpR hr ha.pe hb.pe hm) fun σ H Q h => ?_, mono_tru m⟩
  obtain ⟨S, T, B, A, ω, δ, Z, F, z, q⟩ := h
  refine two_then (r := fun x y H2 Q2 => r x y H2 Q2) (Q := fun x H' => ∃ k, x = .bl k ∧ Q k H') (R := fun d1 d2 δ2 => ρ d1 d2 fun o => rdK o δ2 fun d => truK d fun b => ∀ H' ω', Fr G X.K S T B A ω' H' σ δ2 → WSub ω' ω → Q b H') ha.mono hb.mono F z q fun {H2 ω2 δ2 d1 d2 v1 v2} F2 w t1 t2 q => ?_
  refine hv F2.om t1 t2 (hbl _ _ _ q) fun o v H' k g => ?_
  obtain ⟨k, c, rfl⟩ := k
  cases g with
  | same r =>
    cases r
    exact ⟨c, rfl, k H2 ω2 F2 w⟩
def xNot (θ : DTT) : DTT := fun Z δ Q => θ Z δ fun b δ' => Q (!b) δ'
def xAnd (θ θ' : DTT) : DTT := fun Z δ Q => θ Z δ fun b δ' => if b = true then θ' Z δ' Q else Q false δ'
def xOr (θ θ' : DTT) : DTT := fun Z δ Q => θ Z δ fun b δ' => if b = true then Q true δ' else θ' Z δ' Q
theorem tT_of {K : PySem.W.Frag} {σ : St} {H : Hp} {Q : Bool → Hp → Prop} {S : Addr → HO → Prop} {T B : Addr → Prop} {A : Nat → Option Addr} {ω : List (Option Addr)} {δ : Env} {Z : Ex → Prop} {R : Bool → Env → Prop} (m : MonoT θ)
    (F : Fr G K S T B A ω H σ δ) (z : EOk G K S T B Z E) (h : θ Z δ R) (k : ∀ b δ' H' ω', R b δ' → Fr G K S T B A ω' H' σ δ' → WSub ω' ω → Q b H') : tT G K E θ σ H Q :=
  ⟨S, T, B, A, ω, δ, Z, F, z, m.m _ _ _ _ _ (fun _ z => z) (fun b δ' q H' ω' f w => k b δ' H' ω' q f w) h⟩
theorem mono_not (m : MonoT θ) : MonoT (xNot θ) := ⟨fun _ _ _ _ _ hz h q => m.m _ _ _ _ _ hz (fun _ _ q => h _ _ q) q⟩
theorem mono_and (m : MonoT θ) (m' : MonoT θ') : MonoT (xAnd θ θ') := ⟨fun _ _ _ _ _ hz h q => m.m _ _ _ _ _ hz (fun b _ q => by
  cases b with
  | true => exact m'.m _ _ _ _ _ hz h q
  | false => exact h _ _ q) q⟩
theorem mono_or (m : MonoT θ) (m' : MonoT θ') : MonoT (xOr θ θ') := ⟨fun _ _ _ _ _ hz h q => m.m _ _ _ _ _ hz (fun b _ q => by
  cases b with
  | true => exact h _ _ q
  | false => exact m'.m _ _ _ _ _ hz h q) q⟩
theorem db_not (h : DB X G E a θ) : DB X G E (.UnaryOp .Not a pos) (xNot θ) := by
  refine ⟨PT.imp (pt_not h.pt) fun σ H Q q => ?_, mono_not h.mono⟩
  obtain ⟨S, T, B, A, ω, δ, Z, F, z, q⟩ := q
  exact tT_of h.mono F z q fun b δ' H' ω' q f w => q H' ω' f w
structure DW (X : Cx) (G : Amb) (E : XK) (e : Expr) (τ : DTT) : Prop where
  pw : PW X e (tT G X.K E τ)
  mono : MonoT τ
theorem PW.imp {X : Cx} {e : Expr} {t t' : TT} (h : PW X e t) (i : ∀ σ H Q, t' σ H Q → t σ H Q) : PW X e t' := ⟨fun wh pins s σ H Q I q => h.run wh pins s σ H Q I (i σ H Q q)⟩
theorem DW.db (h : DW X G E e θ) : DB X G E e θ := ⟨h.pw.pt, h.mono⟩
variable {rest : List Expr}
theorem dw_and1 (h : DB X G E a θ) : DW X G E (.BoolOp .And [a] pos) θ := ⟨pw_and1 h.pt, h.mono⟩
theorem dw_or1 (h : DB X G E a θ) : DW X G E (.BoolOp .Or [a] pos) θ := ⟨pw_or1 h.pt, h.mono⟩
theorem dw_and (h : DB X G E a θ) (h' : DW X G E (.BoolOp .And (b :: rest) pos) θ') : DW X G E (.BoolOp .And (a :: b :: rest) pos) (xAnd θ θ') := by
  refine ⟨PW.imp (pw_and h.pt h'.pw) fun σ H Q q => ?_, mono_and h.mono h'.mono⟩
  obtain ⟨S, T, B, A, ω, δ, Z, F, z, q⟩ := q
  refine tT_of h.mono F z q fun b δ' H' ω' q f w => ?_
  cases b with
  | true => exact tT_of h'.mono f z q fun b δ2 H2 ω2 q f2 w2 => q H2 ω2 f2 (w2.trans w)
  | false => exact q H' ω' f w
theorem dw_or (h : DB X G E a θ) (h' : DW X G E (.BoolOp .Or (b :: rest) pos) θ') : DW X G E (.BoolOp .Or (a :: b :: rest) pos) (xOr θ θ') := by
  refine ⟨PW.imp (pw_or h.pt h'.pw) fun σ H Q q => ?_, mono_or h.mono h'.mono⟩
  obtain ⟨S, T, B, A, ω, δ, Z, F, z, q⟩ := q
  refine tT_of h.mono F z q fun b δ' H' ω' q f w => ?_
  cases b with
  | false => exact tT_of h'.mono f z q fun b δ2 H2 ω2 q f2 w2 => q H2 ω2 f2 (w2.trans w)
  | true => exact q H' ω' f w
/-! ### tests as values, conditional expressions -/
def xAndV (τ τ' : DT) : DT := fun Z δ Q => τ Z δ fun o δ' => rdK o δ' fun d => match d with
  | .bl c => if c = true then τ' Z δ' Q else Q (.v (.bl false)) δ'
  | _ => False
def xOrV (τ τ' : DT) : DT := fun Z δ Q => τ Z δ fun o δ' => rdK o δ' fun d => match d with
  | .bl c => if c = true then Q (.v (.bl true)) δ' else τ' Z δ' Q
  | _ => False
def xNotV (τ : DT) : DT := fun Z δ Q => τ Z δ fun o δ' => rdK o δ' fun d => match d with
  | .bl c => Q (.v (.bl (!c))) δ'
  | _ => False
def xIfE (θ : DTT) (τ τ' : DT) : DT := fun Z δ Q => θ Z δ fun b δ' => if b = true then τ Z δ' Q else τ' Z δ' Q
theorem mono_andV (m : Mono τa) (m' : Mono τb) : Mono (xAndV τa τb) := ⟨fun _ _ _ _ _ hz h q => m.m _ _ _ _ _ hz (fun o _ q => rdK_mono (fun d q => by
  cases d <;> first | exact q | (rename_i c; cases c with
    | true => exact m'.m _ _ _ _ _ hz h q
    | false => exact h _ _ q)) q) q⟩
theorem mono_orV (m : Mono τa) (m' : Mono τb) : Mono (xOrV τa τb) := ⟨fun _ _ _ _ _ hz h q => m.m _ _ _ _ _ hz (fun o _ q => rdK_mono (fun d q => by
  cases d <;> first | exact q | (rename_i c; cases c with
    | false => exact m'.m _ _ _ _ _ hz h q
    | true => exact h _ _ q)) q) q⟩
theorem mono_notV (m : Mono τa) : Mono (xNotV τa) := ⟨fun _ _ _ _ _ hz h q => m.m _ _ _ _ _ hz (fun o _ q => rdK_mono (fun d q => by
  cases d <;> first | exact q | exact h _ _ q) q) q⟩
theorem mono_ifE (mt : MonoT θ) (m : Mono τa) (m' : Mono τb) : Mono (xIfE θ τa τb) := ⟨fun _ _ _ _ _ hz h q => mt.m _ _ _ _ _ hz (fun b _ q => by
  cases b with
  | true => exact m.m _ _ _ _ _ hz h q
  | false => exact m'.m _ _ _ _ _ hz h q) q⟩
/-- from a state behind the first part on -/
theorem tD_on {K : PySem.W.Frag} {S : Addr → HO → Prop} {T B : Addr → Prop} {A : Nat → Option Addr} {ω ω1 : List (Option Addr)} {H1 : Hp} {σ : St} {δ1 : Env} {Z : Ex → Prop} {Q : VK} (m : Mono τ) (F : Fr G K S T B A ω1 H1 σ δ1) (w : WSub ω1 ω) (z : EOk G K S T B Z E)
    (q : τ Z δ1 (tK G K S T B A ω σ Q)) : tD G K E τ σ H1 Q :=
  tD_of F z (m.m _ _ _ _ _ (fun _ z => z) (fun o δ2 k v H2 ω2 P ev => k v H2 ω2 P ⟨ev.fr, ev.ws.trans w, ev.rp⟩) q) m
theorem de_one {op} (h : DE X G E a τ) : DE X G E (.BoolOp op [a] pos) τ := ⟨pe_one h.pe, h.mono⟩
theorem de_and (ha : DE X G E a τa) (hb : DE X G E (.BoolOp .And (b :: rest) pos) τb) : DE X G E (.BoolOp .And (a :: b :: rest) pos) (xAndV τa τb) := by
  have m := mono_andV ha.mono hb.mono
  refine ⟨PE.imp (pe_and ha.pe hb.pe) fun σ H Q h => ?_, m⟩
  obtain ⟨S, T, B, A, ω, δ, Z, F, z, q⟩ := tD_to m h
  refine tD_of F z (ha.mono.m _ _ _ _ _ (fun _ z => z) (fun o δ' q v H' ω' P ev => ?_) q) ha.mono
  obtain ⟨d, e1, q⟩ := rdK_some q
  have r := ev.fr.rd ev.rp e1
  cases d <;> first | exact q.elim | skip
  rename_i c
  cases r
  refine ⟨c, rfl, ?_⟩
  cases c with
  | true => exact tD_on hb.mono (ev.drop F) ev.ws z q
  | false =>
    obtain ⟨P2, ev2⟩ := Gv.ev (o := .v (.bl false)) (v := .bl false) (ev.drop F) ev.ws (.same rfl)
    exact q _ _ _ _ ev2
theorem de_or (ha : DE X G E a τa) (hb : DE X G E (.BoolOp .Or (b :: rest) pos) τb) : DE X G E (.BoolOp .Or (a :: b :: rest) pos) (xOrV τa τb) := by
  have m := mono_orV ha.mono hb.mono
  refine ⟨PE.imp (pe_or ha.pe hb.pe) fun σ H Q h => ?_, m⟩
  obtain ⟨S, T, B, A, ω, δ, Z, F, z, q⟩ := tD_to m h
  refine tD_of F z (ha.mono.m _ _ _ _ _ (fun _ z => z) (fun o δ' q v H' ω' P ev => ?_) q) ha.mono
  obtain ⟨d, e1, q⟩ := rdK_some q
  have r := ev.fr.rd ev.rp e1
  cases d <;> first | exact q.elim | skip
  rename_i c
  cases r
  refine ⟨c, rfl, ?_⟩
  cases c with
  | false => exact tD_on hb.mono (ev.drop F) ev.ws z q
  | true =>
    obtain ⟨P2, ev2⟩ := Gv.ev (o := .v (.bl true)) (v := .bl true) (ev.drop F) ev.ws (.same rfl)
    exact q _ _ _ _ ev2
theorem de_not (ha : DE X G E a τa) : DE X G E (.UnaryOp .Not a pos) (xNotV τa) := by
  have m := mono_notV ha.mono
  refine ⟨PE.imp (pe_not ha.pe) fun σ H Q h => ?_, m⟩
  obtain ⟨S, T, B, A, ω, δ, Z, F, z, q⟩ := tD_to m h
  refine tD_of F z (ha.mono.m _ _ _ _ _ (fun _ z => z) (fun o δ' q v H' ω' P ev => ?_) q) ha.mono
  obtain ⟨d, e1, q⟩ := rdK_some q
  have r := ev.fr.rd ev.rp e1
  cases d <;> first | exact q.elim | skip
  rename_i c
  cases r
  refine ⟨c, rfl, ?_⟩
  obtain ⟨P2, ev2⟩ := Gv.ev (o := .v (.bl (!c))) (v := .bl (!c)) (ev.drop F) ev.ws (.same rfl)
  exact q _ _ _ _ ev2
theorem de_if (hc : DB X G E c θ) (ha : DE X G E a τa) (hb : DE X G E b τb) : DE X G E (.IfExp c a b pos) (xIfE θ τa τb) := by
  have m := mono_ifE hc.mono ha.mono hb.mono
  refine ⟨PE.imp (pe_ifExp hc.pt ha.pe hb.pe) fun σ H Q h => ?_, m⟩
  obtain ⟨S, T, B, A, ω, δ, Z, F, z, q⟩ := tD_to m h
  refine tT_of hc.mono F z q fun b δ' H' ω' q f w => ?_
  cases b with
  | true => exact tD_on ha.mono f w z q
  | false => exact tD_on hb.mono f w z q
/-! ### a < b < c -/
theorem Ev.back0 {K : PySem.W.Frag} {S : Addr → HO → Prop} {T B : Addr → Prop} {A : Nat → Option Addr} {ω ω1 ω2 : List (Option Addr)} {H H1 H2 : Hp} {σ : St} {δ δ1 δ2 : Env} {P1 : Option Addr} {o1 : Op} {v1 : V}
    (F : Fr G K S T B A ω H σ δ) (e : Ev G K S T B A ω H1 σ δ1 ω1 P1 o1 v1) (F2 : Fr G K (nS S H1 B P1 ω1) (nT H1) (Bp B P1) A ω2 H2 σ δ2) : Fr G K S T B A ω2 H2 σ δ2 :=
  e.back (P2 := none) F (by rw [bp_none, bp_none]; exact F2)
/-- a comparison: what it asks, what it says -/
def cmpR (C : D → D → Prop) (f : D → D → Bool) : D2 := fun d1 d2 P => C d1 d2 ∧ P (.v (.bl (f d1 d2)))
theorem m2_cmp {C : D → D → Prop} {f : D → D → Bool} : M2 (cmpR C f) := ⟨fun _ _ _ _ h q => ⟨q.1, h _ q.2⟩⟩
def xChain (C C' : D → D → Prop) (f f' : D → D → Bool) (τa τb τc : DT) : DT := fun Z δ Q => τa Z δ fun o1 δ1 => τb Z δ1 fun o2 δ2 => rdK o1 δ2 fun d1 => rdK o2 δ2 fun d2 => C d1 d2 ∧
  if f d1 d2 = true then τc Z δ2 fun o3 δ3 => rdK o2 δ3 fun d2 => rdK o3 δ3 fun d3 => C' d2 d3 ∧ Q (.v (.bl (f' d2 d3))) δ3 else Q (.v (.bl false)) δ2
variable {C C' : D → D → Prop} {f f' : D → D → Bool}
theorem mono_chain (ma : Mono τa) (mb : Mono τb) (mc : Mono τc) : Mono (xChain C C' f f' τa τb τc) := ⟨fun _ _ _ _ _ hz h q =>
  ma.m _ _ _ _ _ hz (fun _ _ q => mb.m _ _ _ _ _ hz (fun _ _ q => rdK_mono (fun d1 q => rdK_mono (fun d2 q => ⟨q.1, by
    have q2 := q.2
    by_cases c : f d1 d2 = true
    · rw [if_pos c] at q2 ⊢; exact mc.m _ _ _ _ _ hz (fun _ _ q => rdK_mono (fun _ q => rdK_mono (fun _ q => ⟨q.1, h _ _ q.2⟩) q) q) q2
    · rw [if_neg c] at q2 ⊢; exact h _ _ q2⟩) q) q) q) q⟩
theorem chain_core {r r' : R2} {op op' : CmpOp} (ho : OpD X (compareOp op) (cmpR C f)) (ho' : OpD X (compareOp op') (cmpR C' f')) (ma : Mono τa) (mb : Mono τb) (mc : Mono τc)
    (hv : ∀ {H : Hp} {O : Addr → Prop} {d1 d2 : D} {v1 v2 : V} {P : Op → Prop} {Q : VK}, OM O H → RepTop X.K H O d1 v1 → RepTop X.K H O d2 v2 → cmpR C f d1 d2 P → (∀ o v H', P o → Gv X.K H O o v H' → Q v H') → r v1 v2 H Q)
    (hv' : ∀ {H : Hp} {O : Addr → Prop} {d1 d2 : D} {v1 v2 : V} {P : Op → Prop} {Q : VK}, OM O H → RepTop X.K H O d1 v1 → RepTop X.K H O d2 v2 → cmpR C' f' d1 d2 P → (∀ o v H', P o → Gv X.K H O o v H' → Q v H') → r' v1 v2 H Q)
    {σ : St} {H : Hp} {S : Addr → HO → Prop} {T B : Addr → Prop} {A : Nat → Option Addr} {ω : List (Option Addr)} {δ : Env} {Z : Ex → Prop} {R : Op → Env → Prop} {Q : VK} (F : Fr G X.K S T B A ω H σ δ) (z : EOk G X.K S T B Z E)
    (q : xChain C C' f f' τa τb τc Z δ R) (k : ∀ b δ' H' ω', R (.v (.bl b)) δ' → Fr G X.K S T B A ω' H' σ δ' → WSub ω' ω → Q (.bl b) H') : tChain r r' (tD G X.K E τa) (tD G X.K E τb) (tD G X.K E τc) σ H Q := by
  refine tD_of F z (ma.m _ _ _ _ _ (fun _ z => z) (fun o1 δ1 q v1 H1 ω1 P1 e1 => ?_) q) ma
  refine tD_of (e1.go F) (e1.eok F z) (mb.m _ _ _ _ _ (fun _ z => z) (fun o2 δ2 q v2 H2 ω2 P2 e2 => ?_) q) mb
  obtain ⟨d1, h1, q⟩ := rdK_some q
  obtain ⟨d2, h2, q⟩ := rdK_some q
  refine hv e2.fr.om (e2.fr.rd (e1.old e2) h1) (e2.fr.rd e2.rp h2) (P := fun o => o = .v (.bl (f d1 d2))) ⟨q.1, rfl⟩ fun o v H' po g => ?_
  subst po
  cases g with
  | same r =>
    cases r
    refine ⟨_, rfl, ?_⟩
    have q2 := q.2
    by_cases c : f d1 d2 = true
    · rw [if_pos c] at q2 ⊢
      refine tD_of (e2.go (e1.go F)) (e2.eok (e1.go F) (e1.eok F z)) (mc.m _ _ _ _ _ (fun _ z => z) (fun o3 δ3 q v3 H3 ω3 P3 e3 => ?_) q2) mc
      obtain ⟨d2', h2', q⟩ := rdK_some q
      obtain ⟨d3, h3, q⟩ := rdK_some q
      refine hv' e3.fr.om (e3.fr.rd (e2.old e3) h2') (e3.fr.rd e3.rp h3) (P := fun o => o = .v (.bl (f' d2' d3))) ⟨q.1, rfl⟩ fun o v H' po g => ?_
      subst po
      cases g with
      | same r =>
        cases r
        exact k _ _ _ _ q.2 (e1.back0 F (e2.back (e1.go F) e3.fr)) (e3.ws.trans (e2.ws.trans e1.ws))
    · rw [if_neg c] at q2 ⊢
      have c' : f d1 d2 = false := by simpa using c
      exact k _ _ _ _ q2 (e1.back F e2.fr) (e2.ws.trans e1.ws)
theorem de_chain {op op' : CmpOp} (ho : OpD X (compareOp op) (cmpR C f)) (ho' : OpD X (compareOp op') (cmpR C' f')) (ha : DE X G E a τa) (hb : DE X G E b τb) (hc : DE X G E c τc) (hm : lastMarks [op, op'] [b, c] = false := by with_unfolding_all rfl) :
    DE X G E (.Compare a [op, op'] [b, c] pos) (xChain C C' f f' τa τb τc) := by
  have m : Mono (xChain C C' f f' τa τb τc) := mono_chain ha.mono hb.mono hc.mono
  obtain ⟨r, hr, hv⟩ := ho.ok
  obtain ⟨r', hr', hv'⟩ := ho'.ok
  refine ⟨PE.imp (pe_chain hr hr' ha.pe hb.pe hc.pe hm) fun σ H Q h => ?_, m⟩
  obtain ⟨S, T, B, A, ω, δ, Z, F, z, q⟩ := tD_to m h
  refine chain_core ho ho' ha.mono hb.mono hc.mono hv hv' F z q fun b δ' H' ω' q F' w => ?_
  obtain ⟨P, ev⟩ := Gv.ev (o := .v (.bl b)) (v := .bl b) F' w (.same rfl)
  exact q _ _ _ _ ev
theorem db_chain {op op' : CmpOp} (ho : OpD X (compareOp op) (cmpR C f)) (ho' : OpD X (compareOp op') (cmpR C' f')) (ha : DE X G E a τa) (hb : DE X G E b τb) (hc : DE X G E c τc) (hm : lastMarks [op, op'] [b, c] = false := by with_unfolding_all rfl) :
    DB X G E (.Compare a [op, op'] [b, c] pos) (xTru (xChain C C' f f' τa τb τc)) := by
  have m : Mono (xChain C C' f f' τa τb τc) := mono_chain ha.mono hb.mono hc.mono
  obtain ⟨r, hr, hv⟩ := ho.ok
  obtain ⟨r', hr', hv'⟩ := ho'.ok
  refine ⟨PT.imp (pt_chain hr hr' ha.pe hb.pe hc.pe hm) fun σ H Q h => ?_, mono_tru m⟩
  obtain ⟨S, T, B, A, ω, δ, Z, F, z, q⟩ := h
  refine chain_core (Q := fun x H' => ∃ k, x = .bl k ∧ Q k H') (R := fun o δ' => rdK o δ' fun d => truK d fun b => ∀ H' ω', Fr G X.K S T B A ω' H' σ δ' → WSub ω' ω → Q b H') ho ho' ha.mono hb.mono hc.mono hv hv' F z q fun b δ' H' ω' q F' w => ?_
  exact ⟨b, rfl, q H' ω' F' w⟩
theorem db_cmpR {op : CmpOp} (ho : OpD X (compareOp op) (cmpR C f)) (ha : DE X G E a τa) (hb : DE X G E b τb) (hm : behindInMarks op b = false) : DB X G E (.Compare a [op] [b] pos) (xTru (xOp (cmpR C f) τa τb)) :=
  db_cmp ho ha hb hm fun _ _ _ q => ⟨q.1, q.2, _, rfl⟩
end
end DL

set_option Elab.async false
set_option linter.all false
set_option maxRecDepth 100000
namespace DL
open PySem L2
/-! ### arguments, displays -/
def BL (B : Addr → Prop) (Ps : List Addr) (a : Addr) : Prop := B a ∨ a ∈ Ps
inductive ROps (K : PySem.W.Frag) (T : Addr → Prop) (H : Hp) (O : Addr → Prop) (σ : St) : List Addr → List Op → List V → Prop
  | nil : ROps K T H O σ [] [] []
  | cons {P : Option Addr} {Ps : List Addr} {o : Op} {os : List Op} {v : V} {vs : List V} : ROp K T H O σ P o v → ROps K T H O σ Ps os vs → ROps K T H O σ (P.toList ++ Ps) (o :: os) (v :: vs)
structure EvA (G : Amb) (K : PySem.W.Frag) (S : Addr → HO → Prop) (T B : Addr → Prop) (A : Nat → Option Addr) (ω : List (Option Addr)) (H' : Hp) (σ : St) (δ' : Env) (ω' : List (Option Addr)) (Ps : List Addr) (os : List Op) (vs : List V) : Prop where
  fr : Fr G K S (BL T Ps) (BL B Ps) A ω' H' σ δ'
  ws : WSub ω' ω
  nd : Ps.Nodup
  rp : ROps K T H' (Ow (BL B Ps) ω') σ Ps os vs
abbrev DTA := (Ex → Prop) → Env → (List Op → Env → Prop) → Prop
structure MonoA (τ : DTA) : Prop where
  m : ∀ (Z Z' : Ex → Prop) (δ : Env) (Q Q' : List Op → Env → Prop), (∀ x, Z x → Z' x) → (∀ o δ', Q o δ' → Q' o δ') → τ Z δ Q → τ Z' δ Q'
def tA (G : Amb) (K : PySem.W.Frag) (E : XK) (τ : DTA) : TA := fun σ H Q => ∃ S T B A ω δ Z, Fr G K S T B A ω H σ δ ∧ EOk G K S T B Z E ∧
  τ Z δ (fun os δ' => ∀ vs H' ω' Ps, EvA G K S T B A ω H' σ δ' ω' Ps os vs → Q vs H')
structure DA (X : Cx) (G : Amb) (E : XK) (es : List Expr) (τ : DTA) : Prop where
  pa : PA X es (tA G X.K E τ)
  mono : MonoA τ
theorem PA.imp {X : Cx} {e : List Expr} {t t' : TA} (h : PA X e t) (i : ∀ σ H Q, t' σ H Q → t σ H Q) : PA X e t' := ⟨fun pos pins s σ H Q I q => h.run pos pins s σ H Q I (i σ H Q q)⟩
theorem bl_nil {B : Addr → Prop} : BL B [] = B := by funext a; unfold BL; simp
section
variable {G : Amb} {K : PySem.W.Frag} {S : Addr → HO → Prop} {T B : Addr → Prop} {A : Nat → Option Addr} {ω ω1 ω2 : List (Option Addr)} {H H1 H2 : Hp} {σ : St} {δ δ1 δ2 : Env} {P1 : Option Addr} {Ps : List Addr} {Z : Ex → Prop} {E : XK} {o1 : Op} {v1 : V} {os : List Op} {vs : List V}
theorem ROps.nt {O : Addr → Prop} (r : ROps K T H O σ Ps os vs) : ∀ p ∈ Ps, ¬ T p := by
  induction r with
  | nil => intro p h; cases h
  | cons r _ ih =>
    intro p h
    rcases List.mem_append.mp h with h | h
    · exact r.nt p (Option.mem_toList.mp h)
    · exact ih p h
theorem ROp.carry {O O' : Addr → Prop} {P : Option Addr} {o : Op} {v : V} {T' : Addr → Prop} (r : ROp K T H O σ P o v) (c : Carry K H H1 O O') (t : ∀ p, P = some p → ¬ T p → ¬ T' p) (k : ∀ p u, P = some p → H p = some u → Mu u → H1 p = some u) : ROp K T' H1 O' σ P o v := by
  cases o with
  | v d => exact ⟨r.1, Rep.carry c r.2⟩
  | b i => exact r
  | n ds => obtain ⟨p, vs, h0, h1, h2, h3, h4⟩ := r; exact ⟨p, vs, h0, h1, t p h0 h2, k p _ h0 h3 trivial, RepL.carry c h4⟩
  | nd ds => obtain ⟨p, vs, h0, h1, h2, h3, h4⟩ := r; exact ⟨p, vs, h0, h1, t p h0 h2, k p _ h0 h3 trivial, RepK.carry c h4⟩
  | nt ds => obtain ⟨p, vs, h0, h1, h2, h3, h4⟩ := r; exact ⟨p, vs, h0, h1, t p h0 h2, k p _ h0 h3 trivial, RepT.carry c h4⟩
theorem ROps.carry {O O' : Addr → Prop} {T' : Addr → Prop} (r : ROps K T H O σ Ps os vs) (c : Carry K H H1 O O') (t : ∀ p ∈ Ps, ¬ T p → ¬ T' p) (k : ∀ p ∈ Ps, ∀ u, H p = some u → Mu u → H1 p = some u) : ROps K T' H1 O' σ Ps os vs := by
  induction r with
  | nil => exact .nil
  | cons r _ ih =>
    exact .cons (r.carry c (fun p h n => t p (List.mem_append_left _ (Option.mem_toList.mpr h)) n) fun p u h => k p (List.mem_append_left _ (Option.mem_toList.mpr h)) u) (ih (fun p h => t p (List.mem_append_right _ h)) fun p h => k p (List.mem_append_right _ h))
/-- what was pinned carries over -/
theorem pin_carry {S' : Addr → HO → Prop} {T' B' : Addr → Prop} {A' : Nat → Option Addr} {O1 : Addr → Prop} (hS : ∀ a o, H1 a = some o → NT o → ¬ O1 a → S' a o) (om : OM O1 H1) (F : Fr G K S' T' B' A' ω2 H2 σ δ2) (hB : ∀ a, B' a → O1 a ∨ ¬ nT H1 a) : Carry K H1 H2 O1 (Ow B' ω2) := by
  have no : ∀ a o, H1 a = some o → NT o → ¬ O1 a → ¬ Ow B' ω2 a := fun a o h n m z => by
    rcases z with z | ⟨i, z⟩
    · rcases hB a z with z | z
      · exact m z
      · exact z ⟨o, h, n⟩
    · exact (F.sw i a z).2 o (hS a o h n m)
  refine ⟨fun a vs h => ?_, fun a vs h n => ⟨F.st a _ (hS a _ h nt_lst n), no a _ h nt_lst n⟩, fun a vs h n => ⟨F.st a _ (hS a _ h nt_dK n), no a _ h nt_dK n⟩, fun a vs h n => ⟨F.st a _ (hS a _ h nt_dT n), no a _ h nt_dT n⟩⟩
  have key : ∀ o, H1 a = some o → NT o → ¬ Mu o → H2 a = some o := fun o h n m => F.st a o (hS a o h n fun z => by
    obtain ⟨u, e', m'⟩ := om a z
    rw [h] at e'; cases e'; exact m m')
  rcases h with (h | ⟨o, h⟩) | h
  · exact .inl (.inl (key _ h nt_tup fun z => z))
  · exact .inl (.inr ⟨o, key _ h nt_frz fun z => z⟩)
  · exact .inr h
theorem tA_of {τ : DTA} {Q : List V → Hp → Prop} (m : MonoA τ) (F : Fr G K S T B A ω H σ δ) (z : EOk G K S T B Z E) {R : List Op → Env → Prop} (h : τ Z δ R) (k : ∀ os δ' vs H' ω' Ps, R os δ' → EvA G K S T B A ω H' σ δ' ω' Ps os vs → Q vs H') : tA G K E τ σ H Q :=
  ⟨S, T, B, A, ω, δ, Z, F, z, m.m _ _ _ _ _ (fun _ z => z) (fun os δ' q vs H' ω' Ps e => k os δ' vs H' ω' Ps q e) h⟩
theorem bp_bl {a : Addr} : BL (Bp B P1) Ps a ↔ BL B (P1.toList ++ Ps) a := by
  unfold BL Bp
  rw [List.mem_append, Option.mem_toList]
  constructor
  · rintro ((h | h) | h)
    · exact .inl h
    · exact .inr (.inl h)
    · exact .inr (.inr h)
  · rintro (h | h | h)
    · exact .inl (.inl h)
    · exact .inl (.inr h)
    · exact .inr h
/-- one more argument ahead -/
theorem EvA.cons (F : Fr G K S T B A ω H σ δ) (e : Ev G K S T B A ω H1 σ δ1 ω1 P1 o1 v1) (e2 : EvA G K (nS S H1 B P1 ω1) (nT H1) (Bp B P1) A ω1 H2 σ δ2 ω2 Ps os vs) : EvA G K S T B A ω H2 σ δ2 ω2 (P1.toList ++ Ps) (o1 :: os) (v1 :: vs) := by
  have nt1 := e.rp.nt
  have nt2 := e2.rp.nt
  have inH1 : ∀ p, P1 = some p → nT H1 p := fun p h => e.fr.dm p (.inr h)
  have fr : Fr G K S (BL T (P1.toList ++ Ps)) (BL B (P1.toList ++ Ps)) A ω2 H2 σ δ2 := by
    refine e2.fr.less (fun _ _ h => .inl h) (fun a h => ?_) (fun a h => bp_bl.mpr h) (fun a c => .inl (F.cb a c)) (fun a h => h.elim (fun z => .inl (F.bt a z)) .inr) (fun a o h => .inl (F.sT a o h)) (fun i a h => .inl (F.al i a h)) fun a o h ⟨i, q⟩ => ?_
    · rcases h with h | h
      · exact .inl (e.fr.dm a (.inl h))
      · rcases List.mem_append.mp h with h | h
        · exact .inl (inH1 a (Option.mem_toList.mp h))
        · exact .inr h
    · rcases h with h | ⟨h, n, h'⟩
      · exact h
      · rcases h' with h' | h'
        · exact (h' (.inl (.inl (F.al i a q)))).elim
        · exact (nt1 a h' (F.bt a (F.al i a q))).elim
  have oEq : ∀ a, Ow (BL (Bp B P1) Ps) ω2 a ↔ Ow (BL B (P1.toList ++ Ps)) ω2 a := fun a => by unfold Ow; rw [bp_bl]
  refine ⟨fr, e2.ws.trans e.ws, ?_, .cons ?_ ?_⟩
  · refine List.nodup_append.mpr ⟨?_, e2.nd, fun a ha b hb h => ?_⟩
    · cases P1 <;> simp
    · subst h
      exact nt2 a hb (inH1 a (Option.mem_toList.mp ha))
  · refine e.rp.carry (pin_carry (S' := nS S H1 B P1 ω1) (O1 := Ow (Bp B P1) ω1) (fun a o h n m => .inr ⟨h, n, .inl m⟩) e.fr.om fr' ?_) (fun _ _ n => n) fun p u h1 h2 m => e2.fr.st p u (.inr ⟨h2, nt_mu m, .inr h1⟩)
    · intro a h
      rcases bp_bl.mpr h with (h | h) | h
      · exact .inl (.inl (.inl h))
      · exact .inl (.inl (.inr h))
      · right
        exact nt2 a h
  · refine e2.rp.carry (Carry.sub fun a h => (oEq a).mpr h) (fun p hp n t => ?_) fun p hp u h1 _ => h1
    exact n (e.fr.dm p (.inl t))
where fr' := (Fr.less e2.fr (S := nS S H1 B P1 ω1) (T := BL (nT H1) Ps) (B := BL B (P1.toList ++ Ps)) (fun _ _ h => h) (fun a h => h) (fun a h => bp_bl.mpr h) (fun a c => .inl (F.cb a c)) (fun a h => by
    rcases bp_bl.mpr h with (h | h) | h
    · exact .inl (e.fr.dm a (.inl (F.bt a h)))
    · exact .inl (e.fr.dm a (.inr h))
    · exact .inr h) (fun a o h => e2.fr.sT a o h) (fun i a h => .inl (F.al i a h)) fun _ _ h _ => h)
theorem EvA.drop (F : Fr G K S T B A ω H σ δ) (e : EvA G K S T B A ω H1 σ δ1 ω1 Ps os vs) : Fr G K S T B A ω1 H1 σ δ1 :=
  e.fr.less (fun _ _ h => h) (fun _ h => .inl h) (fun _ h => .inl h) F.cb F.bt F.sT F.al fun _ _ h _ => h
end
/-- all may be kept -/
def kpL : List Op → Option (List D)
  | [] => some []
  | o :: os => match kp o, kpL os with
    | some d, some ds => some (d :: ds)
    | _, _ => none
def kpLK (os : List Op) (k : List D → Prop) : Prop := match kpL os with
  | some ds => k ds
  | none => False
theorem kpLK_mono {o : List Op} {k k' : List D → Prop} (h : ∀ d, k d → k' d) (q : kpLK o k) : kpLK o k' := by
  unfold kpLK at q ⊢
  split at q
  · exact h _ q
  · exact q
theorem kpLK_some {o : List Op} {k : List D → Prop} (q : kpLK o k) : ∃ d, kpL o = some d ∧ k d := by
  unfold kpLK at q
  cases e : kpL o with
  | none => rw [e] at q; exact q.elim
  | some d => rw [e] at q; exact ⟨d, rfl, q⟩
def kpK (o : Op) (k : D → Prop) : Prop := match kp o with
  | some d => k d
  | none => False
theorem kpK_mono {o : Op} {k k' : D → Prop} (h : ∀ d, k d → k' d) (q : kpK o k) : kpK o k' := by
  unfold kpK at q ⊢
  split at q
  · exact h _ q
  · exact q
theorem kpK_some {o : Op} {k : D → Prop} (q : kpK o k) : ∃ d, kp o = some d ∧ k d := by
  unfold kpK at q
  cases e : kp o with
  | none => rw [e] at q; exact q.elim
  | some d => rw [e] at q; exact ⟨d, rfl, q⟩
def xNilA : DTA := fun _ δ Q => Q [] δ
def xConsA (τ : DT) (τs : DTA) : DTA := fun Z δ Q => τ Z δ fun o δ1 => τs Z δ1 fun os δ2 => Q (o :: os) δ2
section
variable {X : Cx} {G : Amb} {E : XK} {e a b c : Expr} {es : List Expr} {τ τa τb : DT} {τs : DTA} {pos : Pos}
theorem mono_nilA : MonoA xNilA := ⟨fun _ _ _ _ _ _ h q => h _ _ q⟩
theorem mono_consA (m : Mono τ) (ms : MonoA τs) : MonoA (xConsA τ τs) := ⟨fun _ _ _ _ _ hz h q => m.m _ _ _ _ _ hz (fun _ _ q => ms.m _ _ _ _ _ hz (fun _ _ q => h _ _ q) q) q⟩
theorem da_nil : DA X G E [] xNilA := by
  refine ⟨PA.imp pa_nil fun σ H Q h => ?_, mono_nilA⟩
  obtain ⟨S, T, B, A, ω, δ, Z, F, z, q⟩ := h
  exact q [] H ω [] ⟨by rw [bl_nil, bl_nil]; exact F, .refl, List.nodup_nil, .nil⟩
theorem da_cons (he : DE X G E e τ) (hs : DA X G E es τs) (hq : starEach (e :: es) X.env = (false, eval e X.env) :: starEach es X.env := by rfl) : DA X G E (e :: es) (xConsA τ τs) := by
  refine ⟨PA.imp (pa_cons he.pe hs.pa hq) fun σ H Q h => ?_, mono_consA he.mono hs.mono⟩
  obtain ⟨S, T, B, A, ω, δ, Z, F, z, q⟩ := h
  refine tD_of F z (he.mono.m _ _ _ _ _ (fun _ z => z) (fun o1 δ1 q v1 H1 ω1 P1 e1 => ?_) q) he.mono
  exact tA_of hs.mono (e1.go F) (e1.eok F z) q fun os δ2 vs H2 ω2 Ps q e2 => q (v1 :: vs) H2 ω2 _ (EvA.cons F e1 e2)
variable {K : PySem.W.Frag} {S : Addr → HO → Prop} {T B : Addr → Prop} {A : Nat → Option Addr} {ω ω1 : List (Option Addr)} {H H1 : Hp} {σ : St} {δ δ1 : Env} {Ps : List Addr} {os : List Op} {vs : List V}
theorem ROps.kp {O O' : Addr → Prop} (s : ∀ a, O' a → O a) : ∀ {Ps : List Addr} {os : List Op} {vs : List V} {ds : List D}, ROps K T H O σ Ps os vs → (∀ p ∈ Ps, ¬ O' p) → kpL os = some ds → RepL K H O' ds vs := fun {Ps os vs ds} r => by
  induction r generalizing ds with
  | nil => intro _ e; cases e; rfl
  | @cons P Ps o os v vs r _ ih =>
    intro n e
    unfold kpL at e
    cases e1 : DL.kp o with
    | none => rw [e1] at e; simp at e
    | some d =>
      cases e2 : kpL os with
      | none => rw [e1, e2] at e; simp at e
      | some ds' =>
        rw [e1, e2] at e
        simp only [Option.some.injEq] at e
        subst e
        exact ⟨v, vs, rfl, r.kp s (fun p h => n p (List.mem_append_left _ (Option.mem_toList.mpr h))) e1, ih (fun p h => n p (List.mem_append_right _ h)) e2⟩
theorem EvA.kp (F : Fr G K S T B A ω H σ δ) (e : EvA G K S T B A ω H1 σ δ1 ω1 Ps os vs) {ds : List D} (q : kpL os = some ds) : RepL K H1 (Ow B ω1) ds vs :=
  e.rp.kp (fun a h => h.elim (fun z => .inl (.inl z)) .inr) (fun p hp z => by
    rcases z with z | ⟨i, z⟩
    · exact e.rp.nt p hp (F.bt p z)
    · exact (e.fr.sw i p z).1 (.inr hp)) q
def xTup (τs : DTA) : DT := fun Z δ Q => τs Z δ fun os δ' => kpLK os fun ds => ds.length ≤ 16777216 ∧ Q (.v (.tup ds)) δ'
def xLst (τs : DTA) : DT := fun Z δ Q => τs Z δ fun os δ' => kpLK os fun ds => ds.length ≤ 16777216 ∧ Q (.n ds) δ'
theorem mono_tup (m : MonoA τs) : Mono (xTup τs) := ⟨fun _ _ _ _ _ hz h q => m.m _ _ _ _ _ hz (fun _ _ q => kpLK_mono (fun _ q => ⟨q.1, h _ _ q.2⟩) q) q⟩
theorem mono_lst (m : MonoA τs) : Mono (xLst τs) := ⟨fun _ _ _ _ _ hz h q => m.m _ _ _ _ _ hz (fun _ _ q => kpLK_mono (fun _ q => ⟨q.1, h _ _ q.2⟩) q) q⟩
theorem de_tup {x1} (h : DA X G E es τs) : DE X G E (.Tuple es x1 pos) (xTup τs) := by
  refine ⟨PE.imp (pe_tup h.pa) fun σ H Q q => ?_, mono_tup h.mono⟩
  obtain ⟨S, T, B, A, ω, δ, Z, F, z, q⟩ := tD_to (mono_tup h.mono) q
  refine tA_of h.mono F z q fun os δ' vs H' ω' Ps q e => ?_
  obtain ⟨ds, e1, hl, q⟩ := kpLK_some q
  have r := e.kp F e1
  refine ⟨by rw [← r.length, sizeLine_eq]; exact hl, fun p hp => ?_⟩
  obtain ⟨P, ev⟩ := Gv.ev (e.drop F) e.ws (.tup hp r)
  exact q _ _ _ _ ev
theorem de_lst (h : DA X G E es τs) : DE X G E (.List es pos) (xLst τs) := by
  refine ⟨PE.imp (pe_lst h.pa) fun σ H Q q => ?_, mono_lst h.mono⟩
  obtain ⟨S, T, B, A, ω, δ, Z, F, z, q⟩ := tD_to (mono_lst h.mono) q
  refine tA_of h.mono F z q fun os δ' vs H' ω' Ps q e => ?_
  obtain ⟨ds, e1, hl, q⟩ := kpLK_some q
  have r := e.kp F e1
  refine ⟨by rw [← r.length, sizeLine_eq]; exact hl, fun p hp => ?_⟩
  obtain ⟨P, ev⟩ := Gv.ev (e.drop F) e.ws (.lst hp r)
  exact q _ _ _ _ ev
/-! ### one argument of a built-in, read -/
abbrev D1 := D → (Op → Prop) → Prop
structure M1 (ρ : D1) : Prop where
  m : ∀ (d : D) (P P' : Op → Prop), (∀ o, P o → P' o) → ρ d P → ρ d P'
structure CallD1 (X : Cx) (f : Value) (ρ : D1) : Prop where
  ok : ∃ r : List V → Hp → VK → Prop, CallR X f r ∧ ∀ {H : Hp} {O : Addr → Prop} {d : D} {v : V} {P : Op → Prop} {Q : VK}, OM O H → RepTop X.K H O d v → ρ d P → (∀ o v H', P o → Gv X.K H O o v H' → Q v H') → r [v] H Q
  mono : M1 ρ
def xUn (ρ : D1) (τ : DT) : DT := fun Z δ Q => τ Z δ fun o δ' => rdK o δ' fun d => ρ d fun o => Q o δ'
theorem mono_un {ρ : D1} (hm : M1 ρ) (m : Mono τ) : Mono (xUn ρ τ) := ⟨fun _ _ _ _ _ hz h q => m.m _ _ _ _ _ hz (fun _ _ q => rdK_mono (fun _ q => hm.m _ _ _ (fun _ q => h _ _ q) q) q) q⟩
theorem un_core {ρ : D1} {r : V → Hp → VK → Prop} {Q : VK} (m : Mono τ) (hv : ∀ {H : Hp} {O : Addr → Prop} {d : D} {v : V} {P : Op → Prop} {Q : VK}, OM O H → RepTop K H O d v → ρ d P → (∀ o v H', P o → Gv K H O o v H' → Q v H') → r v H Q)
    {Z : Ex → Prop} (F : Fr G K S T B A ω H σ δ) (z : EOk G K S T B Z E) (q : xUn ρ τ Z δ (tK G K S T B A ω σ Q)) : tD G K E τ σ H fun x H1 => r x H1 Q := by
  refine tD_of F z (m.m _ _ _ _ _ (fun _ z => z) (fun o δ' q v H' ω' P ev => ?_) q) m
  obtain ⟨d, e1, q⟩ := rdK_some q
  refine hv (ev.drop F).om (RepTop.sub (fun _ z => ow_less z) (ev.fr.rd ev.rp e1)) q fun o v H2 k g => ?_
  obtain ⟨P2, ev2⟩ := g.ev (ev.drop F) ev.ws
  exact k _ _ _ _ ev2
theorem de_callB1 {ρ : D1} {x : Str} {id : String} {p : Pos} (hc : CallD1 X (.builtin id) ρ) (hg : Gl X x) (hm : X.mg x = none) (hv : bootBuiltins x = some (.builtin id)) (he : DE X G E e τ) (hn : x ≠ "__name__" := by decide) (hdb : (x == ("__debug__" : Str)) = false := by decide)
    (hq : starEach [e] X.env = (false, eval e X.env) :: starEach [] X.env := by rfl) (hpl : (backTo pos (starEach [] X.env)).any (·.1) = false := by rfl) : DE X G E (.Call (.Name x p) [e] [] pos) (xUn ρ τ) := by
  obtain ⟨r, hr, hv'⟩ := hc.ok
  have m := mono_un hc.mono he.mono
  refine ⟨PE.imp (pe_callB hr hg hm hv (pa_cons he.pe pa_nil hq) hn hdb hq hpl) fun σ H Q h => ?_, m⟩
  obtain ⟨S, T, B, A, ω, δ, Z, F, z, q⟩ := tD_to m h
  exact un_core (r := fun v H Q => r [v] H Q) he.mono hv' F z q
theorem de_callT1 {ρ : D1} {x : Str} {id : String} {p : Pos} (hc : CallD1 X (.type id) ρ) (hg : Gl X x) (hm : X.mg x = none) (hv : bootBuiltins x = some (.type id)) (he : DE X G E e τ) (hn : x ≠ "__name__" := by decide) (hdb : (x == ("__debug__" : Str)) = false := by decide)
    (hq : starEach [e] X.env = (false, eval e X.env) :: starEach [] X.env := by rfl) (hpl : (backTo pos (starEach [] X.env)).any (·.1) = false := by rfl) : DE X G E (.Call (.Name x p) [e] [] pos) (xUn ρ τ) := by
  obtain ⟨r, hr, hv'⟩ := hc.ok
  have m := mono_un hc.mono he.mono
  refine ⟨PE.imp (pe_callTy hr hg hm hv (pa_cons he.pe pa_nil hq) hn hdb hq hpl) fun σ H Q h => ?_, m⟩
  obtain ⟨S, T, B, A, ω, δ, Z, F, z, q⟩ := tD_to m h
  exact un_core (r := fun v H Q => r [v] H Q) he.mono hv' F z q
structure UnD (X : Cx) (f : Value → Sem Value) (ρ : D1) : Prop where
  ok : ∃ r : V → Hp → VK → Prop, UnR X f r ∧ ∀ {H : Hp} {O : Addr → Prop} {d : D} {v : V} {P : Op → Prop} {Q : VK}, OM O H → RepTop X.K H O d v → ρ d P → (∀ o v H', P o → Gv X.K H O o v H' → Q v H') → r v H Q
  mono : M1 ρ
theorem de_un {op : UnaryOp} {ρ : D1} (ho : UnD X (unaryOp op) ρ) (ha : DE X G E a τ) : DE X G E (.UnaryOp op a pos) (xUn ρ τ) := by
  obtain ⟨r, hr, hv'⟩ := ho.ok
  have m := mono_un ho.mono ha.mono
  refine ⟨PE.imp (pe_un hr ha.pe) fun σ H Q h => ?_, m⟩
  obtain ⟨S, T, B, A, ω, δ, Z, F, z, q⟩ := tD_to m h
  exact un_core ha.mono hv' F z q
/-- a[b] -/
structure IxD (X : Cx) (ρ : D2) : Prop where
  ok : ∃ r : R2, IxR X r ∧ ∀ {H : Hp} {O : Addr → Prop} {d1 d2 : D} {v1 v2 : V} {P : Op → Prop} {Q : VK}, OM O H → RepTop X.K H O d1 v1 → RepTop X.K H O d2 v2 → ρ d1 d2 P → (∀ o v H', P o → Gv X.K H O o v H' → Q v H') → r v1 v2 H Q
  mono : M2 ρ
theorem de_ix {ρ : D2} (ho : IxD X ρ) (ha : DE X G E a τa) (hb : DE X G E b τb) (hs : PlainIx b := by exact fun _ _ => rfl) : DE X G E (.Subscript a b pos) (xOp ρ τa τb) := by
  have m : Mono (xOp ρ τa τb) := mono_op ho.mono ha.mono hb.mono
  obtain ⟨r, hr, hv⟩ := ho.ok
  refine ⟨PE.imp (pe_ix hr ha.pe hb.pe hs) fun σ H Q h => ?_, m⟩
  obtain ⟨S, T, B, A, ω, δ, Z, F, z, q⟩ := tD_to m h
  refine two_then (r := r) (R := fun d1 d2 δ2 => ρ d1 d2 fun o => tK G X.K S T B A ω σ Q o δ2) ha.mono hb.mono F z q fun {H2 ω2 δ2 d1 d2 v1 v2} F2 w t1 t2 q => hv F2.om t1 t2 q fun o v H' k g => ?_
  obtain ⟨P, ev⟩ := g.ev F2 w
  exact k v H' ω2 P ev
/-- a built-in of two arguments, both read -/
structure CallD2 (X : Cx) (f : Value) (ρ : D2) : Prop where
  ok : ∃ r : List V → Hp → VK → Prop, CallR X f r ∧ ∀ {H : Hp} {O : Addr → Prop} {d1 d2 : D} {v1 v2 : V} {P : Op → Prop} {Q : VK}, OM O H → RepTop X.K H O d1 v1 → RepTop X.K H O d2 v2 → ρ d1 d2 P → (∀ o v H', P o → Gv X.K H O o v H' → Q v H') → r [v1, v2] H Q
  mono : M2 ρ
theorem de_callB2 {ρ : D2} {x : Str} {id : String} {p : Pos} (hc : CallD2 X (.builtin id) ρ) (hg : Gl X x) (hm : X.mg x = none) (hv : bootBuiltins x = some (.builtin id)) (ha : DE X G E a τa) (hb : DE X G E b τb) (hn : x ≠ "__name__" := by decide) (hdb : (x == ("__debug__" : Str)) = false := by decide)
    (hq : starEach [a, b] X.env = (false, eval a X.env) :: starEach [b] X.env := by rfl) (hq2 : starEach [b] X.env = (false, eval b X.env) :: starEach [] X.env := by rfl) (hpl : (backTo pos (starEach [b] X.env)).any (·.1) = false := by rfl) : DE X G E (.Call (.Name x p) [a, b] [] pos) (xOp ρ τa τb) := by
  obtain ⟨r, hr, hv'⟩ := hc.ok
  have m : Mono (xOp ρ τa τb) := mono_op hc.mono ha.mono hb.mono
  refine ⟨PE.imp (pe_callB hr hg hm hv (pa_cons ha.pe (pa_cons hb.pe pa_nil hq2) hq) hn hdb hq hpl) fun σ H Q h => ?_, m⟩
  obtain ⟨S, T, B, A, ω, δ, Z, F, z, q⟩ := tD_to m h
  refine two_then (r := fun x y H Q => r [x, y] H Q) (R := fun d1 d2 δ2 => ρ d1 d2 fun o => tK G X.K S T B A ω σ Q o δ2) ha.mono hb.mono F z q fun {H2 ω2 δ2 d1 d2 v1 v2} F2 w t1 t2 q => hv' F2.om t1 t2 q fun o v H' k g => ?_
  obtain ⟨P, ev⟩ := g.ev F2 w
  exact k v H' ω2 P ev
end
end DL

set_option Elab.async false
set_option linter.all false
set_option maxRecDepth 100000
namespace DL
open PySem L2
/-! ### calls of defs -/
abbrev FSp := List D → (D → Prop) → (Ex → Prop) → Prop
structure MonoF (φ : FSp) : Prop where
  m : ∀ (ds : List D) (Q Q' : D → Prop) (Z Z' : Ex → Prop), (∀ d, Q d → Q' d) → (∀ x, Z x → Z' x) → φ ds Q Z → φ ds Q' Z'
def Grow (C : Addr → Prop) (H H' : Hp) : Prop := Keep C H H' ∧ ∀ a, nT H a → nT H' a
def spD (G : Amb) (K : PySem.W.Frag) (φ : FSp) : Sp := fun vs H Q E => ∃ B ds, G.inv H ∧ (∀ a, G.C a → B a) ∧ OM B H ∧ RepL K H B ds vs ∧
  φ ds (fun d => ∀ v H', G.inv H' → Grow G.C H H' → Rep K H' B d v → Q v H') fun x => ∀ H', G.inv H' → Grow G.C H H' → ExR K H' B E x
theorem ExR.sub {K : PySem.W.Frag} {H : Hp} {O O' : Addr → Prop} {E : XK} {x : Ex} (s : ∀ a, O a → O' a) (h : ExR K H O E x) : ExR K H O' E x := by
  unfold ExR at h ⊢
  cases e : x.fld with
  | none => rw [e] at h; exact h
  | some fd =>
    obtain ⟨f, d⟩ := fd
    rw [e] at h
    exact fun dx v e1 r => h dx v e1 (Rep.carry (Carry.sub s) r)
def xCall (φ : FSp) (τs : DTA) : DT := fun Z δ Q => τs Z δ fun os δ' => kpLK os fun ds => φ ds (fun d => Q (.v d) δ') Z
theorem mono_call {φ : FSp} {τs : DTA} (mf : MonoF φ) (m : MonoA τs) : Mono (xCall φ τs) := ⟨fun _ _ _ _ _ hz h q => m.m _ _ _ _ _ hz (fun _ _ q => kpLK_mono (fun _ q => mf.m _ _ _ _ _ (fun _ q => h _ _ q) hz q) q) q⟩
section
variable {X : Cx} {G : Amb} {E : XK} {e : Expr} {es : List Expr} {φ : FSp} {τs : DTA} {p pos : Pos} {k : Nat} {f : Addr} {fd : FuncData} {ps : List Str} {x : Str}
/-- what a caller owes and gets -/
theorem call_core {S : Addr → HO → Prop} {T B : Addr → Prop} {A : Nat → Option Addr} {ω ω1 : List (Option Addr)} {H1 : Hp} {σ : St} {δ1 : Env} {Z : Ex → Prop} {Q : VK} {ds : List D} {vs : List V} (mf : MonoF φ) (F1 : Fr G X.K S T B A ω1 H1 σ δ1) (w : WSub ω1 ω) (z : EOk G X.K S T B Z E)
    (r : RepL X.K H1 (Ow B ω1) ds vs) (q : φ ds (fun d => tK G X.K S T B A ω σ Q (.v d) δ1) Z) : spD G X.K φ vs H1 Q E := by
  refine ⟨Ow B ω1, ds, F1.inv, fun a c => .inl (F1.cb a c), F1.om, r, mf.m _ _ _ _ _ (fun d q v H' i g rd => ?_) (fun x hx H' i g => ?_) q⟩
  · have F2 : Fr G X.K S T B A ω1 H' σ δ1 := F1.grow g.1 i (fun a o h => g.1 a o (F1.st a o h) (F1.sc a o h).1 (F1.sc a o h).2) fun a h => g.2 a (F1.dm a h)
    exact q v H' ω1 none ⟨by rw [bp_none, bp_none]; exact F2, w, rfl, by rw [bp_none]; exact rd⟩
  · exact (z x H' hx i (fun a o h => g.1 a o (F1.st a o h) (F1.sc a o h).1 (F1.sc a o h).2) fun a h => g.2 a (F1.dm a h)).sub fun a h => .inl h
theorem de_call (F : FnOk X.prog X.w X.K X.mg X.base (L2.CX X.prog X.w) k f fd ps (spD G X.K φ)) (mf : MonoF φ) (hr : Room k X.A) (hg : Gl X x) (hm : X.mg x = some (.ref f)) (hk : PySem.W.keepIn X.K (.ref f) = true) (hb : Binds X.K fd ps []) (hx : Passes (L2.CX X.prog X.w) X E)
    (ha : DA X G E (e :: es) τs) (hdb : (x == ("__debug__" : Str)) = false := by decide) (he : starEach (e :: es) X.env = (false, eval e X.env) :: starEach es X.env := by rfl) (hpl : (backTo pos (starEach es X.env)).any (·.1) = false := by rfl) :
    DE X G E (.Call (.Name x p) (e :: es) [] pos) (xCall φ τs) := by
  have m := mono_call mf ha.mono
  refine ⟨PE.imp (pe_call F hr hg hm hk hb .nil hx ha.pa hdb he hpl) fun σ H Q h => ?_, m⟩
  obtain ⟨S, T, B, A, ω, δ, Z, Fs, z, q⟩ := tD_to m h
  refine tA_of ha.mono Fs z q fun os δ' vs H' ω' Ps q ev => ?_
  obtain ⟨ds, e1, q⟩ := kpLK_some q
  show spD G X.K φ (vs ++ []) H' Q E
  rw [List.append_nil]
  exact call_core mf (ev.drop Fs) ev.ws z (ev.kp Fs e1) q
theorem de_call0 (F : FnOk X.prog X.w X.K X.mg X.base (L2.CX X.prog X.w) k f fd ps (spD G X.K φ)) (mf : MonoF φ) (hr : Room k X.A) (hg : Gl X x) (hm : X.mg x = some (.ref f)) (hk : PySem.W.keepIn X.K (.ref f) = true) (hb : Binds X.K fd ps []) (hx : Passes (L2.CX X.prog X.w) X E)
    (hdb : (x == ("__debug__" : Str)) = false := by decide) : DE X G E (.Call (.Name x p) [] [] pos) (xCall φ xNilA) := by
  have m := mono_call mf mono_nilA
  refine ⟨PE.imp (pe_call0 F hr hg hm hk hb .nil hx hdb) fun σ H Q h => ?_, m⟩
  obtain ⟨S, T, B, A, ω, δ, Z, Fs, z, q⟩ := tD_to m h
  have q : φ [] (fun d => tK G X.K S T B A ω σ Q (.v d) δ) Z := q
  show spD G X.K φ ([] ++ []) H Q E
  exact call_core (ds := []) (vs := []) mf Fs .refl z rfl q
end
/-! ### statements -/
structure DEnds where
  nx : Env → Prop
  rt : D → Prop
  bk : Env → Prop
  ct : Env → Prop
  ex : Ex → Prop
abbrev DSt := DEnds → Env → Prop
structure DEnds.Le (F F' : DEnds) : Prop where
  nx : ∀ δ, F.nx δ → F'.nx δ
  rt : ∀ d, F.rt d → F'.rt d
  bk : ∀ δ, F.bk δ → F'.bk δ
  ct : ∀ δ, F.ct δ → F'.ct δ
  ex : ∀ x, F.ex x → F'.ex x
theorem DEnds.Le.refl {F : DEnds} : F.Le F := ⟨fun _ h => h, fun _ h => h, fun _ h => h, fun _ h => h, fun _ h => h⟩
structure MonoS (τ : DSt) : Prop where
  m : ∀ (F F' : DEnds) (δ : Env), F.Le F' → τ F δ → τ F' δ
structure EndsOk (G : Amb) (K : PySem.W.Frag) (S : Addr → HO → Prop) (T B : Addr → Prop) (A : Nat → Option Addr) (F : DEnds) (D : Ends) : Prop where
  nx : ∀ δ' σ' H' ω', Fr G K S T B A ω' H' σ' δ' → F.nx δ' → D.nx σ' H'
  bk : ∀ δ' σ' H' ω', Fr G K S T B A ω' H' σ' δ' → F.bk δ' → D.bk σ' H'
  ct : ∀ δ' σ' H' ω', Fr G K S T B A ω' H' σ' δ' → F.ct δ' → D.ct σ' H'
  rt : ∀ d v H', G.inv H' → (∀ a o, S a o → H' a = some o) → (∀ a, T a → nT H' a) → Rep K H' B d v → F.rt d → D.rt v H'
def sD (G : Amb) (K : PySem.W.Frag) (E : XK) (τ : DSt) : TS := fun D σ H => ∃ S T B A ω δ F, Fr G K S T B A ω H σ δ ∧ EOk G K S T B F.ex E ∧ EndsOk G K S T B A F D ∧ τ F δ
structure DS (X : Cx) (G : Amb) (E : XK) (st : Stmt) (τ : DSt) : Prop where
  ps : PS X st (sD G X.K E τ)
  mono : MonoS τ
structure DSs (X : Cx) (G : Amb) (E : XK) (st : List Stmt) (τ : DSt) : Prop where
  ps : PSs X st (sD G X.K E τ)
  mono : MonoS τ
theorem PS.imp {X : Cx} {e : Stmt} {t t' : TS} (h : PS X e t) (i : ∀ D σ H, t' D σ H → t D σ H) : PS X e t' := ⟨fun pins s σ H D I q => h.run pins s σ H D I (i D σ H q)⟩
theorem PSs.imp {X : Cx} {e : List Stmt} {t t' : TS} (h : PSs X e t) (i : ∀ D σ H, t' D σ H → t D σ H) : PSs X e t' := ⟨fun pins s σ H D I q => h.run pins s σ H D I (i D σ H q)⟩
def xNext : DSt := fun F δ => F.nx δ
def xSeq (τ τ' : DSt) : DSt := fun F δ => τ { F with nx := τ' F } δ
def xDrop (τ : DT) : DSt := fun F δ => τ F.ex δ fun _ δ' => F.nx δ'
def xRet (τ : DT) : DSt := fun F δ => τ F.ex δ fun o _ => kpK o F.rt
def xRetN : DSt := fun F _ => F.rt .non
def xIf (θ : DTT) (τ τ' : DSt) : DSt := fun F δ => θ F.ex δ fun b δ' => if b = true then τ F δ' else τ' F δ'
def xBrk : DSt := fun F δ => F.bk δ
def xCnt : DSt := fun F δ => F.ct δ
def xRaise (x : Ex) : DSt := fun F _ => F.ex x
section
variable {X : Cx} {G : Amb} {E : XK} {st : Stmt} {sts : List Stmt} {e c : Expr} {τ τ' : DSt} {t : DT} {θ : DTT} {pos : Pos}
theorem mono_next : MonoS xNext := ⟨fun _ _ _ l q => l.nx _ q⟩
theorem mono_seq (m : MonoS τ) (m' : MonoS τ') : MonoS (xSeq τ τ') := ⟨fun F F' δ l q => m.m { F with nx := τ' F } { F' with nx := τ' F' } δ ⟨fun δ q => m'.m F F' δ l q, l.rt, l.bk, l.ct, l.ex⟩ q⟩
theorem mono_drop (m : Mono t) : MonoS (xDrop t) := ⟨fun _ _ _ l q => m.m _ _ _ _ _ l.ex (fun _ _ q => l.nx _ q) q⟩
theorem mono_ret (m : Mono t) : MonoS (xRet t) := ⟨fun _ _ _ l q => m.m _ _ _ _ _ l.ex (fun _ _ q => kpK_mono l.rt q) q⟩
theorem mono_retN : MonoS xRetN := ⟨fun _ _ _ l q => l.rt _ q⟩
theorem mono_if (mt : MonoT θ) (m : MonoS τ) (m' : MonoS τ') : MonoS (xIf θ τ τ') := ⟨fun _ _ _ l q => mt.m _ _ _ _ _ l.ex (fun b _ q => by
  cases b with
  | true => exact m.m _ _ _ l q
  | false => exact m'.m _ _ _ l q) q⟩
theorem mono_brk : MonoS xBrk := ⟨fun _ _ _ l q => l.bk _ q⟩
theorem mono_cnt : MonoS xCnt := ⟨fun _ _ _ l q => l.ct _ q⟩
theorem mono_raise {x : Ex} : MonoS (xRaise x) := ⟨fun _ _ _ l q => l.ex _ q⟩
theorem sD_of {S : Addr → HO → Prop} {T B : Addr → Prop} {A : Nat → Option Addr} {ω : List (Option Addr)} {H : Hp} {σ : St} {δ : Env} {F : DEnds} {D : Ends} {K : PySem.W.Frag} (Fs : Fr G K S T B A ω H σ δ) (z : EOk G K S T B F.ex E) (en : EndsOk G K S T B A F D) (q : τ F δ) : sD G K E τ D σ H :=
  ⟨S, T, B, A, ω, δ, F, Fs, z, en, q⟩
theorem dss_nil : DSs X G E [] xNext := ⟨PSs.imp pss_nil fun D σ H h => by
  obtain ⟨S, T, B, A, ω, δ, F, Fs, z, en, q⟩ := h
  exact en.nx _ _ _ _ Fs q, mono_next⟩
theorem dss_one (h : DS X G E st τ) : DSs X G E [st] τ := ⟨pss_one h.ps, h.mono⟩
theorem dss_cons (h : DS X G E st τ) (h' : DSs X G E sts τ') : DSs X G E (st :: sts) (xSeq τ τ') := ⟨PSs.imp (pss_cons h.ps h'.ps) fun D σ H q => by
  obtain ⟨S, T, B, A, ω, δ, F, Fs, z, en, q⟩ := q
  exact sD_of (F := { F with nx := τ' F }) Fs z ⟨fun δ' σ' H' ω' f q => sD_of f z en q, en.bk, en.ct, en.rt⟩ q, mono_seq h.mono h'.mono⟩
theorem ds_pass : DS X G E (.Pass pos) xNext := ⟨PS.imp ps_pass fun D σ H h => by
  obtain ⟨S, T, B, A, ω, δ, F, Fs, z, en, q⟩ := h
  exact en.nx _ _ _ _ Fs q, mono_next⟩
theorem ds_brk : DS X G E (.Break pos) xBrk := ⟨PS.imp ps_break fun D σ H h => by
  obtain ⟨S, T, B, A, ω, δ, F, Fs, z, en, q⟩ := h
  exact en.bk _ _ _ _ Fs q, mono_brk⟩
theorem ds_cnt : DS X G E (.Continue pos) xCnt := ⟨PS.imp ps_continue fun D σ H h => by
  obtain ⟨S, T, B, A, ω, δ, F, Fs, z, en, q⟩ := h
  exact en.ct _ _ _ _ Fs q, mono_cnt⟩
theorem ds_expr (he : DE X G E e t) (hs : swapsWith e none pos.line X.env = pure false := by rfl) : DS X G E (.Expr e pos) (xDrop t) := ⟨PS.imp (ps_expr he.pe hs) fun D σ H h => by
  obtain ⟨S, T, B, A, ω, δ, F, Fs, z, en, q⟩ := h
  exact tD_of Fs z (he.mono.m _ _ _ _ _ (fun _ z => z) (fun o δ' q v H' ω' P ev => en.nx _ _ _ _ (ev.drop Fs) q) q) he.mono, mono_drop he.mono⟩
theorem ds_ret (he : DE X G E e t) : DS X G E (.Return (some e) pos) (xRet t) := ⟨PS.imp (ps_ret he.pe) fun D σ H h => by
  obtain ⟨S, T, B, A, ω, δ, F, Fs, z, en, q⟩ := h
  refine tD_of Fs z (he.mono.m _ _ _ _ _ (fun _ z => z) (fun o δ' q v H' ω' P ev => ?_) q) he.mono
  obtain ⟨d, e1, q⟩ := kpK_some q
  have f := ev.drop Fs
  exact en.rt d v H' f.inv f.st f.dm (Rep.carry (Carry.sub fun a h => .inl h) (ev.kp Fs e1)) q, mono_ret he.mono⟩
theorem ds_retN : DS X G E (.Return none pos) xRetN := ⟨PS.imp ps_retN fun D σ H h => by
  obtain ⟨S, T, B, A, ω, δ, F, Fs, z, en, q⟩ := h
  exact en.rt .non .non H Fs.inv Fs.st Fs.dm rfl q, mono_retN⟩
theorem ds_if {a b : List Stmt} (hc : DB X G E c θ) (ha : DSs X G E a τ) (hb : DSs X G E b τ') : DS X G E (.If c a b pos) (xIf θ τ τ') := ⟨PS.imp (ps_if hc.pt ha.ps hb.ps) fun D σ H h => by
  obtain ⟨S, T, B, A, ω, δ, F, Fs, z, en, q⟩ := h
  refine tT_of hc.mono Fs z q fun b δ' H' ω' q f w => ?_
  cases b with
  | true => exact sD_of f z en q
  | false => exact sD_of f z en q, mono_if hc.mono ha.mono hb.mono⟩
/-- raise X(), X an own class without fields -/
theorem pmk_own0 {C : Addr} {bmB : List Value} {B newId initId : String} {x : Str} {p : Pos} (F : ExcBaseFacts B newId initId bmB) (q : PySem.W.excIn X.K C bmB newId = true) (gC : X.mg x = some (.ref C)) (kC : PySem.W.keepIn X.K (.ref C) = true) (r : Raises X (.ref C)) (hg : Gl X x)
    (hdb : (x == ("__debug__" : Str)) = false := by decide) : PMk X (.Call (.Name x p) [] [] pos) (fun _ H Q => Q (.ref C) none H) := by
  intro pins s σ H Q I h
  refine wpAny_Call_Name_kw (ld_glob I hg gC ?_ hdb)
  refine PySem.W.callWith_K0 I.kIn kC ?_
  show wpAny _ _ (call (.ref C) []) _ _ _
  obtain ⟨bm, N, nm, qn, bs, hdct, sn, sub, ab, col, dd, k0, k1, k2, k3, k5, mN, hC, hN, hni, T⟩ := exc_obj I.kIn q
  refine wpAny_call_exc_subT F T hC hN hni (fun h' e hm => ?_) (by show 0 ≤ sizeLine; omega)
  exact mk_of I hm r h (I.hok.gone hm.new)
theorem ds_raise {C : Addr} {x : Str} {p : Pos} (hc : X.calm = true) (tk : Takes X (fun cls d _ H => E cls d H)) (q : PySem.W.excIn X.K C [.type "ValueError", .type "Exception", .type "BaseException", .type "object"] "ValueError.__new__" = true) (gC : X.mg x = some (.ref C)) (kC : PySem.W.keepIn X.K (.ref C) = true)
    (h1 : PySem.W.subIn X.K (.ref C) (.type "BaseException") = some true) (h2 : PySem.W.typeIn X.K (.ref C) = some (.type "type")) (hg : Gl X x) (hdb : (x == ("__debug__" : Str)) = false := by decide) {pos2 : Pos} :
    DS X G E (.Raise (some (.Call (.Name x p) [] [] pos)) none pos2) (xRaise ⟨C, none⟩) := ⟨PS.imp (ps_raise hc tk (pmk_own0 PySem.F.excBase_ValueError q gC kC (raises_own h1 h2) hg hdb)) fun D σ H h => by
  obtain ⟨S, T, B, A, ω, δ, F, Fs, z, en, q⟩ := h
  exact z _ H q Fs.inv Fs.st Fs.dm, mono_raise⟩
end
/-! ### targets -/
abbrev DTg := Op → Env → (Env → Prop) → Prop
structure MonoG (γ : DTg) : Prop where
  m : ∀ (o : Op) (δ : Env) (Q Q' : Env → Prop), (∀ δ', Q δ' → Q' δ') → γ o δ Q → γ o δ Q'
structure Stat (G : Amb) (S : Addr → HO → Prop) (T B : Addr → Prop) (A : Nat → Option Addr) : Prop where
  cb : ∀ a, G.C a → B a
  bt : ∀ a, B a → T a
  sT : ∀ a o, S a o → T a
  sc : ∀ a o, S a o → ¬ G.C a ∧ NT o
  al : ∀ i a, A i = some a → B a
/-- the slots but these are as they were; nothing else is ours that was not -/
def SameBut (is : List Nat) (σ σ' : St) (ω ω' : List (Option Addr)) : Prop := σ'.length = σ.length ∧ (∀ j, j ∉ is → σ'[j]? = σ[j]?) ∧ ∀ (j : Nat) a, j ∉ is → ω'[j]? = some (some a) → ω[j]? = some (some a)
theorem SameBut.refl {is : List Nat} {σ : St} {ω : List (Option Addr)} : SameBut is σ σ ω ω := ⟨rfl, fun _ _ => rfl, fun _ _ _ h => h⟩
theorem SameBut.ws {is : List Nat} {σ : St} {ω ω' : List (Option Addr)} (w : WSub ω' ω) : SameBut is σ σ ω ω' := ⟨rfl, fun _ _ => rfl, fun j a _ h => w j a h⟩
theorem SameBut.trans {is js : List Nat} {σ σ1 σ2 : St} {ω ω1 ω2 : List (Option Addr)} (a : SameBut is σ σ1 ω ω1) (b : SameBut js σ1 σ2 ω1 ω2) : SameBut (is ++ js) σ σ2 ω ω2 :=
  ⟨b.1.trans a.1, fun j h => (b.2.1 j fun z => h (List.mem_append_right _ z)).trans (a.2.1 j fun z => h (List.mem_append_left _ z)), fun j x h e => a.2.2 j x (fun z => h (List.mem_append_left _ z)) (b.2.2 j x (fun z => h (List.mem_append_right _ z)) e)⟩
def tG (G : Amb) (K : PySem.W.Frag) (is : List Nat) (γ : DTg) : TG := fun v σ H Q => ∃ S T B A ω δ P o, Stat G S T B A ∧ Fr G K S (Bp T P) (Bp B P) A ω H σ δ ∧ ROp K T H (Ow (Bp B P) ω) σ P o v ∧ γ o δ fun δ' => ∀ σ' H' ω', Fr G K S T B A ω' H' σ' δ' → SameBut is σ σ' ω ω' → Q σ' H'
structure DG (X : Cx) (G : Amb) (tg : Expr) (is : List Nat) (γ : DTg) : Prop where
  pg : PG X tg (tG G X.K is γ)
  mono : MonoG γ
def xName (i : Nat) : DTg := fun o δ Q => match o with
  | .v d => Q (δ.set i (.val d))
  | .n ds => Q (δ.set i (.own ds))
  | .nd ds => Q (δ.set i (.ownD ds))
  | .nt ds => Q (δ.set i (.ownT ds))
  | .b _ => False
abbrev DTgs := List Op → Env → (Env → Prop) → Prop
/-- (a, b, ..) = a tuple -/
def gsE : List DTg → List D → Env → (Env → Prop) → Prop
  | [], [], δ, Q => Q δ
  | γ :: γs, d :: ds, δ, Q => γ (.v d) δ fun δ' => gsE γs ds δ' Q
  | _, _, _, _ => False
def xTupG (γs : List DTg) : DTg := fun o δ Q => match o with
  | .v (.tup ds) => ds.length = γs.length ∧ gsE γs ds δ Q
  | _ => False
theorem Fr.stat {G : Amb} {K : PySem.W.Frag} {S : Addr → HO → Prop} {T B : Addr → Prop} {A : Nat → Option Addr} {ω : List (Option Addr)} {H : Hp} {σ : St} {δ : Env} (F : Fr G K S T B A ω H σ δ) : Stat G S T B A := ⟨F.cb, F.bt, F.sT, F.sc, F.al⟩
section
variable {X : Cx} {G : Amb} {E : XK} {pos : Pos} {γ : DTg} {K : PySem.W.Frag} {S : Addr → HO → Prop} {T B : Addr → Prop} {A : Nat → Option Addr} {ω : List (Option Addr)} {H : Hp} {σ : St} {δ : Env} {P : Option Addr} {o : Op} {v : V}
theorem mono_name {i : Nat} : MonoG (xName i) := ⟨fun o δ Q Q' h q => by cases o <;> first | exact h _ q | exact q⟩
theorem set_get {α : Type} {l : List α} {i j : Nat} {x y : α} (h : (l.set i x)[j]? = some y) : (j = i ∧ y = x ∧ i < l.length) ∨ (j ≠ i ∧ l[j]? = some y) := by
  by_cases hj : j = i
  · subst hj
    have hl : j < l.length := by
      have := (List.getElem?_eq_some_iff.mp h).1
      rwa [List.length_set] at this
    rw [List.getElem?_set_self hl] at h; cases h
    exact .inl ⟨rfl, rfl, hl⟩
  · rw [List.getElem?_set_ne (Ne.symm hj)] at h
    exact .inr ⟨hj, h⟩
/-- a slot is stored -/
theorem Fr.put {i : Nat} {s : Sl} {w : Option Addr} (St : Stat G S T B A) (F : Fr G K S (Bp T P) (Bp B P) A ω H σ δ) (hw : ∀ a, w = some a → P = some a ∧ ¬ T a ∧ ∃ o, H a = some o ∧ Mu o)
    (hs : i < δ.length → SlOk K S A H (Ow B (ω.set i w)) i (some (some v)) (some w) s) : Fr G K S T B A (ω.set i w) H (σ.set i (some v)) (δ.set i s) := by
  have sub : ∀ a, Ow B (ω.set i w) a → Ow (Bp B P) ω a := fun a h => by
    rcases h with h | ⟨j, h⟩
    · exact .inl (.inl h)
    · rcases set_get h with ⟨_, e, _⟩ | ⟨_, h⟩
      · exact .inl (.inr (hw a e.symm).1)
      · exact .inr ⟨j, h⟩
  refine ⟨F.inv, St.cb, St.bt, St.sT, St.sc, St.al, fun a h => F.bm a (.inl h), fun a h => F.dm a (.inl h), F.st, fun j a h => ?_, fun j k a h1 h2 => ?_, fun j a h => ?_, by rw [List.length_set, List.length_set]; exact F.len, by rw [List.length_set, List.length_set]; exact F.lw, fun j u h => ?_⟩
  · rcases set_get h with ⟨_, e, _⟩ | ⟨_, h⟩
    · obtain ⟨_, n, _⟩ := hw a e.symm
      exact ⟨fun z => n (St.bt a z), fun o z => n (St.sT a o z)⟩
    · exact ⟨fun z => (F.sw j a h).1 (.inl z), (F.sw j a h).2⟩
  · rcases set_get h1 with ⟨e1, e, _⟩ | ⟨n1, h1⟩
    · rcases set_get h2 with ⟨e2, _, _⟩ | ⟨n2, h2⟩
      · rw [e1, e2]
      · exact ((F.sw k a h2).1 (.inr (hw a e.symm).1)).elim
    · rcases set_get h2 with ⟨e2, e, _⟩ | ⟨n2, h2⟩
      · exact ((F.sw j a h1).1 (.inr (hw a e.symm).1)).elim
      · exact F.inj j k a h1 h2
  · rcases set_get h with ⟨_, e, _⟩ | ⟨_, h⟩
    · exact (hw a e.symm).2.2
    · exact F.wm j a h
  · rcases set_get h with ⟨rfl, rfl, hl⟩ | ⟨hn, h⟩
    · have h1 : j < σ.length := by rw [F.len]; exact hl
      have h2 : j < ω.length := by rw [F.lw]; exact hl
      rw [List.getElem?_set_self h1, List.getElem?_set_self h2]
      exact hs hl
    · rw [List.getElem?_set_ne (Ne.symm hn), List.getElem?_set_ne (Ne.symm hn)]
      exact (F.slot j u h).carry (Carry.sub sub) (fun _ _ z => z) fun _ _ _ z _ => z
theorem ow_put {i : Nat} {w : Option Addr} (hw : ∀ a, w = some a → P = some a) : ∀ a, Ow B (ω.set i w) a → Ow (Bp B P) ω a := fun a h => by
  rcases h with h | ⟨j, h⟩
  · exact .inl (.inl h)
  · rcases set_get h with ⟨_, e, _⟩ | ⟨_, h⟩
    · exact .inl (.inr (hw a e.symm))
    · exact .inr ⟨j, h⟩
theorem Fr.putOp {i : Nat} {Q : Env → Prop} (St : Stat G S T B A) (F : Fr G K S (Bp T P) (Bp B P) A ω H σ δ) (r : ROp K T H (Ow (Bp B P) ω) σ P o v) (q : xName i o δ Q) : ∃ ω' δ', Fr G K S T B A ω' H (σ.set i (some v)) δ' ∧ SameBut [i] σ (σ.set i (some v)) ω ω' ∧ Q δ' := by
  have sb : ∀ w, SameBut [i] σ (σ.set i (some v)) ω (ω.set i w) := fun w => ⟨List.length_set, fun j h => by rw [List.getElem?_set_ne]; simpa [eq_comm] using h, fun j a h e => by rw [List.getElem?_set_ne] at e; exact e; simpa [eq_comm] using h⟩
  cases o with
  | v d =>
    obtain ⟨rfl, r⟩ := r
    exact ⟨_, _, F.put (s := .val d) (w := none) St (fun a h => by cases h) (fun _ => ⟨rfl, v, rfl, Rep.carry (Carry.sub (ow_put fun a h => by cases h)) r⟩), sb _, q⟩
  | b j => exact q.elim
  | n ds =>
    obtain ⟨p, vs, rfl, rfl, n, e, r⟩ := r
    exact ⟨_, _, F.put (s := .own ds) (w := some p) St (fun a h => by cases h; exact ⟨rfl, n, _, e, trivial⟩) (fun _ => ⟨p, vs, rfl, rfl, e, RepL.carry (Carry.sub (ow_put fun a h => h)) r⟩), sb _, q⟩
  | nd ds =>
    obtain ⟨p, vs, rfl, rfl, n, e, r⟩ := r
    exact ⟨_, _, F.put (s := .ownD ds) (w := some p) St (fun a h => by cases h; exact ⟨rfl, n, _, e, trivial⟩) (fun _ => ⟨p, vs, rfl, rfl, e, RepK.carry (Carry.sub (ow_put fun a h => h)) r⟩), sb _, q⟩
  | nt ds =>
    obtain ⟨p, vs, rfl, rfl, n, e, r⟩ := r
    exact ⟨_, _, F.put (s := .ownT ds) (w := some p) St (fun a h => by cases h; exact ⟨rfl, n, _, e, trivial⟩) (fun _ => ⟨p, vs, rfl, rfl, e, RepT.carry (Carry.sub (ow_put fun a h => h)) r⟩), sb _, q⟩
theorem PG.imp {X : Cx} {e : Expr} {t t' : TG} (h : PG X e t) (i : ∀ v σ H Q, t' v σ H Q → t v σ H Q) : PG X e t' := ⟨fun pins s σ H v u Q I r q => h.run pins s σ H v u Q I r (i v σ H Q q)⟩
theorem dg_name {i : Nat} {x : Str} (hN : X.N.Nodup) (hi : X.N[i]? = some x) (hx : Loc X.env.scope x) (hf : X.fn x = true ∨ X.env.scope.names.lookup x = some .local := by first | exact .inl rfl | exact .inr rfl | assumption) : DG X G (.Name x pos) [i] (xName i) := ⟨PG.imp (pg_name hN hi hx hf) fun v σ H Q h => by
  obtain ⟨S, T, B, A, ω, δ, P, o, St, F, r, q⟩ := h
  obtain ⟨ω', δ', F', sb, q⟩ := F.putOp St r q
  exact q _ _ _ F' sb, mono_name⟩
/-- name = value -/
def xAsg (t : DT) (γ : DTg) : DSt := fun F δ => t F.ex δ fun o δ' => γ o δ' F.nx
theorem mono_asg {t : DT} (m : Mono t) (mg : MonoG γ) : MonoS (xAsg t γ) := ⟨fun _ _ _ l q => m.m _ _ _ _ _ l.ex (fun _ _ q => mg.m _ _ _ _ l.nx q) q⟩
theorem ds_asg {tg e : Expr} {t : DT} {is : List Nat} (he : DE X G E e t) (hg : DG X G tg is γ) (hs : swapsWithSole [tg] e pos.line X.env = pure false := by rfl) (hw : swappedStores [tg] e X.env = pure none := by rfl)
    (h1 : (assignEach [tg] X.env).map (·.2) = [assign tg X.env] := by rfl) : DS X G E (.Assign [tg] e pos) (xAsg t γ) := ⟨PS.imp (ps_asg he.pe hg.pg hs hw h1) fun D σ H h => by
  obtain ⟨S, T, B, A, ω, δ, F, Fs, z, en, q⟩ := h
  refine tD_of Fs z (he.mono.m _ _ _ _ _ (fun _ z => z) (fun o δ' q v H' ω' P ev => ?_) q) he.mono
  exact ⟨S, T, B, A, ω', δ', P, o, Fs.stat, ev.fr, ev.rp, hg.mono.m _ _ _ _ (fun δ2 q σ2 H2 ω2 f _ => en.nx _ _ _ _ f q) q⟩, mono_asg he.mono hg.mono⟩
theorem ds_set {i : Nat} {x : Str} {e : Expr} {t : DT} {pos' : Pos} (hN : X.N.Nodup) (hi : X.N[i]? = some x) (hx : Loc X.env.scope x) (he : DE X G E e t) (hs : swapsWith e (some (.Name x pos')) pos.line X.env = pure false := by rfl) (hf : X.fn x = true ∨ X.env.scope.names.lookup x = some .local := by first | exact .inl rfl | exact .inr rfl | assumption) :
    DS X G E (.Assign [.Name x pos'] e pos) (xAsg t (xName i)) := ⟨PS.imp (ps_set hN hi hx he.pe hs hf) fun D σ H h => by
  obtain ⟨S, T, B, A, ω, δ, F, Fs, z, en, q⟩ := h
  refine tD_of Fs z (he.mono.m _ _ _ _ _ (fun _ z => z) (fun o δ' q v H' ω' P ev => ?_) q) he.mono
  obtain ⟨ω2, δ2, F2, _, q⟩ := ev.fr.putOp Fs.stat ev.rp q
  exact en.nx _ _ _ _ F2 q, mono_asg he.mono mono_name⟩
structure DGs (X : Cx) (G : Amb) (tgs : List Expr) (is : List Nat) (γs : List DTg) : Prop where
  pg : PGs X tgs fun vs σ H Q => ∃ S T B A ω δ ds Hz Oz, Fr G X.K S T B A ω H σ δ ∧ RepL X.K Hz Oz ds vs ∧ OM Oz Hz ∧ (∀ a o, Hz a = some o → NT o → ¬ Oz a → S a o) ∧ (∀ a, B a → Oz a ∨ ¬ nT Hz a) ∧ gsE γs ds δ fun δ' => ∀ σ' H' ω', Fr G X.K S T B A ω' H' σ' δ' → SameBut is σ σ' ω ω' → Q σ' H'
  mono : ∀ γ ∈ γs, MonoG γ
theorem gsE_mono {γs : List DTg} (m : ∀ γ ∈ γs, MonoG γ) : ∀ {ds : List D} {δ : Env} {Q Q' : Env → Prop}, (∀ δ', Q δ' → Q' δ') → gsE γs ds δ Q → gsE γs ds δ Q' := by
  induction γs with
  | nil => intro ds δ Q Q' h q; cases ds <;> first | exact h _ q | exact q
  | cons γ γs ih =>
    intro ds δ Q Q' h q
    cases ds with
    | nil => exact q
    | cons d ds => exact (m γ List.mem_cons_self).m _ _ _ _ (fun δ' q => ih (fun γ hg => m γ (List.mem_cons_of_mem _ hg)) h q) q
theorem PGs.imp {X : Cx} {e : List Expr} {t t' : TGs} (h : PGs X e t) (i : ∀ v σ H Q, t' v σ H Q → t v σ H Q) : PGs X e t' := ⟨fun pins s σ H v u Q I r q => h.run pins s σ H v u Q I r (i v σ H Q q)⟩
theorem dgs_nil : DGs X G [] [] [] := ⟨PGs.imp pgs_nil fun vs σ H Q h => by
  obtain ⟨S, T, B, A, ω, δ, ds, Hz, Oz, F, r, om, hp, hb, q⟩ := h
  cases ds with
  | nil => cases r; exact ⟨rfl, q _ _ _ F .refl⟩
  | cons d ds => exact q.elim, fun _ h => by cases h⟩
theorem dgs_cons {e : Expr} {es : List Expr} {is js : List Nat} {γs : List DTg} (h : DG X G e is γ) (hs : DGs X G es js γs) (hq : (assignEach (e :: es) X.env).map (·.2) = assign e X.env :: (assignEach es X.env).map (·.2) := by rfl) : DGs X G (e :: es) (is ++ js) (γ :: γs) := ⟨PGs.imp (pgs_cons h.pg hs.pg hq) fun vs σ H Q h' => by
  obtain ⟨S, T, B, A, ω, δ, ds, Hz, Oz, F, r, om, hp, hb, q⟩ := h'
  cases ds with
  | nil => exact q.elim
  | cons d ds =>
    obtain ⟨v, vr, rfl, r1, r2⟩ := r
    have c : Carry X.K Hz H Oz (Ow B ω) := pin_carry (S' := S) hp om F hb
    refine ⟨v, vr, rfl, S, T, B, A, ω, δ, none, .v d, F.stat, by rw [bp_none, bp_none]; exact F, ⟨rfl, by rw [bp_none]; exact Rep.carry c r1⟩, h.mono.m _ _ _ _ (fun δ' q σ' H' ω' f sb => ?_) q⟩
    exact ⟨S, T, B, A, ω', δ', ds, Hz, Oz, f, r2, om, hp, hb, gsE_mono hs.mono (fun δ2 q σ2 H2 ω2 f2 sb2 => q σ2 H2 ω2 f2 (sb.trans sb2)) q⟩, fun γ' h' => by
  rcases List.mem_cons.mp h' with rfl | h'
  · exact h.mono
  · exact hs.mono γ' h'⟩
/-- all that is not ours is asked to stay -/
theorem Fr.pin (F : Fr G K S T B A ω H σ δ) : Fr G K (nS S H B none ω) (nT H) B A ω H σ δ := by
  have e : Ev G K S T B A ω H σ δ ω none (.v .non) .non := ⟨by rw [bp_none, bp_none]; exact F, .refl, rfl, rfl⟩
  have q := e.go F
  rw [bp_none] at q
  exact q
theorem Fr.unpin {ω2 : List (Option Addr)} {H2 : Hp} {σ2 : St} {δ2 : Env} (F : Fr G K S T B A ω H σ δ) (F2 : Fr G K (nS S H B none ω) (nT H) B A ω2 H2 σ2 δ2) : Fr G K S T B A ω2 H2 σ2 δ2 :=
  F2.less (fun _ _ h => .inl h) (fun a h => F.dm a h) (fun _ h => h) F.cb F.bt F.sT F.al fun a o h ⟨i, q⟩ => by
    rcases h with h | ⟨h, n, h' | h'⟩
    · exact h
    · exact (h' (by rw [bp_none]; exact .inl (F.al i a q))).elim
    · cases h'
theorem pin_all {a : Addr} {u : HO} (h : H a = some u) (n : NT u) (m : ¬ Ow B ω a) : nS S H B none ω a u := .inr ⟨h, n, .inl (by rw [bp_none]; exact m)⟩
theorem mono_tupG {γs : List DTg} (m : ∀ γ ∈ γs, MonoG γ) : MonoG (xTupG γs) := ⟨fun o δ Q Q' h q => by
  cases o with
  | v d => cases d <;> first | exact ⟨q.1, gsE_mono m h q.2⟩ | exact q
  | _ => exact q⟩
theorem dg_tup {es : List Expr} {k n : Nat} {is : List Nat} {γs : List DTg} (hc : X.calm = true) (h : DGs X G es is γs) (hl : γs.length = n := by rfl)
    (hn : (assignEach es X.env).length = n := by rfl) (hst : (assignEach es X.env).findIdx? (·.1) = none := by rfl) : DG X G (.Tuple es k pos) is (xTupG γs) := ⟨PG.imp (pg_tup hc h.pg hn hst) fun v σ H Q h' => by
  obtain ⟨S, T, B, A, ω, δ, P, o, St, F, r, q⟩ := h'
  cases o with
  | v d =>
    cases d with
    | tup ds =>
      obtain ⟨rfl, a, vs, rfl, hq, r⟩ := r
      rw [bp_none] at F r
      rw [bp_none] at F
      exact ⟨a, vs, rfl, hq, by rw [← r.length, q.1, hl], nS S H B none ω, nT H, B, A, ω, δ, ds, H, Ow B ω, F.pin, r, F.om, fun a o h n m => pin_all h n m, fun a h => .inl (.inl h), gsE_mono h.mono (fun δ' q σ' H' ω' f sb => q σ' H' ω' (F.unpin f) sb) q.2⟩
    | _ => exact q.elim
  | _ => exact q.elim, mono_tupG h.mono⟩
end
end DL

set_option Elab.async false
set_option linter.all false
set_option maxRecDepth 100000
namespace DL
open PySem L2
/-! ### what is ours is changed -/
section
variable {G : Amb} {K : PySem.W.Frag} {S : Addr → HO → Prop} {T B : Addr → Prop} {A : Nat → Option Addr} {ω ω1 ω2 : List (Option Addr)} {H H1 H2 : Hp} {σ : St} {δ δ1 δ2 : Env}
theorem Carry.own {O : Addr → Prop} {l : Addr} {o o' : HO} (hl : O l) (h : H l = some o) (m : Mu o) : Carry K H (upd H l o') O O :=
  Carry.keep (P := fun a => a = l) (fun a u e n _ => by rw [upd_ne n]; exact e) (fun a e => by rw [e]; exact hl) fun a e => ⟨o, by rw [e]; exact h, m⟩
theorem Fr.write (F : Fr G K S T B A ω H σ δ) {i : Nat} {l : Addr} {o o' : HO} {s : Sl} (e : ω[i]? = some (some l)) (h : H l = some o) (m : Mu o) (m' : Mu o') (hs : SlOk K S A (upd H l o') (Ow B ω) i (σ[i]?) (some (some l)) s) : Fr G K S T B A ω (upd H l o') σ (δ.set i s) := by
  have c : Carry K H (upd H l o') (Ow B ω) (Ow B ω) := Carry.own (.inr ⟨i, e⟩) h m
  have nb := F.sw i l e
  refine ⟨G.wr H l o o' F.inv (fun z => nb.1 (F.cb l z)) h m m', F.cb, F.bt, F.sT, F.sc, F.al, fun a ha => ?_, fun a ha => ?_, fun a u hu => ?_, F.sw, F.inj, fun j a ha => ?_, by rw [List.length_set]; exact F.len, by rw [List.length_set]; exact F.lw, fun j u hu => ?_⟩
  · obtain ⟨w, e1, e2⟩ := F.bm a ha
    exact ⟨w, by rw [upd_ne fun z => nb.1 (by rw [← z]; exact ha)]; exact e1, e2⟩
  · by_cases z : a = l
    · rw [z]; exact ⟨o', upd_same, nt_mu m'⟩
    · obtain ⟨u, e, n⟩ := F.dm a ha
      exact ⟨u, by rw [upd_ne z]; exact e, n⟩
  · rw [upd_ne fun z => nb.2 u (by rw [← z]; exact hu)]; exact F.st a u hu
  · by_cases z : a = l
    · rw [z]; exact ⟨o', upd_same, m'⟩
    · rw [upd_ne z]; exact F.wm j a ha
  · rcases set_get hu with ⟨rfl, rfl, _⟩ | ⟨hn, hu⟩
    · rw [e]; exact hs
    · refine (F.slot j u hu).carry c (fun _ _ z => z) fun a w hw ha _ => ?_
      rw [upd_ne fun z => ?_]
      · exact ha
      · rw [z] at hw; exact hn (F.inj j i l hw e)
end
/-- a method that changes a list of ours: by its items and the arguments, what it gives and leaves -/
abbrev DM := List D → List D → (D → List D → Prop) → Prop
structure MtD (X : Cx) (id : String) (ρ : DM) : Prop where
  ok : ∃ r, MtR X id r ∧ ∀ {H : Hp} {O : Addr → Prop} {l : Addr} {xs : List V} {ds as : List D} {vs : List V} {P : D → List D → Prop} {Q : VK}, H l = some (.lst xs) → RepL X.K H O ds xs → RepL X.K H O as vs → ρ ds as P →
    (∀ d v ds' xs', P d ds' → Rep X.K H O d v → RepL X.K H O ds' xs' → Q v (upd H l (.lst xs'))) → r (.ref l) vs H Q
  mono : ∀ ds as (P P' : D → List D → Prop), (∀ d ds', P d ds' → P' d ds') → ρ ds as P → ρ ds as P'
def ownK (i : Nat) (δ : Env) (k : List D → Prop) : Prop := match δ[i]? with
  | some (.own ds) => k ds
  | _ => False
theorem ownK_mono {i : Nat} {δ : Env} {k k' : List D → Prop} (h : ∀ ds, k ds → k' ds) (q : ownK i δ k) : ownK i δ k' := by
  unfold ownK at q ⊢
  split at q
  · exact h _ q
  · exact q
theorem ownK_some {i : Nat} {δ : Env} {k : List D → Prop} (q : ownK i δ k) : ∃ ds, δ[i]? = some (.own ds) ∧ k ds := by
  unfold ownK at q
  split at q
  · rename_i ds e; exact ⟨ds, e, q⟩
  · exact q.elim
def xMt (i : Nat) (ρ : DM) (τs : DTA) : DT := fun Z δ Q => ownK i δ fun _ => τs Z δ fun os δ1 => kpLK os fun as => ownK i δ1 fun ds => ρ ds as fun d ds' => Q (.v d) (δ1.set i (.own ds'))
section
variable {X : Cx} {G : Amb} {E : XK} {e : Expr} {es : List Expr} {τs : DTA} {ρ : DM} {id : String} {i : Nat} {x name : Str} {pos apos cpos npos : Pos}
theorem mono_mt (h : ∀ ds as (P P' : D → List D → Prop), (∀ d ds', P d ds' → P' d ds') → ρ ds as P → ρ ds as P') (m : MonoA τs) : Mono (xMt i ρ τs) := ⟨fun _ _ _ _ _ hz hq q =>
  ownK_mono (fun _ q => m.m _ _ _ _ _ hz (fun _ _ q => kpLK_mono (fun _ q => ownK_mono (fun _ q => h _ _ _ _ (fun _ _ q => hq _ _ q) q) q) q) q) q⟩
theorem mt_core {r : V → List V → Hp → VK → Prop} (hm : MtD X id ρ) (hv : ∀ {H : Hp} {O : Addr → Prop} {l : Addr} {xs : List V} {ds as : List D} {vs : List V} {P : D → List D → Prop} {Q : VK}, H l = some (.lst xs) → RepL X.K H O ds xs → RepL X.K H O as vs → ρ ds as P →
    (∀ d v ds' xs', P d ds' → Rep X.K H O d v → RepL X.K H O ds' xs' → Q v (upd H l (.lst xs'))) → r (.ref l) vs H Q) (ms : MonoA τs)
    {S : Addr → HO → Prop} {T B : Addr → Prop} {A : Nat → Option Addr} {ω : List (Option Addr)} {H : Hp} {σ : St} {δ : Env} {Z : Ex → Prop} {Q : VK} (F : Fr G X.K S T B A ω H σ δ) (z : EOk G X.K S T B Z E) (q : xMt i ρ τs Z δ (tK G X.K S T B A ω σ Q)) :
    tVar i σ H fun v H1 => tyV X.K "list" v H1 ∧ tA G X.K E τs σ H1 fun vs H2 => r v vs H2 Q := by
  obtain ⟨ds0, e0, q⟩ := ownK_some q
  obtain ⟨l, xs0, _, e2, e3, _⟩ := F.slot i _ e0
  refine ⟨_, e2, .inl ⟨rfl, xs0, SqL.of e3⟩, tA_of ms F z q fun os δ1 vs H2 ω2 Ps q ev => ?_⟩
  obtain ⟨as, ea, q⟩ := kpLK_some q
  obtain ⟨ds, ed, q⟩ := ownK_some q
  have F2 := ev.drop F
  have ra := ev.kp F ea
  obtain ⟨l', xs, w1, w2, w3, w4⟩ := F2.slot i _ ed
  rw [e2] at w2; cases w2
  refine hv w3 w4 ra q fun d v ds' xs' k r1 r2 => ?_
  have c : Carry X.K H2 (upd H2 l (.lst xs')) (Ow B ω2) (Ow B ω2) := Carry.own (.inr ⟨i, w1⟩) w3 trivial
  have F3 := F2.write (s := .own ds') w1 w3 (o' := .lst xs') trivial trivial ⟨l, xs', rfl, e2, upd_same, RepL.carry c r2⟩
  exact k v _ ω2 none ⟨by rw [bp_none, bp_none]; exact F3, ev.ws, rfl, by rw [bp_none]; exact Rep.carry c r1⟩
theorem de_mt (slot : Slot "list" name id) (hty : typeOf (.builtin id) = pure (.type "method_descriptor")) (hm : MtD X id ρ) (hN : X.N[i]? = some x) (hv : Vis X.env.scope x) (ha : DA X G E (e :: es) τs) (hd : (x == ("__debug__" : Str)) = false := by decide) (hcd : (x == ("__classdict__" : Str)) = false := by decide)
    (hbase : attributeBase (.Name x npos) name X.env (eval (.Name x npos) X.env) = eval (.Name x npos) X.env := by rfl)
    (hfew : ((backTo cpos (starEach (e :: es) X.env)).all (fun x => !x.1) && (backToKw cpos (keywordEach [] X.env)).all (fun x => x.1.isSome)
      && decide ((e :: es).length + ([] : List Keyword).length + (if ([] : List Keyword).isEmpty then 0 else 1) < 30)) = true := by rfl)
    (hline : (apos.endLine == cpos.line) = true := by rfl) (hs : starEach (e :: es) X.env = (false, eval e X.env) :: starEach es X.env := by rfl) (hplain : (backTo cpos (starEach es X.env)).any (·.1) = false := by rfl) :
    DE X G E (.Call (.Attribute (.Name x npos) name apos) (e :: es) [] cpos) (xMt i ρ τs) := by
  obtain ⟨r, hr, hv'⟩ := hm.ok
  have m := mono_mt (i := i) hm.mono ha.mono
  refine ⟨PE.imp (pe_bm PySem.F.plainAttrs_list slot hty hr (pe_var hN hv hd hcd) ha.pa hbase hfew hline hs hplain) fun σ H Q h => ?_, m⟩
  obtain ⟨S, T, B, A, ω, δ, Z, F, z, q⟩ := tD_to m h
  exact mt_core hm hv' ha.mono F z q
theorem de_mt0 (slot : Slot "list" name id) (hty : typeOf (.builtin id) = pure (.type "method_descriptor")) (hm : MtD X id ρ) (hN : X.N[i]? = some x) (hv : Vis X.env.scope x) (hd : (x == ("__debug__" : Str)) = false := by decide) (hcd : (x == ("__classdict__" : Str)) = false := by decide)
    (hbase : attributeBase (.Name x npos) name X.env (eval (.Name x npos) X.env) = eval (.Name x npos) X.env := by rfl) (hline : (apos.endLine == cpos.line) = true := by rfl) :
    DE X G E (.Call (.Attribute (.Name x npos) name apos) [] [] cpos) (xMt i ρ xNilA) := by
  obtain ⟨r, hr, hv'⟩ := hm.ok
  have m := mono_mt (i := i) hm.mono mono_nilA
  refine ⟨PE.imp (pe_bm0 PySem.F.plainAttrs_list slot hty hr (pe_var hN hv hd hcd) hbase hline) fun σ H Q h => ?_, m⟩
  obtain ⟨S, T, B, A, ω, δ, Z, F, z, q⟩ := tD_to m h
  obtain ⟨v, e, ty, h⟩ := mt_core hm hv' mono_nilA F z q
  refine ⟨v, e, ty, ?_⟩
  obtain ⟨ds0, e0, q⟩ := ownK_some q
  have q : ownK i δ fun ds => ρ ds [] fun d ds' => tK G X.K S T B A ω σ Q (.v d) (δ.set i (.own ds')) := q
  obtain ⟨ds, ed, q⟩ := ownK_some q
  obtain ⟨l', xs, w1, w2, w3, w4⟩ := F.slot i _ ed
  rw [e] at w2; cases w2
  refine hv' w3 w4 (as := []) (vs := []) rfl q fun d v ds' xs' k r1 r2 => ?_
  have c : Carry X.K H (upd H l' (.lst xs')) (Ow B ω) (Ow B ω) := Carry.own (.inr ⟨i, w1⟩) w3 trivial
  have F3 := F.write (s := .own ds') w1 w3 (o' := .lst xs') trivial trivial ⟨l', xs', rfl, e, upd_same, RepL.carry c r2⟩
  exact k v _ ω none ⟨by rw [bp_none, bp_none]; exact F3, .refl, rfl, by rw [bp_none]; exact Rep.carry c r1⟩
/-- l[k] = .., l ours -/
def xSub (i : Nat) (τ : DT) : DTg := fun o δ Q => kpK o fun d => ownK i δ fun _ => τ (fun _ => False) δ fun oi δ1 => rdK oi δ1 fun di => ownK i δ1 fun ds => match di with
  | .int k => match ixN ds.length k with
    | some n => Q (δ1.set i (.own (ds.set n d)))
    | none => False
  | _ => False
theorem mono_sub {τ : DT} (m : Mono τ) : MonoG (xSub i τ) := ⟨fun _ _ _ _ h q => kpK_mono (fun d q => ownK_mono (fun _ q => m.m _ _ _ _ _ (fun _ z => z) (fun _ _ q => rdK_mono (fun di q => ownK_mono (fun ds q => by
  cases di with
  | int k =>
    dsimp only at q ⊢
    split at q
    · exact h _ q
    · exact q
  | _ => exact q) q) q) q) q) q⟩
theorem eok_no {G : Amb} {K : PySem.W.Frag} {S : Addr → HO → Prop} {T B : Addr → Prop} {E : XK} : EOk G K S T B (fun _ => False) E := fun _ _ z => z.elim
theorem dg_sub {ei : Expr} {τ : DT} (hN : X.N[i]? = some x) (hv : Vis X.env.scope x) (hi : DE X G E ei τ) (hd : (x == ("__debug__" : Str)) = false := by decide) (hcd : (x == ("__classdict__" : Str)) = false := by decide)
    (ha : ∀ v, assign (.Subscript (.Name x npos) ei pos) X.env v = (do
      let ov ← holding [v] (eval (.Name x npos) X.env)
      let iv ← holding [v, ov] (eval ei X.env)
      standAt pos
      holding [v, ov, iv] (setItem ov iv v)
      release [v, ov, iv] []) := by intro _; rfl) : DG X G (.Subscript (.Name x npos) ei pos) [] (xSub i τ) := ⟨PG.imp (pg_sub (pe_var hN hv hd hcd) hi.pe set_list ha) fun v σ H Q h => by
  obtain ⟨S, T, B, A, ω, δ, P, o, St, F, r, q⟩ := h
  obtain ⟨d, ek, q⟩ := kpK_some q
  -- the value is kept from now on
  have F0 : Fr G X.K S T B A ω H σ δ := F.less (fun _ _ h => h) (fun _ h => .inl h) (fun _ h => .inl h) St.cb St.bt St.sT St.al fun _ _ h _ => h
  have rk : Rep X.K H (Ow B ω) d v := r.kp (fun a h => ow_less h) (fun p hp z => by
    rcases z with z | ⟨j, z⟩
    · exact r.nt p hp (St.bt p z)
    · exact (F.sw j p z).1 (.inr hp)) ek
  obtain ⟨ds0, e0, q⟩ := ownK_some q
  obtain ⟨l, xs0, _, e2, _, _⟩ := F0.slot i _ e0
  refine ⟨.ref l, e2, ?_⟩
  show tD G X.K E τ σ H fun iv H2 => rSetL (.ref l) iv v H2 fun H3 => Q σ H3
  · refine tD_of F0.pin eok_no (hi.mono.m _ _ _ _ _ (fun _ z => z) (fun oi δ1 q iv H2 ω2 P2 ev => ?_) q) hi.mono
    obtain ⟨di, er, q⟩ := rdK_some q
    obtain ⟨ds, eo, q⟩ := ownK_some q
    have ri := ev.fr.rd ev.rp er
    have F2p := ev.drop F0.pin
    have F2 := F0.unpin F2p
    obtain ⟨l', xs, w1, w2, w3, w4⟩ := F2.slot i _ eo
    rw [e2] at w2; cases w2
    cases di with
    | int k =>
      cases ri
      dsimp only at q
      have hl := w4.length
      rw [hl] at q
      cases en : ixN xs.length k with
      | none => rw [en] at q; exact q.elim
      | some n =>
        rw [en] at q
        have rk2 : Rep X.K H2 (Ow B ω2) d v := Rep.carry (pin_carry (S' := nS S H B none ω) (O1 := Ow B ω) (fun a o h n m => pin_all h n m) F0.om F2p fun a h => .inl (.inl h)) rk
        have c : Carry X.K H2 (upd H2 l (.lst (xs.set n v))) (Ow B ω2) (Ow B ω2) := Carry.own (.inr ⟨i, w1⟩) w3 trivial
        exact ⟨l, xs, k, n, rfl, rfl, w3, en, q _ _ _ (F2.write (s := .own (ds.set n d)) w1 w3 (o' := .lst (xs.set n v)) trivial trivial ⟨l, _, rfl, e2, upd_same, RepL.carry c (RepL.set n w4 rk2)⟩) (.ws ev.ws)⟩
    | _ => exact q.elim, mono_sub hi.mono⟩
end
end DL

set_option Elab.async false
set_option linter.all false
set_option maxRecDepth 100000
namespace DL
open PySem L2
/-! ### what a loop walks -/
def un (l : Option Nat) (δ : Env) : Env := match l with
  | none => δ
  | some i => match δ[i]? with
    | some (.lent ds) => δ.set i (.own ds)
    | _ => δ
/-- what a walk gives, in any later state (more may be another's: what is new since) -/
def WalkOk (G : Amb) (K : PySem.W.Frag) (S' : Addr → HO → Prop) (B' : Addr → Prop) (A' : Nat → Option Addr) (H' : Hp) (J : It) (ds : List D) : Prop :=
  ∃ Gd Y, Walk J ds.length Gd Y ∧ (∀ T2 B2 ω2 H2 σ2 δ2, (∀ a, B2 a → B' a ∨ ¬ nT H' a) → Fr G K S' T2 B2 A' ω2 H2 σ2 δ2 → Gd H2) ∧
    ∀ i x H2 H3 T2 B2 ω2 σ2 δ2, (∀ a, B2 a → B' a ∨ ¬ nT H' a) → i < ds.length → Fr G K S' T2 B2 A' ω2 H2 σ2 δ2 → Y i H2 x H3 → ∃ d, ds[i]? = some d ∧ Gv K H2 (Ow B2 ω2) (.v d) x H3
structure ItOk (G : Amb) (K : PySem.W.Frag) (S : Addr → HO → Prop) (T B : Addr → Prop) (A : Nat → Option Addr) (ω : List (Option Addr)) (σ : St) (J : It) (ds : List D) (l : Option Nat) (δ' : Env) (H' : Hp) (ω' : List (Option Addr)) (S' : Addr → HO → Prop) (T' B' : Addr → Prop) (A' : Nat → Option Addr) : Prop where
  fr : Fr G K S' T' B' A' ω' H' σ δ'
  ws : WSub ω' ω
  hS : ∀ a o, S a o → S' a o
  hT : ∀ a, T a → T' a
  hB : ∀ a, B a → B' a
  back : ∀ P ω2 H2 σ2 δ2, (∀ p, P = some p → H' p = none) → Fr G K S' (Bp T' P) (Bp B' P) A' ω2 H2 σ2 δ2 → ∃ ω3, Fr G K S (Bp T P) (Bp B P) A ω3 H2 σ2 (un l δ2) ∧ ∀ (i : Nat) a, ω3[i]? = some (some a) → ω2[i]? = some (some a) ∨ (ω[i]? = some (some a) ∧ B' a)
  walk : WalkOk G K S' B' A' H' J ds
abbrev DIt := (Ex → Prop) → Env → (List D → Option Nat → Env → Prop) → Prop
structure MonoI (ι : DIt) : Prop where
  m : ∀ (Z Z' : Ex → Prop) (δ : Env) (Q Q' : List D → Option Nat → Env → Prop), (∀ x, Z x → Z' x) → (∀ ds l δ', Q ds l δ' → Q' ds l δ') → ι Z δ Q → ι Z' δ Q'
def tI (G : Amb) (K : PySem.W.Frag) (E : XK) (ι : DIt) : TI := fun σ H R => ∃ S T B A ω δ Z, Fr G K S T B A ω H σ δ ∧ EOk G K S T B Z E ∧
  ι Z δ fun ds l δ' => ∀ J H' ω' S' T' B' A', ItOk G K S T B A ω σ J ds l δ' H' ω' S' T' B' A' → R J H'
structure DI (X : Cx) (G : Amb) (E : XK) (tg iter : Expr) (ι : DIt) : Prop where
  pi : PI X tg iter (tI G X.K E ι)
  mono : MonoI ι
theorem PI.imp {X : Cx} {tg e : Expr} {t t' : TI} (h : PI X tg e t) (i : ∀ σ H R, t' σ H R → t σ H R) : PI X tg e t' := ⟨fun pins s σ H R I q => h.run pins s σ H R I (i σ H R q)⟩
section
variable {G : Amb} {K : PySem.W.Frag} {S S' : Addr → HO → Prop} {T T' B B' : Addr → Prop} {A A' : Nat → Option Addr} {ω ω1 ω' : List (Option Addr)} {H H1 : Hp} {σ : St} {δ δ1 δ' : Env} {P : Option Addr} {Z : Ex → Prop} {E : XK} {o : Op} {v : V} {ds : List D} {l : Option Nat}
/-- nothing is lent: all stays that is not ours -/
structure Src (G : Amb) (K : PySem.W.Frag) (S : Addr → HO → Prop) (T B : Addr → Prop) (A : Nat → Option Addr) (ω : List (Option Addr)) (σ : St) (H1 : Hp) (l : Option Nat) (δ' : Env) (ω' : List (Option Addr)) (S' : Addr → HO → Prop) (T' B' : Addr → Prop) (A' : Nat → Option Addr) : Prop where
  fr : Fr G K S' T' B' A' ω' H1 σ δ'
  ws : WSub ω' ω
  hS : ∀ a o, S a o → S' a o
  hT : ∀ a, T a → T' a
  hB : ∀ a, B a → B' a
  back : ∀ P ω2 H2 σ2 δ2, (∀ p, P = some p → H1 p = none) → Fr G K S' (Bp T' P) (Bp B' P) A' ω2 H2 σ2 δ2 → ∃ ω3, Fr G K S (Bp T P) (Bp B P) A ω3 H2 σ2 (un l δ2) ∧ ∀ (i : Nat) a, ω3[i]? = some (some a) → ω2[i]? = some (some a) ∨ (ω[i]? = some (some a) ∧ B' a)
  carry : ∀ {T2 B2 ω2 H2 σ2 δ2}, (∀ a, B2 a → B' a ∨ ¬ nT H1 a) → Fr G K S' T2 B2 A' ω2 H2 σ2 δ2 → Carry K H1 H2 (Ow B' ω') (Ow B2 ω2)
theorem Src.it {J : It} (s : Src G K S T B A ω σ H1 l δ' ω' S' T' B' A') (w : WalkOk G K S' B' A' H1 J ds) : ItOk G K S T B A ω σ J ds l δ' H1 ω' S' T' B' A' := ⟨s.fr, s.ws, s.hS, s.hT, s.hB, s.back, w⟩
theorem ItOk.back0 {J : It} {H' ω' S' T' B' A'} (it : ItOk G K S T B A ω σ J ds l δ' H' ω' S' T' B' A') {ω2 : List (Option Addr)} {H2 : Hp} {σ2 : St} {δ2 : Env} (F2 : Fr G K S' T' B' A' ω2 H2 σ2 δ2) : ∃ ω3, Fr G K S T B A ω3 H2 σ2 (un l δ2) ∧ ∀ (i : Nat) a, ω3[i]? = some (some a) → ω2[i]? = some (some a) ∨ (ω[i]? = some (some a) ∧ B' a) := by
  obtain ⟨ω3, f, h⟩ := it.back none ω2 H2 σ2 δ2 (fun _ h => nomatch h) (by rw [bp_none, bp_none]; exact F2)
  rw [bp_none, bp_none] at f
  exact ⟨ω3, f, h⟩
theorem Ev.src (F : Fr G K S T B A ω H σ δ) (e : Ev G K S T B A ω H1 σ δ1 ω1 P o v) : Src G K S T B A ω σ H1 none δ1 ω1 (nS S H1 B P ω1) (nT H1) (Bp B P) A where
  fr := e.go F
  ws := e.ws
  hS := fun _ _ h => .inl h
  hT := fun a h => e.fr.dm a (.inl h)
  hB := fun _ h => .inl h
  back := fun P2 ω2 H2 σ2 δ2 hp F2 => ⟨ω2, F2.less (fun _ _ h => .inl h) (fun a h => h.elim (fun z => .inl (e.fr.dm a (.inl z))) .inr) (fun _ h => h.elim (fun z => .inl (.inl z)) .inr) (fun a c => .inl (F.cb a c)) (fun a h => h.elim (fun z => .inl (F.bt a z)) .inr) (fun a o h => .inl (F.sT a o h)) (fun i a h => .inl (F.al i a h)) fun a o h ⟨i, q⟩ => by
    rcases h with h | ⟨h, n, h' | h'⟩
    · exact h
    · exact (h' (.inl (.inl (F.al i a q)))).elim
    · exact (e.rp.nt a h' (F.bt a (F.al i a q))).elim, fun _ _ h => .inl h⟩
  carry := fun hb F2 => pin_carry (S' := nS S H1 B P ω1) (fun a o h n m => .inr ⟨h, n, .inl m⟩) e.fr.om F2 fun a h => (hb a h).elim (fun z => .inl (.inl z)) .inr
def lA (A : Nat → Option Addr) (i : Nat) (a : Addr) : Nat → Option Addr := fun j => if j = i then some a else A j
/-- ours is lent for a loop's time -/
theorem Fr.lend (F : Fr G K S T B A ω1 H1 σ δ1) (w : WSub ω1 ω) {i : Nat} {a : Addr} {vs : List V} (hs : δ1[i]? = some (.own ds)) (e : ω1[i]? = some (some a)) (e1 : σ[i]? = some (some (.ref a))) (e2 : H1 a = some (.lst vs)) (r : RepL K H1 (Ow B ω1) ds vs) :
    Src G K S T B A ω σ H1 (some i) (δ1.set i (.lent ds)) (ω1.set i none) (fun b u => nS S H1 B none ω1 b u ∨ (b = a ∧ u = .lst vs)) (nT H1) (fun b => B b ∨ b = a) (lA A i a) := by
  have hi : i < ω1.length := (List.getElem?_eq_some_iff.mp e).1
  have nb := F.sw i a e
  have w' : WSub (ω1.set i none) ω1 := fun j b h => by
    rcases set_get h with ⟨_, q, _⟩ | ⟨_, h⟩
    · cases q
    · exact h
  have ne : ∀ (j : Nat) b, (ω1.set i none)[j]? = some (some b) → b ≠ a := fun j b h z => by
    rw [z] at h
    rcases set_get h with ⟨_, q, _⟩ | ⟨n, h⟩
    · cases q
    · exact n (F.inj j i a h e)
  have sub : ∀ b, Ow (fun b => B b ∨ b = a) (ω1.set i none) b → Ow B ω1 b := fun b h => by
    rcases h with (h | h) | ⟨j, h⟩
    · exact .inl h
    · rw [h]; exact .inr ⟨i, e⟩
    · exact .inr ⟨j, w' j b h⟩
  refine ⟨⟨F.inv, fun b c => .inl (F.cb b c), fun b h => ?_, fun b u h => ?_, fun b u h => ?_, fun j b h => ?_, fun b h => ?_, fun b h => h, fun b u h => ?_, fun j b h => ⟨fun z => ?_, fun u z => ?_⟩, fun j k b h1 h2 => F.inj j k b (w' j b h1) (w' k b h2), fun j b h => F.wm j b (w' j b h), by rw [List.length_set]; exact F.len, by rw [List.length_set, List.length_set]; exact F.lw, fun j s h => ?_⟩,
    fun j b h => w j b (w' j b h), fun _ _ h => .inl (.inl h), fun b h => F.dm b h, fun _ h => .inl h, fun P2 ω2 H2 σ2 δ2 hp2 F2 => ?_, fun {T2 B2 ω2 H2 σ2 δ2} hb2 F2 => ?_⟩
  · rcases h with h | h
    · exact F.dm b (F.bt b h)
    · exact ⟨_, by rw [h]; exact e2, nt_lst⟩
  · rcases h with h | ⟨h, _⟩
    · exact F.pin.sT b u h
    · exact ⟨_, by rw [h]; exact e2, nt_lst⟩
  · rcases h with h | ⟨h, h'⟩
    · exact F.pin.sc b u h
    · rw [h, h']; exact ⟨fun c => nb.1 (F.cb a c), nt_lst⟩
  · unfold lA at h
    by_cases hj : j = i
    · rw [if_pos hj] at h; exact .inr (Option.some.inj h).symm
    · rw [if_neg hj] at h; exact .inl (F.al j b h)
  · rcases h with h | h
    · exact F.bm b h
    · exact ⟨.lst vs, by rw [h]; exact e2, trivial⟩
  · rcases h with h | ⟨h, h'⟩
    · exact F.pin.st b u h
    · rw [h, h']; exact e2
  · rcases z with z | z
    · exact (F.sw j b (w' j b h)).1 z
    · exact ne j b h z
  · rcases z with z | ⟨z, _⟩
    · exact (F.pin.sw j b (w' j b h)).2 u z
    · exact ne j b h z
  · rcases set_get h with ⟨rfl, rfl, hl⟩ | ⟨hn, h⟩
    · rw [List.getElem?_set_self hi]
      exact ⟨rfl, a, vs, e1, by unfold lA; rw [if_pos rfl], .inr ⟨rfl, rfl⟩, RepL.carry (Carry.sub sub) r⟩
    · rw [List.getElem?_set_ne (Ne.symm hn)]
      have q := (F.slot j s h).carry (Carry.sub sub) (S' := fun b u => nS S H1 B none ω1 b u ∨ (b = a ∧ u = .lst vs)) (fun _ _ z => .inl (.inl z)) fun _ _ _ z _ => z
      cases s with
      | lent ds2 =>
        obtain ⟨q1, b, us, q2, q3, q4, q5⟩ := q
        exact ⟨q1, b, us, q2, by unfold lA; rw [if_neg hn]; exact q3, q4, q5⟩
      | _ => exact q
  · -- the way back
    have alA : ∀ (j : Nat) b, A j = some b → b ≠ a := fun j b h z => nb.1 (by rw [← z]; exact F.al j b h)
    have hl : ∀ b u, (nS S H1 B none ω1 b u ∨ (b = a ∧ u = .lst vs)) → (∃ j, A j = some b) → S b u := fun b u h ⟨j, q⟩ => by
      rcases h with (h | ⟨h, n, h' | h'⟩) | ⟨h, _⟩
      · exact h
      · exact (h' (by rw [bp_none]; exact .inl (F.al j b q))).elim
      · cases h'
      · exact (alA j b q h).elim
    have bup : ∀ b, Bp B P2 b → Bp (fun b => B b ∨ b = a) P2 b := fun b h => h.elim (fun z => .inl (.inl z)) .inr
    have plain : ∀ {δ3 : Env} {ω3 : List (Option Addr)}, (∀ s, δ2[i]? = some s → ∀ ds2, s ≠ .lent ds2) → ∃ ω3, Fr G K S (Bp T P2) (Bp B P2) A ω3 H2 σ2 δ2 ∧ ∀ (k : Nat) b, ω3[k]? = some (some b) → ω2[k]? = some (some b) ∨ (ω[k]? = some (some b) ∧ (B b ∨ b = a)) := fun {_ _} hn =>
      ⟨ω2, ⟨F2.inv, fun b c => .inl (F.cb b c), fun b h => h.elim (fun z => .inl (F.bt b z)) .inr, fun b u h => .inl (F.sT b u h), F.sc, fun j b h => .inl (F.al j b h), fun b h => F2.bm b (bup b h), fun b h => F2.dm b (h.elim (fun z => .inl (F.dm b z)) .inr), fun b u h => F2.st b u (.inl (.inl h)), fun j b h => ⟨fun z => (F2.sw j b h).1 (bup b z), fun u z => (F2.sw j b h).2 u (.inl (.inl z))⟩, F2.inj, F2.wm, F2.len, F2.lw, fun j s h => by
        have q := F2.slot j s h
        have c : Carry K H2 H2 (Ow (Bp (fun b => B b ∨ b = a) P2) ω2) (Ow (Bp B P2) ω2) := Carry.sub fun b z => z.elim (fun z => .inl (bup b z)) .inr
        cases s with
        | lent ds2 =>
          obtain ⟨q1, b, us, q2, q3, q4, q5⟩ := q
          by_cases hj : j = i
          · subst hj; exact (hn _ h ds2 rfl).elim
          · unfold lA at q3
            rw [if_neg hj] at q3
            exact ⟨q1, b, us, q2, q3, hl _ _ q4 ⟨j, q3⟩, RepL.carry c q5⟩
        | un => exact q
        | val d => obtain ⟨q1, x, q2, q3⟩ := q; exact ⟨q1, x, q2, Rep.carry c q3⟩
        | own _ => obtain ⟨b, us, q1, q2, q3, q4⟩ := q; exact ⟨b, us, q1, q2, q3, RepL.carry c q4⟩
        | ownD _ => obtain ⟨b, us, q1, q2, q3, q4⟩ := q; exact ⟨b, us, q1, q2, q3, RepK.carry c q4⟩
        | ownT _ => obtain ⟨b, us, q1, q2, q3, q4⟩ := q; exact ⟨b, us, q1, q2, q3, RepT.carry c q4⟩⟩, fun _ _ h => .inl h⟩
    cases q0 : δ2[i]? with
    | none =>
      have e0 : DL.un (some i) δ2 = δ2 := by unfold DL.un; simp only [q0]
      rw [e0]
      exact plain (δ3 := δ2) (ω3 := ω2) fun s h => by rw [q0] at h; cases h
    | some s0 =>
      cases s0 with
      | lent ds2 =>
        have e0 : DL.un (some i) δ2 = δ2.set i (.own ds2) := by unfold DL.un; simp only [q0]
        rw [e0]
        obtain ⟨q1, b, us, q2, q3, q4, q5⟩ := F2.slot i _ q0
        have hb : b = a := by unfold lA at q3; rw [if_pos rfl] at q3; exact (Option.some.inj q3).symm
        subst hb
        have hi2 : i < ω2.length := (List.getElem?_eq_some_iff.mp q1).1
        have sub2 : ∀ c, Ow (Bp B P2) (ω2.set i (some b)) c → Ow (Bp (fun c => B c ∨ c = b) P2) ω2 c := fun c h => by
          rcases h with h | ⟨j, h⟩
          · exact .inl (bup c h)
          · rcases set_get h with ⟨_, q, _⟩ | ⟨_, h⟩
            · exact .inl (.inl (.inr (Option.some.inj q)))
            · exact .inr ⟨j, h⟩
        have c : Carry K H2 H2 (Ow (Bp (fun c => B c ∨ c = b) P2) ω2) (Ow (Bp B P2) (ω2.set i (some b))) := Carry.sub sub2
        have nb2 : ∀ (j : Nat), ω2[j]? ≠ some (some b) := fun j h => (F2.sw j b h).1 (.inl (.inr rfl))
        have nbp : ¬ Bp B P2 b := fun z => z.elim nb.1 fun z => by rw [hp2 b z] at e2; cases e2
        refine ⟨ω2.set i (some b), ⟨F2.inv, fun b c => .inl (F.cb b c), fun b h => h.elim (fun z => .inl (F.bt b z)) .inr, fun b u h => .inl (F.sT b u h), F.sc, fun j b h => .inl (F.al j b h), fun c h => F2.bm c (bup c h), fun c h => F2.dm c (h.elim (fun z => .inl (F.dm c z)) .inr), fun c u h => F2.st c u (.inl (.inl h)), fun j c h => ?_, fun j k c h1 h2 => ?_, fun j c h => ?_, by rw [List.length_set]; exact F2.len, by rw [List.length_set, List.length_set]; exact F2.lw, fun j s h => ?_⟩, fun j c h => ?_⟩
        · rcases set_get h with ⟨_, q, _⟩ | ⟨_, h⟩
          · cases q; exact ⟨nbp, nb.2⟩
          · exact ⟨fun z => (F2.sw j c h).1 (bup c z), fun u z => (F2.sw j c h).2 u (.inl (.inl z))⟩
        · rcases set_get h1 with ⟨j1, q, _⟩ | ⟨n1, h1⟩
          · cases q
            rcases set_get h2 with ⟨j2, _, _⟩ | ⟨n2, h2⟩
            · rw [j1, j2]
            · exact (nb2 k h2).elim
          · rcases set_get h2 with ⟨j2, q, _⟩ | ⟨n2, h2⟩
            · cases q; exact (nb2 j h1).elim
            · exact F2.inj j k c h1 h2
        · rcases set_get h with ⟨_, q, _⟩ | ⟨_, h⟩
          · cases q; exact ⟨_, F2.st _ _ q4, trivial⟩
          · exact F2.wm j c h
        · rcases set_get h with ⟨rfl, rfl, hl'⟩ | ⟨hn, h⟩
          · rw [List.getElem?_set_self hi2]
            exact ⟨b, us, rfl, q2, F2.st _ _ q4, RepL.carry c q5⟩
          · rw [List.getElem?_set_ne (Ne.symm hn)]
            have q := F2.slot j s h
            cases s with
            | lent ds3 =>
              obtain ⟨q1, b', us', q2', q3', q4', q5'⟩ := q
              unfold lA at q3'
              rw [if_neg hn] at q3'
              exact ⟨q1, b', us', q2', q3', hl _ _ q4' ⟨j, q3'⟩, RepL.carry c q5'⟩
            | un => exact q
            | val d => obtain ⟨q1, x, q2, q3⟩ := q; exact ⟨q1, x, q2, Rep.carry c q3⟩
            | own _ => obtain ⟨b', us', q1, q2, q3, q4⟩ := q; exact ⟨b', us', q1, q2, q3, RepL.carry c q4⟩
            | ownD _ => obtain ⟨b', us', q1, q2, q3, q4⟩ := q; exact ⟨b', us', q1, q2, q3, RepK.carry c q4⟩
            | ownT _ => obtain ⟨b', us', q1, q2, q3, q4⟩ := q; exact ⟨b', us', q1, q2, q3, RepT.carry c q4⟩
        · rcases set_get h with ⟨rfl, q, _⟩ | ⟨_, h⟩
          · cases q; exact .inr ⟨w _ _ e, .inr rfl⟩
          · exact .inl h
      | _ =>
        have e0 : DL.un (some i) δ2 = δ2 := by unfold DL.un; simp only [q0]
        rw [e0]
        exact plain (δ3 := δ2) (ω3 := ω2) fun s h ds2 z => by rw [q0] at h; cases h; cases z
  · refine pin_carry (S' := fun b u => nS S H1 B none ω1 b u ∨ (b = a ∧ u = .lst vs)) (O1 := Ow (fun b => B b ∨ b = a) (ω1.set i none)) (fun b u h n m => ?_) (fun b h => F.om b (sub b h)) F2 fun b h => (hb2 b h).elim (fun z => .inl (.inl z)) .inr
    by_cases hb : Ow B ω1 b
    · rcases hb with hb | ⟨j, hb⟩
      · exact (m (.inl (.inl hb))).elim
      · by_cases hj : j = i
        · subst hj
          rw [e] at hb; cases hb
          rw [e2] at h; cases h
          exact .inr ⟨rfl, rfl⟩
        · exact (m (.inr ⟨j, by rw [List.getElem?_set_ne (Ne.symm hj)]; exact hb⟩)).elim
    · exact .inl (pin_all h n hb)
end
end DL

set_option Elab.async false
set_option linter.all false
set_option maxRecDepth 100000
namespace DL
open PySem L2 RZ RT
/-! ### iterables -/
def signs (s : Str) : List D := s.cps.toList.map fun c => .str ⟨#[c]⟩
def itemsOf : D → Option (List D)
  | .lst ds => some ds
  | .tup ds => some ds
  | .str s => some (signs s)
  | _ => none
/-- a name's own thing is lent -/
def lendK (o : Op) (δ : Env) (k : Option Nat → Env → Prop) : Prop := match o with
  | .b i => match δ[i]? with
    | some (.own ds) => k (some i) (δ.set i (.lent ds))
    | _ => k none δ
  | _ => k none δ
theorem lendK_mono {o : Op} {δ : Env} {k k' : Option Nat → Env → Prop} (h : ∀ l δ', k l δ' → k' l δ') (q : lendK o δ k) : lendK o δ k' := by
  unfold lendK at q ⊢
  split at q
  · split at q <;> exact h _ _ q
  · exact h _ _ q
def xIt (f : List D → List D) (τ : DT) : DIt := fun Z δ Q => τ Z δ fun o δ1 => rdK o δ1 fun d => match itemsOf d with
  | some ds => lendK o δ1 fun l δ' => Q (f ds) l δ'
  | none => False
theorem mono_it {f : List D → List D} {τ : DT} (m : Mono τ) : MonoI (xIt f τ) := ⟨fun _ _ _ _ _ hz h q => m.m _ _ _ _ _ hz (fun _ _ q => rdK_mono (fun d q => by
  split at q
  · exact lendK_mono (fun l δ' q => h _ _ _ q) q
  · exact q) q) q⟩
theorem rd_b {i : Nat} {δ : Env} {d : D} (h : rd (.b i) δ = some d) : (∃ ds, d = .lst ds) ∨ (∃ ds, d = .dic ds) ∨ ∃ ds, d = .dit ds := by
  unfold rd at h
  cases e : δ[i]? with
  | none => simp [e] at h
  | some s =>
    cases s <;> simp [e] at h
    · exact .inl ⟨_, h.symm⟩
    · exact .inr (.inl ⟨_, h.symm⟩)
    · exact .inr (.inr ⟨_, h.symm⟩)
    · exact .inl ⟨_, h.symm⟩
section
variable {G : Amb} {K : PySem.W.Frag} {S : Addr → HO → Prop} {T B : Addr → Prop} {A : Nat → Option Addr} {ω ω1 : List (Option Addr)} {H H1 : Hp} {σ : St} {δ δ1 : Env} {P : Option Addr} {o : Op} {v : V}
/-- the list that a loop walks stays -/
theorem Ev.srcL (F : Fr G K S T B A ω H σ δ) (e : Ev G K S T B A ω H1 σ δ1 ω1 P o v) {ds : List D} {k : Option Nat → Env → Prop} (h : rd o δ1 = some (.lst ds)) (q : lendK o δ1 k) : ∃ a vs l δ' ω' S' T' B' A', v = .ref a ∧ k l δ' ∧ Src G K S T B A ω σ H1 l δ' ω' S' T' B' A' ∧
    H1 a = some (.lst vs) ∧ RepL K H1 (Ow B' ω') ds vs ∧ ∀ T2 B2 ω2 H2 σ2 δ2, Fr G K S' T2 B2 A' ω2 H2 σ2 δ2 → H2 a = some (.lst vs) := by
  cases o with
  | v d =>
    cases h
    obtain ⟨_, a, vs, rfl, h1, h2, h3⟩ := e.rp
    exact ⟨a, vs, none, δ1, _, _, _, _, _, rfl, q, e.src F, h1, h3, fun T2 B2 ω2 H2 σ2 δ2 F2 => F2.st a _ (.inr ⟨h1, nt_lst, .inl h2⟩)⟩
  | n ds' =>
    cases h
    obtain ⟨p, vs, e0, rfl, h2, h3, h4⟩ := e.rp
    exact ⟨p, vs, none, δ1, _, _, _, _, _, rfl, q, e.src F, h3, h4, fun T2 B2 ω2 H2 σ2 δ2 F2 => F2.st p _ (.inr ⟨h3, nt_lst, .inr e0⟩)⟩
  | nd _ => cases h
  | nt _ => cases h
  | b i =>
    obtain ⟨rfl, e1⟩ := e.rp
    have F1 := e.drop F
    unfold DL.rd at h
    cases es : δ1[i]? with
    | none => simp [es] at h
    | some s =>
      have sl := F1.slot i s es
      cases s with
      | own ds' =>
        simp only [es, Option.some.injEq, D.lst.injEq] at h
        subst h
        obtain ⟨a, vs, w1, w2, w3, w4⟩ := sl
        rw [e1] at w2; cases w2
        have q' : k (some i) (δ1.set i (.lent ds')) := by unfold lendK at q; simp only [es] at q; exact q
        have src := F1.lend e.ws es w1 e1 w3 w4
        refine ⟨a, vs, some i, _, _, _, _, _, _, rfl, q', src, w3, ?_, fun T2 B2 ω2 H2 σ2 δ2 F2 => F2.st a _ (.inr ⟨rfl, rfl⟩)⟩
        obtain ⟨_, _, _, _, _, _, r⟩ := src.fr.slot i (.lent ds') (by rw [List.getElem?_set_self (List.getElem?_eq_some_iff.mp es).1])
        rename_i a' vs' x1 x2 x3
        have ea : a' = a := by rw [e1] at x1; cases x1; rfl
        subst ea
        have := src.fr.st _ _ x3
        rw [w3] at this; cases this
        exact r
      | lent ds' =>
        simp only [es, Option.some.injEq, D.lst.injEq] at h
        subst h
        obtain ⟨_, a, vs, w2, w3, w4, w5⟩ := sl
        rw [e1] at w2; cases w2
        have q' : k none δ1 := by unfold lendK at q; simp only [es] at q; exact q
        refine ⟨a, vs, none, δ1, _, _, _, _, _, rfl, q', e.src F, F1.st _ _ w4, RepL.carry (Carry.sub ?_) w5, fun T2 B2 ω2 H2 σ2 δ2 F2 => F2.st a _ (.inl w4)⟩
        rw [bp_none]; exact fun _ z => z
      | _ => simp [es] at h
/-- a new item at each turn: the same heap, or a new tuple -/
theorem walk_same {J : It} {S' : Addr → HO → Prop} {B' : Addr → Prop} {A' : Nat → Option Addr} {H' : Hp} {n : Nat} {ds : List D} {Gd : Hp → Prop} {Y : Nat → Hp → V → Hp → Prop} (hn : n = ds.length) (w : Walk J n Gd Y) (g : ∀ T2 B2 ω2 H2 σ2 δ2, (∀ a, B2 a → B' a ∨ ¬ nT H' a) → Fr G K S' T2 B2 A' ω2 H2 σ2 δ2 → Gd H2)
    (y : ∀ i x H2 H3 T2 B2 ω2 σ2 δ2, (∀ a, B2 a → B' a ∨ ¬ nT H' a) → i < n → Fr G K S' T2 B2 A' ω2 H2 σ2 δ2 → Y i H2 x H3 → ∃ d, ds[i]? = some d ∧ Gv K H2 (Ow B2 ω2) (.v d) x H3) : WalkOk G K S' B' A' H' J ds := by
  subst hn
  exact ⟨Gd, Y, w, g, y⟩
theorem gv_tup2 {H : Hp} {O : Addr → Prop} {d1 d2 : D} {x y : V} {p : Addr} (h : H p = none) (r1 : Rep K H O d1 x) (r2 : Rep K H O d2 y) : Gv K H O (.v (.tup [d1, d2])) (.ref p) (upd H p (.tup [x, y])) := .tup h ⟨x, [y], rfl, r1, y, [], rfl, r2, rfl⟩
end
section
variable {X : Cx} {G : Amb} {E : XK} {e e2 a b c : Expr} {τ τa τb τc : DT} {τs : DTA} {tg : Expr} {pos : Pos}
/-- a list, a tuple, a text -/
theorem pi_any {l : Expr} {tl : TE} (hl : PE X l tl) : PI X tg l (fun σ H R => tl σ H fun x H1 => (∃ a, x = .ref a ∧ (∃ xs, SqL X.K H1 a xs) ∧ R (Itl X.K a) H1) ∨ (∃ a, x = .ref a ∧ (∃ xs, SqT X.K H1 a xs) ∧ R (Itt X.K a) H1) ∨ ∃ s, x = .str s ∧ R (Its s) H1) := by
  refine ⟨fun pins s σ H R I h => ?_⟩
  refine thn (hl.run pins s σ H _ I h) fun v s1 ⟨x, H1, I1, r1, q1⟩ => ?_
  rcases q1 with ⟨a, e, ⟨xs, hq⟩, q⟩ | ⟨a, e, ⟨xs, hq⟩, q⟩ | ⟨z, e, q⟩
  · subst e
    cases r1
    obtain ⟨its, rv, p, hz⟩ := I1.list hq
    refine wpAny_pyIter_list p.isList ?_
    refine ⟨s1.heap.objs.size, [s1.heap.objs.size], _, _, H1, rfl, I1.kept (t' := s1.toks) fun b o e => Heap.get?_push_of_some _ e, turn_list a _, ⟨_, Heap.get?_push_size _ rfl, rfl, rfl⟩, fun b hb => ?_, q⟩
    have e : b = s1.heap.objs.size := by simpa using hb
    subst e
    exact I1.fpOk (Nat.le_refl _) (I1.hok.fresh (Nat.le_refl _))
  · subst e
    cases r1
    obtain ⟨its, rv, p, hz⟩ := I1.tuple hq
    refine wpAny_pyIter_tuple (show s1.heap.IsTuple a its.toArray from p) ?_
    refine ⟨s1.heap.objs.size, [s1.heap.objs.size], _, _, H1, rfl, I1.kept (t' := s1.toks) fun b o e => Heap.get?_push_of_some _ e, turn_tuple a _, ⟨_, Heap.get?_push_size _ rfl, rfl, rfl⟩, fun b hb => ?_, q⟩
    have e : b = s1.heap.objs.size := by simpa using hb
    subst e
    exact I1.fpOk (Nat.le_refl _) (I1.hok.fresh (Nat.le_refl _))
  · subst e
    obtain ⟨t, rfl⟩ := r1
    cases ha : z.cps.all (· < 128)
    · exact wpAny_pyIter_wide ha (pi_one (tk := s1.toks) I1 _ (turn_str _ z t "str_iterator" (.inr rfl)) ⟨_, Heap.get?_push_size _ rfl, rfl, rfl⟩ q)
    · exact wpAny_pyIter_ascii ha (pi_one (tk := s1.toks) I1 _ (turn_str _ z t "str_ascii_iterator" (.inl rfl)) ⟨_, Heap.get?_push_size _ rfl, rfl, rfl⟩ q)
theorem yat {K : PySem.W.Frag} {H1 H2 H3 : Hp} {O O2 : Addr → Prop} {ds : List D} {vs : List V} {i : Nat} {x : V} (r : RepL K H1 O ds vs) (c : Carry K H1 H2 O O2) (y : YAt vs i H2 x H3) : ∃ d, ds[i]? = some d ∧ Gv K H2 O2 (.v d) x H3 := by
  obtain ⟨rfl, e⟩ := y
  obtain ⟨d, e1, r1⟩ := RepL.get' (RepL.carry c r) e
  exact ⟨d, e1, .same r1⟩
theorem di_any (he : DE X G E e τ) : DI X G E tg e (xIt id τ) := by
  refine ⟨PI.imp (pi_any he.pe) fun σ H R h => ?_, mono_it he.mono⟩
  obtain ⟨S, T, B, A, ω, δ, Z, F, z, q⟩ := h
  refine tD_of F z (he.mono.m _ _ _ _ _ (fun _ z => z) (fun o δ1 q v H1 ω1 P ev => ?_) q) he.mono
  obtain ⟨d, er, q⟩ := rdK_some q
  cases d with
  | lst ds =>
    obtain ⟨a, vs, l, δ', ω', S', T', B', A', rfl, q, src, h1, r, st⟩ := ev.srcL F er q
    exact .inl ⟨a, rfl, ⟨vs, SqL.of h1⟩, q _ _ _ _ _ _ _ (src.it (walk_same r.length.symm walk_list (fun T2 B2 ω2 H2 σ2 δ2 hb F2 => SqL.of (st T2 B2 ω2 H2 σ2 δ2 F2)) fun i x H2 H3 T2 B2 ω2 σ2 δ2 hb hi F2 y => yat r (src.carry hb F2) y))⟩
  | tup ds =>
    obtain ⟨a, vs, rfl, h1, r⟩ := ev.fr.rd ev.rp er
    have q' : ∀ J H' ω' S' T' B' A', ItOk G X.K S T B A ω σ J ds none δ1 H' ω' S' T' B' A' → R J H' := by
      cases o with
      | b i =>
        rcases rd_b er with ⟨_, z⟩ | ⟨_, z⟩ | ⟨_, z⟩ <;> cases z
      | _ => exact q
    have src := ev.src F
    exact .inr (.inl ⟨a, rfl, ⟨vs, h1⟩, q' _ _ _ _ _ _ _ (src.it (walk_same r.length.symm walk_tup (fun T2 B2 ω2 H2 σ2 δ2 hb F2 => (src.carry hb F2).t _ _ h1) fun i x H2 H3 T2 B2 ω2 σ2 δ2 hb hi F2 y => yat r (src.carry hb F2) y))⟩)
  | str s =>
    have r := ev.fr.rd ev.rp er
    cases r
    have q' : ∀ J H' ω' S' T' B' A', ItOk G X.K S T B A ω σ J (signs s) none δ1 H' ω' S' T' B' A' → R J H' := by
      cases o with
      | b i =>
        rcases rd_b er with ⟨_, z⟩ | ⟨_, z⟩ | ⟨_, z⟩ <;> cases z
      | _ => exact q
    have src := ev.src F
    refine .inr (.inr ⟨s, rfl, q' _ _ _ _ _ _ _ (src.it (walk_same (by simp [signs]) walk_str (fun _ _ _ _ _ _ _ _ => trivial) fun i x H2 H3 T2 B2 ω2 σ2 δ2 hb hi F2 y => ?_))⟩)
    obtain ⟨rfl, c, hc, rfl⟩ := y
    refine ⟨.str ⟨#[c]⟩, ?_, .same rfl⟩
    unfold signs
    rw [List.getElem?_map, Array.getElem?_toList, hc] <;> rfl
  | _ => exact q.elim
/-! ranges -/
def rgD (lo : Int) (n : Nat) : List D := (List.range n).map fun (i : Nat) => .int (lo + i)
def rgC (lo c : Int) (n : Nat) : List D := (List.range n).map fun (i : Nat) => .int (lo + i * c)
theorem mapRange_get {f : Nat → D} {n i : Nat} (h : i < n) : ((List.range n).map f)[i]? = some (f i) := by rw [List.getElem?_map, List.getElem?_range h] <;> rfl
def Rg (i : Int) : Prop := -4611686018427387904 ≤ i ∧ i < 4611686018427387904
def xRg1 (τ : DT) : DIt := fun Z δ Q => τ Z δ fun o δ1 => rdK o δ1 fun d => match d with
  | .int j => Rg j ∧ Q (rgD 0 j.toNat) none δ1
  | _ => False
def xRg2 (τ τ' : DT) : DIt := fun Z δ Q => τ Z δ fun o δ1 => τ' Z δ1 fun o' δ2 => rdK o δ2 fun d => rdK o' δ2 fun d' => match d, d' with
  | .int i, .int j => (Rg i ∧ Rg j) ∧ Q (rgD i (j - i).toNat) none δ2
  | _, _ => False
def Src0 (G : Amb) (K : PySem.W.Frag) (S : Addr → HO → Prop) (T B : Addr → Prop) (A : Nat → Option Addr) (ω ω1 : List (Option Addr)) (σ : St) (H1 : Hp) (δ1 : Env) (F : Fr G K S T B A ω1 H1 σ δ1) (w : WSub ω1 ω) {J : It} {ds : List D} (wk : WalkOk G K S B A H1 J ds) : ItOk G K S T B A ω σ J ds none δ1 H1 ω1 S T B A :=
  ⟨F, w, fun _ _ h => h, fun _ h => h, fun _ h => h, fun _ ω2 H2 σ2 δ2 _ F2 => ⟨ω2, F2, fun _ _ h => .inl h⟩, wk⟩
theorem range_walk {G : Amb} {K : PySem.W.Frag} {S : Addr → HO → Prop} {B : Addr → Prop} {A : Nat → Option Addr} {H' : Hp} {lo : Int} {n : Nat} : WalkOk G K S B A H' (Itr lo n) (rgD lo n) :=
  walk_same (by simp [rgD]) walk_range (fun _ _ _ _ _ _ _ _ => trivial) fun i x H2 H3 T2 B2 ω2 σ2 δ2 hb hi F2 y => by
    obtain ⟨rfl, rfl⟩ := y
    exact ⟨_, mapRange_get hi, .same rfl⟩
theorem di_range1 {p : Pos} (hg : Gl X "range") (hm : X.mg "range" = none) (ha : DE X G E a τa) (hs : starEach [a] X.env = [(false, eval a X.env)] := by rfl) : DI X G E tg (.Call (.Name "range" p) [a] [] pos) (xRg1 τa) := by
  have m : MonoI (xRg1 τa) := ⟨fun _ _ _ _ _ hz h q => ha.mono.m _ _ _ _ _ hz (fun _ _ q => rdK_mono (fun d q => by cases d <;> first | exact ⟨q.1, h _ _ _ q.2⟩ | exact q) q) q⟩
  refine ⟨PI.imp (pi_range1 hg hm (pa_cons ha.pe pa_nil hs) hs) fun σ H R h => ?_, m⟩
  obtain ⟨S, T, B, A, ω, δ, Z, F, z, q⟩ := h
  refine tD_of F z (ha.mono.m _ _ _ _ _ (fun _ z => z) (fun o δ1 q v H1 ω1 P ev => ?_) q) ha.mono
  obtain ⟨d, er, q⟩ := rdK_some q
  have r := ev.fr.rd ev.rp er
  cases d with
  | int j =>
    cases r
    exact ⟨j, rfl, q.1.1, q.1.2, q.2 _ _ _ _ _ _ _ (Src0 _ _ _ _ _ _ _ _ _ _ _ (ev.drop F) ev.ws range_walk)⟩
  | _ => exact q.elim
theorem di_range2 {p : Pos} (hg : Gl X "range") (hm : X.mg "range" = none) (ha : DE X G E a τa) (hb : DE X G E b τb) (hs : starEach [a, b] X.env = [(false, eval a X.env), (false, eval b X.env)] := by rfl) (hs2 : starEach [b] X.env = [(false, eval b X.env)] := by rfl) :
    DI X G E tg (.Call (.Name "range" p) [a, b] [] pos) (xRg2 τa τb) := by
  have m : MonoI (xRg2 τa τb) := ⟨fun _ _ _ _ _ hz h q => ha.mono.m _ _ _ _ _ hz (fun _ _ q => hb.mono.m _ _ _ _ _ hz (fun _ _ q => rdK_mono (fun d q => rdK_mono (fun d' q => by
    cases d <;> first | exact q | skip
    cases d' <;> first | exact ⟨q.1, h _ _ _ q.2⟩ | exact q) q) q) q) q⟩
  refine ⟨PI.imp (pi_range2 hg hm (pa_cons ha.pe (pa_cons hb.pe pa_nil hs2) (by rw [hs, hs2])) hs hs2) fun σ H R h => ?_, m⟩
  obtain ⟨S, T, B, A, ω, δ, Z, F, z, q⟩ := h
  refine two_then (r := fun x y H2 Q => ∃ i j : Int, [x, y] = [V.int i, V.int j] ∧ (-(2 ^ 62) ≤ i ∧ i < 2 ^ 62 ∧ -(2 ^ 62) ≤ j ∧ j < 2 ^ 62) ∧ R (Itr i (j - i).toNat) H2) (Q := fun _ _ => True)
    (R := fun d1 d2 δ2 => match d1, d2 with
      | .int i, .int j => (Rg i ∧ Rg j) ∧ ∀ J H' ω' S' T' B' A', ItOk G X.K S T B A ω σ J (rgD i (j - i).toNat) none δ2 H' ω' S' T' B' A' → R J H'
      | _, _ => False) ha.mono hb.mono F z q fun {H2 ω2 δ2 d1 d2 v1 v2} F2 w t1 t2 q => ?_
  cases d1 <;> first | exact q.elim | skip
  cases d2 <;> first | exact q.elim | skip
  cases t1
  cases t2
  exact ⟨_, _, rfl, ⟨q.1.1.1, q.1.1.2, q.1.2.1, q.1.2.2⟩, q.2 _ _ _ _ _ _ _ (Src0 _ _ _ _ _ _ _ _ _ _ _ F2 w range_walk)⟩
/-- how many turns range(i, j, c) has -/
def rgN (i j c : Int) : Nat := Builtin.Range.rangeSize i j c |>.toNat
def RgC3 (i j c : Int) (n : Nat) : Prop := c ≠ 0 ∧ c.natAbs < 1073741824 ∧ Builtin.Range.small i j c = true ∧ Builtin.Range.rangeSize i j c = n
def xRg3 (τ τ' τ'' : DT) : DIt := fun Z δ Q => τ Z δ fun o δ1 => τ' Z δ1 fun o' δ2 => τ'' Z δ2 fun o'' δ3 => rdK o δ3 fun d => rdK o' δ3 fun d' => rdK o'' δ3 fun d'' => match d, d', d'' with
  | .int i, .int j, .int c => ∃ n, RgC i j c n ∧ Q (rgC i c n) none δ3
  | _, _, _ => False
/-- three things told -/
theorem three_then {K : PySem.W.Frag} {r : V → V → V → Hp → Prop} {σ : St} {H : Hp} (ma : Mono τa) (mb : Mono τb) (mc : Mono τc) {S : Addr → HO → Prop} {T B : Addr → Prop} {A : Nat → Option Addr} {ω : List (Option Addr)} {δ : Env} {Z : Ex → Prop} (F : Fr G K S T B A ω H σ δ) (z : EOk G K S T B Z E)
    {R : D → D → D → Env → Prop} (q : τa Z δ fun o1 δ1 => τb Z δ1 fun o2 δ2 => τc Z δ2 fun o3 δ3 => rdK o1 δ3 fun d1 => rdK o2 δ3 fun d2 => rdK o3 δ3 fun d3 => R d1 d2 d3 δ3)
    (k : ∀ {H2 : Hp} {ω2 : List (Option Addr)} {δ2 : Env} {d1 d2 d3 : D} {v1 v2 v3 : V}, Fr G K S T B A ω2 H2 σ δ2 → WSub ω2 ω → RepTop K H2 (Ow B ω2) d1 v1 → RepTop K H2 (Ow B ω2) d2 v2 → RepTop K H2 (Ow B ω2) d3 v3 → R d1 d2 d3 δ2 → r v1 v2 v3 H2) :
    tD G K E τa σ H fun x H1 => tD G K E τb σ H1 fun y H2 => tD G K E τc σ H2 fun w H3 => r x y w H3 := by
  refine tD_of F z (ma.m _ _ _ _ _ (fun _ z => z) (fun o1 δ1 q v1 H1 ω1 P1 e1 => ?_) q) ma
  refine tD_of (e1.go F) (e1.eok F z) (mb.m _ _ _ _ _ (fun _ z => z) (fun o2 δ2 q v2 H2 ω2 P2 e2 => ?_) q) mb
  refine tD_of (e2.go (e1.go F)) (e2.eok (e1.go F) (e1.eok F z)) (mc.m _ _ _ _ _ (fun _ z => z) (fun o3 δ3 q v3 H3 ω3 P3 e3 => ?_) q) mc
  obtain ⟨d1, h1, q⟩ := rdK_some q
  obtain ⟨d2, h2, q⟩ := rdK_some q
  obtain ⟨d3, h3, q⟩ := rdK_some q
  have F3 : Fr G K S T B A ω3 H3 σ δ3 := e1.back0 F (e2.back (e1.go F) e3.fr)
  have sub : ∀ a, Ow B ω3 a → Ow (Bp (Bp (Bp B P1) P2) P3) ω3 a := fun a h => ow_less (ow_less (ow_less h))
  -- the first thing, over two steps
  have c12 : Carry K H1 H3 (Ow (Bp B P1) ω1) (Ow (Bp (Bp (Bp B P1) P2) P3) ω3) := by
    refine pin_carry (S' := nS (nS S H1 B P1 ω1) H2 (Bp B P1) P2 ω2) (fun a o h n m => .inl (.inr ⟨h, n, .inl m⟩)) e1.fr.om e3.fr fun a h => ?_
    rcases h with (h | h) | h
    · exact .inl (.inl h)
    · right
      exact e2.rp.nt a h
    · right
      exact fun q => e3.rp.nt a h (e2.fr.dm a (.inl q))
  have r1 : ROp K T H3 (Ow (Bp (Bp (Bp B P1) P2) P3) ω3) σ P1 o1 v1 := e1.rp.carry c12 (fun _ _ n => n) fun p u hp hu m => e3.fr.st p u (.inl (.inr ⟨hu, nt_mu m, .inr hp⟩))
  exact k F3 (e3.ws.trans (e2.ws.trans e1.ws)) (RepTop.sub sub (e3.fr.rd r1 h1)) (RepTop.sub sub (e3.fr.rd (e2.old e3) h2)) (RepTop.sub sub (e3.fr.rd e3.rp h3)) q
theorem di_range3 {p : Pos} (hg : Gl X "range") (hm : X.mg "range" = none) (ha : DE X G E a τa) (hb : DE X G E b τb) (hc : DE X G E c τc) (hs : starEach [a, b, c] X.env = (false, eval a X.env) :: starEach [b, c] X.env := by rfl) (hs2 : starEach [b, c] X.env = (false, eval b X.env) :: starEach [c] X.env := by rfl) (hs3 : starEach [c] X.env = (false, eval c X.env) :: starEach [] X.env := by rfl)
    (hpi : ∀ {ta : TA}, PA X [a, b, c] ta → PI X tg (.Call (.Name "range" p) [a, b, c] [] pos) (iRng3 ta) := by exact fun h => pi_range3 (by assumption) (by assumption) h) : DI X G E tg (.Call (.Name "range" p) [a, b, c] [] pos) (xRg3 τa τb τc) := by
  have m : MonoI (xRg3 τa τb τc) := ⟨fun _ _ _ _ _ hz h q => ha.mono.m _ _ _ _ _ hz (fun _ _ q => hb.mono.m _ _ _ _ _ hz (fun _ _ q => hc.mono.m _ _ _ _ _ hz (fun _ _ q => rdK_mono (fun d q => rdK_mono (fun d' q => rdK_mono (fun d'' q => by
    cases d <;> first | exact q | skip
    cases d' <;> first | exact q | skip
    cases d'' <;> first | (obtain ⟨n, h1, h2⟩ := q; exact ⟨n, h1, h _ _ _ h2⟩) | exact q) q) q) q) q) q) q⟩
  refine ⟨PI.imp (hpi (pa_cons ha.pe (pa_cons hb.pe (pa_cons hc.pe pa_nil hs3) hs2) hs)) fun σ H R h => ?_, m⟩
  obtain ⟨S, T, B, A, ω, δ, Z, F, z, q⟩ := h
  refine three_then (r := fun x y w H2 => ∃ (i j c : Int) (n : Nat), [x, y, w] = [.int i, .int j, .int c] ∧ RgC i j c n ∧ R (Itc i c n) H2)
    (R := fun d d' d'' δ3 => match d, d', d'' with
      | .int i, .int j, .int c => ∃ n, RgC i j c n ∧ ∀ J H' ω' S' T' B' A', ItOk G X.K S T B A ω σ J (rgC i c n) none δ3 H' ω' S' T' B' A' → R J H'
      | _, _, _ => False) ha.mono hb.mono hc.mono F z q fun {H2 ω2 δ2 d1 d2 d3 v1 v2 v3} F2 w t1 t2 t3 q => ?_
  cases d1 <;> first | exact q.elim | skip
  cases d2 <;> first | exact q.elim | skip
  cases d3 <;> first | exact q.elim | skip
  cases t1
  cases t2
  cases t3
  obtain ⟨n, hr, q⟩ := q
  refine ⟨_, _, _, n, rfl, hr, q _ _ _ _ _ _ _ (Src0 _ _ _ _ _ _ _ _ _ _ _ F2 w (walk_same (by simp [rgC]) walk_rangeC (fun _ _ _ _ _ _ _ _ => trivial) fun i x H2 H3 T2 B2 ω2 σ2 δ2 hb hi F2 y => ?_))⟩
  obtain ⟨rfl, rfl⟩ := y
  exact ⟨_, mapRange_get hi, .same rfl⟩
/-! enumerate, reversed, zip -/
def enumD (ds : List D) : List D := ds.zipIdx.map fun p => .tup [.int (p.2 : Nat), p.1]
theorem enumD_get {ds : List D} {i : Nat} {d : D} (h : ds[i]? = some d) : (enumD ds)[i]? = some (.tup [.int (i : Nat), d]) := by
  unfold enumD
  rw [List.getElem?_map, List.getElem?_zipIdx, h] <;> simp
/-- the thing of a list only -/
def xItL (f : List D → List D) (τ : DT) : DIt := fun Z δ Q => τ Z δ fun o δ1 => rdK o δ1 fun d => match d with
  | .lst ds => lendK o δ1 fun l δ' => Q (f ds) l δ'
  | _ => False
theorem mono_itL {f : List D → List D} {τ : DT} (m : Mono τ) : MonoI (xItL f τ) := ⟨fun _ _ _ _ _ hz h q => m.m _ _ _ _ _ hz (fun _ _ q => rdK_mono (fun d q => by
  split at q
  · exact lendK_mono (fun l δ' q => h _ _ _ q) q
  · exact q) q) q⟩
theorem di_enum {elts : List Expr} {kk : Nat} {p tpos : Pos} (hg : Gl X "enumerate") (hm : X.mg "enumerate" = none) (ha : DE X G E a τa) (hs : starEach [a] X.env = [(false, eval a X.env)] := by rfl) :
    DI X G E (.Tuple elts kk tpos) (.Call (.Name "enumerate" p) [a] [] pos) (xItL enumD τa) := by
  refine ⟨PI.imp (pi_enum hg hm (pa_cons ha.pe pa_nil hs) hs) fun σ H R h => ?_, mono_itL ha.mono⟩
  obtain ⟨S, T, B, A, ω, δ, Z, F, z, q⟩ := h
  refine tD_of F z (ha.mono.m _ _ _ _ _ (fun _ z => z) (fun o δ1 q v H1 ω1 P ev => ?_) q) ha.mono
  obtain ⟨d, er, q⟩ := rdK_some q
  cases d with
  | lst ds =>
    obtain ⟨a, vs, l, δ', ω', S', T', B', A', rfl, q, src, h1, r, st⟩ := ev.srcL F er q
    refine ⟨a, vs, rfl, SqL.of h1, q _ _ _ _ _ _ _ (src.it (walk_same (by rw [← r.length]; simp [enumD]) walk_enum (fun T2 B2 ω2 H2 σ2 δ2 hb F2 => SqL.of (st T2 B2 ω2 H2 σ2 δ2 F2)) fun i x H2 H3 T2 B2 ω2 σ2 δ2 hb hi F2 y => ?_))⟩
    obtain ⟨Tn, x1, y1, rfl, hT, rfl, e1, e2⟩ := y
    cases e1
    obtain ⟨d, ed, rd⟩ := RepL.get' (RepL.carry (src.carry hb F2) r) e2
    exact ⟨_, enumD_get ed, gv_tup2 hT rfl rd⟩
  | _ => exact q.elim
theorem di_rev {p : Pos} (hg : Gl X "reversed") (hm : X.mg "reversed" = none) (ha : DE X G E a τa) (hs : starEach [a] X.env = (false, eval a X.env) :: starEach [] X.env := by rfl) : DI X G E tg (.Call (.Name "reversed" p) [a] [] pos) (xItL List.reverse τa) := by
  refine ⟨PI.imp (pi_revA hg hm ha.pe hs) fun σ H R h => ?_, mono_itL ha.mono⟩
  obtain ⟨S, T, B, A, ω, δ, Z, F, z, q⟩ := h
  refine tD_of F z (ha.mono.m _ _ _ _ _ (fun _ z => z) (fun o δ1 q v H1 ω1 P ev => ?_) q) ha.mono
  obtain ⟨d, er, q⟩ := rdK_some q
  cases d with
  | lst ds =>
    obtain ⟨a, vs, l, δ', ω', S', T', B', A', rfl, q, src, h1, r, st⟩ := ev.srcL F er q
    have hl := r.length
    refine ⟨a, vs, rfl, .inl ⟨SqL.of h1, q _ _ _ _ _ _ _ (src.it (walk_same (by simp [hl]) walk_rev (fun T2 B2 ω2 H2 σ2 δ2 hb F2 => SqL.of (st T2 B2 ω2 H2 σ2 δ2 F2)) fun i x H2 H3 T2 B2 ω2 σ2 δ2 hb hi F2 y => ?_))⟩⟩
    obtain ⟨rfl, e⟩ := y
    obtain ⟨d, ed, rd⟩ := RepL.get' (RepL.carry (src.carry hb F2) r) e
    refine ⟨d, ?_, .same rd⟩
    rw [List.getElem?_reverse (by omega), hl]
    exact ed
  | _ => exact q.elim
def zipD (ds es : List D) : List D := (ds.zip es).map fun p => .tup [p.1, p.2]
def xZip (τs : DTA) : DIt := fun Z δ Q => τs Z δ fun os δ1 => kpLK os fun as => match as with
  | [.lst ds, .lst es] => Q (zipD ds es) none δ1
  | [.tup ds, .tup es] => Q (zipD ds es) none δ1
  | _ => False
theorem mono_zip {τs : DTA} (m : MonoA τs) : MonoI (xZip τs) := ⟨fun _ _ _ _ _ hz h q => m.m _ _ _ _ _ hz (fun _ _ q => kpLK_mono (fun d q => by
  split at q
  · exact h _ _ _ q
  · exact h _ _ _ q
  · exact q) q) q⟩
theorem zipD_get {ds es : List D} {i : Nat} {d e : D} (h1 : ds[i]? = some d) (h2 : es[i]? = some e) : (zipD ds es)[i]? = some (.tup [d, e]) := by
  have h : (ds.zip es)[i]? = some (d, e) := List.getElem?_zip_eq_some.mpr ⟨h1, h2⟩
  unfold zipD
  rw [List.getElem?_map, h] <;> rfl
theorem walk_zipT {K : PySem.W.Frag} {a b : Addr} {xs ys : List V} {n : Nat} (hn : n = min xs.length ys.length) : Walk (ItzT K a b) n (fun H => SqT K H a xs ∧ SqT K H b ys) (YPair (fun i => xs[i]?) (fun i => ys[i]?)) := by
  subst hn
  refine ⟨fun i _ hi q => ?_, fun _ q => ⟨xs, ys, q.1, q.2, by omega⟩, fun i H v H' _ q y => ?_⟩
  · have h1 : i < xs.length := by omega
    have h2 : i < ys.length := by omega
    exact ⟨xs, ys, xs[i], ys[i], q.1, q.2, by simp [h1], by simp [h2]⟩
  · obtain ⟨T, x, z, h1, h2, h3, h4, h5⟩ := y
    exact ⟨T, x, z, h1, h2, h3, h4 xs q.1, h5 ys q.2⟩
theorem di_zip {elts : List Expr} {kk : Nat} {p tpos : Pos} (hg : Gl X "zip") (hm : X.mg "zip" = none) (ha : DA X G E [e, e2] τs)
    (hs : starEach [e, e2] X.env = (false, eval e X.env) :: starEach [e2] X.env := by rfl) (hpl : (backTo pos (starEach [e2] X.env)).any (·.1) = false := by rfl) : DI X G E (.Tuple elts kk tpos) (.Call (.Name "zip" p) [e, e2] [] pos) (xZip τs) := by
  refine ⟨PI.imp (pi_zipA hg hm ha.pa hs hpl) fun σ H R h => ?_, mono_zip ha.mono⟩
  obtain ⟨S, T, B, A, ω, δ, Z, F, z, q⟩ := h
  refine tA_of ha.mono F z q fun os δ1 vs H1 ω1 Ps q ev => ?_
  obtain ⟨as, ea, q⟩ := kpLK_some q
  have r := ev.kp F ea
  have F1 := ev.drop F
  have ev0 : Ev G X.K S T B A ω H1 σ δ1 ω1 none (.v .non) .non := ⟨by rw [bp_none, bp_none]; exact F1, ev.ws, rfl, rfl⟩
  have src := ev0.src F
  split at q
  · rename_i ds es
    obtain ⟨v1, r', rfl, ⟨x, xs, rfl, hx, nx, rx⟩, v2, r'', rfl, ⟨y, ys, rfl, hy, ny, ry⟩, rfl⟩ := r
    have lx := rx.length
    have ly := ry.length
    refine ⟨x, y, xs, ys, rfl, .inl ⟨SqL.of hx, SqL.of hy, q _ _ _ _ _ _ _ (src.it (walk_same (n := min xs.length ys.length) (by simp [zipD, lx, ly]) (walk_zip rfl) (fun T2 B2 ω2 H2 σ2 δ2 hb F2 => ⟨SqL.of (F2.st x _ (.inr ⟨hx, nt_lst, .inl (by rw [bp_none]; exact nx)⟩)), SqL.of (F2.st y _ (.inr ⟨hy, nt_lst, .inl (by rw [bp_none]; exact ny)⟩))⟩) fun i x H2 H3 T2 B2 ω2 σ2 δ2 hb hi F2 yy => ?_))⟩⟩
    obtain ⟨Tn, x1, y1, rfl, hT, rfl, e1, e2⟩ := yy
    have c := src.carry hb F2
    rw [bp_none] at c
    obtain ⟨d, ed, rd⟩ := RepL.get' (RepL.carry c rx) e1
    obtain ⟨d', ed', rd'⟩ := RepL.get' (RepL.carry c ry) e2
    exact ⟨_, zipD_get ed ed', gv_tup2 hT rd rd'⟩
  · rename_i ds es
    obtain ⟨v1, r', rfl, ⟨x, xs, rfl, hx, rx⟩, v2, r'', rfl, ⟨y, ys, rfl, hy, ry⟩, rfl⟩ := r
    have lx := rx.length
    have ly := ry.length
    refine ⟨x, y, xs, ys, rfl, .inr ⟨hx, hy, q _ _ _ _ _ _ _ (src.it (walk_same (n := min xs.length ys.length) (by simp [zipD, lx, ly]) (walk_zipT rfl) (fun T2 B2 ω2 H2 σ2 δ2 hb F2 => ⟨(src.carry hb F2).t _ _ hx, (src.carry hb F2).t _ _ hy⟩) fun i x H2 H3 T2 B2 ω2 σ2 δ2 hb hi F2 yy => ?_))⟩⟩
    obtain ⟨Tn, x1, y1, rfl, hT, rfl, e1, e2⟩ := yy
    have c := src.carry hb F2
    rw [bp_none] at c
    obtain ⟨d, ed, rd⟩ := RepL.get' (RepL.carry c rx) e1
    obtain ⟨d', ed', rd'⟩ := RepL.get' (RepL.carry c ry) e2
    exact ⟨_, zipD_get ed ed', gv_tup2 hT rd rd'⟩
  · exact q.elim
end
end DL

set_option Elab.async false
set_option linter.all false
set_option maxRecDepth 100000
namespace DL
open PySem L2
/-! ### for, while -/
def loopE (N B : Env → Prop) (F : DEnds) : DEnds := ⟨N, F.rt, B, N, F.ex⟩
theorem loopE_le {N N' B B' : Env → Prop} {F F' : DEnds} (h : ∀ δ, N δ → N' δ) (h' : ∀ δ, B δ → B' δ) (le : F.Le F') : (loopE N B F).Le (loopE N' B' F') := ⟨h, le.rt, h', h, le.ex⟩
def forL (γ : DTg) (τ : DSt) (l : Option Nat) (F : DEnds) : List D → Env → Prop
  | [], δ => F.nx (un l δ)
  | d :: ds, δ => γ (.v d) δ fun δ' => τ (loopE (forL γ τ l F ds) (fun δ => F.nx (un l δ)) F) δ'
def xFor (ι : DIt) (γ : DTg) (τ : DSt) : DSt := fun F δ => ι F.ex δ fun ds l δ1 => forL γ τ l F ds δ1
def whN (θ : DTT) (τ : DSt) (F : DEnds) : Nat → Env → Prop
  | 0, _ => False
  | n + 1, δ => θ F.ex δ fun b δ' => if b = true then τ (loopE (whN θ τ F n) F.nx F) δ' else F.nx δ'
def xWh (θ : DTT) (τ : DSt) : DSt := fun F δ => ∃ n, whN θ τ F n δ
section
variable {X : Cx} {G : Amb} {E : XK} {tg iter c : Expr} {body : List Stmt} {γ : DTg} {τ : DSt} {θ : DTT} {ι : DIt} {is : List Nat} {pos : Pos}
theorem forL_mono {l : Option Nat} {F F' : DEnds} (mg : MonoG γ) (m : MonoS τ) (le : F.Le F') : ∀ {ds : List D} {δ : Env}, forL γ τ l F ds δ → forL γ τ l F' ds δ
  | [], _, q => le.nx _ q
  | d :: ds, _, q => mg.m _ _ _ _ (fun δ' q => m.m _ _ _ (loopE_le (fun _ q => forL_mono mg m le q) (fun _ q => le.nx _ q) le) q) q
theorem mono_for (mi : MonoI ι) (mg : MonoG γ) (m : MonoS τ) : MonoS (xFor ι γ τ) := ⟨fun _ _ _ l q => mi.m _ _ _ _ _ l.ex (fun _ _ _ q => forL_mono mg m l q) q⟩
theorem whN_mono {F F' : DEnds} (mt : MonoT θ) (m : MonoS τ) (le : F.Le F') : ∀ {n : Nat} {δ : Env}, whN θ τ F n δ → whN θ τ F' n δ
  | 0, _, q => q
  | n + 1, _, q => mt.m _ _ _ _ _ le.ex (fun b _ q => by
    cases b with
    | true => exact m.m _ _ _ (loopE_le (fun _ q => whN_mono mt m le q) le.nx le) q
    | false => exact le.nx _ q) q
theorem mono_wh (mt : MonoT θ) (m : MonoS τ) : MonoS (xWh θ τ) := ⟨fun _ _ _ l ⟨n, q⟩ => ⟨n, whN_mono mt m l q⟩⟩
theorem ds_for (hp : PassesOwn (model X.prog X.w) X.A X.env X.xe) (hc : X.calm = true) (hi : DI X G E tg iter ι) (hg : DG X G tg is γ) (hb : DSs X G E body τ) (hs : ∀ x, foldedSetIterable iter X.env x = pure x := by intro _; rfl) :
    DS X G E (.For tg iter body [] pos) (xFor ι γ τ) := ⟨PS.imp (ps_for hp hc hi.pi hg.pg hb.ps hs) fun D σ H h => by
  obtain ⟨S, T, B, A, ω, δ, F, Fs, z, en, q⟩ := h
  refine ⟨S, T, B, A, ω, δ, F.ex, Fs, z, hi.mono.m _ _ _ _ _ (fun _ z => z) (fun ds l δ1 q J H1 ω1 S' T' B' A' it => ?_) q⟩
  obtain ⟨Gd, Y, wk, hG, hY⟩ := it.walk
  have z' : EOk G X.K S' T' B' F.ex E := z.less it.hS it.hT it.hB
  have rt' : ∀ d v H', G.inv H' → (∀ a o, S' a o → H' a = some o) → (∀ a, T' a → nT H' a) → Rep X.K H' B' d v → F.rt d → D.rt v H' := fun d v H' i s t r q => en.rt d v H' i (fun a o h => s a o (it.hS a o h)) (fun a h => t a (it.hT a h)) (Rep.carry (Carry.sub it.hB) r) q
  have out : ∀ δ' σ' H' ω', Fr G X.K S' T' B' A' ω' H' σ' δ' → F.nx (un l δ') → D.nx σ' H' := fun δ' σ' H' ω' f q => by
    obtain ⟨ω3, f3, _⟩ := it.back0 f
    exact en.nx _ _ _ _ f3 q
  refine for_it wk (fun i σ2 H2 => ∃ ω2 δ2, Fr G X.K S' T' B' A' ω2 H2 σ2 δ2 ∧ forL γ τ l F (ds.drop i) δ2) ⟨ω1, δ1, it.fr, q⟩ (fun i σ2 H2 _ ⟨ω2, δ2, f, _⟩ => hG _ _ _ _ _ _ (fun _ h => .inl h) f) ?_ ?_
  · rintro i x σ2 H2 H3 hi' ⟨ω2, δ2, f, q⟩ y
    obtain ⟨d, ed, gv⟩ := hY i x H2 H3 T' B' ω2 σ2 δ2 (fun _ h => .inl h) hi' f y
    have e : ds.drop i = d :: ds.drop (i + 1) := by
      have := List.drop_eq_getElem_cons hi'
      rw [this]
      have e2 := List.getElem?_eq_getElem hi'
      rw [ed] at e2
      rw [Option.some.inj e2]
    rw [e] at q
    obtain ⟨P, ev⟩ := gv.ev f .refl
    refine ⟨S', T', B', A', ω2, δ2, P, .v d, f.stat, ev.fr, ev.rp, hg.mono.m _ _ _ _ (fun δ' q σ' H' ω' f' _ => ?_) q⟩
    exact sD_of (F := loopE (forL γ τ l F (ds.drop (i + 1))) (fun δ => F.nx (un l δ)) F) f' z' ⟨fun δ4 σ4 H4 ω4 f4 q4 => ⟨ω4, δ4, f4, q4⟩, fun δ4 σ4 H4 ω4 f4 q4 => out _ _ _ _ f4 q4, fun δ4 σ4 H4 ω4 f4 q4 => ⟨ω4, δ4, f4, q4⟩, rt'⟩ q
  · rintro σ2 H2 ⟨ω2, δ2, f, q⟩
    rw [List.drop_length] at q
    exact out _ _ _ _ f q, mono_for hi.mono hg.mono hb.mono⟩
theorem ds_while (hp : PassesOwn (model X.prog X.w) X.A X.env X.xe) (hc : DB X G E c θ) (hb : DSs X G E body τ) : DS X G E (.While c body [] pos) (xWh θ τ) := ⟨PS.imp (ps_while hp hc.pt hb.ps) fun D σ H h => by
  obtain ⟨S, T, B, A, ω, δ, F, Fs, z, en, n, q⟩ := h
  refine ⟨fun m σ2 H2 => ∃ ω2 δ2, Fr G X.K S T B A ω2 H2 σ2 δ2 ∧ whN θ τ F m δ2, ⟨n, ω, δ, Fs, q⟩, ?_⟩
  rintro m σ2 H2 ⟨ω2, δ2, f, q⟩
  cases m with
  | zero => exact q.elim
  | succ m =>
    refine tT_of hc.mono f z q fun b δ' H' ω' q f' w => ?_
    cases b with
    | true => exact ⟨fun σ4 H4 => ∃ ω4 δ4, Fr G X.K S T B A ω4 H4 σ4 δ4 ∧ whN θ τ F m δ4, fun σ4 H4 w4 => ⟨m, Nat.lt_succ_self m, w4⟩,
        sD_of (F := loopE (whN θ τ F m) F.nx F) f' z ⟨fun δ4 σ4 H4 ω4 f4 q4 => ⟨ω4, δ4, f4, q4⟩, fun δ4 σ4 H4 ω4 f4 q4 => en.nx _ _ _ _ f4 q4, fun δ4 σ4 H4 ω4 f4 q4 => ⟨ω4, δ4, f4, q4⟩, en.rt⟩ q⟩
    | false => exact en.nx _ _ _ _ f' q, mono_wh hc.mono hb.mono⟩
end
/-! ### comprehensions -/
def wipeE : List Nat → Env → Env
  | [], δ => δ
  | i :: is, δ => (wipeE is δ).set i .un
def wipeW : List Nat → List (Option Addr) → List (Option Addr)
  | [], ω => ω
  | i :: is, ω => (wipeW is ω).set i none
/-- a comprehension's names get back what they had -/
def restE (δ0 : Env) : List Nat → Env → Env
  | [], δ => δ
  | i :: is, δ => match δ0[i]? with
    | some s => (restE δ0 is δ).set i s
    | none => restE δ0 is δ
def plainSl : Sl → Bool
  | .un => true
  | .val _ => true
  | _ => false
def lcL (γ : DTg) (θ : DTT) (τ : DT) (vs : List Nat) (k : List D → Env → Prop) : List D → Env → List D → Prop
  | [], δ, acc => k acc δ
  | d :: ds, δ, acc => γ (.v d) δ fun δ1 => θ (fun _ => False) δ1 fun b δ2 => if b = true then τ (fun _ => False) δ2 fun o δ3 => kpK o fun y => lcL γ θ τ vs k ds (wipeE vs δ3) (acc ++ [y]) else lcL γ θ τ vs k ds (wipeE vs δ2) acc
def xLc (ι : DIt) (γ : DTg) (θ : DTT) (τ : DT) (vs : List Nat) : DT := fun Z δ Q => ι Z δ fun ds l δ1 => ds.length ≤ 16777216 ∧ (vs.all fun i => match δ1[i]? with
    | some s => plainSl s
    | none => true) = true ∧ lcL γ θ τ vs (fun acc δ2 => Q (.n acc) (un l (restE δ1 vs δ2))) ds (wipeE vs δ1) []
def xYes : DTT := fun _ δ Q => Q true δ
section
variable {γ : DTg} {θ : DTT} {τ : DT} {ι : DIt} {vs : List Nat}
theorem lcL_mono {k k' : List D → Env → Prop} (mg : MonoG γ) (mt : MonoT θ) (m : Mono τ) (h : ∀ acc δ, k acc δ → k' acc δ) : ∀ {ds : List D} {δ : Env} {acc : List D}, lcL γ θ τ vs k ds δ acc → lcL γ θ τ vs k' ds δ acc
  | [], _, _, q => h _ _ q
  | d :: ds, _, _, q => mg.m _ _ _ _ (fun δ' q => mt.m _ _ _ _ _ (fun _ z => z) (fun b _ q => by
    cases b with
    | true => exact m.m _ _ _ _ _ (fun _ z => z) (fun _ _ q => kpK_mono (fun _ q => lcL_mono mg mt m h q) q) q
    | false => exact lcL_mono mg mt m h q) q) q
theorem mono_lc (mi : MonoI ι) (mg : MonoG γ) (mt : MonoT θ) (m : Mono τ) : Mono (xLc ι γ θ τ vs) := ⟨fun _ _ _ _ _ hz h q => mi.m _ _ _ _ _ hz (fun _ _ _ q => ⟨q.1, q.2.1, lcL_mono mg mt m (fun _ _ q => h _ _ q) q.2.2⟩) q⟩
theorem wipeE_get {δ : Env} {j : Nat} {s : Sl} : ∀ {vs : List Nat}, (wipeE vs δ)[j]? = some s → (j ∈ vs ∧ s = .un) ∨ (j ∉ vs ∧ δ[j]? = some s)
  | [], h => .inr ⟨by simp, h⟩
  | i :: is, h => by
    rcases set_get h with ⟨rfl, rfl, _⟩ | ⟨hn, h⟩
    · exact .inl ⟨List.mem_cons_self, rfl⟩
    · rcases wipeE_get h with ⟨h1, h2⟩ | ⟨h1, h2⟩
      · exact .inl ⟨List.mem_cons_of_mem _ h1, h2⟩
      · exact .inr ⟨by simp [hn, h1], h2⟩
theorem wipeE_len {δ : Env} : ∀ {vs : List Nat}, (wipeE vs δ).length = δ.length
  | [] => rfl
  | i :: is => by unfold wipeE; rw [List.length_set, wipeE_len]
theorem wipeW_len {ω : List (Option Addr)} : ∀ {vs : List Nat}, (wipeW vs ω).length = ω.length
  | [] => rfl
  | i :: is => by unfold wipeW; rw [List.length_set, wipeW_len]
theorem wipeW_get {ω : List (Option Addr)} {j : Nat} {a : Addr} : ∀ {vs : List Nat}, (wipeW vs ω)[j]? = some (some a) → j ∉ vs ∧ ω[j]? = some (some a)
  | [], h => ⟨by simp, h⟩
  | i :: is, h => by
    rcases set_get h with ⟨_, q, _⟩ | ⟨hn, h⟩
    · cases q
    · obtain ⟨h1, h2⟩ := wipeW_get h
      exact ⟨by simp [hn, h1], h2⟩
theorem wipeW_out {ω : List (Option Addr)} {j : Nat} : ∀ {vs : List Nat}, j ∉ vs → (wipeW vs ω)[j]? = ω[j]?
  | [], _ => rfl
  | i :: is, h => by
    unfold wipeW
    rw [List.getElem?_set_ne (fun z => h (by rw [z]; exact List.mem_cons_self)), wipeW_out fun z => h (List.mem_cons_of_mem _ z)]
theorem wipeW_in {ω : List (Option Addr)} {j : Nat} (hj : j < ω.length) : ∀ {vs : List Nat}, j ∈ vs → (wipeW vs ω)[j]? = some none
  | i :: is, h => by
    unfold wipeW
    by_cases e : i = j
    · subst e; rw [List.getElem?_set_self (by rw [wipeW_len]; exact hj)]
    · rw [List.getElem?_set_ne e]
      exact wipeW_in hj ((List.mem_cons.mp h).resolve_left (Ne.symm e))
theorem wipe_out' {σ : St} {j : Nat} : ∀ {vs : List Nat}, j ∉ vs → (wipe σ vs)[j]? = σ[j]?
  | [], _ => rfl
  | i :: is, h => by
    unfold wipe
    rw [List.getElem?_set_ne (fun z => h (by rw [z]; exact List.mem_cons_self)), wipe_out' fun z => h (List.mem_cons_of_mem _ z)]
theorem wipe_in {σ : St} {j : Nat} (hj : j < σ.length) : ∀ {vs : List Nat}, j ∈ vs → (wipe σ vs)[j]? = some none
  | i :: is, h => by
    unfold wipe
    by_cases e : i = j
    · subst e; rw [List.getElem?_set_self (by rw [wipe_length]; exact hj)]
    · rw [List.getElem?_set_ne e]
      exact wipe_in hj ((List.mem_cons.mp h).resolve_left (Ne.symm e))
theorem wipe_eq {σ σ2 : St} {is : List Nat} {ω ω' : List (Option Addr)} (h : SameBut is (wipe σ vs) σ2 ω ω') (hi : ∀ j ∈ is, j ∈ vs) : wipe σ2 vs = wipe σ vs := by
  apply List.ext_getElem?
  intro j
  have hl : σ2.length = σ.length := by rw [h.1, wipe_length]
  by_cases hj : j ∈ vs
  · by_cases hlt : j < σ.length
    · rw [wipe_in (by omega) hj, wipe_in hlt hj]
    · rw [List.getElem?_eq_none (by rw [wipe_length]; omega), List.getElem?_eq_none (by rw [wipe_length]; omega)]
  · rw [wipe_out' hj, h.2.1 j fun z => hj (hi j z)]
end
section
variable {G : Amb} {K : PySem.W.Frag} {S : Addr → HO → Prop} {T B : Addr → Prop} {A : Nat → Option Addr} {ω ω1 ω2 : List (Option Addr)} {H H1 H2 : Hp} {σ σ2 : St} {δ δ1 δ2 : Env} {vs : List Nat}
/-- the slots at vs are forgotten -/
theorem Fr.wipe (F : Fr G K S T B A ω H σ2 δ) (hl : σ2.length = σ.length) (hs : ∀ j, j ∉ vs → σ2[j]? = σ[j]?) : Fr G K S T B A (wipeW vs ω) H (L2.wipe σ vs) (wipeE vs δ) := by
  have w : WSub (wipeW vs ω) ω := fun i a h => (wipeW_get h).2
  refine ⟨F.inv, F.cb, F.bt, F.sT, F.sc, F.al, F.bm, F.dm, F.st, fun j b h => F.sw j b (w j b h), fun j k b h1 h2 => F.inj j k b (w j b h1) (w k b h2), fun j b h => F.wm j b (w j b h), by rw [wipe_length, wipeE_len, ← hl]; exact F.len, by rw [wipeW_len, wipeE_len]; exact F.lw, fun j s h => ?_⟩
  rcases wipeE_get h with ⟨hj, rfl⟩ | ⟨hj, h⟩
  · have hlt : j < ω.length := by
      have := (List.getElem?_eq_some_iff.mp h).1
      rw [wipeE_len, ← F.lw] at this
      exact this
    exact wipeW_in hlt hj
  · rw [wipe_out' hj, wipeW_out hj, ← hs j hj]
    exact (F.slot j s h).carry (Carry.sub (w.ow fun _ z => z)) (fun _ _ z => z) fun _ _ _ z _ => z
/-- an object that is ours but no name's is changed -/
theorem Fr.writeB (F : Fr G K S T B A ω H σ δ) {l : Addr} {o o' : HO} (hb : B l) (hc : ¬ G.C l) (hS : ∀ u, ¬ S l u) (h : H l = some o) (m : Mu o) (m' : Mu o') : Fr G K S T B A ω (upd H l o') σ δ := by
  have c : Carry K H (upd H l o') (Ow B ω) (Ow B ω) := Carry.own (.inl hb) h m
  refine ⟨G.wr H l o o' F.inv hc h m m', F.cb, F.bt, F.sT, F.sc, F.al, fun a ha => ?_, fun a ha => ?_, fun a u hu => ?_, F.sw, F.inj, fun j a ha => ?_, F.len, F.lw, fun j u hu => ?_⟩
  · by_cases z : a = l
    · rw [z]; exact ⟨o', upd_same, m'⟩
    · rw [upd_ne z]; exact F.bm a ha
  · by_cases z : a = l
    · rw [z]; exact ⟨o', upd_same, nt_mu m'⟩
    · obtain ⟨u, e, n⟩ := F.dm a ha
      exact ⟨u, by rw [upd_ne z]; exact e, n⟩
  · rw [upd_ne fun z => hS u (by rw [← z]; exact hu)]; exact F.st a u hu
  · rw [upd_ne fun z => (F.sw j a ha).1 (by rw [z]; exact hb)]; exact F.wm j a ha
  · exact (F.slot j u hu).carry c (fun _ _ z => z) fun a w hw ha _ => by rw [upd_ne fun z => (F.sw j a hw).1 (by rw [z]; exact hb)]; exact ha
/-- the names of a comprehension are as they were ahead of it -/
theorem restE_get {δ0 : Env} {j : Nat} {s : Sl} : ∀ {vs : List Nat} {δ : Env}, (restE δ0 vs δ)[j]? = some s → (j ∈ vs ∧ δ0[j]? = some s) ∨ (δ[j]? = some s ∧ (j ∉ vs ∨ δ0[j]? = none))
  | [], _, h => .inr ⟨h, .inl (by simp)⟩
  | i :: is, δ, h => by
    unfold restE at h
    cases e : δ0[i]? with
    | none =>
      simp only [e] at h
      rcases restE_get h with ⟨h1, h2⟩ | ⟨h1, h2⟩
      · exact .inl ⟨List.mem_cons_of_mem _ h1, h2⟩
      · by_cases hj : j = i
        · subst hj; exact .inr ⟨h1, .inr e⟩
        · rcases h2 with h2 | h2
          · exact .inr ⟨h1, .inl (by simp [hj, h2])⟩
          · exact .inr ⟨h1, .inr h2⟩
    | some s0 =>
      simp only [e] at h
      rcases set_get h with ⟨rfl, rfl, _⟩ | ⟨hn, h⟩
      · exact .inl ⟨List.mem_cons_self, e⟩
      · rcases restE_get h with ⟨h1, h2⟩ | ⟨h1, h2⟩
        · exact .inl ⟨List.mem_cons_of_mem _ h1, h2⟩
        · rcases h2 with h2 | h2
          · exact .inr ⟨h1, .inl (by simp [hn, h2])⟩
          · exact .inr ⟨h1, .inr h2⟩
theorem restE_len {δ0 : Env} : ∀ {vs : List Nat} {δ : Env}, (restE δ0 vs δ).length = δ.length
  | [], _ => rfl
  | i :: is, δ => by
    unfold restE
    split
    · rw [List.length_set, restE_len]
    · rw [restE_len]
end
end DL

set_option Elab.async false
set_option linter.all false
set_option maxRecDepth 100000
namespace DL
open PySem L2
/-! ### a comprehension's turns -/
abbrev E0' : XK := fun _ _ _ => False
section
variable {X : Cx} {G : Amb} {E : XK} {tg iter elt : Expr} {γ : DTg} {θ : DTT} {τ : DT} {ι : DIt} {is vs : List Nat}
theorem Fr.narrow {G : Amb} {K : PySem.W.Frag} {S S' : Addr → HO → Prop} {T T' B B' : Addr → Prop} {A : Nat → Option Addr} {ω ω2 : List (Option Addr)} {H H2 : Hp} {σ σ2 : St} {δ δ2 : Env} (F : Fr G K S T B A ω H σ δ) (F2 : Fr G K S' T' B' A ω2 H2 σ2 δ2)
    (h1 : ∀ a o, S a o → S' a o) (h2 : ∀ a, T a → T' a) (h3 : ∀ a, B a → B' a) (hl : ∀ a o, S' a o → B a → S a o) : Fr G K S T B A ω2 H2 σ2 δ2 :=
  F2.less h1 h2 h3 F.cb F.bt F.sT F.al fun a o h ⟨i, q⟩ => hl a o h (F.al i a q)
theorem nS_B {S : Addr → HO → Prop} {H : Hp} {B : Addr → Prop} {ω : List (Option Addr)} {a : Addr} {o : HO} (h : nS S H B none ω a o) (b : B a) : S a o := by
  rcases h with h | ⟨_, _, h | h⟩
  · exact h
  · exact (h (by rw [bp_none]; exact .inl b)).elim
  · cases h
theorem lc_core' {S : Addr → HO → Prop} {T B : Addr → Prop} {A : Nat → Option Addr} {ω : List (Option Addr)} {H : Hp} {σ : St} {δ : Env} {Z : Ex → Prop} {Q : VK} (mi : MonoI ι) (mg : MonoG γ) (mt : MonoT θ) (m : Mono τ) (hv : ∀ j ∈ is, j ∈ vs)
    (Fs : Fr G X.K S T B A ω H σ δ) (z : EOk G X.K S T B Z E) (q : xLc ι γ θ τ vs Z δ (tK G X.K S T B A ω σ Q)) : tLc (tI G X.K E ι) (tG G X.K is γ) (tT G X.K E0' θ) (tD G X.K E0' τ) vs σ H Q := by
  refine ⟨S, T, B, A, ω, δ, Z, Fs, z, mi.m _ _ _ _ _ (fun _ z => z) (fun ds l δ1 q J H1 ω1 S' T' B' A' it => ?_) q⟩
  obtain ⟨hlen, hplain, q⟩ := q
  intro D hD
  obtain ⟨Gd, Y, wk, hG, hY⟩ := it.walk
  have F1 := it.fr
  have Fw : Fr G X.K (nS S' H1 B' none ω1) (nT H1) B' A' (wipeW vs ω1) H1 (wipe σ vs) (wipeE vs δ1) := F1.pin.wipe rfl fun _ _ => rfl
  have FD := Fw.laidP (o := .lst []) hD trivial
  have nCD : ¬ G.C D := fun c => by obtain ⟨u, e, _⟩ := F1.bm D (F1.cb D c); rw [hD] at e; cases e
  have nBD : ¬ B' D := fun c => by obtain ⟨u, e, _⟩ := F1.bm D c; rw [hD] at e; cases e
  have nSD : ∀ u, ¬ nS S' H1 B' none ω1 D u := fun u h => by have := Fw.st D u h; rw [hD] at this; cases this
  have toS : ∀ {ω2 : List (Option Addr)} {H2 : Hp} {σ2 : St} {δ2 : Env}, Fr G X.K (nS S' H1 B' none ω1) (Bp (nT H1) (some D)) (Bp B' (some D)) A' ω2 H2 σ2 δ2 → Fr G X.K S' T' B' A' ω2 H2 σ2 δ2 := fun f =>
    F1.narrow f (fun _ _ h => .inl h) (fun a h => .inl (F1.dm a h)) (fun _ h => .inl h) fun a o h b => nS_B h b
  have toS2 : ∀ {ω2 : List (Option Addr)} {H2 : Hp} {σ2 : St} {δ2 : Env}, Fr G X.K (nS S' H1 B' none ω1) (Bp (nT H1) (some D)) (Bp B' (some D)) A' ω2 H2 σ2 δ2 → Fr G X.K S' (Bp (nT H1) (some D)) (Bp B' (some D)) A' ω2 H2 σ2 δ2 := fun {ω2 H2 σ2 δ2} f =>
    f.less (fun _ _ h => .inl h) (fun _ h => h) (fun _ h => h) (fun a c => .inl (F1.cb a c)) (fun a h => h.elim (fun z => .inl (F1.dm a (F1.bt a z))) .inr) (fun a o h => .inl (F1.dm a (F1.sT a o h))) (fun i a h => .inl (F1.al i a h)) fun a o h ⟨i, q⟩ => nS_B h (F1.al i a q)
  have hB2 : ∀ a, Bp B' (some D) a → B' a ∨ ¬ nT H1 a := fun a h => h.elim .inl fun e => by cases e; exact .inr fun ⟨o, q, _⟩ => by rw [hD] at q; cases q
  have cB : Carry X.K H1 H1 (Ow B' ω1) (Ow B' ω1) := Carry.sub fun _ z => z
  refine lc_it wk (fun i H => ∃ ω2 δ2 acc accV, Fr G X.K (nS S' H1 B' none ω1) (Bp (nT H1) (some D)) (Bp B' (some D)) A' ω2 H (wipe σ vs) δ2 ∧ H D = some (.lst accV) ∧ RepL X.K H (Ow (Bp B' (some D)) ω2) acc accV ∧
      lcL γ θ τ vs (fun acc δ2 => tK G X.K S T B A ω σ Q (.n acc) (un l (restE δ1 vs δ2))) (ds.drop i) δ2 acc ∧ acc.length ≤ i ∧ WSub ω2 (wipeW vs ω1) ∧ ∀ j ∈ vs, ∀ s, δ2[j]? = some s → s = .un) ?_ ?_ ?_ ?_
  · exact ⟨_, _, [], [], FD, upd_same, rfl, q, Nat.le_refl _, .refl, fun j hj s h => (wipeE_get h).elim (fun z => z.2) fun z => (z.1 hj).elim⟩
  · rintro i H2 _ ⟨ω2, δ2, acc, accV, f, _⟩
    exact hG _ _ _ _ _ _ hB2 (toS2 f)
  · rintro i x H2 H3 hi ⟨ω2, δ2, acc, accV, f, hDl, ra, q, hl, w, hun⟩ y
    obtain ⟨d, ed, gv⟩ := hY i x H2 H3 _ _ _ _ _ hB2 hi (toS2 f) y
    have e : ds.drop i = d :: ds.drop (i + 1) := by
      rw [List.drop_eq_getElem_cons hi]
      have e2 := List.getElem?_eq_getElem hi
      rw [ed] at e2
      rw [Option.some.inj e2]
    rw [e] at q
    have nwD : ∀ (j : Nat), ω2[j]? ≠ some (some D) := fun j h => (f.sw j D h).1 (.inr rfl)
    -- all but ours stays in this turn, and the list so far
    have Ft : Fr G X.K (fun a o => nS (nS S' H1 B' none ω1) H2 (Bp B' (some D)) none ω2 a o ∨ (a = D ∧ o = .lst accV)) (nT H2) (Bp B' (some D)) A' ω2 H2 (wipe σ vs) δ2 := by
      refine f.pin.more (fun _ _ h => .inl h) (fun a o h => ?_) (fun _ h => h) fun a h => h
      rcases h with h | ⟨rfl, rfl⟩
      · exact ⟨f.pin.st a o h, f.pin.sc a o h, f.pin.sT a o h, fun j z => (f.pin.sw j a z).2 o h⟩
      · exact ⟨hDl, ⟨nCD, nt_lst⟩, ⟨_, hDl, nt_lst⟩, nwD⟩
    have back : ∀ {ω4 : List (Option Addr)} {H4 : Hp} {σ4 : St} {δ4 : Env}, Fr G X.K (fun a o => nS (nS S' H1 B' none ω1) H2 (Bp B' (some D)) none ω2 a o ∨ (a = D ∧ o = .lst accV)) (nT H2) (Bp B' (some D)) A' ω4 H4 σ4 δ4 → Fr G X.K (nS S' H1 B' none ω1) (Bp (nT H1) (some D)) (Bp B' (some D)) A' ω4 H4 σ4 δ4 := fun f4 => by
      refine f4.less (fun _ _ h => .inl (.inl h)) (fun a h => f.dm a h) (fun _ h => h) f.cb f.bt f.sT f.al fun a o h ⟨j, q⟩ => ?_
      rcases h with h | ⟨h, _⟩
      · exact nS_B h (f.al j a q)
      · rw [h] at q; exact (nBD (F1.al j D q)).elim
    have accC : ∀ {ω4 : List (Option Addr)} {H4 : Hp} {σ4 : St} {δ4 : Env}, Fr G X.K (fun a o => nS (nS S' H1 B' none ω1) H2 (Bp B' (some D)) none ω2 a o ∨ (a = D ∧ o = .lst accV)) (nT H2) (Bp B' (some D)) A' ω4 H4 σ4 δ4 → Carry X.K H2 H4 (Ow (Bp B' (some D)) ω2) (Ow (Bp B' (some D)) ω4) := fun f4 =>
      pin_carry (S' := fun a o => nS (nS S' H1 B' none ω1) H2 (Bp B' (some D)) none ω2 a o ∨ (a = D ∧ o = .lst accV)) (fun a o h n m => .inl (pin_all h n m)) f.om f4 fun a h => .inl (.inl h)
    obtain ⟨P, ev⟩ := gv.ev Ft .refl
    refine ⟨_, _, _, _, ω2, δ2, P, .v d, Ft.stat, ev.fr, ev.rp, mg.m _ _ _ _ (fun δ3 q σ3 H4 ω4 f4 sb => ?_) q⟩
    have hv' : ∀ j, j ∉ vs → j ∉ is := fun j h z => h (hv j z)
    have sl : σ3.length = σ.length := by rw [sb.1, wipe_length]
    have sg : ∀ j, j ∉ vs → σ3[j]? = σ[j]? := fun j h => by rw [sb.2.1 j (hv' j h), wipe_out' h]
    have wfin : ∀ {ω5 : List (Option Addr)}, WSub ω5 ω4 → WSub (wipeW vs ω5) (wipeW vs ω1) := fun w5 j a h => by
      obtain ⟨hj, h5⟩ := wipeW_get h
      exact w j a (sb.2.2 j a (hv' j hj) (w5 j a h5))
    have unW : ∀ {δ5 : Env}, ∀ j ∈ vs, ∀ s, (wipeE vs δ5)[j]? = some s → s = .un := fun j hj s h => (wipeE_get h).elim (fun z => z.2) fun z => (z.1 hj).elim
    refine ⟨wipe_eq sb hv, tT_of mt f4 eok_no q fun b δ5 H5 ω5 q f5 w5 => ?_⟩
    cases b with
    | false => exact ⟨wipeW vs ω5, wipeE vs δ5, acc, accV, (back f5).wipe sl sg, f5.st D _ (.inr ⟨rfl, rfl⟩), RepL.carry (Carry.trans (accC f5) (Carry.sub fun a h => h.elim .inl fun ⟨j, h⟩ => .inr ⟨j, (wipeW_get h).2⟩)) ra, q, Nat.le_succ_of_le hl, wfin w5, unW⟩
    | true =>
      refine tD_of f5 eok_no (m.m _ _ _ _ _ (fun _ z => z) (fun o δ6 q yv H6 ω6 P6 ev6 => ?_) q) m
      obtain ⟨y, ey, q⟩ := kpK_some q
      have f6 := ev6.drop f5
      have ry := ev6.kp f5 ey
      have hD6 : H6 D = some (.lst accV) := f6.st D _ (.inr ⟨rfl, rfl⟩)
      have ra6 := RepL.carry (accC f6) ra
      have c : Carry X.K H6 (upd H6 D (.lst (accV ++ [yv]))) (Ow (Bp B' (some D)) ω6) (Ow (Bp B' (some D)) (wipeW vs ω6)) := Carry.trans (Carry.own (.inl (.inr rfl)) hD6 trivial) (Carry.sub fun a h => h.elim .inl fun ⟨j, h⟩ => .inr ⟨j, (wipeW_get h).2⟩)
      have fw := (back f6).writeB (l := D) (o' := .lst (accV ++ [yv])) (.inr rfl) nCD nSD hD6 trivial trivial
      refine ⟨accV, hD6, by rw [← ra.length, sizeLine_eq]; omega, wipeW vs ω6, wipeE vs δ6, acc ++ [y], accV ++ [yv], fw.wipe sl sg, upd_same, RepL.carry c (RepL.append ra6 (RepL.one ry)), q, by rw [List.length_append, List.length_singleton]; omega, wfin (ev6.ws.trans w5), unW⟩
  · rintro H2 ⟨ω2, δ2, acc, accV, f, hDl, ra, q, hl, w, hun⟩
    rw [List.drop_length] at q
    have q : tK G X.K S T B A ω σ Q (.n acc) (un l (restE δ1 vs δ2)) := q
    -- the names get back what they had
    have fr : Fr G X.K (nS S' H1 B' none ω1) (Bp (nT H1) (some D)) (Bp B' (some D)) A' ω2 H2 σ (restE δ1 vs δ2) := by
      refine ⟨f.inv, f.cb, f.bt, f.sT, f.sc, f.al, f.bm, f.dm, f.st, f.sw, f.inj, f.wm, by rw [restE_len, ← f.len, wipe_length], by rw [restE_len]; exact f.lw, fun j s h => ?_⟩
      have jlt : j < δ2.length := by
        have := (List.getElem?_eq_some_iff.mp h).1
        rwa [restE_len] at this
      rcases restE_get h with ⟨hj, h1⟩ | ⟨h1, h2⟩
      · have e2 := List.getElem?_eq_getElem jlt
        have eu := hun j hj _ e2
        rw [eu] at e2
        have wj : ω2[j]? = some none := f.slot j _ e2
        have hp := List.all_eq_true.mp hplain j hj
        simp only [h1] at hp
        have s1 := F1.slot j s h1
        cases s with
        | un => exact wj
        | val d =>
          obtain ⟨_, v, q2, q3⟩ := s1
          exact ⟨wj, v, q2, Rep.carry (pin_carry (S' := nS S' H1 B' none ω1) (fun a o h n m => pin_all h n m) F1.om f fun a h => (hB2 a h).elim (fun z => .inl (.inl z)) .inr) q3⟩
        | _ => cases hp
      · have hj : j ∉ vs := by
          rcases h2 with h2 | h2
          · exact h2
          · have : δ1.length ≤ j := List.getElem?_eq_none_iff.mp h2
            rw [← f.len, wipe_length, F1.len] at jlt
            omega
        have := f.slot j s h1
        rw [wipe_out' hj] at this
        exact this
    have frB : Fr G X.K S' (Bp T' (some D)) (Bp B' (some D)) A' ω2 H2 σ (restE δ1 vs δ2) :=
      fr.less (fun _ _ h => .inl h) (fun a h => h.elim (fun z => .inl (F1.dm a z)) .inr) (fun _ h => h) (fun a c => .inl (F1.cb a c)) (fun a h => h.elim (fun z => .inl (F1.bt a z)) .inr) (fun a o h => .inl (F1.sT a o h)) (fun i a h => .inl (F1.al i a h)) fun a o h ⟨i, q⟩ => nS_B h (F1.al i a q)
    obtain ⟨ω3, f3, hw3⟩ := it.back (some D) ω2 H2 σ _ (fun p hp => by cases hp; exact hD) frB
    have ws3 : WSub ω3 ω := fun j a h => (hw3 j a h).elim (fun z => it.ws j a (wipeW_get (w j a z)).2) fun z => z.1
    have nT0 : ¬ T D := fun z => by obtain ⟨u, e, _⟩ := F1.dm D (it.hT D z); rw [hD] at e; cases e
    refine q (.ref D) H2 ω3 (some D) ⟨f3, ws3, D, accV, rfl, rfl, nT0, hDl, RepL.carry (Carry.sub fun a h => ?_) ra⟩
    rcases h with (h | h) | ⟨j, h⟩
    · exact .inl (.inl (it.hB a h))
    · exact .inl (.inr h)
    · exact (hw3 j a h).elim (fun z => .inr ⟨j, z⟩) fun z => .inl (.inl z.2)
theorem db_yes {ifs : List Expr} (h : ifs = []) : MonoT xYes := ⟨fun _ _ _ _ _ _ h q => h _ _ q⟩
theorem PTs.imp {X : Cx} {e : List Expr} {t t' : TT} (h : PTs X e t) (i : ∀ σ H Q, t' σ H Q → t σ H Q) : PTs X e t' := ⟨fun pins s σ H Q I q => h.run pins s σ H Q I (i σ H Q q)⟩
/-- a clause's tests -/
structure DTs (X : Cx) (G : Amb) (E : XK) (ifs : List Expr) (θ : DTT) : Prop where
  pt : PTs X ifs (tT G X.K E θ)
  mono : MonoT θ
theorem dts_nil {E : XK} : DTs X G E [] xYes := ⟨PTs.imp pts_nil fun σ H Q h => by
  obtain ⟨S, T, B, A, ω, δ, Z, F, z, q⟩ := h
  exact q _ _ F .refl, ⟨fun _ _ _ _ _ _ h q => h _ _ q⟩⟩
theorem dts_one {E : XK} {c : Expr} (h : DB X G E c θ) : DTs X G E [c] θ := ⟨pts_one h.pt, h.mono⟩
/-- as a value -/
theorem de_lc {ifs : List Expr} {scope : Scope} {own : List (Str × Nat)} {pos : Pos} (hc : X.calm = true) (hN : X.N.Nodup) (hi : DI X G E tg iter ι) (ok : BlkOk X.N X.env.scope scope own)
    (hg : ∀ (s : Shared) (H : Hp) (C : Addr) (cl : List (Str × Addr)) (fp : List Addr), DG (X.blk s H scope (compEnvC scope cl C X.env) fp) G tg is γ) (hv : ∀ j ∈ is, j ∈ own.map (·.2))
    (ht : ∀ (s : Shared) (H : Hp) (C : Addr) (cl : List (Str × Addr)) (fp : List Addr), DTs (X.blk s H scope (compEnvC scope cl C X.env) fp) G E0' ifs θ)
    (he : ∀ (s : Shared) (H : Hp) (C : Addr) (cl : List (Str × Addr)) (fp : List Addr), DE (X.blk s H scope (compEnvC scope cl C X.env) fp) G E0' elt τ) (hs : ∀ x, foldedSetIterable iter X.env x = pure x := by intro _; rfl) :
    DE X G E (.ListComp elt [⟨tg, iter, ifs, 0⟩] scope pos) (xLc ι γ θ τ (own.map (·.2))) := by
  have mg := (hg X.s_0 X.H_0 0 [] []).mono
  have mt := (ht X.s_0 X.H_0 0 [] []).mono
  have me := (he X.s_0 X.H_0 0 [] []).mono
  have m := mono_lc (vs := own.map (·.2)) hi.mono mg mt me
  refine ⟨PE.imp (pe_lc (g := tG G X.K is γ) (tt := tT G X.K E0' θ) (te := tD G X.K E0' τ) hc hN hi.pi ok (fun s H C cl fp => (hg s H C cl fp).pg) (fun s H C cl fp => (ht s H C cl fp).pt) (fun s H C cl fp => (he s H C cl fp).pe) hs) fun σ H Q h => ?_, m⟩
  obtain ⟨S, T, B, A, ω, δ, Z, F, z, q⟩ := tD_to m h
  exact lc_core' hi.mono mg mt me hv F z q
/-- name = [..] -/
theorem ds_setLc {i : Nat} {y : Str} {py : Pos} {ifs : List Expr} {scope : Scope} {own : List (Str × Nat)} {pos spos : Pos} (hc : X.calm = true) (hN : X.N.Nodup) (hy : X.N[i]? = some y) (hyl : X.env.scope.names.lookup y = some .local)
    (hsw : swapsWith (.ListComp elt [⟨tg, iter, ifs, 0⟩] scope pos) (some (.Name y py)) spos.line X.env = pure true) (hi : DI X G E tg iter ι) (ok : BlkOk X.N X.env.scope scope own)
    (hg : ∀ (s : Shared) (H : Hp) (C : Addr) (cl : List (Str × Addr)) (fp : List Addr), DG (X.blk s H scope (compEnvC scope cl C X.env) fp) G tg is γ) (hv : ∀ j ∈ is, j ∈ own.map (·.2))
    (ht : ∀ (s : Shared) (H : Hp) (C : Addr) (cl : List (Str × Addr)) (fp : List Addr), DTs (X.blk s H scope (compEnvC scope cl C X.env) fp) G E0' ifs θ)
    (he : ∀ (s : Shared) (H : Hp) (C : Addr) (cl : List (Str × Addr)) (fp : List Addr), DE (X.blk s H scope (compEnvC scope cl C X.env) fp) G E0' elt τ) (hs : ∀ x, foldedSetIterable iter X.env x = pure x := by intro _; rfl) :
    DS X G E (.Assign [.Name y py] (.ListComp elt [⟨tg, iter, ifs, 0⟩] scope pos) spos) (xAsg (xLc ι γ θ τ (own.map (·.2))) (xName i)) := by
  have mg := (hg X.s_0 X.H_0 0 [] []).mono
  have mt := (ht X.s_0 X.H_0 0 [] []).mono
  have me := (he X.s_0 X.H_0 0 [] []).mono
  have m := mono_lc (vs := own.map (·.2)) hi.mono mg mt me
  refine ⟨PS.imp (ps_setLc (g := tG G X.K is γ) (tt := tT G X.K E0' θ) (te := tD G X.K E0' τ) hc hN hy hyl hsw hi.pi ok (fun s H C cl fp => (hg s H C cl fp).pg) (fun s H C cl fp => (ht s H C cl fp).pt) (fun s H C cl fp => (he s H C cl fp).pe) hs) fun D σ H h => ?_, mono_asg m mono_name⟩
  obtain ⟨S, T, B, A, ω, δ, F, Fs, z, en, q⟩ := h
  refine lc_core' (Q := fun x H1 => gName i x σ H1 D.nx) hi.mono mg mt me hv Fs z (m.m _ _ _ _ _ (fun _ z => z) (fun o δ' q v H' ω' P ev => ?_) q)
  obtain ⟨ω2, δ2, F2, _, q⟩ := ev.fr.putOp Fs.stat ev.rp q
  exact en.nx _ _ _ _ F2 q
end
end DL

set_option Elab.async false
set_option linter.all false
set_option maxRecDepth 100000
namespace DL
open PySem L2
/-! ### the operations by name -/
section
variable {X : Cx} {K : PySem.W.Frag} {H : Hp} {O : Addr → Prop}
theorem RepTop.ls {ds : List D} {v : V} (h : RepTop K H O (.lst ds) v) : ∃ a vs, v = .ref a ∧ H a = some (.lst vs) ∧ RepL K H O ds vs := h
theorem RepTop.tp {ds : List D} {v : V} (h : RepTop K H O (.tup ds) v) : ∃ a vs, v = .ref a ∧ SqT K H a vs ∧ RepL K H O ds vs := h
theorem RepTop.rep {d : D} {v : V} (h : RepTop K H O d v) (n : ∀ ds, d ≠ .lst ds) (n2 : ∀ ds, d ≠ .dic ds) (n3 : ∀ ds, d ≠ .dit ds) : Rep K H O d v := by
  cases d <;> first | exact h | exact absurd rfl (n _) | exact absurd rfl (n2 _) | exact absurd rfl (n3 _)
theorem RepTop.int {i : Int} {v : V} (h : RepTop K H O (.int i) v) : v = .int i := h
theorem RepL.ofInts : ∀ {ns : List Int} {vs : List V}, RepL K H O (ns.map D.int) vs → vs = ns.map V.int
  | [], _, h => h
  | n :: ns, vs, h => by obtain ⟨v, r, rfl, e, h⟩ := h; cases e; rw [RepL.ofInts h]; rfl
theorem RepL.ofBls : ∀ {ns : List Bool} {vs : List V}, RepL K H O (ns.map D.bl) vs → vs = ns.map V.bl
  | [], _, h => h
  | n :: ns, vs, h => by obtain ⟨v, r, rfl, e, h⟩ := h; cases e; rw [RepL.ofBls h]; rfl
theorem RepL.rep' {k : Nat} : ∀ {ds : List D} {vs : List V}, RepL K H O ds vs → RepL K H O (List.replicate k ds).flatten (List.replicate k vs).flatten := fun {ds vs} h => by
  induction k with
  | zero => rfl
  | succ k ih => rw [List.replicate_succ, List.replicate_succ, List.flatten_cons, List.flatten_cons]; exact h.append ih
def addR : D2 := fun d1 d2 P => match d1, d2 with
  | .int i, .int j => P (.v (.int (i + j)))
  | .str a, .str b => a.length + b.length ≤ 16777216 ∧ P (.v (.str (a ++ b)))
  | .lst a, .lst b => a.length + b.length ≤ 16777216 ∧ P (.n (a ++ b))
  | .tup a, .tup b => a.length + b.length ≤ 16777216 ∧ P (.v (.tup (a ++ b)))
  | _, _ => False
theorem opd_add : OpD X (binaryOp .Add) addR := by
  refine ⟨⟨_, OpR.or op_add (OpR.or op_add_str (OpR.or op_cat op_catA)), fun {H O d1 d2 v1 v2 P Q} om t1 t2 q k => ?_⟩, ⟨fun d1 d2 P P' h q => by cases d1 <;> cases d2 <;> first | exact q.elim | exact h _ q | exact ⟨q.1, h _ q.2⟩⟩⟩
  cases d1 <;> cases d2 <;> first | exact q.elim | skip
  · cases t1; cases t2; exact .inl ⟨_, _, rfl, rfl, k _ _ _ q (.same rfl)⟩
  · cases t1; cases t2; exact .inr (.inl ⟨_, _, rfl, rfl, by rw [sizeLine_eq]; exact q.1, k _ _ _ q.2 (.same rfl)⟩)
  · obtain ⟨a, vs, rfl, h1, r1⟩ := t1
    obtain ⟨b, us, rfl, h2, r2⟩ := t2
    have l1 := r1.length
    have l2 := r2.length
    refine .inr (.inr (.inr ⟨a, b, vs, us, rfl, rfl, h1, h2, by rw [sizeLine_eq, ← l1, ← l2]; exact q.1, fun e => ?_, fun e e2 => ?_, fun e e2 p hp => k _ _ _ q.2 (.tup hp (r1.append r2))⟩))
    · subst e; cases List.length_eq_zero_iff.1 l1; exact k _ _ _ q.2 (.same ⟨b, us, rfl, h2, r2⟩)
    · subst e2; cases List.length_eq_zero_iff.1 l2; exact k _ _ _ q.2 (.same (by rw [List.append_nil]; exact ⟨a, vs, rfl, h1, r1⟩))
  · obtain ⟨a, vs, rfl, h1, r1⟩ := t1
    obtain ⟨b, us, rfl, h2, r2⟩ := t2
    exact .inr (.inr (.inl ⟨a, b, vs, us, rfl, rfl, h1, h2, by rw [sizeLine_eq, ← r1.length, ← r2.length]; exact q.1, fun p hp => k _ _ _ q.2 (.lst hp (r1.append r2))⟩))
def subR : D2 := fun d1 d2 P => match d1, d2 with
  | .int i, .int j => P (.v (.int (i - j)))
  | _, _ => False
theorem opd_int {op : Value → Value → Sem Value} {C : Int → Int → Prop} {g : Int → Int → Int} {ρ : D2} (h : OpR X op (rI C fun i j => V.int (g i j))) (e : ∀ d1 d2 P, ρ d1 d2 P ↔ match d1, d2 with
    | .int i, .int j => C i j ∧ P (.v (.int (g i j)))
    | _, _ => False) : OpD X op ρ := by
  refine ⟨⟨_, h, fun {H O d1 d2 v1 v2 P Q} om t1 t2 q k => ?_⟩, ⟨fun d1 d2 P P' h q => (e ..).2 (by replace q := (e ..).1 q; cases d1 <;> cases d2 <;> first | exact q.elim | exact ⟨q.1, h _ q.2⟩)⟩⟩
  replace q := (e ..).1 q
  cases d1 <;> cases d2 <;> first | exact q.elim | skip
  cases t1; cases t2; exact ⟨_, _, rfl, rfl, q.1, k _ _ _ q.2 (.same rfl)⟩
theorem opd_sub : OpD X (binaryOp .Sub) subR := by
  refine ⟨⟨_, op_sub, fun {H O d1 d2 v1 v2 P Q} om t1 t2 q k => ?_⟩, ⟨fun d1 d2 P P' h q => by cases d1 <;> cases d2 <;> first | exact q.elim | exact h _ q⟩⟩
  cases d1 <;> cases d2 <;> first | exact q.elim | skip
  cases t1; cases t2; exact ⟨_, _, rfl, rfl, k _ _ _ q (.same rfl)⟩
/-- a product: small ones, and sums of lengths below a million -/
def mulOk (i j : Int) : Prop := CMul i j ∨ CMulW i j
def mulR : D2 := fun d1 d2 P => match d1, d2 with
  | .int i, .int j => mulOk i j ∧ P (.v (.int (i * j)))
  | .lst a, .int k => (k < 16777217 ∧ -16777216 ≤ k ∧ a.length * k.toNat ≤ 16777216) ∧ P (.n (List.replicate k.toNat a).flatten)
  | .tup a, .int k => (a ≠ [] ∧ 2 ≤ k ∧ k ≤ 1000 ∧ a.length ≤ 1000) ∧ P (.v (.tup (List.replicate k.toNat a).flatten))
  | _, _ => False
theorem opd_mul : OpD X (binaryOp .Mult) mulR := by
  refine ⟨⟨_, OpR.or (OpR.or op_mul op_mulW) (OpR.or op_rep op_repT), fun {H O d1 d2 v1 v2 P Q} om t1 t2 q k => ?_⟩, ⟨fun d1 d2 P P' h q => by cases d1 <;> cases d2 <;> first | exact q.elim | exact ⟨q.1, h _ q.2⟩⟩⟩
  cases d1 <;> cases d2 <;> first | exact q.elim | skip
  · cases t1; cases t2
    rcases q.1 with c | c
    · exact .inl (.inl ⟨_, _, rfl, rfl, c, k _ _ _ q.2 (.same rfl)⟩)
    · exact .inl (.inr ⟨_, _, rfl, rfl, c, k _ _ _ q.2 (.same rfl)⟩)
  · obtain ⟨a, vs, rfl, h1, r1⟩ := t1
    cases t2
    obtain ⟨⟨n, c1, c2, c3⟩, q⟩ := q
    have l1 := r1.length
    refine .inr (.inr ⟨a, _, vs, rfl, rfl, h1, fun e => n ?_, c1, c2, by rw [← l1]; exact c3, fun p hp => k _ _ _ q (.tup hp r1.rep')⟩)
    subst e; exact List.length_eq_zero_iff.1 l1
  · obtain ⟨a, vs, rfl, h1, r1⟩ := t1
    cases t2
    obtain ⟨⟨c1, c2, c3⟩, q⟩ := q
    exact .inr (.inl ⟨a, _, vs, rfl, rfl, h1, by omega, by omega, by rw [sizeLine_eq, ← r1.length]; exact c3, fun p hp => k _ _ _ q (.lst hp r1.rep')⟩)
def divR : D2 := fun d1 d2 P => match d1, d2 with
  | .int i, .int j => (0 < j ∧ j.natAbs.log2 < 9000) ∧ P (.v (.int (i / j)))
  | _, _ => False
theorem opd_div : OpD X (binaryOp .FloorDiv) divR := opd_int op_fdivW fun d1 d2 P => by cases d1 <;> cases d2 <;> exact Iff.rfl
def modR : D2 := fun d1 d2 P => match d1, d2 with
  | .int i, .int j => 0 < j ∧ P (.v (.int (i % j)))
  | _, _ => False
theorem opd_mod : OpD X (binaryOp .Mod) modR := opd_int op_mod fun d1 d2 P => by cases d1 <;> cases d2 <;> exact Iff.rfl
def powR : D2 := fun d1 d2 P => match d1, d2 with
  | .int i, .int j => (0 ≤ j ∧ j ≤ 1000000 ∧ i.natAbs < 2 ^ 64) ∧ P (.v (.int (i ^ j.toNat)))
  | _, _ => False
theorem opd_pow : OpD X (binaryOp .Pow) powR := opd_int op_pow fun d1 d2 P => by cases d1 <;> cases d2 <;> exact Iff.rfl
/-! comparisons -/
def intC (d1 d2 : D) : Prop := match d1, d2 with
  | .int _, .int _ => True
  | _, _ => False
def intF (f : Int → Int → Bool) (d1 d2 : D) : Bool := match d1, d2 with
  | .int i, .int j => f i j
  | _, _ => false
def ltR : D2 := cmpR intC (intF fun i j => decide (i < j))
def leR : D2 := cmpR intC (intF fun i j => decide (i ≤ j))
def gtR : D2 := cmpR intC (intF fun i j => decide (j < i))
def geR : D2 := cmpR intC (intF fun i j => decide (j ≤ i))
theorem opd_cmpI {op : Value → Value → Sem Value} {f : Int → Int → Bool} (h : OpR X op (rI0 fun i j => V.bl (f i j))) : OpD X op (cmpR intC (intF f)) := by
  refine ⟨⟨_, h, fun {H O d1 d2 v1 v2 P Q} om t1 t2 q k => ?_⟩, m2_cmp⟩
  obtain ⟨c, q⟩ := q
  cases d1 <;> cases d2 <;> first | exact c.elim | skip
  cases t1; cases t2; exact ⟨_, _, rfl, rfl, k _ _ _ q (.same rfl)⟩
theorem opd_lt : OpD X (compareOp .Lt) ltR := opd_cmpI op_lt
theorem opd_le : OpD X (compareOp .LtE) leR := opd_cmpI op_le
theorem opd_gt : OpD X (compareOp .Gt) gtR := opd_cmpI op_gt
theorem opd_ge : OpD X (compareOp .GtE) geR := opd_cmpI op_ge
/-! equality -/
mutual
def pyD : D → PyData
  | .non => .none
  | .bl b => .bool b
  | .int i => .int i
  | .str s => .str s
  | .tup ds => .tuple (pyDs ds)
  | .lst ds => .list (pyDs ds)
  | .dic _ => .none
  | .dit _ => .none
  | .ref _ => .none
def pyDs : List D → List PyData
  | [] => []
  | d :: ds => pyD d :: pyDs ds
end
mutual
def eqD : D → D → Bool
  | .non, .non => true
  | .bl a, .bl b => a == b
  | .bl a, .int j => (if a = true then (1 : Int) else 0) == j
  | .int i, .bl b => i == (if b = true then (1 : Int) else 0)
  | .int i, .int j => i == j
  | .str x, .str y => x == y
  | .lst xs, .lst ys => eqDs xs ys
  | .tup xs, .tup ys => eqDs xs ys
  | _, _ => false
def eqDs : List D → List D → Bool
  | [], [] => true
  | x :: xs, y :: ys => eqD x y && eqDs xs ys
  | _, _ => false
end
-- no dict in it, not too deep
mutual
def okD : Nat → D → Bool
  | _, .non => true
  | _, .bl _ => true
  | _, .int _ => true
  | _, .str s => PyData.strOk s
  | n + 1, .tup ds => okDs n ds
  | n + 1, .lst ds => okDs n ds
  | _, _ => false
def okDs : Nat → List D → Bool
  | _, [] => true
  | n, d :: ds => okD n d && okDs n ds
end
mutual
theorem okD_lay : ∀ (n : Nat) (d : D), okD n d = true → (pyD d).canLay0 = true ∧ (pyD d).depth ≤ n
  | n, .non, _ => ⟨rfl, by simp [pyD, PyData.depth]⟩
  | n, .bl _, _ => ⟨rfl, by simp [pyD, PyData.depth]⟩
  | n, .int _, _ => ⟨rfl, by simp [pyD, PyData.depth]⟩
  | n, .str s, h => ⟨by simpa [pyD, PyData.canLay0, okD] using h, by simp [pyD, PyData.depth]⟩
  | n + 1, .tup ds, h => by
    have := okDs_lay n ds (by simpa [okD] using h)
    exact ⟨by simp only [pyD, PyData.canLay0]; exact this.1, by simp only [pyD, PyData.depth]; exact Nat.add_le_add_right this.2 1⟩
  | n + 1, .lst ds, h => by
    have := okDs_lay n ds (by simpa [okD] using h)
    exact ⟨by simp only [pyD, PyData.canLay0]; exact this.1, by simp only [pyD, PyData.depth]; exact Nat.add_le_add_right this.2 1⟩
  | 0, .tup ds, h => by simp [okD] at h
  | 0, .lst ds, h => by simp [okD] at h
  | n, .dic _, h => by simp [okD] at h
  | n, .dit _, h => by simp [okD] at h
  | n, .ref _, h => by simp [okD] at h
theorem okDs_lay : ∀ (n : Nat) (ds : List D), okDs n ds = true → PyData.canLayAll0 (pyDs ds) = true ∧ PyData.depthAll (pyDs ds) ≤ n
  | n, [], _ => ⟨rfl, by simp [pyDs, PyData.depthAll]⟩
  | n, d :: ds, h => by
    simp only [okDs, Bool.and_eq_true] at h
    have h1 := okD_lay n d h.1
    have h2 := okDs_lay n ds h.2
    refine ⟨by simp only [pyDs, PyData.canLayAll0, h1.1, h2.1]; rfl, ?_⟩
    simp only [pyDs, PyData.depthAll]
    exact Nat.max_le.2 ⟨h1.2, h2.2⟩
end
mutual
theorem eqD_py : ∀ d e : D, okD n d = true → okD m e = true → (pyD d).eqv (pyD e) = eqD d e := by
  intro d e h1 h2
  cases d <;> cases e <;> first
    | rfl
    | (simp [okD] at h1; done)
    | (simp [okD] at h2; done)
    | skip
  · simp only [pyD, eqD, PyData.eqv]
    cases n <;> cases m <;> simp [okD] at h1 h2
    exact eqDs_py _ _ h1 h2
  · simp only [pyD, eqD, PyData.eqv]
    cases n <;> cases m <;> simp [okD] at h1 h2
    exact eqDs_py _ _ h1 h2
theorem eqDs_py : ∀ d e : List D, okDs n d = true → okDs m e = true → PyData.eqvAll (pyDs d) (pyDs e) = eqDs d e
  | [], [], _, _ => rfl
  | [], _ :: _, _, _ => rfl
  | _ :: _, [], _, _ => rfl
  | x :: xs, y :: ys, h1, h2 => by
    simp only [okDs, Bool.and_eq_true] at h1 h2
    simp only [pyDs, eqDs, PyData.eqvAll]
    rw [eqD_py x y h1.1 h2.1, eqDs_py xs ys h1.2 h2.2]
end

theorem sql_of {a : Addr} {vs : List V} (h : H a = some (.lst vs)) : SqL K H a vs := .inl (.inl h)
mutual
theorem Rep.dp : ∀ (n : Nat) (d : D) (v : V), okD n d = true → Rep K H O d v → Dp K H v (pyD d)
  | n, .non, v, _, h => by cases h; exact .non
  | n, .bl _, v, _, h => by cases h; exact .bl _
  | n, .int _, v, _, h => by cases h; exact .int _
  | n, .str s, v, _, h => by cases h; exact .str _
  | n + 1, .tup ds, v, o, h => by
    obtain ⟨a, vs, rfl, h1, r⟩ := h
    simp only [pyD]
    exact .tup h1 (RepL.dp n ds vs (by simpa [okD] using o) r)
  | n + 1, .lst ds, v, o, h => by
    obtain ⟨a, vs, rfl, h1, _, r⟩ := h
    simp only [pyD]
    exact .lst (sql_of h1) (RepL.dp n ds vs (by simpa [okD] using o) r)
  | 0, .tup ds, v, o, h => by simp [okD] at o
  | 0, .lst ds, v, o, h => by simp [okD] at o
  | n, .dic _, v, o, h => by simp [okD] at o
  | n, .dit _, v, o, h => by simp [okD] at o
  | n, .ref _, v, o, h => by simp [okD] at o
theorem RepL.dp : ∀ (n : Nat) (ds : List D) (vs : List V), okDs n ds = true → RepL K H O ds vs → DpAll K H vs (pyDs ds)
  | n, [], vs, _, h => by cases h; exact .nil
  | n, d :: ds, vs, o, h => by
    obtain ⟨v, r, rfl, e, h⟩ := h
    simp only [okDs, Bool.and_eq_true] at o
    exact .cons (Rep.dp n d v o.1 e) (RepL.dp n ds r o.2 h)
end
theorem RepTop.dp {n : Nat} {d : D} {v : V} (o : okD n d = true) (h : RepTop K H O d v) : Dp K H v (pyD d) := by
  cases d with
  | lst ds =>
    obtain ⟨a, vs, rfl, h1, r⟩ := h
    cases n with
    | zero => simp [okD] at o
    | succ n => simp only [pyD]; exact .lst (sql_of h1) (RepL.dp n ds vs (by simpa [okD] using o) r)
  | dic ds => simp [okD] at o
  | dit ds => simp [okD] at o
  | _ => exact Rep.dp (O := O) n _ v o h
theorem okD_shaped {d : D} (h : okD 64 d = true) : SeqAt.shaped (pyD d) = true := by
  have := okD_lay 64 d h
  unfold SeqAt.shaped
  rw [this.1]; simpa using this.2
def eqC (d1 d2 : D) : Prop := okD 64 d1 = true ∧ okD 64 d2 = true
def neD (d1 d2 : D) : Bool := !eqD d1 d2
def eqR : D2 := cmpR eqC eqD
def neR : D2 := cmpR eqC neD
theorem opd_eq (hu : X.A.units + 64 < cLine) : OpD X (compareOp .Eq) eqR := by
  refine ⟨⟨_, op_eqD hu, fun {H O d1 d2 v1 v2 P Q} om t1 t2 q k => ?_⟩, m2_cmp⟩
  obtain ⟨⟨c1, c2⟩, q⟩ := q
  exact ⟨_, _, t1.dp c1, t2.dp c2, okD_shaped c1, okD_shaped c2, by rw [eqD_py _ _ c1 c2]; exact k _ _ _ q (.same rfl)⟩
theorem opd_ne (hu : X.A.units + 64 < cLine) : OpD X (compareOp .NotEq) neR := by
  refine ⟨⟨_, op_neD hu, fun {H O d1 d2 v1 v2 P Q} om t1 t2 q k => ?_⟩, m2_cmp⟩
  obtain ⟨⟨c1, c2⟩, q⟩ := q
  exact ⟨_, _, t1.dp c1, t2.dp c2, okD_shaped c1, okD_shaped c2, by rw [eqD_py _ _ c1 c2]; exact k _ _ _ q (.same rfl)⟩
/-! is None, is True -/
def isNonD : D → Bool
  | .non => true
  | _ => false
def isC (d1 d2 : D) : Prop := match d2 with
  | .non => True
  | .bl _ => ∃ b, d1 = .bl b
  | _ => False
def isF (d1 d2 : D) : Bool := match d2 with
  | .non => isNonD d1
  | .bl b => match d1 with
    | .bl c => decide (c = b)
    | _ => false
  | _ => false
def isR : D2 := cmpR isC isF
def notF (d1 d2 : D) : Bool := !isF d1 d2
def isnR : D2 := cmpR isC notF
theorem isNon_of {d : D} {v : V} (h : RepTop K H O d v) : decide (v = .non) = isNonD d := by
  cases d with
  | non => cases h; rfl
  | bl _ => cases h; rfl
  | int _ => cases h; rfl
  | str _ => cases h; rfl
  | ref _ => cases h; rfl
  | tup _ => obtain ⟨_, _, rfl, _⟩ := h; rfl
  | lst _ => obtain ⟨_, _, rfl, _⟩ := h; rfl
  | dic _ => obtain ⟨_, _, rfl, _⟩ := h; rfl
  | dit _ => obtain ⟨_, _, rfl, _⟩ := h; rfl
theorem opd_is : OpD X (compareOp .Is) isR := by
  refine ⟨⟨_, OpR.or op_isN op_isBl, fun {H O d1 d2 v1 v2 P Q} om t1 t2 q k => ?_⟩, m2_cmp⟩
  obtain ⟨c, q⟩ := q
  cases d2 <;> first | exact c.elim | skip
  · cases t2; exact .inl ⟨rfl, by rw [isNon_of t1]; exact k _ _ _ q (.same rfl)⟩
  · obtain ⟨b, rfl⟩ := c
    cases t2; cases t1; exact .inr ⟨_, _, rfl, rfl, k _ _ _ q (.same rfl)⟩
theorem opd_isnot : OpD X (compareOp .IsNot) isnR := by
  refine ⟨⟨_, OpR.or op_notN op_notBl, fun {H O d1 d2 v1 v2 P Q} om t1 t2 q k => ?_⟩, m2_cmp⟩
  obtain ⟨c, q⟩ := q
  cases d2 <;> first | exact c.elim | skip
  · cases t2; exact .inl ⟨rfl, by rw [isNon_of t1]; exact k _ _ _ q (.same rfl)⟩
  · obtain ⟨b, rfl⟩ := c
    cases t2; cases t1; exact .inr ⟨_, _, rfl, rfl, k _ _ _ q (.same rfl)⟩
/-! in -/
def flatD : D → Bool
  | .non => true
  | .bl _ => true
  | .int _ => true
  | .str _ => true
  | _ => false
def inC (d1 d2 : D) : Prop := match d2 with
  | .lst ds => (flatD d1 = true ∧ ds.all flatD = true) ∨ (okD 64 d1 = true ∧ okDs 63 ds = true)
  | .tup ds => flatD d1 = true ∧ ds.all flatD = true
  | .str _ => ∃ c, d1 = .str ⟨#[c]⟩
  | _ => False
def inF (d1 d2 : D) : Bool := match d2 with
  | .lst ds => ds.any fun z => eqD z d1
  | .tup ds => ds.any fun z => eqD z d1
  | .str z => match d1 with
    | .str c => decide (c.cps.getD 0 0 ∈ z.cps.toList)
    | _ => false
  | _ => false
def inR : D2 := cmpR inC inF
def ninF (d1 d2 : D) : Bool := !inF d1 d2
def ninR : D2 := cmpR inC ninF
theorem flat_rep {d : D} {v : V} (f : flatD d = true) (h : RepTop K H O d v) : flatV v = true := by
  cases d <;> first | (simp [flatD] at f; done) | (cases h; rfl)
theorem flat_eq {d e : D} {v u : V} (f : flatD d = true) (f2 : flatD e = true) (h : RepTop K H O d v) (h2 : RepTop K H O e u) : eqV v u = eqD d e := by
  cases d <;> first | (simp [flatD] at f; done) | skip
  all_goals cases e <;> first | (simp [flatD] at f2; done) | skip
  all_goals (cases h; cases h2; rfl)
theorem flat_all : ∀ {ds : List D} {vs : List V}, ds.all flatD = true → RepL K H O ds vs → vs.all flatV = true
  | [], _, _, h => by cases h; rfl
  | d :: ds, _, f, h => by
    obtain ⟨v, r, rfl, e, h⟩ := h
    simp only [List.all_cons, Bool.and_eq_true] at f ⊢
    exact ⟨flat_rep f.1 e.top, flat_all f.2 h⟩
theorem flat_any {d : D} {v : V} (f0 : flatD d = true) (h0 : RepTop K H O d v) : ∀ {ds : List D} {vs : List V}, ds.all flatD = true → RepL K H O ds vs → inV v vs = ds.any fun z => eqD z d
  | [], _, _, h => by cases h; rfl
  | e :: ds, _, f, h => by
    obtain ⟨u, r, rfl, e1, h⟩ := h
    simp only [List.all_cons, Bool.and_eq_true] at f
    have := flat_any f0 h0 f.2 h
    unfold inV at this ⊢
    rw [List.any_cons, List.any_cons, this, flat_eq f.1 f0 e1.top h0]
theorem pyDs_any {n : Nat} {d : D} (o : okD 64 d = true) : ∀ {ds : List D}, okDs n ds = true → ((pyDs ds).any fun z => PyData.eqv z (pyD d)) = ds.any fun z => eqD z d
  | [], _ => rfl
  | e :: ds, h => by
    simp only [okDs, Bool.and_eq_true] at h
    rw [pyDs, List.any_cons, List.any_cons, pyDs_any o h.2, eqD_py _ _ h.1 o]
theorem opd_in (hu : X.A.units + 65 < cLine) : OpD X (compareOp .In) inR := by
  refine ⟨⟨_, OpR.or op_in_seq (OpR.or (op_inD hu) op_in_sign), fun {H O d1 d2 v1 v2 P Q} om t1 t2 q k => ?_⟩, m2_cmp⟩
  obtain ⟨c, q⟩ := q
  cases d2 <;> first | exact c.elim | skip
  · obtain ⟨c, rfl⟩ := c
    cases t2; cases t1; exact .inr (.inr ⟨_, _, rfl, rfl, k _ _ _ q (.same rfl)⟩)
  · obtain ⟨a, vs, rfl, h1, r1⟩ := t2
    exact .inl ⟨_, _, rfl, .inr h1, flat_rep c.1 t1, flat_all c.2 r1, by rw [flat_any c.1 t1 c.2 r1]; exact k _ _ _ q (.same rfl)⟩
  · obtain ⟨a, vs, rfl, h1, r1⟩ := t2
    rcases c with c | c
    · exact .inl ⟨_, _, rfl, .inl (sql_of h1), flat_rep c.1 t1, flat_all c.2 r1, by rw [flat_any c.1 t1 c.2 r1]; exact k _ _ _ q (.same rfl)⟩
    · exact .inr (.inl ⟨_, _, t1.dp c.1, .lst (sql_of h1) (RepL.dp 63 _ _ c.2 r1), okD_shaped c.1, by simpa only [pyD] using okD_shaped (d := .lst _) (by simpa only [okD] using c.2), by rw [pyDs_any c.1 c.2]; exact k _ _ _ q (.same rfl)⟩)
theorem opd_notIn (hu : X.A.units + 65 < cLine) : OpD X (compareOp .NotIn) ninR := by
  refine ⟨⟨_, OpR.or op_notIn_seq (OpR.or (op_notInD hu) op_notIn_sign), fun {H O d1 d2 v1 v2 P Q} om t1 t2 q k => ?_⟩, m2_cmp⟩
  obtain ⟨c, q⟩ := q
  cases d2 <;> first | exact c.elim | skip
  · obtain ⟨c, rfl⟩ := c
    cases t2; cases t1; exact .inr (.inr ⟨_, _, rfl, rfl, k _ _ _ q (.same rfl)⟩)
  · obtain ⟨a, vs, rfl, h1, r1⟩ := t2
    exact .inl ⟨_, _, rfl, .inr h1, flat_rep c.1 t1, flat_all c.2 r1, by rw [flat_any c.1 t1 c.2 r1]; exact k _ _ _ q (.same rfl)⟩
  · obtain ⟨a, vs, rfl, h1, r1⟩ := t2
    rcases c with c | c
    · exact .inl ⟨_, _, rfl, .inl (sql_of h1), flat_rep c.1 t1, flat_all c.2 r1, by rw [flat_any c.1 t1 c.2 r1]; exact k _ _ _ q (.same rfl)⟩
    · exact .inr (.inl ⟨_, _, t1.dp c.1, .lst (sql_of h1) (RepL.dp 63 _ _ c.2 r1), okD_shaped c.1, by simpa only [pyD] using okD_shaped (d := .lst _) (by simpa only [okD] using c.2), by rw [pyDs_any c.1 c.2]; exact k _ _ _ q (.same rfl)⟩)
/-! one thing -/
def negR : D1 := fun d P => match d with
  | .int i => P (.v (.int (-i)))
  | _ => False
theorem und_neg : UnD X (unaryOp .USub) negR := by
  refine ⟨⟨_, un_neg, fun {H O d v P Q} om t q k => ?_⟩, ⟨fun d P P' h q => by cases d <;> first | exact q.elim | exact h _ q⟩⟩
  cases d <;> first | exact q.elim | skip
  cases t; exact ⟨_, rfl, k _ _ _ q (.same rfl)⟩
/-- the index meant, if any -/
def atD (ds : List D) (i : Int) : Option D := atI ds i
theorem atD_rep {ds : List D} {vs : List V} (r : RepL K H O ds vs) {i : Int} {d : D} (h : atD ds i = some d) : ∃ v, atI vs i = some v ∧ Rep K H O d v := by
  unfold atD atI at *
  rw [← r.length]
  cases e : ixN ds.length i with
  | none => rw [e] at h; cases h
  | some j => rw [e] at h; exact r.get h
def ixR : D2 := fun d1 d2 P => match d1, d2 with
  | .lst ds, .int i => ∃ d, atD ds i = some d ∧ P (.v d)
  | .tup ds, .int i => ∃ d, atD ds i = some d ∧ P (.v d)
  | .str z, .int i => ∃ c, z.length ≤ 16777216 ∧ atI z.cps.toList i = some c ∧ P (.v (.str ⟨#[c]⟩))
  | _, _ => False
theorem ixd_seq : IxD X ixR := by
  refine ⟨⟨_, ix_seq, fun {H O d1 d2 v1 v2 P Q} om t1 t2 q k => ?_⟩, ⟨fun d1 d2 P P' h q => by cases d1 <;> cases d2 <;> first | exact q.elim | (obtain ⟨d, e, q⟩ := q; exact ⟨d, e, h _ q⟩) | (obtain ⟨d, e, e2, q⟩ := q; exact ⟨d, e, e2, h _ q⟩)⟩⟩
  cases d1 <;> cases d2 <;> first | exact q.elim | skip
  · obtain ⟨c, e, e2, q⟩ := q
    cases t1; cases t2
    exact .inr (.inr ⟨_, _, c, rfl, rfl, by rw [sizeLine_eq]; exact e, e2, k _ _ _ q (.same rfl)⟩)
  · obtain ⟨d, e, q⟩ := q
    obtain ⟨a, vs, rfl, h1, r1⟩ := t1
    cases t2
    obtain ⟨v, e1, r⟩ := atD_rep r1 e
    exact .inr (.inl ⟨a, vs, _, v, rfl, rfl, h1, e1, k _ _ _ q (.same r)⟩)
  · obtain ⟨d, e, q⟩ := q
    obtain ⟨a, vs, rfl, h1, r1⟩ := t1
    cases t2
    obtain ⟨v, e1, r⟩ := atD_rep r1 e
    exact .inl ⟨a, vs, _, v, rfl, rfl, sql_of h1, e1, k _ _ _ q (.same r)⟩
/-! built-ins -/
def lenR : D1 := fun d P => match d with
  | .lst ds => P (.v (.int ds.length))
  | .tup ds => P (.v (.int ds.length))
  | .str z => z.length ≤ 16777216 ∧ P (.v (.int z.length))
  | _ => False
theorem cd_len : CallD1 X (.builtin "len") lenR := by
  refine ⟨⟨_, CallR.or call_len_seq call_len_str, fun {H O d v P Q} om t q k => ?_⟩, ⟨fun d P P' h q => by cases d <;> first | exact q.elim | exact h _ q | exact ⟨q.1, h _ q.2⟩⟩⟩
  cases d <;> first | exact q.elim | skip
  · cases t; exact .inr ⟨_, rfl, by rw [sizeLine_eq]; exact q.1, k _ _ _ q.2 (.same rfl)⟩
  · obtain ⟨a, vs, rfl, h1, r1⟩ := t
    exact .inl ⟨a, vs, rfl, .inr h1, by rw [← r1.length]; exact k _ _ _ q (.same rfl)⟩
  · obtain ⟨a, vs, rfl, h1, r1⟩ := t
    exact .inl ⟨a, vs, rfl, .inl (sql_of h1), by rw [← r1.length]; exact k _ _ _ q (.same rfl)⟩
def absR : D1 := fun d P => match d with
  | .int i => P (.v (.int (if i < 0 then -i else i)))
  | _ => False
theorem cd_abs : CallD1 X (.builtin "abs") absR := by
  refine ⟨⟨_, call_abs, fun {H O d v P Q} om t q k => ?_⟩, ⟨fun d P P' h q => by cases d <;> first | exact q.elim | exact h _ q⟩⟩
  cases d <;> first | exact q.elim | skip
  cases t; exact ⟨_, rfl, k _ _ _ q (.same rfl)⟩
def toIntR : D1 := fun d P => match d with
  | .int i => P (.v (.int i))
  | .bl b => P (.v (.int (if b = true then 1 else 0)))
  | _ => False
theorem cd_int : CallD1 X (.type "int") toIntR := by
  refine ⟨⟨_, call_int1, fun {H O d v P Q} om t q k => ?_⟩, ⟨fun d P P' h q => by cases d <;> first | exact q.elim | exact h _ q⟩⟩
  cases d <;> first | exact q.elim | skip
  · cases t; exact .inr ⟨_, rfl, k _ _ _ q (.same rfl)⟩
  · cases t; exact .inl ⟨_, rfl, k _ _ _ q (.same rfl)⟩
def toLstR : D1 := fun d P => match d with
  | .lst ds => P (.n ds)
  | .tup ds => P (.n ds)
  | _ => False
theorem cd_list : CallD1 X (.type "list") toLstR := by
  refine ⟨⟨_, call_list_of, fun {H O d v P Q} om t q k => ?_⟩, ⟨fun d P P' h q => by cases d <;> first | exact q.elim | exact h _ q⟩⟩
  cases d <;> first | exact q.elim | skip
  · obtain ⟨a, vs, rfl, h1, r1⟩ := t
    exact ⟨a, vs, rfl, .inr h1, fun p hp => k _ _ _ q (.lst hp r1)⟩
  · obtain ⟨a, vs, rfl, h1, r1⟩ := t
    exact ⟨a, vs, rfl, .inl (sql_of h1), fun p hp => k _ _ _ q (.lst hp r1)⟩
def toTupR : D1 := fun d P => match d with
  | .lst ds => P (.v (.tup ds))
  | .tup ds => P (.v (.tup ds))
  | _ => False
theorem cd_tuple : CallD1 X (.type "tuple") toTupR := by
  refine ⟨⟨_, call_tuple_of, fun {H O d v P Q} om t q k => ?_⟩, ⟨fun d P P' h q => by cases d <;> first | exact q.elim | exact h _ q⟩⟩
  cases d <;> first | exact q.elim | skip
  · obtain ⟨a, vs, rfl, h1, r1⟩ := t
    exact ⟨a, vs, rfl, .inr ⟨h1, k _ _ _ q (.same ⟨a, vs, rfl, h1, r1⟩)⟩⟩
  · obtain ⟨a, vs, rfl, h1, r1⟩ := t
    exact ⟨a, vs, rfl, .inl ⟨sql_of h1, fun p hp => k _ _ _ q (.tup hp r1)⟩⟩
def sumR : D1 := fun d P => match d with
  | .lst ds => ∃ ns : List Int, ds = ns.map D.int ∧ P (.v (.int ns.sum))
  | _ => False
theorem cd_sum (hc : X.calm = true) : CallD1 X (.builtin "sum") sumR := by
  refine ⟨⟨_, cr_sum hc, fun {H O d v P Q} om t q k => ?_⟩, ⟨fun d P P' h q => by cases d <;> first | exact q.elim | (obtain ⟨ns, e, q⟩ := q; exact ⟨ns, e, h _ q⟩)⟩⟩
  cases d <;> first | exact q.elim | skip
  obtain ⟨ns, rfl, q⟩ := q
  obtain ⟨a, vs, rfl, h1, r1⟩ := t
  cases r1.ofInts
  exact ⟨a, ns, rfl, sql_of h1, k _ _ _ q (.same rfl)⟩
/-- the greatest, the least -/
def maxR : D1 := fun d P => match d with
  | .lst ds => ∃ ns : List Int, ds = ns.map D.int ∧ 0 < ns.length ∧ ∀ m, m ∈ ns → (∀ y, y ∈ ns → y ≤ m) → P (.v (.int m))
  | _ => False
def minR : D1 := fun d P => match d with
  | .lst ds => ∃ ns : List Int, ds = ns.map D.int ∧ 0 < ns.length ∧ ∀ m, m ∈ ns → (∀ y, y ∈ ns → m ≤ y) → P (.v (.int m))
  | _ => False
theorem cd_max (hc : X.calm = true) : CallD1 X (.builtin "max") maxR := by
  refine ⟨⟨_, cr_max hc, fun {H O d v P Q} om t q k => ?_⟩, ⟨fun d P P' h q => by cases d <;> first | exact q.elim | (obtain ⟨ns, e, l, q⟩ := q; exact ⟨ns, e, l, fun m a b => h _ (q m a b)⟩)⟩⟩
  cases d <;> first | exact q.elim | skip
  obtain ⟨ns, rfl, l, q⟩ := q
  obtain ⟨a, vs, rfl, h1, r1⟩ := t
  cases r1.ofInts
  exact ⟨a, ns, rfl, sql_of h1, l, fun m x y => k _ _ _ (q m x y) (.same rfl)⟩
theorem cd_min (hc : X.calm = true) : CallD1 X (.builtin "min") minR := by
  refine ⟨⟨_, cr_min hc, fun {H O d v P Q} om t q k => ?_⟩, ⟨fun d P P' h q => by cases d <;> first | exact q.elim | (obtain ⟨ns, e, l, q⟩ := q; exact ⟨ns, e, l, fun m a b => h _ (q m a b)⟩)⟩⟩
  cases d <;> first | exact q.elim | skip
  obtain ⟨ns, rfl, l, q⟩ := q
  obtain ⟨a, vs, rfl, h1, r1⟩ := t
  cases r1.ofInts
  exact ⟨a, ns, rfl, sql_of h1, l, fun m x y => k _ _ _ (q m x y) (.same rfl)⟩
def max2R : D2 := fun d1 d2 P => match d1, d2 with
  | .int i, .int j => P (.v (.int (if j > i then j else i)))
  | _, _ => False
def min2R : D2 := fun d1 d2 P => match d1, d2 with
  | .int i, .int j => P (.v (.int (if j < i then j else i)))
  | _, _ => False
theorem cd_max2 (hc : X.calm = true) : CallD2 X (.builtin "max") max2R := by
  refine ⟨⟨_, call_max2 hc, fun {H O d1 d2 v1 v2 P Q} om t1 t2 q k => ?_⟩, ⟨fun d1 d2 P P' h q => by cases d1 <;> cases d2 <;> first | exact q.elim | exact h _ q⟩⟩
  cases d1 <;> cases d2 <;> first | exact q.elim | skip
  cases t1; cases t2; exact ⟨_, _, rfl, k _ _ _ q (.same rfl)⟩
theorem cd_min2 (hc : X.calm = true) : CallD2 X (.builtin "min") min2R := by
  refine ⟨⟨_, call_min2 hc, fun {H O d1 d2 v1 v2 P Q} om t1 t2 q k => ?_⟩, ⟨fun d1 d2 P P' h q => by cases d1 <;> cases d2 <;> first | exact q.elim | exact h _ q⟩⟩
  cases d1 <;> cases d2 <;> first | exact q.elim | skip
  cases t1; cases t2; exact ⟨_, _, rfl, k _ _ _ q (.same rfl)⟩
/-- in order -/
def srt (ns : List Int) : List Int := ns.mergeSort fun a b => decide (a ≤ b)
theorem srt_of {ns ns' : List Int} (p : ns'.Perm ns) (w : ns'.Pairwise (· ≤ ·)) : ns' = srt ns := by
  refine List.Perm.eq_of_pairwise (le := (· ≤ ·)) (fun a b _ _ h1 h2 => Int.le_antisymm h1 h2) w ?_ (p.trans (List.mergeSort_perm ns _).symm)
  have := List.pairwise_mergeSort (le := fun a b : Int => decide (a ≤ b)) (fun a b c h1 h2 => by simp at *; omega) (fun a b => by simp; omega) ns
  exact this.imp fun h => by simpa using h
def sortR : D1 := fun d P => match d with
  | .lst ds => ∃ ns : List Int, ds = ns.map D.int ∧ P (.n ((srt ns).map D.int))
  | _ => False
theorem cd_sorted : CallD1 X (.builtin "sorted") sortR := by
  refine ⟨⟨_, cr_sortedI, fun {H O d v P Q} om t q k => ?_⟩, ⟨fun d P P' h q => by cases d <;> first | exact q.elim | (obtain ⟨ns, e, q⟩ := q; exact ⟨ns, e, h _ q⟩)⟩⟩
  cases d <;> first | exact q.elim | skip
  obtain ⟨ns, rfl, q⟩ := q
  obtain ⟨a, vs, rfl, h1, r1⟩ := t
  cases r1.ofInts
  exact ⟨a, ns, rfl, sql_of h1, fun ns' p hp w hn => by rw [srt_of hp w]; exact k _ _ _ q (.lst hn RepL.ints)⟩
def allR : D1 := fun d P => match d with
  | .lst ds => ∃ bs : List Bool, ds = bs.map D.bl ∧ P (.v (.bl (bs.all id)))
  | _ => False
def anyR : D1 := fun d P => match d with
  | .lst ds => ∃ bs : List Bool, ds = bs.map D.bl ∧ P (.v (.bl (bs.any id)))
  | _ => False
theorem cd_all (hc : X.calm = true) : CallD1 X (.builtin "all") allR := by
  refine ⟨⟨_, cr_all hc, fun {H O d v P Q} om t q k => ?_⟩, ⟨fun d P P' h q => by cases d <;> first | exact q.elim | (obtain ⟨ns, e, q⟩ := q; exact ⟨ns, e, h _ q⟩)⟩⟩
  cases d <;> first | exact q.elim | skip
  obtain ⟨ns, rfl, q⟩ := q
  obtain ⟨a, vs, rfl, h1, r1⟩ := t
  cases r1.ofBls
  exact ⟨a, ns, rfl, sql_of h1, k _ _ _ q (.same rfl)⟩
theorem cd_any (hc : X.calm = true) : CallD1 X (.builtin "any") anyR := by
  refine ⟨⟨_, cr_any hc, fun {H O d v P Q} om t q k => ?_⟩, ⟨fun d P P' h q => by cases d <;> first | exact q.elim | (obtain ⟨ns, e, q⟩ := q; exact ⟨ns, e, h _ q⟩)⟩⟩
  cases d <;> first | exact q.elim | skip
  obtain ⟨ns, rfl, q⟩ := q
  obtain ⟨a, vs, rfl, h1, r1⟩ := t
  cases r1.ofBls
  exact ⟨a, ns, rfl, sql_of h1, k _ _ _ q (.same rfl)⟩
end
end DL

set_option Elab.async false
set_option linter.all false
set_option maxRecDepth 100000
namespace L2
open PySem PySem.Spec PyProof.Rows
/-! list(range(a, b, c)) -/
section
variable {X : Cx} {a b c : Expr} {p pos : Pos}
theorem vals_rgC {lo c : Int} {n : Nat} {acc : Array Value} (h : ItemsOf (fun i v => ∃ t, v = .int (lo + i * c) t) acc n) : Vals ((List.range n).map fun (i : Nat) => V.int (lo + i * c)) acc.toList := by
  have e : acc.toList.length = n := by rw [Array.length_toList]; exact h.1
  rw [← e]
  refine vals_of_get acc.toList _ fun j u hj => ?_
  obtain ⟨t, rfl⟩ := h.2 j u (by rw [← hj, Array.getElem?_toList])
  exact ⟨t, rfl⟩
theorem pe_listRg3 {ta : TA} {p2 p3 : Pos} (hc : X.calm = true) (gl : Gl X "list") (ml : X.mg "list" = none) (hg : Gl X "range") (hm : X.mg "range" = none) (ha : PA X [a, b, c] ta)
    (hs : starEach [a, b, c] X.env = (false, eval a X.env) :: starEach [b, c] X.env := by rfl) (hpl : (backTo p3 (starEach [b, c] X.env)).any (·.1) = false := by rfl)
    (na : starEach [.Call (.Name "range" p2) [a, b, c] [] p3] X.env = (false, eval (.Call (.Name "range" p2) [a, b, c] [] p3) X.env) :: starEach [] X.env := by rfl) :
    PE X (.Call (.Name "list" p) [.Call (.Name "range" p2) [a, b, c] [] p3] [] pos) (fun σ H Q => ta σ H fun vs H1 => ∃ (i j k : Int) (n : Nat), vs = [.int i, .int j, .int k] ∧ RgC i j k n ∧ n ≤ 16777216 ∧ ∀ q, H1 q = none → Q (.ref q) (upd H1 q (.lst ((List.range n).map fun (m : Nat) => V.int (i + m * k))))) := by
  refine ⟨fun pins s σ H Q I h => ?_⟩
  refine Call_ (ld_blt I gl ml boot_list (PyProof.Rows.callWith_type1 (args_cons (Call_ (ld_blt I hg hm boot_range (PyProof.Rows.callWith_type1 (thn (ha.run p3 pins s σ H _ I h) fun us s1 ⟨vs, H1, I1, r1, q1⟩ => ?_) hs hpl))) na) na))
  obtain ⟨i, j, k, n, e, ⟨c0, c1, c2, c3⟩, c4, q⟩ := q1
  subst e
  cases r1 with
  | cons r rr =>
    cases rr with
    | cons r' rr =>
      cases rr with
      | cons r'' rr =>
        cases rr
        obtain ⟨t, rfl⟩ := r
        obtain ⟨t', rfl⟩ := r'
        obtain ⟨t'', rfl⟩ := r''
        refine call_range_3 c0 ?_ (.inl (PyProof.noPylong_small c1))
        have I2 : Inv X pins σ H1 { s1 with heap := s1.heap.push { cls := .type "range", data := .fields #[.int i t, .int j t', .int k t''] }, toks := s1.toks } := I1.kept (t' := s1.toks) fun b o e => Heap.get?_push_of_some _ e
        refine args_nil ?_
        refine call_list_range (n := n) (I1.ok.hd hc) (IsRange.new ..) c2 c3 c4 fun h' tk acc c' hk e' hi => ?_
        refine ⟨.ref _, upd H1 _ (.lst ((List.range n).map fun (m : Nat) => V.int (i + m * k))), I2.laid hk (Nat.le_refl _) (show ObjOk X.prog X.w _ _ _ (.lst _) from ⟨?_, acc.toList, c', vals_rgC hi, ?_⟩), rfl, q _ (I2.hok.fresh (Nat.le_refl _))⟩
        · rw [List.length_map, List.length_range, sizeLine_eq]; exact c4
        · rw [Array.toArray_toList]; exact e'
end
end L2
namespace DL
open PySem L2
/-! ### isinstance, slices, list(range(..)), methods of lists -/
inductive Ty where
  | int | bl | str | tup | lst | dic
def Ty.nm : Ty → String
  | .int => "int" | .bl => "bool" | .str => "str" | .tup => "tuple" | .lst => "list" | .dic => "dict"
def isT : Ty → D → Bool
  | .int, .int _ => true
  | .int, .bl _ => true
  | .bl, .bl _ => true
  | .str, .str _ => true
  | .tup, .tup _ => true
  | .lst, .lst _ => true
  | .dic, .dic _ => true
  | .dic, .dit _ => true
  | _, _ => false
def okTy : D → Prop
  | .ref _ => False
  | _ => True
def tyN : D → String
  | .non => "NoneType" | .bl _ => "bool" | .int _ => "int" | .str _ => "str" | .tup _ => "tuple" | .lst _ => "list" | .dic _ => "dict" | .dit _ => "dict" | .ref _ => ""
theorem kit_tab : ∀ n ∈ ["NoneType", "bool", "int", "str", "tuple", "list", "dict"], ∀ m ∈ ["int", "bool", "str", "tuple", "list", "dict"], kitB n m = some (n == m || (n == "bool" && m == "int")) := by decide +kernel
theorem kit_isT (t : Ty) (d : D) (h : okTy d) : kitB (tyN d) t.nm = some (isT t d) := by
  refine (kit_tab (tyN d) ?_ t.nm ?_).trans ?_
  · cases d <;> first | exact h.elim | simp [tyN]
  · cases t <;> simp [Ty.nm]
  · cases d <;> first | exact h.elim | (cases t <;> simp [tyN, Ty.nm, isT])
section
variable {X : Cx} {G : Amb} {E : XK} {K : PySem.W.Frag} {H H' : Hp} {O : Addr → Prop} {a b c e : Expr} {τ τa τb τc : DT} {pos p : Pos}
theorem tyx_of {d : D} {v : V} (k : ∀ a o, H a = some o → H' a = some o) (h : RepTop K H O d v) (o : okTy d) : TyX K H' v (.type (tyN d)) := by
  cases d with
  | non => cases h; exact .base .non
  | bl _ => cases h; exact .base (.bl _)
  | int _ => cases h; exact .base (.int _)
  | str _ => cases h; exact .base (.str _)
  | tup ds =>
    obtain ⟨a, vs, rfl, h1, _⟩ := h
    rcases h1 with (h1 | ⟨u, h1⟩) | ⟨ob, its, n, h1, h2, _⟩
    · exact .base (.tup (k _ _ h1))
    · exact .fTuple (k _ _ h1)
    · exact .kTuple h1 h2
  | lst ds => obtain ⟨a, vs, rfl, h1, _⟩ := h; exact .base (.lst (k _ _ h1))
  | dic ds => obtain ⟨a, vs, rfl, h1, _⟩ := h; exact .base (.dK (k _ _ h1))
  | dit ds => obtain ⟨a, vs, rfl, h1, _⟩ := h; exact .base (.dT (k _ _ h1))
  | ref _ => exact o.elim
def isiR (ts : List Ty) : D1 := fun d P => okTy d ∧ P (.v (.bl (ts.any fun t => isT t d)))
theorem m1_isi {ts : List Ty} : M1 (isiR ts) := ⟨fun _ _ _ h q => ⟨q.1, h _ q.2⟩⟩
theorem any_isT {d : D} (o : okTy d) : ∀ ts : List Ty, PySem.W.kitAny K (.type (tyN d)) (ts.map fun t => .type t.nm) = some (ts.any fun t => isT t d)
  | [] => rfl
  | t :: ts => kitAny_cons (kit_ty (kit_isT t d o)) (fun h => by rw [List.any_cons, h, Bool.false_or]; exact any_isT o ts) fun h => by rw [List.any_cons, h]; rfl
/-- isinstance(e, T) -/
theorem de_isi (t : Ty) {p2 : Pos} {y : Str} (he : DE X G E e τ) (hg : Gl X "isinstance") (hm : X.mg "isinstance" = none) (gt : Gl X y) (mt : X.mg y = none) (hb : bootBuiltins y = some (.type t.nm)) (hn : y ≠ "__name__" := by decide) (hd : (y == ("__debug__" : Str)) = false := by decide)
    (hq : starEach [e, .Name y p2] X.env = (false, eval e X.env) :: starEach [.Name y p2] X.env := by rfl) (hq2 : starEach [.Name y p2] X.env = (false, eval (.Name y p2) X.env) :: starEach [] X.env := by rfl) (hpl : (backTo pos (starEach [.Name y p2] X.env)).any (·.1) = false := by rfl) :
    DE X G E (.Call (.Name "isinstance" p) [e, .Name y p2] [] pos) (xUn (isiR [t]) τ) := by
  have m := mono_un (m1_isi (ts := [t])) he.mono
  refine ⟨PE.imp (pe_callB call_isi hg hm rfl (pa_cons he.pe (pa_cons (pe_bltn gt mt hb (v := .ty t.nm) rfl hn hd) pa_nil hq2) hq) (by decide) (by decide) hq hpl) fun σ H Q h => ?_, m⟩
  obtain ⟨S, T, B, A, ω, δ, Z, F, z, q⟩ := tD_to m h
  refine un_core (r := fun v H Q => rIsi X.K [v, .ty t.nm] H Q) he.mono (fun {H O d v P Q} om r q k => ?_) F z q
  exact ⟨v, _, _, _, _, rfl, .ty _, tyx_of (fun _ _ h => h) r q.1, kit_ty (kit_isT t d q.1), k (.v (.bl (isT t d))) _ _ (by simpa [List.any] using q.2) (.same rfl)⟩
/-- isinstance(e, (T, T')) -/
theorem de_isi2 (t t' : Ty) {p2 p3 p4 : Pos} {y y' : Str} {kk} (he : DE X G E e τ) (hg : Gl X "isinstance") (hm : X.mg "isinstance" = none) (gt : Gl X y) (mt : X.mg y = none) (hb : bootBuiltins y = some (.type t.nm)) (gt' : Gl X y') (mt' : X.mg y' = none) (hb' : bootBuiltins y' = some (.type t'.nm)) (hn : y ≠ "__name__" := by decide) (hd : (y == ("__debug__" : Str)) = false := by decide) (hn' : y' ≠ "__name__" := by decide) (hd' : (y' == ("__debug__" : Str)) = false := by decide)
    (hq : starEach [e, .Tuple [.Name y p2, .Name y' p3] kk p4] X.env = (false, eval e X.env) :: starEach [.Tuple [.Name y p2, .Name y' p3] kk p4] X.env := by rfl) (hq2 : starEach [.Tuple [.Name y p2, .Name y' p3] kk p4] X.env = (false, eval (.Tuple [.Name y p2, .Name y' p3] kk p4) X.env) :: starEach [] X.env := by rfl) (hpl : (backTo pos (starEach [.Tuple [.Name y p2, .Name y' p3] kk p4] X.env)).any (·.1) = false := by rfl)
    (hs1 : starEach [.Name y p2, .Name y' p3] X.env = (false, eval (.Name y p2) X.env) :: starEach [.Name y' p3] X.env := by rfl) (hs2 : starEach [.Name y' p3] X.env = (false, eval (.Name y' p3) X.env) :: starEach [] X.env := by rfl) :
    DE X G E (.Call (.Name "isinstance" p) [e, .Tuple [.Name y p2, .Name y' p3] kk p4] [] pos) (xUn (isiR [t, t']) τ) := by
  have m := mono_un (m1_isi (ts := [t, t'])) he.mono
  have ht := pe_tup (x1 := kk) (pos := p4) (pa_cons (pe_bltn (pos := p2) gt mt hb (v := .ty t.nm) rfl hn hd) (pa_cons (pe_bltn (pos := p3) gt' mt' hb' (v := .ty t'.nm) rfl hn' hd') pa_nil hs2) hs1)
  refine ⟨PE.imp (pe_callB call_isiT hg hm rfl (pa_cons he.pe (pa_cons ht pa_nil hq2) hq) (by decide) (by decide) hq hpl) fun σ H Q h => ?_, m⟩
  obtain ⟨S, T, B, A, ω, δ, Z, F, z, q⟩ := tD_to m h
  refine tD_of F z (he.mono.m _ _ _ _ _ (fun _ z => z) (fun o δ' q v H' ω' P ev => ?_) q) he.mono
  obtain ⟨d, e1, q⟩ := rdK_some q
  refine ⟨by rw [sizeLine_eq]; exact (by decide : 2 ≤ 16777216), fun p hp => ?_⟩
  have F1 := ev.drop F
  have r : RepTop X.K H' (Ow B ω') d v := RepTop.sub (fun _ z => ow_less z) (ev.fr.rd ev.rp e1)
  refine ⟨v, p, _, _, _, _, rfl, upd_same, .cons (.ty _) (.cons (.ty _) .nil), tyx_of (fun a o h => by rw [upd_ne (ne_of_none h hp)]; exact h) r q.1, any_isT q.1 [t, t'], ?_⟩
  obtain ⟨P2, ev2⟩ := Gv.ev (F1.laid hp nt_tup) ev.ws (.same (d := .bl ([t, t'].any fun t => isT t d)) rfl)
  exact q.2 _ _ _ _ ev2
/-! slices -/
def cutD (ds : List D) (lo hi : Option Int) : List D := (ds.drop (HT.sIx ds.length 0 lo)).take (HT.sIx ds.length ds.length hi - HT.sIx ds.length 0 lo)
theorem RepL.cut {ds : List D} {vs : List V} {lo hi : Option Int} (r : RepL K H O ds vs) : RepL K H O (cutD ds lo hi) (cutV vs lo hi) := by
  unfold cutD cutV
  rw [r.length]
  exact (r.drop _).take _
def slR (d : D) (lo hi : Option Int) (P : Op → Prop) : Prop := match d with
  | .lst ds => P (.n (cutD ds lo hi))
  | .tup ds => P (.v (.tup (cutD ds lo hi)))
  | .str z => z.length ≤ 16777216 ∧ P (.v (.str (cutS z lo hi)))
  | _ => False
theorem slR_mono {d : D} {lo hi : Option Int} {P P' : Op → Prop} (h : ∀ o, P o → P' o) (q : slR d lo hi P) : slR d lo hi P' := by
  cases d <;> first | exact q.elim | exact h _ q | exact ⟨q.1, h _ q.2⟩
def rSlD (K : PySem.W.Frag) : V → Option Int → Option Int → Hp → VK → Prop := fun x lo hi H Q => rSlL K x lo hi H Q ∨ rSlA K x lo hi H Q ∨ rSlS x lo hi H Q
theorem slr_d : SlR X (rSlD X.K) := SlR.or sl_list (SlR.or sl_tupA sl_str)
theorem sl_gv {d : D} {v : V} {lo hi : Option Int} {P : Op → Prop} {Q : VK} (t : RepTop K H O d v) (q : slR d lo hi P) (k : ∀ o v H', P o → Gv K H O o v H' → Q v H') : rSlD K v lo hi H Q := by
  cases d <;> first | exact q.elim | skip
  · cases t; exact .inr (.inr ⟨_, rfl, by rw [sizeLine_eq]; exact q.1, k _ _ _ q.2 (.same rfl)⟩)
  · obtain ⟨a, vs, rfl, h1, r1⟩ := t
    refine .inr (.inl ⟨a, vs, rfl, h1, fun e => k _ _ _ q (.same ⟨a, vs, rfl, h1, ?_⟩), fun e p hp => k _ _ _ q (.tup hp r1.cut)⟩)
    unfold cutD
    rw [r1.length, e.1, e.2, List.drop_zero, Nat.sub_zero, ← r1.length, List.take_length]
    exact r1
  · obtain ⟨a, vs, rfl, h1, r1⟩ := t
    exact .inl ⟨a, vs, rfl, sql_of h1, fun p hp => k _ _ _ q (.lst hp r1.cut)⟩
def xSl0 (τ : DT) : DT := fun Z δ Q => τ Z δ fun o δ1 => rdK o δ1 fun d => slR d none none fun o => Q o δ1
def xSlL (τ τa : DT) : DT := xOp (fun d d1 P => match d1 with
  | .int i => slR d (some i) none P
  | _ => False) τ τa
def xSlH (τ τa : DT) : DT := xOp (fun d d1 P => match d1 with
  | .int i => slR d none (some i) P
  | _ => False) τ τa
def intK (o : Op) (k : Int → Prop) : Prop := match o with
  | .v (.int i) => k i
  | _ => False
theorem intK_mono {o : Op} {k k' : Int → Prop} (h : ∀ i, k i → k' i) (q : intK o k) : intK o k' := by
  unfold intK at q ⊢
  split at q
  · exact h _ q
  · exact q.elim
theorem intK_some {o : Op} {k : Int → Prop} (q : intK o k) : ∃ i, o = .v (.int i) ∧ k i := by
  unfold intK at q
  split at q
  · exact ⟨_, rfl, q⟩
  · exact q.elim
def xSlB (τ τa τb : DT) : DT := fun Z δ Q => τ Z δ fun o δ1 => τa Z δ1 fun o1 δ2 => intK o1 fun i => τb Z δ2 fun o2 δ3 => intK o2 fun j => rdK o δ3 fun d => slR d (some i) (some j) fun o => Q o δ3
theorem m2_sl {f : Int → Option Int × Option Int} : M2 (fun d d1 P => match d1 with
  | .int i => slR d (f i).1 (f i).2 P
  | _ => False) := ⟨fun d1 d2 P P' h q => by cases d2 <;> first | exact q.elim | exact slR_mono h q⟩
theorem de_sl0 {p2 : Pos} (he : DE X G E e τ) : DE X G E (.Subscript e (.Slice none none none p2) pos) (xSl0 τ) := by
  have m : Mono (xSl0 τ) := ⟨fun _ _ _ _ _ hz h q => he.mono.m _ _ _ _ _ hz (fun _ _ q => rdK_mono (fun _ q => slR_mono (fun _ q => h _ _ q) q) q) q⟩
  refine ⟨PE.imp (pe_slice slr_d he.pe po_none po_none) fun σ H Q h => ?_, m⟩
  obtain ⟨S, T, B, A, ω, δ, Z, F, z, q⟩ := tD_to m h
  refine un_core (ρ := fun d P => slR d none none P) (r := fun v H1 Q => rSlD X.K v none none H1 Q) he.mono (fun {H O d v P Q} om r q k => sl_gv r q k) F z q
theorem de_slL {p2 : Pos} (he : DE X G E e τ) (ha : DE X G E a τa) : DE X G E (.Subscript e (.Slice (some a) none none p2) pos) (xSlL τ τa) := by
  have m : Mono (xSlL τ τa) := mono_op (m2_sl (f := fun i => (some i, none))) he.mono ha.mono
  refine ⟨PE.imp (pe_slice slr_d he.pe (po_some ha.pe) po_none) fun σ H Q h => ?_, m⟩
  obtain ⟨S, T, B, A, ω, δ, Z, F, z, q⟩ := tD_to m h
  refine two_then (r := fun x y H2 Q => ∃ i, y = .int i ∧ rSlD X.K x (some i) none H2 Q) (R := fun d1 d2 δ2 => match d2 with
    | .int i => slR d1 (some i) none fun o => tK G X.K S T B A ω σ Q o δ2
    | _ => False) he.mono ha.mono F z q fun {H2 ω2 δ2 d1 d2 v1 v2} F2 w t1 t2 q => ?_
  cases d2 <;> first | exact q.elim | skip
  cases t2
  refine ⟨_, rfl, sl_gv t1 q fun o v H' k g => ?_⟩
  obtain ⟨P, ev⟩ := g.ev F2 w
  exact k v H' ω2 P ev
theorem de_slH {p2 : Pos} (he : DE X G E e τ) (ha : DE X G E a τa) : DE X G E (.Subscript e (.Slice none (some a) none p2) pos) (xSlH τ τa) := by
  have m : Mono (xSlH τ τa) := mono_op (m2_sl (f := fun i => (none, some i))) he.mono ha.mono
  refine ⟨PE.imp (pe_slice slr_d he.pe po_none (po_some ha.pe)) fun σ H Q h => ?_, m⟩
  obtain ⟨S, T, B, A, ω, δ, Z, F, z, q⟩ := tD_to m h
  refine two_then (r := fun x y H2 Q => ∃ i, y = .int i ∧ rSlD X.K x none (some i) H2 Q) (R := fun d1 d2 δ2 => match d2 with
    | .int i => slR d1 none (some i) fun o => tK G X.K S T B A ω σ Q o δ2
    | _ => False) he.mono ha.mono F z q fun {H2 ω2 δ2 d1 d2 v1 v2} F2 w t1 t2 q => ?_
  cases d2 <;> first | exact q.elim | skip
  cases t2
  refine ⟨_, rfl, sl_gv t1 q fun o v H' k g => ?_⟩
  obtain ⟨P, ev⟩ := g.ev F2 w
  exact k v H' ω2 P ev
theorem de_slB {p2 : Pos} (he : DE X G E e τ) (ha : DE X G E a τa) (hb : DE X G E b τb) : DE X G E (.Subscript e (.Slice (some a) (some b) none p2) pos) (xSlB τ τa τb) := by
  have m : Mono (xSlB τ τa τb) := ⟨fun _ _ _ _ _ hz h q => he.mono.m _ _ _ _ _ hz (fun _ _ q => ha.mono.m _ _ _ _ _ hz (fun _ _ q => intK_mono (fun _ q => hb.mono.m _ _ _ _ _ hz (fun _ _ q => intK_mono (fun _ q => rdK_mono (fun _ q =>
    slR_mono (fun _ q => h _ _ q) q) q) q) q) q) q) q⟩
  refine ⟨PE.imp (pe_slice slr_d he.pe (po_some ha.pe) (po_some hb.pe)) fun σ H Q h => ?_, m⟩
  obtain ⟨S, T, B, A, ω, δ, Z, F, z, q⟩ := tD_to m h
  refine tD_of F z (he.mono.m _ _ _ _ _ (fun _ z => z) (fun o δ1 q v H1 ω1 P1 e1 => ?_) q) he.mono
  refine tD_of (e1.go F) (e1.eok F z) (ha.mono.m _ _ _ _ _ (fun _ z => z) (fun o1 δ2 q v1 H2 ω2 P2 e2 => ?_) q) ha.mono
  obtain ⟨i, rfl, q⟩ := intK_some q
  obtain ⟨_, r2⟩ := e2.rp
  cases r2
  refine ⟨i, rfl, ?_⟩
  refine tD_of (e2.go (e1.go F)) (e2.eok (e1.go F) (e1.eok F z)) (hb.mono.m _ _ _ _ _ (fun _ z => z) (fun o2 δ3 q v2 H3 ω3 P3 e3 => ?_) q) hb.mono
  obtain ⟨j, rfl, q⟩ := intK_some q
  obtain ⟨_, r3⟩ := e3.rp
  cases r3
  refine ⟨j, rfl, ?_⟩
  obtain ⟨d, h1, q⟩ := rdK_some q
  have F3 : Fr G X.K S T B A ω3 H3 σ δ3 := e1.back0 F (e2.back (e1.go F) e3.fr)
  have sub : ∀ a, Ow B ω3 a → Ow (Bp (Bp (Bp B P1) P2) P3) ω3 a := fun a h => ow_less (ow_less (ow_less h))
  have c12 : Carry X.K H1 H3 (Ow (Bp B P1) ω1) (Ow (Bp (Bp (Bp B P1) P2) P3) ω3) := by
    refine pin_carry (S' := nS (nS S H1 B P1 ω1) H2 (Bp B P1) P2 ω2) (fun a o h n m => .inl (.inr ⟨h, n, .inl m⟩)) e1.fr.om e3.fr fun a h => ?_
    rcases h with (h | h) | h
    · exact .inl (.inl h)
    · right
      exact e2.rp.nt a h
    · right
      exact fun q => e3.rp.nt a h (e2.fr.dm a (.inl q))
  have r1 : ROp X.K T H3 (Ow (Bp (Bp (Bp B P1) P2) P3) ω3) σ P1 o v := e1.rp.carry c12 (fun _ _ n => n) fun p u hp hu m => e3.fr.st p u (.inl (.inr ⟨hu, nt_mu m, .inr hp⟩))
  refine sl_gv (RepTop.sub sub (e3.fr.rd r1 h1)) q fun o v H' k g => ?_
  obtain ⟨P, ev⟩ := g.ev F3 (e3.ws.trans (e2.ws.trans e1.ws))
  exact k v H' ω3 P ev
/-- l[::-1] -/
def revR : D1 := fun d P => match d with
  | .lst ds => P (.n ds.reverse)
  | _ => False
theorem de_revS {k : Nat} {p1 p2 p3 : Pos} (he : DE X G E e τ) : DE X G E (.Subscript e (.Slice none none (some (.UnaryOp .USub (.Constant (.int 1) k p1) p2)) p3) pos) (xUn revR τ) := by
  have m : Mono (xUn revR τ) := mono_un ⟨fun d P P' h q => by cases d <;> first | exact q.elim | exact h _ q⟩ he.mono
  refine ⟨PE.imp (pe_revL he.pe) fun σ H Q h => ?_, m⟩
  obtain ⟨S, T, B, A, ω, δ, Z, F, z, q⟩ := tD_to m h
  refine un_core (ρ := revR) (r := fun x H1 Q => ∃ a xs, x = V.ref a ∧ SqL X.K H1 a xs ∧ ∀ (p : Addr), H1 p = none → Q (V.ref p) (upd H1 p (HO.lst xs.reverse))) he.mono (fun {H O d v P Q} om r q k => ?_) F z q
  cases d <;> first | exact q.elim | skip
  obtain ⟨a, vs, rfl, h1, r1⟩ := r
  exact ⟨a, vs, rfl, sql_of h1, fun p hp => k _ _ _ q (.lst hp r1.rev)⟩
/-! list(range(..)) -/
theorem rgV_eq (a b : Int) : RepL K H O (rgD a (b - a).toNat) (rgV a b) := by
  unfold rgD rgV
  rw [show (fun i : Nat => D.int (a + (i : Int))) = D.int ∘ (fun i : Nat => a + (i : Int)) from rfl, show (fun i : Nat => V.int (a + (i : Int))) = V.int ∘ (fun i : Nat => a + (i : Int)) from rfl, ← List.map_map, ← List.map_map]
  exact RepL.ints
def lrg1R : D1 := fun d P => match d with
  | .int n => n ≤ 16777216 ∧ 0 ≤ n ∧ P (.n (rgD 0 n.toNat))
  | _ => False
def lrg2R : D2 := fun d1 d2 P => match d1, d2 with
  | .int i, .int j => (0 ≤ i ∧ i ≤ 16777216 ∧ 0 ≤ j ∧ j ≤ 16777216) ∧ P (.n (rgD i (j - i).toNat))
  | _, _ => False
theorem de_lrg1 {p2 p3 : Pos} (hc : X.calm = true) (gl : Gl X "list") (ml : X.mg "list" = none) (hg : Gl X "range") (hm : X.mg "range" = none) (ha : DE X G E a τa) (hs : starEach [a] X.env = (false, eval a X.env) :: starEach [] X.env := by rfl)
    (na : starEach [.Call (.Name "range" p2) [a] [] p3] X.env = (false, eval (.Call (.Name "range" p2) [a] [] p3) X.env) :: starEach [] X.env := by rfl) : DE X G E (.Call (.Name "list" p) [.Call (.Name "range" p2) [a] [] p3] [] pos) (xUn lrg1R τa) := by
  have m : Mono (xUn lrg1R τa) := mono_un ⟨fun d P P' h q => by cases d <;> first | exact q.elim | exact ⟨q.1, q.2.1, h _ q.2.2⟩⟩ ha.mono
  refine ⟨PE.imp (pe_listRg hc gl ml (prg_1 hg hm ha.pe hs) na) fun σ H Q h => ?_, m⟩
  obtain ⟨S, T, B, A, ω, δ, Z, F, z, q⟩ := tD_to m h
  refine un_core (ρ := lrg1R) (r := fun x H1 Q => ∃ n, x = .int n ∧ RgOk 0 n ∧ ∀ q, H1 q = none → Q (.ref q) (upd H1 q (.lst (rgV 0 n)))) ha.mono (fun {H O d v P Q} om r q k => ?_) F z q
  cases d <;> first | exact q.elim | skip
  cases r
  exact ⟨_, rfl, RgOk.of_le (by omega) q.1 (by omega) q.2.1, fun p hp => k _ _ _ q.2.2 (.lst hp (by have := rgV_eq (K := X.K) (H := H) (O := O) 0 ‹Int›; rwa [Int.sub_zero] at this))⟩
theorem de_lrg2 {p2 p3 : Pos} (hc : X.calm = true) (gl : Gl X "list") (ml : X.mg "list" = none) (hg : Gl X "range") (hm : X.mg "range" = none) (ha : DE X G E a τa) (hb : DE X G E b τb) (hs : starEach [a, b] X.env = (false, eval a X.env) :: starEach [b] X.env := by rfl)
    (hs2 : starEach [b] X.env = (false, eval b X.env) :: starEach [] X.env := by rfl) (hpl : (backTo p3 (starEach [b] X.env)).any (·.1) = false := by rfl)
    (na : starEach [.Call (.Name "range" p2) [a, b] [] p3] X.env = (false, eval (.Call (.Name "range" p2) [a, b] [] p3) X.env) :: starEach [] X.env := by rfl) : DE X G E (.Call (.Name "list" p) [.Call (.Name "range" p2) [a, b] [] p3] [] pos) (xOp lrg2R τa τb) := by
  have m : Mono (xOp lrg2R τa τb) := mono_op ⟨fun d1 d2 P P' h q => by cases d1 <;> cases d2 <;> first | exact q.elim | exact ⟨q.1, h _ q.2⟩⟩ ha.mono hb.mono
  refine ⟨PE.imp (pe_listRg hc gl ml (prg_2 hg hm ha.pe hb.pe hs hs2 hpl) na) fun σ H Q h => ?_, m⟩
  obtain ⟨S, T, B, A, ω, δ, Z, F, z, q⟩ := tD_to m h
  refine two_then (r := fun x y H2 Q => ∃ i j, x = .int i ∧ y = .int j ∧ RgOk i j ∧ ∀ q, H2 q = none → Q (.ref q) (upd H2 q (.lst (rgV i j)))) (R := fun d1 d2 δ2 => lrg2R d1 d2 fun o => tK G X.K S T B A ω σ Q o δ2) ha.mono hb.mono F z q fun {H2 ω2 δ2 d1 d2 v1 v2} F2 w t1 t2 q => ?_
  cases d1 <;> cases d2 <;> first | exact q.elim | skip
  cases t1; cases t2
  obtain ⟨⟨c1, c2, c3, c4⟩, q⟩ := q
  refine ⟨_, _, rfl, rfl, RgOk.of_le c1 c4 c2 c3, fun p hp => ?_⟩
  obtain ⟨P, ev⟩ := Gv.ev F2 w (.lst hp (rgV_eq _ _))
  exact q _ _ _ _ ev
def lrg3K (d1 d2 d3 : D) (P : Op → Prop) : Prop := match d1, d2, d3 with
  | .int i, .int j, .int c => ∃ n : Nat, RgC i j c n ∧ n ≤ 16777216 ∧ P (.n (rgC i c n))
  | _, _, _ => False
def xLrg3 (τa τb τc : DT) : DT := fun Z δ Q => τa Z δ fun o δ1 => τb Z δ1 fun o' δ2 => τc Z δ2 fun o'' δ3 => rdK o δ3 fun d => rdK o' δ3 fun d' => rdK o'' δ3 fun d'' => lrg3K d d' d'' fun o => Q o δ3
theorem rgC_eq (i k : Int) (n : Nat) : RepL K H O (rgC i k n) ((List.range n).map fun (m : Nat) => V.int (i + m * k)) := by
  unfold rgC
  rw [show (fun m : Nat => D.int (i + (m : Int) * k)) = D.int ∘ (fun m : Nat => i + (m : Int) * k) from rfl, show (fun m : Nat => V.int (i + (m : Int) * k)) = V.int ∘ (fun m : Nat => i + (m : Int) * k) from rfl, ← List.map_map, ← List.map_map]
  exact RepL.ints
theorem lrg3K_mono {d d' d'' : D} {P P' : Op → Prop} (h : ∀ o, P o → P' o) (q : lrg3K d d' d'' P) : lrg3K d d' d'' P' := by
  cases d <;> first | exact q.elim | skip
  all_goals cases d' <;> first | exact q.elim | skip
  all_goals cases d'' <;> first | exact q.elim | skip
  obtain ⟨n, h1, h2, q⟩ := q
  exact ⟨n, h1, h2, h _ q⟩
theorem de_lrg3 {p2 p3 : Pos} (hc : X.calm = true) (gl : Gl X "list") (ml : X.mg "list" = none) (hg : Gl X "range") (hm : X.mg "range" = none) (ha : DE X G E a τa) (hb : DE X G E b τb) (hcc : DE X G E c τc)
    (hs : starEach [a, b, c] X.env = (false, eval a X.env) :: starEach [b, c] X.env := by rfl) (hs2 : starEach [b, c] X.env = (false, eval b X.env) :: starEach [c] X.env := by rfl) (hs3 : starEach [c] X.env = (false, eval c X.env) :: starEach [] X.env := by rfl) (hpl : (backTo p3 (starEach [b, c] X.env)).any (·.1) = false := by rfl)
    (na : starEach [.Call (.Name "range" p2) [a, b, c] [] p3] X.env = (false, eval (.Call (.Name "range" p2) [a, b, c] [] p3) X.env) :: starEach [] X.env := by rfl) : DE X G E (.Call (.Name "list" p) [.Call (.Name "range" p2) [a, b, c] [] p3] [] pos) (xLrg3 τa τb τc) := by
  have m : Mono (xLrg3 τa τb τc) := ⟨fun _ _ _ _ _ hz h q => ha.mono.m _ _ _ _ _ hz (fun _ _ q => hb.mono.m _ _ _ _ _ hz (fun _ _ q => hcc.mono.m _ _ _ _ _ hz (fun _ _ q => rdK_mono (fun d q => rdK_mono (fun d' q => rdK_mono (fun d'' q => lrg3K_mono (fun _ q => h _ _ q) q) q) q) q) q) q) q⟩
  refine ⟨PE.imp (pe_listRg3 hc gl ml hg hm (pa_cons ha.pe (pa_cons hb.pe (pa_cons hcc.pe pa_nil hs3) hs2) hs) hs hpl na) fun σ H Q h => ?_, m⟩
  obtain ⟨S, T, B, A, ω, δ, Z, F, z, q⟩ := tD_to m h
  refine three_then (r := fun x y w H2 => ∃ (i j k : Int) (n : Nat), [x, y, w] = [.int i, .int j, .int k] ∧ RgC i j k n ∧ n ≤ 16777216 ∧ ∀ q, H2 q = none → Q (.ref q) (upd H2 q (.lst ((List.range n).map fun (m : Nat) => V.int (i + m * k)))))
    (R := fun d d' d'' δ3 => lrg3K d d' d'' fun o => tK G X.K S T B A ω σ Q o δ3) ha.mono hb.mono hcc.mono F z q fun {H2 ω2 δ2 d1 d2 d3 v1 v2 v3} F2 w t1 t2 t3 q => ?_
  cases d1 <;> first | exact q.elim | skip
  all_goals cases d2 <;> first | exact q.elim | skip
  all_goals cases d3 <;> first | exact q.elim | skip
  cases t1; cases t2; cases t3
  obtain ⟨n, h1, h2, q⟩ := q
  refine ⟨_, _, _, n, rfl, h1, h2, fun p hp => ?_⟩
  obtain ⟨P, ev⟩ := Gv.ev F2 w (.lst hp (rgC_eq _ _ _))
  exact q _ _ _ _ ev
/-! methods of our lists -/
def appR : DM := fun ds as P => match as with
  | [d] => ds.length < 16777216 ∧ P .non (ds ++ [d])
  | _ => False
theorem RepL.one_inv {d : D} {vs : List V} (h : RepL K H O [d] vs) : ∃ v, vs = [v] ∧ Rep K H O d v := by
  obtain ⟨v, r, rfl, e, h⟩ := h; cases h; exact ⟨v, rfl, e⟩
theorem md_append : MtD X "list.append" appR := by
  refine ⟨⟨_, mt_append, fun {H O l xs ds as vs P Q} hl hd ha q k => ?_⟩, fun ds as P P' h q => by
    match as, q with
    | [d], q => exact ⟨q.1, h _ _ q.2⟩⟩
  match as, q with
  | [d], q =>
    obtain ⟨v, rfl, r⟩ := ha.one_inv
    exact ⟨l, xs, v, rfl, rfl, hl, by rw [sizeLine_eq, ← hd.length]; exact q.1, k _ _ _ _ q.2 rfl (hd.append (RepL.one r))⟩
def extR : DM := fun ds as P => match as with
  | [.lst zs] => ds.length + zs.length ≤ 16777216 ∧ P .non (ds ++ zs)
  | _ => False
theorem md_extend : MtD X "list.extend" extR := by
  refine ⟨⟨_, mt_extend, fun {H O l xs ds as vs P Q} hl hd ha q k => ?_⟩, fun ds as P P' h q => by
    match as, q with
    | [.lst zs], q => exact ⟨q.1, h _ _ q.2⟩⟩
  match as, q with
  | [.lst zs], q =>
    obtain ⟨v, rfl, b, us, rfl, hb, _, r⟩ := ha.one_inv
    exact ⟨l, b, xs, us, rfl, rfl, hl, hb, by rw [sizeLine_eq, ← hd.length, ← r.length]; exact q.1, k _ _ _ _ q.2 rfl (hd.append r)⟩
def popR : DM := fun ds as P => match as with
  | [] => ∃ d, ds[ds.length - 1]? = some d ∧ P d ds.dropLast
  | _ => False
theorem RepL.dropLast {ds : List D} {vs : List V} (h : RepL K H O ds vs) : RepL K H O ds.dropLast vs.dropLast := by
  rw [List.dropLast_eq_take, List.dropLast_eq_take, h.length]; exact h.take _
theorem md_pop : MtD X "list.pop" popR := by
  refine ⟨⟨_, mt_pop, fun {H O l xs ds as vs P Q} hl hd ha q k => ?_⟩, fun ds as P P' h q => by
    match as, q with
    | [], ⟨d, e, q⟩ => exact ⟨d, e, h _ _ q⟩⟩
  match as, q with
  | [], ⟨d, e, q'⟩ =>
    cases ha
    obtain ⟨v, e1, r⟩ := hd.get e
    exact ⟨l, xs, v, rfl, rfl, hl, by rw [← hd.length]; exact e1, k _ _ _ _ q' r hd.dropLast⟩
def sortM : DM := fun ds as P => match as with
  | [] => ∃ ns : List Int, ds = ns.map D.int ∧ P .non ((srt ns).map D.int)
  | _ => False
theorem md_sort : MtD X "list.sort" sortM := by
  refine ⟨⟨_, mt_sortI, fun {H O l xs ds as vs P Q} hl hd ha q k => ?_⟩, fun ds as P P' h q => by
    match as, q with
    | [], ⟨d, e, q⟩ => exact ⟨d, e, h _ _ q⟩⟩
  match as, q with
  | [], ⟨ns, e, q'⟩ =>
    subst e
    cases ha
    cases hd.ofInts
    exact ⟨l, ns, rfl, rfl, hl, fun ns' hp hw => by rw [srt_of hp hw]; exact k _ _ _ _ q' rfl RepL.ints⟩
def insR : DM := fun ds as P => match as with
  | [.int i, d] => (ds.length < 16777216 ∧ 0 ≤ i ∧ i < 2 ^ 63) ∧ P .non (ds.take i.toNat ++ [d] ++ ds.drop i.toNat)
  | _ => False
theorem md_insert : MtD X "list.insert" insR := by
  refine ⟨⟨_, mt_insert, fun {H O l xs ds as vs P Q} hl hd ha q k => ?_⟩, fun ds as P P' h q => by
    match as, q with
    | [.int i, d], q => exact ⟨q.1, h _ _ q.2⟩⟩
  match as, q with
  | [.int i, d], q =>
    obtain ⟨v, r, rfl, e, h⟩ := ha
    obtain ⟨u, rfl, r⟩ := h.one_inv
    cases e
    exact ⟨l, xs, i, u, rfl, rfl, hl, by rw [sizeLine_eq, ← hd.length]; exact q.1.1, q.1.2.1, q.1.2.2, k _ _ _ _ q.2 rfl (((hd.take _).append (RepL.one r)).append (hd.drop _))⟩
end
end DL

set_option Elab.async false
set_option linter.all false
set_option maxRecDepth 100000
namespace DL
open PySem L2
/-! ### x, y = a, b -/
section
variable {G : Amb} {K : PySem.W.Frag} {S : Addr → HO → Prop} {T B : Addr → Prop} {A : Nat → Option Addr} {ω : List (Option Addr)} {H : Hp} {σ : St} {δ : Env} {P : Option Addr} {o : Op} {v : V}
theorem Fr.putOp' {i : Nat} {Q : Env → Prop} (St : Stat G S T B A) (F : Fr G K S (Bp T P) (Bp B P) A ω H σ δ) (r : ROp K T H (Ow (Bp B P) ω) σ P o v) (q : xName i o δ Q) : ∃ ω' δ', Fr G K S T B A ω' H (σ.set i (some v)) δ' ∧ (∀ a, Ow B ω' a → Ow (Bp B P) ω a) ∧ Q δ' := by
  cases o with
  | v d =>
    obtain ⟨rfl, r⟩ := r
    exact ⟨_, _, F.put (s := .val d) (w := none) St (fun a h => by cases h) (fun _ => ⟨rfl, v, rfl, Rep.carry (Carry.sub (ow_put fun a h => by cases h)) r⟩), ow_put fun a h => (by cases h), q⟩
  | b j => exact q.elim
  | n ds =>
    obtain ⟨p, vs, rfl, rfl, n, e, r⟩ := r
    exact ⟨_, _, F.put (s := .own ds) (w := some p) St (fun a h => by cases h; exact ⟨rfl, n, _, e, trivial⟩) (fun _ => ⟨p, vs, rfl, rfl, e, RepL.carry (Carry.sub (ow_put fun a h => h)) r⟩), ow_put fun a h => h, q⟩
  | nd ds =>
    obtain ⟨p, vs, rfl, rfl, n, e, r⟩ := r
    exact ⟨_, _, F.put (s := .ownD ds) (w := some p) St (fun a h => by cases h; exact ⟨rfl, n, _, e, trivial⟩) (fun _ => ⟨p, vs, rfl, rfl, e, RepK.carry (Carry.sub (ow_put fun a h => h)) r⟩), ow_put fun a h => h, q⟩
  | nt ds =>
    obtain ⟨p, vs, rfl, rfl, n, e, r⟩ := r
    exact ⟨_, _, F.put (s := .ownT ds) (w := some p) St (fun a h => by cases h; exact ⟨rfl, n, _, e, trivial⟩) (fun _ => ⟨p, vs, rfl, rfl, e, RepT.carry (Carry.sub (ow_put fun a h => h)) r⟩), ow_put fun a h => h, q⟩
def nbO : Op → Bool
  | .b _ => false
  | _ => true
def putOps : List Nat → List Op → Env → (Env → Prop) → Prop
  | [], [], δ, Q => Q δ
  | i :: is, o :: os, δ, Q => xName i o δ fun δ1 => putOps is os δ1 Q
  | _, _, _, _ => False
theorem putOps_mono {Q Q' : Env → Prop} (h : ∀ δ, Q δ → Q' δ) : ∀ {is : List Nat} {os : List Op} {δ : Env}, putOps is os δ Q → putOps is os δ Q'
  | [], [], _, q => h _ q
  | i :: is, o :: os, δ, q => mono_name.m _ _ _ _ (fun δ1 q => putOps_mono h q) q
  | [], _ :: _, _, q => q.elim
  | _ :: _, [], _, q => q.elim
def setAll : List Nat → List V → St → St
  | i :: is, v :: vs, σ => setAll is vs (σ.set i (some v))
  | _, _, σ => σ
theorem ROp.st {T : Addr → Prop} {O : Addr → Prop} {σ' : St} (h : nbO o = true) (r : ROp K T H O σ P o v) : ROp K T H O σ' P o v := by
  cases o <;> first | exact r | simp [nbO] at h
theorem ROps.st {T : Addr → Prop} {O : Addr → Prop} {σ' : St} {Ps : List Addr} {os : List Op} {vs : List V} (r : ROps K T H O σ Ps os vs) : os.all nbO = true → ROps K T H O σ' Ps os vs := by
  induction r with
  | nil => exact fun _ => .nil
  | cons r _ ih =>
    intro h
    simp only [List.all_cons, Bool.and_eq_true] at h
    exact .cons (r.st h.1) (ih h.2)
theorem bl_bp {Ps : List Addr} : BL B (P.toList ++ Ps) = Bp (BL B Ps) P := by
  funext a
  apply propext
  unfold BL Bp
  rw [List.mem_append, Option.mem_toList]
  constructor
  · rintro (h | h | h)
    · exact .inl (.inl h)
    · exact .inr h
    · exact .inl (.inr h)
  · rintro ((h | h) | h)
    · exact .inl h
    · exact .inr (.inr h)
    · exact .inr (.inl h)
theorem Fr.putOps {Q : Env → Prop} : ∀ {is : List Nat} {os : List Op} {vs : List V} {Ps : List Addr} {ω : List (Option Addr)} {σ : St} {δ : Env}, (∀ a, G.C a → B a) → (∀ a, B a → T a) → (∀ a o, S a o → T a) → (∀ a o, S a o → ¬ G.C a ∧ NT o) → (∀ i a, A i = some a → B a) → Fr G K S (BL T Ps) (BL B Ps) A ω H σ δ → Ps.Nodup → ROps K T H (Ow (BL B Ps) ω) σ Ps os vs → os.all nbO = true → DL.putOps is os δ Q →
    ∃ ω' δ', Fr G K S T B A ω' H (setAll is vs σ) δ' ∧ Q δ' := by
  intro is
  induction is with
  | nil =>
    intro os vs Ps ω σ δ h1 h2 h3 h4 h5 F nd r nb q
    cases os with
    | nil => cases r; rw [bl_nil, bl_nil] at F; exact ⟨ω, δ, F, q⟩
    | cons o os => exact q.elim
  | cons i is ih =>
    intro os vs Ps ω σ δ h1 h2 h3 h4 h5 F nd r nb q
    cases r with
    | nil => exact q.elim
    | @cons P Ps o os v vs r rs =>
      simp only [List.all_cons, Bool.and_eq_true] at nb
      rw [bl_bp, bl_bp] at F
      rw [bl_bp] at r rs
      have nd' := List.nodup_append.mp nd
      have St : Stat G S (BL T Ps) (BL B Ps) A := ⟨fun a h => .inl (h1 a h), fun a h => h.elim (fun h => .inl (h2 a h)) .inr, fun a o h => .inl (h3 a o h), h4, fun i a h => .inl (h5 i a h)⟩
      have r' : ROp K (BL T Ps) H (Ow (Bp (BL B Ps) P) ω) σ P o v := r.carry (Carry.sub fun _ h => h) (fun p h n z => by
        rcases z with z | z
        · exact n z
        · exact nd'.2.2 p (Option.mem_toList.mpr h) p z rfl) fun p u _ h _ => h
      obtain ⟨ω1, δ1, F1, s1, q⟩ := F.putOp' St r' q
      have rs' : ROps K T H (Ow (BL B Ps) ω1) (σ.set i (some v)) Ps os vs := (rs.carry (Carry.sub s1) (fun _ _ n => n) fun p _ u h _ => h).st nb.2
      exact ih h1 h2 h3 h4 h5 F1 nd'.2.1 rs' nb.2 q
end
def xPar (is : List Nat) (τs : DTA) : DSt := fun F δ => τs F.ex δ fun os δ' => (os.all nbO = true ∧ os.length = is.length) ∧ putOps is os δ' F.nx
theorem mono_par {is : List Nat} {τs : DTA} (m : MonoA τs) : MonoS (xPar is τs) := ⟨fun _ _ _ l q => m.m _ _ _ _ _ l.ex (fun _ _ q => ⟨q.1, putOps_mono l.nx q.2⟩) q⟩
section
variable {X : Cx} {G : Amb} {E : XK} {a b c : Expr} {τs : DTA} {pos : Pos}
theorem ds_par {i j : Nat} {x y : Str} {px py pt pt2 : Pos} {kt k2} (hc : X.calm = true) (hN : X.N.Nodup) (hi : X.N[i]? = some x) (hj : X.N[j]? = some y) (hij : i ≠ j)
    (hx : X.env.scope.names.lookup x = some .local) (hy : X.env.scope.names.lookup y = some .local) (ha : DA X G E [a, b] τs)
    (hw : swappedStores [.Tuple [.Name x px, .Name y py] kt pt] (.Tuple [a, b] k2 pt2) X.env = pure (some [x, y]))
    (hs : swapsWithSole [.Tuple [.Name x px, .Name y py] kt pt] (.Tuple [a, b] k2 pt2) pos.line X.env = pure false := by rfl) :
    DS X G E (.Assign [.Tuple [.Name x px, .Name y py] kt pt] (.Tuple [a, b] k2 pt2) pos) (xPar [i, j] τs) := ⟨PS.imp (ps_par hc hN hi hj hij hx hy ha.pa hw hs) fun D σ H h => by
  obtain ⟨S, T, B, A, ω, δ, F, Fs, z, en, q⟩ := h
  refine tA_of ha.mono Fs z q fun os δ' vs H' ω' Ps q ev => ?_
  obtain ⟨⟨nb, ln⟩, q⟩ := q
  match os, vs, ev.rp, q, ln with
  | [o1, o2], [v1, v2], r, q, _ =>
    refine ⟨v1, v2, rfl, ?_⟩
    obtain ⟨ω2, δ2, F2, q⟩ := Fr.putOps Fs.cb Fs.bt Fs.sT Fs.sc Fs.al ev.fr ev.nd r nb q
    exact en.nx _ _ _ _ F2 q, mono_par ha.mono⟩
theorem ds_par3 {i j l : Nat} {x y z : Str} {px py pz pt pt2 : Pos} {kt k2} (hc : X.calm = true) (hN : X.N.Nodup) (hi : X.N[i]? = some x) (hj : X.N[j]? = some y) (hl : X.N[l]? = some z) (hij : i ≠ j) (hil : i ≠ l) (hjl : j ≠ l)
    (hx : X.env.scope.names.lookup x = some .local) (hy : X.env.scope.names.lookup y = some .local) (hz : X.env.scope.names.lookup z = some .local) (ha : DA X G E [a, b, c] τs)
    (hw : swappedStores [.Tuple [.Name x px, .Name y py, .Name z pz] kt pt] (.Tuple [a, b, c] k2 pt2) X.env = pure (some [x, y, z]))
    (hs : swapsWithSole [.Tuple [.Name x px, .Name y py, .Name z pz] kt pt] (.Tuple [a, b, c] k2 pt2) pos.line X.env = pure false := by rfl) :
    DS X G E (.Assign [.Tuple [.Name x px, .Name y py, .Name z pz] kt pt] (.Tuple [a, b, c] k2 pt2) pos) (xPar [i, j, l] τs) := ⟨PS.imp (ps_par3 hc hN hi hj hl hij hil hjl hx hy hz ha.pa hw hs) fun D σ H h => by
  obtain ⟨S, T, B, A, ω, δ, F, Fs, z, en, q⟩ := h
  refine tA_of ha.mono Fs z q fun os δ' vs H' ω' Ps q ev => ?_
  obtain ⟨⟨nb, ln⟩, q⟩ := q
  match os, vs, ev.rp, q, ln with
  | [o1, o2, o3], [v1, v2, v3], r, q, _ =>
    refine ⟨v1, v2, v3, rfl, ?_⟩
    obtain ⟨ω2, δ2, F2, q⟩ := Fr.putOps Fs.cb Fs.bt Fs.sT Fs.sc Fs.al ev.fr ev.nd r nb q
    exact en.nx _ _ _ _ F2 q, mono_par ha.mono⟩
/-! ### a call of a name that holds a def -/
structure HeldD (X : Cx) (G : Amb) (f : Addr) (φ : FSp) : Prop where
  ex : ∃ (k : Nat) (fd : FuncData) (ps : List Str), FnOk X.prog X.w X.K X.mg X.base (L2.CX X.prog X.w) k f fd ps (spD G X.K φ) ∧ Room k X.A ∧ PySem.W.keepIn X.K (.ref f) = true ∧ Binds X.K fd ps []
  mono : MonoF φ
def xCallL (i : Nat) (R : Addr → Option FSp) (τs : DTA) : DT := fun Z δ Q => match δ[i]? with
  | some (.val (.ref f)) => match R f with
    | some φ => xCall φ τs Z δ Q
    | none => False
  | _ => False
theorem de_callL {i : Nat} {x : Str} {p : Pos} {e : Expr} {es : List Expr} {R : Addr → Option FSp} (hR : ∀ f φ, R f = some φ → HeldD X G f φ) (hx : Passes (L2.CX X.prog X.w) X E) (hN : X.N[i]? = some x) (hv : Vis X.env.scope x) (ha : DA X G E (e :: es) τs)
    (hdb : (x == ("__debug__" : Str)) = false := by decide) (hcd : (x == ("__classdict__" : Str)) = false := by decide) (he : starEach (e :: es) X.env = (false, eval e X.env) :: starEach es X.env := by rfl) (hpl : (backTo pos (starEach es X.env)).any (·.1) = false := by rfl) :
    DE X G E (.Call (.Name x p) (e :: es) [] pos) (xCallL i R τs) := by
  have m : Mono (xCallL i R τs) := ⟨fun Z Z' δ Q Q' hz h q => by
    unfold xCallL at q ⊢
    split at q
    · cases e1 : R ‹Addr› with
      | none => rw [e1] at q; exact q.elim
      | some φ => rw [e1] at q; exact (mono_call (hR _ _ e1).mono ha.mono).m _ _ _ _ _ hz h q
    · exact q.elim⟩
  refine ⟨⟨fun pins s σ H Q I h => ?_⟩, m⟩
  obtain ⟨S, T, B, A, ω, δ, Z, Fs, z, q⟩ := tD_to m h
  unfold xCallL at q
  split at q
  case h_2 => exact q.elim
  case h_1 f ed =>
    cases e1 : R f with
    | none => rw [e1] at q; exact q.elim
    | some φ =>
      rw [e1] at q
      obtain ⟨⟨k, fd, ps, F, hr, hk, hb⟩, mf⟩ := hR f φ e1
      obtain ⟨_, v, e2, e3⟩ := Fs.slot i _ ed
      cases e3
      refine (pe_callL (i := i) (f := f) (sp := spD G X.K φ) (dvs := []) (E := E) F hr hN hv hk hb .nil hx ha.pa hdb hcd he hpl).run pins s σ H Q I ⟨e2, ?_⟩
      refine tA_of ha.mono Fs z q fun os δ' vs H' ω' Ps q ev => ?_
      obtain ⟨ds, e1, q⟩ := kpLK_some q
      show spD G X.K φ (vs ++ []) H' Q E
      rw [List.append_nil]
      exact call_core mf (ev.drop Fs) ev.ws z (ev.kp Fs e1) q
end
/-! ### a def -/
/-- what a body does, from its arguments -/
def fnD (n m : Nat) (τ : DSt) : FSp := fun ds Q Z => ds.length = n ∧ τ ⟨fun _ => Q .non, Q, fun _ => False, fun _ => False, Z⟩ (ds.map .val ++ List.replicate (m - n) .un)
theorem mono_fnD {n m : Nat} {τ : DSt} (h : MonoS τ) : MonoF (fnD n m τ) := ⟨fun ds Q Q' Z Z' hq hz q => ⟨q.1, h.m ⟨fun _ => Q .non, Q, fun _ => False, fun _ => False, Z⟩ ⟨fun _ => Q' .non, Q', fun _ => False, fun _ => False, Z'⟩ _ ⟨fun _ q => hq _ q, hq, fun _ z => z, fun _ z => z, hz⟩ q.2⟩⟩
section
variable {P : Program} {w : World} {K : PySem.W.Frag} {mg : Str → Option Value} {base : Heap} {x qual : Str} {params : Arguments} {body : List Stmt} {scope : Scope} {f : Addr} {fd : FuncData} {G : Amb} {N ps : List Str} {k : Nat} {τ : DSt} {φ : FSp}
theorem dl_enter {cdv : Value} {A : Around} {outer : List PySem.Env} {s : Shared} {H : Hp} {E : XK} {vs : List V} {Q : VK} (hl : ps.length ≤ N.length) (hτ : ∀ ds Q Z, φ ds Q Z → fnD ps.length N.length τ ds Q Z) (hb : DSs (cxOf (L2.CX P w) P w K mg base N qual scope f cdv A outer s H E) G E body τ) (h : spD G K φ vs H Q E) :
    ∃ t, PSs (cxOf (L2.CX P w) P w K mg base N qual scope f cdv A outer s H E) body t ∧ t { nx := fun _ H' => Q .non H', rt := Q } (L2.start N vs) H := by
  refine ⟨_, hb.ps, ?_⟩
  obtain ⟨B, ds, inv, hC, om, r, q⟩ := h
  obtain ⟨ln, q⟩ := hτ _ _ _ q
  have l1 := r.length
  have wn : ∀ (i : Nat) a, (List.replicate N.length (none : Option Addr))[i]? ≠ some (some a) := fun i a e => by
    rw [List.getElem?_replicate] at e
    split at e <;> cases e
  refine ⟨fun a o => H a = some o ∧ ¬ G.C a ∧ NT o, nT H, B, fun _ => none, List.replicate N.length none, ds.map .val ++ List.replicate (N.length - ps.length) .un, _, ⟨inv, hC, fun a h => ?_, fun a o h => ⟨o, h.1, h.2.2⟩, fun a o h => h.2, fun i a h => (nomatch h), om, fun a h => h, fun a o h => h.1, fun i a h => (wn i a h).elim, fun i j a h => (wn i a h).elim, fun i a h => (wn i a h).elim, ?_, ?_, fun i s hs => ?_⟩, ?_, ⟨?_, fun _ _ _ _ _ z => False.elim z, fun _ _ _ _ _ z => False.elim z, ?_⟩, q⟩
  · obtain ⟨o, e, m⟩ := om a h; exact ⟨o, e, nt_mu m⟩
  · unfold L2.start
    rw [List.length_append, List.length_map, List.length_replicate, List.length_append, List.length_map, List.length_replicate, l1, ← ln, l1]
  · rw [List.length_replicate, List.length_append, List.length_map, List.length_replicate]; omega
  · by_cases hi : i < ds.length
    · rw [List.getElem?_append_left (by rw [List.length_map]; exact hi), List.getElem?_map] at hs
      obtain ⟨d, e⟩ : ∃ d, ds[i]? = some d := ⟨ds[i], List.getElem?_eq_getElem hi⟩
      rw [e] at hs
      cases hs
      obtain ⟨v, e2, rv⟩ := r.get e
      refine ⟨?_, v, ?_, Rep.carry (Carry.sub fun a h => h.elim (fun z => z) fun ⟨j, z⟩ => (wn j a z).elim) rv⟩
      · rw [List.getElem?_replicate, if_pos (by omega)]
      · unfold L2.start
        rw [List.getElem?_append_left (by rw [List.length_map, ← l1]; exact hi), List.getElem?_map, e2]; rfl
    · rw [List.getElem?_append_right (by rw [List.length_map]; omega), List.getElem?_replicate] at hs
      split at hs
      · cases hs
        show (List.replicate N.length (none : Option Addr))[i]? = some none
        rw [List.length_map] at *
        rw [List.getElem?_replicate, if_pos (by omega)]
      · cases hs
  · exact fun x H' hx i s t => hx H' i ⟨fun a o h n nt => s a o ⟨h, n, nt⟩, t⟩
  · exact fun δ' σ' H' ω' F' q => q _ H' F'.inv ⟨fun a o h n nt => F'.st a o ⟨h, n, nt⟩, F'.dm⟩ rfl
  · exact fun d v H' i s t r q => q v H' i ⟨fun a o h n nt => s a o ⟨h, n, nt⟩, t⟩ r
theorem fn_dl (F : FunD K x qual params body scope [] [] f fd) (S : FnScope N ps scope) (hl : ps.length ≤ N.length) (hτ : ∀ ds Q Z, φ ds Q Z → fnD ps.length N.length τ ds Q Z)
    (hb : ∀ (cdv : Value) (A : Around) (outer : List PySem.Env) (s : Shared) (H : Hp) (E : XK), Room k (A.deeper (PyProof.Rows.envOfC qual scope s.heap.objs.size f cdv)) → DSs (cxOf (L2.CX P w) P w K mg base N qual scope f cdv A outer s H E) G E body τ) :
    FnOk P w K mg base (L2.CX P w) (k + 1) f fd ps (spD G K φ) := by
  refine F.ok S (fun vs H Q E h => ?_) fun cdv A outer s H vs Q E hr h => ?_
  · obtain ⟨B, ds, _, _, _, r, q⟩ := h
    rw [← r.length]
    exact (hτ _ _ _ q).1
  · exact dl_enter hl hτ (hb cdv A outer s H E hr) h
/-- the same of a def whose code object is known -/
theorem fn_dlC {dV kV doc pm cdv ct oc : Value} {an od : Option Addr} {osl : Array (Option Value)} (lk : K.lookup f = some ⟨oc, od, .func (PySem.W.fnOf x qual params body scope dV kV doc pm an cdv ct), osl⟩) (hcd : PySem.W.codeIn K cdv qual = true) (S : FnScope N ps scope) (hl : ps.length ≤ N.length) (hτ : ∀ ds Q Z, φ ds Q Z → fnD ps.length N.length τ ds Q Z)
    (hb : ∀ (A : Around) (outer : List PySem.Env) (s : Shared) (H : Hp) (E : XK), Room k (A.deeper (PyProof.Rows.envOfC qual scope s.heap.objs.size f cdv)) → DSs (cxOf (L2.CX P w) P w K mg base N qual scope f cdv A outer s H E) G E body τ) :
    FnOk P w K mg base (L2.CX P w) (k + 1) f (PySem.W.fnOf x qual params body scope dV kV doc pm an cdv ct) ps (spD G K φ) := by
  refine fn_of lk hcd S (fun vs H Q E h => ?_) fun A outer s H vs Q E hr h => dl_enter hl hτ (hb A outer s H E hr) h
  obtain ⟨B, ds, _, _, _, r, q⟩ := h
  rw [← r.length]
  exact (hτ _ _ _ q).1
end
end DL

set_option Elab.async false
set_option linter.all false
set_option maxRecDepth 100000
namespace L2
open PySem PySem.Spec PyProof.Rows
/-! list.count of flat things -/
section
variable {X : Cx}
def rCntF (K : PySem.W.Frag) : V → List V → Hp → VK → Prop := fun x xs H Q => ∃ (p : Addr) (ys : List V) (y : V), x = .ref p ∧ xs = [y] ∧ SqL K H p ys ∧ flatV y = true ∧ ys.all flatV = true ∧ Q (.int ((ys.countP fun z => eqV z y : Nat) : Int)) H
theorem count_eqU {x : V} : ∀ {xs : List V} {us : List Value}, Vals xs us → xs.all flatV = true → us.countP (eqU x) = xs.countP fun y => eqV y x
  | _, _, .nil, _ => rfl
  | _, _, .cons r t, f => by
    simp only [List.all_cons, Bool.and_eq_true] at f
    rw [List.countP_cons, List.countP_cons, count_eqU t f.2, eqU_of r f.1]
theorem mt_lcountF : MtR X "list.count" (rCntF X.K) := by
  intro pins s σ H x xs v us Q I rx rxs h
  obtain ⟨p, ys, y, rfl, rfl, hs, fy, fys, q⟩ := h
  cases rx
  obtain ⟨u, rfl, ru⟩ := rxs.one
  obtain ⟨its, rv, ⟨⟨cls, dd, data, sl⟩, n, ho, hc, hdn, hd⟩, hlen⟩ := I.list hs
  simp only at hc hd
  subst hc hd
  refine call_meets PySem.F.slot_list_count ⟨_, ho, rfl⟩ PySem.F.entry_list_count (PySem.F.args_list_count_2 _ _)
    (SeqAt.list_countAt p its.toArray n dd sl u (eqU y)) ⟨ho, fun u' hu' => mem_eqAt ru fy rv fys u' (by simpa using hu'), ?_⟩
  have ec : its.toArray.toList.countP (eqU y) = ys.countP fun z => eqV z y := count_eqU rv fys
  refine ⟨.int ((ys.countP fun z => eqV z y : Nat) : Int), H, I.tok _, ⟨s.toks, ?_⟩, q⟩
  show Value.int ((its.toArray.toList.countP (eqU y) : Nat) : Int) s.toks = Value.int ((ys.countP fun z => eqV z y : Nat) : Int) s.toks
  rw [ec]
end
end L2
namespace DL
open PySem L2
section
variable {X : Cx} {K : PySem.W.Frag} {H : Hp} {O : Addr → Prop}
theorem upd_self {l : Addr} {o : HO} (h : H l = some o) : upd H l o = H := by
  funext a
  by_cases e : a = l
  · rw [e, upd_same, h]
  · rw [upd_ne e]
theorem flat_countP {d : D} {v : V} (f0 : flatD d = true) (h0 : RepTop K H O d v) : ∀ {ds : List D} {vs : List V}, ds.all flatD = true → RepL K H O ds vs → (vs.countP fun z => eqV z v) = ds.countP fun z => eqD z d
  | [], _, _, h => by cases h; rfl
  | e :: ds, _, f, h => by
    obtain ⟨u, r, rfl, e1, h⟩ := h
    simp only [List.all_cons, Bool.and_eq_true] at f
    rw [List.countP_cons, List.countP_cons, flat_countP f0 h0 f.2 h, flat_eq f.1 f0 e1.top h0]
def cntR : DM := fun ds as P => match as with
  | [d] => (flatD d = true ∧ ds.all flatD = true) ∧ P (.int ((ds.countP fun z => eqD z d : Nat) : Int)) ds
  | _ => False
theorem md_count : MtD X "list.count" cntR := by
  refine ⟨⟨_, mt_lcountF, fun {H O l xs ds as vs P Q} hl hd ha q k => ?_⟩, fun ds as P P' h q => by
    match as, q with
    | [d], q => exact ⟨q.1, h _ _ q.2⟩⟩
  match as, q with
  | [d], q =>
    obtain ⟨v, rfl, r⟩ := ha.one_inv
    refine ⟨l, xs, v, rfl, rfl, sql_of hl, flat_rep q.1.1 r.top, flat_all q.1.2 hd, ?_⟩
    have := k _ (.int ((xs.countP fun z => eqV z v : Nat) : Int)) _ _ q.2 (by rw [flat_countP q.1.1 r.top q.1.2 hd]; rfl) hd
    rwa [upd_self hl] at this
/-- the place of the first one that is alike -/
def idxR : DM := fun ds as P => match as with
  | [d] => (flatD d = true ∧ ds.all flatD = true) ∧ (ds.findIdx fun z => eqD z d) < ds.length ∧ P (.int ((ds.findIdx fun z => eqD z d : Nat) : Int)) ds
  | _ => False
theorem md_index : MtD X "list.index" idxR := by
  refine ⟨⟨_, mt_index, fun {H O l xs ds as vs P Q} hl hd ha q k => ?_⟩, fun ds as P P' h q => by
    match as, q with
    | [d], ⟨c, l, q⟩ => exact ⟨c, l, h _ _ q⟩⟩
  match as, q with
  | [d], ⟨c, hj, q⟩ =>
    obtain ⟨v, rfl, r⟩ := ha.one_inv
    have e1 : ds[ds.findIdx fun z => eqD z d]? = some ds[ds.findIdx fun z => eqD z d] := List.getElem?_eq_getElem hj
    obtain ⟨u, h1, h2⟩ := hd.get e1
    have fz : ∀ {m : Nat} {z : D}, ds[m]? = some z → flatD z = true := fun h => List.all_eq_true.mp c.2 _ (List.mem_of_getElem? h)
    refine ⟨l, xs, v, _, u, rfl, rfl, sql_of hl, flat_rep c.1 r.top, flat_all c.2 hd, h1, by rw [flat_eq (fz e1) c.1 h2.top r.top]; exact List.findIdx_getElem (p := fun z => eqD z d), fun m z' hm hz => ?_, ?_⟩
    · obtain ⟨d', e4, e5⟩ := RepL.get' hd hz
      rw [flat_eq (fz e4) c.1 e5.top r.top]
      obtain ⟨hm', rfl⟩ := List.getElem?_eq_some_iff.mp e4
      have := List.not_of_lt_findIdx (p := fun z => eqD z d) hm
      simpa using this
    · have := k _ (.int ((ds.findIdx fun z => eqD z d : Nat) : Int)) _ _ q rfl hd
      rwa [upd_self hl] at this
end
/-! ### our things are hidden for a while -/
def hideS : Sl → Sl
  | .own ds => .lent ds
  | .ownD _ => .un
  | .ownT _ => .un
  | s => s
def hideE (δ : Env) : Env := δ.map hideS
def allS (G : Amb) (H : Hp) (a : Addr) (o : HO) : Prop := H a = some o ∧ ¬ G.C a ∧ NT o
section
variable {G : Amb} {K : PySem.W.Frag} {S : Addr → HO → Prop} {T B : Addr → Prop} {A : Nat → Option Addr} {ω : List (Option Addr)} {H H' : Hp} {σ : St} {δ : Env}
def hideA (A : Nat → Option Addr) (ω : List (Option Addr)) (i : Nat) : Option Addr := match ω[i]? with
  | some (some a) => some a
  | _ => A i
theorem Fr.hide (F : Fr G K S T B A ω H σ δ) : Fr G K (allS G H) (nT H) (Ow B ω) (hideA A ω) (List.replicate δ.length none) H σ (hideE δ) := by
  have wn : ∀ (i : Nat) a, (List.replicate δ.length (none : Option Addr))[i]? ≠ some (some a) := fun i a e => by
    rw [List.getElem?_replicate] at e
    split at e <;> cases e
  refine ⟨F.inv, fun a h => .inl (F.cb a h), fun a h => ?_, fun a o h => ⟨o, h.1, h.2.2⟩, fun a o h => h.2, fun i a h => ?_, F.om, fun a h => h, fun a o h => h.1, fun i a h => (wn i a h).elim, fun i j a h => (wn i a h).elim, fun i a h => (wn i a h).elim, by rw [F.len]; simp [hideE], by simp [hideE], fun i s hs => ?_⟩
  · obtain ⟨o, e, m⟩ := F.om a h; exact ⟨o, e, nt_mu m⟩
  · unfold hideA at h
    split at h
    · rename_i b e; cases h; exact .inr ⟨i, e⟩
    · exact .inl (F.al i a h)
  · unfold hideE at hs
    rw [List.getElem?_map] at hs
    cases e : δ[i]? with
    | none => rw [e] at hs; cases hs
    | some s0 =>
      rw [e] at hs
      have hs : hideS s0 = s := by simpa using hs
      have hl : i < δ.length := (List.getElem?_eq_some_iff.mp e).1
      have w0 : (List.replicate δ.length (none : Option Addr))[i]? = some none := by rw [List.getElem?_replicate, if_pos hl]
      have ho : ∀ a, Ow (Ow B ω) (List.replicate δ.length none) a → Ow B ω a := fun a h => h.elim (fun z => z) fun ⟨j, z⟩ => (wn j a z).elim
      have so := F.slot i s0 e
      rw [w0]
      cases s0 with
      | un => subst hs; rfl
      | val d => subst hs; obtain ⟨_, v, e1, r⟩ := so; exact ⟨rfl, v, e1, Rep.carry (Carry.sub ho) r⟩
      | own ds =>
        subst hs
        obtain ⟨a, vs, e0, e1, e2, r⟩ := so
        refine ⟨rfl, a, vs, e1, ?_, ⟨e2, fun z => (F.sw i a e0).1 (F.cb a z), nt_lst⟩, RepL.carry (Carry.sub ho) r⟩
        unfold hideA
        rw [e0]
      | ownD ds => subst hs; rfl
      | ownT ds => subst hs; rfl
      | lent ds =>
        subst hs
        obtain ⟨e0, a, vs, e1, e2, e3, r⟩ := so
        refine ⟨rfl, a, vs, e1, ?_, ⟨F.st a _ e3, F.sc a _ e3⟩, RepL.carry (Carry.sub ho) r⟩
        unfold hideA
        rw [e0]; exact e2
theorem Fr.unhide (F : Fr G K S T B A ω H σ δ) (i : G.inv H') (s : ∀ a o, allS G H a o → H' a = some o) (t : ∀ a, nT H a → nT H' a) : Fr G K S T B A ω H' σ δ :=
  F.grow (fun a o h c n => s a o ⟨h, c, n⟩) i (fun a o h => s a o ⟨F.st a o h, F.sc a o h⟩) fun a h => t a (F.dm a h)
end
/-! ### a call whose arguments may be ours, that tells something flat -/
def rdL (δ : Env) : List Op → Option (List D)
  | [] => some []
  | o :: os => match rd o δ with
    | none => none
    | some d => match rdL δ os with
      | none => none
      | some ds => some (d :: ds)
def rdLK (os : List Op) (δ : Env) (k : List D → Prop) : Prop := match rdL δ os with
  | none => False
  | some ds => k ds
theorem rdLK_mono {os : List Op} {δ : Env} {k k' : List D → Prop} (h : ∀ d, k d → k' d) (q : rdLK os δ k) : rdLK os δ k' := by
  unfold rdLK at q ⊢
  split at q
  · exact q.elim
  · exact h _ q
theorem rdLK_some {os : List Op} {δ : Env} {k : List D → Prop} (q : rdLK os δ k) : ∃ ds, rdL δ os = some ds ∧ k ds := by
  unfold rdLK at q
  split at q
  · exact q.elim
  · exact ⟨_, ‹_›, q⟩
def xCallF (φ : FSp) (τs : DTA) : DT := fun Z δ Q => τs Z δ fun os δ' => rdLK os δ' fun ds => φ ds (fun d => flatD d = true ∧ Q (.v d) δ') fun x => x.fld = none ∧ Z x
theorem mono_callF {φ : FSp} {τs : DTA} (mf : MonoF φ) (m : MonoA τs) : Mono (xCallF φ τs) := ⟨fun _ _ _ _ _ hz h q => m.m _ _ _ _ _ hz (fun _ _ q => rdLK_mono (fun _ q => mf.m _ _ _ _ _ (fun _ q => ⟨q.1, h _ _ q.2⟩) (fun _ q => ⟨q.1, hz _ q.2⟩) q) q) q⟩
section
variable {G : Amb} {K : PySem.W.Frag} {S : Addr → HO → Prop} {T T0 B : Addr → Prop} {A : Nat → Option Addr} {ω : List (Option Addr)} {H H' : Hp} {σ : St} {δ : Env} {O : Addr → Prop} {P : Option Addr} {Ps : List Addr} {o : Op} {v : V} {d : D}
theorem ROp.repC (F : Fr G K S T B A ω H σ δ) (ct : ∀ a, G.C a → T0 a) (oc : ∀ a, G.C a → O a) (r : ROp K T0 H O σ P o v) (so : ∀ a, Ow B ω a → O a) (e : rd o δ = some d) : Rep K H G.C d v := by
  cases o with
  | v d' => cases e; exact Rep.carry (Carry.sub oc) r.2
  | n ds => cases e; obtain ⟨p, vs, _, e1, n, h, r⟩ := r; exact ⟨p, vs, e1, h, fun z => n (ct p z), RepL.carry (Carry.sub oc) r⟩
  | nd ds => cases e; obtain ⟨p, vs, _, e1, n, h, r⟩ := r; exact ⟨p, vs, e1, h, fun z => n (ct p z), RepK.carry (Carry.sub oc) r⟩
  | nt ds => cases e; obtain ⟨p, vs, _, e1, n, h, r⟩ := r; exact ⟨p, vs, e1, h, fun z => n (ct p z), RepT.carry (Carry.sub oc) r⟩
  | b i =>
    obtain ⟨_, e1⟩ := r
    simp only [rd] at e
    cases es : δ[i]? with
    | none => rw [es] at e; cases e
    | some s =>
      have so' := F.slot i s es
      rw [es] at e
      have oc' : ∀ a, G.C a → Ow B ω a := fun a h => .inl (F.cb a h)
      cases s with
      | own ds => cases e; obtain ⟨a, vs, w, e2, e3, r⟩ := so'; rw [e1] at e2; cases e2; exact ⟨a, vs, rfl, e3, fun z => (F.sw i a w).1 (F.cb a z), RepL.carry (Carry.sub oc') r⟩
      | ownD ds => cases e; obtain ⟨a, vs, w, e2, e3, r⟩ := so'; rw [e1] at e2; cases e2; exact ⟨a, vs, rfl, e3, fun z => (F.sw i a w).1 (F.cb a z), RepK.carry (Carry.sub oc') r⟩
      | ownT ds => cases e; obtain ⟨a, vs, w, e2, e3, r⟩ := so'; rw [e1] at e2; cases e2; exact ⟨a, vs, rfl, e3, fun z => (F.sw i a w).1 (F.cb a z), RepT.carry (Carry.sub oc') r⟩
      | lent ds => cases e; obtain ⟨_, a, vs, e2, _, e3, r⟩ := so'; rw [e1] at e2; cases e2; exact ⟨a, vs, rfl, F.st a _ e3, (F.sc a _ e3).1, RepL.carry (Carry.sub oc') r⟩
      | un => cases e
      | val _ => cases e
theorem ROps.repC (F : Fr G K S T B A ω H σ δ) (ct : ∀ a, G.C a → T0 a) (oc : ∀ a, G.C a → O a) (so : ∀ a, Ow B ω a → O a) : ∀ {Ps : List Addr} {os : List Op} {vs : List V} {ds : List D}, ROps K T0 H O σ Ps os vs → rdL δ os = some ds → RepL K H G.C ds vs := fun {Ps os vs ds} r => by
  induction r generalizing ds with
  | nil => intro e; cases e; rfl
  | cons r _ ih =>
    intro e
    unfold rdL at e
    split at e
    · cases e
    · rename_i d e1
      split at e
      · cases e
      · rename_i ds' e2
        cases e
        exact ⟨_, _, rfl, r.repC F ct oc so e1, ih e2⟩
theorem Rep.flat (f : flatD d = true) (r : Rep K H O d v) : Rep K H' T d v := by
  cases d <;> first | (simp [flatD] at f; done) | exact r
end
section
variable {X : Cx} {G : Amb} {E : XK} {e : Expr} {es : List Expr} {φ : FSp} {τs : DTA} {p pos : Pos} {k : Nat} {f : Addr} {fd : FuncData} {ps : List Str} {x : Str}
theorem callF_core {S : Addr → HO → Prop} {T B : Addr → Prop} {A : Nat → Option Addr} {ω ω1 : List (Option Addr)} {H1 : Hp} {σ : St} {δ1 : Env} {Z : Ex → Prop} {Q : VK} {ds : List D} {vs : List V} (mf : MonoF φ) (F1 : Fr G X.K S T B A ω1 H1 σ δ1) (w : WSub ω1 ω) (z : EOk G X.K S T B Z E)
    (r : RepL X.K H1 G.C ds vs) (q : φ ds (fun d => flatD d = true ∧ tK G X.K S T B A ω σ Q (.v d) δ1) fun x => x.fld = none ∧ Z x) : spD G X.K φ vs H1 Q E := by
  refine ⟨G.C, ds, F1.inv, fun a c => c, fun a h => F1.om a (.inl (F1.cb a h)), r, mf.m _ _ _ _ _ (fun d q v H' i g rd => ?_) (fun x hx H' i g => ?_) q⟩
  · have F2 : Fr G X.K S T B A ω1 H' σ δ1 := F1.grow g.1 i (fun a o h => g.1 a o (F1.st a o h) (F1.sc a o h).1 (F1.sc a o h).2) fun a h => g.2 a (F1.dm a h)
    exact q.2 v H' ω1 none ⟨by rw [bp_none, bp_none]; exact F2, w, rfl, Rep.flat q.1 rd⟩
  · have := z x H' hx.2 i (fun a o h => g.1 a o (F1.st a o h) (F1.sc a o h).1 (F1.sc a o h).2) fun a h => g.2 a (F1.dm a h)
    unfold ExR at this ⊢
    rw [hx.1] at this ⊢
    exact this
theorem de_callF (F : FnOk X.prog X.w X.K X.mg X.base (L2.CX X.prog X.w) k f fd ps (spD G X.K φ)) (mf : MonoF φ) (hr : Room k X.A) (hg : Gl X x) (hm : X.mg x = some (.ref f)) (hk : PySem.W.keepIn X.K (.ref f) = true) (hb : Binds X.K fd ps []) (hx : Passes (L2.CX X.prog X.w) X E)
    (ha : DA X G E (e :: es) τs) (hdb : (x == ("__debug__" : Str)) = false := by decide) (he : starEach (e :: es) X.env = (false, eval e X.env) :: starEach es X.env := by rfl) (hpl : (backTo pos (starEach es X.env)).any (·.1) = false := by rfl) :
    DE X G E (.Call (.Name x p) (e :: es) [] pos) (xCallF φ τs) := by
  have m := mono_callF mf ha.mono
  refine ⟨PE.imp (pe_call F hr hg hm hk hb .nil hx ha.pa hdb he hpl) fun σ H Q h => ?_, m⟩
  obtain ⟨S, T, B, A, ω, δ, Z, Fs, z, q⟩ := tD_to m h
  refine tA_of ha.mono Fs z q fun os δ' vs H' ω' Ps q ev => ?_
  obtain ⟨ds, e1, q⟩ := rdLK_some q
  show spD G X.K φ (vs ++ []) H' Q E
  rw [List.append_nil]
  exact callF_core mf (ev.drop Fs) ev.ws z (ROps.repC ev.fr (fun a h => Fs.bt a (Fs.cb a h)) (fun a h => .inl (.inl (Fs.cb a h))) (fun a h => h) ev.rp e1) q
end
/-! ### the law's lambdas -/
/-- what a def that hears a call makes of it: R: of an error's class, l: of none -/
def TTh (G : Amb) (K : PySem.W.Frag) (R : Addr → Option D) (l : D) : (XK → Hp → VK → Prop) → Hp → VK → Prop := fun tl H Q => G.inv H ∧ ∃ (E1 : XK) (Q1 : VK), tl E1 H Q1 ∧
  (∀ cls d H', E1 cls d H' → ∃ C w, cls = .ref C ∧ d = none ∧ R C = some w ∧ G.inv H' ∧ ∀ v H'', G.inv H'' → Grow G.C H' H'' → Rep K H'' G.C w v → Q v H'') ∧
  ∀ u H', Q1 u H' → G.inv H' ∧ ∀ v H'', G.inv H'' → Grow G.C H' H'' → Rep K H'' G.C l v → Q v H''
def xHear (R : Addr → Option D) (l : D) (τ : DT) : DT := fun Z δ Q => (flatD l = true ∧ ∀ C w, R C = some w → flatD w = true) ∧ τ (fun x => x.fld = none ∧ ∃ w, R x.cls = some w ∧ Q (.v w) δ) (hideE δ) fun _ _ => Q (.v l) δ
section
variable {X : Cx} {G : Amb} {E : XK}
theorem Grow.trans {C : Addr → Prop} {H H1 H2 : Hp} (a : Grow C H H1) (b : Grow C H1 H2) : Grow C H H2 := ⟨a.1.trans b.1, fun c h => b.2 c (a.2 c h)⟩
theorem de_hear {T : List (Addr × Str)} {R : Addr → Option D} {l : D} {x a : Str} {g c P : Addr} {k : Nat} {pg : Arguments} {bg : List Stmt} {sg : Scope} {dV kV doc pm cdv ct oc : Value} {an od : Option Addr} {osl : Array (Option Value)} {Ng : List Str}
    {params : Arguments} {body : Expr} {scope : Scope} {τ : DT} {p lpos pos : Pos} (hg : Gl X x) (hm : X.mg x = some (.ref g)) (hk : PySem.W.keepIn X.K (.ref g) = true)
    (lk : X.K.lookup g = some ⟨oc, od, .func (PySem.W.fnOf x x pg bg sg dV kV doc pm an cdv ct), osl⟩) (hcg : PySem.W.codeIn X.K cdv x = true) (hb : L2.Binds X.K (PySem.W.fnOf x x pg bg sg dV kV doc pm an cdv ct) [a] []) (Sg : FnScope Ng [a] sg) (hNg : Ng[0]? = some a) (hva : Vis sg a)
    (hG : LamX.GivesTo X Ng x sg g cdv bg a (X.env.qual ++ "<lambda>") (TTh G X.K R l))
    (TB : LamX.TabB X.base X.mg c P) (hcode : X.env.code = .ref c) (hmT : (P, X.env.qual ++ "<lambda>") ∈ T) (hu : ∀ p ∈ T, p.1 = P → p.2 = X.env.qual ++ "<lambda>") (hr : Room (k + 2) X.A) (L : LamX.LamS X.env.scope scope) (hdef : defaultsOf params X.env = ([], []))
    (hbind : ∀ (q : Str) (cl : List (Str × Addr)) (pm cv ctv : Value), bindArgs (PySem.W.kla_fn "<lambda>" q params body scope cl pm cv ctv) ⟨[], []⟩ = pure [])
    (hT : ∀ H, G.inv H → LamX.Tabs T H) (hN : ∀ H H1, G.inv H → LamX.ExtN H H1 → LamX.Tabs T H1 → G.inv H1)
    (hbody : ∀ (A : Around) (outer : List PySem.Env) (s : Shared) (H : Hp) (E : XK) (f c' : Addr), Room k (A.deeper (LamX.lamEnv X scope s.heap.objs.size f c')) → DE (LamX.lamCx X A outer s H E scope f c') G E body τ)
    (hdb : (x == ("__debug__" : Str)) = false := by decide) (hd : (a == ("__debug__" : Str)) = false := by decide) (hcd : (a == ("__classdict__" : Str)) = false := by decide) :
    DE X G E (.Call (.Name x p) [.Lambda params body scope lpos] [] pos) (xHear R l τ) := by
  have mτ : Mono τ := (hbody X.A [] X.s_0 X.H_0 E 0 0 ((hr.mono (by omega) : Room (k + 1) X.A).deeper _)).mono
  have m : Mono (xHear R l τ) := ⟨fun _ _ _ _ _ hz h q => ⟨q.1, mτ.m _ _ _ _ _ (fun x q => ⟨q.1, let ⟨w, e, q⟩ := q.2; ⟨w, e, h _ _ q⟩⟩) (fun _ _ q => h _ _ q) q.2⟩⟩
  refine ⟨PE.imp (LamX.pe_lamcall (t := fun E => tD G X.K E τ) hg hm hk lk hcg hb Sg hNg hva hG TB hcode hmT hu hr L hdef hbind (fun A outer s H E f c' hr => (hbody A outer s H E f c' hr).pe) hdb hd hcd) fun σ H Q h => ?_, m⟩
  obtain ⟨S, T', B, A, ω, δ, Z, F, z, ⟨fl, fR⟩, q⟩ := tD_to m h
  refine ⟨hT H F.inv, fun H1 ex t1 => ?_⟩
  have i1 := hN H H1 F.inv ex t1
  have F1 : Fr G X.K S T' B A ω H1 σ δ := F.grow (fun a o h _ n => ex a o h n) i1 (fun a o h => ex a o (F.st a o h) (F.sc a o h).2) fun a h => by
    obtain ⟨o, e, n⟩ := F.dm a h
    exact ⟨o, ex a o e n, n⟩
  -- what comes behind
  have fin : ∀ {w : D} {H' : Hp}, flatD w = true → tK G X.K S T' B A ω σ Q (.v w) δ → (∀ a o, allS G H1 a o → H' a = some o) → (∀ a, nT H1 a → nT H' a) → ∀ v H'', G.inv H'' → Grow G.C H' H'' → Rep X.K H'' G.C w v → Q v H'' := fun {w H'} fw qw s t v H'' i g r => by
    have F2 : Fr G X.K S T' B A ω H'' σ δ := F1.unhide i (fun a o h => g.1 a o (s a o h) h.2.1 h.2.2) fun a h => by
      exact g.2 a (t a h)
    exact qw v H'' ω none ⟨by rw [bp_none, bp_none]; exact F2, .refl, rfl, Rep.flat fw r⟩
  refine ⟨i1, fun cls d H' => ∃ C w, cls = .ref C ∧ d = none ∧ R C = some w ∧ G.inv H' ∧ ∀ v H'', G.inv H'' → Grow G.C H' H'' → Rep X.K H'' G.C w v → Q v H'', fun _ H' => G.inv H' ∧ ∀ v H'', G.inv H'' → Grow G.C H' H'' → Rep X.K H'' G.C l v → Q v H'', ?_, fun _ _ _ h => h, fun _ _ h => h⟩
  refine tD_of F1.hide (fun x H' hx i s t => ?_) (mτ.m _ _ _ _ _ (fun _ z => z) (fun o δ' q v H' ω' P ev => ?_) q) mτ
  · obtain ⟨xf, w, e, qw⟩ := hx
    unfold ExR
    rw [xf]
    exact ⟨x.cls, w, rfl, rfl, e, i, fin (fR _ _ e) qw s t⟩
  · exact ⟨ev.fr.inv, fin fl q ev.fr.st fun a h => ev.fr.dm a (.inl h)⟩
end
end DL

set_option Elab.async false
set_option linter.all false
set_option maxRecDepth 100000
namespace DL
open PySem L2
/-! ### a def that hears a call -/
section
variable {G : Amb} {K : PySem.W.Frag} {H H' : Hp} {σ : St} {δ : Env}
/-- a frame anew: only flat things and bare addresses are known of it -/
def flE (K : PySem.W.Frag) (σ : St) (δ : Env) : Prop := σ.length = δ.length ∧ ∀ (i : Nat) (s : Sl), δ[i]? = some s → s = .un ∨ ∃ d v, s = .val d ∧ σ[i]? = some (some v) ∧ ∀ H O, Rep K H O d v
theorem Fr.anew (i : G.inv H) (h : flE K σ δ) : Fr G K (allS G H) (nT H) G.C (fun _ => none) (List.replicate δ.length none) H σ δ := by
  have wn : ∀ (i : Nat) a, (List.replicate δ.length (none : Option Addr))[i]? ≠ some (some a) := fun i a e => by
    rw [List.getElem?_replicate] at e
    split at e <;> cases e
  refine ⟨i, fun _ h => h, fun a h => ?_, fun a o h => ⟨o, h.1, h.2.2⟩, fun a o h => h.2, fun i a h => (nomatch h), fun a h => G.muC H a i h, fun a h => h, fun a o h => h.1, fun i a h => (wn i a h).elim, fun i j a h => (wn i a h).elim, fun i a h => (wn i a h).elim, h.1, by rw [List.length_replicate], fun j s hs => ?_⟩
  · obtain ⟨o, e, m⟩ := G.muC H a i h; exact ⟨o, e, nt_mu m⟩
  · have hl := (List.getElem?_eq_some_iff.mp hs).1
    rcases h.2 j s hs with rfl | ⟨d, v, rfl, e, r⟩
    · show _ = _
      rw [List.getElem?_replicate, if_pos hl]
    · exact ⟨by rw [List.getElem?_replicate, if_pos hl], v, e, r _ _⟩
theorem EP.imp {X : Cx} {pins : List (Addr × Obj)} {Q Q1 : VK} {e : Expr} {t : TE} (he : PE X e t) : PE X e (fun σ H Q => ∃ Q1 : VK, t σ H Q1 ∧ ∀ v H', Q1 v H' → Q v H') := ⟨fun pins s σ H Q I ⟨Q1, h, k⟩ =>
  wpAny_mono (he.run pins s σ H Q1 I h) (fun v s' ⟨x, H', I', r, q⟩ => ⟨x, H', I', r, k _ _ q⟩) fun _ _ h => h⟩
end
/-- isinstance(e, C), e the caught one -/
def xIsE (i : Nat) (a : Addr) (b : Bool) : DT := fun _ δ Q => match δ[i]? with
  | some (.val (.ref a')) => a' = a ∧ Q (.v (.bl b)) δ
  | _ => False
section
variable {X : Cx} {G : Amb} {E : XK}
theorem mono_isE {i : Nat} {a : Addr} {b : Bool} : Mono (xIsE i a b) := ⟨fun _ _ δ _ _ _ h q => by
  unfold xIsE at q ⊢
  split at q
  · exact ⟨q.1, h _ _ q.2⟩
  · exact q.elim⟩
theorem de_isE {i : Nat} {a C : Addr} {oe : Obj} {pn : List (Addr × Obj)} {b : Bool} {y c : Str} {v : V} {cv : Value} {p p1 p2 pos : Pos} (hC : ExcC X.K C) (hz : Zc (.ref C) none oe) (hf : ∃ vs, oe.data = .fields vs) (hg : Gl X "isinstance") (hm : X.mg "isinstance" = none) (hN : X.N[i]? = some y) (hv : Vis X.env.scope y)
    (hc : PE (X.suite a ((a, oe) :: pn)) (.Name c p2) (tC v)) (hcv : ∀ u, RelV v u → u = cv) (hk : PySem.W.kitOne X.K (.ref C) cv = some b) (hd : (y == ("__debug__" : Str)) = false := by decide) (hcd : (y == ("__classdict__" : Str)) = false := by decide)
    (hq : starEach [.Name y p1, .Name c p2] X.env = (false, eval (.Name y p1) X.env) :: starEach [.Name c p2] X.env := by rfl) (hq2 : starEach [.Name c p2] X.env = (false, eval (.Name c p2) X.env) :: starEach [] X.env := by rfl) (hpl : (backTo pos (starEach [.Name c p2] X.env)).any (·.1) = false := by rfl) :
    DE (X.suite a ((a, oe) :: pn)) G E (.Call (.Name "isinstance" p) [.Name y p1, .Name c p2] [] pos) (xIsE i a b) := by
  refine ⟨PE.imp (pe_callB (X := X.suite a ((a, oe) :: pn)) (call_isE hC hz hf) hg hm rfl (pa_cons (pe_var (X := X.suite a ((a, oe) :: pn)) hN hv hd hcd) (pa_cons hc pa_nil hq2) hq) (by decide) (by decide) hq hpl) fun σ H Q h => ?_, mono_isE⟩
  obtain ⟨S, T, B, A, ω, δ, Z, F, z, q⟩ := tD_to mono_isE h
  unfold xIsE at q
  split at q
  case h_2 => exact q.elim
  case h_1 a' e =>
    obtain ⟨rfl, q⟩ := q
    obtain ⟨_, u, e2, e3⟩ := F.slot i _ e
    cases e3
    exact ⟨_, e2, v, cv, b, rfl, hcv, hk, q (.bl b) H ω none ⟨by rw [bp_none, bp_none]; exact F, .refl, rfl, rfl⟩⟩
end
def endW (w : D) : DEnds := ⟨fun _ => False, fun d => d = w, fun _ => False, fun _ => False, fun _ => False⟩
section
variable {X : Cx} {G : Amb}
theorem PSs.len {st : List Stmt} {t : TS} (h : PSs X st t) : PSs X st (fun D σ H => σ.length = X.N.length → t D σ H) := ⟨fun pins s σ H D I q => h.run pins s σ H D I (q I.len)⟩
/-- the ends of what hears, when it tells w -/
theorem ends_w {K : PySem.W.Frag} {H : Hp} {Q : VK} {w : D} (hw : ∀ v H'', G.inv H'' → Grow G.C H H'' → Rep K H'' G.C w v → Q v H'') : EndsOk G K (allS G H) (nT H) G.C (fun _ => none) (endW w) { nx := fun _ H' => Q .non H', rt := Q } :=
  ⟨fun _ _ _ _ _ z => False.elim z, fun _ _ _ _ _ z => False.elim z, fun _ _ _ _ _ z => False.elim z, fun d v H' i s t r e => by
    have e : d = w := e
    subst e
    exact hw v H' i ⟨fun a o h c n => s a o ⟨h, c, n⟩, t⟩ r⟩
/-- try: a() except C as n: suite, then post; of a frame of which flat things are known -/
theorem hear_core {Ng : List Str} {x n ec q : Str} {sg : Scope} {g CS f c' : Addr} {cdg : Value} {i : Nat} {suite post : List Stmt} {b0 : Stmt} {τs : Addr → Addr → DSt} {τp : DSt} {R : Addr → Option D} {l : D} {s : Shared} {H : Hp} {Q : VK} {tl : XK → Hp → VK → Prop} {a : Str} {p1 p2 p3 p4 p7 p8 : Pos}
    (act : ∀ (W : WX) (pn : List (Addr × Obj)) (xe : Value → Shared → Prop) (E : XK) (p1 p2 : Pos), Takes ((cxOf C8.CX0 X.prog X.w X.K X.mg X.base Ng x sg g cdg X.A X.stack s H C8.E0).tr pn xe) W → (∀ cls d σ' H', E cls d H' → W cls d σ' H') →
      PE ((cxOf C8.CX0 X.prog X.w X.K X.mg X.base Ng x sg g cdg X.A X.stack s H C8.E0).tr pn xe) (.Call (.Name a p1) [] [] p2) (fun σZ HZ Q => σZ[0]? = some (some (.ref f)) ∧ HZ c' = some (LamX.CodeO c' q) ∧ tl E HZ Q))
    (hN : Ng.Nodup) (hi : Ng[i]? = some n) (hln : sg.names.lookup n = some .local) (hge : sg.names.lookup ec = some .globalImplicit) (hme : X.mg ec = some (.ref CS)) (hde : (ec == ("__debug__" : Str)) = false)
    (hR : ∀ C w, R C = some w → PySem.W.exmOne X.K (.ref C) (.ref CS) = some true)
    (hsu : ∀ (e : Addr) (oe : Obj) (pn : List (Addr × Obj)) (C : Addr) (w : D), R C = some w → Zc (.ref C) none oe → (∃ vs, oe.data = .fields vs) → DSs ((cxOf C8.CX0 X.prog X.w X.K X.mg X.base Ng x sg g cdg X.A X.stack s H C8.E0).nox.suite e ((e, oe) :: pn)) G C8.E0 (b0 :: suite) (τs e C))
    (hpost : DSs (cxOf C8.CX0 X.prog X.w X.K X.mg X.base Ng x sg g cdg X.A X.stack s H C8.E0).nox G C8.E0 post τp)
    (rexc : ∀ C w e, R C = some w → τs e C ⟨fun δ' => τp (endW w) (wipeE [i] δ'), fun d => d = w, fun _ => False, fun _ => False, fun _ => False⟩ ((List.replicate Ng.length .un).set i (.val (.ref e))))
    {δ : Env} (rok : τp (endW l) δ) :
    ∃ t, PSs (cxOf C8.CX0 X.prog X.w X.K X.mg X.base Ng x sg g cdg X.A X.stack s H C8.E0).nox (.Try [.Expr (.Call (.Name a p1) [] [] p2) p3] [.ExceptHandler (some (.Name ec p4)) (some n) (b0 :: suite) p7] [] [] p8 :: post) t ∧
      ∀ σ H, σ[0]? = some (some (.ref f)) → flE X.K σ δ → H c' = some (LamX.CodeO c' q) → TTh G X.K R l tl H Q → t { nx := fun _ H' => Q .non H', rt := Q } σ H := by
  have hgl : Gl (cxOf C8.CX0 X.prog X.w X.K X.mg X.base Ng x sg g cdg X.A X.stack s H C8.E0).nox ec := hge
  refine ⟨_, pss_cons (ps_try_as (X := (cxOf C8.CX0 X.prog X.w X.K X.mg X.base Ng x sg g cdg X.A X.stack s H C8.E0).nox) (c := .ref CS) (i := i) (Wout := fun _ _ _ _ => False)
      (tb := fun W D σ H => ∃ (E1 : XK) (Q1 : VK), (∀ cls d σ' H', E1 cls d H' → W cls d σ' H') ∧ σ[0]? = some (some (.ref f)) ∧ H c' = some (LamX.CodeO c' q) ∧ tl E1 H Q1 ∧ ∀ v H', Q1 v H' → D.nx σ H')
      (ts := fun e cls d => fun D σ H => ∃ C w, cls = .ref C ∧ d = none ∧ R C = some w ∧ (σ.length = Ng.length → sD G X.K C8.E0 (τs e C) D σ H))
      rfl rfl hN hi hln ⟨hgl, hde, .inl hme⟩ LamX.takes0 (fun W pn xe tk _ => ?_) (fun e oe cls d pn hz hf => ?_)) hpost.ps, ?_⟩
  · refine ⟨fun pins s' σ H' D I h' => ?_⟩
    obtain ⟨E1, Q1, hW, h1, h2, h3, h4⟩ := h'
    have hp := EP.imp (pins := pins) (Q := Q1) (Q1 := Q1) (act W pn xe E1 p1 p2 tk hW)
    have hq := pss_one (ps_expr (pos := p3) hp)
    exact hq.run pins s' σ H' D I ⟨Q1, ⟨h1, h2, h3⟩, h4⟩
  · refine ⟨fun pins s' σ H' D I h' => ?_⟩
    obtain ⟨C, w, rfl, rfl, e1, h⟩ := h'
    exact (hsu e oe pn C w e1 hz hf).ps.run pins s' σ H' D I (h I.len)
  · intro σ H2 h0 fl hc ht
    obtain ⟨i2, E1, Q1, h1, h2, h3⟩ := ht
    refine ⟨E1, Q1, fun cls d σ' H' he => ?_, h0, hc, h1, fun v H' q => ?_⟩
    · obtain ⟨C, w, rfl, rfl, e1, i', hw⟩ := h2 _ _ _ he
      refine ⟨true, hR C w e1, fun _ e en => ⟨C, w, rfl, rfl, e1, fun ln => ?_⟩, fun z => by cases z⟩
      have fe : flE X.K (σ'.set i (some (.ref e))) ((List.replicate Ng.length .un).set i (.val (.ref e))) := by
        refine ⟨by rw [ln, List.length_set, List.length_replicate], fun j s hs => ?_⟩
        rcases set_get hs with ⟨rfl, rfl, _⟩ | ⟨hn, hs⟩
        · refine .inr ⟨.ref e, .ref e, rfl, ?_, fun _ _ => rfl⟩
          have hl : j < (σ'.set j (some (.ref e))).length := by rw [ln]; exact (List.getElem?_eq_some_iff.mp hi).1
          rw [List.length_set] at hl
          exact List.getElem?_set_self hl
        · rw [List.getElem?_replicate] at hs
          split at hs
          · cases hs; exact .inl rfl
          · cases hs
      have F := Fr.anew (K := X.K) i' fe
      have en' := ends_w hw
      refine sD_of (F := ⟨fun δ' => τp (endW w) (wipeE [i] δ'), fun d => d = w, fun _ => False, fun _ => False, fun _ => False⟩) F (fun _ _ z => False.elim z) ⟨fun δ' σ2 H3 ω' F' q => ?_, fun _ _ _ _ _ z => False.elim z, fun _ _ _ _ _ z => False.elim z, fun d v H3 i3 s t r e => en'.rt d v H3 i3 s t r e⟩ (rexc C w e e1)
      have F2 := F'.wipe (vs := [i]) (σ := σ2) rfl fun _ _ => rfl
      exact sD_of F2 (fun _ _ z => False.elim z) ⟨fun _ _ _ _ _ z => False.elim z, fun _ _ _ _ _ z => False.elim z, fun _ _ _ _ _ z => False.elim z, fun d v H3 i3 s t r e => en'.rt d v H3 i3 s t r e⟩ q
    · obtain ⟨i', hw⟩ := h3 _ _ q
      exact sD_of (Fr.anew i' fl) (fun _ _ z => False.elim z) (ends_w hw) rok
end
end DL

set_option Elab.async false
set_option linter.all false
set_option maxRecDepth 100000
namespace DL
open PySem L2
/-! ### defs by name -/
structure Cal (P : Program) (w : World) (K : PySem.W.Frag) (mg : Str → Option Value) (base : Heap) (G : Amb) (x : Str) (f : Addr) (k : Nat) (φ : FSp) : Prop where
  ex : ∃ (fd : FuncData) (ps : List Str), FnOk P w K mg base (L2.CX P w) k f fd ps (spD G K φ) ∧ Binds K fd ps []
  gl : mg x = some (.ref f)
  kp : PySem.W.keepIn K (.ref f) = true
  mono : MonoF φ
theorem passes0 {X : Cx} : Passes (L2.CX X.prog X.w) X E0' := passes_call LamX.takes0 (fun _ _ _ _ h => h)
section
variable {X : Cx} {G : Amb} {E : XK} {e : Expr} {es : List Expr} {φ : FSp} {τs : DTA} {p pos : Pos} {k : Nat} {f : Addr} {x : Str}
theorem de_callC (c : Cal X.prog X.w X.K X.mg X.base G x f k φ) (hr : Room k X.A) (hg : Gl X x) (hx : Passes (L2.CX X.prog X.w) X E) (ha : DA X G E (e :: es) τs) (hdb : (x == ("__debug__" : Str)) = false := by decide)
    (he : starEach (e :: es) X.env = (false, eval e X.env) :: starEach es X.env := by rfl) (hpl : (backTo pos (starEach es X.env)).any (·.1) = false := by rfl) : DE X G E (.Call (.Name x p) (e :: es) [] pos) (xCall φ τs) := by
  obtain ⟨⟨fd, ps, F, hb⟩, gl, kp, mf⟩ := c
  exact de_call F mf hr hg gl kp hb hx ha hdb he hpl
theorem de_callC0 (c : Cal X.prog X.w X.K X.mg X.base G x f k φ) (hr : Room k X.A) (hg : Gl X x) (hx : Passes (L2.CX X.prog X.w) X E) (hdb : (x == ("__debug__" : Str)) = false := by decide) : DE X G E (.Call (.Name x p) [] [] pos) (xCall φ xNilA) := by
  obtain ⟨⟨fd, ps, F, hb⟩, gl, kp, mf⟩ := c
  exact de_call0 F mf hr hg gl kp hb hx hdb
theorem de_callFC (c : Cal X.prog X.w X.K X.mg X.base G x f k φ) (hr : Room k X.A) (hg : Gl X x) (hx : Passes (L2.CX X.prog X.w) X E) (ha : DA X G E (e :: es) τs) (hdb : (x == ("__debug__" : Str)) = false := by decide)
    (he : starEach (e :: es) X.env = (false, eval e X.env) :: starEach es X.env := by rfl) (hpl : (backTo pos (starEach es X.env)).any (·.1) = false := by rfl) : DE X G E (.Call (.Name x p) (e :: es) [] pos) (xCallF φ τs) := by
  obtain ⟨⟨fd, ps, F, hb⟩, gl, kp, mf⟩ := c
  exact de_callF F mf hr hg gl kp hb hx ha hdb he hpl
/-- a def's name as a value -/
theorem de_fn (hg : Gl X x) (hm : X.mg x = some (.ref f)) (hd : (x == ("__debug__" : Str)) = false := by decide) : DE X G E (.Name x pos) (xC (.ref f)) := de_glob hg hm (v := .ref f) rfl (fun _ _ => rfl) hd
theorem de_con {n : Int} {t : Tok} (hg : Gl X x) (hm : X.mg x = some (.int n t)) (hd : (x == ("__debug__" : Str)) = false := by decide) : DE X G E (.Name x pos) (xC (.int n)) := de_glob hg hm (v := .int n) ⟨t, rfl⟩ (fun _ _ => rfl) hd
end
def shlR : D2 := fun d1 d2 P => match d1, d2 with
  | .int i, .int j => (0 ≤ j ∧ j ≤ 1000000 ∧ i.natAbs < 2 ^ 64) ∧ P (.v (.int (i * 2 ^ j.toNat)))
  | _, _ => False
theorem opd_shl {X : Cx} : OpD X (binaryOp .LShift) shlR := opd_int op_shl fun d1 d2 P => by cases d1 <;> cases d2 <;> exact Iff.rfl
/-! a comprehension's block, by looking -/
def blkB (N : List Str) (sc scope : Scope) (own : List (Str × Nat)) : Bool :=
  decide (scope.kind = .function) && (scope.names.all fun y => decide (scope.names.lookup y.1 = some y.2)) && (own.all fun p => decide (N[p.2]? = some p.1)) &&
    (scope.names.all fun y => !decide (y.2 = .free) || decide (sc.names.lookup y.1 = some .cell) || decide (sc.names.lookup y.1 = some .free)) &&
    (scope.names.all fun y => !(decide (y.2 = .local) || decide (y.2 = .cell)) || (own.map (·.1)).contains y.1 || !N.contains y.1)
theorem blk_by {N : List Str} {sc scope : Scope} {own : List (Str × Nat)} (h : blkB N sc scope own = true) : BlkOk N sc scope own := by
  unfold blkB at h
  simp only [Bool.and_eq_true, Bool.or_eq_true, Bool.not_eq_true', decide_eq_true_eq, decide_eq_false_iff_not, List.all_eq_true] at h
  obtain ⟨⟨⟨⟨h1, h2⟩, h3⟩, h4⟩, h5⟩ := h
  refine ⟨h1, h2, h3, fun y hy e => ?_, fun y hy e => ?_⟩
  · rcases h4 y hy with (h | h) | h
    · exact absurd e h
    · exact .inl h
    · exact .inr h
  · rcases h5 y hy with (h | h) | h
    · simp only [Bool.or_eq_false_iff, decide_eq_false_iff_not] at h
      rcases e with e | e
      · exact absurd e h.1
      · exact absurd e h.2
    · exact .inl (by simpa using h)
    · exact .inr (by simpa using h)
theorem units5 {k : Nat} {A : Around} (r : Room k A) : A.units + 65 < cLine := by have := r.un; omega
/-! ### promises -/
/-- told by its arguments: an error or a thing -/
def detF (C : List D → Prop) (e : List D → Option Ex) (r : List D → D) : FSp := fun ds Q Z => C ds ∧ match e ds with
  | none => Q (r ds)
  | some x => Z x
theorem mono_detF {C : List D → Prop} {e : List D → Option Ex} {r : List D → D} : MonoF (detF C e r) := ⟨fun ds Q Q' Z Z' hq hz q => ⟨q.1, by
  have q := q.2
  cases e1 : e ds with
  | none => rw [e1] at q; exact hq _ q
  | some x => rw [e1] at q; exact hz _ q⟩⟩
/-- any of some things -/
def anyF (C : List D → Prop) (R : List D → D → Prop) : FSp := fun ds Q _ => C ds ∧ ∀ d, R ds d → Q d
theorem mono_anyF {C : List D → Prop} {R : List D → D → Prop} : MonoF (anyF C R) := ⟨fun ds Q Q' Z Z' hq hz q => ⟨q.1, fun d h => hq _ (q.2 d h)⟩⟩
/-! ### loops -/
theorem forL_ind {γ : DTg} {τ : DSt} {l : Option Nat} {F : DEnds} {ds : List D} {δ : Env} (mg : MonoG γ) (m : MonoS τ) (P : Nat → Env → Prop) (h0 : P 0 δ)
    (hs : ∀ i d δ, ds[i]? = some d → P i δ → γ (.v d) δ fun δ' => τ (loopE (P (i + 1)) (fun δ => F.nx (un l δ)) F) δ') (hd : ∀ δ, P ds.length δ → F.nx (un l δ)) : forL γ τ l F ds δ := by
  have key : ∀ (es : List D) (n : Nat) (δ : Env), ds.drop n = es → P n δ → n + es.length = ds.length → forL γ τ l F es δ := by
    intro es
    induction es with
    | nil => intro n δ _ p hn; rw [List.length_nil, Nat.add_zero] at hn; subst hn; exact hd δ p
    | cons d es ih =>
      intro n δ e p hn
      have hd : ds[n]? = some d := by
        have : (ds.drop n)[0]? = some d := by rw [e]; rfl
        rwa [List.getElem?_drop, Nat.add_zero] at this
      have e2 : ds.drop (n + 1) = es := by rw [← List.drop_drop, e]; rfl
      exact mg.m _ _ _ _ (fun δ' q => m.m _ _ _ (loopE_le (fun δ2 q2 => ih (n + 1) δ2 e2 q2 (by simp only [List.length_cons] at hn; omega)) (fun _ q => q) .refl) q) (hs n d δ hd p)
  exact key ds 0 δ rfl h0 (by simp)
theorem while_ind {θ : DTT} {τ : DSt} {F : DEnds} {δ : Env} (mt : MonoT θ) (m : MonoS τ) (P : Nat → Env → Prop) {n : Nat} (h0 : P n δ)
    (hs : ∀ n δ, P n δ → θ F.ex δ fun b δ' => if b = true then τ (loopE (fun δ2 => ∃ k, k < n ∧ P k δ2) F.nx F) δ' else F.nx δ') : xWh θ τ F δ := by
  have key : ∀ (n m' : Nat) (δ : Env), n < m' → P n δ → whN θ τ F m' δ := by
    intro n
    induction n using Nat.strongRecOn with
    | _ n ih =>
      intro m' δ hm p
      cases m' with
      | zero => omega
      | succ m' =>
        refine mt.m _ _ _ _ _ (fun _ z => z) (fun b δ' q => ?_) (hs n δ p)
        cases b with
        | true => exact m.m _ _ _ (loopE_le (fun δ2 q2 => by obtain ⟨k, hk, p2⟩ := q2; exact ih k hk m' δ2 (by omega) p2) (fun _ q => q) .refl) q
        | false => exact q
  exact ⟨n + 1, key n (n + 1) δ (by omega) h0⟩
/-- a comprehension whose turns leave the names alone: what is kept of each thing -/
theorem lc_map {γ : DTg} {θ : DTT} {τ : DT} {vs : List Nat} {k : List D → Env → Prop} {δ : Env} (f : D → Option D) : ∀ {ds : List D} {acc : List D}, (∀ d ∈ ds, ∀ (Q : List D → Prop) (acc : List D), (∀ acc', acc' = acc ++ (f d).toList → Q acc') →
      γ (.v d) δ fun δ1 => θ (fun _ => False) δ1 fun b δ2 => if b = true then τ (fun _ => False) δ2 fun o δ3 => kpK o fun y => wipeE vs δ3 = δ ∧ Q (acc ++ [y]) else wipeE vs δ2 = δ ∧ Q acc) → (mg : MonoG γ) → (mt : MonoT θ) → (m : Mono τ) → k (acc ++ ds.filterMap f) δ → lcL γ θ τ vs k ds δ acc
  | [], acc, _, _, _, _, q => by simpa [lcL] using q
  | d :: ds, acc, h, mg, mt, m, q => by
    have h1 := h d (List.mem_cons_self ..) (fun acc' => lcL γ θ τ vs k ds δ acc') acc fun acc' e => by
      subst e
      refine lc_map f (fun d' hd => h d' (List.mem_cons_of_mem _ hd)) mg mt m ?_
      have : acc ++ (d :: ds).filterMap f = acc ++ (f d).toList ++ ds.filterMap f := by
        rw [List.append_assoc]
        congr 1
        cases e : f d <;> simp [e]
      rwa [this] at q
    exact mg.m _ _ _ _ (fun δ1 q => mt.m _ _ _ _ _ (fun _ z => z) (fun b δ2 q => by
      cases b with
      | true => exact m.m _ _ _ _ _ (fun _ z => z) (fun o δ3 q => kpK_mono (fun y q => by rw [q.1]; exact q.2) q) q
      | false => simp only [Bool.false_eq_true, if_false] at q ⊢; rw [q.1]; exact q.2) q) h1
end DL

set_option Elab.async false
set_option linter.all false
set_option maxRecDepth 100000
namespace DL
open PySem L2
/-! ### the law's hand -/
theorem tabs_upd {T : List (Addr × Str)} {H : Hp} {p : Addr} {o : HO} (t : LamX.Tabs T H) (hp : ∀ u, H p = some u → Mu u) : LamX.Tabs T (upd H p o) := fun q hq => by
  obtain ⟨ps, h1, h2, h3⟩ := t q hq
  refine ⟨ps, ?_, h2, fun pos cv hc => ?_⟩
  · rw [upd_ne]; exact h1
    intro e; rw [e] at h1; exact (hp _ h1).elim
  · obtain ⟨c, e1, e2⟩ := h3 pos cv hc
    refine ⟨c, e1, ?_⟩
    rw [upd_ne]; exact e2
    intro e; rw [e] at e2; exact (hp _ e2).elim
/-- the hand at h, its cells at c -/
def handOk (h c : Addr) (H : Hp) : Prop := (∃ i b x y : Int, 0 ≤ i ∧ H h = some (.lst [.ref c, .int i, .int b, .int x, .int y])) ∧ ∃ ns : List Int, H c = some (.lst (ns.map V.int))
def handA (T : List (Addr × Str)) (h c : Addr) (hc : h ≠ c) : Amb where
  C a := a = h ∨ a = c
  inv H := handOk h c H ∧ LamX.Tabs T H
  new H p o := fun ⟨⟨⟨i, b, x, y, i0, e1⟩, ns, e2⟩, t⟩ hp n => ⟨⟨⟨i, b, x, y, i0, by rw [upd_ne (ne_of_none e1 hp)]; exact e1⟩, ns, by rw [upd_ne (ne_of_none e2 hp)]; exact e2⟩, tabs_upd t fun u e => by rw [hp] at e; cases e⟩
  wr H p o o' := fun ⟨⟨⟨i, b, x, y, i0, e1⟩, ns, e2⟩, t⟩ np hp m m' => ⟨⟨⟨i, b, x, y, i0, by rw [upd_ne fun e => np (.inl e.symm)]; exact e1⟩, ns, by rw [upd_ne fun e => np (.inr e.symm)]; exact e2⟩, tabs_upd t fun u e => by rw [hp] at e; cases e; exact m⟩
  muC H a := fun ⟨⟨⟨i, b, x, y, i0, e1⟩, ns, e2⟩, t⟩ z => z.elim (fun z => z ▸ ⟨_, e1, trivial⟩) fun z => z ▸ ⟨_, e2, trivial⟩
theorem handA_ext {T : List (Addr × Str)} {h c : Addr} {hc : h ≠ c} : ∀ H H1, (handA T h c hc).inv H → LamX.ExtN H H1 → LamX.Tabs T H1 → (handA T h c hc).inv H1 := fun H H1 ⟨⟨⟨i, b, x, y, i0, e1⟩, ns, e2⟩, _⟩ ex t => ⟨⟨⟨i, b, x, y, i0, ex _ _ e1 nt_lst⟩, ns, ex _ _ e2 nt_lst⟩, t⟩
/-- a draw: any number below the many -/
def drawF (h : Addr) : FSp := anyF (fun ds => ∃ m : Int, ds = [.ref h, .int m] ∧ 0 < m ∧ m.natAbs.log2 < 9000) fun ds d => ∃ m r : Int, ds = [.ref h, .int m] ∧ d = .int r ∧ 0 ≤ r ∧ r < m
/-- ahead of the hand: the script stays as it stands -/
theorem scr_amb {K : PySem.W.Frag} {T : List (Addr × Str)} {H : Hp} {a : Addr} {xs : List V} (hS : SqL K H a xs) (t : LamX.Tabs T H) : ∃ G : Amb, G.inv H ∧ (∀ H', G.inv H' → SqL K H' a xs ∧ LamX.Tabs T H') ∧ (∀ b, G.C b → b = a) := by
  rcases hS with (h | ⟨o, h⟩) | h
  · refine ⟨⟨fun b => b = a, fun H' => H' a = some (.lst xs) ∧ LamX.Tabs T H', fun H p o ⟨e, t⟩ hp n => ⟨by rw [upd_ne (ne_of_none e hp)]; exact e, tabs_upd t fun u e => by rw [hp] at e; cases e⟩, fun H p o o' ⟨e, t⟩ np hp m m' => ⟨by rw [upd_ne fun z => np z.symm]; exact e, tabs_upd t fun u e => by rw [hp] at e; cases e; exact m⟩, fun H b ⟨e, t⟩ z => z ▸ ⟨_, e, trivial⟩⟩, ⟨h, t⟩, fun H' i => ⟨.inl (.inl i.1), i.2⟩, fun _ h => h⟩
  · refine ⟨⟨fun _ => False, fun H' => H' a = some (.frz o (.lst xs)) ∧ LamX.Tabs T H', fun H p o ⟨e, t⟩ hp n => ⟨by rw [upd_ne (ne_of_none e hp)]; exact e, tabs_upd t fun u e => by rw [hp] at e; cases e⟩, fun H p o o' ⟨e, t⟩ np hp m m' => ⟨by rw [upd_ne fun z => by rw [z, hp] at e; cases e; exact m]; exact e, tabs_upd t fun u e => by rw [hp] at e; cases e; exact m⟩, fun H b _ z => z.elim⟩, ⟨h, t⟩, fun H' i => ⟨.inl (.inr ⟨o, i.1⟩), i.2⟩, fun _ h => h.elim⟩
  · exact ⟨⟨fun _ => False, fun H' => LamX.Tabs T H', fun H p o t hp n => tabs_upd t fun u e => (by rw [hp] at e; cases e), fun H p o o' t np hp m m' => tabs_upd t fun u e => (by rw [hp] at e; cases e; exact m), fun H b _ z => z.elim⟩, t, fun H' i => ⟨.inr h, i⟩, fun _ h => h.elim⟩
/-- script[:k], the script as it stands -/
def xScr (i : Nat) (a : Addr) (ns : List Int) (k : Int) : DT := fun _ δ Q => match δ[i]? with
  | some (.val (.ref b)) => b = a ∧ Q (.n (cutD (ns.map .int) none (some k))) δ
  | _ => False
section
variable {X : Cx} {G : Amb} {E : XK} {pos : Pos}
theorem mono_scr {i : Nat} {a : Addr} {ns : List Int} {k : Int} : Mono (xScr i a ns k) := ⟨fun _ _ δ _ _ _ h q => by
  unfold xScr at q ⊢
  split at q
  · exact ⟨q.1, h _ _ q.2⟩
  · exact q.elim⟩
theorem de_scr {i : Nat} {a : Addr} {ns : List Int} {k : Int} {j : Nat} {y : Str} {p1 p2 p3 : Pos} (hs : ∀ H, G.inv H → SqL X.K H a (ns.map V.int)) (hN : X.N[i]? = some y) (hv : Vis X.env.scope y) (hd : (y == ("__debug__" : Str)) = false := by decide) (hcd : (y == ("__classdict__" : Str)) = false := by decide) :
    DE X G E (.Subscript (.Name y p1) (.Slice none (some (.Constant (.int k) j p2)) none p3) pos) (xScr i a ns k) := by
  refine ⟨PE.imp (pe_slice sl_list (pe_var hN hv hd hcd) po_none (po_some pe_int)) fun σ H Q h => ?_, mono_scr⟩
  obtain ⟨S, T, B, A, ω, δ, Z, F, z, q⟩ := tD_to mono_scr h
  unfold xScr at q
  split at q
  case h_2 => exact q.elim
  case h_1 b e =>
    obtain ⟨rfl, q⟩ := q
    obtain ⟨_, u, e2, e3⟩ := F.slot i _ e
    cases e3
    refine ⟨_, e2, k, rfl, _, ns.map V.int, rfl, hs H F.inv, fun p hp => ?_⟩
    obtain ⟨P, ev⟩ := Gv.ev F .refl (.lst hp (RepL.ints.cut (lo := none) (hi := some k)))
    exact q _ _ _ _ ev
/-- {} -/
def xDic0 : DT := fun _ δ Q => Q (.nd []) δ
theorem de_dic0 : DE X G E (.Dict [] [] pos) xDic0 := by
  have m : Mono xDic0 := ⟨fun _ _ _ _ _ _ h q => h _ _ q⟩
  refine ⟨PE.imp pe_dnewK fun σ H Q h => ?_, m⟩
  obtain ⟨S, T, B, A, ω, δ, Z, F, z, q⟩ := tD_to m h
  intro p hp
  obtain ⟨P, ev⟩ := Gv.ev F .refl (.dic (ds := []) (vs := []) hp rfl)
  exact q _ _ _ _ ev
end
/-- pop(i) -/
def popAtR : DM := fun ds as P => match as with
  | [.int i] => (-(2 ^ 63) ≤ i ∧ i < 2 ^ 63) ∧ ∃ k d, seqIndex? i ds.length = some k ∧ ds[k]? = some d ∧ P d (ds.eraseIdx k)
  | _ => False
theorem RepL.erase {K : PySem.W.Frag} {H : Hp} {O : Addr → Prop} {ds : List D} {vs : List V} (h : RepL K H O ds vs) (k : Nat) : RepL K H O (ds.eraseIdx k) (vs.eraseIdx k) := by
  rw [List.eraseIdx_eq_take_drop_succ, List.eraseIdx_eq_take_drop_succ]
  exact (h.take k).append (h.drop (k + 1))
theorem md_popAt {X : Cx} : MtD X "list.pop" popAtR := by
  refine ⟨⟨_, mt_popAt, fun {H O l xs ds as vs P Q} hl hd ha q k => ?_⟩, fun ds as P P' h q => by
    match as, q with
    | [.int i], ⟨c, j, d, e1, e2, q⟩ => exact ⟨c, j, d, e1, e2, h _ _ q⟩⟩
  match as, q with
  | [.int i], ⟨c, j, d, e1, e2, q'⟩ =>
    obtain ⟨v, rfl, r⟩ := ha.one_inv
    cases r
    obtain ⟨u, h1, h2⟩ := hd.get e2
    exact ⟨l, xs, i, j, u, rfl, rfl, hl, c.1, c.2, by rw [← hd.length]; exact e1, h1, k _ _ _ _ q' h2 (hd.erase j)⟩
/-! ### a def with a known code object (one that makes lambdas) -/
section
variable {P : Program} {w : World} {K : PySem.W.Frag} {mg : Str → Option Value} {base : Heap} {x qual : Str} {params : Arguments} {body : List Stmt} {scope : Scope} {fd : FuncData} {G : Amb} {N ps : List Str} {k : Nat} {τ : DSt} {φ : FSp}
theorem FunD.code {p : Str × Option Str} (F : FunD K x qual params body scope [] [] (He.fAd K p) fd) : ∃ (oc : Value) (od : Option Addr) (dV kV doc pm : Value) (an : Option Addr) (ct : Value) (osl : Array (Option Value)),
    fd = PySem.W.fnOf x qual params body scope dV kV doc pm an (.ref (He.codeOf K p)) ct ∧ K.lookup (He.fAd K p) = some ⟨oc, od, .func fd, osl⟩ ∧ PySem.W.codeIn K (.ref (He.codeOf K p)) qual = true := by
  obtain ⟨oc, od, dV, kV, doc, pm, an, cdv, ct, osl, rfl, lk, hcd, _, _⟩ := F.ex
  obtain ⟨c, rfl⟩ := He.codeIn_ref hcd
  have e : He.codeOf K p = c := He.codeOf_eq lk rfl
  exact ⟨oc, od, dV, kV, doc, pm, an, ct, osl, by rw [e], lk, by rw [e]; exact hcd⟩
end
end DL
namespace DL
open PySem L2
/-- ints alike (nothing asked of the room) -/
def eqIR : D2 := cmpR intC (intF fun i j => decide (i = j))
theorem opd_eqI {X : Cx} : OpD X (compareOp .Eq) eqIR := by
  refine ⟨⟨_, op_eq, fun {H O d1 d2 v1 v2 P Q} om t1 t2 q k => ?_⟩, m2_cmp⟩
  obtain ⟨c, q⟩ := q
  cases d1 <;> cases d2 <;> first | exact c.elim | skip
  cases t1; cases t2
  rename_i i j
  have e : decide (V.int i = V.int j) = decide (i = j) := by simp
  exact ⟨rfl, by rw [e]; exact k _ _ _ q (.same rfl)⟩
end DL
namespace DL
open PySem L2
theorem lam_take {X : Cx} {A : Around} {outer : List PySem.Env} {s : Shared} {H : Hp} {E : XK} {scope : Scope} {f c' : Addr} : Takes (LamX.lamCx X A outer s H E scope f c') (fun cls d _ H => E cls d H) := takes_of rfl rfl rfl rfl
theorem lam_pass {X : Cx} {A : Around} {outer : List PySem.Env} {s : Shared} {H : Hp} {E : XK} {scope : Scope} {f c' : Addr} : Passes (L2.CX (LamX.lamCx X A outer s H E scope f c').prog (LamX.lamCx X A outer s H E scope f c').w) (LamX.lamCx X A outer s H E scope f c') E := passes_call lam_take (fun _ _ _ _ h => h)
end DL

set_option Elab.async false
set_option linter.all false
set_option maxRecDepth 100000
namespace DL
open PySem L2
/-! ### the law's own body -/
def handD (d : D) : Prop := ∃ (cs : List Int) (i b x y : Int), 0 ≤ i ∧ d = .lst [.lst (cs.map .int), .int i, .int b, .int x, .int y]
theorem hand_switch {G0 : Amb} {K : PySem.W.Frag} {Tt : List (Addr × Str)} {S : Addr → HO → Prop} {T B : Addr → Prop} {A : Nat → Option Addr} {ω : List (Option Addr)} {H : Hp} {σ : St} {a : Addr} {d : D} {m : Nat} (F : Fr G0 K S T B A ω H σ (.val (.ref a) :: .val d :: List.replicate m .un)) (ht : LamX.Tabs Tt H) (hd : handD d) :
    ∃ (h c : Addr) (hc : h ≠ c), Fr (handA Tt h c hc) K (allS (handA Tt h c hc) H) (nT H) (handA Tt h c hc).C (fun _ => none) (List.replicate (m + 2) none) H σ (.val (.ref a) :: .val (.ref h) :: List.replicate m .un) := by
  obtain ⟨cs, i, b, x, y, i0, rfl⟩ := hd
  obtain ⟨_, v0, s0, r0⟩ := F.slot 0 _ rfl
  obtain ⟨_, v1, s1, r1⟩ := F.slot 1 _ rfl
  cases r0
  obtain ⟨h, vs, rfl, eh, _, r⟩ := r1
  obtain ⟨u0, q0, rfl, p0, r⟩ := r
  obtain ⟨u1, q1, rfl, p1, r⟩ := r
  obtain ⟨u2, q2, rfl, p2, r⟩ := r
  obtain ⟨u3, q3, rfl, p3, r⟩ := r
  obtain ⟨u4, q4, rfl, p4, r⟩ := r
  cases r; cases p1; cases p2; cases p3; cases p4
  obtain ⟨c, ws, rfl, ec, _, rc⟩ := p0
  have ews := rc.ofInts
  subst ews
  have hc : h ≠ c := fun z => by
    rw [z, ec] at eh
    have eh := Option.some.inj eh
    have eh : cs.map V.int = [.ref c, .int i, .int b, .int x, .int y] := by injection eh
    cases cs with
    | nil => cases eh
    | cons z zs => rw [List.map_cons] at eh; injection eh with e1 _; cases e1
  refine ⟨h, c, hc, ?_⟩
  have fl : flE K σ (.val (.ref a) :: .val (.ref h) :: List.replicate m .un) := by
    refine ⟨by rw [F.len]; simp, fun j s hs => ?_⟩
    match j, hs with
    | 0, hs => cases hs; exact .inr ⟨_, _, rfl, s0, fun _ _ => rfl⟩
    | 1, hs => cases hs; exact .inr ⟨_, _, rfl, s1, fun _ _ => rfl⟩
    | j + 2, hs =>
      left
      rw [List.getElem?_cons_succ, List.getElem?_cons_succ, List.getElem?_replicate] at hs
      split at hs
      · exact (Option.some.inj hs).symm
      · cases hs
  have := Fr.anew (G := handA Tt h c hc) (K := K) (H := H) ⟨⟨⟨i, b, x, y, i0, eh⟩, cs, ec⟩, ht⟩ fl
  simpa using this
def lawSp (K : PySem.W.Frag) (Tt : List (Addr × Str)) : Sp := fun vs H Q _ => ∃ (a : Addr) (ns : List Int), vs = [.ref a] ∧ ns.length ≤ 63 ∧ LamX.Tabs Tt H ∧ SqL K H a (ns.map V.int) ∧ ∀ H', Q (.bl true) H'
def noE : DEnds := ⟨fun _ => False, fun _ => False, fun _ => False, fun _ => False, fun _ => False⟩
section
variable {P : Program} {w : World} {K : PySem.W.Frag} {mg : Str → Option Value} {base : Heap} {x qual : Str} {params : Arguments} {st0 : Stmt} {sts : List Stmt} {scope : Scope} {f : Addr} {N : List Str} {dV kV doc pm cdv ct oc : Value} {an od : Option Addr} {osl : Array (Option Value)} {k m : Nat} {τ0 : Addr → List Int → DSt} {τ : Addr → DSt} {Tt : List (Addr × Str)} {p : Str}
theorem fn_law (lk : K.lookup f = some ⟨oc, od, .func (PySem.W.fnOf x qual params (st0 :: sts) scope dV kV doc pm an cdv ct), osl⟩) (hcd : PySem.W.codeIn K cdv qual = true) (S : FnScope N [p] scope) (hm : N.length = m + 2)
    (h0 : ∀ (G : Amb) (a : Addr) (ns : List Int), (∀ H, G.inv H → SqL K H a (ns.map V.int)) → ∀ (A : Around) (outer : List PySem.Env) (s : Shared) (H : Hp) (E : XK), Room k (A.deeper (PyProof.Rows.envOfC qual scope s.heap.objs.size f cdv)) → DS (cxOf (L2.CX P w) P w K mg base N qual scope f cdv A outer s H E) G E st0 (τ0 a ns))
    (r0 : ∀ (a : Addr) (ns : List Int), ns.length ≤ 63 → τ0 a ns { noE with nx := fun δ => ∃ d, δ = .val (.ref a) :: .val d :: List.replicate m .un ∧ handD d } (.val (.ref a) :: List.replicate (m + 1) .un))
    (h1 : ∀ (h c : Addr) (hc : h ≠ c) (A : Around) (outer : List PySem.Env) (s : Shared) (H : Hp) (E : XK), Room k (A.deeper (PyProof.Rows.envOfC qual scope s.heap.objs.size f cdv)) → DSs (cxOf (L2.CX P w) P w K mg base N qual scope f cdv A outer s H E) (handA Tt h c hc) E sts (τ h))
    (r1 : ∀ (a h : Addr), τ h { noE with rt := fun d => d = .bl true } (.val (.ref a) :: .val (.ref h) :: List.replicate m .un)) :
    FnOk P w K mg base (L2.CX P w) (k + 1) f (PySem.W.fnOf x qual params (st0 :: sts) scope dV kV doc pm an cdv ct) [p] (lawSp K Tt) := by
  refine fn_of lk hcd S (fun vs H Q E ⟨a, ns, e, _⟩ => by rw [e]; rfl) fun A outer s H vs Q E hr h => ?_
  obtain ⟨a, ns, rfl, hl, ht, hS, hQ⟩ := h
  obtain ⟨G, gi, gs, gc⟩ := scr_amb hS ht
  refine ⟨_, pss_cons (h0 G a ns (fun H' i => (gs H' i).1) A outer s H E hr).ps (u := fun D σ H => ∃ h c hc, sD (handA Tt h c hc) K E (τ h) D σ H) ⟨fun pins s' σ H' D I ⟨h, c, hc, q⟩ => (h1 h c hc A outer s H E hr).ps.run pins s' σ H' D I q⟩, ?_⟩
  have fl : flE K (L2.start N [.ref a]) (.val (.ref a) :: List.replicate (m + 1) .un) := by
    refine ⟨by unfold L2.start; simp [hm], fun j s hs => ?_⟩
    match j, hs with
    | 0, hs => cases hs; exact .inr ⟨_, _, rfl, rfl, fun _ _ => rfl⟩
    | j + 1, hs =>
      left
      rw [List.getElem?_cons_succ, List.getElem?_replicate] at hs
      split at hs
      · exact (Option.some.inj hs).symm
      · cases hs
  have F0 := Fr.anew (G := G) (K := K) (H := H) gi fl
  refine sD_of F0 (fun _ _ z => False.elim z) ⟨fun δ' σ' H' ω' F' q => ?_, fun _ _ _ _ _ z => False.elim z, fun _ _ _ _ _ z => False.elim z, fun _ _ _ _ _ _ _ z => False.elim z⟩ (r0 a ns hl)
  obtain ⟨d, rfl, hd⟩ := q
  obtain ⟨h, c, hc, F2⟩ := hand_switch F' (gs H' F'.inv).2 hd
  refine ⟨h, c, hc, sD_of F2 (fun _ _ z => False.elim z) ⟨fun _ _ _ _ _ z => False.elim z, fun _ _ _ _ _ z => False.elim z, fun _ _ _ _ _ z => False.elim z, fun d v H3 _ _ _ r e => ?_⟩ (r1 a h)⟩
  have e : d = .bl true := e
  subst e
  cases r
  exact hQ H3
end
end DL

set_option Elab.async false
set_option linter.all false
set_option maxRecDepth 100000
namespace DL
open PySem L2
/-! ### loops by what holds ahead of each turn -/
theorem forL_inv {γ : DTg} {τ : DSt} {l : Option Nat} {F : DEnds} {ds : List D} {δ : Env} (P : Nat → Env → Prop) (h0 : P 0 δ)
    (hs : ∀ i d δ (k' : Env → Prop), ds[i]? = some d → P i δ → (∀ δ', P (i + 1) δ' → k' δ') → γ (.v d) δ fun δ' => τ (loopE k' (fun δ => F.nx (un l δ)) F) δ') (hd : ∀ δ, P ds.length δ → F.nx (un l δ)) : forL γ τ l F ds δ := by
  have key : ∀ (es : List D) (n : Nat) (δ : Env), ds.drop n = es → P n δ → n + es.length = ds.length → forL γ τ l F es δ := by
    intro es
    induction es with
    | nil => intro n δ _ p hn; rw [List.length_nil, Nat.add_zero] at hn; subst hn; exact hd δ p
    | cons d es ih =>
      intro n δ e p hn
      have hd : ds[n]? = some d := by
        have : (ds.drop n)[0]? = some d := by rw [e]; rfl
        rwa [List.getElem?_drop, Nat.add_zero] at this
      have e2 : ds.drop (n + 1) = es := by rw [← List.drop_drop, e]; rfl
      exact hs n d δ _ hd p fun δ2 p2 => ih (n + 1) δ2 e2 p2 (by simp only [List.length_cons] at hn; omega)
  exact key ds 0 δ rfl h0 (by simp)
theorem whN_inv {θ : DTT} {τ : DSt} {F : DEnds} {δ : Env} (P : Nat → Env → Prop) {n : Nat} (h0 : P n δ)
    (hs : ∀ n δ (k' : Env → Prop), P n δ → (∀ m δ', m < n → P m δ' → k' δ') → θ F.ex δ fun b δ' => if b = true then τ (loopE k' F.nx F) δ' else F.nx δ') : xWh θ τ F δ := by
  have key : ∀ (m' n : Nat) (δ : Env), n < m' → P n δ → whN θ τ F m' δ := by
    intro m'
    induction m' with
    | zero => intro n δ h; omega
    | succ m' ih => exact fun n δ hm p => hs n δ _ p fun k δ' hk p' => ih k δ' (by omega) p'
  exact ⟨n + 1, key (n + 1) n δ (by omega) h0⟩
/-- a comprehension whose turns leave the names alone: f tells what is kept of a thing -/
theorem lc_inv {γ : DTg} {θ : DTT} {τ : DT} {vs : List Nat} {k : List D → Env → Prop} {δ : Env} (f : D → Option D) : ∀ {ds : List D} {acc : List D}, (∀ d ∈ ds, ∀ (k' : List D → Env → Prop) (acc : List D), k' (acc ++ (f d).toList) δ →
      γ (.v d) δ fun δ1 => θ (fun _ => False) δ1 fun b δ2 => if b = true then τ (fun _ => False) δ2 fun o δ3 => kpK o fun y => k' (acc ++ [y]) (wipeE vs δ3) else k' acc (wipeE vs δ2)) → k (acc ++ ds.filterMap f) δ → lcL γ θ τ vs k ds δ acc
  | [], acc, _, q => by simpa [lcL] using q
  | d :: ds, acc, h, q => by
    refine h d (List.mem_cons_self ..) (fun acc' δ' => lcL γ θ τ vs k ds δ' acc') acc (lc_inv f (fun d' hd => h d' (List.mem_cons_of_mem _ hd)) ?_)
    have : acc ++ (d :: ds).filterMap f = acc ++ (f d).toList ++ ds.filterMap f := by
      rw [List.append_assoc]
      congr 1
      cases e : f d <;> simp [e]
    rwa [this] at q
/-- the same, all kept -/
theorem lc_all {γ : DTg} {τ : DT} {vs : List Nat} {k : List D → Env → Prop} {δ : Env} (f : D → D) {ds : List D} (h : ∀ d ∈ ds, ∀ (k' : D → Env → Prop), k' (f d) δ → γ (.v d) δ fun δ1 => τ (fun _ => False) δ1 fun o δ3 => kpK o fun y => k' y (wipeE vs δ3)) (q : k (ds.map f) δ) : lcL γ xYes τ vs k ds δ [] := by
  refine lc_inv (fun d => some (f d)) (fun d hd k' acc q => ?_) (by simpa using q)
  exact h d hd (fun y δ' => k' (acc ++ [y]) δ') q
end DL

set_option Elab.async false
set_option linter.all false
set_option maxRecDepth 100000
set_option maxHeartbeats 4000000
namespace L2
open PySem PySem.Spec PyProof.Rows
/-! list(reversed(a list)) -/
section
variable {prog : Program} {w : World} {A : Around} {s : Shared}
/-- the new list at S takes what the iterator gives -/
theorem ext_rev {it l S : Addr} {items : Array Value} {R : Result → Shared → Prop} (hh : A.handled = none) (hit : s.heap.IsRevIter it l ((items.size : Int) - 1)) (hl : s.heap.IsList l items) (n1 : l ≠ it) (n2 : S ≠ it) (n3 : S ≠ l) (hz : items.size ≤ sizeLine) {c₀ : Nat} (hS : s.heap.get? S = some { cls := .type "list", data := .seq #[] c₀ })
    (q : ∀ (h' : Heap) (tk : Nat) (acc : Array Value) (c' : Nat), (∀ b o, b ≠ it → b ≠ S → s.heap.get? b = some o → h'.get? b = some o) → h'.get? S = some { cls := .type "list", dict := none, data := .seq acc c', slots := #[] } → ItemsOf (fun i v => items[items.size - 1 - i]? = some v) acc items.size → R (.ok (.ret .none)) { s with heap := h', toks := tk }) :
    wpAny (model prog w) A.in1 (Builtin.List.listExtendWith (.ref S) (.ref it) .none) (fun fin s' => match fin with | .done f => R (.ok f) s' | .again c' => c'.quiet = true ∧ codeAny (model prog w) A c' R s') (fun e s' => R (.error e) s') s := by
  have W := (Walks.listRev (prog := prog) (w := w) (A := A.in1) hh it l n1 items).toS
  have nf : S ∉ [it, l] := by simp [n2, n3]
  have ty : s.TypeIs (.ref it) "list_reverseiterator" := hit.typeIs
  have same : Builtin.List.listSameRef (.ref S) (.ref it) = false := by simp [Builtin.List.listSameRef, n2]
  unfold Builtin.List.listExtendWith
  refine wpAny_bind (wpAny_typeOf ty ?_); rw [if_neg (by rw [same]; decide)]
  refine wpAny_bind (wpAny_pyIter_revIter hit ?_); refine wpAny_bind (wpAny_holding ?_); unfold Builtin.List.listLengthHint
  refine wpAny_bind (wpAny_specialOf ty RT.nolen_lri ?_)
  show wpAny _ _ (specialOf (Value.ref it) (Str.ofString "__length_hint__") >>= _) _ _ _
  refine wpAny_bind (wpAny_specialOf ty RT.hint_lri ?_); generalize hx : ("list_reverseiterator.__length_hint__" : String) = ix; wp_delta
  rw [show splitId ix = some ("list_reverseiterator", "__length_hint__") from by subst hx; decide +kernel]; subst hx
  refine wpAny_bind (wpAny_isInstance (b := true) ty (by rw [isSubtype_type]; kernel_rfl) ?_); refine wpAny_pure ?_; rw [if_neg (by decide)]
  have z0 : ((items.size : Nat) : Int) - 1 - ((0 : Nat) : Int) = (items.size : Int) - 1 := by omega
  refine wpAny_pure ⟨plainId_quiet F.plain_extend_loop _, codeAny_extend_loopS W hz _ nf _ items.size 0 _ _ _ rfl (Nat.zero_le _) ⟨Nat.zero_le _, by rw [z0]; exact hit, hl⟩ hS (ItemsOf.nil _) fun s' acc' c' hm hS' hacc => ?_⟩
  rw [Moved.eq_with hm]
  refine q s'.heap s'.toks acc' c' (fun b o h1 h2 e => hm.heap b o (fun z => ?_) e) hS' hacc
  rcases List.mem_cons.mp z with z | z
  · exact h2 z
  · exact h1 (List.mem_singleton.mp z)
theorem call_listRev {E : Value → Shared → Prop} {it l : Addr} {items : Array Value} {Q : Value → Shared → Prop} (hh : A.handled = none) (hit : s.heap.IsRevIter it l ((items.size : Int) - 1)) (hl : s.heap.IsList l items) (n1 : l ≠ it) (hz : items.size ≤ sizeLine)
    (q : ∀ (h' : Heap) (tk : Nat) (acc : Array Value) (c' : Nat), (∀ b o, b ≠ it → s.heap.get? b = some o → h'.get? b = some o) → h'.get? s.heap.objs.size = some { cls := .type "list", dict := none, data := .seq acc c', slots := #[] } → ItemsOf (fun i v => items[items.size - 1 - i]? = some v) acc items.size → Q (.ref s.heap.objs.size) { s with heap := h', toks := tk }) :
    wpAny (model prog w) A (call (.type "list") [.ref it]) Q E s := by
  obtain ⟨oi, hoi, hoi'⟩ := id hit
  obtain ⟨ol, hol, hol'⟩ := id hl
  have n2 : s.heap.objs.size ≠ it := Nat.ne_of_gt (Heap.lt_size hoi)
  have n3 : s.heap.objs.size ≠ l := Nat.ne_of_gt (Heap.lt_size hol)
  refine callType_codes (Q₁ := fun obj s₁ => obj = .ref s.heap.objs.size ∧ s₁ = { s with heap := s.heap.push { cls := .type "list", data := .seq #[] } }) F.called_list (F.typeCall_list_1 _) F.entry_list_init (code_list_new _ ⟨rfl, rfl⟩) fun obj s₁ e => ?_
  obtain ⟨rfl, rfl⟩ := e
  have at0 : (s.heap.push { cls := .type "list", data := .seq #[] }).get? s.heap.objs.size = some { cls := .type "list", data := .seq #[] } := Heap.get?_push_size _ rfl
  refine ⟨⟨_, at0, rfl⟩, F.args_list_init_2 _ _, ?_⟩
  show wpAny _ _ (do let old ← Builtin.List.listItems (.ref s.heap.objs.size); Builtin.List.listUpdate (.ref s.heap.objs.size) (fun _ => #[]); letGo old.toList.reverse; Builtin.List.listExtendWith (.ref s.heap.objs.size) (.ref it) .none) _ _ _
  refine wpAny_bind ?_; unfold Builtin.List.listItems
  refine wpAny_bind (wpAny_seqItems at0 rfl (wpAny_pure ?_))
  show wpAny _ _ (updateSeq s.heap.objs.size (fun _ => #[]) >>= fun _ => letGo (#[] : Array Value).toList.reverse >>= fun _ => Builtin.List.listExtendWith (.ref s.heap.objs.size) (.ref it) .none) _ _ _
  refine wpAny_bind (wpAny_updateSeq at0 rfl ?_)
  have at1 := Heap.get?_update_self (Obj.mapSeq (fun _ => (#[] : Array Value))) at0 rfl
  have keep : ∀ b o, b ≠ s.heap.objs.size → s.heap.get? b = some o → ((s.heap.push { cls := .type "list", data := .seq #[] }).update s.heap.objs.size (Obj.mapSeq (fun _ => (#[] : Array Value)))).get? b = some o := fun b o hb e => (Heap.get?_update_other _ _ (Ne.symm hb)).trans (Heap.get?_push_of_some _ e)
  refine wpAny_bind (wpAny_letGo ?_)
  refine ext_rev hh ⟨oi, keep it _ (Ne.symm n2) hoi, hoi'⟩ ⟨ol, keep l _ (Ne.symm n3) hol, hol'⟩ n1 n2 n3 hz at1 fun h' tk acc c' k hS' hi => ?_
  exact ⟨rfl, q h' tk acc c' (fun b o h1 e => k b o h1 (Nat.ne_of_lt (Heap.lt_size e)) (keep b o (Nat.ne_of_lt (Heap.lt_size e)) e)) hS' hi⟩
end
section
variable {X : Cx}
theorem pe_listRev {e : Expr} {te : TE} {p p2 pos pos2 : Pos} (hc : X.calm = true) (hg : Gl X "list") (hm : X.mg "list" = none) (hg2 : Gl X "reversed") (hm2 : X.mg "reversed" = none) (he : PE X e te) (hs : starEach [e] X.env = (false, eval e X.env) :: starEach [] X.env := by rfl)
    (hs2 : starEach [.Call (.Name "reversed" p2) [e] [] pos2] X.env = (false, eval (.Call (.Name "reversed" p2) [e] [] pos2) X.env) :: starEach [] X.env := by rfl) : PE X (.Call (.Name "list" p) [.Call (.Name "reversed" p2) [e] [] pos2] [] pos) (tRevL X.K te) := by
  refine ⟨fun pins s σ H Q I h => Call_ (ld_blt I hg hm boot_list (PyProof.Rows.callWith_type1 (args_cons (Call_ (ld_blt I hg2 hm2 PyProof.Rows.boot_reversed (PyProof.Rows.callWith_type1 (args_cons (thn (he.run pins s σ H _ I h) fun u s1 ⟨v, H1, I1, r1, q1⟩ => args_nil ?_) hs) hs rfl))) hs2) hs2 rfl))⟩
  obtain ⟨a, xs, rfl, hq, q⟩ := q1; cases r1
  obtain ⟨its, rv, pl, hz⟩ := I1.list hq
  refine call_reversed_list pl.isList (args_nil ?_)
  have lz : its.toArray.size ≤ sizeLine := by rw [List.size_toArray, ← rv.length]; exact hz
  obtain ⟨ol, hol, _⟩ := id pl.isList
  refine call_listRev (s := { s1 with heap := s1.heap.push (revObj a ((its.toArray.size : Int) - 1)) }) (I1.ok.hd hc) ⟨_, Heap.get?_push_size _ rfl, rfl, rfl⟩ (pl.isList.push _) (Nat.ne_of_lt (Heap.lt_size hol)) lz fun h' tk acc c' hk e' hi => ?_
  have k1 : ∀ b o, s1.heap.get? b = some o → h'.get? b = some o := fun b o e => hk b o (Nat.ne_of_lt (Heap.lt_size e)) (Heap.get?_push_of_some _ e)
  have le : s1.heap.objs.size ≤ (s1.heap.push (revObj a ((its.toArray.size : Int) - 1))).objs.size := by rw [Heap.size_push]; exact Nat.le_succ _
  refine ⟨.ref _, upd H1 _ (.lst xs.reverse), I1.laid (t' := tk) k1 le (show ObjOk X.prog X.w _ _ _ (.lst xs.reverse) from ⟨by rw [List.length_reverse]; exact hz, acc.toList, c', RT.vals_rev rv hi, ?_⟩), rfl, q _ (I1.hok.fresh le)⟩
  rw [Array.toArray_toList]; exact e'
end
end L2
namespace DL
open PySem L2
section
variable {X : Cx} {G : Amb} {E : XK} {e : Expr} {τ : DT} {p pos : Pos}
theorem de_listRev {p2 pos2 : Pos} (hc : X.calm = true) (hg : Gl X "list") (hm : X.mg "list" = none) (hg2 : Gl X "reversed") (hm2 : X.mg "reversed" = none) (he : DE X G E e τ) (hs : starEach [e] X.env = (false, eval e X.env) :: starEach [] X.env := by rfl)
    (hs2 : starEach [.Call (.Name "reversed" p2) [e] [] pos2] X.env = (false, eval (.Call (.Name "reversed" p2) [e] [] pos2) X.env) :: starEach [] X.env := by rfl) : DE X G E (.Call (.Name "list" p) [.Call (.Name "reversed" p2) [e] [] pos2] [] pos) (xUn revR τ) := by
  have m : Mono (xUn revR τ) := mono_un ⟨fun d P P' h q => by cases d <;> first | exact q.elim | exact h _ q⟩ he.mono
  refine ⟨PE.imp (pe_listRev hc hg hm hg2 hm2 he.pe hs hs2) fun σ H Q h => ?_, m⟩
  obtain ⟨S, T, B, A, ω, δ, Z, F, z, q⟩ := tD_to m h
  refine un_core (ρ := revR) (r := fun x H1 Q => ∃ a xs, x = V.ref a ∧ SqL X.K H1 a xs ∧ ∀ (p : Addr), H1 p = none → Q (V.ref p) (upd H1 p (HO.lst xs.reverse))) he.mono (fun {H O d v P Q} om r q k => ?_) F z q
  cases d <;> first | exact q.elim | skip
  obtain ⟨a, vs, rfl, h1, r1⟩ := r
  exact ⟨a, vs, rfl, sql_of h1, fun p hp => k _ _ _ q (.lst hp r1.rev)⟩
end
end DL

set_option Elab.async false
set_option linter.all false
set_option maxRecDepth 100000
set_option maxHeartbeats 0
namespace Hd
open PySem PySem.Spec PyProof.Rows L2
def top (i : Nat) : Stmt := PySem.Challenge.pw_nextterms_k90_whole_pairs.main.body.getD i (.Pass ⟨0, 0, 0, 0⟩)
abbrev s_is_integer : Stmt := top 1
def d_is_integer : He.DefD := ⟨("is_integer", none), "is_integer", "is_integer", defArgs s_is_integer, defBody s_is_integer, defScope s_is_integer, [], []⟩
abbrev s_is_within : Stmt := top 2
def d_is_within : He.DefD := ⟨("is_within", none), "is_within", "is_within", defArgs s_is_within, defBody s_is_within, defScope s_is_within, [], []⟩
abbrev s_root_of : Stmt := top 3
def d_root_of : He.DefD := ⟨("root_of", none), "root_of", "root_of", defArgs s_root_of, defBody s_root_of, defScope s_root_of, [], []⟩
abbrev s_bin_of : Stmt := top 4
def d_bin_of : He.DefD := ⟨("bin_of", none), "bin_of", "bin_of", defArgs s_bin_of, defBody s_bin_of, defScope s_bin_of, [], []⟩
abbrev s_check_parts : Stmt := top 12
def d_check_parts : He.DefD := ⟨("check_parts", none), "check_parts", "check_parts", defArgs s_check_parts, defBody s_check_parts, defScope s_check_parts, [], []⟩
abbrev s_pair_of : Stmt := top 13
def d_pair_of : He.DefD := ⟨("pair_of", none), "pair_of", "pair_of", defArgs s_pair_of, defBody s_pair_of, defScope s_pair_of, [], []⟩
abbrev s_bits_of : Stmt := top 14
def d_bits_of : He.DefD := ⟨("bits_of", none), "bits_of", "bits_of", defArgs s_bits_of, defBody s_bits_of, defScope s_bits_of, [], []⟩
abbrev s_pair_terms : Stmt := top 15
def d_pair_terms : He.DefD := ⟨("pair_terms", none), "pair_terms", "pair_terms", defArgs s_pair_terms, defBody s_pair_terms, defScope s_pair_terms, [], []⟩
abbrev s_pair_rests : Stmt := top 16
def d_pair_rests : He.DefD := ⟨("pair_rests", none), "pair_rests", "pair_rests", defArgs s_pair_rests, defBody s_pair_rests, defScope s_pair_rests, [], []⟩
abbrev s_pair_rests_of : Stmt := top 17
def d_pair_rests_of : He.DefD := ⟨("pair_rests_of", none), "pair_rests_of", "pair_rests_of", defArgs s_pair_rests_of, defBody s_pair_rests_of, defScope s_pair_rests_of, [], []⟩
abbrev s_sign_of : Stmt := top 18
def d_sign_of : He.DefD := ⟨("sign_of", none), "sign_of", "sign_of", defArgs s_sign_of, defBody s_sign_of, defScope s_sign_of, [], []⟩
abbrev s_is_term : Stmt := top 19
def d_is_term : He.DefD := ⟨("is_term", none), "is_term", "is_term", defArgs s_is_term, defBody s_is_term, defScope s_is_term, [], []⟩
abbrev s__law_hand : Stmt := top 21
def d__law_hand : He.DefD := ⟨("_law_hand", none), "_law_hand", "_law_hand", defArgs s__law_hand, defBody s__law_hand, defScope s__law_hand, [], []⟩
abbrev s__law_draw : Stmt := top 22
def d__law_draw : He.DefD := ⟨("_law_draw", none), "_law_draw", "_law_draw", defArgs s__law_draw, defBody s__law_draw, defScope s__law_draw, [], []⟩
abbrev s__law_any : Stmt := top 23
def d__law_any : He.DefD := ⟨("_law_any", none), "_law_any", "_law_any", defArgs s__law_any, defBody s__law_any, defScope s__law_any, [], []⟩
abbrev s__law_is : Stmt := top 24
def d__law_is : He.DefD := ⟨("_law_is", none), "_law_is", "_law_is", defArgs s__law_is, defBody s__law_is, defScope s__law_is, [], []⟩
abbrev s__law_word : Stmt := top 25
def d__law_word : He.DefD := ⟨("_law_word", none), "_law_word", "_law_word", defArgs s__law_word, defBody s__law_word, defScope s__law_word, [], []⟩
abbrev s__law_pair : Stmt := top 26
def d__law_pair : He.DefD := ⟨("_law_pair", none), "_law_pair", "_law_pair", defArgs s__law_pair, defBody s__law_pair, defScope s__law_pair, [], []⟩
abbrev s__law_primes : Stmt := top 27
def d__law_primes : He.DefD := ⟨("_law_primes", none), "_law_primes", "_law_primes", defArgs s__law_primes, defBody s__law_primes, defScope s__law_primes, [], []⟩
abbrev s__law_sign : Stmt := top 28
def d__law_sign : He.DefD := ⟨("_law_sign", none), "_law_sign", "_law_sign", defArgs s__law_sign, defBody s__law_sign, defScope s__law_sign, [], []⟩
abbrev s__law_far : Stmt := top 29
def d__law_far : He.DefD := ⟨("_law_far", none), "_law_far", "_law_far", defArgs s__law_far, defBody s__law_far, defScope s__law_far, [], []⟩
abbrev s__law_times : Stmt := top 30
def d__law_times : He.DefD := ⟨("_law_times", none), "_law_times", "_law_times", defArgs s__law_times, defBody s__law_times, defScope s__law_times, [], []⟩
abbrev s__law_power : Stmt := top 31
def d__law_power : He.DefD := ⟨("_law_power", none), "_law_power", "_law_power", defArgs s__law_power, defBody s__law_power, defScope s__law_power, [], []⟩
abbrev s__law_is_right : Stmt := top 32
def d__law_is_right : He.DefD := ⟨("_law_is_right", none), "_law_is_right", "_law_is_right", defArgs s__law_is_right, defBody s__law_is_right, defScope s__law_is_right, [], []⟩
abbrev s__law_are_signs_right : Stmt := top 33
def d__law_are_signs_right : He.DefD := ⟨("_law_are_signs_right", none), "_law_are_signs_right", "_law_are_signs_right", defArgs s__law_are_signs_right, defBody s__law_are_signs_right, defScope s__law_are_signs_right, [], []⟩
abbrev s__law_are_terms_right : Stmt := top 34
def d__law_are_terms_right : He.DefD := ⟨("_law_are_terms_right", none), "_law_are_terms_right", "_law_are_terms_right", defArgs s__law_are_terms_right, defBody s__law_are_terms_right, defScope s__law_are_terms_right, [], []⟩
abbrev s__law_refused_right : Stmt := top 35
def d__law_refused_right : He.DefD := ⟨("_law_refused_right", none), "_law_refused_right", "_law_refused_right", defArgs s__law_refused_right, defBody s__law_refused_right, defScope s__law_refused_right, [], []⟩
abbrev s_law : Stmt := top 36
def d_law : He.DefD := ⟨("law", none), "law", "law", defArgs s_law, defBody s_law, defScope s_law, [], []⟩
def fn : List He.DefD := [d_is_integer, d_is_within, d_root_of, d_bin_of, d_check_parts, d_pair_of, d_bits_of, d_pair_terms, d_pair_rests, d_pair_rests_of, d_sign_of, d_is_term, d__law_hand, d__law_draw, d__law_any, d__law_is, d__law_word, d__law_pair, d__law_primes, d__law_sign, d__law_far, d__law_times, d__law_power, d__law_is_right, d__law_are_signs_right, d__law_are_terms_right, d__law_refused_right, d_law]
def fa : List He.Fa := [.glo "is_integer",
  .glo "is_within",
  .glo "root_of",
  .glo "bin_of",
  .glo "check_parts",
  .glo "pair_of",
  .glo "bits_of",
  .glo "pair_terms",
  .glo "pair_rests",
  .glo "pair_rests_of",
  .glo "sign_of",
  .glo "is_term",
  .glo "_law_hand",
  .glo "_law_draw",
  .glo "_law_any",
  .glo "_law_is",
  .glo "_law_word",
  .glo "_law_pair",
  .glo "_law_primes",
  .glo "_law_sign",
  .glo "_law_far",
  .glo "_law_times",
  .glo "_law_power",
  .glo "_law_is_right",
  .glo "_law_are_signs_right",
  .glo "_law_are_terms_right",
  .glo "_law_refused_right",
  .glo "law",
  .glo "TermError",
  .glo "BadNumber",
  .free "ValueError",
  .free "abs",
  .free "all",
  .free "bool",
  .free "int",
  .free "isinstance",
  .free "len",
  .free "list",
  .free "max",
  .free "range",
  .free "reversed",
  .free "str",
  .free "tuple",
  .free "zip",
  .exc "TermError",
  .keep "TermError",
  .exm "TermError" "TermError" true,
  .exc "BadNumber",
  .keep "BadNumber",
  .exm "BadNumber" "TermError" true,
  .int "MOST_PART" 1000000,
  .int "MOST_FAR" 1000000000000000000,
  .int "MOST_MODULUS" 1000000000000000000]
def tf : List He.Defn := [("_law_refused_right", none)]
def names0 : List PySem.Str := ["is_integer", "is_within", "root_of", "bin_of", "TermError", "BadNumber", "MOST_PART", "MOST_FAR", "MOST_MODULUS", "check_parts", "pair_of", "bits_of", "pair_terms", "pair_rests", "pair_rests_of", "sign_of", "is_term", "_law_hand", "_law_draw", "_law_any", "_law_is", "_law_word", "_law_pair", "_law_primes", "_law_sign", "_law_far", "_law_times", "_law_power", "_law_is_right", "_law_are_signs_right"]
def names1 : List PySem.Str := ["_law_are_terms_right", "_law_refused_right"]
def names : List PySem.Str := names0 ++ names1
def excB (K : PySem.W.Frag) (D : Addr) : Bool := decide (PySem.W.findIn K (.ref D) "__getattribute__" = some (some (.builtin "BaseException.__getattribute__"))) && decide (PySem.W.findIn K (.ref D) "__getattr__" = some none) && decide (PySem.W.subIn K (.ref D) (.type "BaseException") = some true) && PySem.W.hasDictIn K D && decide (PySem.W.findIn K (.ref D) "__class__" = some (some (.builtin "object.__class__"))) && decide (PySem.W.specialIn K (.builtin "object.__class__") "__get__" = some (some (.builtin "getset_descriptor.__get__"))) && decide (PySem.W.takesIn K (.builtin "object.__class__") = some true) && decide (PySem.W.mroIn K D (.type "object") = some true)
def ex0 (K : PySem.W.Frag) : Bool := excB K (He.ga K "BadNumber")
def ex1 (K : PySem.W.Frag) : Bool := decide (PySem.W.kitOne K (.ref (He.ga K "BadNumber")) (.type "ValueError") = some true)
def ex2 (K : PySem.W.Frag) : Bool := decide (PySem.W.kitOne K (.ref (He.ga K "BadNumber")) (.ref (He.ga K "BadNumber")) = some true)
def ex (K : PySem.W.Frag) : Bool := ex0 K && ex1 K && ex2 K
abbrev R : PySem.W.OpenRow := PySem.W.OpenLaw.row PySem.Challenge.rw_nextterms_k90_whole_pairs
abbrev qv : Program := PySem.W.view R.prog [36]
abbrev hk : PySem.W.Hook := He.hookX 4 fa fn [] tf ex
def ob (s : PySem.W.SharedT) : He.AlX := He.obsX 4 fa fn [] tf ex (HandSHeadRun.getT s)
theorem ob_eq (s : PySem.W.SharedT) : ob s = hk.obs s.abs := He.obsX_eq (HandSHeadRun.getT_eq s)
theorem run (w : World) : HandSHeadRun.RunEq R qv hk ob 4000 names w := by
  intro os
  kernel_rfl
end Hd

set_option Elab.async false
set_option linter.all false
set_option maxRecDepth 100000
set_option maxHeartbeats 0
theorem DL.seq_cut {t u : L2.TS} {D : L2.Ends} {σ : L2.St} {H : L2.Hp} (C : L2.St → L2.Hp → Prop) (h2 : ∀ σ' H', C σ' H' → u D σ' H') (h1 : ∀ N : L2.St → L2.Hp → Prop, (∀ σ' H', C σ' H' → N σ' H') → t { D with nx := N } σ H) : L2.tSeq t u D σ H := h1 _ h2
namespace Hd
open PySem L2
def Nd : List Str := ["hand", "many", "cell", "digit", "number"]
theorem sc_draw : FnScope Nd ["hand", "many"] (defScope s__law_draw) := ⟨rfl, rfl, rfl, by decide +kernel, rfl, by decide +kernel, by decide +kernel⟩
section
variable {P : Program} {w : World} {K : PySem.W.Frag} {mg : Str → Option Value} {base : Heap} {f : Addr} {fd : FuncData}
open DL in
theorem ok_draw {T : List (Addr × Str)} {h c : Addr} {hc : h ≠ c} (F : FunD K "_law_draw" "_law_draw" (defArgs s__law_draw) (defBody s__law_draw) (defScope s__law_draw) [] [] f fd) (gI : mg "int" = none) (gL : mg "len" = none) : FnOk P w K mg base (L2.CX P w) 1 f fd ["hand", "many"] (spD (handA T h c hc) K (drawF h)) := by
  refine F.ok sc_draw (fun vs H Q E q => ?_) (fun cdv A outer s H vs Q E hr q => ?_)
  · obtain ⟨B, ds, _, _, _, r, ⟨m, rfl, _⟩, _⟩ := q
    rw [← r.length]; rfl
  · have pI : ∀ {e : Expr} {te : TE} {p pos : Pos}, PE (cxOf (L2.CX P w) P w K mg base Nd "_law_draw" (defScope s__law_draw) f cdv A outer s H E) e te → starEach [e] (PyProof.Rows.envOfC "_law_draw" (defScope s__law_draw) s.heap.objs.size f cdv) = (false, eval e (PyProof.Rows.envOfC "_law_draw" (defScope s__law_draw) s.heap.objs.size f cdv)) :: starEach [] (PyProof.Rows.envOfC "_law_draw" (defScope s__law_draw) s.heap.objs.size f cdv) → PE (cxOf (L2.CX P w) P w K mg base Nd "_law_draw" (defScope s__law_draw) f cdv A outer s H E) (.Call (.Name "int" p) [e] [] pos) _ := fun he hs => pe_callTy call_int1 rfl gI rfl (pa_cons he pa_nil hs) (he := hs)
    have vh : ∀ {pos : Pos}, PE (cxOf (L2.CX P w) P w K mg base Nd "_law_draw" (defScope s__law_draw) f cdv A outer s H E) (.Name "hand" pos) (tVar 0) := pe_var rfl (.inl rfl)
    have vm : ∀ {pos : Pos}, PE (cxOf (L2.CX P w) P w K mg base Nd "_law_draw" (defScope s__law_draw) f cdv A outer s H E) (.Name "many" pos) (tVar 1) := pe_var rfl (.inl rfl)
    have vc : ∀ {pos : Pos}, PE (cxOf (L2.CX P w) P w K mg base Nd "_law_draw" (defScope s__law_draw) f cdv A outer s H E) (.Name "cell" pos) (tVar 2) := pe_var rfl (.inl rfl)
    have vd : ∀ {pos : Pos}, PE (cxOf (L2.CX P w) P w K mg base Nd "_law_draw" (defScope s__law_draw) f cdv A outer s H E) (.Name "digit" pos) (tVar 3) := pe_var rfl (.inl rfl)
    have vn : ∀ {pos : Pos}, PE (cxOf (L2.CX P w) P w K mg base Nd "_law_draw" (defScope s__law_draw) f cdv A outer s H E) (.Name "number" pos) (tVar 4) := pe_var rfl (.inl rfl)
    have hx : ∀ {i : Int} {j} {p1 p2 p3 : Pos}, PE (cxOf (L2.CX P w) P w K mg base Nd "_law_draw" (defScope s__law_draw) f cdv A outer s H E) (.Subscript (.Name "hand" p1) (.Constant (.int i) j p2) p3) (tOp (rIxL K) (tVar 0) (tC (.int i))) := pe_ix ix_list vh pe_int (fun _ _ => rfl)
    have st : ∀ {i : Int} {j} {e : Expr} {te : TE} {p1 p2 p3 pos : Pos}, PE (cxOf (L2.CX P w) P w K mg base Nd "_law_draw" (defScope s__law_draw) f cdv A outer s H E) e te → swapsWithSole [.Subscript (.Name "hand" p1) (.Constant (.int i) j p2) p3] e pos.line (PyProof.Rows.envOfC "_law_draw" (defScope s__law_draw) s.heap.objs.size f cdv) = pure false → swappedStores [.Subscript (.Name "hand" p1) (.Constant (.int i) j p2) p3] e (PyProof.Rows.envOfC "_law_draw" (defScope s__law_draw) s.heap.objs.size f cdv) = pure none → PS (cxOf (L2.CX P w) P w K mg base Nd "_law_draw" (defScope s__law_draw) f cdv A outer s H E) (.Assign [.Subscript (.Name "hand" p1) (.Constant (.int i) j p2) p3] e pos) (tAsg te (gSub (tVar 0) (tC (.int i)) rSetL)) := fun he hs hw => ps_asg he (pg_sub vh pe_int set_list) hs hw
    refine ⟨_, pss_cons (ps_if (PW.pt (pw_and (pt_cmp (pc_eqI hx pe_int)) (pw_and1 (pt_cmp (pc_lt hx (pe_callB call_len_seq rfl gL boot_len (pa_cons hx pa_nil)))))))
      (pss_cons (ps_set (i := 2) sc_draw.nd rfl (.inl rfl) (pe_ix ix_list hx hx (fun _ _ => rfl))) (pss_cons (st (pe_op op_add hx pe_int) rfl rfl) (pss_cons (st (pe_op op_mod (pI (pe_op op_add (pe_op op_add (pe_op op_mul hx pe_int) (pe_op op_mul vc pe_int)) pe_int) rfl) pe_int) rfl rfl)
        (pss_one (ps_if (pt_cmp (pc_ge vc (pe_op op_pow pe_int pe_int))) (pss_one (st vc rfl rfl)) pss_nil))))) pss_nil)
      (pss_cons (ps_if (pt_cmp (pc_gt hx pe_int)) (pss_cons (ps_set (i := 3) sc_draw.nd rfl (.inl rfl) (pe_op op_mod (pI hx rfl) vm)) (pss_cons (st (pe_op op_fdivW hx vm) rfl rfl) (pss_one (ps_ret vd)))) pss_nil)
      (pss_cons (st (pe_op op_add hx pe_int) rfl rfl)
      (pss_cons (ps_set (i := 4) sc_draw.nd rfl (.inl rfl) (pe_op op_mod (pI (pe_op op_mul (pI (pe_op op_add hx (pe_op op_mul pe_int hx)) rfl) pe_int) rfl) pe_int))
      (pss_cons (ps_set (i := 4) sc_draw.nd rfl (.inl rfl) (pe_op op_mod (pI (pe_op op_mul vn (pe_op op_add (pe_op op_fdiv vn pe_int) pe_int)) rfl) pe_int))
      (pss_cons (ps_set (i := 4) sc_draw.nd rfl (.inl rfl) (pe_op op_mod (pI (pe_op op_mul vn (pe_op op_add (pe_op op_fdiv vn pe_int) pe_int)) rfl) pe_int))
      (pss_one (ps_ret (pe_op op_mod (pI (pe_op op_fdiv vn pe_int) rfl) vm)))))))), ?_⟩
    obtain ⟨B, ds, iv, cB, om, r, ⟨m, rfl, m0, ml⟩, kq⟩ := q
    obtain ⟨v1, r1, rfl, e1, v2, r2, rfl, e2, e3⟩ := r
    cases e1; cases e2; cases e3
    have gr0 : Grow (handA T h c hc).C H H := ⟨Keep.refl, fun a h => h⟩
    have fin : ∀ (r : Int) (H' : Hp), 0 ≤ r → r < m → (handA T h c hc).inv H' → Grow (handA T h c hc).C H H' → Q (.int r) H' := fun r H' h1 h2 i g => kq (.int r) ⟨m, r, rfl, rfl, h1, h2⟩ (.int r) H' i g rfl
    have wr : ∀ {H' : Hp} {i b x y i' b' x' y' : Int}, (handA T h c hc).inv H' → Grow (handA T h c hc).C H H' → H' h = some (.lst [.ref c, .int i, .int b, .int x, .int y]) → 0 ≤ i' → (handA T h c hc).inv (upd H' h (.lst [.ref c, .int i', .int b', .int x', .int y'])) ∧ Grow (handA T h c hc).C H (upd H' h (.lst [.ref c, .int i', .int b', .int x', .int y'])) := by
      intro H' i b x y i' b' x' y' iv g e i0
      refine ⟨⟨⟨⟨i', b', x', y', i0, upd_same⟩, ?_⟩, tabs_upd iv.2 fun u z => by rw [e] at z; cases z; exact trivial⟩, g.trans ⟨fun a o z n _ => ?_, fun a z => ?_⟩⟩
      · obtain ⟨ns, z⟩ := iv.1.2
        exact ⟨ns, by rw [upd_ne (Ne.symm hc)]; exact z⟩
      · rw [upd_ne (fun z => n (.inl z))]; exact z
      · by_cases z2 : a = h
        · exact ⟨_, by rw [z2, upd_same], nt_lst⟩
        · obtain ⟨o, z, n⟩ := z
          exact ⟨o, by rw [upd_ne z2]; exact z, n⟩
    have ix : ∀ {σ' : L2.St} {H' : Hp} {k : Int} {v : V} {R : VK} {xs : List V}, σ'[0]? = some (some (.ref h)) → H' h = some (.lst xs) → atI xs k = some v → R v H' → tOp (rIxL K) (tVar 0) (tC (.int k)) σ' H' R := fun e0 e e2 q => ⟨_, e0, _, _, _, _, rfl, rfl, sql_of e, e2, q⟩
    have pos : ∀ a : Int, 0 < m → 0 ≤ a % m := fun a hm => Int.emod_nonneg a (by omega)
    have lt : ∀ a : Int, 0 < m → a % m < m := fun a hm => Int.emod_lt_of_pos a hm
    have bd : ∀ a : Int, -2 ^ 64 < a % 2147483647 ∧ a % 2147483647 < 2 ^ 64 := fun a => by have := Int.emod_nonneg a (b := 2147483647) (by decide); have := Int.emod_lt_of_pos a (b := 2147483647) (by decide); omega
    let Cn : L2.St → Hp → Prop := fun σ' H' => (∃ a b d, σ' = [some (.ref h), some (.int m), a, b, d]) ∧ (handA T h c hc).inv H' ∧ Grow (handA T h c hc).C H H'
    refine DL.seq_cut Cn ?_ ?_
    · rintro σ' H' ⟨⟨a, b0, d, rfl⟩, iv', g'⟩
      refine DL.seq_cut Cn ?_ ?_
      · rintro σ2 H2 ⟨⟨a, b0, d, rfl⟩, iv2, g2⟩
        obtain ⟨⟨i, b, x, y, i0, e⟩, ns, en⟩ := iv2.1
        -- hand[4] = hand[4] + 1, then the numbers
        refine ix (v := .int y) rfl e rfl ?_
        refine ⟨_, _, rfl, rfl, ?_⟩
        refine ⟨.ref h, rfl, h, _, 4, 4, rfl, rfl, e, rfl, ?_⟩
        obtain ⟨iv3, g3⟩ := wr (i' := i) (b' := b) (x' := x) (y' := y + 1) iv2 g2 e i0
        generalize hH3 : upd H2 h (.lst [.ref c, .int i, .int b, .int x, .int (y + 1)]) = H3 at iv3 g3
        have e3 : H3 h = some (.lst [.ref c, .int i, .int b, .int x, .int (y + 1)]) := by rw [← hH3, upd_same]
        show _
        rw [show upd H2 h (HO.lst ([V.ref c, V.int i, V.int b, V.int x, V.int y].set 4 (V.int (y + 1)))) = H3 from hH3]
        refine ix (v := .int x) rfl e3 rfl ?_
        refine ix (v := .int (y + 1)) rfl e3 rfl ?_
        refine ⟨_, _, rfl, rfl, .inl ⟨by omega, by omega⟩, ?_⟩
        refine ⟨_, _, rfl, rfl, .inl ⟨_, rfl, ?_⟩⟩
        refine ⟨_, _, rfl, rfl, .inr ⟨by omega, by omega⟩, .inl ⟨_, rfl, ?_⟩⟩
        refine ⟨_, _, rfl, rfl, by omega, ?_⟩
        refine ⟨_, rfl, _, rfl, ?_⟩
        refine ⟨_, _, rfl, rfl, ⟨by decide, by decide⟩, _, _, rfl, rfl, _, _, rfl, rfl, .inl (bd _), .inl ⟨_, rfl, _, _, rfl, rfl, (by decide : (0 : Int) < 2147483647), ?_⟩⟩
        refine ⟨_, rfl, _, rfl, ?_⟩
        refine ⟨_, _, rfl, rfl, ⟨by decide, by decide⟩, _, _, rfl, rfl, _, _, rfl, rfl, .inl (bd _), .inl ⟨_, rfl, _, _, rfl, rfl, (by decide : (0 : Int) < 2147483563), ?_⟩⟩
        refine ⟨_, rfl, _, _, rfl, rfl, ⟨by decide, by decide⟩, .inl ⟨_, rfl, .int m, rfl, _, _, rfl, rfl, m0, ?_⟩⟩
        exact fin _ _ (pos _ m0) (lt _ m0) iv3 g3
      · intro N hN
        obtain ⟨⟨i, b, x, y, i0, e⟩, ns, en⟩ := iv'.1
        refine ix (v := .int b) rfl e rfl ?_
        refine ⟨b, 0, rfl, rfl, _, rfl, ?_⟩
        by_cases hb : (0 : Int) < b
        · refine (if_pos (decide_eq_true hb)).mpr ?_
          refine ix (v := .int b) rfl e rfl ?_
          refine .inl ⟨_, rfl, .int m, rfl, _, _, rfl, rfl, m0, ?_⟩
          refine ix (v := .int b) rfl e rfl ?_
          refine ⟨.int m, rfl, _, _, rfl, rfl, ⟨m0, ml⟩, ?_⟩
          refine ⟨.ref h, rfl, h, _, 2, 2, rfl, rfl, e, rfl, ?_⟩
          obtain ⟨iv3, g3⟩ := wr (i' := i) (b' := b / m) (x' := x) (y' := y) iv' g' e i0
          exact ⟨.int (b % m), rfl, fin (b % m) _ (pos b m0) (lt b m0) iv3 g3⟩
        · refine (if_neg (by simpa using hb)).mpr ?_
          exact hN _ _ ⟨⟨a, b0, d, rfl⟩, iv', g'⟩
    · intro N hN
      obtain ⟨⟨i, b, x, y, i0, e⟩, ns, en⟩ := iv.1
      refine ix (v := .int b) rfl e rfl ?_
      refine ⟨b, 0, rfl, rfl, _, rfl, ?_⟩
      by_cases hb : b = 0
      · refine (if_pos (decide_eq_true hb)).mpr ?_
        refine ix (v := .int i) rfl e rfl ?_
        refine ix (v := .ref c) rfl e rfl ?_
        refine ⟨c, ns.map V.int, rfl, .inl (sql_of en), ?_⟩
        refine ⟨i, _, rfl, rfl, _, rfl, ?_⟩
        by_cases hl : i < ((ns.map V.int).length : Int)
        · refine (if_pos (decide_eq_true hl)).mpr ?_
          refine ix (v := .ref c) rfl e rfl ?_
          refine ix (v := .int i) rfl e rfl ?_
          obtain ⟨cell, hcell⟩ : ∃ cell : Int, atI (ns.map V.int) i = some (.int cell) := by
            have hi : i.toNat < ns.length := by rw [List.length_map] at hl; omega
            refine ⟨ns[i.toNat], ?_⟩
            unfold atI ixN
            rw [if_pos i0, if_pos hl]
            show (ns.map V.int)[i.toNat]? = _
            rw [List.getElem?_map, List.getElem?_eq_getElem hi]; rfl
          refine ⟨c, _, i, .int cell, rfl, rfl, sql_of en, hcell, ?_⟩
          -- hand[1] = hand[1] + 1
          refine ix (v := .int i) rfl e rfl ?_
          refine ⟨_, _, rfl, rfl, ?_⟩
          refine ⟨.ref h, rfl, h, _, 1, 1, rfl, rfl, e, rfl, ?_⟩
          obtain ⟨iv3, g3⟩ := wr (i' := i + 1) (b' := b) (x' := x) (y' := y) iv gr0 e (by omega)
          have e3 : upd H h (.lst [.ref c, .int (i + 1), .int b, .int x, .int y]) h = some (.lst [.ref c, .int (i + 1), .int b, .int x, .int y]) := upd_same
          refine ix (v := .int x) rfl e3 rfl ?_
          refine ⟨_, _, rfl, rfl, .inr ⟨by decide, by decide⟩, ?_⟩
          refine ⟨.int cell, rfl, _, _, rfl, rfl, .inr ⟨by decide, by decide⟩, ?_⟩
          refine ⟨_, _, rfl, rfl, _, _, rfl, rfl, .inl ⟨_, rfl, _, _, rfl, rfl, (by decide : (0 : Int) < 2147483629), ?_⟩⟩
          refine ⟨.ref h, rfl, h, _, 3, 3, rfl, rfl, e3, rfl, ?_⟩
          have w4 := fun x' => wr (i' := i + 1) (b' := b) (x' := x') (y' := y) iv3 g3 e3 (by omega)
          refine ⟨.int cell, rfl, 10, 18, rfl, rfl, ⟨by decide, by decide, by decide⟩, ?_⟩
          refine ⟨cell, _, rfl, rfl, _, rfl, ?_⟩
          by_cases hg : (10 : Int) ^ (18 : Int).toNat ≤ cell
          · refine (if_pos (decide_eq_true hg)).mpr ?_
            refine ⟨.int cell, rfl, .ref h, rfl, h, _, 2, 2, rfl, rfl, upd_same, rfl, ?_⟩
            exact hN _ _ ⟨⟨_, _, _, rfl⟩, wr (i' := i + 1) (b' := cell) (y' := y) (w4 _).1 (w4 _).2 upd_same (by omega)⟩
          · refine (if_neg (by simpa using hg)).mpr ?_
            exact hN _ _ ⟨⟨_, _, _, rfl⟩, w4 _⟩
        · refine (if_neg (by simpa using hl)).mpr ?_
          exact hN _ _ ⟨⟨_, _, _, rfl⟩, iv, gr0⟩
      · refine (if_neg (by simpa using hb)).mpr ?_
        exact hN _ _ ⟨⟨_, _, _, rfl⟩, iv, gr0⟩
end
end Hd

set_option Elab.async false
set_option linter.all false
set_option maxRecDepth 100000
set_option maxHeartbeats 0
namespace Hd
open PySem L2 DL
structure Ad where
  (is_integer is_within root_of bin_of check_parts pair_of bits_of pair_terms pair_rests pair_rests_of sign_of is_term _law_hand _law_draw _law_any _law_is _law_word _law_pair _law_primes _law_sign _law_far _law_times _law_power _law_is_right _law_are_signs_right _law_are_terms_right _law_refused_right law TermError BadNumber : Addr)
structure Fx (P : Program) (w : World) (K : PySem.W.Frag) (mg : Str → Option Value) (ad : Ad) : Prop where
  f_is_integer : ∃ fd, FunD K "is_integer" "is_integer" (defArgs s_is_integer) (defBody s_is_integer) (defScope s_is_integer) [] [] ad.is_integer fd
  g_is_integer : mg "is_integer" = some (.ref ad.is_integer)
  f_is_within : ∃ fd, FunD K "is_within" "is_within" (defArgs s_is_within) (defBody s_is_within) (defScope s_is_within) [] [] ad.is_within fd
  g_is_within : mg "is_within" = some (.ref ad.is_within)
  f_root_of : ∃ fd, FunD K "root_of" "root_of" (defArgs s_root_of) (defBody s_root_of) (defScope s_root_of) [] [] ad.root_of fd
  g_root_of : mg "root_of" = some (.ref ad.root_of)
  f_bin_of : ∃ fd, FunD K "bin_of" "bin_of" (defArgs s_bin_of) (defBody s_bin_of) (defScope s_bin_of) [] [] ad.bin_of fd
  g_bin_of : mg "bin_of" = some (.ref ad.bin_of)
  f_check_parts : ∃ fd, FunD K "check_parts" "check_parts" (defArgs s_check_parts) (defBody s_check_parts) (defScope s_check_parts) [] [] ad.check_parts fd
  g_check_parts : mg "check_parts" = some (.ref ad.check_parts)
  f_pair_of : ∃ fd, FunD K "pair_of" "pair_of" (defArgs s_pair_of) (defBody s_pair_of) (defScope s_pair_of) [] [] ad.pair_of fd
  g_pair_of : mg "pair_of" = some (.ref ad.pair_of)
  f_bits_of : ∃ fd, FunD K "bits_of" "bits_of" (defArgs s_bits_of) (defBody s_bits_of) (defScope s_bits_of) [] [] ad.bits_of fd
  g_bits_of : mg "bits_of" = some (.ref ad.bits_of)
  f_pair_terms : ∃ fd, FunD K "pair_terms" "pair_terms" (defArgs s_pair_terms) (defBody s_pair_terms) (defScope s_pair_terms) [] [] ad.pair_terms fd
  g_pair_terms : mg "pair_terms" = some (.ref ad.pair_terms)
  f_pair_rests : ∃ fd, FunD K "pair_rests" "pair_rests" (defArgs s_pair_rests) (defBody s_pair_rests) (defScope s_pair_rests) [] [] ad.pair_rests fd
  g_pair_rests : mg "pair_rests" = some (.ref ad.pair_rests)
  f_pair_rests_of : ∃ fd, FunD K "pair_rests_of" "pair_rests_of" (defArgs s_pair_rests_of) (defBody s_pair_rests_of) (defScope s_pair_rests_of) [] [] ad.pair_rests_of fd
  g_pair_rests_of : mg "pair_rests_of" = some (.ref ad.pair_rests_of)
  f_sign_of : ∃ fd, FunD K "sign_of" "sign_of" (defArgs s_sign_of) (defBody s_sign_of) (defScope s_sign_of) [] [] ad.sign_of fd
  g_sign_of : mg "sign_of" = some (.ref ad.sign_of)
  f_is_term : ∃ fd, FunD K "is_term" "is_term" (defArgs s_is_term) (defBody s_is_term) (defScope s_is_term) [] [] ad.is_term fd
  g_is_term : mg "is_term" = some (.ref ad.is_term)
  f__law_hand : ∃ fd, FunD K "_law_hand" "_law_hand" (defArgs s__law_hand) (defBody s__law_hand) (defScope s__law_hand) [] [] ad._law_hand fd
  g__law_hand : mg "_law_hand" = some (.ref ad._law_hand)
  f__law_draw : ∃ fd, FunD K "_law_draw" "_law_draw" (defArgs s__law_draw) (defBody s__law_draw) (defScope s__law_draw) [] [] ad._law_draw fd
  g__law_draw : mg "_law_draw" = some (.ref ad._law_draw)
  f__law_any : ∃ fd, FunD K "_law_any" "_law_any" (defArgs s__law_any) (defBody s__law_any) (defScope s__law_any) [] [] ad._law_any fd
  g__law_any : mg "_law_any" = some (.ref ad._law_any)
  f__law_is : ∃ fd, FunD K "_law_is" "_law_is" (defArgs s__law_is) (defBody s__law_is) (defScope s__law_is) [] [] ad._law_is fd
  g__law_is : mg "_law_is" = some (.ref ad._law_is)
  f__law_word : ∃ fd, FunD K "_law_word" "_law_word" (defArgs s__law_word) (defBody s__law_word) (defScope s__law_word) [] [] ad._law_word fd
  g__law_word : mg "_law_word" = some (.ref ad._law_word)
  f__law_pair : ∃ fd, FunD K "_law_pair" "_law_pair" (defArgs s__law_pair) (defBody s__law_pair) (defScope s__law_pair) [] [] ad._law_pair fd
  g__law_pair : mg "_law_pair" = some (.ref ad._law_pair)
  f__law_primes : ∃ fd, FunD K "_law_primes" "_law_primes" (defArgs s__law_primes) (defBody s__law_primes) (defScope s__law_primes) [] [] ad._law_primes fd
  g__law_primes : mg "_law_primes" = some (.ref ad._law_primes)
  f__law_sign : ∃ fd, FunD K "_law_sign" "_law_sign" (defArgs s__law_sign) (defBody s__law_sign) (defScope s__law_sign) [] [] ad._law_sign fd
  g__law_sign : mg "_law_sign" = some (.ref ad._law_sign)
  f__law_far : ∃ fd, FunD K "_law_far" "_law_far" (defArgs s__law_far) (defBody s__law_far) (defScope s__law_far) [] [] ad._law_far fd
  g__law_far : mg "_law_far" = some (.ref ad._law_far)
  f__law_times : ∃ fd, FunD K "_law_times" "_law_times" (defArgs s__law_times) (defBody s__law_times) (defScope s__law_times) [] [] ad._law_times fd
  g__law_times : mg "_law_times" = some (.ref ad._law_times)
  f__law_power : ∃ fd, FunD K "_law_power" "_law_power" (defArgs s__law_power) (defBody s__law_power) (defScope s__law_power) [] [] ad._law_power fd
  g__law_power : mg "_law_power" = some (.ref ad._law_power)
  f__law_is_right : ∃ fd, FunD K "_law_is_right" "_law_is_right" (defArgs s__law_is_right) (defBody s__law_is_right) (defScope s__law_is_right) [] [] ad._law_is_right fd
  g__law_is_right : mg "_law_is_right" = some (.ref ad._law_is_right)
  f__law_are_signs_right : ∃ fd, FunD K "_law_are_signs_right" "_law_are_signs_right" (defArgs s__law_are_signs_right) (defBody s__law_are_signs_right) (defScope s__law_are_signs_right) [] [] ad._law_are_signs_right fd
  g__law_are_signs_right : mg "_law_are_signs_right" = some (.ref ad._law_are_signs_right)
  f__law_are_terms_right : ∃ fd, FunD K "_law_are_terms_right" "_law_are_terms_right" (defArgs s__law_are_terms_right) (defBody s__law_are_terms_right) (defScope s__law_are_terms_right) [] [] ad._law_are_terms_right fd
  g__law_are_terms_right : mg "_law_are_terms_right" = some (.ref ad._law_are_terms_right)
  f__law_refused_right : ∃ fd, FunD K "_law_refused_right" "_law_refused_right" (defArgs s__law_refused_right) (defBody s__law_refused_right) (defScope s__law_refused_right) [] [] ad._law_refused_right fd
  g__law_refused_right : mg "_law_refused_right" = some (.ref ad._law_refused_right)
  g_TermError : mg "TermError" = some (.ref ad.TermError)
  k_TermError : PySem.W.keepIn K (.ref ad.TermError) = true
  x_TermError : PySem.W.excIn K ad.TermError [.type "ValueError", .type "Exception", .type "BaseException", .type "object"] "ValueError.__new__" = true
  b_TermError : PySem.W.subIn K (.ref ad.TermError) (.type "BaseException") = some true
  t_TermError : PySem.W.typeIn K (.ref ad.TermError) = some (.type "type")
  g_BadNumber : mg "BadNumber" = some (.ref ad.BadNumber)
  k_BadNumber : PySem.W.keepIn K (.ref ad.BadNumber) = true
  x_BadNumber : PySem.W.excIn K ad.BadNumber [.type "ValueError", .type "Exception", .type "BaseException", .type "object"] "ValueError.__new__" = true
  b_BadNumber : PySem.W.subIn K (.ref ad.BadNumber) (.type "BaseException") = some true
  t_BadNumber : PySem.W.typeIn K (.ref ad.BadNumber) = some (.type "type")
  m_BadNumber : PySem.W.exmOne K (.ref ad.BadNumber) (.ref ad.TermError) = some true
  e_BadNumber : ExcC K ad.BadNumber
  q_BadNumber_ValueError : PySem.W.kitOne K (.ref ad.BadNumber) (.type "ValueError") = some true
  q_BadNumber_BadNumber : PySem.W.kitOne K (.ref ad.BadNumber) (.ref ad.BadNumber) = some true
  g_MOST_PART : ∃ t, mg "MOST_PART" = some (.int 1000000 t)
  g_MOST_FAR : ∃ t, mg "MOST_FAR" = some (.int 1000000000000000000 t)
  g_MOST_MODULUS : ∃ t, mg "MOST_MODULUS" = some (.int 1000000000000000000 t)
  g_ValueError : mg "ValueError" = none
  g_abs : mg "abs" = none
  g_all : mg "all" = none
  g_bool : mg "bool" = none
  g_int : mg "int" = none
  g_isinstance : mg "isinstance" = none
  g_len : mg "len" = none
  g_list : mg "list" = none
  g_max : mg "max" = none
  g_range : mg "range" = none
  g_reversed : mg "reversed" = none
  g_str : mg "str" = none
  g_tuple : mg "tuple" = none
  g_zip : mg "zip" = none
def adK (K : PySem.W.Frag) : Ad := ⟨He.ga K "is_integer", He.ga K "is_within", He.ga K "root_of", He.ga K "bin_of", He.ga K "check_parts", He.ga K "pair_of", He.ga K "bits_of", He.ga K "pair_terms", He.ga K "pair_rests", He.ga K "pair_rests_of", He.ga K "sign_of", He.ga K "is_term", He.ga K "_law_hand", He.ga K "_law_draw", He.ga K "_law_any", He.ga K "_law_is", He.ga K "_law_word", He.ga K "_law_pair", He.ga K "_law_primes", He.ga K "_law_sign", He.ga K "_law_far", He.ga K "_law_times", He.ga K "_law_power", He.ga K "_law_is_right", He.ga K "_law_are_signs_right", He.ga K "_law_are_terms_right", He.ga K "_law_refused_right", He.ga K "law", He.ga K "TermError", He.ga K "BadNumber"⟩
theorem ex_of {K : PySem.W.Frag} (h : ex K = true) : ex0 K = true ∧ ex1 K = true ∧ ex2 K = true := by
  unfold ex at h
  simp only [Bool.and_eq_true] at h
  obtain ⟨h0, h1, h2⟩ := (by simpa only [and_assoc] using h : ex0 K = true ∧ ex1 K = true ∧ ex2 K = true)
  exact ⟨h0, h1, h2⟩
theorem exc_of {K : PySem.W.Frag} {D : Addr} (h : excB K D = true) : ExcC K D := by
  unfold excB at h
  simp only [Bool.and_eq_true, decide_eq_true_eq] at h
  obtain ⟨⟨⟨⟨⟨⟨⟨a, b⟩, c⟩, d⟩, e⟩, f⟩, g⟩, h⟩ := h
  exact ⟨a, b, c, d, e, f, g, h⟩
theorem fx_of {P : Program} {w : World} {K : PySem.W.Frag} {h h0 : Heap} {mg : Str → Option Value} (X : K.In h) (G : h.Ns mainGlobals mg) (c : He.SaysX fa fn [] tf ex w h0 K) : Fx P w K mg (adK K) := by
  obtain ⟨h0, h1, h2⟩ := ex_of c.more
  have q_BadNumber_BadNumber : PySem.W.kitOne K (.ref (He.ga K "BadNumber")) (.ref (He.ga K "BadNumber")) = some true := of_decide_eq_true h2
  exact {
    f_is_integer := c.t.d.def_ 0 (d := d_is_integer) rfl
    g_is_integer := He.glo_ok X G (c.t.d.fact 0 (f := .glo "is_integer") rfl)
    f_is_within := c.t.d.def_ 1 (d := d_is_within) rfl
    g_is_within := He.glo_ok X G (c.t.d.fact 1 (f := .glo "is_within") rfl)
    f_root_of := c.t.d.def_ 2 (d := d_root_of) rfl
    g_root_of := He.glo_ok X G (c.t.d.fact 2 (f := .glo "root_of") rfl)
    f_bin_of := c.t.d.def_ 3 (d := d_bin_of) rfl
    g_bin_of := He.glo_ok X G (c.t.d.fact 3 (f := .glo "bin_of") rfl)
    f_check_parts := c.t.d.def_ 4 (d := d_check_parts) rfl
    g_check_parts := He.glo_ok X G (c.t.d.fact 4 (f := .glo "check_parts") rfl)
    f_pair_of := c.t.d.def_ 5 (d := d_pair_of) rfl
    g_pair_of := He.glo_ok X G (c.t.d.fact 5 (f := .glo "pair_of") rfl)
    f_bits_of := c.t.d.def_ 6 (d := d_bits_of) rfl
    g_bits_of := He.glo_ok X G (c.t.d.fact 6 (f := .glo "bits_of") rfl)
    f_pair_terms := c.t.d.def_ 7 (d := d_pair_terms) rfl
    g_pair_terms := He.glo_ok X G (c.t.d.fact 7 (f := .glo "pair_terms") rfl)
    f_pair_rests := c.t.d.def_ 8 (d := d_pair_rests) rfl
    g_pair_rests := He.glo_ok X G (c.t.d.fact 8 (f := .glo "pair_rests") rfl)
    f_pair_rests_of := c.t.d.def_ 9 (d := d_pair_rests_of) rfl
    g_pair_rests_of := He.glo_ok X G (c.t.d.fact 9 (f := .glo "pair_rests_of") rfl)
    f_sign_of := c.t.d.def_ 10 (d := d_sign_of) rfl
    g_sign_of := He.glo_ok X G (c.t.d.fact 10 (f := .glo "sign_of") rfl)
    f_is_term := c.t.d.def_ 11 (d := d_is_term) rfl
    g_is_term := He.glo_ok X G (c.t.d.fact 11 (f := .glo "is_term") rfl)
    f__law_hand := c.t.d.def_ 12 (d := d__law_hand) rfl
    g__law_hand := He.glo_ok X G (c.t.d.fact 12 (f := .glo "_law_hand") rfl)
    f__law_draw := c.t.d.def_ 13 (d := d__law_draw) rfl
    g__law_draw := He.glo_ok X G (c.t.d.fact 13 (f := .glo "_law_draw") rfl)
    f__law_any := c.t.d.def_ 14 (d := d__law_any) rfl
    g__law_any := He.glo_ok X G (c.t.d.fact 14 (f := .glo "_law_any") rfl)
    f__law_is := c.t.d.def_ 15 (d := d__law_is) rfl
    g__law_is := He.glo_ok X G (c.t.d.fact 15 (f := .glo "_law_is") rfl)
    f__law_word := c.t.d.def_ 16 (d := d__law_word) rfl
    g__law_word := He.glo_ok X G (c.t.d.fact 16 (f := .glo "_law_word") rfl)
    f__law_pair := c.t.d.def_ 17 (d := d__law_pair) rfl
    g__law_pair := He.glo_ok X G (c.t.d.fact 17 (f := .glo "_law_pair") rfl)
    f__law_primes := c.t.d.def_ 18 (d := d__law_primes) rfl
    g__law_primes := He.glo_ok X G (c.t.d.fact 18 (f := .glo "_law_primes") rfl)
    f__law_sign := c.t.d.def_ 19 (d := d__law_sign) rfl
    g__law_sign := He.glo_ok X G (c.t.d.fact 19 (f := .glo "_law_sign") rfl)
    f__law_far := c.t.d.def_ 20 (d := d__law_far) rfl
    g__law_far := He.glo_ok X G (c.t.d.fact 20 (f := .glo "_law_far") rfl)
    f__law_times := c.t.d.def_ 21 (d := d__law_times) rfl
    g__law_times := He.glo_ok X G (c.t.d.fact 21 (f := .glo "_law_times") rfl)
    f__law_power := c.t.d.def_ 22 (d := d__law_power) rfl
    g__law_power := He.glo_ok X G (c.t.d.fact 22 (f := .glo "_law_power") rfl)
    f__law_is_right := c.t.d.def_ 23 (d := d__law_is_right) rfl
    g__law_is_right := He.glo_ok X G (c.t.d.fact 23 (f := .glo "_law_is_right") rfl)
    f__law_are_signs_right := c.t.d.def_ 24 (d := d__law_are_signs_right) rfl
    g__law_are_signs_right := He.glo_ok X G (c.t.d.fact 24 (f := .glo "_law_are_signs_right") rfl)
    f__law_are_terms_right := c.t.d.def_ 25 (d := d__law_are_terms_right) rfl
    g__law_are_terms_right := He.glo_ok X G (c.t.d.fact 25 (f := .glo "_law_are_terms_right") rfl)
    f__law_refused_right := c.t.d.def_ 26 (d := d__law_refused_right) rfl
    g__law_refused_right := He.glo_ok X G (c.t.d.fact 26 (f := .glo "_law_refused_right") rfl)
    g_TermError := He.glo_ok X G (c.t.d.fact 28 (f := .glo "TermError") rfl)
    k_TermError := (He.exc_ok (x := "TermError") (c.t.d.fact 44 rfl)).2.1
    x_TermError := (He.exc_ok (x := "TermError") (c.t.d.fact 44 rfl)).1
    b_TermError := (He.exc_ok (x := "TermError") (c.t.d.fact 44 rfl)).2.2.1
    t_TermError := (He.exc_ok (x := "TermError") (c.t.d.fact 44 rfl)).2.2.2
    g_BadNumber := He.glo_ok X G (c.t.d.fact 29 (f := .glo "BadNumber") rfl)
    k_BadNumber := (He.exc_ok (x := "BadNumber") (c.t.d.fact 47 rfl)).2.1
    x_BadNumber := (He.exc_ok (x := "BadNumber") (c.t.d.fact 47 rfl)).1
    b_BadNumber := (He.exc_ok (x := "BadNumber") (c.t.d.fact 47 rfl)).2.2.1
    t_BadNumber := (He.exc_ok (x := "BadNumber") (c.t.d.fact 47 rfl)).2.2.2
    m_BadNumber := He.exm_ok (x := "BadNumber") (y := "TermError") (c.t.d.fact 49 rfl)
    e_BadNumber := exc_of h0
    q_BadNumber_ValueError := of_decide_eq_true h1
    q_BadNumber_BadNumber := q_BadNumber_BadNumber
    g_MOST_PART := He.int_ok X G (x := "MOST_PART") (c.t.d.fact 50 rfl)
    g_MOST_FAR := He.int_ok X G (x := "MOST_FAR") (c.t.d.fact 51 rfl)
    g_MOST_MODULUS := He.int_ok X G (x := "MOST_MODULUS") (c.t.d.fact 52 rfl)
    g_ValueError := He.free_ok X G (x := "ValueError") (c.t.d.fact 30 rfl)
    g_abs := He.free_ok X G (x := "abs") (c.t.d.fact 31 rfl)
    g_all := He.free_ok X G (x := "all") (c.t.d.fact 32 rfl)
    g_bool := He.free_ok X G (x := "bool") (c.t.d.fact 33 rfl)
    g_int := He.free_ok X G (x := "int") (c.t.d.fact 34 rfl)
    g_isinstance := He.free_ok X G (x := "isinstance") (c.t.d.fact 35 rfl)
    g_len := He.free_ok X G (x := "len") (c.t.d.fact 36 rfl)
    g_list := He.free_ok X G (x := "list") (c.t.d.fact 37 rfl)
    g_max := He.free_ok X G (x := "max") (c.t.d.fact 38 rfl)
    g_range := He.free_ok X G (x := "range") (c.t.d.fact 39 rfl)
    g_reversed := He.free_ok X G (x := "reversed") (c.t.d.fact 40 rfl)
    g_str := He.free_ok X G (x := "str") (c.t.d.fact 41 rfl)
    g_tuple := He.free_ok X G (x := "tuple") (c.t.d.fact 42 rfl)
    g_zip := He.free_ok X G (x := "zip") (c.t.d.fact 43 rfl)
  }
def lq__law_refused_right : Str := (PyProof.Rows.envOfC "_law_refused_right" (defScope s__law_refused_right) 0 0 .none).qual ++ "<lambda>"
def TT (P0 : Addr) : List (Addr × Str) := [(P0, lq__law_refused_right)]
abbrev GG (P0 : Addr) (h c : Addr) (hc : h ≠ c) : Amb := handA (TT P0) h c hc
theorem hu__law_refused_right {P0 : Addr} : ∀ p ∈ TT P0, p.1 = P0 → p.2 = lq__law_refused_right := fun p hp _ => by simp only [TT, List.mem_singleton] at hp; rw [hp]
def N_is_integer : List Str := ["thing"]
theorem sc_is_integer : FnScope N_is_integer ["thing"] (defScope s_is_integer) := ⟨rfl, rfl, rfl, by decide +kernel, rfl, by decide +kernel, by decide +kernel⟩
theorem nd_is_integer : N_is_integer.Nodup := sc_is_integer.nd
def t_is_integer (ad : Ad) : DSt := (xRet (xAndV (xUn (isiR [.int]) (xVar 0)) (xNotV (xUn (isiR [.bl]) (xVar 0)))))
theorem der_is_integer {P : Program} {w : World} {K : PySem.W.Frag} {mg : Str → Option Value} {base : Heap} {ad : Ad} {G : Amb} {f : Addr} {k : Nat} (fx : Fx P w K mg ad) (cdv : Value) (A : Around) (outer : List PySem.Env) (s : Shared) (H : Hp) (E : XK) (hr : Room k (A.deeper (PyProof.Rows.envOfC "is_integer" (defScope s_is_integer) s.heap.objs.size f cdv))) :
    DSs (cxOf (L2.CX P w) P w K mg base N_is_integer "is_integer" (defScope s_is_integer) f cdv A outer s H E) G E (defBody s_is_integer) (t_is_integer ad) := by
  have hu := hr.units
  have hu5 := units5 hr
  have htk : Takes (cxOf (L2.CX P w) P w K mg base N_is_integer "is_integer" (defScope s_is_integer) f cdv A outer s H E) (fun cls d _ H => E cls d H) := takes_of rfl rfl rfl rfl
  have hx : Passes (L2.CX P w) (cxOf (L2.CX P w) P w K mg base N_is_integer "is_integer" (defScope s_is_integer) f cdv A outer s H E) E := passes_call htk (fun _ _ _ _ h => h)
  have hp : PassesOwn (model P w) (cxOf (L2.CX P w) P w K mg base N_is_integer "is_integer" (defScope s_is_integer) f cdv A outer s H E).A (cxOf (L2.CX P w) P w K mg base N_is_integer "is_integer" (defScope s_is_integer) f cdv A outer s H E).env (cxOf (L2.CX P w) P w K mg base N_is_integer "is_integer" (defScope s_is_integer) f cdv A outer s H E).xe := passes_of rfl
  exact (dss_one (ds_ret (de_and (de_isi .int (de_var (i := 0) rfl (by first | exact .inl rfl | exact .inr (.inl rfl) | exact .inr (.inr rfl))) rfl fx.g_isinstance rfl fx.g_int rfl) (de_one (de_not (de_isi .bl (de_var (i := 0) rfl (by first | exact .inl rfl | exact .inr (.inl rfl) | exact .inr (.inr rfl))) rfl fx.g_isinstance rfl fx.g_bool rfl))))))
def N_is_within : List Str := ["thing", "low", "high"]
theorem sc_is_within : FnScope N_is_within ["thing", "low", "high"] (defScope s_is_within) := ⟨rfl, rfl, rfl, by decide +kernel, rfl, by decide +kernel, by decide +kernel⟩
theorem nd_is_within : N_is_within.Nodup := sc_is_within.nd
def t_is_within (ad : Ad) (f_is_integer : FSp) : DSt := (xRet (xAndV (xCall f_is_integer (xConsA (xMov 0) xNilA)) (xChain intC intC (intF fun i j => decide (i ≤ j)) (intF fun i j => decide (i ≤ j)) (xVar 1) (xVar 0) (xVar 2))))
theorem der_is_within {P : Program} {w : World} {K : PySem.W.Frag} {mg : Str → Option Value} {base : Heap} {ad : Ad} {G : Amb} {f : Addr} {k : Nat} (fx : Fx P w K mg ad) {k_is_integer : Nat} {f_is_integer : FSp} (c_is_integer : Cal P w K mg base G "is_integer" ad.is_integer k_is_integer f_is_integer) (l_is_integer : k_is_integer ≤ k) (cdv : Value) (A : Around) (outer : List PySem.Env) (s : Shared) (H : Hp) (E : XK) (hr : Room k (A.deeper (PyProof.Rows.envOfC "is_within" (defScope s_is_within) s.heap.objs.size f cdv))) :
    DSs (cxOf (L2.CX P w) P w K mg base N_is_within "is_within" (defScope s_is_within) f cdv A outer s H E) G E (defBody s_is_within) (t_is_within ad f_is_integer) := by
  have hu := hr.units
  have hu5 := units5 hr
  have htk : Takes (cxOf (L2.CX P w) P w K mg base N_is_within "is_within" (defScope s_is_within) f cdv A outer s H E) (fun cls d _ H => E cls d H) := takes_of rfl rfl rfl rfl
  have hx : Passes (L2.CX P w) (cxOf (L2.CX P w) P w K mg base N_is_within "is_within" (defScope s_is_within) f cdv A outer s H E) E := passes_call htk (fun _ _ _ _ h => h)
  have hp : PassesOwn (model P w) (cxOf (L2.CX P w) P w K mg base N_is_within "is_within" (defScope s_is_within) f cdv A outer s H E).A (cxOf (L2.CX P w) P w K mg base N_is_within "is_within" (defScope s_is_within) f cdv A outer s H E).env (cxOf (L2.CX P w) P w K mg base N_is_within "is_within" (defScope s_is_within) f cdv A outer s H E).xe := passes_of rfl
  exact (dss_one (ds_ret (de_and (de_callC c_is_integer (hr.mono (by omega)) rfl hx (da_cons (de_mov (i := 0) rfl (by first | exact .inl rfl | exact .inr (.inl rfl) | exact .inr (.inr rfl))) da_nil)) (de_one (de_chain opd_le opd_le (de_var (i := 1) rfl (by first | exact .inl rfl | exact .inr (.inl rfl) | exact .inr (.inr rfl))) (de_var (i := 0) rfl (by first | exact .inl rfl | exact .inr (.inl rfl) | exact .inr (.inr rfl))) (de_var (i := 2) rfl (by first | exact .inl rfl | exact .inr (.inl rfl) | exact .inr (.inr rfl))))))))
def N_root_of : List Str := ["number", "here", "there"]
theorem sc_root_of : FnScope N_root_of ["number"] (defScope s_root_of) := ⟨rfl, rfl, rfl, by decide +kernel, rfl, by decide +kernel, by decide +kernel⟩
theorem nd_root_of : N_root_of.Nodup := sc_root_of.nd
def t_root_of (ad : Ad) (f_bin_of : FSp) : DSt := (xSeq (xIf (xTru (xOp ltR (xVar 0) (xC (.int 2)))) (xRet (xMov 0)) xNext) (xSeq (xAsg (xOp shlR (xC (.int 1)) (xOp divR (xOp addR (xUn lenR (xCall f_bin_of (xConsA (xMov 0) xNilA))) (xC (.int 1))) (xC (.int 2)))) (xName 1)) (xSeq (xAsg (xOp divR (xOp addR (xVar 1) (xOp divR (xVar 0) (xVar 1))) (xC (.int 2))) (xName 2)) (xSeq (xWh (xTru (xOp ltR (xVar 2) (xVar 1))) (xPar [1, 2] (xConsA (xMov 2) (xConsA (xOp divR (xOp addR (xVar 2) (xOp divR (xVar 0) (xVar 2))) (xC (.int 2))) xNilA)))) (xRet (xMov 1))))))
theorem der_root_of {P : Program} {w : World} {K : PySem.W.Frag} {mg : Str → Option Value} {base : Heap} {ad : Ad} {G : Amb} {f : Addr} {k : Nat} (fx : Fx P w K mg ad) {k_bin_of : Nat} {f_bin_of : FSp} (c_bin_of : Cal P w K mg base G "bin_of" ad.bin_of k_bin_of f_bin_of) (l_bin_of : k_bin_of ≤ k) (cdv : Value) (A : Around) (outer : List PySem.Env) (s : Shared) (H : Hp) (E : XK) (hr : Room k (A.deeper (PyProof.Rows.envOfC "root_of" (defScope s_root_of) s.heap.objs.size f cdv))) :
    DSs (cxOf (L2.CX P w) P w K mg base N_root_of "root_of" (defScope s_root_of) f cdv A outer s H E) G E (defBody s_root_of) (t_root_of ad f_bin_of) := by
  have hu := hr.units
  have hu5 := units5 hr
  have htk : Takes (cxOf (L2.CX P w) P w K mg base N_root_of "root_of" (defScope s_root_of) f cdv A outer s H E) (fun cls d _ H => E cls d H) := takes_of rfl rfl rfl rfl
  have hx : Passes (L2.CX P w) (cxOf (L2.CX P w) P w K mg base N_root_of "root_of" (defScope s_root_of) f cdv A outer s H E) E := passes_call htk (fun _ _ _ _ h => h)
  have hp : PassesOwn (model P w) (cxOf (L2.CX P w) P w K mg base N_root_of "root_of" (defScope s_root_of) f cdv A outer s H E).A (cxOf (L2.CX P w) P w K mg base N_root_of "root_of" (defScope s_root_of) f cdv A outer s H E).env (cxOf (L2.CX P w) P w K mg base N_root_of "root_of" (defScope s_root_of) f cdv A outer s H E).xe := passes_of rfl
  exact (dss_cons (ds_if (db_cmpR opd_lt (de_var (i := 0) rfl (by first | exact .inl rfl | exact .inr (.inl rfl) | exact .inr (.inr rfl))) de_int (by first | exact nobehind _ (by decide) (by decide) | rfl)) (dss_one (ds_ret (de_mov (i := 0) rfl (by first | exact .inl rfl | exact .inr (.inl rfl) | exact .inr (.inr rfl))))) dss_nil) (dss_cons (ds_set nd_root_of rfl (by first | exact .inl rfl | exact .inr rfl) (de_op opd_shl de_int (de_op opd_div (de_op opd_add (de_callB1 cd_len rfl fx.g_len rfl (de_callC c_bin_of (hr.mono (by omega)) rfl hx (da_cons (de_mov (i := 0) rfl (by first | exact .inl rfl | exact .inr (.inl rfl) | exact .inr (.inr rfl))) da_nil))) de_int) de_int)) rfl) (dss_cons (ds_set nd_root_of rfl (by first | exact .inl rfl | exact .inr rfl) (de_op opd_div (de_op opd_add (de_var (i := 1) rfl (by first | exact .inl rfl | exact .inr (.inl rfl) | exact .inr (.inr rfl))) (de_op opd_div (de_var (i := 0) rfl (by first | exact .inl rfl | exact .inr (.inl rfl) | exact .inr (.inr rfl))) (de_var (i := 1) rfl (by first | exact .inl rfl | exact .inr (.inl rfl) | exact .inr (.inr rfl))))) de_int) rfl) (dss_cons (ds_while hp (db_cmpR opd_lt (de_var (i := 2) rfl (by first | exact .inl rfl | exact .inr (.inl rfl) | exact .inr (.inr rfl))) (de_var (i := 1) rfl (by first | exact .inl rfl | exact .inr (.inl rfl) | exact .inr (.inr rfl))) (by first | exact nobehind _ (by decide) (by decide) | rfl)) (dss_one (ds_par rfl nd_root_of rfl rfl (by decide) rfl rfl (da_cons (de_mov (i := 2) rfl (by first | exact .inl rfl | exact .inr (.inl rfl) | exact .inr (.inr rfl))) (da_cons (de_op opd_div (de_op opd_add (de_var (i := 2) rfl (by first | exact .inl rfl | exact .inr (.inl rfl) | exact .inr (.inr rfl))) (de_op opd_div (de_var (i := 0) rfl (by first | exact .inl rfl | exact .inr (.inl rfl) | exact .inr (.inr rfl))) (de_var (i := 2) rfl (by first | exact .inl rfl | exact .inr (.inl rfl) | exact .inr (.inr rfl))))) de_int) da_nil)) rfl))) (dss_one (ds_ret (de_mov (i := 1) rfl (by first | exact .inl rfl | exact .inr (.inl rfl) | exact .inr (.inr rfl)))))))))
def N_bin_of : List Str := ["number", "found"]
theorem sc_bin_of : FnScope N_bin_of ["number"] (defScope s_bin_of) := ⟨rfl, rfl, rfl, by decide +kernel, rfl, by decide +kernel, by decide +kernel⟩
theorem nd_bin_of : N_bin_of.Nodup := sc_bin_of.nd
def t_bin_of (ad : Ad) : DSt := (xSeq (xAsg (xLst xNilA) (xName 1)) (xSeq (xWh (xTru (xOp gtR (xVar 0) (xC (.int 0)))) (xSeq (xDrop (xMt 1 appR (xConsA (xOp modR (xVar 0) (xC (.int 2))) xNilA))) (xAsg (xOp divR (xVar 0) (xC (.int 2))) (xName 0)))) (xRet (xMov 1))))
theorem der_bin_of {P : Program} {w : World} {K : PySem.W.Frag} {mg : Str → Option Value} {base : Heap} {ad : Ad} {G : Amb} {f : Addr} {k : Nat} (fx : Fx P w K mg ad) (cdv : Value) (A : Around) (outer : List PySem.Env) (s : Shared) (H : Hp) (E : XK) (hr : Room k (A.deeper (PyProof.Rows.envOfC "bin_of" (defScope s_bin_of) s.heap.objs.size f cdv))) :
    DSs (cxOf (L2.CX P w) P w K mg base N_bin_of "bin_of" (defScope s_bin_of) f cdv A outer s H E) G E (defBody s_bin_of) (t_bin_of ad) := by
  have hu := hr.units
  have hu5 := units5 hr
  have htk : Takes (cxOf (L2.CX P w) P w K mg base N_bin_of "bin_of" (defScope s_bin_of) f cdv A outer s H E) (fun cls d _ H => E cls d H) := takes_of rfl rfl rfl rfl
  have hx : Passes (L2.CX P w) (cxOf (L2.CX P w) P w K mg base N_bin_of "bin_of" (defScope s_bin_of) f cdv A outer s H E) E := passes_call htk (fun _ _ _ _ h => h)
  have hp : PassesOwn (model P w) (cxOf (L2.CX P w) P w K mg base N_bin_of "bin_of" (defScope s_bin_of) f cdv A outer s H E).A (cxOf (L2.CX P w) P w K mg base N_bin_of "bin_of" (defScope s_bin_of) f cdv A outer s H E).env (cxOf (L2.CX P w) P w K mg base N_bin_of "bin_of" (defScope s_bin_of) f cdv A outer s H E).xe := passes_of rfl
  exact (dss_cons (ds_set nd_bin_of rfl (by first | exact .inl rfl | exact .inr rfl) (de_lst da_nil) rfl) (dss_cons (ds_while hp (db_cmpR opd_gt (de_var (i := 0) rfl (by first | exact .inl rfl | exact .inr (.inl rfl) | exact .inr (.inr rfl))) de_int (by first | exact nobehind _ (by decide) (by decide) | rfl)) (dss_cons (ds_expr (de_mt (i := 1) PySem.F.slot_list_append PySem.F.type_list_append md_append rfl (by first | exact .inl rfl | exact .inr (.inl rfl) | exact .inr (.inr rfl)) (da_cons (de_op opd_mod (de_var (i := 0) rfl (by first | exact .inl rfl | exact .inr (.inl rfl) | exact .inr (.inr rfl))) de_int) da_nil))) (dss_one (ds_set nd_bin_of rfl (by first | exact .inl rfl | exact .inr rfl) (de_op opd_div (de_var (i := 0) rfl (by first | exact .inl rfl | exact .inr (.inl rfl) | exact .inr (.inr rfl))) de_int) rfl)))) (dss_one (ds_ret (de_mov (i := 1) rfl (by first | exact .inl rfl | exact .inr (.inl rfl) | exact .inr (.inr rfl)))))))
def N_check_parts : List Str := ["p", "q", "part"]
theorem sc_check_parts : FnScope N_check_parts ["p", "q"] (defScope s_check_parts) := ⟨rfl, rfl, rfl, by decide +kernel, rfl, by decide +kernel, by decide +kernel⟩
theorem nd_check_parts : N_check_parts.Nodup := sc_check_parts.nd
def t_check_parts (ad : Ad) (f_is_integer : FSp) : DSt := (xFor (xIt id (xTup (xConsA (xMov 0) (xConsA (xMov 1) xNilA)))) (xName 2) (xIf (xOr (xNot (xTru (xCall f_is_integer (xConsA (xMov 2) xNilA)))) (xTru (xOp gtR (xUn absR (xVar 2)) (xC (.int 1000000))))) (xRaise ⟨ad.BadNumber, none⟩) xNext))
theorem der_check_parts {P : Program} {w : World} {K : PySem.W.Frag} {mg : Str → Option Value} {base : Heap} {ad : Ad} {G : Amb} {f : Addr} {k : Nat} (fx : Fx P w K mg ad) {k_is_integer : Nat} {f_is_integer : FSp} (c_is_integer : Cal P w K mg base G "is_integer" ad.is_integer k_is_integer f_is_integer) (l_is_integer : k_is_integer ≤ k) (cdv : Value) (A : Around) (outer : List PySem.Env) (s : Shared) (H : Hp) (E : XK) (hr : Room k (A.deeper (PyProof.Rows.envOfC "check_parts" (defScope s_check_parts) s.heap.objs.size f cdv))) :
    DSs (cxOf (L2.CX P w) P w K mg base N_check_parts "check_parts" (defScope s_check_parts) f cdv A outer s H E) G E (defBody s_check_parts) (t_check_parts ad f_is_integer) := by
  have hu := hr.units
  have hu5 := units5 hr
  have htk : Takes (cxOf (L2.CX P w) P w K mg base N_check_parts "check_parts" (defScope s_check_parts) f cdv A outer s H E) (fun cls d _ H => E cls d H) := takes_of rfl rfl rfl rfl
  have hx : Passes (L2.CX P w) (cxOf (L2.CX P w) P w K mg base N_check_parts "check_parts" (defScope s_check_parts) f cdv A outer s H E) E := passes_call htk (fun _ _ _ _ h => h)
  have hp : PassesOwn (model P w) (cxOf (L2.CX P w) P w K mg base N_check_parts "check_parts" (defScope s_check_parts) f cdv A outer s H E).A (cxOf (L2.CX P w) P w K mg base N_check_parts "check_parts" (defScope s_check_parts) f cdv A outer s H E).env (cxOf (L2.CX P w) P w K mg base N_check_parts "check_parts" (defScope s_check_parts) f cdv A outer s H E).xe := passes_of rfl
  obtain ⟨tk_MOST_PART, gc_MOST_PART⟩ := fx.g_MOST_PART
  exact (dss_one (ds_for hp rfl (di_any (de_tup (da_cons (de_mov (i := 0) rfl (by first | exact .inl rfl | exact .inr (.inl rfl) | exact .inr (.inr rfl))) (da_cons (de_mov (i := 1) rfl (by first | exact .inl rfl | exact .inr (.inl rfl) | exact .inr (.inr rfl))) da_nil)))) (dg_name nd_check_parts rfl (by first | exact .inl rfl | exact .inr rfl)) (dss_one (ds_if (DW.db (dw_or (db_not (db_tru (de_callC c_is_integer (hr.mono (by omega)) rfl hx (da_cons (de_mov (i := 2) rfl (by first | exact .inl rfl | exact .inr (.inl rfl) | exact .inr (.inr rfl))) da_nil)))) (dw_or1 (db_cmpR opd_gt (de_callB1 cd_abs rfl fx.g_abs rfl (de_var (i := 2) rfl (by first | exact .inl rfl | exact .inr (.inl rfl) | exact .inr (.inr rfl)))) (de_con rfl gc_MOST_PART) (by first | exact nobehind _ (by decide) (by decide) | rfl))))) (dss_one (ds_raise rfl htk fx.x_BadNumber fx.g_BadNumber fx.k_BadNumber fx.b_BadNumber fx.t_BadNumber rfl)) dss_nil)) (by intro _; rfl)))
def N_pair_of : List Str := ["p", "q", "place", "first", "second", "power", "bit"]
theorem sc_pair_of : FnScope N_pair_of ["p", "q", "place"] (defScope s_pair_of) := ⟨rfl, rfl, rfl, by decide +kernel, rfl, by decide +kernel, by decide +kernel⟩
theorem nd_pair_of : N_pair_of.Nodup := sc_pair_of.nd
def t_pair_of (ad : Ad) (f_bits_of : FSp) : DSt := (xSeq (xAsg (xTup (xConsA (xC (.int 0)) (xConsA (xC (.int 2)) (xConsA (xC (.int 1)) xNilA)))) (xTupG [(xName 3), (xName 4), (xName 5)])) (xSeq (xFor (xIt id (xCall f_bits_of (xConsA (xMov 2) xNilA))) (xName 6) (xSeq (xPar [3, 4, 5] (xConsA (xOp mulR (xVar 3) (xVar 4)) (xConsA (xOp subR (xOp mulR (xVar 4) (xVar 4)) (xOp mulR (xC (.int 2)) (xVar 5))) (xConsA (xOp mulR (xVar 5) (xVar 5)) xNilA)))) (xIf (xTru (xOp eqR (xVar 6) (xC (.int 1)))) (xSeq (xPar [3, 4] (xConsA (xOp divR (xOp addR (xOp mulR (xVar 0) (xVar 3)) (xVar 4)) (xC (.int 2))) (xConsA (xOp divR (xOp addR (xOp mulR (xOp subR (xOp mulR (xVar 0) (xVar 0)) (xOp mulR (xC (.int 4)) (xVar 1))) (xVar 3)) (xOp mulR (xVar 0) (xVar 4))) (xC (.int 2))) xNilA))) (xAsg (xOp mulR (xVar 5) (xVar 1)) (xName 5))) xNext))) (xRet (xTup (xConsA (xMov 3) (xConsA (xMov 4) xNilA))))))
theorem der_pair_of {P : Program} {w : World} {K : PySem.W.Frag} {mg : Str → Option Value} {base : Heap} {ad : Ad} {G : Amb} {f : Addr} {k : Nat} (fx : Fx P w K mg ad) {k_bits_of : Nat} {f_bits_of : FSp} (c_bits_of : Cal P w K mg base G "bits_of" ad.bits_of k_bits_of f_bits_of) (l_bits_of : k_bits_of ≤ k) (cdv : Value) (A : Around) (outer : List PySem.Env) (s : Shared) (H : Hp) (E : XK) (hr : Room k (A.deeper (PyProof.Rows.envOfC "pair_of" (defScope s_pair_of) s.heap.objs.size f cdv))) :
    DSs (cxOf (L2.CX P w) P w K mg base N_pair_of "pair_of" (defScope s_pair_of) f cdv A outer s H E) G E (defBody s_pair_of) (t_pair_of ad f_bits_of) := by
  have hu := hr.units
  have hu5 := units5 hr
  have htk : Takes (cxOf (L2.CX P w) P w K mg base N_pair_of "pair_of" (defScope s_pair_of) f cdv A outer s H E) (fun cls d _ H => E cls d H) := takes_of rfl rfl rfl rfl
  have hx : Passes (L2.CX P w) (cxOf (L2.CX P w) P w K mg base N_pair_of "pair_of" (defScope s_pair_of) f cdv A outer s H E) E := passes_call htk (fun _ _ _ _ h => h)
  have hp : PassesOwn (model P w) (cxOf (L2.CX P w) P w K mg base N_pair_of "pair_of" (defScope s_pair_of) f cdv A outer s H E).A (cxOf (L2.CX P w) P w K mg base N_pair_of "pair_of" (defScope s_pair_of) f cdv A outer s H E).env (cxOf (L2.CX P w) P w K mg base N_pair_of "pair_of" (defScope s_pair_of) f cdv A outer s H E).xe := passes_of rfl
  exact (dss_cons (ds_asg (de_tup (da_cons de_int (da_cons de_int (da_cons de_int da_nil)))) (dg_tup rfl (dgs_cons (dg_name nd_pair_of rfl (by first | exact .inl rfl | exact .inr rfl)) (dgs_cons (dg_name nd_pair_of rfl (by first | exact .inl rfl | exact .inr rfl)) (dgs_cons (dg_name nd_pair_of rfl (by first | exact .inl rfl | exact .inr rfl)) dgs_nil))))) (dss_cons (ds_for hp rfl (di_any (de_callC c_bits_of (hr.mono (by omega)) rfl hx (da_cons (de_mov (i := 2) rfl (by first | exact .inl rfl | exact .inr (.inl rfl) | exact .inr (.inr rfl))) da_nil))) (dg_name nd_pair_of rfl (by first | exact .inl rfl | exact .inr rfl)) (dss_cons (ds_par3 rfl nd_pair_of rfl rfl rfl (by decide) (by decide) (by decide) rfl rfl rfl (da_cons (de_op opd_mul (de_var (i := 3) rfl (by first | exact .inl rfl | exact .inr (.inl rfl) | exact .inr (.inr rfl))) (de_var (i := 4) rfl (by first | exact .inl rfl | exact .inr (.inl rfl) | exact .inr (.inr rfl)))) (da_cons (de_op opd_sub (de_op opd_mul (de_var (i := 4) rfl (by first | exact .inl rfl | exact .inr (.inl rfl) | exact .inr (.inr rfl))) (de_var (i := 4) rfl (by first | exact .inl rfl | exact .inr (.inl rfl) | exact .inr (.inr rfl)))) (de_op opd_mul de_int (de_var (i := 5) rfl (by first | exact .inl rfl | exact .inr (.inl rfl) | exact .inr (.inr rfl))))) (da_cons (de_op opd_mul (de_var (i := 5) rfl (by first | exact .inl rfl | exact .inr (.inl rfl) | exact .inr (.inr rfl))) (de_var (i := 5) rfl (by first | exact .inl rfl | exact .inr (.inl rfl) | exact .inr (.inr rfl)))) da_nil))) rfl) (dss_one (ds_if (db_cmpR (opd_eq hr.units) (de_var (i := 6) rfl (by first | exact .inl rfl | exact .inr (.inl rfl) | exact .inr (.inr rfl))) de_int (by first | exact nobehind _ (by decide) (by decide) | rfl)) (dss_cons (ds_par rfl nd_pair_of rfl rfl (by decide) rfl rfl (da_cons (de_op opd_div (de_op opd_add (de_op opd_mul (de_var (i := 0) rfl (by first | exact .inl rfl | exact .inr (.inl rfl) | exact .inr (.inr rfl))) (de_var (i := 3) rfl (by first | exact .inl rfl | exact .inr (.inl rfl) | exact .inr (.inr rfl)))) (de_var (i := 4) rfl (by first | exact .inl rfl | exact .inr (.inl rfl) | exact .inr (.inr rfl)))) de_int) (da_cons (de_op opd_div (de_op opd_add (de_op opd_mul (de_op opd_sub (de_op opd_mul (de_var (i := 0) rfl (by first | exact .inl rfl | exact .inr (.inl rfl) | exact .inr (.inr rfl))) (de_var (i := 0) rfl (by first | exact .inl rfl | exact .inr (.inl rfl) | exact .inr (.inr rfl)))) (de_op opd_mul de_int (de_var (i := 1) rfl (by first | exact .inl rfl | exact .inr (.inl rfl) | exact .inr (.inr rfl))))) (de_var (i := 3) rfl (by first | exact .inl rfl | exact .inr (.inl rfl) | exact .inr (.inr rfl)))) (de_op opd_mul (de_var (i := 0) rfl (by first | exact .inl rfl | exact .inr (.inl rfl) | exact .inr (.inr rfl))) (de_var (i := 4) rfl (by first | exact .inl rfl | exact .inr (.inl rfl) | exact .inr (.inr rfl))))) de_int) da_nil)) rfl) (dss_one (ds_set nd_pair_of rfl (by first | exact .inl rfl | exact .inr rfl) (de_op opd_mul (de_var (i := 5) rfl (by first | exact .inl rfl | exact .inr (.inl rfl) | exact .inr (.inr rfl))) (de_var (i := 1) rfl (by first | exact .inl rfl | exact .inr (.inl rfl) | exact .inr (.inr rfl)))) rfl))) dss_nil))) (by intro _; rfl)) (dss_one (ds_ret (de_tup (da_cons (de_mov (i := 3) rfl (by first | exact .inl rfl | exact .inr (.inl rfl) | exact .inr (.inr rfl))) (da_cons (de_mov (i := 4) rfl (by first | exact .inl rfl | exact .inr (.inl rfl) | exact .inr (.inr rfl))) da_nil)))))))
def N_bits_of : List Str := ["number", "found"]
theorem sc_bits_of : FnScope N_bits_of ["number"] (defScope s_bits_of) := ⟨rfl, rfl, rfl, by decide +kernel, rfl, by decide +kernel, by decide +kernel⟩
theorem nd_bits_of : N_bits_of.Nodup := sc_bits_of.nd
def t_bits_of (ad : Ad) : DSt := (xSeq (xAsg (xLst xNilA) (xName 1)) (xSeq (xWh (xTru (xOp gtR (xVar 0) (xC (.int 0)))) (xSeq (xDrop (xMt 1 appR (xConsA (xOp modR (xVar 0) (xC (.int 2))) xNilA))) (xAsg (xOp divR (xVar 0) (xC (.int 2))) (xName 0)))) (xRet (xUn revR (xVar 1)))))
theorem der_bits_of {P : Program} {w : World} {K : PySem.W.Frag} {mg : Str → Option Value} {base : Heap} {ad : Ad} {G : Amb} {f : Addr} {k : Nat} (fx : Fx P w K mg ad) (cdv : Value) (A : Around) (outer : List PySem.Env) (s : Shared) (H : Hp) (E : XK) (hr : Room k (A.deeper (PyProof.Rows.envOfC "bits_of" (defScope s_bits_of) s.heap.objs.size f cdv))) :
    DSs (cxOf (L2.CX P w) P w K mg base N_bits_of "bits_of" (defScope s_bits_of) f cdv A outer s H E) G E (defBody s_bits_of) (t_bits_of ad) := by
  have hu := hr.units
  have hu5 := units5 hr
  have htk : Takes (cxOf (L2.CX P w) P w K mg base N_bits_of "bits_of" (defScope s_bits_of) f cdv A outer s H E) (fun cls d _ H => E cls d H) := takes_of rfl rfl rfl rfl
  have hx : Passes (L2.CX P w) (cxOf (L2.CX P w) P w K mg base N_bits_of "bits_of" (defScope s_bits_of) f cdv A outer s H E) E := passes_call htk (fun _ _ _ _ h => h)
  have hp : PassesOwn (model P w) (cxOf (L2.CX P w) P w K mg base N_bits_of "bits_of" (defScope s_bits_of) f cdv A outer s H E).A (cxOf (L2.CX P w) P w K mg base N_bits_of "bits_of" (defScope s_bits_of) f cdv A outer s H E).env (cxOf (L2.CX P w) P w K mg base N_bits_of "bits_of" (defScope s_bits_of) f cdv A outer s H E).xe := passes_of rfl
  exact (dss_cons (ds_set nd_bits_of rfl (by first | exact .inl rfl | exact .inr rfl) (de_lst da_nil) rfl) (dss_cons (ds_while hp (db_cmpR opd_gt (de_var (i := 0) rfl (by first | exact .inl rfl | exact .inr (.inl rfl) | exact .inr (.inr rfl))) de_int (by first | exact nobehind _ (by decide) (by decide) | rfl)) (dss_cons (ds_expr (de_mt (i := 1) PySem.F.slot_list_append PySem.F.type_list_append md_append rfl (by first | exact .inl rfl | exact .inr (.inl rfl) | exact .inr (.inr rfl)) (da_cons (de_op opd_mod (de_var (i := 0) rfl (by first | exact .inl rfl | exact .inr (.inl rfl) | exact .inr (.inr rfl))) de_int) da_nil))) (dss_one (ds_set nd_bits_of rfl (by first | exact .inl rfl | exact .inr rfl) (de_op opd_div (de_var (i := 0) rfl (by first | exact .inl rfl | exact .inr (.inl rfl) | exact .inr (.inr rfl))) de_int) rfl)))) (dss_one (ds_ret (de_listRev rfl rfl fx.g_list rfl fx.g_reversed (de_var (i := 1) rfl (by first | exact .inl rfl | exact .inr (.inl rfl) | exact .inr (.inr rfl))))))))
def N_pair_terms : List Str := ["p", "q", "place"]
theorem sc_pair_terms : FnScope N_pair_terms ["p", "q", "place"] (defScope s_pair_terms) := ⟨rfl, rfl, rfl, by decide +kernel, rfl, by decide +kernel, by decide +kernel⟩
theorem nd_pair_terms : N_pair_terms.Nodup := sc_pair_terms.nd
def t_pair_terms (ad : Ad) (f_check_parts : FSp) (f_is_within : FSp) (f_pair_of : FSp) : DSt := (xSeq (xDrop (xCall f_check_parts (xConsA (xMov 0) (xConsA (xMov 1) xNilA)))) (xSeq (xIf (xNot (xTru (xCall f_is_within (xConsA (xMov 2) (xConsA (xC (.int 0)) (xConsA (xC (.int 2000)) xNilA)))))) (xRaise ⟨ad.BadNumber, none⟩) xNext) (xRet (xCall f_pair_of (xConsA (xMov 0) (xConsA (xMov 1) (xConsA (xMov 2) xNilA)))))))
theorem der_pair_terms {P : Program} {w : World} {K : PySem.W.Frag} {mg : Str → Option Value} {base : Heap} {ad : Ad} {G : Amb} {f : Addr} {k : Nat} (fx : Fx P w K mg ad) {k_check_parts : Nat} {f_check_parts : FSp} (c_check_parts : Cal P w K mg base G "check_parts" ad.check_parts k_check_parts f_check_parts) (l_check_parts : k_check_parts ≤ k) {k_is_within : Nat} {f_is_within : FSp} (c_is_within : Cal P w K mg base G "is_within" ad.is_within k_is_within f_is_within) (l_is_within : k_is_within ≤ k) {k_pair_of : Nat} {f_pair_of : FSp} (c_pair_of : Cal P w K mg base G "pair_of" ad.pair_of k_pair_of f_pair_of) (l_pair_of : k_pair_of ≤ k) (cdv : Value) (A : Around) (outer : List PySem.Env) (s : Shared) (H : Hp) (E : XK) (hr : Room k (A.deeper (PyProof.Rows.envOfC "pair_terms" (defScope s_pair_terms) s.heap.objs.size f cdv))) :
    DSs (cxOf (L2.CX P w) P w K mg base N_pair_terms "pair_terms" (defScope s_pair_terms) f cdv A outer s H E) G E (defBody s_pair_terms) (t_pair_terms ad f_check_parts f_is_within f_pair_of) := by
  have hu := hr.units
  have hu5 := units5 hr
  have htk : Takes (cxOf (L2.CX P w) P w K mg base N_pair_terms "pair_terms" (defScope s_pair_terms) f cdv A outer s H E) (fun cls d _ H => E cls d H) := takes_of rfl rfl rfl rfl
  have hx : Passes (L2.CX P w) (cxOf (L2.CX P w) P w K mg base N_pair_terms "pair_terms" (defScope s_pair_terms) f cdv A outer s H E) E := passes_call htk (fun _ _ _ _ h => h)
  have hp : PassesOwn (model P w) (cxOf (L2.CX P w) P w K mg base N_pair_terms "pair_terms" (defScope s_pair_terms) f cdv A outer s H E).A (cxOf (L2.CX P w) P w K mg base N_pair_terms "pair_terms" (defScope s_pair_terms) f cdv A outer s H E).env (cxOf (L2.CX P w) P w K mg base N_pair_terms "pair_terms" (defScope s_pair_terms) f cdv A outer s H E).xe := passes_of rfl
  exact (dss_cons (ds_expr (de_callC c_check_parts (hr.mono (by omega)) rfl hx (da_cons (de_mov (i := 0) rfl (by first | exact .inl rfl | exact .inr (.inl rfl) | exact .inr (.inr rfl))) (da_cons (de_mov (i := 1) rfl (by first | exact .inl rfl | exact .inr (.inl rfl) | exact .inr (.inr rfl))) da_nil)))) (dss_cons (ds_if (db_not (db_tru (de_callC c_is_within (hr.mono (by omega)) rfl hx (da_cons (de_mov (i := 2) rfl (by first | exact .inl rfl | exact .inr (.inl rfl) | exact .inr (.inr rfl))) (da_cons de_int (da_cons de_int da_nil)))))) (dss_one (ds_raise rfl htk fx.x_BadNumber fx.g_BadNumber fx.k_BadNumber fx.b_BadNumber fx.t_BadNumber rfl)) dss_nil) (dss_one (ds_ret (de_callC c_pair_of (hr.mono (by omega)) rfl hx (da_cons (de_mov (i := 0) rfl (by first | exact .inl rfl | exact .inr (.inl rfl) | exact .inr (.inr rfl))) (da_cons (de_mov (i := 1) rfl (by first | exact .inl rfl | exact .inr (.inl rfl) | exact .inr (.inr rfl))) (da_cons (de_mov (i := 2) rfl (by first | exact .inl rfl | exact .inr (.inl rfl) | exact .inr (.inr rfl))) da_nil))))))))
def N_pair_rests : List Str := ["p", "q", "place", "modulus"]
theorem sc_pair_rests : FnScope N_pair_rests ["p", "q", "place", "modulus"] (defScope s_pair_rests) := ⟨rfl, rfl, rfl, by decide +kernel, rfl, by decide +kernel, by decide +kernel⟩
theorem nd_pair_rests : N_pair_rests.Nodup := sc_pair_rests.nd
def t_pair_rests (ad : Ad) (f_check_parts : FSp) (f_is_within : FSp) (f_pair_rests_of : FSp) : DSt := (xSeq (xDrop (xCall f_check_parts (xConsA (xMov 0) (xConsA (xMov 1) xNilA)))) (xSeq (xIf (xOr (xNot (xTru (xCall f_is_within (xConsA (xMov 2) (xConsA (xC (.int 0)) (xConsA (xC (.int 1000000000000000000)) xNilA)))))) (xOr (xNot (xTru (xCall f_is_within (xConsA (xMov 3) (xConsA (xC (.int 1)) (xConsA (xC (.int 1000000000000000000)) xNilA)))))) (xTru (xOp eqR (xOp modR (xVar 3) (xC (.int 2))) (xC (.int 0)))))) (xRaise ⟨ad.BadNumber, none⟩) xNext) (xRet (xCall f_pair_rests_of (xConsA (xMov 0) (xConsA (xMov 1) (xConsA (xMov 2) (xConsA (xMov 3) xNilA))))))))
theorem der_pair_rests {P : Program} {w : World} {K : PySem.W.Frag} {mg : Str → Option Value} {base : Heap} {ad : Ad} {G : Amb} {f : Addr} {k : Nat} (fx : Fx P w K mg ad) {k_check_parts : Nat} {f_check_parts : FSp} (c_check_parts : Cal P w K mg base G "check_parts" ad.check_parts k_check_parts f_check_parts) (l_check_parts : k_check_parts ≤ k) {k_is_within : Nat} {f_is_within : FSp} (c_is_within : Cal P w K mg base G "is_within" ad.is_within k_is_within f_is_within) (l_is_within : k_is_within ≤ k) {k_pair_rests_of : Nat} {f_pair_rests_of : FSp} (c_pair_rests_of : Cal P w K mg base G "pair_rests_of" ad.pair_rests_of k_pair_rests_of f_pair_rests_of) (l_pair_rests_of : k_pair_rests_of ≤ k) (cdv : Value) (A : Around) (outer : List PySem.Env) (s : Shared) (H : Hp) (E : XK) (hr : Room k (A.deeper (PyProof.Rows.envOfC "pair_rests" (defScope s_pair_rests) s.heap.objs.size f cdv))) :
    DSs (cxOf (L2.CX P w) P w K mg base N_pair_rests "pair_rests" (defScope s_pair_rests) f cdv A outer s H E) G E (defBody s_pair_rests) (t_pair_rests ad f_check_parts f_is_within f_pair_rests_of) := by
  have hu := hr.units
  have hu5 := units5 hr
  have htk : Takes (cxOf (L2.CX P w) P w K mg base N_pair_rests "pair_rests" (defScope s_pair_rests) f cdv A outer s H E) (fun cls d _ H => E cls d H) := takes_of rfl rfl rfl rfl
  have hx : Passes (L2.CX P w) (cxOf (L2.CX P w) P w K mg base N_pair_rests "pair_rests" (defScope s_pair_rests) f cdv A outer s H E) E := passes_call htk (fun _ _ _ _ h => h)
  have hp : PassesOwn (model P w) (cxOf (L2.CX P w) P w K mg base N_pair_rests "pair_rests" (defScope s_pair_rests) f cdv A outer s H E).A (cxOf (L2.CX P w) P w K mg base N_pair_rests "pair_rests" (defScope s_pair_rests) f cdv A outer s H E).env (cxOf (L2.CX P w) P w K mg base N_pair_rests "pair_rests" (defScope s_pair_rests) f cdv A outer s H E).xe := passes_of rfl
  obtain ⟨tk_MOST_FAR, gc_MOST_FAR⟩ := fx.g_MOST_FAR
  obtain ⟨tk_MOST_MODULUS, gc_MOST_MODULUS⟩ := fx.g_MOST_MODULUS
  exact (dss_cons (ds_expr (de_callC c_check_parts (hr.mono (by omega)) rfl hx (da_cons (de_mov (i := 0) rfl (by first | exact .inl rfl | exact .inr (.inl rfl) | exact .inr (.inr rfl))) (da_cons (de_mov (i := 1) rfl (by first | exact .inl rfl | exact .inr (.inl rfl) | exact .inr (.inr rfl))) da_nil)))) (dss_cons (ds_if (DW.db (dw_or (db_not (db_tru (de_callC c_is_within (hr.mono (by omega)) rfl hx (da_cons (de_mov (i := 2) rfl (by first | exact .inl rfl | exact .inr (.inl rfl) | exact .inr (.inr rfl))) (da_cons de_int (da_cons (de_con rfl gc_MOST_FAR) da_nil)))))) (dw_or (db_not (db_tru (de_callC c_is_within (hr.mono (by omega)) rfl hx (da_cons (de_mov (i := 3) rfl (by first | exact .inl rfl | exact .inr (.inl rfl) | exact .inr (.inr rfl))) (da_cons de_int (da_cons (de_con rfl gc_MOST_MODULUS) da_nil)))))) (dw_or1 (db_cmpR (opd_eq hr.units) (de_op opd_mod (de_var (i := 3) rfl (by first | exact .inl rfl | exact .inr (.inl rfl) | exact .inr (.inr rfl))) de_int) de_int (by first | exact nobehind _ (by decide) (by decide) | rfl)))))) (dss_one (ds_raise rfl htk fx.x_BadNumber fx.g_BadNumber fx.k_BadNumber fx.b_BadNumber fx.t_BadNumber rfl)) dss_nil) (dss_one (ds_ret (de_callC c_pair_rests_of (hr.mono (by omega)) rfl hx (da_cons (de_mov (i := 0) rfl (by first | exact .inl rfl | exact .inr (.inl rfl) | exact .inr (.inr rfl))) (da_cons (de_mov (i := 1) rfl (by first | exact .inl rfl | exact .inr (.inl rfl) | exact .inr (.inr rfl))) (da_cons (de_mov (i := 2) rfl (by first | exact .inl rfl | exact .inr (.inl rfl) | exact .inr (.inr rfl))) (da_cons (de_mov (i := 3) rfl (by first | exact .inl rfl | exact .inr (.inl rfl) | exact .inr (.inr rfl))) da_nil)))))))))
def N_pair_rests_of : List Str := ["p", "q", "place", "modulus", "half", "part", "first", "second", "power", "bit"]
theorem sc_pair_rests_of : FnScope N_pair_rests_of ["p", "q", "place", "modulus"] (defScope s_pair_rests_of) := ⟨rfl, rfl, rfl, by decide +kernel, rfl, by decide +kernel, by decide +kernel⟩
theorem nd_pair_rests_of : N_pair_rests_of.Nodup := sc_pair_rests_of.nd
def t_pair_rests_of (ad : Ad) (f_bits_of : FSp) : DSt := (xSeq (xPar [4, 5] (xConsA (xOp divR (xOp addR (xVar 3) (xC (.int 1))) (xC (.int 2))) (xConsA (xOp subR (xOp mulR (xVar 0) (xVar 0)) (xOp mulR (xC (.int 4)) (xVar 1))) xNilA))) (xSeq (xPar [6, 7, 8] (xConsA (xC (.int 0)) (xConsA (xOp modR (xC (.int 2)) (xVar 3)) (xConsA (xOp modR (xC (.int 1)) (xVar 3)) xNilA)))) (xSeq (xFor (xIt id (xCall f_bits_of (xConsA (xMov 2) xNilA))) (xName 9) (xSeq (xPar [6, 7] (xConsA (xOp modR (xOp mulR (xVar 6) (xVar 7)) (xVar 3)) (xConsA (xOp modR (xOp subR (xOp mulR (xVar 7) (xVar 7)) (xOp mulR (xC (.int 2)) (xVar 8))) (xVar 3)) xNilA))) (xSeq (xAsg (xOp modR (xOp mulR (xVar 8) (xVar 8)) (xVar 3)) (xName 8)) (xIf (xTru (xOp eqR (xVar 9) (xC (.int 1)))) (xSeq (xPar [6, 7] (xConsA (xOp modR (xOp mulR (xOp addR (xOp mulR (xVar 0) (xVar 6)) (xVar 7)) (xVar 4)) (xVar 3)) (xConsA (xOp modR (xOp mulR (xOp addR (xOp mulR (xVar 5) (xVar 6)) (xOp mulR (xVar 0) (xVar 7))) (xVar 4)) (xVar 3)) xNilA))) (xAsg (xOp modR (xOp mulR (xVar 8) (xVar 1)) (xVar 3)) (xName 8))) xNext)))) (xRet (xTup (xConsA (xMov 6) (xConsA (xMov 7) xNilA)))))))
theorem der_pair_rests_of {P : Program} {w : World} {K : PySem.W.Frag} {mg : Str → Option Value} {base : Heap} {ad : Ad} {G : Amb} {f : Addr} {k : Nat} (fx : Fx P w K mg ad) {k_bits_of : Nat} {f_bits_of : FSp} (c_bits_of : Cal P w K mg base G "bits_of" ad.bits_of k_bits_of f_bits_of) (l_bits_of : k_bits_of ≤ k) (cdv : Value) (A : Around) (outer : List PySem.Env) (s : Shared) (H : Hp) (E : XK) (hr : Room k (A.deeper (PyProof.Rows.envOfC "pair_rests_of" (defScope s_pair_rests_of) s.heap.objs.size f cdv))) :
    DSs (cxOf (L2.CX P w) P w K mg base N_pair_rests_of "pair_rests_of" (defScope s_pair_rests_of) f cdv A outer s H E) G E (defBody s_pair_rests_of) (t_pair_rests_of ad f_bits_of) := by
  have hu := hr.units
  have hu5 := units5 hr
  have htk : Takes (cxOf (L2.CX P w) P w K mg base N_pair_rests_of "pair_rests_of" (defScope s_pair_rests_of) f cdv A outer s H E) (fun cls d _ H => E cls d H) := takes_of rfl rfl rfl rfl
  have hx : Passes (L2.CX P w) (cxOf (L2.CX P w) P w K mg base N_pair_rests_of "pair_rests_of" (defScope s_pair_rests_of) f cdv A outer s H E) E := passes_call htk (fun _ _ _ _ h => h)
  have hp : PassesOwn (model P w) (cxOf (L2.CX P w) P w K mg base N_pair_rests_of "pair_rests_of" (defScope s_pair_rests_of) f cdv A outer s H E).A (cxOf (L2.CX P w) P w K mg base N_pair_rests_of "pair_rests_of" (defScope s_pair_rests_of) f cdv A outer s H E).env (cxOf (L2.CX P w) P w K mg base N_pair_rests_of "pair_rests_of" (defScope s_pair_rests_of) f cdv A outer s H E).xe := passes_of rfl
  exact (dss_cons (ds_par rfl nd_pair_rests_of rfl rfl (by decide) rfl rfl (da_cons (de_op opd_div (de_op opd_add (de_var (i := 3) rfl (by first | exact .inl rfl | exact .inr (.inl rfl) | exact .inr (.inr rfl))) de_int) de_int) (da_cons (de_op opd_sub (de_op opd_mul (de_var (i := 0) rfl (by first | exact .inl rfl | exact .inr (.inl rfl) | exact .inr (.inr rfl))) (de_var (i := 0) rfl (by first | exact .inl rfl | exact .inr (.inl rfl) | exact .inr (.inr rfl)))) (de_op opd_mul de_int (de_var (i := 1) rfl (by first | exact .inl rfl | exact .inr (.inl rfl) | exact .inr (.inr rfl))))) da_nil)) rfl) (dss_cons (ds_par3 rfl nd_pair_rests_of rfl rfl rfl (by decide) (by decide) (by decide) rfl rfl rfl (da_cons de_int (da_cons (de_op opd_mod de_int (de_var (i := 3) rfl (by first | exact .inl rfl | exact .inr (.inl rfl) | exact .inr (.inr rfl)))) (da_cons (de_op opd_mod de_int (de_var (i := 3) rfl (by first | exact .inl rfl | exact .inr (.inl rfl) | exact .inr (.inr rfl)))) da_nil))) rfl) (dss_cons (ds_for hp rfl (di_any (de_callC c_bits_of (hr.mono (by omega)) rfl hx (da_cons (de_mov (i := 2) rfl (by first | exact .inl rfl | exact .inr (.inl rfl) | exact .inr (.inr rfl))) da_nil))) (dg_name nd_pair_rests_of rfl (by first | exact .inl rfl | exact .inr rfl)) (dss_cons (ds_par rfl nd_pair_rests_of rfl rfl (by decide) rfl rfl (da_cons (de_op opd_mod (de_op opd_mul (de_var (i := 6) rfl (by first | exact .inl rfl | exact .inr (.inl rfl) | exact .inr (.inr rfl))) (de_var (i := 7) rfl (by first | exact .inl rfl | exact .inr (.inl rfl) | exact .inr (.inr rfl)))) (de_var (i := 3) rfl (by first | exact .inl rfl | exact .inr (.inl rfl) | exact .inr (.inr rfl)))) (da_cons (de_op opd_mod (de_op opd_sub (de_op opd_mul (de_var (i := 7) rfl (by first | exact .inl rfl | exact .inr (.inl rfl) | exact .inr (.inr rfl))) (de_var (i := 7) rfl (by first | exact .inl rfl | exact .inr (.inl rfl) | exact .inr (.inr rfl)))) (de_op opd_mul de_int (de_var (i := 8) rfl (by first | exact .inl rfl | exact .inr (.inl rfl) | exact .inr (.inr rfl))))) (de_var (i := 3) rfl (by first | exact .inl rfl | exact .inr (.inl rfl) | exact .inr (.inr rfl)))) da_nil)) rfl) (dss_cons (ds_set nd_pair_rests_of rfl (by first | exact .inl rfl | exact .inr rfl) (de_op opd_mod (de_op opd_mul (de_var (i := 8) rfl (by first | exact .inl rfl | exact .inr (.inl rfl) | exact .inr (.inr rfl))) (de_var (i := 8) rfl (by first | exact .inl rfl | exact .inr (.inl rfl) | exact .inr (.inr rfl)))) (de_var (i := 3) rfl (by first | exact .inl rfl | exact .inr (.inl rfl) | exact .inr (.inr rfl)))) rfl) (dss_one (ds_if (db_cmpR (opd_eq hr.units) (de_var (i := 9) rfl (by first | exact .inl rfl | exact .inr (.inl rfl) | exact .inr (.inr rfl))) de_int (by first | exact nobehind _ (by decide) (by decide) | rfl)) (dss_cons (ds_par rfl nd_pair_rests_of rfl rfl (by decide) rfl rfl (da_cons (de_op opd_mod (de_op opd_mul (de_op opd_add (de_op opd_mul (de_var (i := 0) rfl (by first | exact .inl rfl | exact .inr (.inl rfl) | exact .inr (.inr rfl))) (de_var (i := 6) rfl (by first | exact .inl rfl | exact .inr (.inl rfl) | exact .inr (.inr rfl)))) (de_var (i := 7) rfl (by first | exact .inl rfl | exact .inr (.inl rfl) | exact .inr (.inr rfl)))) (de_var (i := 4) rfl (by first | exact .inl rfl | exact .inr (.inl rfl) | exact .inr (.inr rfl)))) (de_var (i := 3) rfl (by first | exact .inl rfl | exact .inr (.inl rfl) | exact .inr (.inr rfl)))) (da_cons (de_op opd_mod (de_op opd_mul (de_op opd_add (de_op opd_mul (de_var (i := 5) rfl (by first | exact .inl rfl | exact .inr (.inl rfl) | exact .inr (.inr rfl))) (de_var (i := 6) rfl (by first | exact .inl rfl | exact .inr (.inl rfl) | exact .inr (.inr rfl)))) (de_op opd_mul (de_var (i := 0) rfl (by first | exact .inl rfl | exact .inr (.inl rfl) | exact .inr (.inr rfl))) (de_var (i := 7) rfl (by first | exact .inl rfl | exact .inr (.inl rfl) | exact .inr (.inr rfl))))) (de_var (i := 4) rfl (by first | exact .inl rfl | exact .inr (.inl rfl) | exact .inr (.inr rfl)))) (de_var (i := 3) rfl (by first | exact .inl rfl | exact .inr (.inl rfl) | exact .inr (.inr rfl)))) da_nil)) rfl) (dss_one (ds_set nd_pair_rests_of rfl (by first | exact .inl rfl | exact .inr rfl) (de_op opd_mod (de_op opd_mul (de_var (i := 8) rfl (by first | exact .inl rfl | exact .inr (.inl rfl) | exact .inr (.inr rfl))) (de_var (i := 1) rfl (by first | exact .inl rfl | exact .inr (.inl rfl) | exact .inr (.inr rfl)))) (de_var (i := 3) rfl (by first | exact .inl rfl | exact .inr (.inl rfl) | exact .inr (.inr rfl)))) rfl))) dss_nil)))) (by intro _; rfl)) (dss_one (ds_ret (de_tup (da_cons (de_mov (i := 6) rfl (by first | exact .inl rfl | exact .inr (.inl rfl) | exact .inr (.inr rfl))) (da_cons (de_mov (i := 7) rfl (by first | exact .inl rfl | exact .inr (.inl rfl) | exact .inr (.inr rfl))) da_nil))))))))
def N_sign_of : List Str := ["number", "modulus", "here", "below", "found"]
theorem sc_sign_of : FnScope N_sign_of ["number", "modulus"] (defScope s_sign_of) := ⟨rfl, rfl, rfl, by decide +kernel, rfl, by decide +kernel, by decide +kernel⟩
theorem nd_sign_of : N_sign_of.Nodup := sc_sign_of.nd
def t_sign_of (ad : Ad) (f_is_integer : FSp) (f_is_within : FSp) : DSt := (xSeq (xIf (xOr (xNot (xTru (xCall f_is_integer (xConsA (xMov 0) xNilA)))) (xTru (xOp gtR (xUn absR (xVar 0)) (xC (.int 1000000000000000000))))) (xRaise ⟨ad.BadNumber, none⟩) xNext) (xSeq (xIf (xOr (xNot (xTru (xCall f_is_within (xConsA (xMov 1) (xConsA (xC (.int 1)) (xConsA (xC (.int 1000000000000000000)) xNilA)))))) (xTru (xOp eqR (xOp modR (xVar 1) (xC (.int 2))) (xC (.int 0))))) (xRaise ⟨ad.BadNumber, none⟩) xNext) (xSeq (xPar [2, 3, 4] (xConsA (xOp modR (xVar 0) (xVar 1)) (xConsA (xMov 1) (xConsA (xC (.int 1)) xNilA)))) (xSeq (xWh (xTru (xOp gtR (xVar 2) (xC (.int 0)))) (xSeq (xWh (xTru (xOp eqR (xOp modR (xVar 2) (xC (.int 2))) (xC (.int 0)))) (xSeq (xAsg (xOp divR (xVar 2) (xC (.int 2))) (xName 2)) (xAsg (xIfE (xTru (xOp inR (xOp modR (xVar 3) (xC (.int 8))) (xTup (xConsA (xC (.int 3)) (xConsA (xC (.int 5)) xNilA))))) (xUn negR (xVar 4)) (xMov 4)) (xName 4)))) (xSeq (xPar [2, 3] (xConsA (xMov 3) (xConsA (xMov 2) xNilA))) (xSeq (xAsg (xIfE (xAnd (xTru (xOp eqR (xOp modR (xVar 2) (xC (.int 4))) (xC (.int 3)))) (xTru (xOp eqR (xOp modR (xVar 3) (xC (.int 4))) (xC (.int 3))))) (xUn negR (xVar 4)) (xMov 4)) (xName 4)) (xAsg (xOp modR (xVar 2) (xVar 3)) (xName 2)))))) (xRet (xIfE (xTru (xOp eqR (xVar 3) (xC (.int 1)))) (xMov 4) (xC (.int 0))))))))
theorem der_sign_of {P : Program} {w : World} {K : PySem.W.Frag} {mg : Str → Option Value} {base : Heap} {ad : Ad} {G : Amb} {f : Addr} {k : Nat} (fx : Fx P w K mg ad) {k_is_integer : Nat} {f_is_integer : FSp} (c_is_integer : Cal P w K mg base G "is_integer" ad.is_integer k_is_integer f_is_integer) (l_is_integer : k_is_integer ≤ k) {k_is_within : Nat} {f_is_within : FSp} (c_is_within : Cal P w K mg base G "is_within" ad.is_within k_is_within f_is_within) (l_is_within : k_is_within ≤ k) (cdv : Value) (A : Around) (outer : List PySem.Env) (s : Shared) (H : Hp) (E : XK) (hr : Room k (A.deeper (PyProof.Rows.envOfC "sign_of" (defScope s_sign_of) s.heap.objs.size f cdv))) :
    DSs (cxOf (L2.CX P w) P w K mg base N_sign_of "sign_of" (defScope s_sign_of) f cdv A outer s H E) G E (defBody s_sign_of) (t_sign_of ad f_is_integer f_is_within) := by
  have hu := hr.units
  have hu5 := units5 hr
  have htk : Takes (cxOf (L2.CX P w) P w K mg base N_sign_of "sign_of" (defScope s_sign_of) f cdv A outer s H E) (fun cls d _ H => E cls d H) := takes_of rfl rfl rfl rfl
  have hx : Passes (L2.CX P w) (cxOf (L2.CX P w) P w K mg base N_sign_of "sign_of" (defScope s_sign_of) f cdv A outer s H E) E := passes_call htk (fun _ _ _ _ h => h)
  have hp : PassesOwn (model P w) (cxOf (L2.CX P w) P w K mg base N_sign_of "sign_of" (defScope s_sign_of) f cdv A outer s H E).A (cxOf (L2.CX P w) P w K mg base N_sign_of "sign_of" (defScope s_sign_of) f cdv A outer s H E).env (cxOf (L2.CX P w) P w K mg base N_sign_of "sign_of" (defScope s_sign_of) f cdv A outer s H E).xe := passes_of rfl
  obtain ⟨tk_MOST_MODULUS, gc_MOST_MODULUS⟩ := fx.g_MOST_MODULUS
  exact (dss_cons (ds_if (DW.db (dw_or (db_not (db_tru (de_callC c_is_integer (hr.mono (by omega)) rfl hx (da_cons (de_mov (i := 0) rfl (by first | exact .inl rfl | exact .inr (.inl rfl) | exact .inr (.inr rfl))) da_nil)))) (dw_or1 (db_cmpR opd_gt (de_callB1 cd_abs rfl fx.g_abs rfl (de_var (i := 0) rfl (by first | exact .inl rfl | exact .inr (.inl rfl) | exact .inr (.inr rfl)))) (de_con rfl gc_MOST_MODULUS) (by first | exact nobehind _ (by decide) (by decide) | rfl))))) (dss_one (ds_raise rfl htk fx.x_BadNumber fx.g_BadNumber fx.k_BadNumber fx.b_BadNumber fx.t_BadNumber rfl)) dss_nil) (dss_cons (ds_if (DW.db (dw_or (db_not (db_tru (de_callC c_is_within (hr.mono (by omega)) rfl hx (da_cons (de_mov (i := 1) rfl (by first | exact .inl rfl | exact .inr (.inl rfl) | exact .inr (.inr rfl))) (da_cons de_int (da_cons (de_con rfl gc_MOST_MODULUS) da_nil)))))) (dw_or1 (db_cmpR (opd_eq hr.units) (de_op opd_mod (de_var (i := 1) rfl (by first | exact .inl rfl | exact .inr (.inl rfl) | exact .inr (.inr rfl))) de_int) de_int (by first | exact nobehind _ (by decide) (by decide) | rfl))))) (dss_one (ds_raise rfl htk fx.x_BadNumber fx.g_BadNumber fx.k_BadNumber fx.b_BadNumber fx.t_BadNumber rfl)) dss_nil) (dss_cons (ds_par3 rfl nd_sign_of rfl rfl rfl (by decide) (by decide) (by decide) rfl rfl rfl (da_cons (de_op opd_mod (de_var (i := 0) rfl (by first | exact .inl rfl | exact .inr (.inl rfl) | exact .inr (.inr rfl))) (de_var (i := 1) rfl (by first | exact .inl rfl | exact .inr (.inl rfl) | exact .inr (.inr rfl)))) (da_cons (de_mov (i := 1) rfl (by first | exact .inl rfl | exact .inr (.inl rfl) | exact .inr (.inr rfl))) (da_cons de_int da_nil))) rfl) (dss_cons (ds_while hp (db_cmpR opd_gt (de_var (i := 2) rfl (by first | exact .inl rfl | exact .inr (.inl rfl) | exact .inr (.inr rfl))) de_int (by first | exact nobehind _ (by decide) (by decide) | rfl)) (dss_cons (ds_while hp (db_cmpR (opd_eq hr.units) (de_op opd_mod (de_var (i := 2) rfl (by first | exact .inl rfl | exact .inr (.inl rfl) | exact .inr (.inr rfl))) de_int) de_int (by first | exact nobehind _ (by decide) (by decide) | rfl)) (dss_cons (ds_set nd_sign_of rfl (by first | exact .inl rfl | exact .inr rfl) (de_op opd_div (de_var (i := 2) rfl (by first | exact .inl rfl | exact .inr (.inl rfl) | exact .inr (.inr rfl))) de_int) rfl) (dss_one (ds_set nd_sign_of rfl (by first | exact .inl rfl | exact .inr rfl) (de_if (db_cmpR (opd_in (units5 hr)) (de_op opd_mod (de_var (i := 3) rfl (by first | exact .inl rfl | exact .inr (.inl rfl) | exact .inr (.inr rfl))) de_int) (de_tup (da_cons de_int (da_cons de_int da_nil))) (by first | exact nobehind _ (by decide) (by decide) | rfl)) (de_un und_neg (de_var (i := 4) rfl (by first | exact .inl rfl | exact .inr (.inl rfl) | exact .inr (.inr rfl)))) (de_mov (i := 4) rfl (by first | exact .inl rfl | exact .inr (.inl rfl) | exact .inr (.inr rfl)))) rfl)))) (dss_cons (ds_par rfl nd_sign_of rfl rfl (by decide) rfl rfl (da_cons (de_mov (i := 3) rfl (by first | exact .inl rfl | exact .inr (.inl rfl) | exact .inr (.inr rfl))) (da_cons (de_mov (i := 2) rfl (by first | exact .inl rfl | exact .inr (.inl rfl) | exact .inr (.inr rfl))) da_nil)) rfl) (dss_cons (ds_set nd_sign_of rfl (by first | exact .inl rfl | exact .inr rfl) (de_if (DW.db (dw_and (db_cmpR (opd_eq hr.units) (de_op opd_mod (de_var (i := 2) rfl (by first | exact .inl rfl | exact .inr (.inl rfl) | exact .inr (.inr rfl))) de_int) de_int (by first | exact nobehind _ (by decide) (by decide) | rfl)) (dw_and1 (db_cmpR (opd_eq hr.units) (de_op opd_mod (de_var (i := 3) rfl (by first | exact .inl rfl | exact .inr (.inl rfl) | exact .inr (.inr rfl))) de_int) de_int (by first | exact nobehind _ (by decide) (by decide) | rfl))))) (de_un und_neg (de_var (i := 4) rfl (by first | exact .inl rfl | exact .inr (.inl rfl) | exact .inr (.inr rfl)))) (de_mov (i := 4) rfl (by first | exact .inl rfl | exact .inr (.inl rfl) | exact .inr (.inr rfl)))) rfl) (dss_one (ds_set nd_sign_of rfl (by first | exact .inl rfl | exact .inr rfl) (de_op opd_mod (de_var (i := 2) rfl (by first | exact .inl rfl | exact .inr (.inl rfl) | exact .inr (.inr rfl))) (de_var (i := 3) rfl (by first | exact .inl rfl | exact .inr (.inl rfl) | exact .inr (.inr rfl)))) rfl)))))) (dss_one (ds_ret (de_if (db_cmpR (opd_eq hr.units) (de_var (i := 3) rfl (by first | exact .inl rfl | exact .inr (.inl rfl) | exact .inr (.inr rfl))) de_int (by first | exact nobehind _ (by decide) (by decide) | rfl)) (de_mov (i := 4) rfl (by first | exact .inl rfl | exact .inr (.inl rfl) | exact .inr (.inr rfl))) de_int)))))))
def N_is_term : List Str := ["number", "more", "told"]
theorem sc_is_term : FnScope N_is_term ["number"] (defScope s_is_term) := ⟨rfl, rfl, rfl, by decide +kernel, rfl, by decide +kernel, by decide +kernel⟩
theorem nd_is_term : N_is_term.Nodup := sc_is_term.nd
def t_is_term (ad : Ad) (f_is_integer : FSp) (f_root_of : FSp) : DSt := (xSeq (xIf (xOr (xNot (xTru (xCall f_is_integer (xConsA (xMov 0) xNilA)))) (xNot (xTru (xChain intC intC (intF fun i j => decide (i ≤ j)) (intF fun i j => decide (i ≤ j)) (xC (.int 0)) (xVar 0) (xOp powR (xC (.int 10)) (xC (.int 60))))))) (xRaise ⟨ad.BadNumber, none⟩) xNext) (xSeq (xFor (xIt id (xTup (xConsA (xC (.int 4)) (xConsA (xUn negR (xC (.int 4))) xNilA)))) (xName 1) (xSeq (xAsg (xOp addR (xOp mulR (xOp mulR (xC (.int 5)) (xVar 0)) (xVar 0)) (xVar 1)) (xName 2)) (xIf (xAnd (xTru (xOp geR (xVar 2) (xC (.int 0)))) (xTru (xOp eqR (xOp mulR (xCall f_root_of (xConsA (xMov 2) xNilA)) (xCall f_root_of (xConsA (xMov 2) xNilA))) (xVar 2)))) (xRet (xC (.bl true))) xNext))) (xRet (xC (.bl false)))))
theorem der_is_term {P : Program} {w : World} {K : PySem.W.Frag} {mg : Str → Option Value} {base : Heap} {ad : Ad} {G : Amb} {f : Addr} {k : Nat} (fx : Fx P w K mg ad) {k_is_integer : Nat} {f_is_integer : FSp} (c_is_integer : Cal P w K mg base G "is_integer" ad.is_integer k_is_integer f_is_integer) (l_is_integer : k_is_integer ≤ k) {k_root_of : Nat} {f_root_of : FSp} (c_root_of : Cal P w K mg base G "root_of" ad.root_of k_root_of f_root_of) (l_root_of : k_root_of ≤ k) (cdv : Value) (A : Around) (outer : List PySem.Env) (s : Shared) (H : Hp) (E : XK) (hr : Room k (A.deeper (PyProof.Rows.envOfC "is_term" (defScope s_is_term) s.heap.objs.size f cdv))) :
    DSs (cxOf (L2.CX P w) P w K mg base N_is_term "is_term" (defScope s_is_term) f cdv A outer s H E) G E (defBody s_is_term) (t_is_term ad f_is_integer f_root_of) := by
  have hu := hr.units
  have hu5 := units5 hr
  have htk : Takes (cxOf (L2.CX P w) P w K mg base N_is_term "is_term" (defScope s_is_term) f cdv A outer s H E) (fun cls d _ H => E cls d H) := takes_of rfl rfl rfl rfl
  have hx : Passes (L2.CX P w) (cxOf (L2.CX P w) P w K mg base N_is_term "is_term" (defScope s_is_term) f cdv A outer s H E) E := passes_call htk (fun _ _ _ _ h => h)
  have hp : PassesOwn (model P w) (cxOf (L2.CX P w) P w K mg base N_is_term "is_term" (defScope s_is_term) f cdv A outer s H E).A (cxOf (L2.CX P w) P w K mg base N_is_term "is_term" (defScope s_is_term) f cdv A outer s H E).env (cxOf (L2.CX P w) P w K mg base N_is_term "is_term" (defScope s_is_term) f cdv A outer s H E).xe := passes_of rfl
  exact (dss_cons (ds_if (DW.db (dw_or (db_not (db_tru (de_callC c_is_integer (hr.mono (by omega)) rfl hx (da_cons (de_mov (i := 0) rfl (by first | exact .inl rfl | exact .inr (.inl rfl) | exact .inr (.inr rfl))) da_nil)))) (dw_or1 (db_not (db_chain opd_le opd_le de_int (de_var (i := 0) rfl (by first | exact .inl rfl | exact .inr (.inl rfl) | exact .inr (.inr rfl))) (de_op opd_pow de_int de_int)))))) (dss_one (ds_raise rfl htk fx.x_BadNumber fx.g_BadNumber fx.k_BadNumber fx.b_BadNumber fx.t_BadNumber rfl)) dss_nil) (dss_cons (ds_for hp rfl (di_any (de_tup (da_cons de_int (da_cons (de_un und_neg de_int) da_nil)))) (dg_name nd_is_term rfl (by first | exact .inl rfl | exact .inr rfl)) (dss_cons (ds_set nd_is_term rfl (by first | exact .inl rfl | exact .inr rfl) (de_op opd_add (de_op opd_mul (de_op opd_mul de_int (de_var (i := 0) rfl (by first | exact .inl rfl | exact .inr (.inl rfl) | exact .inr (.inr rfl)))) (de_var (i := 0) rfl (by first | exact .inl rfl | exact .inr (.inl rfl) | exact .inr (.inr rfl)))) (de_var (i := 1) rfl (by first | exact .inl rfl | exact .inr (.inl rfl) | exact .inr (.inr rfl)))) rfl) (dss_one (ds_if (DW.db (dw_and (db_cmpR opd_ge (de_var (i := 2) rfl (by first | exact .inl rfl | exact .inr (.inl rfl) | exact .inr (.inr rfl))) de_int (by first | exact nobehind _ (by decide) (by decide) | rfl)) (dw_and1 (db_cmpR (opd_eq hr.units) (de_op opd_mul (de_callC c_root_of (hr.mono (by omega)) rfl hx (da_cons (de_mov (i := 2) rfl (by first | exact .inl rfl | exact .inr (.inl rfl) | exact .inr (.inr rfl))) da_nil)) (de_callC c_root_of (hr.mono (by omega)) rfl hx (da_cons (de_mov (i := 2) rfl (by first | exact .inl rfl | exact .inr (.inl rfl) | exact .inr (.inr rfl))) da_nil))) (de_var (i := 2) rfl (by first | exact .inl rfl | exact .inr (.inl rfl) | exact .inr (.inr rfl))) (by first | exact nobehind _ (by decide) (by decide) | rfl))))) (dss_one (ds_ret de_bl)) dss_nil))) (by intro _; rfl)) (dss_one (ds_ret de_bl))))
def N__law_hand : List Str := ["script", "cells", "cell"]
theorem sc__law_hand : FnScope N__law_hand ["script"] (defScope s__law_hand) := ⟨rfl, rfl, rfl, by decide +kernel, rfl, by decide +kernel, by decide +kernel⟩
theorem nd__law_hand : N__law_hand.Nodup := sc__law_hand.nd
def t__law_hand (ad : Ad) (a : Addr) (ns : List Int) : DSt := (xSeq (xAsg (xLc (xIt id (xScr 0 a ns 63)) (xName 2) xYes (xUn absR (xUn toIntR (xVar 2))) [2]) (xName 1)) (xRet (xLst (xConsA (xMov 1) (xConsA (xC (.int 0)) (xConsA (xC (.int 0)) (xConsA (xOp addR (xC (.int 701)) (xOp mulR (xC (.int 114)) (xUn lenR (xVar 1)))) (xConsA (xC (.int 0)) xNilA))))))))
theorem der__law_hand {P : Program} {w : World} {K : PySem.W.Frag} {mg : Str → Option Value} {base : Heap} {ad : Ad} {G : Amb} {f : Addr} {k : Nat} (fx : Fx P w K mg ad) {a : Addr} {ns : List Int} (hs : ∀ H, G.inv H → SqL K H a (ns.map V.int)) (cdv : Value) (A : Around) (outer : List PySem.Env) (s : Shared) (H : Hp) (E : XK) (hr : Room k (A.deeper (PyProof.Rows.envOfC "_law_hand" (defScope s__law_hand) s.heap.objs.size f cdv))) :
    DSs (cxOf (L2.CX P w) P w K mg base N__law_hand "_law_hand" (defScope s__law_hand) f cdv A outer s H E) G E (defBody s__law_hand) (t__law_hand ad a ns) := by
  have hu := hr.units
  have hu5 := units5 hr
  have htk : Takes (cxOf (L2.CX P w) P w K mg base N__law_hand "_law_hand" (defScope s__law_hand) f cdv A outer s H E) (fun cls d _ H => E cls d H) := takes_of rfl rfl rfl rfl
  have hx : Passes (L2.CX P w) (cxOf (L2.CX P w) P w K mg base N__law_hand "_law_hand" (defScope s__law_hand) f cdv A outer s H E) E := passes_call htk (fun _ _ _ _ h => h)
  have hp : PassesOwn (model P w) (cxOf (L2.CX P w) P w K mg base N__law_hand "_law_hand" (defScope s__law_hand) f cdv A outer s H E).A (cxOf (L2.CX P w) P w K mg base N__law_hand "_law_hand" (defScope s__law_hand) f cdv A outer s H E).env (cxOf (L2.CX P w) P w K mg base N__law_hand "_law_hand" (defScope s__law_hand) f cdv A outer s H E).xe := passes_of rfl
  exact (dss_cons (by first | exact ds_setLc (own := [("cell", 2)]) rfl nd__law_hand rfl rfl rfl (di_any (de_scr (i := 0) hs rfl (by first | exact .inl rfl | exact .inr (.inl rfl) | exact .inr (.inr rfl)))) (blk_by (by kernel_rfl)) (fun s H C cl fp => (dg_name nd__law_hand rfl (by first | exact .inl rfl | exact .inr rfl))) (by decide) (fun s H C cl fp => dts_nil) (fun s H C cl fp => (de_callB1 cd_abs rfl fx.g_abs rfl (de_callT1 cd_int rfl fx.g_int rfl (de_var (i := 2) rfl (by first | exact .inl rfl | exact .inr (.inl rfl) | exact .inr (.inr rfl)))))) | exact ds_set nd__law_hand rfl (by first | exact .inl rfl | exact .inr rfl) (de_lc (own := [("cell", 2)]) rfl nd__law_hand (di_any (de_scr (i := 0) hs rfl (by first | exact .inl rfl | exact .inr (.inl rfl) | exact .inr (.inr rfl)))) (blk_by (by kernel_rfl)) (fun s H C cl fp => (dg_name nd__law_hand rfl (by first | exact .inl rfl | exact .inr rfl))) (by decide) (fun s H C cl fp => dts_nil) (fun s H C cl fp => (de_callB1 cd_abs rfl fx.g_abs rfl (de_callT1 cd_int rfl fx.g_int rfl (de_var (i := 2) rfl (by first | exact .inl rfl | exact .inr (.inl rfl) | exact .inr (.inr rfl))))))) rfl) (dss_one (ds_ret (de_lst (da_cons (de_mov (i := 1) rfl (by first | exact .inl rfl | exact .inr (.inl rfl) | exact .inr (.inr rfl))) (da_cons de_int (da_cons de_int (da_cons (de_op opd_add de_int (de_op opd_mul de_int (de_callB1 cd_len rfl fx.g_len rfl (de_var (i := 1) rfl (by first | exact .inl rfl | exact .inr (.inl rfl) | exact .inr (.inr rfl)))))) (da_cons de_int da_nil)))))))))
def N__law_any : List Str := ["hand", "some"]
theorem sc__law_any : FnScope N__law_any ["hand", "some"] (defScope s__law_any) := ⟨rfl, rfl, rfl, by decide +kernel, rfl, by decide +kernel, by decide +kernel⟩
theorem nd__law_any : N__law_any.Nodup := sc__law_any.nd
def t__law_any (ad : Ad) (f__law_draw : FSp) : DSt := (xRet (xOp ixR (xVar 1) (xCall f__law_draw (xConsA (xMov 0) (xConsA (xUn lenR (xVar 1)) xNilA)))))
theorem der__law_any {P : Program} {w : World} {K : PySem.W.Frag} {mg : Str → Option Value} {base : Heap} {ad : Ad} {G : Amb} {f : Addr} {k : Nat} (fx : Fx P w K mg ad) {k__law_draw : Nat} {f__law_draw : FSp} (c__law_draw : Cal P w K mg base G "_law_draw" ad._law_draw k__law_draw f__law_draw) (l__law_draw : k__law_draw ≤ k) (cdv : Value) (A : Around) (outer : List PySem.Env) (s : Shared) (H : Hp) (E : XK) (hr : Room k (A.deeper (PyProof.Rows.envOfC "_law_any" (defScope s__law_any) s.heap.objs.size f cdv))) :
    DSs (cxOf (L2.CX P w) P w K mg base N__law_any "_law_any" (defScope s__law_any) f cdv A outer s H E) G E (defBody s__law_any) (t__law_any ad f__law_draw) := by
  have hu := hr.units
  have hu5 := units5 hr
  have htk : Takes (cxOf (L2.CX P w) P w K mg base N__law_any "_law_any" (defScope s__law_any) f cdv A outer s H E) (fun cls d _ H => E cls d H) := takes_of rfl rfl rfl rfl
  have hx : Passes (L2.CX P w) (cxOf (L2.CX P w) P w K mg base N__law_any "_law_any" (defScope s__law_any) f cdv A outer s H E) E := passes_call htk (fun _ _ _ _ h => h)
  have hp : PassesOwn (model P w) (cxOf (L2.CX P w) P w K mg base N__law_any "_law_any" (defScope s__law_any) f cdv A outer s H E).A (cxOf (L2.CX P w) P w K mg base N__law_any "_law_any" (defScope s__law_any) f cdv A outer s H E).env (cxOf (L2.CX P w) P w K mg base N__law_any "_law_any" (defScope s__law_any) f cdv A outer s H E).xe := passes_of rfl
  exact (dss_one (ds_ret (de_ix ixd_seq (de_var (i := 1) rfl (by first | exact .inl rfl | exact .inr (.inl rfl) | exact .inr (.inr rfl))) (de_callC c__law_draw (hr.mono (by omega)) rfl hx (da_cons (de_mov (i := 0) rfl (by first | exact .inl rfl | exact .inr (.inl rfl) | exact .inr (.inr rfl))) (da_cons (de_callB1 cd_len rfl fx.g_len rfl (de_var (i := 1) rfl (by first | exact .inl rfl | exact .inr (.inl rfl) | exact .inr (.inr rfl)))) da_nil))) (fun _ _ => rfl))))
def N__law_is : List Str := ["said_told", "due", "one", "other"]
theorem sc__law_is : FnScope N__law_is ["said_told", "due"] (defScope s__law_is) := ⟨rfl, rfl, rfl, by decide +kernel, rfl, by decide +kernel, by decide +kernel⟩
theorem nd__law_is : N__law_is.Nodup := sc__law_is.nd
def t__law_is (ad : Ad) (f__law_is : FSp) : DSt := (xSeq (xIf (xTru (xUn (isiR [.tup, .lst]) (xVar 1))) (xSeq (xIf (xTru (xOp neR (xUn (isiR [.tup]) (xVar 0)) (xUn (isiR [.tup]) (xVar 1)))) (xRet (xC (.bl false))) xNext) (xSeq (xIf (xTru (xOp neR (xUn (isiR [.lst]) (xVar 0)) (xUn (isiR [.lst]) (xVar 1)))) (xRet (xC (.bl false))) xNext) (xRet (xAndV (xOp eqR (xUn lenR (xVar 0)) (xUn lenR (xVar 1))) (xUn allR (xLc (xZip (xConsA (xMov 0) (xConsA (xMov 1) xNilA))) (xTupG [(xName 2), (xName 3)]) xYes (xCall f__law_is (xConsA (xMov 2) (xConsA (xMov 3) xNilA))) [2, 3])))))) xNext) (xSeq (xIf (xOr (xTru (xOp isR (xVar 1) (xC .non))) (xTru (xOp isR (xVar 0) (xC .non)))) (xRet (xAndV (xOp isR (xVar 1) (xC .non)) (xOp isR (xVar 0) (xC .non)))) xNext) (xSeq (xIf (xTru (xOp neR (xUn (isiR [.bl]) (xVar 0)) (xUn (isiR [.bl]) (xVar 1)))) (xRet (xC (.bl false))) xNext) (xSeq (xIf (xTru (xOp neR (xUn (isiR [.int]) (xVar 0)) (xUn (isiR [.int]) (xVar 1)))) (xRet (xC (.bl false))) xNext) (xRet (xAndV (xOp eqR (xUn (isiR [.str]) (xVar 0)) (xUn (isiR [.str]) (xVar 1))) (xOp eqR (xVar 0) (xVar 1))))))))
theorem der__law_is {P : Program} {w : World} {K : PySem.W.Frag} {mg : Str → Option Value} {base : Heap} {ad : Ad} {G : Amb} {f : Addr} {k : Nat} (fx : Fx P w K mg ad) {k__law_is : Nat} {f__law_is : FSp} (c__law_is : Cal P w K mg base G "_law_is" ad._law_is k__law_is f__law_is) (l__law_is : k__law_is ≤ k) (cdv : Value) (A : Around) (outer : List PySem.Env) (s : Shared) (H : Hp) (E : XK) (hr : Room k (A.deeper (PyProof.Rows.envOfC "_law_is" (defScope s__law_is) s.heap.objs.size f cdv))) :
    DSs (cxOf (L2.CX P w) P w K mg base N__law_is "_law_is" (defScope s__law_is) f cdv A outer s H E) G E (defBody s__law_is) (t__law_is ad f__law_is) := by
  have hu := hr.units
  have hu5 := units5 hr
  have htk : Takes (cxOf (L2.CX P w) P w K mg base N__law_is "_law_is" (defScope s__law_is) f cdv A outer s H E) (fun cls d _ H => E cls d H) := takes_of rfl rfl rfl rfl
  have hx : Passes (L2.CX P w) (cxOf (L2.CX P w) P w K mg base N__law_is "_law_is" (defScope s__law_is) f cdv A outer s H E) E := passes_call htk (fun _ _ _ _ h => h)
  have hp : PassesOwn (model P w) (cxOf (L2.CX P w) P w K mg base N__law_is "_law_is" (defScope s__law_is) f cdv A outer s H E).A (cxOf (L2.CX P w) P w K mg base N__law_is "_law_is" (defScope s__law_is) f cdv A outer s H E).env (cxOf (L2.CX P w) P w K mg base N__law_is "_law_is" (defScope s__law_is) f cdv A outer s H E).xe := passes_of rfl
  exact (dss_cons (ds_if (db_tru (de_isi2 .tup .lst (de_var (i := 1) rfl (by first | exact .inl rfl | exact .inr (.inl rfl) | exact .inr (.inr rfl))) rfl fx.g_isinstance rfl fx.g_tuple rfl rfl fx.g_list rfl)) (dss_cons (ds_if (db_cmpR (opd_ne hr.units) (de_isi .tup (de_var (i := 0) rfl (by first | exact .inl rfl | exact .inr (.inl rfl) | exact .inr (.inr rfl))) rfl fx.g_isinstance rfl fx.g_tuple rfl) (de_isi .tup (de_var (i := 1) rfl (by first | exact .inl rfl | exact .inr (.inl rfl) | exact .inr (.inr rfl))) rfl fx.g_isinstance rfl fx.g_tuple rfl) (by first | exact nobehind _ (by decide) (by decide) | rfl)) (dss_one (ds_ret de_bl)) dss_nil) (dss_cons (ds_if (db_cmpR (opd_ne hr.units) (de_isi .lst (de_var (i := 0) rfl (by first | exact .inl rfl | exact .inr (.inl rfl) | exact .inr (.inr rfl))) rfl fx.g_isinstance rfl fx.g_list rfl) (de_isi .lst (de_var (i := 1) rfl (by first | exact .inl rfl | exact .inr (.inl rfl) | exact .inr (.inr rfl))) rfl fx.g_isinstance rfl fx.g_list rfl) (by first | exact nobehind _ (by decide) (by decide) | rfl)) (dss_one (ds_ret de_bl)) dss_nil) (dss_one (ds_ret (de_and (de_cmp (opd_eq hr.units) (de_callB1 cd_len rfl fx.g_len rfl (de_var (i := 0) rfl (by first | exact .inl rfl | exact .inr (.inl rfl) | exact .inr (.inr rfl)))) (de_callB1 cd_len rfl fx.g_len rfl (de_var (i := 1) rfl (by first | exact .inl rfl | exact .inr (.inl rfl) | exact .inr (.inr rfl)))) (by first | exact nobehind _ (by decide) (by decide) | rfl)) (de_one (de_callB1 (cd_all rfl) rfl fx.g_all rfl (de_lc (own := [("one", 2), ("other", 3)]) rfl nd__law_is (di_zip rfl fx.g_zip (da_cons (de_mov (i := 0) rfl (by first | exact .inl rfl | exact .inr (.inl rfl) | exact .inr (.inr rfl))) (da_cons (de_mov (i := 1) rfl (by first | exact .inl rfl | exact .inr (.inl rfl) | exact .inr (.inr rfl))) da_nil))) (blk_by (by kernel_rfl)) (fun s H C cl fp => (dg_tup rfl (dgs_cons (dg_name nd__law_is rfl (by first | exact .inl rfl | exact .inr rfl)) (dgs_cons (dg_name nd__law_is rfl (by first | exact .inl rfl | exact .inr rfl)) dgs_nil)))) (by decide) (fun s H C cl fp => dts_nil) (fun s H C cl fp => (de_callC c__law_is (hr.mono (by omega)) rfl passes0 (da_cons (de_mov (i := 2) rfl (by first | exact .inl rfl | exact .inr (.inl rfl) | exact .inr (.inr rfl))) (da_cons (de_mov (i := 3) rfl (by first | exact .inl rfl | exact .inr (.inl rfl) | exact .inr (.inr rfl))) da_nil)))))))))))) dss_nil) (dss_cons (ds_if (DW.db (dw_or (db_cmpR opd_is (de_var (i := 1) rfl (by first | exact .inl rfl | exact .inr (.inl rfl) | exact .inr (.inr rfl))) de_non (by first | exact nobehind _ (by decide) (by decide) | rfl)) (dw_or1 (db_cmpR opd_is (de_var (i := 0) rfl (by first | exact .inl rfl | exact .inr (.inl rfl) | exact .inr (.inr rfl))) de_non (by first | exact nobehind _ (by decide) (by decide) | rfl))))) (dss_one (ds_ret (de_and (de_cmp opd_is (de_var (i := 1) rfl (by first | exact .inl rfl | exact .inr (.inl rfl) | exact .inr (.inr rfl))) de_non (by first | exact nobehind _ (by decide) (by decide) | rfl)) (de_one (de_cmp opd_is (de_var (i := 0) rfl (by first | exact .inl rfl | exact .inr (.inl rfl) | exact .inr (.inr rfl))) de_non (by first | exact nobehind _ (by decide) (by decide) | rfl)))))) dss_nil) (dss_cons (ds_if (db_cmpR (opd_ne hr.units) (de_isi .bl (de_var (i := 0) rfl (by first | exact .inl rfl | exact .inr (.inl rfl) | exact .inr (.inr rfl))) rfl fx.g_isinstance rfl fx.g_bool rfl) (de_isi .bl (de_var (i := 1) rfl (by first | exact .inl rfl | exact .inr (.inl rfl) | exact .inr (.inr rfl))) rfl fx.g_isinstance rfl fx.g_bool rfl) (by first | exact nobehind _ (by decide) (by decide) | rfl)) (dss_one (ds_ret de_bl)) dss_nil) (dss_cons (ds_if (db_cmpR (opd_ne hr.units) (de_isi .int (de_var (i := 0) rfl (by first | exact .inl rfl | exact .inr (.inl rfl) | exact .inr (.inr rfl))) rfl fx.g_isinstance rfl fx.g_int rfl) (de_isi .int (de_var (i := 1) rfl (by first | exact .inl rfl | exact .inr (.inl rfl) | exact .inr (.inr rfl))) rfl fx.g_isinstance rfl fx.g_int rfl) (by first | exact nobehind _ (by decide) (by decide) | rfl)) (dss_one (ds_ret de_bl)) dss_nil) (dss_one (ds_ret (de_and (de_cmp (opd_eq hr.units) (de_isi .str (de_var (i := 0) rfl (by first | exact .inl rfl | exact .inr (.inl rfl) | exact .inr (.inr rfl))) rfl fx.g_isinstance rfl fx.g_str rfl) (de_isi .str (de_var (i := 1) rfl (by first | exact .inl rfl | exact .inr (.inl rfl) | exact .inr (.inr rfl))) rfl fx.g_isinstance rfl fx.g_str rfl) (by first | exact nobehind _ (by decide) (by decide) | rfl)) (de_one (de_cmp (opd_eq hr.units) (de_var (i := 0) rfl (by first | exact .inl rfl | exact .inr (.inl rfl) | exact .inr (.inr rfl))) (de_var (i := 1) rfl (by first | exact .inl rfl | exact .inr (.inl rfl) | exact .inr (.inr rfl))) (by first | exact nobehind _ (by decide) (by decide) | rfl))))))))))
def N__law_word : List Str := ["call", "found", "error", "flags"]
theorem sc__law_word : FnScope N__law_word ["call"] (defScope s__law_word) := ⟨rfl, rfl, rfl, by decide +kernel, rfl, by decide +kernel, by decide +kernel⟩
theorem nd__law_word : N__law_word.Nodup := sc__law_word.nd
def R__law_word (ad : Ad) (C : Addr) : Option D := if C = ad.BadNumber then some (.str "number") else none
def l__law_word : D := .str "told"
def th__law_word (ad : Ad) (e C : Addr) : DSt := (xSeq (xAsg (xLst (xConsA (xIsE 2 e (decide (C = ad.BadNumber))) xNilA)) (xName 3)) (xSeq (xAsg (xC (.str "other")) (xName 1)) (xIf (xAnd (xTru (xOp eqIR (xMt 3 cntR (xConsA (xC (.bl true)) xNilA)) (xC (.int 1)))) (xTru (xIsE 2 e true))) (xAsg (xOp ixR (xLst (xConsA (xC (.str "number")) xNilA)) (xMt 3 idxR (xConsA (xC (.bl true)) xNilA))) (xName 1)) xNext)))
def tp__law_word : DSt := (xRet (xMov 1))
theorem gives__law_word {X : Cx} {G : Amb} {ad : Ad} {g : Addr} {cdg : Value} (fx : Fx X.prog X.w X.K X.mg ad) (q : Str) : LamX.GivesTo X N__law_word "_law_word" (defScope s__law_word) g cdg (defBody s__law_word) "call" q (TTh G X.K (R__law_word ad) l__law_word) := by
  have hR : ∀ C w, R__law_word ad C = some w → (C = ad.BadNumber ∧ w = .str "number") := fun C w h => by
    unfold R__law_word at h
    split at h
    · rename_i e; cases h; exact ⟨e, rfl⟩
    cases h
  intro f c' s H Q tl act hc ht
  refine Exists.elim (hear_core (i := 2) (δ := .val (.ref f) :: .val (.str "told") :: List.replicate 2 .un) (τs := fun e C => th__law_word ad e C) (τp := tp__law_word) (R := R__law_word ad) (l := l__law_word) (CS := ad.TermError) act nd__law_word rfl rfl rfl fx.g_TermError (by decide) ?exm ?su ?post ?rexc ?rok) fun t h => ⟨_, pss_cons (ps_set (i := 1) nd__law_word rfl (.inl rfl) pe_str) h.1, h.2 _ _ rfl ?fl hc ht⟩
  case fl =>
    exact ⟨rfl, fun i s hs => by
      match i, hs with
      | 0, hs => cases hs; exact .inr ⟨_, _, rfl, rfl, fun _ _ => rfl⟩
      | 1, hs => cases hs; exact .inr ⟨_, _, rfl, rfl, fun _ _ => rfl⟩
      | i + 2, hs =>
        left
        rw [List.getElem?_cons_succ, List.getElem?_cons_succ, List.getElem?_replicate] at hs
        split at hs
        · exact (Option.some.inj hs).symm
        · cases hs⟩
  case exm =>
    intro C w hw
    obtain ⟨rfl, rfl⟩ := hR C w hw
    exact fx.m_BadNumber
  case su =>
    intro e oe pn C w hw hz hf
    have hE : ExcC X.K C := by
      obtain ⟨rfl, rfl⟩ := hR C w hw
      exact fx.e_BadNumber
    have k_BadNumber : PySem.W.kitOne X.K (.ref C) (.ref ad.BadNumber) = some (decide (C = ad.BadNumber)) := by
      obtain ⟨rfl, rfl⟩ := hR C w hw
      rw [fx.q_BadNumber_BadNumber, decide_eq_true rfl]
    have k_ValueError : PySem.W.kitOne X.K (.ref C) (.type "ValueError") = some true := by
      obtain ⟨rfl, rfl⟩ := hR C w hw
      exact fx.q_BadNumber_ValueError
    exact (dss_cons (ds_set nd__law_word rfl (by first | exact .inl rfl | exact .inr rfl) (de_lst (da_cons (de_isE (i := 2) hE hz hf rfl fx.g_isinstance rfl (by first | exact .inl rfl | exact .inr (.inl rfl) | exact .inr (.inr rfl)) (pe_glob (v := .ref ad.BadNumber) rfl fx.g_BadNumber rfl) (fun _ h => h) k_BadNumber) da_nil)) rfl) (dss_cons (ds_set nd__law_word rfl (by first | exact .inl rfl | exact .inr rfl) de_str rfl) (dss_one (ds_if (DW.db (dw_and (db_cmpR opd_eqI (de_mt (i := 3) PySem.F.slot_list_count PySem.F.type_list_count md_count rfl (by first | exact .inl rfl | exact .inr (.inl rfl) | exact .inr (.inr rfl)) (da_cons de_bl da_nil)) de_int (by first | exact nobehind _ (by decide) (by decide) | rfl)) (dw_and1 (db_tru (de_isE (i := 2) hE hz hf rfl fx.g_isinstance rfl (by first | exact .inl rfl | exact .inr (.inl rfl) | exact .inr (.inr rfl)) (pe_bltn (v := .ty "ValueError") rfl fx.g_ValueError rfl rfl) (fun _ h => h) k_ValueError))))) (dss_one (ds_set nd__law_word rfl (by first | exact .inl rfl | exact .inr rfl) (de_ix ixd_seq (de_lst (da_cons de_str da_nil)) (de_mt (i := 3) PySem.F.slot_list_index PySem.F.type_list_index md_index rfl (by first | exact .inl rfl | exact .inr (.inl rfl) | exact .inr (.inr rfl)) (da_cons de_bl da_nil)) (fun _ _ => rfl)) rfl)) dss_nil))))
  case post => exact (dss_one (ds_ret (de_mov (i := 1) rfl (by first | exact .inl rfl | exact .inr (.inl rfl) | exact .inr (.inr rfl)))))
  case rexc =>
    intro C w e hw
    obtain ⟨rfl, rfl⟩ := hR C w hw
    simp [th__law_word, tp__law_word, N__law_word, endW, loopE, xSeq, xIf, xAsg, xName, xRet, xRetN, xDrop, xNext, xRaise, xPar, putOps, nbO, xTru, truK, xNot, xAnd, xOr, xAndV, xOrV, xNotV, xIfE, xVar, xMov, xC, xOp, xUn, xMt, xLst, xTup, xConsA, xNilA, rdK, rd, kpK, kp, kpLK, kpL, ownK, xIsE, cmpR, cntR, idxR, appR, eqIR, intC, intF, ixR, atD, atI, ixN, flatD, eqD, wipeE, xChain, List.findIdx_cons]
  case rok => simp [tp__law_word, l__law_word, endW, loopE, xSeq, xIf, xAsg, xName, xRet, xRetN, xDrop, xNext, xRaise, xPar, putOps, nbO, xTru, truK, xNot, xAnd, xOr, xAndV, xOrV, xNotV, xIfE, xVar, xMov, xC, xOp, xUn, xMt, xLst, xTup, xConsA, xNilA, rdK, rd, kpK, kp, kpLK, kpL, ownK, xIsE, cmpR, cntR, idxR, appR, eqIR, intC, intF, ixR, atD, atI, ixN, flatD, eqD, wipeE, xChain, List.findIdx_cons]
def N__law_pair : List Str := ["p", "q", "place", "first", "second", "turn", "later"]
theorem sc__law_pair : FnScope N__law_pair ["p", "q", "place"] (defScope s__law_pair) := ⟨rfl, rfl, rfl, by decide +kernel, rfl, by decide +kernel, by decide +kernel⟩
theorem nd__law_pair : N__law_pair.Nodup := sc__law_pair.nd
def t__law_pair (ad : Ad) : DSt := (xSeq (xPar [3, 4] (xConsA (xTup (xConsA (xC (.int 0)) (xConsA (xC (.int 2)) xNilA))) (xConsA (xTup (xConsA (xC (.int 1)) (xConsA (xMov 0) xNilA))) xNilA))) (xSeq (xFor (xRg1 (xVar 2)) (xName 5) (xSeq (xAsg (xTup (xConsA (xOp subR (xOp mulR (xVar 0) (xOp ixR (xVar 4) (xC (.int 0)))) (xOp mulR (xVar 1) (xOp ixR (xVar 3) (xC (.int 0))))) (xConsA (xOp subR (xOp mulR (xVar 0) (xOp ixR (xVar 4) (xC (.int 1)))) (xOp mulR (xVar 1) (xOp ixR (xVar 3) (xC (.int 1))))) xNilA))) (xName 6)) (xPar [3, 4] (xConsA (xMov 4) (xConsA (xMov 6) xNilA))))) (xRet (xMov 3))))
theorem der__law_pair {P : Program} {w : World} {K : PySem.W.Frag} {mg : Str → Option Value} {base : Heap} {ad : Ad} {G : Amb} {f : Addr} {k : Nat} (fx : Fx P w K mg ad) (cdv : Value) (A : Around) (outer : List PySem.Env) (s : Shared) (H : Hp) (E : XK) (hr : Room k (A.deeper (PyProof.Rows.envOfC "_law_pair" (defScope s__law_pair) s.heap.objs.size f cdv))) :
    DSs (cxOf (L2.CX P w) P w K mg base N__law_pair "_law_pair" (defScope s__law_pair) f cdv A outer s H E) G E (defBody s__law_pair) (t__law_pair ad) := by
  have hu := hr.units
  have hu5 := units5 hr
  have htk : Takes (cxOf (L2.CX P w) P w K mg base N__law_pair "_law_pair" (defScope s__law_pair) f cdv A outer s H E) (fun cls d _ H => E cls d H) := takes_of rfl rfl rfl rfl
  have hx : Passes (L2.CX P w) (cxOf (L2.CX P w) P w K mg base N__law_pair "_law_pair" (defScope s__law_pair) f cdv A outer s H E) E := passes_call htk (fun _ _ _ _ h => h)
  have hp : PassesOwn (model P w) (cxOf (L2.CX P w) P w K mg base N__law_pair "_law_pair" (defScope s__law_pair) f cdv A outer s H E).A (cxOf (L2.CX P w) P w K mg base N__law_pair "_law_pair" (defScope s__law_pair) f cdv A outer s H E).env (cxOf (L2.CX P w) P w K mg base N__law_pair "_law_pair" (defScope s__law_pair) f cdv A outer s H E).xe := passes_of rfl
  exact (dss_cons (ds_par rfl nd__law_pair rfl rfl (by decide) rfl rfl (da_cons (de_tup (da_cons de_int (da_cons de_int da_nil))) (da_cons (de_tup (da_cons de_int (da_cons (de_mov (i := 0) rfl (by first | exact .inl rfl | exact .inr (.inl rfl) | exact .inr (.inr rfl))) da_nil))) da_nil)) rfl) (dss_cons (ds_for hp rfl (di_range1 rfl fx.g_range (de_var (i := 2) rfl (by first | exact .inl rfl | exact .inr (.inl rfl) | exact .inr (.inr rfl)))) (dg_name nd__law_pair rfl (by first | exact .inl rfl | exact .inr rfl)) (dss_cons (ds_set nd__law_pair rfl (by first | exact .inl rfl | exact .inr rfl) (de_tup (da_cons (de_op opd_sub (de_op opd_mul (de_var (i := 0) rfl (by first | exact .inl rfl | exact .inr (.inl rfl) | exact .inr (.inr rfl))) (de_ix ixd_seq (de_var (i := 4) rfl (by first | exact .inl rfl | exact .inr (.inl rfl) | exact .inr (.inr rfl))) de_int (fun _ _ => rfl))) (de_op opd_mul (de_var (i := 1) rfl (by first | exact .inl rfl | exact .inr (.inl rfl) | exact .inr (.inr rfl))) (de_ix ixd_seq (de_var (i := 3) rfl (by first | exact .inl rfl | exact .inr (.inl rfl) | exact .inr (.inr rfl))) de_int (fun _ _ => rfl)))) (da_cons (de_op opd_sub (de_op opd_mul (de_var (i := 0) rfl (by first | exact .inl rfl | exact .inr (.inl rfl) | exact .inr (.inr rfl))) (de_ix ixd_seq (de_var (i := 4) rfl (by first | exact .inl rfl | exact .inr (.inl rfl) | exact .inr (.inr rfl))) de_int (fun _ _ => rfl))) (de_op opd_mul (de_var (i := 1) rfl (by first | exact .inl rfl | exact .inr (.inl rfl) | exact .inr (.inr rfl))) (de_ix ixd_seq (de_var (i := 3) rfl (by first | exact .inl rfl | exact .inr (.inl rfl) | exact .inr (.inr rfl))) de_int (fun _ _ => rfl)))) da_nil))) rfl) (dss_one (ds_par rfl nd__law_pair rfl rfl (by decide) rfl rfl (da_cons (de_mov (i := 4) rfl (by first | exact .inl rfl | exact .inr (.inl rfl) | exact .inr (.inr rfl))) (da_cons (de_mov (i := 6) rfl (by first | exact .inl rfl | exact .inr (.inl rfl) | exact .inr (.inr rfl))) da_nil)) rfl))) (by intro _; rfl)) (dss_one (ds_ret (de_mov (i := 3) rfl (by first | exact .inl rfl | exact .inr (.inl rfl) | exact .inr (.inr rfl)))))))
def N__law_primes : List Str := ["number", "found", "left", "one"]
theorem sc__law_primes : FnScope N__law_primes ["number"] (defScope s__law_primes) := ⟨rfl, rfl, rfl, by decide +kernel, rfl, by decide +kernel, by decide +kernel⟩
theorem nd__law_primes : N__law_primes.Nodup := sc__law_primes.nd
def t__law_primes (ad : Ad) : DSt := (xSeq (xPar [1, 2, 3] (xConsA (xLst xNilA) (xConsA (xMov 0) (xConsA (xC (.int 2)) xNilA)))) (xSeq (xWh (xTru (xOp leR (xOp mulR (xVar 3) (xVar 3)) (xVar 2))) (xIf (xTru (xOp eqR (xOp modR (xUn toIntR (xVar 2)) (xVar 3)) (xC (.int 0)))) (xSeq (xDrop (xMt 1 appR (xConsA (xMov 3) xNilA))) (xAsg (xOp divR (xVar 2) (xVar 3)) (xName 2))) (xAsg (xOp addR (xVar 3) (xC (.int 1))) (xName 3)))) (xRet (xOp addR (xVar 1) (xIfE (xTru (xOp gtR (xVar 2) (xC (.int 1)))) (xLst (xConsA (xMov 2) xNilA)) (xLst xNilA))))))
theorem der__law_primes {P : Program} {w : World} {K : PySem.W.Frag} {mg : Str → Option Value} {base : Heap} {ad : Ad} {G : Amb} {f : Addr} {k : Nat} (fx : Fx P w K mg ad) (cdv : Value) (A : Around) (outer : List PySem.Env) (s : Shared) (H : Hp) (E : XK) (hr : Room k (A.deeper (PyProof.Rows.envOfC "_law_primes" (defScope s__law_primes) s.heap.objs.size f cdv))) :
    DSs (cxOf (L2.CX P w) P w K mg base N__law_primes "_law_primes" (defScope s__law_primes) f cdv A outer s H E) G E (defBody s__law_primes) (t__law_primes ad) := by
  have hu := hr.units
  have hu5 := units5 hr
  have htk : Takes (cxOf (L2.CX P w) P w K mg base N__law_primes "_law_primes" (defScope s__law_primes) f cdv A outer s H E) (fun cls d _ H => E cls d H) := takes_of rfl rfl rfl rfl
  have hx : Passes (L2.CX P w) (cxOf (L2.CX P w) P w K mg base N__law_primes "_law_primes" (defScope s__law_primes) f cdv A outer s H E) E := passes_call htk (fun _ _ _ _ h => h)
  have hp : PassesOwn (model P w) (cxOf (L2.CX P w) P w K mg base N__law_primes "_law_primes" (defScope s__law_primes) f cdv A outer s H E).A (cxOf (L2.CX P w) P w K mg base N__law_primes "_law_primes" (defScope s__law_primes) f cdv A outer s H E).env (cxOf (L2.CX P w) P w K mg base N__law_primes "_law_primes" (defScope s__law_primes) f cdv A outer s H E).xe := passes_of rfl
  exact (dss_cons (ds_par3 rfl nd__law_primes rfl rfl rfl (by decide) (by decide) (by decide) rfl rfl rfl (da_cons (de_lst da_nil) (da_cons (de_mov (i := 0) rfl (by first | exact .inl rfl | exact .inr (.inl rfl) | exact .inr (.inr rfl))) (da_cons de_int da_nil))) rfl) (dss_cons (ds_while hp (db_cmpR opd_le (de_op opd_mul (de_var (i := 3) rfl (by first | exact .inl rfl | exact .inr (.inl rfl) | exact .inr (.inr rfl))) (de_var (i := 3) rfl (by first | exact .inl rfl | exact .inr (.inl rfl) | exact .inr (.inr rfl)))) (de_var (i := 2) rfl (by first | exact .inl rfl | exact .inr (.inl rfl) | exact .inr (.inr rfl))) (by first | exact nobehind _ (by decide) (by decide) | rfl)) (dss_one (ds_if (db_cmpR (opd_eq hr.units) (de_op opd_mod (de_callT1 cd_int rfl fx.g_int rfl (de_var (i := 2) rfl (by first | exact .inl rfl | exact .inr (.inl rfl) | exact .inr (.inr rfl)))) (de_var (i := 3) rfl (by first | exact .inl rfl | exact .inr (.inl rfl) | exact .inr (.inr rfl)))) de_int (by first | exact nobehind _ (by decide) (by decide) | rfl)) (dss_cons (ds_expr (de_mt (i := 1) PySem.F.slot_list_append PySem.F.type_list_append md_append rfl (by first | exact .inl rfl | exact .inr (.inl rfl) | exact .inr (.inr rfl)) (da_cons (de_mov (i := 3) rfl (by first | exact .inl rfl | exact .inr (.inl rfl) | exact .inr (.inr rfl))) da_nil))) (dss_one (ds_set nd__law_primes rfl (by first | exact .inl rfl | exact .inr rfl) (de_op opd_div (de_var (i := 2) rfl (by first | exact .inl rfl | exact .inr (.inl rfl) | exact .inr (.inr rfl))) (de_var (i := 3) rfl (by first | exact .inl rfl | exact .inr (.inl rfl) | exact .inr (.inr rfl)))) rfl))) (dss_one (ds_set nd__law_primes rfl (by first | exact .inl rfl | exact .inr rfl) (de_op opd_add (de_var (i := 3) rfl (by first | exact .inl rfl | exact .inr (.inl rfl) | exact .inr (.inr rfl))) de_int) rfl))))) (dss_one (ds_ret (de_op opd_add (de_var (i := 1) rfl (by first | exact .inl rfl | exact .inr (.inl rfl) | exact .inr (.inr rfl))) (de_if (db_cmpR opd_gt (de_var (i := 2) rfl (by first | exact .inl rfl | exact .inr (.inl rfl) | exact .inr (.inr rfl))) de_int (by first | exact nobehind _ (by decide) (by decide) | rfl)) (de_lst (da_cons (de_mov (i := 2) rfl (by first | exact .inl rfl | exact .inr (.inl rfl) | exact .inr (.inr rfl))) da_nil)) (de_lst da_nil)))))))
def N__law_sign : List Str := ["number", "modulus", "found", "prime", "rest", "squares", "one"]
theorem sc__law_sign : FnScope N__law_sign ["number", "modulus"] (defScope s__law_sign) := ⟨rfl, rfl, rfl, by decide +kernel, rfl, by decide +kernel, by decide +kernel⟩
theorem nd__law_sign : N__law_sign.Nodup := sc__law_sign.nd
def t__law_sign (ad : Ad) (f__law_primes : FSp) : DSt := (xSeq (xAsg (xC (.int 1)) (xName 2)) (xSeq (xFor (xIt id (xCall f__law_primes (xConsA (xMov 1) xNilA))) (xName 3) (xSeq (xAsg (xOp modR (xUn toIntR (xVar 0)) (xVar 3)) (xName 4)) (xSeq (xAsg (xLc (xRg2 (xC (.int 1)) (xVar 3)) (xName 6) xYes (xOp modR (xUn toIntR (xOp mulR (xVar 6) (xVar 6))) (xVar 3)) [6]) (xName 5)) (xAsg (xOp mulR (xVar 2) (xIfE (xTru (xOp eqR (xVar 4) (xC (.int 0)))) (xC (.int 0)) (xIfE (xTru (xOp inR (xVar 4) (xVar 5))) (xC (.int 1)) (xUn negR (xC (.int 1)))))) (xName 2))))) (xRet (xMov 2))))
theorem der__law_sign {P : Program} {w : World} {K : PySem.W.Frag} {mg : Str → Option Value} {base : Heap} {ad : Ad} {G : Amb} {f : Addr} {k : Nat} (fx : Fx P w K mg ad) {k__law_primes : Nat} {f__law_primes : FSp} (c__law_primes : Cal P w K mg base G "_law_primes" ad._law_primes k__law_primes f__law_primes) (l__law_primes : k__law_primes ≤ k) (cdv : Value) (A : Around) (outer : List PySem.Env) (s : Shared) (H : Hp) (E : XK) (hr : Room k (A.deeper (PyProof.Rows.envOfC "_law_sign" (defScope s__law_sign) s.heap.objs.size f cdv))) :
    DSs (cxOf (L2.CX P w) P w K mg base N__law_sign "_law_sign" (defScope s__law_sign) f cdv A outer s H E) G E (defBody s__law_sign) (t__law_sign ad f__law_primes) := by
  have hu := hr.units
  have hu5 := units5 hr
  have htk : Takes (cxOf (L2.CX P w) P w K mg base N__law_sign "_law_sign" (defScope s__law_sign) f cdv A outer s H E) (fun cls d _ H => E cls d H) := takes_of rfl rfl rfl rfl
  have hx : Passes (L2.CX P w) (cxOf (L2.CX P w) P w K mg base N__law_sign "_law_sign" (defScope s__law_sign) f cdv A outer s H E) E := passes_call htk (fun _ _ _ _ h => h)
  have hp : PassesOwn (model P w) (cxOf (L2.CX P w) P w K mg base N__law_sign "_law_sign" (defScope s__law_sign) f cdv A outer s H E).A (cxOf (L2.CX P w) P w K mg base N__law_sign "_law_sign" (defScope s__law_sign) f cdv A outer s H E).env (cxOf (L2.CX P w) P w K mg base N__law_sign "_law_sign" (defScope s__law_sign) f cdv A outer s H E).xe := passes_of rfl
  exact (dss_cons (ds_set nd__law_sign rfl (by first | exact .inl rfl | exact .inr rfl) de_int rfl) (dss_cons (ds_for hp rfl (di_any (de_callC c__law_primes (hr.mono (by omega)) rfl hx (da_cons (de_mov (i := 1) rfl (by first | exact .inl rfl | exact .inr (.inl rfl) | exact .inr (.inr rfl))) da_nil))) (dg_name nd__law_sign rfl (by first | exact .inl rfl | exact .inr rfl)) (dss_cons (ds_set nd__law_sign rfl (by first | exact .inl rfl | exact .inr rfl) (de_op opd_mod (de_callT1 cd_int rfl fx.g_int rfl (de_var (i := 0) rfl (by first | exact .inl rfl | exact .inr (.inl rfl) | exact .inr (.inr rfl)))) (de_var (i := 3) rfl (by first | exact .inl rfl | exact .inr (.inl rfl) | exact .inr (.inr rfl)))) rfl) (dss_cons (by first | exact ds_setLc (own := [("one", 6)]) rfl nd__law_sign rfl rfl rfl (di_range2 rfl fx.g_range de_int (de_var (i := 3) rfl (by first | exact .inl rfl | exact .inr (.inl rfl) | exact .inr (.inr rfl)))) (blk_by (by kernel_rfl)) (fun s H C cl fp => (dg_name nd__law_sign rfl (by first | exact .inl rfl | exact .inr rfl))) (by decide) (fun s H C cl fp => dts_nil) (fun s H C cl fp => (de_op opd_mod (de_callT1 cd_int rfl fx.g_int rfl (de_op opd_mul (de_var (i := 6) rfl (by first | exact .inl rfl | exact .inr (.inl rfl) | exact .inr (.inr rfl))) (de_var (i := 6) rfl (by first | exact .inl rfl | exact .inr (.inl rfl) | exact .inr (.inr rfl))))) (de_var (i := 3) rfl (by first | exact .inl rfl | exact .inr (.inl rfl) | exact .inr (.inr rfl))))) | exact ds_set nd__law_sign rfl (by first | exact .inl rfl | exact .inr rfl) (de_lc (own := [("one", 6)]) rfl nd__law_sign (di_range2 rfl fx.g_range de_int (de_var (i := 3) rfl (by first | exact .inl rfl | exact .inr (.inl rfl) | exact .inr (.inr rfl)))) (blk_by (by kernel_rfl)) (fun s H C cl fp => (dg_name nd__law_sign rfl (by first | exact .inl rfl | exact .inr rfl))) (by decide) (fun s H C cl fp => dts_nil) (fun s H C cl fp => (de_op opd_mod (de_callT1 cd_int rfl fx.g_int rfl (de_op opd_mul (de_var (i := 6) rfl (by first | exact .inl rfl | exact .inr (.inl rfl) | exact .inr (.inr rfl))) (de_var (i := 6) rfl (by first | exact .inl rfl | exact .inr (.inl rfl) | exact .inr (.inr rfl))))) (de_var (i := 3) rfl (by first | exact .inl rfl | exact .inr (.inl rfl) | exact .inr (.inr rfl)))))) rfl) (dss_one (ds_set nd__law_sign rfl (by first | exact .inl rfl | exact .inr rfl) (de_op opd_mul (de_var (i := 2) rfl (by first | exact .inl rfl | exact .inr (.inl rfl) | exact .inr (.inr rfl))) (de_if (db_cmpR (opd_eq hr.units) (de_var (i := 4) rfl (by first | exact .inl rfl | exact .inr (.inl rfl) | exact .inr (.inr rfl))) de_int (by first | exact nobehind _ (by decide) (by decide) | rfl)) de_int (de_if (db_cmpR (opd_in (units5 hr)) (de_var (i := 4) rfl (by first | exact .inl rfl | exact .inr (.inl rfl) | exact .inr (.inr rfl))) (de_var (i := 5) rfl (by first | exact .inl rfl | exact .inr (.inl rfl) | exact .inr (.inr rfl))) (by first | exact nobehind _ (by decide) (by decide) | rfl)) de_int (de_un und_neg de_int)))) rfl)))) (by intro _; rfl)) (dss_one (ds_ret (de_mov (i := 2) rfl (by first | exact .inl rfl | exact .inr (.inl rfl) | exact .inr (.inr rfl)))))))
def N__law_far : List Str := ["p", "q", "place", "modulus", "base", "found", "left", "turn"]
theorem sc__law_far : FnScope N__law_far ["p", "q", "place", "modulus"] (defScope s__law_far) := ⟨rfl, rfl, rfl, by decide +kernel, rfl, by decide +kernel, by decide +kernel⟩
theorem nd__law_far : N__law_far.Nodup := sc__law_far.nd
def t__law_far (ad : Ad) (f__law_times : FSp) : DSt := (xSeq (xPar [4, 5, 6] (xConsA (xTup (xConsA (xMov 0) (xConsA (xOp subR (xC (.int 0)) (xVar 1)) (xConsA (xC (.int 1)) (xConsA (xC (.int 0)) xNilA))))) (xConsA (xTup (xConsA (xC (.int 1)) (xConsA (xC (.int 0)) (xConsA (xC (.int 0)) (xConsA (xC (.int 1)) xNilA))))) (xConsA (xMov 2) xNilA)))) (xSeq (xFor (xRg1 (xC (.int 70))) (xName 7) (xSeq (xIf (xTru (xOp eqR (xOp modR (xUn toIntR (xVar 6)) (xC (.int 2))) (xC (.int 1)))) (xAsg (xCall f__law_times (xConsA (xMov 5) (xConsA (xMov 4) (xConsA (xMov 3) xNilA)))) (xName 5)) xNext) (xSeq (xAsg (xCall f__law_times (xConsA (xMov 4) (xConsA (xMov 4) (xConsA (xMov 3) xNilA)))) (xName 4)) (xAsg (xOp divR (xVar 6) (xC (.int 2))) (xName 6))))) (xRet (xTup (xConsA (xOp modR (xUn toIntR (xOp ixR (xVar 5) (xC (.int 2)))) (xVar 3)) (xConsA (xOp modR (xUn toIntR (xOp addR (xOp mulR (xOp ixR (xVar 5) (xC (.int 2))) (xVar 0)) (xOp mulR (xC (.int 2)) (xOp ixR (xVar 5) (xC (.int 3)))))) (xVar 3)) xNilA))))))
theorem der__law_far {P : Program} {w : World} {K : PySem.W.Frag} {mg : Str → Option Value} {base : Heap} {ad : Ad} {G : Amb} {f : Addr} {k : Nat} (fx : Fx P w K mg ad) {k__law_times : Nat} {f__law_times : FSp} (c__law_times : Cal P w K mg base G "_law_times" ad._law_times k__law_times f__law_times) (l__law_times : k__law_times ≤ k) (cdv : Value) (A : Around) (outer : List PySem.Env) (s : Shared) (H : Hp) (E : XK) (hr : Room k (A.deeper (PyProof.Rows.envOfC "_law_far" (defScope s__law_far) s.heap.objs.size f cdv))) :
    DSs (cxOf (L2.CX P w) P w K mg base N__law_far "_law_far" (defScope s__law_far) f cdv A outer s H E) G E (defBody s__law_far) (t__law_far ad f__law_times) := by
  have hu := hr.units
  have hu5 := units5 hr
  have htk : Takes (cxOf (L2.CX P w) P w K mg base N__law_far "_law_far" (defScope s__law_far) f cdv A outer s H E) (fun cls d _ H => E cls d H) := takes_of rfl rfl rfl rfl
  have hx : Passes (L2.CX P w) (cxOf (L2.CX P w) P w K mg base N__law_far "_law_far" (defScope s__law_far) f cdv A outer s H E) E := passes_call htk (fun _ _ _ _ h => h)
  have hp : PassesOwn (model P w) (cxOf (L2.CX P w) P w K mg base N__law_far "_law_far" (defScope s__law_far) f cdv A outer s H E).A (cxOf (L2.CX P w) P w K mg base N__law_far "_law_far" (defScope s__law_far) f cdv A outer s H E).env (cxOf (L2.CX P w) P w K mg base N__law_far "_law_far" (defScope s__law_far) f cdv A outer s H E).xe := passes_of rfl
  exact (dss_cons (ds_par3 rfl nd__law_far rfl rfl rfl (by decide) (by decide) (by decide) rfl rfl rfl (da_cons (de_tup (da_cons (de_mov (i := 0) rfl (by first | exact .inl rfl | exact .inr (.inl rfl) | exact .inr (.inr rfl))) (da_cons (de_op opd_sub de_int (de_var (i := 1) rfl (by first | exact .inl rfl | exact .inr (.inl rfl) | exact .inr (.inr rfl)))) (da_cons de_int (da_cons de_int da_nil))))) (da_cons (de_tup (da_cons de_int (da_cons de_int (da_cons de_int (da_cons de_int da_nil))))) (da_cons (de_mov (i := 2) rfl (by first | exact .inl rfl | exact .inr (.inl rfl) | exact .inr (.inr rfl))) da_nil))) rfl) (dss_cons (ds_for hp rfl (di_range1 rfl fx.g_range de_int) (dg_name nd__law_far rfl (by first | exact .inl rfl | exact .inr rfl)) (dss_cons (ds_if (db_cmpR (opd_eq hr.units) (de_op opd_mod (de_callT1 cd_int rfl fx.g_int rfl (de_var (i := 6) rfl (by first | exact .inl rfl | exact .inr (.inl rfl) | exact .inr (.inr rfl)))) de_int) de_int (by first | exact nobehind _ (by decide) (by decide) | rfl)) (dss_one (ds_set nd__law_far rfl (by first | exact .inl rfl | exact .inr rfl) (de_callC c__law_times (hr.mono (by omega)) rfl hx (da_cons (de_mov (i := 5) rfl (by first | exact .inl rfl | exact .inr (.inl rfl) | exact .inr (.inr rfl))) (da_cons (de_mov (i := 4) rfl (by first | exact .inl rfl | exact .inr (.inl rfl) | exact .inr (.inr rfl))) (da_cons (de_mov (i := 3) rfl (by first | exact .inl rfl | exact .inr (.inl rfl) | exact .inr (.inr rfl))) da_nil)))) rfl)) dss_nil) (dss_cons (ds_set nd__law_far rfl (by first | exact .inl rfl | exact .inr rfl) (de_callC c__law_times (hr.mono (by omega)) rfl hx (da_cons (de_mov (i := 4) rfl (by first | exact .inl rfl | exact .inr (.inl rfl) | exact .inr (.inr rfl))) (da_cons (de_mov (i := 4) rfl (by first | exact .inl rfl | exact .inr (.inl rfl) | exact .inr (.inr rfl))) (da_cons (de_mov (i := 3) rfl (by first | exact .inl rfl | exact .inr (.inl rfl) | exact .inr (.inr rfl))) da_nil)))) rfl) (dss_one (ds_set nd__law_far rfl (by first | exact .inl rfl | exact .inr rfl) (de_op opd_div (de_var (i := 6) rfl (by first | exact .inl rfl | exact .inr (.inl rfl) | exact .inr (.inr rfl))) de_int) rfl)))) (by intro _; rfl)) (dss_one (ds_ret (de_tup (da_cons (de_op opd_mod (de_callT1 cd_int rfl fx.g_int rfl (de_ix ixd_seq (de_var (i := 5) rfl (by first | exact .inl rfl | exact .inr (.inl rfl) | exact .inr (.inr rfl))) de_int (fun _ _ => rfl))) (de_var (i := 3) rfl (by first | exact .inl rfl | exact .inr (.inl rfl) | exact .inr (.inr rfl)))) (da_cons (de_op opd_mod (de_callT1 cd_int rfl fx.g_int rfl (de_op opd_add (de_op opd_mul (de_ix ixd_seq (de_var (i := 5) rfl (by first | exact .inl rfl | exact .inr (.inl rfl) | exact .inr (.inr rfl))) de_int (fun _ _ => rfl)) (de_var (i := 0) rfl (by first | exact .inl rfl | exact .inr (.inl rfl) | exact .inr (.inr rfl)))) (de_op opd_mul de_int (de_ix ixd_seq (de_var (i := 5) rfl (by first | exact .inl rfl | exact .inr (.inl rfl) | exact .inr (.inr rfl))) de_int (fun _ _ => rfl))))) (de_var (i := 3) rfl (by first | exact .inl rfl | exact .inr (.inl rfl) | exact .inr (.inr rfl)))) da_nil)))))))
def N__law_times : List Str := ["one", "other", "modulus", "a", "b", "c", "d", "e", "f", "g", "h"]
theorem sc__law_times : FnScope N__law_times ["one", "other", "modulus"] (defScope s__law_times) := ⟨rfl, rfl, rfl, by decide +kernel, rfl, by decide +kernel, by decide +kernel⟩
theorem nd__law_times : N__law_times.Nodup := sc__law_times.nd
def t__law_times (ad : Ad) : DSt := (xSeq (xAsg (xMov 0) (xTupG [(xName 3), (xName 4), (xName 5), (xName 6)])) (xSeq (xAsg (xMov 1) (xTupG [(xName 7), (xName 8), (xName 9), (xName 10)])) (xRet (xTup (xConsA (xOp modR (xUn toIntR (xOp addR (xOp mulR (xVar 3) (xVar 7)) (xOp mulR (xVar 4) (xVar 9)))) (xVar 2)) (xConsA (xOp modR (xUn toIntR (xOp addR (xOp mulR (xVar 3) (xVar 8)) (xOp mulR (xVar 4) (xVar 10)))) (xVar 2)) (xConsA (xOp modR (xUn toIntR (xOp addR (xOp mulR (xVar 5) (xVar 7)) (xOp mulR (xVar 6) (xVar 9)))) (xVar 2)) (xConsA (xOp modR (xUn toIntR (xOp addR (xOp mulR (xVar 5) (xVar 8)) (xOp mulR (xVar 6) (xVar 10)))) (xVar 2)) xNilA))))))))
theorem der__law_times {P : Program} {w : World} {K : PySem.W.Frag} {mg : Str → Option Value} {base : Heap} {ad : Ad} {G : Amb} {f : Addr} {k : Nat} (fx : Fx P w K mg ad) (cdv : Value) (A : Around) (outer : List PySem.Env) (s : Shared) (H : Hp) (E : XK) (hr : Room k (A.deeper (PyProof.Rows.envOfC "_law_times" (defScope s__law_times) s.heap.objs.size f cdv))) :
    DSs (cxOf (L2.CX P w) P w K mg base N__law_times "_law_times" (defScope s__law_times) f cdv A outer s H E) G E (defBody s__law_times) (t__law_times ad) := by
  have hu := hr.units
  have hu5 := units5 hr
  have htk : Takes (cxOf (L2.CX P w) P w K mg base N__law_times "_law_times" (defScope s__law_times) f cdv A outer s H E) (fun cls d _ H => E cls d H) := takes_of rfl rfl rfl rfl
  have hx : Passes (L2.CX P w) (cxOf (L2.CX P w) P w K mg base N__law_times "_law_times" (defScope s__law_times) f cdv A outer s H E) E := passes_call htk (fun _ _ _ _ h => h)
  have hp : PassesOwn (model P w) (cxOf (L2.CX P w) P w K mg base N__law_times "_law_times" (defScope s__law_times) f cdv A outer s H E).A (cxOf (L2.CX P w) P w K mg base N__law_times "_law_times" (defScope s__law_times) f cdv A outer s H E).env (cxOf (L2.CX P w) P w K mg base N__law_times "_law_times" (defScope s__law_times) f cdv A outer s H E).xe := passes_of rfl
  exact (dss_cons (ds_asg (de_mov (i := 0) rfl (by first | exact .inl rfl | exact .inr (.inl rfl) | exact .inr (.inr rfl))) (dg_tup rfl (dgs_cons (dg_name nd__law_times rfl (by first | exact .inl rfl | exact .inr rfl)) (dgs_cons (dg_name nd__law_times rfl (by first | exact .inl rfl | exact .inr rfl)) (dgs_cons (dg_name nd__law_times rfl (by first | exact .inl rfl | exact .inr rfl)) (dgs_cons (dg_name nd__law_times rfl (by first | exact .inl rfl | exact .inr rfl)) dgs_nil)))))) (dss_cons (ds_asg (de_mov (i := 1) rfl (by first | exact .inl rfl | exact .inr (.inl rfl) | exact .inr (.inr rfl))) (dg_tup rfl (dgs_cons (dg_name nd__law_times rfl (by first | exact .inl rfl | exact .inr rfl)) (dgs_cons (dg_name nd__law_times rfl (by first | exact .inl rfl | exact .inr rfl)) (dgs_cons (dg_name nd__law_times rfl (by first | exact .inl rfl | exact .inr rfl)) (dgs_cons (dg_name nd__law_times rfl (by first | exact .inl rfl | exact .inr rfl)) dgs_nil)))))) (dss_one (ds_ret (de_tup (da_cons (de_op opd_mod (de_callT1 cd_int rfl fx.g_int rfl (de_op opd_add (de_op opd_mul (de_var (i := 3) rfl (by first | exact .inl rfl | exact .inr (.inl rfl) | exact .inr (.inr rfl))) (de_var (i := 7) rfl (by first | exact .inl rfl | exact .inr (.inl rfl) | exact .inr (.inr rfl)))) (de_op opd_mul (de_var (i := 4) rfl (by first | exact .inl rfl | exact .inr (.inl rfl) | exact .inr (.inr rfl))) (de_var (i := 9) rfl (by first | exact .inl rfl | exact .inr (.inl rfl) | exact .inr (.inr rfl)))))) (de_var (i := 2) rfl (by first | exact .inl rfl | exact .inr (.inl rfl) | exact .inr (.inr rfl)))) (da_cons (de_op opd_mod (de_callT1 cd_int rfl fx.g_int rfl (de_op opd_add (de_op opd_mul (de_var (i := 3) rfl (by first | exact .inl rfl | exact .inr (.inl rfl) | exact .inr (.inr rfl))) (de_var (i := 8) rfl (by first | exact .inl rfl | exact .inr (.inl rfl) | exact .inr (.inr rfl)))) (de_op opd_mul (de_var (i := 4) rfl (by first | exact .inl rfl | exact .inr (.inl rfl) | exact .inr (.inr rfl))) (de_var (i := 10) rfl (by first | exact .inl rfl | exact .inr (.inl rfl) | exact .inr (.inr rfl)))))) (de_var (i := 2) rfl (by first | exact .inl rfl | exact .inr (.inl rfl) | exact .inr (.inr rfl)))) (da_cons (de_op opd_mod (de_callT1 cd_int rfl fx.g_int rfl (de_op opd_add (de_op opd_mul (de_var (i := 5) rfl (by first | exact .inl rfl | exact .inr (.inl rfl) | exact .inr (.inr rfl))) (de_var (i := 7) rfl (by first | exact .inl rfl | exact .inr (.inl rfl) | exact .inr (.inr rfl)))) (de_op opd_mul (de_var (i := 6) rfl (by first | exact .inl rfl | exact .inr (.inl rfl) | exact .inr (.inr rfl))) (de_var (i := 9) rfl (by first | exact .inl rfl | exact .inr (.inl rfl) | exact .inr (.inr rfl)))))) (de_var (i := 2) rfl (by first | exact .inl rfl | exact .inr (.inl rfl) | exact .inr (.inr rfl)))) (da_cons (de_op opd_mod (de_callT1 cd_int rfl fx.g_int rfl (de_op opd_add (de_op opd_mul (de_var (i := 5) rfl (by first | exact .inl rfl | exact .inr (.inl rfl) | exact .inr (.inr rfl))) (de_var (i := 8) rfl (by first | exact .inl rfl | exact .inr (.inl rfl) | exact .inr (.inr rfl)))) (de_op opd_mul (de_var (i := 6) rfl (by first | exact .inl rfl | exact .inr (.inl rfl) | exact .inr (.inr rfl))) (de_var (i := 10) rfl (by first | exact .inl rfl | exact .inr (.inl rfl) | exact .inr (.inr rfl)))))) (de_var (i := 2) rfl (by first | exact .inl rfl | exact .inr (.inl rfl) | exact .inr (.inr rfl)))) da_nil)))))))))
def N__law_power : List Str := ["base", "many", "found", "turn"]
theorem sc__law_power : FnScope N__law_power ["base", "many"] (defScope s__law_power) := ⟨rfl, rfl, rfl, by decide +kernel, rfl, by decide +kernel, by decide +kernel⟩
theorem nd__law_power : N__law_power.Nodup := sc__law_power.nd
def t__law_power (ad : Ad) : DSt := (xSeq (xAsg (xC (.int 1)) (xName 2)) (xSeq (xFor (xRg1 (xVar 1)) (xName 3) (xAsg (xOp mulR (xVar 2) (xVar 0)) (xName 2))) (xRet (xMov 2))))
theorem der__law_power {P : Program} {w : World} {K : PySem.W.Frag} {mg : Str → Option Value} {base : Heap} {ad : Ad} {G : Amb} {f : Addr} {k : Nat} (fx : Fx P w K mg ad) (cdv : Value) (A : Around) (outer : List PySem.Env) (s : Shared) (H : Hp) (E : XK) (hr : Room k (A.deeper (PyProof.Rows.envOfC "_law_power" (defScope s__law_power) s.heap.objs.size f cdv))) :
    DSs (cxOf (L2.CX P w) P w K mg base N__law_power "_law_power" (defScope s__law_power) f cdv A outer s H E) G E (defBody s__law_power) (t__law_power ad) := by
  have hu := hr.units
  have hu5 := units5 hr
  have htk : Takes (cxOf (L2.CX P w) P w K mg base N__law_power "_law_power" (defScope s__law_power) f cdv A outer s H E) (fun cls d _ H => E cls d H) := takes_of rfl rfl rfl rfl
  have hx : Passes (L2.CX P w) (cxOf (L2.CX P w) P w K mg base N__law_power "_law_power" (defScope s__law_power) f cdv A outer s H E) E := passes_call htk (fun _ _ _ _ h => h)
  have hp : PassesOwn (model P w) (cxOf (L2.CX P w) P w K mg base N__law_power "_law_power" (defScope s__law_power) f cdv A outer s H E).A (cxOf (L2.CX P w) P w K mg base N__law_power "_law_power" (defScope s__law_power) f cdv A outer s H E).env (cxOf (L2.CX P w) P w K mg base N__law_power "_law_power" (defScope s__law_power) f cdv A outer s H E).xe := passes_of rfl
  exact (dss_cons (ds_set nd__law_power rfl (by first | exact .inl rfl | exact .inr rfl) de_int rfl) (dss_cons (ds_for hp rfl (di_range1 rfl fx.g_range (de_var (i := 1) rfl (by first | exact .inl rfl | exact .inr (.inl rfl) | exact .inr (.inr rfl)))) (dg_name nd__law_power rfl (by first | exact .inl rfl | exact .inr rfl)) (dss_one (ds_set nd__law_power rfl (by first | exact .inl rfl | exact .inr rfl) (de_op opd_mul (de_var (i := 2) rfl (by first | exact .inl rfl | exact .inr (.inl rfl) | exact .inr (.inr rfl))) (de_var (i := 0) rfl (by first | exact .inl rfl | exact .inr (.inl rfl) | exact .inr (.inr rfl)))) rfl)) (by intro _; rfl)) (dss_one (ds_ret (de_mov (i := 2) rfl (by first | exact .inl rfl | exact .inr (.inl rfl) | exact .inr (.inr rfl)))))))
def N__law_is_right : List Str := ["hand", "top", "place", "p", "q", "due", "u", "v", "modulus", "far"]
theorem sc__law_is_right : FnScope N__law_is_right ["hand"] (defScope s__law_is_right) := ⟨rfl, rfl, rfl, by decide +kernel, rfl, by decide +kernel, by decide +kernel⟩
theorem nd__law_is_right : N__law_is_right.Nodup := sc__law_is_right.nd
def k__law_is_right_1 (ad : Ad) (f__law_any : FSp) (f__law_draw : FSp) (f__law_pair : FSp) (f__law_is : FSp) (f_pair_terms : FSp) (f__law_power : FSp) (f_pair_rests : FSp) (f__law_far : FSp) : DSt := (xRet (xCall f__law_is (xConsA (xCall f_pair_rests (xConsA (xMov 3) (xConsA (xMov 4) (xConsA (xMov 9) (xConsA (xMov 8) xNilA))))) (xConsA (xCall f__law_far (xConsA (xMov 3) (xConsA (xMov 4) (xConsA (xMov 9) (xConsA (xMov 8) xNilA))))) xNilA))))
def k__law_is_right_2 (ad : Ad) (f__law_any : FSp) (f__law_draw : FSp) (f__law_pair : FSp) (f__law_is : FSp) (f_pair_terms : FSp) (f__law_power : FSp) (f_pair_rests : FSp) (f__law_far : FSp) : DSt := (xSeq (xAsg (xOp mulR (xCall f__law_draw (xConsA (xMov 0) (xConsA (xOp powR (xC (.int 10)) (xC (.int 9))) xNilA))) (xCall f__law_draw (xConsA (xMov 0) (xConsA (xOp powR (xC (.int 10)) (xC (.int 9))) xNilA)))) (xName 9)) (k__law_is_right_1 ad f__law_any f__law_draw f__law_pair f__law_is f_pair_terms f__law_power f_pair_rests f__law_far))
def k__law_is_right_3 (ad : Ad) (f__law_any : FSp) (f__law_draw : FSp) (f__law_pair : FSp) (f__law_is : FSp) (f_pair_terms : FSp) (f__law_power : FSp) (f_pair_rests : FSp) (f__law_far : FSp) : DSt := (xSeq (xIf (xNot (xTru (xCall f__law_is (xConsA (xCall f_pair_rests (xConsA (xMov 3) (xConsA (xMov 4) (xConsA (xMov 2) (xConsA (xMov 8) xNilA))))) (xConsA (xTup (xConsA (xOp modR (xUn toIntR (xVar 6)) (xVar 8)) (xConsA (xOp modR (xUn toIntR (xVar 7)) (xVar 8)) xNilA))) xNilA))))) (xRet (xC (.bl false))) xNext) (k__law_is_right_2 ad f__law_any f__law_draw f__law_pair f__law_is f_pair_terms f__law_power f_pair_rests f__law_far))
def k__law_is_right_4 (ad : Ad) (f__law_any : FSp) (f__law_draw : FSp) (f__law_pair : FSp) (f__law_is : FSp) (f_pair_terms : FSp) (f__law_power : FSp) (f_pair_rests : FSp) (f__law_far : FSp) : DSt := (xSeq (xAsg (xOp addR (xC (.int 1)) (xOp mulR (xC (.int 2)) (xCall f__law_draw (xConsA (xMov 0) (xConsA (xCall f__law_any (xConsA (xMov 0) (xConsA (xLst (xConsA (xC (.int 5)) (xConsA (xC (.int 500)) (xConsA (xOp powR (xC (.int 10)) (xC (.int 17))) xNilA)))) xNilA))) xNilA))))) (xName 8)) (k__law_is_right_3 ad f__law_any f__law_draw f__law_pair f__law_is f_pair_terms f__law_power f_pair_rests f__law_far))
def k__law_is_right_5 (ad : Ad) (f__law_any : FSp) (f__law_draw : FSp) (f__law_pair : FSp) (f__law_is : FSp) (f_pair_terms : FSp) (f__law_power : FSp) (f_pair_rests : FSp) (f__law_far : FSp) : DSt := (xSeq (xIf (xNot (xTru (xCall f__law_is (xConsA (xCall f_pair_terms (xConsA (xMov 3) (xConsA (xMov 4) (xConsA (xOp mulR (xC (.int 2)) (xVar 2)) xNilA)))) (xConsA (xTup (xConsA (xOp mulR (xVar 6) (xVar 7)) (xConsA (xOp subR (xOp mulR (xVar 7) (xVar 7)) (xOp mulR (xC (.int 2)) (xCall f__law_power (xConsA (xMov 4) (xConsA (xMov 2) xNilA))))) xNilA))) xNilA))))) (xRet (xC (.bl false))) xNext) (k__law_is_right_4 ad f__law_any f__law_draw f__law_pair f__law_is f_pair_terms f__law_power f_pair_rests f__law_far))
def k__law_is_right_6 (ad : Ad) (f__law_any : FSp) (f__law_draw : FSp) (f__law_pair : FSp) (f__law_is : FSp) (f_pair_terms : FSp) (f__law_power : FSp) (f_pair_rests : FSp) (f__law_far : FSp) : DSt := (xSeq (xIf (xTru (xOp neR (xOp subR (xOp mulR (xVar 7) (xVar 7)) (xOp mulR (xOp mulR (xOp subR (xOp mulR (xVar 3) (xVar 3)) (xOp mulR (xC (.int 4)) (xVar 4))) (xVar 6)) (xVar 6))) (xOp mulR (xC (.int 4)) (xCall f__law_power (xConsA (xMov 4) (xConsA (xMov 2) xNilA)))))) (xRet (xC (.bl false))) xNext) (k__law_is_right_5 ad f__law_any f__law_draw f__law_pair f__law_is f_pair_terms f__law_power f_pair_rests f__law_far))
def k__law_is_right_7 (ad : Ad) (f__law_any : FSp) (f__law_draw : FSp) (f__law_pair : FSp) (f__law_is : FSp) (f_pair_terms : FSp) (f__law_power : FSp) (f_pair_rests : FSp) (f__law_far : FSp) : DSt := (xSeq (xAsg (xMov 5) (xTupG [(xName 6), (xName 7)])) (k__law_is_right_6 ad f__law_any f__law_draw f__law_pair f__law_is f_pair_terms f__law_power f_pair_rests f__law_far))
def k__law_is_right_8 (ad : Ad) (f__law_any : FSp) (f__law_draw : FSp) (f__law_pair : FSp) (f__law_is : FSp) (f_pair_terms : FSp) (f__law_power : FSp) (f_pair_rests : FSp) (f__law_far : FSp) : DSt := (xSeq (xIf (xNot (xTru (xCall f__law_is (xConsA (xCall f_pair_terms (xConsA (xMov 3) (xConsA (xMov 4) (xConsA (xMov 2) xNilA)))) (xConsA (xMov 5) xNilA))))) (xRet (xC (.bl false))) xNext) (k__law_is_right_7 ad f__law_any f__law_draw f__law_pair f__law_is f_pair_terms f__law_power f_pair_rests f__law_far))
def k__law_is_right_9 (ad : Ad) (f__law_any : FSp) (f__law_draw : FSp) (f__law_pair : FSp) (f__law_is : FSp) (f_pair_terms : FSp) (f__law_power : FSp) (f_pair_rests : FSp) (f__law_far : FSp) : DSt := (xSeq (xAsg (xCall f__law_pair (xConsA (xMov 3) (xConsA (xMov 4) (xConsA (xMov 2) xNilA)))) (xName 5)) (k__law_is_right_8 ad f__law_any f__law_draw f__law_pair f__law_is f_pair_terms f__law_power f_pair_rests f__law_far))
def k__law_is_right_10 (ad : Ad) (f__law_any : FSp) (f__law_draw : FSp) (f__law_pair : FSp) (f__law_is : FSp) (f_pair_terms : FSp) (f__law_power : FSp) (f_pair_rests : FSp) (f__law_far : FSp) : DSt := (xSeq (xPar [3, 4] (xConsA (xOp subR (xCall f__law_draw (xConsA (xMov 0) (xConsA (xOp addR (xOp mulR (xC (.int 2)) (xVar 1)) (xC (.int 1))) xNilA))) (xVar 1)) (xConsA (xOp subR (xCall f__law_draw (xConsA (xMov 0) (xConsA (xOp addR (xOp mulR (xC (.int 2)) (xVar 1)) (xC (.int 1))) xNilA))) (xVar 1)) xNilA))) (k__law_is_right_9 ad f__law_any f__law_draw f__law_pair f__law_is f_pair_terms f__law_power f_pair_rests f__law_far))
def t__law_is_right (ad : Ad) (f__law_any : FSp) (f__law_draw : FSp) (f__law_pair : FSp) (f__law_is : FSp) (f_pair_terms : FSp) (f__law_power : FSp) (f_pair_rests : FSp) (f__law_far : FSp) : DSt := (xSeq (xPar [1, 2] (xConsA (xCall f__law_any (xConsA (xMov 0) (xConsA (xLst (xConsA (xC (.int 3)) (xConsA (xC (.int 9)) (xConsA (xOp powR (xC (.int 10)) (xC (.int 6))) xNilA)))) xNilA))) (xConsA (xCall f__law_draw (xConsA (xMov 0) (xConsA (xC (.int 40)) xNilA))) xNilA))) (k__law_is_right_10 ad f__law_any f__law_draw f__law_pair f__law_is f_pair_terms f__law_power f_pair_rests f__law_far))
theorem der__law_is_right {P : Program} {w : World} {K : PySem.W.Frag} {mg : Str → Option Value} {base : Heap} {ad : Ad} {G : Amb} {f : Addr} {k : Nat} (fx : Fx P w K mg ad) {k__law_any : Nat} {f__law_any : FSp} (c__law_any : Cal P w K mg base G "_law_any" ad._law_any k__law_any f__law_any) (l__law_any : k__law_any ≤ k) {k__law_draw : Nat} {f__law_draw : FSp} (c__law_draw : Cal P w K mg base G "_law_draw" ad._law_draw k__law_draw f__law_draw) (l__law_draw : k__law_draw ≤ k) {k__law_pair : Nat} {f__law_pair : FSp} (c__law_pair : Cal P w K mg base G "_law_pair" ad._law_pair k__law_pair f__law_pair) (l__law_pair : k__law_pair ≤ k) {k__law_is : Nat} {f__law_is : FSp} (c__law_is : Cal P w K mg base G "_law_is" ad._law_is k__law_is f__law_is) (l__law_is : k__law_is ≤ k) {k_pair_terms : Nat} {f_pair_terms : FSp} (c_pair_terms : Cal P w K mg base G "pair_terms" ad.pair_terms k_pair_terms f_pair_terms) (l_pair_terms : k_pair_terms ≤ k) {k__law_power : Nat} {f__law_power : FSp} (c__law_power : Cal P w K mg base G "_law_power" ad._law_power k__law_power f__law_power) (l__law_power : k__law_power ≤ k) {k_pair_rests : Nat} {f_pair_rests : FSp} (c_pair_rests : Cal P w K mg base G "pair_rests" ad.pair_rests k_pair_rests f_pair_rests) (l_pair_rests : k_pair_rests ≤ k) {k__law_far : Nat} {f__law_far : FSp} (c__law_far : Cal P w K mg base G "_law_far" ad._law_far k__law_far f__law_far) (l__law_far : k__law_far ≤ k) (cdv : Value) (A : Around) (outer : List PySem.Env) (s : Shared) (H : Hp) (E : XK) (hr : Room k (A.deeper (PyProof.Rows.envOfC "_law_is_right" (defScope s__law_is_right) s.heap.objs.size f cdv))) :
    DSs (cxOf (L2.CX P w) P w K mg base N__law_is_right "_law_is_right" (defScope s__law_is_right) f cdv A outer s H E) G E (defBody s__law_is_right) (t__law_is_right ad f__law_any f__law_draw f__law_pair f__law_is f_pair_terms f__law_power f_pair_rests f__law_far) := by
  have hu := hr.units
  have hu5 := units5 hr
  have htk : Takes (cxOf (L2.CX P w) P w K mg base N__law_is_right "_law_is_right" (defScope s__law_is_right) f cdv A outer s H E) (fun cls d _ H => E cls d H) := takes_of rfl rfl rfl rfl
  have hx : Passes (L2.CX P w) (cxOf (L2.CX P w) P w K mg base N__law_is_right "_law_is_right" (defScope s__law_is_right) f cdv A outer s H E) E := passes_call htk (fun _ _ _ _ h => h)
  have hp : PassesOwn (model P w) (cxOf (L2.CX P w) P w K mg base N__law_is_right "_law_is_right" (defScope s__law_is_right) f cdv A outer s H E).A (cxOf (L2.CX P w) P w K mg base N__law_is_right "_law_is_right" (defScope s__law_is_right) f cdv A outer s H E).env (cxOf (L2.CX P w) P w K mg base N__law_is_right "_law_is_right" (defScope s__law_is_right) f cdv A outer s H E).xe := passes_of rfl
  exact (dss_cons (ds_par rfl nd__law_is_right rfl rfl (by decide) rfl rfl (da_cons (de_callC c__law_any (hr.mono (by omega)) rfl hx (da_cons (de_mov (i := 0) rfl (by first | exact .inl rfl | exact .inr (.inl rfl) | exact .inr (.inr rfl))) (da_cons (de_lst (da_cons de_int (da_cons de_int (da_cons (de_op opd_pow de_int de_int) da_nil)))) da_nil))) (da_cons (de_callC c__law_draw (hr.mono (by omega)) rfl hx (da_cons (de_mov (i := 0) rfl (by first | exact .inl rfl | exact .inr (.inl rfl) | exact .inr (.inr rfl))) (da_cons de_int da_nil))) da_nil)) rfl) (dss_cons (ds_par rfl nd__law_is_right rfl rfl (by decide) rfl rfl (da_cons (de_op opd_sub (de_callC c__law_draw (hr.mono (by omega)) rfl hx (da_cons (de_mov (i := 0) rfl (by first | exact .inl rfl | exact .inr (.inl rfl) | exact .inr (.inr rfl))) (da_cons (de_op opd_add (de_op opd_mul de_int (de_var (i := 1) rfl (by first | exact .inl rfl | exact .inr (.inl rfl) | exact .inr (.inr rfl)))) de_int) da_nil))) (de_var (i := 1) rfl (by first | exact .inl rfl | exact .inr (.inl rfl) | exact .inr (.inr rfl)))) (da_cons (de_op opd_sub (de_callC c__law_draw (hr.mono (by omega)) rfl hx (da_cons (de_mov (i := 0) rfl (by first | exact .inl rfl | exact .inr (.inl rfl) | exact .inr (.inr rfl))) (da_cons (de_op opd_add (de_op opd_mul de_int (de_var (i := 1) rfl (by first | exact .inl rfl | exact .inr (.inl rfl) | exact .inr (.inr rfl)))) de_int) da_nil))) (de_var (i := 1) rfl (by first | exact .inl rfl | exact .inr (.inl rfl) | exact .inr (.inr rfl)))) da_nil)) rfl) (dss_cons (ds_set nd__law_is_right rfl (by first | exact .inl rfl | exact .inr rfl) (de_callC c__law_pair (hr.mono (by omega)) rfl hx (da_cons (de_mov (i := 3) rfl (by first | exact .inl rfl | exact .inr (.inl rfl) | exact .inr (.inr rfl))) (da_cons (de_mov (i := 4) rfl (by first | exact .inl rfl | exact .inr (.inl rfl) | exact .inr (.inr rfl))) (da_cons (de_mov (i := 2) rfl (by first | exact .inl rfl | exact .inr (.inl rfl) | exact .inr (.inr rfl))) da_nil)))) rfl) (dss_cons (ds_if (db_not (db_tru (de_callC c__law_is (hr.mono (by omega)) rfl hx (da_cons (de_callC c_pair_terms (hr.mono (by omega)) rfl hx (da_cons (de_mov (i := 3) rfl (by first | exact .inl rfl | exact .inr (.inl rfl) | exact .inr (.inr rfl))) (da_cons (de_mov (i := 4) rfl (by first | exact .inl rfl | exact .inr (.inl rfl) | exact .inr (.inr rfl))) (da_cons (de_mov (i := 2) rfl (by first | exact .inl rfl | exact .inr (.inl rfl) | exact .inr (.inr rfl))) da_nil)))) (da_cons (de_mov (i := 5) rfl (by first | exact .inl rfl | exact .inr (.inl rfl) | exact .inr (.inr rfl))) da_nil))))) (dss_one (ds_ret de_bl)) dss_nil) (dss_cons (ds_asg (de_mov (i := 5) rfl (by first | exact .inl rfl | exact .inr (.inl rfl) | exact .inr (.inr rfl))) (dg_tup rfl (dgs_cons (dg_name nd__law_is_right rfl (by first | exact .inl rfl | exact .inr rfl)) (dgs_cons (dg_name nd__law_is_right rfl (by first | exact .inl rfl | exact .inr rfl)) dgs_nil)))) (dss_cons (ds_if (db_cmpR (opd_ne hr.units) (de_op opd_sub (de_op opd_mul (de_var (i := 7) rfl (by first | exact .inl rfl | exact .inr (.inl rfl) | exact .inr (.inr rfl))) (de_var (i := 7) rfl (by first | exact .inl rfl | exact .inr (.inl rfl) | exact .inr (.inr rfl)))) (de_op opd_mul (de_op opd_mul (de_op opd_sub (de_op opd_mul (de_var (i := 3) rfl (by first | exact .inl rfl | exact .inr (.inl rfl) | exact .inr (.inr rfl))) (de_var (i := 3) rfl (by first | exact .inl rfl | exact .inr (.inl rfl) | exact .inr (.inr rfl)))) (de_op opd_mul de_int (de_var (i := 4) rfl (by first | exact .inl rfl | exact .inr (.inl rfl) | exact .inr (.inr rfl))))) (de_var (i := 6) rfl (by first | exact .inl rfl | exact .inr (.inl rfl) | exact .inr (.inr rfl)))) (de_var (i := 6) rfl (by first | exact .inl rfl | exact .inr (.inl rfl) | exact .inr (.inr rfl))))) (de_op opd_mul de_int (de_callC c__law_power (hr.mono (by omega)) rfl hx (da_cons (de_mov (i := 4) rfl (by first | exact .inl rfl | exact .inr (.inl rfl) | exact .inr (.inr rfl))) (da_cons (de_mov (i := 2) rfl (by first | exact .inl rfl | exact .inr (.inl rfl) | exact .inr (.inr rfl))) da_nil)))) (by first | exact nobehind _ (by decide) (by decide) | rfl)) (dss_one (ds_ret de_bl)) dss_nil) (dss_cons (ds_if (db_not (db_tru (de_callC c__law_is (hr.mono (by omega)) rfl hx (da_cons (de_callC c_pair_terms (hr.mono (by omega)) rfl hx (da_cons (de_mov (i := 3) rfl (by first | exact .inl rfl | exact .inr (.inl rfl) | exact .inr (.inr rfl))) (da_cons (de_mov (i := 4) rfl (by first | exact .inl rfl | exact .inr (.inl rfl) | exact .inr (.inr rfl))) (da_cons (de_op opd_mul de_int (de_var (i := 2) rfl (by first | exact .inl rfl | exact .inr (.inl rfl) | exact .inr (.inr rfl)))) da_nil)))) (da_cons (de_tup (da_cons (de_op opd_mul (de_var (i := 6) rfl (by first | exact .inl rfl | exact .inr (.inl rfl) | exact .inr (.inr rfl))) (de_var (i := 7) rfl (by first | exact .inl rfl | exact .inr (.inl rfl) | exact .inr (.inr rfl)))) (da_cons (de_op opd_sub (de_op opd_mul (de_var (i := 7) rfl (by first | exact .inl rfl | exact .inr (.inl rfl) | exact .inr (.inr rfl))) (de_var (i := 7) rfl (by first | exact .inl rfl | exact .inr (.inl rfl) | exact .inr (.inr rfl)))) (de_op opd_mul de_int (de_callC c__law_power (hr.mono (by omega)) rfl hx (da_cons (de_mov (i := 4) rfl (by first | exact .inl rfl | exact .inr (.inl rfl) | exact .inr (.inr rfl))) (da_cons (de_mov (i := 2) rfl (by first | exact .inl rfl | exact .inr (.inl rfl) | exact .inr (.inr rfl))) da_nil))))) da_nil))) da_nil))))) (dss_one (ds_ret de_bl)) dss_nil) (dss_cons (ds_set nd__law_is_right rfl (by first | exact .inl rfl | exact .inr rfl) (de_op opd_add de_int (de_op opd_mul de_int (de_callC c__law_draw (hr.mono (by omega)) rfl hx (da_cons (de_mov (i := 0) rfl (by first | exact .inl rfl | exact .inr (.inl rfl) | exact .inr (.inr rfl))) (da_cons (de_callC c__law_any (hr.mono (by omega)) rfl hx (da_cons (de_mov (i := 0) rfl (by first | exact .inl rfl | exact .inr (.inl rfl) | exact .inr (.inr rfl))) (da_cons (de_lst (da_cons de_int (da_cons de_int (da_cons (de_op opd_pow de_int de_int) da_nil)))) da_nil))) da_nil))))) rfl) (dss_cons (ds_if (db_not (db_tru (de_callC c__law_is (hr.mono (by omega)) rfl hx (da_cons (de_callC c_pair_rests (hr.mono (by omega)) rfl hx (da_cons (de_mov (i := 3) rfl (by first | exact .inl rfl | exact .inr (.inl rfl) | exact .inr (.inr rfl))) (da_cons (de_mov (i := 4) rfl (by first | exact .inl rfl | exact .inr (.inl rfl) | exact .inr (.inr rfl))) (da_cons (de_mov (i := 2) rfl (by first | exact .inl rfl | exact .inr (.inl rfl) | exact .inr (.inr rfl))) (da_cons (de_mov (i := 8) rfl (by first | exact .inl rfl | exact .inr (.inl rfl) | exact .inr (.inr rfl))) da_nil))))) (da_cons (de_tup (da_cons (de_op opd_mod (de_callT1 cd_int rfl fx.g_int rfl (de_var (i := 6) rfl (by first | exact .inl rfl | exact .inr (.inl rfl) | exact .inr (.inr rfl)))) (de_var (i := 8) rfl (by first | exact .inl rfl | exact .inr (.inl rfl) | exact .inr (.inr rfl)))) (da_cons (de_op opd_mod (de_callT1 cd_int rfl fx.g_int rfl (de_var (i := 7) rfl (by first | exact .inl rfl | exact .inr (.inl rfl) | exact .inr (.inr rfl)))) (de_var (i := 8) rfl (by first | exact .inl rfl | exact .inr (.inl rfl) | exact .inr (.inr rfl)))) da_nil))) da_nil))))) (dss_one (ds_ret de_bl)) dss_nil) (dss_cons (ds_set nd__law_is_right rfl (by first | exact .inl rfl | exact .inr rfl) (de_op opd_mul (de_callC c__law_draw (hr.mono (by omega)) rfl hx (da_cons (de_mov (i := 0) rfl (by first | exact .inl rfl | exact .inr (.inl rfl) | exact .inr (.inr rfl))) (da_cons (de_op opd_pow de_int de_int) da_nil))) (de_callC c__law_draw (hr.mono (by omega)) rfl hx (da_cons (de_mov (i := 0) rfl (by first | exact .inl rfl | exact .inr (.inl rfl) | exact .inr (.inr rfl))) (da_cons (de_op opd_pow de_int de_int) da_nil)))) rfl) (dss_one (ds_ret (de_callC c__law_is (hr.mono (by omega)) rfl hx (da_cons (de_callC c_pair_rests (hr.mono (by omega)) rfl hx (da_cons (de_mov (i := 3) rfl (by first | exact .inl rfl | exact .inr (.inl rfl) | exact .inr (.inr rfl))) (da_cons (de_mov (i := 4) rfl (by first | exact .inl rfl | exact .inr (.inl rfl) | exact .inr (.inr rfl))) (da_cons (de_mov (i := 9) rfl (by first | exact .inl rfl | exact .inr (.inl rfl) | exact .inr (.inr rfl))) (da_cons (de_mov (i := 8) rfl (by first | exact .inl rfl | exact .inr (.inl rfl) | exact .inr (.inr rfl))) da_nil))))) (da_cons (de_callC c__law_far (hr.mono (by omega)) rfl hx (da_cons (de_mov (i := 3) rfl (by first | exact .inl rfl | exact .inr (.inl rfl) | exact .inr (.inr rfl))) (da_cons (de_mov (i := 4) rfl (by first | exact .inl rfl | exact .inr (.inl rfl) | exact .inr (.inr rfl))) (da_cons (de_mov (i := 9) rfl (by first | exact .inl rfl | exact .inr (.inl rfl) | exact .inr (.inr rfl))) (da_cons (de_mov (i := 8) rfl (by first | exact .inl rfl | exact .inr (.inl rfl) | exact .inr (.inr rfl))) da_nil))))) da_nil)))))))))))))))
def N__law_are_signs_right : List Str := ["hand", "one", "other", "modulus", "second", "due"]
theorem sc__law_are_signs_right : FnScope N__law_are_signs_right ["hand"] (defScope s__law_are_signs_right) := ⟨rfl, rfl, rfl, by decide +kernel, rfl, by decide +kernel, by decide +kernel⟩
theorem nd__law_are_signs_right : N__law_are_signs_right.Nodup := sc__law_are_signs_right.nd
def k__law_are_signs_right_1 (ad : Ad) (f__law_draw : FSp) (f__law_sign : FSp) (f__law_is : FSp) (f_sign_of : FSp) : DSt := (xRet (xAndV (xOp eqR (xCall f_sign_of (xConsA (xOp mulR (xVar 1) (xVar 2)) (xConsA (xMov 3) xNilA))) (xOp mulR (xOp ixR (xVar 5) (xC (.int 0))) (xOp ixR (xVar 5) (xC (.int 1))))) (xOp eqR (xCall f_sign_of (xConsA (xMov 1) (xConsA (xOp mulR (xVar 3) (xVar 4)) xNilA))) (xOp mulR (xOp ixR (xVar 5) (xC (.int 0))) (xOp ixR (xVar 5) (xC (.int 2)))))))
def k__law_are_signs_right_2 (ad : Ad) (f__law_draw : FSp) (f__law_sign : FSp) (f__law_is : FSp) (f_sign_of : FSp) : DSt := (xSeq (xIf (xNot (xTru (xCall f__law_is (xConsA (xLst (xConsA (xCall f_sign_of (xConsA (xMov 1) (xConsA (xMov 3) xNilA))) (xConsA (xCall f_sign_of (xConsA (xMov 2) (xConsA (xMov 3) xNilA))) (xConsA (xCall f_sign_of (xConsA (xMov 1) (xConsA (xMov 4) xNilA))) xNilA)))) (xConsA (xMov 5) xNilA))))) (xRet (xC (.bl false))) xNext) (k__law_are_signs_right_1 ad f__law_draw f__law_sign f__law_is f_sign_of))
def k__law_are_signs_right_3 (ad : Ad) (f__law_draw : FSp) (f__law_sign : FSp) (f__law_is : FSp) (f_sign_of : FSp) : DSt := (xSeq (xAsg (xLst (xConsA (xCall f__law_sign (xConsA (xMov 1) (xConsA (xMov 3) xNilA))) (xConsA (xCall f__law_sign (xConsA (xMov 2) (xConsA (xMov 3) xNilA))) (xConsA (xCall f__law_sign (xConsA (xMov 1) (xConsA (xMov 4) xNilA))) xNilA)))) (xName 5)) (k__law_are_signs_right_2 ad f__law_draw f__law_sign f__law_is f_sign_of))
def k__law_are_signs_right_4 (ad : Ad) (f__law_draw : FSp) (f__law_sign : FSp) (f__law_is : FSp) (f_sign_of : FSp) : DSt := (xSeq (xPar [3, 4] (xConsA (xOp addR (xC (.int 1)) (xOp mulR (xC (.int 2)) (xCall f__law_draw (xConsA (xMov 0) (xConsA (xC (.int 120)) xNilA))))) (xConsA (xOp addR (xC (.int 1)) (xOp mulR (xC (.int 2)) (xCall f__law_draw (xConsA (xMov 0) (xConsA (xC (.int 40)) xNilA))))) xNilA))) (k__law_are_signs_right_3 ad f__law_draw f__law_sign f__law_is f_sign_of))
def t__law_are_signs_right (ad : Ad) (f__law_draw : FSp) (f__law_sign : FSp) (f__law_is : FSp) (f_sign_of : FSp) : DSt := (xSeq (xPar [1, 2] (xConsA (xOp subR (xCall f__law_draw (xConsA (xMov 0) (xConsA (xC (.int 400)) xNilA))) (xC (.int 200))) (xConsA (xOp subR (xCall f__law_draw (xConsA (xMov 0) (xConsA (xC (.int 400)) xNilA))) (xC (.int 200))) xNilA))) (k__law_are_signs_right_4 ad f__law_draw f__law_sign f__law_is f_sign_of))
theorem der__law_are_signs_right {P : Program} {w : World} {K : PySem.W.Frag} {mg : Str → Option Value} {base : Heap} {ad : Ad} {G : Amb} {f : Addr} {k : Nat} (fx : Fx P w K mg ad) {k__law_draw : Nat} {f__law_draw : FSp} (c__law_draw : Cal P w K mg base G "_law_draw" ad._law_draw k__law_draw f__law_draw) (l__law_draw : k__law_draw ≤ k) {k__law_sign : Nat} {f__law_sign : FSp} (c__law_sign : Cal P w K mg base G "_law_sign" ad._law_sign k__law_sign f__law_sign) (l__law_sign : k__law_sign ≤ k) {k__law_is : Nat} {f__law_is : FSp} (c__law_is : Cal P w K mg base G "_law_is" ad._law_is k__law_is f__law_is) (l__law_is : k__law_is ≤ k) {k_sign_of : Nat} {f_sign_of : FSp} (c_sign_of : Cal P w K mg base G "sign_of" ad.sign_of k_sign_of f_sign_of) (l_sign_of : k_sign_of ≤ k) (cdv : Value) (A : Around) (outer : List PySem.Env) (s : Shared) (H : Hp) (E : XK) (hr : Room k (A.deeper (PyProof.Rows.envOfC "_law_are_signs_right" (defScope s__law_are_signs_right) s.heap.objs.size f cdv))) :
    DSs (cxOf (L2.CX P w) P w K mg base N__law_are_signs_right "_law_are_signs_right" (defScope s__law_are_signs_right) f cdv A outer s H E) G E (defBody s__law_are_signs_right) (t__law_are_signs_right ad f__law_draw f__law_sign f__law_is f_sign_of) := by
  have hu := hr.units
  have hu5 := units5 hr
  have htk : Takes (cxOf (L2.CX P w) P w K mg base N__law_are_signs_right "_law_are_signs_right" (defScope s__law_are_signs_right) f cdv A outer s H E) (fun cls d _ H => E cls d H) := takes_of rfl rfl rfl rfl
  have hx : Passes (L2.CX P w) (cxOf (L2.CX P w) P w K mg base N__law_are_signs_right "_law_are_signs_right" (defScope s__law_are_signs_right) f cdv A outer s H E) E := passes_call htk (fun _ _ _ _ h => h)
  have hp : PassesOwn (model P w) (cxOf (L2.CX P w) P w K mg base N__law_are_signs_right "_law_are_signs_right" (defScope s__law_are_signs_right) f cdv A outer s H E).A (cxOf (L2.CX P w) P w K mg base N__law_are_signs_right "_law_are_signs_right" (defScope s__law_are_signs_right) f cdv A outer s H E).env (cxOf (L2.CX P w) P w K mg base N__law_are_signs_right "_law_are_signs_right" (defScope s__law_are_signs_right) f cdv A outer s H E).xe := passes_of rfl
  exact (dss_cons (ds_par rfl nd__law_are_signs_right rfl rfl (by decide) rfl rfl (da_cons (de_op opd_sub (de_callC c__law_draw (hr.mono (by omega)) rfl hx (da_cons (de_mov (i := 0) rfl (by first | exact .inl rfl | exact .inr (.inl rfl) | exact .inr (.inr rfl))) (da_cons de_int da_nil))) de_int) (da_cons (de_op opd_sub (de_callC c__law_draw (hr.mono (by omega)) rfl hx (da_cons (de_mov (i := 0) rfl (by first | exact .inl rfl | exact .inr (.inl rfl) | exact .inr (.inr rfl))) (da_cons de_int da_nil))) de_int) da_nil)) rfl) (dss_cons (ds_par rfl nd__law_are_signs_right rfl rfl (by decide) rfl rfl (da_cons (de_op opd_add de_int (de_op opd_mul de_int (de_callC c__law_draw (hr.mono (by omega)) rfl hx (da_cons (de_mov (i := 0) rfl (by first | exact .inl rfl | exact .inr (.inl rfl) | exact .inr (.inr rfl))) (da_cons de_int da_nil))))) (da_cons (de_op opd_add de_int (de_op opd_mul de_int (de_callC c__law_draw (hr.mono (by omega)) rfl hx (da_cons (de_mov (i := 0) rfl (by first | exact .inl rfl | exact .inr (.inl rfl) | exact .inr (.inr rfl))) (da_cons de_int da_nil))))) da_nil)) rfl) (dss_cons (ds_set nd__law_are_signs_right rfl (by first | exact .inl rfl | exact .inr rfl) (de_lst (da_cons (de_callC c__law_sign (hr.mono (by omega)) rfl hx (da_cons (de_mov (i := 1) rfl (by first | exact .inl rfl | exact .inr (.inl rfl) | exact .inr (.inr rfl))) (da_cons (de_mov (i := 3) rfl (by first | exact .inl rfl | exact .inr (.inl rfl) | exact .inr (.inr rfl))) da_nil))) (da_cons (de_callC c__law_sign (hr.mono (by omega)) rfl hx (da_cons (de_mov (i := 2) rfl (by first | exact .inl rfl | exact .inr (.inl rfl) | exact .inr (.inr rfl))) (da_cons (de_mov (i := 3) rfl (by first | exact .inl rfl | exact .inr (.inl rfl) | exact .inr (.inr rfl))) da_nil))) (da_cons (de_callC c__law_sign (hr.mono (by omega)) rfl hx (da_cons (de_mov (i := 1) rfl (by first | exact .inl rfl | exact .inr (.inl rfl) | exact .inr (.inr rfl))) (da_cons (de_mov (i := 4) rfl (by first | exact .inl rfl | exact .inr (.inl rfl) | exact .inr (.inr rfl))) da_nil))) da_nil)))) rfl) (dss_cons (ds_if (db_not (db_tru (de_callC c__law_is (hr.mono (by omega)) rfl hx (da_cons (de_lst (da_cons (de_callC c_sign_of (hr.mono (by omega)) rfl hx (da_cons (de_mov (i := 1) rfl (by first | exact .inl rfl | exact .inr (.inl rfl) | exact .inr (.inr rfl))) (da_cons (de_mov (i := 3) rfl (by first | exact .inl rfl | exact .inr (.inl rfl) | exact .inr (.inr rfl))) da_nil))) (da_cons (de_callC c_sign_of (hr.mono (by omega)) rfl hx (da_cons (de_mov (i := 2) rfl (by first | exact .inl rfl | exact .inr (.inl rfl) | exact .inr (.inr rfl))) (da_cons (de_mov (i := 3) rfl (by first | exact .inl rfl | exact .inr (.inl rfl) | exact .inr (.inr rfl))) da_nil))) (da_cons (de_callC c_sign_of (hr.mono (by omega)) rfl hx (da_cons (de_mov (i := 1) rfl (by first | exact .inl rfl | exact .inr (.inl rfl) | exact .inr (.inr rfl))) (da_cons (de_mov (i := 4) rfl (by first | exact .inl rfl | exact .inr (.inl rfl) | exact .inr (.inr rfl))) da_nil))) da_nil)))) (da_cons (de_mov (i := 5) rfl (by first | exact .inl rfl | exact .inr (.inl rfl) | exact .inr (.inr rfl))) da_nil))))) (dss_one (ds_ret de_bl)) dss_nil) (dss_one (ds_ret (de_and (de_cmp (opd_eq hr.units) (de_callC c_sign_of (hr.mono (by omega)) rfl hx (da_cons (de_op opd_mul (de_var (i := 1) rfl (by first | exact .inl rfl | exact .inr (.inl rfl) | exact .inr (.inr rfl))) (de_var (i := 2) rfl (by first | exact .inl rfl | exact .inr (.inl rfl) | exact .inr (.inr rfl)))) (da_cons (de_mov (i := 3) rfl (by first | exact .inl rfl | exact .inr (.inl rfl) | exact .inr (.inr rfl))) da_nil))) (de_op opd_mul (de_ix ixd_seq (de_var (i := 5) rfl (by first | exact .inl rfl | exact .inr (.inl rfl) | exact .inr (.inr rfl))) de_int (fun _ _ => rfl)) (de_ix ixd_seq (de_var (i := 5) rfl (by first | exact .inl rfl | exact .inr (.inl rfl) | exact .inr (.inr rfl))) de_int (fun _ _ => rfl))) (by first | exact nobehind _ (by decide) (by decide) | rfl)) (de_one (de_cmp (opd_eq hr.units) (de_callC c_sign_of (hr.mono (by omega)) rfl hx (da_cons (de_mov (i := 1) rfl (by first | exact .inl rfl | exact .inr (.inl rfl) | exact .inr (.inr rfl))) (da_cons (de_op opd_mul (de_var (i := 3) rfl (by first | exact .inl rfl | exact .inr (.inl rfl) | exact .inr (.inr rfl))) (de_var (i := 4) rfl (by first | exact .inl rfl | exact .inr (.inl rfl) | exact .inr (.inr rfl)))) da_nil))) (de_op opd_mul (de_ix ixd_seq (de_var (i := 5) rfl (by first | exact .inl rfl | exact .inr (.inl rfl) | exact .inr (.inr rfl))) de_int (fun _ _ => rfl)) (de_ix ixd_seq (de_var (i := 5) rfl (by first | exact .inl rfl | exact .inr (.inl rfl) | exact .inr (.inr rfl))) de_int (fun _ _ => rfl))) (by first | exact nobehind _ (by decide) (by decide) | rfl))))))))))
def N__law_are_terms_right : List Str := ["hand", "row_told", "turn", "one", "number"]
theorem sc__law_are_terms_right : FnScope N__law_are_terms_right ["hand"] (defScope s__law_are_terms_right) := ⟨rfl, rfl, rfl, by decide +kernel, rfl, by decide +kernel, by decide +kernel⟩
theorem nd__law_are_terms_right : N__law_are_terms_right.Nodup := sc__law_are_terms_right.nd
def b__law_are_terms_right_1 (ad : Ad) (f__law_any : FSp) (f__law_draw : FSp) (f__law_is : FSp) (f_is_term : FSp) : DSt := (xDrop (xMt 1 appR (xConsA (xOp addR (xOp ixR (xVar 1) (xUn negR (xC (.int 1)))) (xOp ixR (xVar 1) (xUn negR (xC (.int 2))))) xNilA)))
def k__law_are_terms_right_2 (ad : Ad) (f__law_any : FSp) (f__law_draw : FSp) (f__law_is : FSp) (f_is_term : FSp) : DSt := (xRet (xCall f__law_is (xConsA (xLst (xConsA (xCall f_is_term (xConsA (xMov 4) xNilA)) (xConsA (xCall f_is_term (xConsA (xMov 3) xNilA)) xNilA))) (xConsA (xLst (xConsA (xOp inR (xVar 4) (xVar 1)) (xConsA (xC (.bl true)) xNilA))) xNilA))))
def k__law_are_terms_right_3 (ad : Ad) (f__law_any : FSp) (f__law_draw : FSp) (f__law_is : FSp) (f_is_term : FSp) : DSt := (xSeq (xAsg (xOp max2R (xC (.int 0)) (xCall f__law_any (xConsA (xMov 0) (xConsA (xLst (xConsA (xMov 3) (xConsA (xOp addR (xVar 3) (xC (.int 1))) (xConsA (xOp subR (xVar 3) (xC (.int 1))) (xConsA (xOp addR (xVar 3) (xC (.int 2))) (xConsA (xCall f__law_draw (xConsA (xMov 0) (xConsA (xC (.int 200)) xNilA))) xNilA)))))) xNilA)))) (xName 4)) (k__law_are_terms_right_2 ad f__law_any f__law_draw f__law_is f_is_term))
def k__law_are_terms_right_4 (ad : Ad) (f__law_any : FSp) (f__law_draw : FSp) (f__law_is : FSp) (f_is_term : FSp) : DSt := (xSeq (xAsg (xCallF f__law_any (xConsA (xVar 0) (xConsA (xVar 1) xNilA))) (xName 3)) (k__law_are_terms_right_3 ad f__law_any f__law_draw f__law_is f_is_term))
def k__law_are_terms_right_5 (ad : Ad) (f__law_any : FSp) (f__law_draw : FSp) (f__law_is : FSp) (f_is_term : FSp) : DSt := (xSeq (xFor (xRg1 (xC (.int 280))) (xName 2) (b__law_are_terms_right_1 ad f__law_any f__law_draw f__law_is f_is_term)) (k__law_are_terms_right_4 ad f__law_any f__law_draw f__law_is f_is_term))
def t__law_are_terms_right (ad : Ad) (f__law_any : FSp) (f__law_draw : FSp) (f__law_is : FSp) (f_is_term : FSp) : DSt := (xSeq (xAsg (xLst (xConsA (xC (.int 0)) (xConsA (xC (.int 1)) xNilA))) (xName 1)) (k__law_are_terms_right_5 ad f__law_any f__law_draw f__law_is f_is_term))
theorem der__law_are_terms_right {P : Program} {w : World} {K : PySem.W.Frag} {mg : Str → Option Value} {base : Heap} {ad : Ad} {G : Amb} {f : Addr} {k : Nat} (fx : Fx P w K mg ad) {k__law_any : Nat} {f__law_any : FSp} (c__law_any : Cal P w K mg base G "_law_any" ad._law_any k__law_any f__law_any) (l__law_any : k__law_any ≤ k) {k__law_draw : Nat} {f__law_draw : FSp} (c__law_draw : Cal P w K mg base G "_law_draw" ad._law_draw k__law_draw f__law_draw) (l__law_draw : k__law_draw ≤ k) {k__law_is : Nat} {f__law_is : FSp} (c__law_is : Cal P w K mg base G "_law_is" ad._law_is k__law_is f__law_is) (l__law_is : k__law_is ≤ k) {k_is_term : Nat} {f_is_term : FSp} (c_is_term : Cal P w K mg base G "is_term" ad.is_term k_is_term f_is_term) (l_is_term : k_is_term ≤ k) (cdv : Value) (A : Around) (outer : List PySem.Env) (s : Shared) (H : Hp) (E : XK) (hr : Room k (A.deeper (PyProof.Rows.envOfC "_law_are_terms_right" (defScope s__law_are_terms_right) s.heap.objs.size f cdv))) :
    DSs (cxOf (L2.CX P w) P w K mg base N__law_are_terms_right "_law_are_terms_right" (defScope s__law_are_terms_right) f cdv A outer s H E) G E (defBody s__law_are_terms_right) (t__law_are_terms_right ad f__law_any f__law_draw f__law_is f_is_term) := by
  have hu := hr.units
  have hu5 := units5 hr
  have htk : Takes (cxOf (L2.CX P w) P w K mg base N__law_are_terms_right "_law_are_terms_right" (defScope s__law_are_terms_right) f cdv A outer s H E) (fun cls d _ H => E cls d H) := takes_of rfl rfl rfl rfl
  have hx : Passes (L2.CX P w) (cxOf (L2.CX P w) P w K mg base N__law_are_terms_right "_law_are_terms_right" (defScope s__law_are_terms_right) f cdv A outer s H E) E := passes_call htk (fun _ _ _ _ h => h)
  have hp : PassesOwn (model P w) (cxOf (L2.CX P w) P w K mg base N__law_are_terms_right "_law_are_terms_right" (defScope s__law_are_terms_right) f cdv A outer s H E).A (cxOf (L2.CX P w) P w K mg base N__law_are_terms_right "_law_are_terms_right" (defScope s__law_are_terms_right) f cdv A outer s H E).env (cxOf (L2.CX P w) P w K mg base N__law_are_terms_right "_law_are_terms_right" (defScope s__law_are_terms_right) f cdv A outer s H E).xe := passes_of rfl
  exact (dss_cons (ds_set nd__law_are_terms_right rfl (by first | exact .inl rfl | exact .inr rfl) (de_lst (da_cons de_int (da_cons de_int da_nil))) rfl) (dss_cons (ds_for hp rfl (di_range1 rfl fx.g_range de_int) (dg_name nd__law_are_terms_right rfl (by first | exact .inl rfl | exact .inr rfl)) (dss_one (ds_expr (de_mt (i := 1) PySem.F.slot_list_append PySem.F.type_list_append md_append rfl (by first | exact .inl rfl | exact .inr (.inl rfl) | exact .inr (.inr rfl)) (da_cons (de_op opd_add (de_ix ixd_seq (de_var (i := 1) rfl (by first | exact .inl rfl | exact .inr (.inl rfl) | exact .inr (.inr rfl))) (de_un und_neg de_int) (fun _ _ => rfl)) (de_ix ixd_seq (de_var (i := 1) rfl (by first | exact .inl rfl | exact .inr (.inl rfl) | exact .inr (.inr rfl))) (de_un und_neg de_int) (fun _ _ => rfl))) da_nil)))) (by intro _; rfl)) (dss_cons (ds_set nd__law_are_terms_right rfl (by first | exact .inl rfl | exact .inr rfl) (de_callFC c__law_any (hr.mono (by omega)) rfl hx (da_cons (de_var (i := 0) rfl (by first | exact .inl rfl | exact .inr (.inl rfl) | exact .inr (.inr rfl))) (da_cons (de_var (i := 1) rfl (by first | exact .inl rfl | exact .inr (.inl rfl) | exact .inr (.inr rfl))) da_nil))) rfl) (dss_cons (ds_set nd__law_are_terms_right rfl (by first | exact .inl rfl | exact .inr rfl) (de_callB2 (cd_max2 rfl) rfl fx.g_max rfl de_int (de_callC c__law_any (hr.mono (by omega)) rfl hx (da_cons (de_mov (i := 0) rfl (by first | exact .inl rfl | exact .inr (.inl rfl) | exact .inr (.inr rfl))) (da_cons (de_lst (da_cons (de_mov (i := 3) rfl (by first | exact .inl rfl | exact .inr (.inl rfl) | exact .inr (.inr rfl))) (da_cons (de_op opd_add (de_var (i := 3) rfl (by first | exact .inl rfl | exact .inr (.inl rfl) | exact .inr (.inr rfl))) de_int) (da_cons (de_op opd_sub (de_var (i := 3) rfl (by first | exact .inl rfl | exact .inr (.inl rfl) | exact .inr (.inr rfl))) de_int) (da_cons (de_op opd_add (de_var (i := 3) rfl (by first | exact .inl rfl | exact .inr (.inl rfl) | exact .inr (.inr rfl))) de_int) (da_cons (de_callC c__law_draw (hr.mono (by omega)) rfl hx (da_cons (de_mov (i := 0) rfl (by first | exact .inl rfl | exact .inr (.inl rfl) | exact .inr (.inr rfl))) (da_cons de_int da_nil))) da_nil)))))) da_nil)))) rfl) (dss_one (ds_ret (de_callC c__law_is (hr.mono (by omega)) rfl hx (da_cons (de_lst (da_cons (de_callC c_is_term (hr.mono (by omega)) rfl hx (da_cons (de_mov (i := 4) rfl (by first | exact .inl rfl | exact .inr (.inl rfl) | exact .inr (.inr rfl))) da_nil)) (da_cons (de_callC c_is_term (hr.mono (by omega)) rfl hx (da_cons (de_mov (i := 3) rfl (by first | exact .inl rfl | exact .inr (.inl rfl) | exact .inr (.inr rfl))) da_nil)) da_nil))) (da_cons (de_lst (da_cons (de_cmp (opd_in (units5 hr)) (de_var (i := 4) rfl (by first | exact .inl rfl | exact .inr (.inl rfl) | exact .inr (.inr rfl))) (de_var (i := 1) rfl (by first | exact .inl rfl | exact .inr (.inl rfl) | exact .inr (.inr rfl))) (by first | exact nobehind _ (by decide) (by decide) | rfl)) (da_cons de_bl da_nil))) da_nil)))))))))
def N__law_refused_right : List Str := ["hand", "odd", "even", "place", "words"]
theorem sc__law_refused_right : FnScope N__law_refused_right ["hand"] (defScope s__law_refused_right) := ⟨rfl, rfl, rfl, by decide +kernel, rfl, by decide +kernel, by decide +kernel⟩
theorem nd__law_refused_right : N__law_refused_right.Nodup := sc__law_refused_right.nd
def k__law_refused_right_1 (ad : Ad) (f__law_any : FSp) (f_pair_terms : FSp) (f_pair_rests : FSp) (f_sign_of : FSp) (f_is_term : FSp) : DSt := (xRet (xOp eqR (xVar 4) (xOp mulR (xLst (xConsA (xC (.str "number")) xNilA)) (xC (.int 6)))))
def k__law_refused_right_2 (ad : Ad) (f__law_any : FSp) (f_pair_terms : FSp) (f_pair_rests : FSp) (f_sign_of : FSp) (f_is_term : FSp) : DSt := (xSeq (xDrop (xMt 4 appR (xConsA (xHear (R__law_word ad) l__law_word (xCall f_is_term (xConsA (xUn negR (xC (.int 1))) xNilA))) xNilA))) (k__law_refused_right_1 ad f__law_any f_pair_terms f_pair_rests f_sign_of f_is_term))
def k__law_refused_right_3 (ad : Ad) (f__law_any : FSp) (f_pair_terms : FSp) (f_pair_rests : FSp) (f_sign_of : FSp) (f_is_term : FSp) : DSt := (xSeq (xDrop (xMt 4 appR (xConsA (xHear (R__law_word ad) l__law_word (xCall f_sign_of (xConsA (xC (.int 5)) (xConsA (xMov 2) xNilA)))) xNilA))) (k__law_refused_right_2 ad f__law_any f_pair_terms f_pair_rests f_sign_of f_is_term))
def k__law_refused_right_4 (ad : Ad) (f__law_any : FSp) (f_pair_terms : FSp) (f_pair_rests : FSp) (f_sign_of : FSp) (f_is_term : FSp) : DSt := (xSeq (xDrop (xMt 4 appR (xConsA (xHear (R__law_word ad) l__law_word (xCall f_pair_rests (xConsA (xC (.int 1)) (xConsA (xC (.int 1)) (xConsA (xC (.int 5)) (xConsA (xMov 2) xNilA)))))) xNilA))) (k__law_refused_right_3 ad f__law_any f_pair_terms f_pair_rests f_sign_of f_is_term))
def k__law_refused_right_5 (ad : Ad) (f__law_any : FSp) (f_pair_terms : FSp) (f_pair_rests : FSp) (f_sign_of : FSp) (f_is_term : FSp) : DSt := (xSeq (xDrop (xMt 4 appR (xConsA (xHear (R__law_word ad) l__law_word (xCall f_pair_terms (xConsA (xC (.int 1)) (xConsA (xC (.int 1)) (xConsA (xMov 3) xNilA))))) xNilA))) (k__law_refused_right_4 ad f__law_any f_pair_terms f_pair_rests f_sign_of f_is_term))
def k__law_refused_right_6 (ad : Ad) (f__law_any : FSp) (f_pair_terms : FSp) (f_pair_rests : FSp) (f_sign_of : FSp) (f_is_term : FSp) : DSt := (xSeq (xDrop (xMt 4 appR (xConsA (xHear (R__law_word ad) l__law_word (xCall f_pair_terms (xConsA (xC (.int 1)) (xConsA (xMov 1) (xConsA (xC (.int 1)) xNilA))))) xNilA))) (k__law_refused_right_5 ad f__law_any f_pair_terms f_pair_rests f_sign_of f_is_term))
def k__law_refused_right_7 (ad : Ad) (f__law_any : FSp) (f_pair_terms : FSp) (f_pair_rests : FSp) (f_sign_of : FSp) (f_is_term : FSp) : DSt := (xSeq (xAsg (xLst (xConsA (xHear (R__law_word ad) l__law_word (xCall f_pair_terms (xConsA (xMov 1) (xConsA (xC (.int 1)) (xConsA (xC (.int 1)) xNilA))))) xNilA)) (xName 4)) (k__law_refused_right_6 ad f__law_any f_pair_terms f_pair_rests f_sign_of f_is_term))
def k__law_refused_right_8 (ad : Ad) (f__law_any : FSp) (f_pair_terms : FSp) (f_pair_rests : FSp) (f_sign_of : FSp) (f_is_term : FSp) : DSt := (xSeq (xAsg (xCall f__law_any (xConsA (xMov 0) (xConsA (xLst (xConsA (xUn negR (xC (.int 1))) (xConsA (xC (.int 2001)) (xConsA (xC .non) (xConsA (xC (.bl true)) (xConsA (xC (.str "1")) xNilA)))))) xNilA))) (xName 3)) (k__law_refused_right_7 ad f__law_any f_pair_terms f_pair_rests f_sign_of f_is_term))
def t__law_refused_right (ad : Ad) (f__law_any : FSp) (f_pair_terms : FSp) (f_pair_rests : FSp) (f_sign_of : FSp) (f_is_term : FSp) : DSt := (xSeq (xAsg (xTup (xConsA (xCall f__law_any (xConsA (xMov 0) (xConsA (xLst (xConsA (xC .non) (xConsA (xC (.bl true)) (xConsA (xC (.str "1")) (xConsA (xTup (xConsA (xC (.int 1)) xNilA)) (xConsA (xOp addR (xOp powR (xC (.int 10)) (xC (.int 6))) (xC (.int 1))) (xConsA (xOp subR (xUn negR (xOp powR (xC (.int 10)) (xC (.int 6)))) (xC (.int 1))) xNilA))))))) xNilA))) (xConsA (xCall f__law_any (xConsA (xMov 0) (xConsA (xLst (xConsA (xC (.int 0)) (xConsA (xC (.int 2)) (xConsA (xC (.int 10)) (xConsA (xC .non) xNilA))))) xNilA))) xNilA))) (xTupG [(xName 1), (xName 2)])) (k__law_refused_right_8 ad f__law_any f_pair_terms f_pair_rests f_sign_of f_is_term))
theorem der__law_refused_right {P : Program} {w : World} {K : PySem.W.Frag} {mg : Str → Option Value} {base : Heap} {ad : Ad} {h c : Addr} {hc : h ≠ c} {cc P0 : Addr} (TB : LamX.TabB base mg cc P0) {f : Addr} {k : Nat} (fx : Fx P w K mg ad) {k__law_any : Nat} {f__law_any : FSp} (c__law_any : Cal P w K mg base (GG P0 h c hc) "_law_any" ad._law_any k__law_any f__law_any) (l__law_any : k__law_any ≤ k) {k_pair_terms : Nat} {f_pair_terms : FSp} (c_pair_terms : Cal P w K mg base (GG P0 h c hc) "pair_terms" ad.pair_terms k_pair_terms f_pair_terms) (l_pair_terms : k_pair_terms ≤ k) {k_pair_rests : Nat} {f_pair_rests : FSp} (c_pair_rests : Cal P w K mg base (GG P0 h c hc) "pair_rests" ad.pair_rests k_pair_rests f_pair_rests) (l_pair_rests : k_pair_rests ≤ k) {k_sign_of : Nat} {f_sign_of : FSp} (c_sign_of : Cal P w K mg base (GG P0 h c hc) "sign_of" ad.sign_of k_sign_of f_sign_of) (l_sign_of : k_sign_of ≤ k) {k_is_term : Nat} {f_is_term : FSp} (c_is_term : Cal P w K mg base (GG P0 h c hc) "is_term" ad.is_term k_is_term f_is_term) (l_is_term : k_is_term ≤ k) (A : Around) (outer : List PySem.Env) (s : Shared) (H : Hp) (E : XK) (hr : Room (k + 3) (A.deeper (PyProof.Rows.envOfC "_law_refused_right" (defScope s__law_refused_right) s.heap.objs.size f (.ref cc)))) :
    DSs (cxOf (L2.CX P w) P w K mg base N__law_refused_right "_law_refused_right" (defScope s__law_refused_right) f (.ref cc) A outer s H E) (GG P0 h c hc) E (defBody s__law_refused_right) (t__law_refused_right ad f__law_any f_pair_terms f_pair_rests f_sign_of f_is_term) := by
  have hu := hr.units
  have hu5 := units5 hr
  have htk : Takes (cxOf (L2.CX P w) P w K mg base N__law_refused_right "_law_refused_right" (defScope s__law_refused_right) f (.ref cc) A outer s H E) (fun cls d _ H => E cls d H) := takes_of rfl rfl rfl rfl
  have hx : Passes (L2.CX P w) (cxOf (L2.CX P w) P w K mg base N__law_refused_right "_law_refused_right" (defScope s__law_refused_right) f (.ref cc) A outer s H E) E := passes_call htk (fun _ _ _ _ h => h)
  have hp : PassesOwn (model P w) (cxOf (L2.CX P w) P w K mg base N__law_refused_right "_law_refused_right" (defScope s__law_refused_right) f (.ref cc) A outer s H E).A (cxOf (L2.CX P w) P w K mg base N__law_refused_right "_law_refused_right" (defScope s__law_refused_right) f (.ref cc) A outer s H E).env (cxOf (L2.CX P w) P w K mg base N__law_refused_right "_law_refused_right" (defScope s__law_refused_right) f (.ref cc) A outer s H E).xe := passes_of rfl
  obtain ⟨fd__law_word, F__law_word⟩ := fx.f__law_word
  have b__law_word : Binds K fd__law_word ["call"] [] := F__law_word.bindsN fun _ _ _ _ _ _ us hl => match us, hl with | [_], _ => rfl
  have kp__law_word := F__law_word.kp
  obtain ⟨oc__law_word, od__law_word, dV__law_word, kV__law_word, doc__law_word, pm__law_word, an__law_word, cdv__law_word, ct__law_word, osl__law_word, rfl, lk__law_word, cd__law_word, _, _⟩ := F__law_word.ex
  exact (dss_cons (ds_asg (de_tup (da_cons (de_callC c__law_any (hr.mono (by omega)) rfl hx (da_cons (de_mov (i := 0) rfl (by first | exact .inl rfl | exact .inr (.inl rfl) | exact .inr (.inr rfl))) (da_cons (de_lst (da_cons de_non (da_cons de_bl (da_cons de_str (da_cons (de_tup (da_cons de_int da_nil)) (da_cons (de_op opd_add (de_op opd_pow de_int de_int) de_int) (da_cons (de_op opd_sub (de_un und_neg (de_op opd_pow de_int de_int)) de_int) da_nil))))))) da_nil))) (da_cons (de_callC c__law_any (hr.mono (by omega)) rfl hx (da_cons (de_mov (i := 0) rfl (by first | exact .inl rfl | exact .inr (.inl rfl) | exact .inr (.inr rfl))) (da_cons (de_lst (da_cons de_int (da_cons de_int (da_cons de_int (da_cons de_non da_nil))))) da_nil))) da_nil))) (dg_tup rfl (dgs_cons (dg_name nd__law_refused_right rfl (by first | exact .inl rfl | exact .inr rfl)) (dgs_cons (dg_name nd__law_refused_right rfl (by first | exact .inl rfl | exact .inr rfl)) dgs_nil)))) (dss_cons (ds_set nd__law_refused_right rfl (by first | exact .inl rfl | exact .inr rfl) (de_callC c__law_any (hr.mono (by omega)) rfl hx (da_cons (de_mov (i := 0) rfl (by first | exact .inl rfl | exact .inr (.inl rfl) | exact .inr (.inr rfl))) (da_cons (de_lst (da_cons (de_un und_neg de_int) (da_cons de_int (da_cons de_non (da_cons de_bl (da_cons de_str da_nil)))))) da_nil))) rfl) (dss_cons (ds_set nd__law_refused_right rfl (by first | exact .inl rfl | exact .inr rfl) (de_lst (da_cons (de_hear (k := k) (T := TT P0) (R := R__law_word ad) (l := l__law_word) rfl fx.g__law_word kp__law_word lk__law_word cd__law_word b__law_word sc__law_word rfl (.inl rfl) (gives__law_word fx _) TB rfl (List.Mem.head _) (hu__law_refused_right ) (hr.mono (by omega)) (LamX.lamS_by (by kernel_rfl)) rfl (fun _ _ _ _ _ => rfl) (fun _ i => i.2) handA_ext (fun A outer s H E f c' hr => (de_callC c_pair_terms (hr.mono (by omega)) rfl lam_pass (da_cons (de_mov (i := 1) rfl (by first | exact .inl rfl | exact .inr (.inl rfl) | exact .inr (.inr rfl))) (da_cons de_int (da_cons de_int da_nil)))))) da_nil)) rfl) (dss_cons (ds_expr (de_mt (i := 4) PySem.F.slot_list_append PySem.F.type_list_append md_append rfl (by first | exact .inl rfl | exact .inr (.inl rfl) | exact .inr (.inr rfl)) (da_cons (de_hear (k := k) (T := TT P0) (R := R__law_word ad) (l := l__law_word) rfl fx.g__law_word kp__law_word lk__law_word cd__law_word b__law_word sc__law_word rfl (.inl rfl) (gives__law_word fx _) TB rfl (List.Mem.head _) (hu__law_refused_right ) (hr.mono (by omega)) (LamX.lamS_by (by kernel_rfl)) rfl (fun _ _ _ _ _ => rfl) (fun _ i => i.2) handA_ext (fun A outer s H E f c' hr => (de_callC c_pair_terms (hr.mono (by omega)) rfl lam_pass (da_cons de_int (da_cons (de_mov (i := 1) rfl (by first | exact .inl rfl | exact .inr (.inl rfl) | exact .inr (.inr rfl))) (da_cons de_int da_nil)))))) da_nil))) (dss_cons (ds_expr (de_mt (i := 4) PySem.F.slot_list_append PySem.F.type_list_append md_append rfl (by first | exact .inl rfl | exact .inr (.inl rfl) | exact .inr (.inr rfl)) (da_cons (de_hear (k := k) (T := TT P0) (R := R__law_word ad) (l := l__law_word) rfl fx.g__law_word kp__law_word lk__law_word cd__law_word b__law_word sc__law_word rfl (.inl rfl) (gives__law_word fx _) TB rfl (List.Mem.head _) (hu__law_refused_right ) (hr.mono (by omega)) (LamX.lamS_by (by kernel_rfl)) rfl (fun _ _ _ _ _ => rfl) (fun _ i => i.2) handA_ext (fun A outer s H E f c' hr => (de_callC c_pair_terms (hr.mono (by omega)) rfl lam_pass (da_cons de_int (da_cons de_int (da_cons (de_mov (i := 3) rfl (by first | exact .inl rfl | exact .inr (.inl rfl) | exact .inr (.inr rfl))) da_nil)))))) da_nil))) (dss_cons (ds_expr (de_mt (i := 4) PySem.F.slot_list_append PySem.F.type_list_append md_append rfl (by first | exact .inl rfl | exact .inr (.inl rfl) | exact .inr (.inr rfl)) (da_cons (de_hear (k := k) (T := TT P0) (R := R__law_word ad) (l := l__law_word) rfl fx.g__law_word kp__law_word lk__law_word cd__law_word b__law_word sc__law_word rfl (.inl rfl) (gives__law_word fx _) TB rfl (List.Mem.head _) (hu__law_refused_right ) (hr.mono (by omega)) (LamX.lamS_by (by kernel_rfl)) rfl (fun _ _ _ _ _ => rfl) (fun _ i => i.2) handA_ext (fun A outer s H E f c' hr => (de_callC c_pair_rests (hr.mono (by omega)) rfl lam_pass (da_cons de_int (da_cons de_int (da_cons de_int (da_cons (de_mov (i := 2) rfl (by first | exact .inl rfl | exact .inr (.inl rfl) | exact .inr (.inr rfl))) da_nil))))))) da_nil))) (dss_cons (ds_expr (de_mt (i := 4) PySem.F.slot_list_append PySem.F.type_list_append md_append rfl (by first | exact .inl rfl | exact .inr (.inl rfl) | exact .inr (.inr rfl)) (da_cons (de_hear (k := k) (T := TT P0) (R := R__law_word ad) (l := l__law_word) rfl fx.g__law_word kp__law_word lk__law_word cd__law_word b__law_word sc__law_word rfl (.inl rfl) (gives__law_word fx _) TB rfl (List.Mem.head _) (hu__law_refused_right ) (hr.mono (by omega)) (LamX.lamS_by (by kernel_rfl)) rfl (fun _ _ _ _ _ => rfl) (fun _ i => i.2) handA_ext (fun A outer s H E f c' hr => (de_callC c_sign_of (hr.mono (by omega)) rfl lam_pass (da_cons de_int (da_cons (de_mov (i := 2) rfl (by first | exact .inl rfl | exact .inr (.inl rfl) | exact .inr (.inr rfl))) da_nil))))) da_nil))) (dss_cons (ds_expr (de_mt (i := 4) PySem.F.slot_list_append PySem.F.type_list_append md_append rfl (by first | exact .inl rfl | exact .inr (.inl rfl) | exact .inr (.inr rfl)) (da_cons (de_hear (k := k) (T := TT P0) (R := R__law_word ad) (l := l__law_word) rfl fx.g__law_word kp__law_word lk__law_word cd__law_word b__law_word sc__law_word rfl (.inl rfl) (gives__law_word fx _) TB rfl (List.Mem.head _) (hu__law_refused_right ) (hr.mono (by omega)) (LamX.lamS_by (by kernel_rfl)) rfl (fun _ _ _ _ _ => rfl) (fun _ i => i.2) handA_ext (fun A outer s H E f c' hr => (de_callC c_is_term (hr.mono (by omega)) rfl lam_pass (da_cons (de_un und_neg de_int) da_nil)))) da_nil))) (dss_one (ds_ret (de_cmp (opd_eq hr.units) (de_var (i := 4) rfl (by first | exact .inl rfl | exact .inr (.inl rfl) | exact .inr (.inr rfl))) (de_op opd_mul (de_lst (da_cons de_str da_nil)) de_int) (by first | exact nobehind _ (by decide) (by decide) | rfl))))))))))))
def N_law : List Str := ["script", "hand", "told", "turn"]
theorem sc_law : FnScope N_law ["script"] (defScope s_law) := ⟨rfl, rfl, rfl, by decide +kernel, rfl, by decide +kernel, by decide +kernel⟩
theorem nd_law : N_law.Nodup := sc_law.nd
def t_law0 (f__law_hand : FSp) : DSt := (xAsg (xCall f__law_hand (xConsA (xMov 0) xNilA)) (xName 1))
def k_law_1 (ad : Ad) (f_pair_terms : FSp) (f_pair_rests : FSp) (f_sign_of : FSp) (f_is_term : FSp) (f__law_is : FSp) (f__law_is_right : FSp) (f__law_are_signs_right : FSp) (f__law_are_terms_right : FSp) (f__law_refused_right : FSp) : DSt := (xIf (xNot (xTru (xCall f__law_refused_right (xConsA (xMov 1) xNilA)))) (xRet (xC (.bl false))) xNext)
def b_law_2 (ad : Ad) (f_pair_terms : FSp) (f_pair_rests : FSp) (f_sign_of : FSp) (f_is_term : FSp) (f__law_is : FSp) (f__law_is_right : FSp) (f__law_are_signs_right : FSp) (f__law_are_terms_right : FSp) (f__law_refused_right : FSp) : DSt := (xSeq (xIf (xOr (xNot (xTru (xCall f__law_is_right (xConsA (xMov 1) xNilA)))) (xOr (xNot (xTru (xCall f__law_are_signs_right (xConsA (xMov 1) xNilA)))) (xNot (xTru (xCall f__law_are_terms_right (xConsA (xMov 1) xNilA)))))) (xRet (xC (.bl false))) xNext) (k_law_1 ad f_pair_terms f_pair_rests f_sign_of f_is_term f__law_is f__law_is_right f__law_are_signs_right f__law_are_terms_right f__law_refused_right))
def k_law_3 (ad : Ad) (f_pair_terms : FSp) (f_pair_rests : FSp) (f_sign_of : FSp) (f_is_term : FSp) (f__law_is : FSp) (f__law_is_right : FSp) (f__law_are_signs_right : FSp) (f__law_are_terms_right : FSp) (f__law_refused_right : FSp) : DSt := (xRet (xC (.bl true)))
def k_law_4 (ad : Ad) (f_pair_terms : FSp) (f_pair_rests : FSp) (f_sign_of : FSp) (f_is_term : FSp) (f__law_is : FSp) (f__law_is_right : FSp) (f__law_are_signs_right : FSp) (f__law_are_terms_right : FSp) (f__law_refused_right : FSp) : DSt := (xSeq (xFor (xRg1 (xC (.int 4))) (xName 3) (b_law_2 ad f_pair_terms f_pair_rests f_sign_of f_is_term f__law_is f__law_is_right f__law_are_signs_right f__law_are_terms_right f__law_refused_right)) (k_law_3 ad f_pair_terms f_pair_rests f_sign_of f_is_term f__law_is f__law_is_right f__law_are_signs_right f__law_are_terms_right f__law_refused_right))
def k_law_5 (ad : Ad) (f_pair_terms : FSp) (f_pair_rests : FSp) (f_sign_of : FSp) (f_is_term : FSp) (f__law_is : FSp) (f__law_is_right : FSp) (f__law_are_signs_right : FSp) (f__law_are_terms_right : FSp) (f__law_refused_right : FSp) : DSt := (xSeq (xIf (xNot (xTru (xCall f__law_is (xConsA (xMov 2) (xConsA (xLst (xConsA (xTup (xConsA (xC (.int 55)) (xConsA (xC (.int 123)) xNilA))) (xConsA (xTup (xConsA (xC (.int 6)) (xConsA (xC (.int 4)) xNilA))) (xConsA (xC (.int 1)) (xConsA (xC (.int 1)) (xConsA (xC (.bl true)) (xConsA (xC (.bl false)) xNilA))))))) xNilA))))) (xRet (xC (.bl false))) xNext) (k_law_4 ad f_pair_terms f_pair_rests f_sign_of f_is_term f__law_is f__law_is_right f__law_are_signs_right f__law_are_terms_right f__law_refused_right))
def t_law (ad : Ad) (f_pair_terms : FSp) (f_pair_rests : FSp) (f_sign_of : FSp) (f_is_term : FSp) (f__law_is : FSp) (f__law_is_right : FSp) (f__law_are_signs_right : FSp) (f__law_are_terms_right : FSp) (f__law_refused_right : FSp) : DSt := (xSeq (xAsg (xLst (xConsA (xCall f_pair_terms (xConsA (xC (.int 1)) (xConsA (xUn negR (xC (.int 1))) (xConsA (xC (.int 10)) xNilA)))) (xConsA (xCall f_pair_rests (xConsA (xC (.int 1)) (xConsA (xUn negR (xC (.int 1))) (xConsA (xC (.int 10)) (xConsA (xC (.int 7)) xNilA))))) (xConsA (xCall f_sign_of (xConsA (xC (.int 2)) (xConsA (xC (.int 15)) xNilA))) (xConsA (xCall f_sign_of (xConsA (xC (.int 5)) (xConsA (xC (.int 21)) xNilA))) (xConsA (xCall f_is_term (xConsA (xC (.int 8)) xNilA)) (xConsA (xCall f_is_term (xConsA (xC (.int 4)) xNilA)) xNilA))))))) (xName 2)) (k_law_5 ad f_pair_terms f_pair_rests f_sign_of f_is_term f__law_is f__law_is_right f__law_are_signs_right f__law_are_terms_right f__law_refused_right))
theorem ok_law {P : Program} {w : World} {K : PySem.W.Frag} {mg : Str → Option Value} {base : Heap} {ad : Ad} {f : Addr} {k : Nat} {P0 : Addr} {dV kV doc pm ct oc : Value} {an od : Option Addr} {osl : Array (Option Value)} {cc : Addr} (fx : Fx P w K mg ad)
    (lk : K.lookup f = some ⟨oc, od, .func (PySem.W.fnOf "law" "law" (defArgs s_law) (defBody s_law) (defScope s_law) dV kV doc pm an (.ref cc) ct), osl⟩) (hcd : PySem.W.codeIn K (.ref cc) "law" = true)
    {k_h : Nat} {f_h : Addr → List Int → FSp} (c_h : ∀ (G : Amb) (a : Addr) (ns : List Int), (∀ H, G.inv H → SqL K H a (ns.map V.int)) → Cal P w K mg base G "_law_hand" ad._law_hand k_h (f_h a ns)) (l_h : k_h ≤ k + 3)
    (r0 : ∀ (a : Addr) (ns : List Int), ns.length ≤ 63 → t_law0 (f_h a ns) { noE with nx := fun δ => ∃ d, δ = .val (.ref a) :: .val d :: List.replicate 2 .un ∧ handD d } (.val (.ref a) :: List.replicate 3 .un))
    {k_pair_terms : Nat} {f_pair_terms : Addr → FSp} (C_pair_terms : ∀ (h c : Addr) (hc : h ≠ c), Cal P w K mg base (GG P0 h c hc) "pair_terms" ad.pair_terms k_pair_terms (f_pair_terms h)) (l_pair_terms : k_pair_terms ≤ k)
    {k_pair_rests : Nat} {f_pair_rests : Addr → FSp} (C_pair_rests : ∀ (h c : Addr) (hc : h ≠ c), Cal P w K mg base (GG P0 h c hc) "pair_rests" ad.pair_rests k_pair_rests (f_pair_rests h)) (l_pair_rests : k_pair_rests ≤ k)
    {k_sign_of : Nat} {f_sign_of : Addr → FSp} (C_sign_of : ∀ (h c : Addr) (hc : h ≠ c), Cal P w K mg base (GG P0 h c hc) "sign_of" ad.sign_of k_sign_of (f_sign_of h)) (l_sign_of : k_sign_of ≤ k)
    {k_is_term : Nat} {f_is_term : Addr → FSp} (C_is_term : ∀ (h c : Addr) (hc : h ≠ c), Cal P w K mg base (GG P0 h c hc) "is_term" ad.is_term k_is_term (f_is_term h)) (l_is_term : k_is_term ≤ k)
    {k__law_is : Nat} {f__law_is : Addr → FSp} (C__law_is : ∀ (h c : Addr) (hc : h ≠ c), Cal P w K mg base (GG P0 h c hc) "_law_is" ad._law_is k__law_is (f__law_is h)) (l__law_is : k__law_is ≤ k)
    {k__law_is_right : Nat} {f__law_is_right : Addr → FSp} (C__law_is_right : ∀ (h c : Addr) (hc : h ≠ c), Cal P w K mg base (GG P0 h c hc) "_law_is_right" ad._law_is_right k__law_is_right (f__law_is_right h)) (l__law_is_right : k__law_is_right ≤ k)
    {k__law_are_signs_right : Nat} {f__law_are_signs_right : Addr → FSp} (C__law_are_signs_right : ∀ (h c : Addr) (hc : h ≠ c), Cal P w K mg base (GG P0 h c hc) "_law_are_signs_right" ad._law_are_signs_right k__law_are_signs_right (f__law_are_signs_right h)) (l__law_are_signs_right : k__law_are_signs_right ≤ k)
    {k__law_are_terms_right : Nat} {f__law_are_terms_right : Addr → FSp} (C__law_are_terms_right : ∀ (h c : Addr) (hc : h ≠ c), Cal P w K mg base (GG P0 h c hc) "_law_are_terms_right" ad._law_are_terms_right k__law_are_terms_right (f__law_are_terms_right h)) (l__law_are_terms_right : k__law_are_terms_right ≤ k)
    {k__law_refused_right : Nat} {f__law_refused_right : Addr → FSp} (C__law_refused_right : ∀ (h c : Addr) (hc : h ≠ c), Cal P w K mg base (GG P0 h c hc) "_law_refused_right" ad._law_refused_right k__law_refused_right (f__law_refused_right h)) (l__law_refused_right : k__law_refused_right ≤ k)
    (r1 : ∀ (a h : Addr), t_law ad (f_pair_terms h) (f_pair_rests h) (f_sign_of h) (f_is_term h) (f__law_is h) (f__law_is_right h) (f__law_are_signs_right h) (f__law_are_terms_right h) (f__law_refused_right h) { noE with rt := fun d => d = .bl true } (.val (.ref a) :: .val (.ref h) :: List.replicate 2 .un)) :
    FnOk P w K mg base (L2.CX P w) (k + 4) f (PySem.W.fnOf "law" "law" (defArgs s_law) (defBody s_law) (defScope s_law) dV kV doc pm an (.ref cc) ct) ["script"] (lawSp K (TT P0)) := by
  refine fn_law (k := k + 3) (m := 2) (τ0 := fun a ns => t_law0 (f_h a ns)) (τ := fun h => t_law ad (f_pair_terms h) (f_pair_rests h) (f_sign_of h) (f_is_term h) (f__law_is h) (f__law_is_right h) (f__law_are_signs_right h) (f__law_are_terms_right h) (f__law_refused_right h)) lk hcd sc_law rfl (fun G a ns hs A outer s H E hr => ?_) r0 (fun h c hc A outer s H E hr => ?_) r1
  · have c__law_hand := c_h G a ns hs
    have htk : Takes (cxOf (L2.CX P w) P w K mg base N_law "law" (defScope s_law) f (.ref cc) A outer s H E) (fun cls d _ H => E cls d H) := takes_of rfl rfl rfl rfl
    have hx : Passes (L2.CX P w) (cxOf (L2.CX P w) P w K mg base N_law "law" (defScope s_law) f (.ref cc) A outer s H E) E := passes_call htk (fun _ _ _ _ h => h)
    have hp : PassesOwn (model P w) (cxOf (L2.CX P w) P w K mg base N_law "law" (defScope s_law) f (.ref cc) A outer s H E).A (cxOf (L2.CX P w) P w K mg base N_law "law" (defScope s_law) f (.ref cc) A outer s H E).env (cxOf (L2.CX P w) P w K mg base N_law "law" (defScope s_law) f (.ref cc) A outer s H E).xe := passes_of rfl
    exact (ds_set nd_law rfl (by first | exact .inl rfl | exact .inr rfl) (de_callC c__law_hand (hr.mono (by omega)) rfl hx (da_cons (de_mov (i := 0) rfl (by first | exact .inl rfl | exact .inr (.inl rfl) | exact .inr (.inr rfl))) da_nil)) rfl)
  · have c_pair_terms := C_pair_terms h c hc
    have c_pair_rests := C_pair_rests h c hc
    have c_sign_of := C_sign_of h c hc
    have c_is_term := C_is_term h c hc
    have c__law_is := C__law_is h c hc
    have c__law_is_right := C__law_is_right h c hc
    have c__law_are_signs_right := C__law_are_signs_right h c hc
    have c__law_are_terms_right := C__law_are_terms_right h c hc
    have c__law_refused_right := C__law_refused_right h c hc
    have htk : Takes (cxOf (L2.CX P w) P w K mg base N_law "law" (defScope s_law) f (.ref cc) A outer s H E) (fun cls d _ H => E cls d H) := takes_of rfl rfl rfl rfl
    have hx : Passes (L2.CX P w) (cxOf (L2.CX P w) P w K mg base N_law "law" (defScope s_law) f (.ref cc) A outer s H E) E := passes_call htk (fun _ _ _ _ h => h)
    have hp : PassesOwn (model P w) (cxOf (L2.CX P w) P w K mg base N_law "law" (defScope s_law) f (.ref cc) A outer s H E).A (cxOf (L2.CX P w) P w K mg base N_law "law" (defScope s_law) f (.ref cc) A outer s H E).env (cxOf (L2.CX P w) P w K mg base N_law "law" (defScope s_law) f (.ref cc) A outer s H E).xe := passes_of rfl
    exact (dss_cons (ds_set nd_law rfl (by first | exact .inl rfl | exact .inr rfl) (de_lst (da_cons (de_callC c_pair_terms (hr.mono (by omega)) rfl hx (da_cons de_int (da_cons (de_un und_neg de_int) (da_cons de_int da_nil)))) (da_cons (de_callC c_pair_rests (hr.mono (by omega)) rfl hx (da_cons de_int (da_cons (de_un und_neg de_int) (da_cons de_int (da_cons de_int da_nil))))) (da_cons (de_callC c_sign_of (hr.mono (by omega)) rfl hx (da_cons de_int (da_cons de_int da_nil))) (da_cons (de_callC c_sign_of (hr.mono (by omega)) rfl hx (da_cons de_int (da_cons de_int da_nil))) (da_cons (de_callC c_is_term (hr.mono (by omega)) rfl hx (da_cons de_int da_nil)) (da_cons (de_callC c_is_term (hr.mono (by omega)) rfl hx (da_cons de_int da_nil)) da_nil))))))) rfl) (dss_cons (ds_if (db_not (db_tru (de_callC c__law_is (hr.mono (by omega)) rfl hx (da_cons (de_mov (i := 2) rfl (by first | exact .inl rfl | exact .inr (.inl rfl) | exact .inr (.inr rfl))) (da_cons (de_lst (da_cons (de_tup (da_cons de_int (da_cons de_int da_nil))) (da_cons (de_tup (da_cons de_int (da_cons de_int da_nil))) (da_cons de_int (da_cons de_int (da_cons de_bl (da_cons de_bl da_nil))))))) da_nil))))) (dss_one (ds_ret de_bl)) dss_nil) (dss_cons (ds_for hp rfl (di_range1 rfl fx.g_range de_int) (dg_name nd_law rfl (by first | exact .inl rfl | exact .inr rfl)) (dss_cons (ds_if (DW.db (dw_or (db_not (db_tru (de_callC c__law_is_right (hr.mono (by omega)) rfl hx (da_cons (de_mov (i := 1) rfl (by first | exact .inl rfl | exact .inr (.inl rfl) | exact .inr (.inr rfl))) da_nil)))) (dw_or (db_not (db_tru (de_callC c__law_are_signs_right (hr.mono (by omega)) rfl hx (da_cons (de_mov (i := 1) rfl (by first | exact .inl rfl | exact .inr (.inl rfl) | exact .inr (.inr rfl))) da_nil)))) (dw_or1 (db_not (db_tru (de_callC c__law_are_terms_right (hr.mono (by omega)) rfl hx (da_cons (de_mov (i := 1) rfl (by first | exact .inl rfl | exact .inr (.inl rfl) | exact .inr (.inr rfl))) da_nil)))))))) (dss_one (ds_ret de_bl)) dss_nil) (dss_one (ds_if (db_not (db_tru (de_callC c__law_refused_right (hr.mono (by omega)) rfl hx (da_cons (de_mov (i := 1) rfl (by first | exact .inl rfl | exact .inr (.inl rfl) | exact .inr (.inr rfl))) da_nil)))) (dss_one (ds_ret de_bl)) dss_nil))) (by intro _; rfl)) (dss_one (ds_ret de_bl)))))
end Hd

set_option linter.all false
namespace Lu
/-! Lucas pairs -/
def U (p q : Int) : Nat → Int
  | 0 => 0
  | 1 => 1
  | n + 2 => p * U p q (n + 1) - q * U p q n
def V (p q : Int) : Nat → Int
  | 0 => 2
  | 1 => p
  | n + 2 => p * V p q (n + 1) - q * V p q n
theorem V_eq (p q : Int) : ∀ n, V p q n = 2 * U p q (n + 1) - p * U p q n
  | 0 => by simp [U, V]
  | 1 => by simp [U, V]; grind
  | n + 2 => by
    have h1 := V_eq p q n
    have h2 := V_eq p q (n + 1)
    simp only [U, V] at *
    grind
/-- one place on -/
theorem U_succ (p q : Int) (n : Nat) : 2 * U p q (n + 1) = p * U p q n + V p q n := by
  have := V_eq p q n; grind
theorem V_succ (p q : Int) (n : Nat) : 2 * V p q (n + 1) = (p * p - 4 * q) * U p q n + p * V p q n := by
  have h1 := V_eq p q n
  have h2 := V_eq p q (n + 1)
  simp only [U] at h2
  grind
theorem UV_sq (p q : Int) : ∀ n, V p q n * V p q n - (p * p - 4 * q) * (U p q n * U p q n) = 4 * q ^ n
  | 0 => by simp [U, V]
  | n + 1 => by
    have h := UV_sq p q n
    have h1 := U_succ p q n
    have h2 := V_succ p q n
    have h3 : q ^ (n + 1) = q ^ n * q := Int.pow_succ q n
    grind
theorem U_add (p q : Int) (m : Nat) : ∀ n, 2 * U p q (m + n) = U p q m * V p q n + U p q n * V p q m
  | 0 => by simp [U, V]; grind
  | 1 => by
    have := U_succ p q m
    simp only [U, V]; grind
  | n + 2 => by
    have h1 := U_add p q m n
    have h2 := U_add p q m (n + 1)
    rw [← Nat.add_assoc] at *
    simp only [U, V] at *
    grind
theorem V_add (p q : Int) (m : Nat) : ∀ n, 2 * V p q (m + n) = V p q m * V p q n + (p * p - 4 * q) * (U p q m * U p q n)
  | 0 => by simp [U, V]; grind
  | 1 => by
    have := V_succ p q m
    simp only [U, V]; grind
  | n + 2 => by
    have h1 := V_add p q m n
    have h2 := V_add p q m (n + 1)
    rw [← Nat.add_assoc] at *
    simp only [U, V] at *
    grind
theorem U_dbl (p q : Int) (n : Nat) : U p q (2 * n) = U p q n * V p q n := by
  have := U_add p q n n
  rw [show 2 * n = n + n by omega]; grind
theorem V_dbl (p q : Int) (n : Nat) : V p q (2 * n) = V p q n * V p q n - 2 * q ^ n := by
  have h1 := V_add p q n n
  have h2 := UV_sq p q n
  rw [show 2 * n = n + n by omega]; grind
/-! remainders -/
theorem cong {a b m k : Int} (h : a = b + m * k) : a % m = b % m := by rw [h, Int.add_mul_emod_self_left]
theorem e_mul (m x y : Int) : (x % m) * (y % m) % m = x * y % m := (Int.mul_emod x y m).symm
theorem e_sq (m v r : Int) : ((v % m) * (v % m) - 2 * (r % m)) % m = (v * v - 2 * r) % m := by
  have h1 := Int.emod_def v m
  have h2 := Int.emod_def r m
  refine cong (k := -(2 * v * (v / m)) + m * (v / m) * (v / m) + 2 * (r / m)) ?_
  rw [h1, h2]; grind
theorem e_up {m h p x y z : Int} (hh : 2 * h = m + 1) (hz : 2 * z = p * x + y) : (p * (x % m) + y % m) * h % m = z % m := by
  have h1 := Int.emod_def x m
  have h2 := Int.emod_def y m
  refine cong (k := z - (p * (x / m) + y / m) * h) ?_
  rw [h1, h2]; grind
theorem e_up2 {m h d p x y z : Int} (hh : 2 * h = m + 1) (hz : 2 * z = d * x + p * y) : (d * (x % m) + p * (y % m)) * h % m = z % m := by
  have h1 := Int.emod_def x m
  have h2 := Int.emod_def y m
  refine cong (k := z - (d * (x / m) + p * (y / m)) * h) ?_
  rw [h1, h2]; grind
end Lu

set_option linter.all false
namespace Qr
/-! signs by Gauss: how many of x, 2 x, .. fall in the upper half; reciprocity by counting places -/
def sm (f : Nat → Nat) : List Nat → Nat
  | [] => 0
  | k :: l => f k + sm f l
theorem sm_perm {f : Nat → Nat} {l l' : List Nat} (h : l.Perm l') : sm f l = sm f l' := by
  induction h with
  | nil => rfl
  | cons x _ ih => simp [sm, ih]
  | swap x y l => simp [sm]; omega
  | trans _ _ a b => rw [a, b]
theorem sm_map (f g : Nat → Nat) : ∀ l : List Nat, sm f (l.map g) = sm (fun k => f (g k)) l
  | [] => rfl
  | k :: l => by simp [sm, sm_map f g l]
theorem sm_add (f g : Nat → Nat) : ∀ l : List Nat, sm (fun k => f k + g k) l = sm f l + sm g l
  | [] => rfl
  | k :: l => by simp [sm, sm_add f g l]; omega
theorem sm_mul (c : Nat) (f : Nat → Nat) : ∀ l : List Nat, sm (fun k => c * f k) l = c * sm f l
  | [] => rfl
  | k :: l => by simp [sm, sm_mul c f l, Nat.mul_add]
theorem sm_congr {f g : Nat → Nat} : ∀ {l : List Nat}, (∀ k ∈ l, f k = g k) → sm f l = sm g l
  | [], _ => rfl
  | k :: l, h => by simp [sm, h k (List.mem_cons_self ..), sm_congr (f := f) (g := g) (l := l) fun k hk => h k (List.mem_cons_of_mem _ hk)]
theorem sm_mod {f g : Nat → Nat} : ∀ {l : List Nat}, (∀ k ∈ l, f k % 2 = g k % 2) → sm f l % 2 = sm g l % 2
  | [], _ => rfl
  | k :: l, h => by
    have a := h k (List.mem_cons_self ..)
    have b := sm_mod (f := f) (g := g) (l := l) fun k hk => h k (List.mem_cons_of_mem _ hk)
    simp only [sm]; omega
theorem sm_const (c : Nat) : ∀ l : List Nat, sm (fun _ => c) l = c * l.length
  | [] => rfl
  | k :: l => by simp [sm, sm_const c l, Nat.mul_add]; omega
theorem sm_swap (f : Nat → Nat → Nat) (l' : List Nat) : ∀ l : List Nat, sm (fun a => sm (f a) l') l = sm (fun b => sm (fun a => f a b) l) l'
  | [] => by simp [sm, sm_const]
  | k :: l => by simp only [sm]; rw [sm_swap f l' l, ← sm_add]
theorem perm_of : ∀ (l1 l2 : List Nat), l1.Nodup → (∀ x ∈ l1, x ∈ l2) → l2.length ≤ l1.length → l1.Perm l2
  | [], l2, _, _, h => by
    have : l2 = [] := List.length_eq_zero_iff.mp (by simpa using h)
    rw [this]
  | a :: l1, l2, nd, sub, h => by
    have ha := sub a (List.mem_cons_self ..)
    have p := List.perm_cons_erase ha
    have nd := List.nodup_cons.mp nd
    refine (List.Perm.cons a (perm_of l1 (l2.erase a) nd.2 (fun x hx => ?_) ?_)).trans p.symm
    · have : x ≠ a := fun e => nd.1 (e ▸ hx)
      exact (List.mem_erase_of_ne this).mpr (sub x (List.mem_cons_of_mem _ hx))
    · have := p.length_eq
      simp only [List.length_cons] at this h
      omega
def L (h : Nat) : List Nat := List.range' 1 h
theorem mem_L {h k : Nat} : k ∈ L h ↔ 1 ≤ k ∧ k ≤ h := by
  unfold L
  rw [List.mem_range'_1]; omega
theorem L_nodup (h : Nat) : (L h).Nodup := List.nodup_range'
theorem L_len (h : Nat) : (L h).length = h := by simp [L]
def neg (m x k : Nat) : Nat := if m / 2 < x * k % m then 1 else 0
def pi (m x k : Nat) : Nat := if m / 2 < x * k % m then m - x * k % m else x * k % m
def mu (m x : Nat) : Nat := sm (neg m x) (L (m / 2))
section
variable {m x : Nat} (hm : m % 2 = 1) (hc : Nat.gcd x m = 1)
include hc
theorem r_pos {k : Nat} (hk : 0 < k) (hk2 : k < m) : 0 < x * k % m := by
  rcases Nat.eq_zero_or_pos (x * k % m) with h | h
  · have d : m ∣ x * k := Nat.dvd_of_mod_eq_zero h
    have hc' : Nat.Coprime m x := by rw [Nat.Coprime, Nat.gcd_comm]; exact hc
    have := Nat.le_of_dvd hk (hc'.dvd_of_dvd_mul_left d)
    omega
  · exact h
include hm
theorem pi_mem {k : Nat} (hk : k ∈ L (m / 2)) : pi m x k ∈ L (m / 2) := by
  rw [mem_L] at hk ⊢
  have h1 := r_pos hc (k := k) (by omega) (by omega)
  have h2 := Nat.mod_lt (x * k) (show 0 < m by omega)
  unfold pi
  split <;> omega
theorem pi_inj {k j : Nat} (hk : k ∈ L (m / 2)) (hj : j ∈ L (m / 2)) (e : pi m x k = pi m x j) : k = j := by
  rw [mem_L] at hk hj
  have m0 : 0 < m := by omega
  have k2 := Nat.mod_lt (x * k) m0
  have j2 := Nat.mod_lt (x * j) m0
  have hc' : Nat.Coprime m x := by rw [Nat.Coprime, Nat.gcd_comm]; exact hc
  have same : ∀ a b : Nat, a ≤ b → b < m → x * a % m = x * b % m → a = b := by
    intro a b hab hb e
    have d : m ∣ x * b - x * a := Nat.dvd_of_mod_eq_zero (Nat.sub_mod_eq_zero_of_mod_eq e.symm)
    rw [← Nat.mul_sub] at d
    have d := hc'.dvd_of_dvd_mul_left d
    rcases Nat.eq_zero_or_pos (b - a) with h | h
    · omega
    · have := Nat.le_of_dvd h d; omega
  have same' : x * k % m = x * j % m → k = j := fun e => by
    rcases Nat.le_total k j with h | h
    · exact same k j h (by omega) e
    · exact (same j k h (by omega) e.symm).symm
  have opp : x * k % m + x * j % m ≠ m := fun e => by
    have : (x * k + x * j) % m = 0 := by rw [Nat.add_mod, e, Nat.mod_self]
    have d : m ∣ x * (k + j) := by rw [Nat.mul_add]; exact Nat.dvd_of_mod_eq_zero this
    have := Nat.le_of_dvd (by omega) (hc'.dvd_of_dvd_mul_left d)
    omega
  unfold pi at e
  split at e
  · split at e
    · exact same' (by omega)
    · exact absurd (by omega) opp
  · split at e
    · exact absurd (by omega) opp
    · exact same' e
theorem pi_perm : ((L (m / 2)).map (pi m x)).Perm (L (m / 2)) := by
  refine perm_of _ _ ?_ (fun y hy => ?_) (by simp)
  · rw [List.nodup_iff_pairwise_ne, List.pairwise_map]
    refine List.Pairwise.imp_of_mem ?_ (List.nodup_iff_pairwise_ne.mp (L_nodup (m / 2)))
    intro a b ha hb ne e
    exact ne (pi_inj hm hc ha hb e)
  · obtain ⟨k, hk, rfl⟩ := List.mem_map.mp hy
    exact pi_mem hm hc hk
theorem sum_pi (f : Nat → Nat) : sm (fun k => f (pi m x k)) (L (m / 2)) = sm f (L (m / 2)) := by
  rw [← sm_map, sm_perm (pi_perm hm hc)]
end
/-- a product: the signs multiply -/
theorem mu_mul {m x y : Nat} (hm : m % 2 = 1) (hx : Nat.gcd x m = 1) (hy : Nat.gcd y m = 1) : mu m (x * y) % 2 = (mu m x + mu m y) % 2 := by
  have m0 : 0 < m := by omega
  have h1 : sm (neg m (x * y)) (L (m / 2)) % 2 = sm (fun k => neg m y k + neg m x (pi m y k)) (L (m / 2)) % 2 := by
    refine sm_mod fun k hk => ?_
    have hk' := mem_L.mp hk
    have p := mem_L.mp (pi_mem hm hy hk)
    have s0 := r_pos hx (k := pi m y k) (by omega) (by omega)
    have s1 := Nat.mod_lt (x * pi m y k) m0
    have r0 := r_pos hy (k := k) (by omega) (by omega)
    have r1 := Nat.mod_lt (y * k) m0
    have key : x * y * k % m = if m / 2 < y * k % m then m - x * pi m y k % m else x * pi m y k % m := by
      have e : x * y * k % m = x * (y * k % m) % m := by rw [Nat.mul_assoc, Nat.mul_mod, Nat.mul_mod x (y * k % m), Nat.mod_mod]
      rw [e]
      unfold pi at s0 s1 ⊢
      split
      · rename_i hn
        rw [if_pos hn] at s0 s1
        generalize y * k % m = r at *
        have a : (x * r + x * (m - r)) % m = 0 := by
          rw [← Nat.mul_add, show r + (m - r) = m by omega, Nat.mul_mod_left]
        have b := Nat.mod_lt (x * r) m0
        rw [Nat.add_mod] at a
        have c := Nat.dvd_of_mod_eq_zero a
        obtain ⟨t, ht⟩ := c
        have : t = 1 := by
          rcases Nat.lt_or_ge t 2 with h | h
          · rcases Nat.eq_zero_or_pos t with z | z
            · subst z; omega
            · omega
          · have : m * 2 ≤ m * t := Nat.mul_le_mul_left m h
            omega
        subst this; omega
      · rename_i hn
        rfl
    unfold neg
    rw [key]
    by_cases hn : m / 2 < y * k % m
    · simp only [if_pos hn]
      by_cases hs : m / 2 < x * pi m y k % m
      · rw [if_neg (by omega), if_pos hs]
      · rw [if_pos (by omega), if_neg hs]
    · simp only [if_neg hn]
      by_cases hs : m / 2 < x * pi m y k % m
      · rw [if_pos hs]
      · rw [if_neg hs]
  unfold mu
  rw [h1, sm_add, sum_pi hm hy (neg m x)]
  omega
/-- Gauss' count by parts -/
theorem mu_floor {m q : Nat} (hm : m % 2 = 1) (hq : Nat.gcd q m = 1) : (q * sm id (L (m / 2))) % 2 = (sm (fun k => q * k / m) (L (m / 2)) + sm id (L (m / 2)) + mu m q) % 2 := by
  have m0 : 0 < m := by omega
  have h1 : sm (fun k => q * k) (L (m / 2)) % 2 = sm (fun k => q * k / m + pi m q k + neg m q k) (L (m / 2)) % 2 := by
    refine sm_mod fun k hk => ?_
    have e := Nat.div_add_mod (q * k) m
    have r1 := Nat.mod_lt (q * k) m0
    have : (m * (q * k / m)) % 2 = (q * k / m) % 2 := by rw [Nat.mul_mod, hm, Nat.one_mul, Nat.mod_mod]
    unfold pi neg
    split <;> omega
  have h2 := sm_mul q id (L (m / 2))
  simp only [id] at h2
  rw [show sm (fun k => q * k) (L (m / 2)) = q * sm id (L (m / 2)) from h2] at h1
  rw [h1, sm_add, sm_add, sum_pi hm hq (fun k => k)]
  rfl
theorem sum_le (t : Nat) : ∀ n, sm (fun l => if l ≤ t then 1 else 0) (L n) = min t n
  | 0 => by simp [L, sm]
  | n + 1 => by
    have e : L (n + 1) = L n ++ [n + 1] := by
      unfold L
      rw [List.range'_concat]; simp; omega
    have app : ∀ (f : Nat → Nat) (a b : List Nat), sm f (a ++ b) = sm f a + sm f b := by
      intro f a b
      induction a with
      | nil => simp [sm]
      | cons x a ih => simp [sm, ih]; omega
    rw [e, app, sum_le t n]
    simp only [sm]
    split <;> omega
/-- the places below and above the diagonal -/
theorem lattice {p q : Nat} (hp : p % 2 = 1) (hq : q % 2 = 1) (hc : Nat.gcd p q = 1) : sm (fun k => q * k / p) (L (p / 2)) + sm (fun l => p * l / q) (L (q / 2)) = p / 2 * (q / 2) := by
  have p0 : 0 < p := by omega
  have q0 : 0 < q := by omega
  have side : ∀ {p q : Nat}, p % 2 = 1 → q % 2 = 1 → sm (fun k => q * k / p) (L (p / 2)) = sm (fun k => sm (fun l => if p * l ≤ q * k then 1 else 0) (L (q / 2))) (L (p / 2)) := by
    intro p q hp hq
    refine sm_congr fun k hk => ?_
    have hk := mem_L.mp hk
    have p0 : 0 < p := by omega
    have e : sm (fun l => if p * l ≤ q * k then 1 else 0) (L (q / 2)) = sm (fun l => if l ≤ q * k / p then 1 else 0) (L (q / 2)) := by
      refine sm_congr fun l _ => ?_
      have : p * l ≤ q * k ↔ l ≤ q * k / p := by rw [Nat.le_div_iff_mul_le p0, Nat.mul_comm]
      by_cases h : p * l ≤ q * k
      · rw [if_pos h, if_pos (this.mp h)]
      · rw [if_neg h, if_neg (fun z => h (this.mpr z))]
    rw [e, sum_le]
    have : q * k / p ≤ q / 2 := by
      have : q * k / p < q / 2 + 1 := by
        rw [Nat.div_lt_iff_lt_mul p0]
        obtain ⟨a, rfl⟩ : ∃ a, p = 2 * a + 1 := ⟨p / 2, by omega⟩
        obtain ⟨b, rfl⟩ : ∃ b, q = 2 * b + 1 := ⟨q / 2, by omega⟩
        have h1 : (2 * a + 1) / 2 = a := by omega
        have h2 : (2 * b + 1) / 2 = b := by omega
        rw [h1] at hk
        rw [h2]
        have : (2 * b + 1) * k ≤ (2 * b + 1) * a := Nat.mul_le_mul_left _ hk.2
        have e1 : (2 * b + 1) * a = 2 * (b * a) + a := by rw [Nat.add_mul, Nat.mul_assoc]; omega
        have e2 : (b + 1) * (2 * a + 1) = 2 * (b * a) + 2 * a + b + 1 := by
          rw [Nat.add_mul, Nat.mul_add, Nat.mul_left_comm]; omega
        omega
      omega
    omega
  rw [side hp hq, side hq hp, sm_swap (fun l k => if q * k ≤ p * l then 1 else 0) (L (p / 2)) (L (q / 2)), ← sm_add]
  have : ∀ k ∈ L (p / 2), sm (fun l => if p * l ≤ q * k then 1 else 0) (L (q / 2)) + sm (fun l => if q * k ≤ p * l then 1 else 0) (L (q / 2)) = q / 2 := by
    intro k hk
    have hk := mem_L.mp hk
    rw [← sm_add]
    have : sm (fun l => (if p * l ≤ q * k then 1 else 0) + if q * k ≤ p * l then 1 else 0) (L (q / 2)) = sm (fun _ => 1) (L (q / 2)) := by
      refine sm_congr fun l hl => ?_
      have ne : p * l ≠ q * k := fun e => by
        have d : p ∣ q * k := ⟨l, e.symm⟩
        have hc' : Nat.Coprime p q := hc
        have := Nat.le_of_dvd (by omega) (hc'.dvd_of_dvd_mul_left d)
        omega
      by_cases h : p * l ≤ q * k
      · rw [if_pos h, if_neg (by omega)]
      · rw [if_neg h, if_pos (by omega)]
    rw [this, sm_const, L_len, Nat.one_mul]
  rw [sm_congr this, sm_const, L_len, Nat.mul_comm]
/-- reciprocity -/
theorem recip {p q : Nat} (hp : p % 2 = 1) (hq : q % 2 = 1) (hc : Nat.gcd p q = 1) : (mu p q + mu q p) % 2 = (p / 2 * (q / 2)) % 2 := by
  have hc' : Nat.gcd q p = 1 := by rw [Nat.gcd_comm]; exact hc
  have a := mu_floor hp hc'
  have b := mu_floor hq hc
  have l := lattice hp hq hc
  have a' : (q * sm id (L (p / 2))) % 2 = sm id (L (p / 2)) % 2 := by rw [Nat.mul_mod, hq, Nat.one_mul, Nat.mod_mod]
  have b' : (p * sm id (L (q / 2))) % 2 = sm id (L (q / 2)) % 2 := by rw [Nat.mul_mod, hp, Nat.one_mul, Nat.mod_mod]
  omega
theorem sum_id : ∀ n, 2 * sm id (L n) = n * (n + 1)
  | 0 => by simp [L, sm]
  | n + 1 => by
    have e : L (n + 1) = L n ++ [n + 1] := by
      unfold L
      rw [List.range'_concat]; simp; omega
    have app : ∀ (f : Nat → Nat) (a b : List Nat), sm f (a ++ b) = sm f a + sm f b := by
      intro f a b
      induction a with
      | nil => simp [sm]
      | cons x a ih => simp [sm, ih]; omega
    rw [e, app, Nat.mul_add, sum_id n]
    simp only [sm, id]
    grind
/-- the sign of two -/
theorem mu_two {m : Nat} (hm : m % 2 = 1) : mu m 2 % 2 = if m % 8 = 3 ∨ m % 8 = 5 then 1 else 0 := by
  have hc : Nat.gcd 2 m = 1 := by
    have : Nat.gcd 2 m ∣ 2 := Nat.gcd_dvd_left 2 m
    have h2 : Nat.gcd 2 m ∣ m := Nat.gcd_dvd_right 2 m
    have h3 := Nat.le_of_dvd (by decide) this
    have h4 : Nat.gcd 2 m ≠ 2 := fun e => by rw [e] at h2; omega
    have h5 : Nat.gcd 2 m ≠ 0 := fun e => by rw [e] at h2; have := Nat.eq_zero_of_zero_dvd h2; omega
    omega
  have a := mu_floor hm hc
  have f0 : sm (fun k => 2 * k / m) (L (m / 2)) = 0 := by
    rw [sm_congr (g := fun _ => 0) fun k hk => ?_, sm_const, Nat.zero_mul]
    have := mem_L.mp hk
    exact Nat.div_eq_of_lt (by omega)
  have s := sum_id (m / 2)
  rw [f0] at a
  have e : (2 * sm id (L (m / 2))) % 2 = 0 := by omega
  generalize sm id (L (m / 2)) = S at *
  obtain ⟨t, ht⟩ : ∃ t, m / 2 = 4 * t ∨ m / 2 = 4 * t + 1 ∨ m / 2 = 4 * t + 2 ∨ m / 2 = 4 * t + 3 := ⟨m / 2 / 4, by omega⟩
  rcases ht with ht | ht | ht | ht <;> rw [ht] at s
  · have : S = 2 * (t * (4 * t + 1)) := by grind
    rw [if_neg (by omega)]; omega
  · have : S = 2 * (4 * (t * t) + 3 * t) + 1 := by grind
    rw [if_pos (by omega)]; omega
  · have : S = 2 * (4 * (t * t) + 5 * t + 1) + 1 := by grind
    rw [if_pos (by omega)]; omega
  · have : S = 2 * (4 * (t * t) + 7 * t + 3) := by grind
    rw [if_neg (by omega)]; omega
end Qr

set_option linter.all false
namespace Qr
/-- the sign -/
def gs (x m : Nat) : Int := if Nat.gcd x m = 1 then (if mu m x % 2 = 0 then 1 else -1) else 0
theorem gs_mod {x m : Nat} : gs (x % m) m = gs x m := by
  have e : mu m (x % m) = mu m x := by
    unfold mu
    refine sm_congr fun k _ => ?_
    unfold neg
    rw [Nat.mod_mul_mod]
  have g : Nat.gcd (x % m) m = Nat.gcd x m := by rw [← Nat.gcd_rec, Nat.gcd_comm]
  unfold gs
  simp only [e, g]
theorem gs_congr {x y m : Nat} (h : x % m = y % m) : gs x m = gs y m := by rw [← gs_mod (x := x), h, gs_mod]
theorem cop_mul {x y m : Nat} : Nat.gcd (x * y) m = 1 ↔ Nat.gcd x m = 1 ∧ Nat.gcd y m = 1 := by
  constructor
  · intro h
    exact ⟨Nat.Coprime.coprime_mul_right h, Nat.Coprime.coprime_mul_left h⟩
  · rintro ⟨a, b⟩
    exact Nat.Coprime.mul_left a b
theorem gs_mul {m : Nat} (hm : m % 2 = 1) (x y : Nat) : gs (x * y) m = gs x m * gs y m := by
  unfold gs
  by_cases hx : Nat.gcd x m = 1
  · by_cases hy : Nat.gcd y m = 1
    · rw [if_pos hx, if_pos hy, if_pos (cop_mul.mpr ⟨hx, hy⟩)]
      have h := mu_mul hm hx hy
      by_cases a : mu m x % 2 = 0
      · by_cases b : mu m y % 2 = 0
        · rw [if_pos a, if_pos b, if_pos (by omega)]; rfl
        · rw [if_pos a, if_neg b, if_neg (by omega)]; rfl
      · by_cases b : mu m y % 2 = 0
        · rw [if_neg a, if_pos b, if_neg (by omega)]; rfl
        · rw [if_neg a, if_neg b, if_pos (by omega)]; rfl
    · rw [if_neg hy, if_neg fun h => hy (cop_mul.mp h).2]; simp
  · rw [if_neg hx, if_neg fun h => hx (cop_mul.mp h).1]; simp
theorem gcd_two {m : Nat} (hm : m % 2 = 1) : Nat.gcd 2 m = 1 := by
  have : Nat.gcd 2 m ∣ 2 := Nat.gcd_dvd_left 2 m
  have h2 : Nat.gcd 2 m ∣ m := Nat.gcd_dvd_right 2 m
  have h3 := Nat.le_of_dvd (by decide) this
  have h4 : Nat.gcd 2 m ≠ 2 := fun e => by rw [e] at h2; omega
  have h5 : Nat.gcd 2 m ≠ 0 := fun e => by rw [e] at h2; have := Nat.eq_zero_of_zero_dvd h2; omega
  omega
theorem gs_two {m : Nat} (hm : m % 2 = 1) : gs 2 m = if m % 8 = 3 ∨ m % 8 = 5 then -1 else 1 := by
  have h := mu_two hm
  unfold gs
  rw [if_pos (gcd_two hm)]
  by_cases c : m % 8 = 3 ∨ m % 8 = 5
  · rw [if_pos c] at h ⊢; rw [if_neg (by omega)]
  · rw [if_neg c] at h ⊢; rw [if_pos h]
theorem gs_recip {p q : Nat} (hp : p % 2 = 1) (hq : q % 2 = 1) : gs q p = (if p % 4 = 3 ∧ q % 4 = 3 then -1 else 1) * gs p q := by
  unfold gs
  by_cases hc : Nat.gcd p q = 1
  · have hc' : Nat.gcd q p = 1 := by rw [Nat.gcd_comm]; exact hc
    rw [if_pos hc, if_pos hc']
    have h := recip hp hq hc
    obtain ⟨a, ha⟩ : ∃ a, p = 4 * a + 1 ∨ p = 4 * a + 3 := ⟨p / 4, by omega⟩
    obtain ⟨b, hb⟩ : ∃ b, q = 4 * b + 1 ∨ q = 4 * b + 3 := ⟨q / 4, by omega⟩
    have hh : (p / 2 * (q / 2)) % 2 = if p % 4 = 3 ∧ q % 4 = 3 then 1 else 0 := by
      rw [Nat.mul_mod]
      rcases ha with ha | ha <;> rcases hb with hb | hb
      · rw [if_neg (by omega), show p / 2 % 2 = 0 by omega]; simp
      · rw [if_neg (by omega), show p / 2 % 2 = 0 by omega]; simp
      · rw [if_neg (by omega), show q / 2 % 2 = 0 by omega]; simp
      · rw [if_pos (by omega), show q / 2 % 2 = 1 by omega, show p / 2 % 2 = 1 by omega]
    rw [hh] at h
    by_cases c : p % 4 = 3 ∧ q % 4 = 3
    · rw [if_pos c] at h ⊢
      by_cases a : mu p q % 2 = 0
      · rw [if_pos a, if_neg (by omega)]; rfl
      · rw [if_neg a, if_pos (by omega)]; rfl
    · rw [if_neg c] at h ⊢
      by_cases a : mu p q % 2 = 0
      · rw [if_pos a, if_pos (by omega)]; rfl
      · rw [if_neg a, if_neg (by omega)]; rfl
  · have hc' : ¬ Nat.gcd q p = 1 := by rw [Nat.gcd_comm]; exact hc
    rw [if_neg hc, if_neg hc']; simp
theorem gs_cases (x m : Nat) : gs x m = 0 ∨ gs x m = 1 ∨ gs x m = -1 := by
  unfold gs
  split
  · split
    · exact .inr (.inl rfl)
    · exact .inr (.inr rfl)
  · exact .inl rfl
/-- the signs of a product of moduli -/
theorem gs_bot {a b : Nat} (ha : a % 2 = 1) (hb : b % 2 = 1) (n : Nat) : gs n (a * b) = gs n a * gs n b := by
  have hab : (a * b) % 2 = 1 := by rw [Nat.mul_mod, ha, hb]
  have odd : ∀ N : Nat, N % 2 = 1 → gs N (a * b) = gs N a * gs N b := by
    intro N hN
    rw [gs_recip hab hN, gs_mul hN, gs_recip ha hN, gs_recip hb hN]
    obtain ⟨s, hs⟩ : ∃ s, a = 4 * s + 1 ∨ a = 4 * s + 3 := ⟨a / 4, by omega⟩
    obtain ⟨t, ht⟩ : ∃ t, b = 4 * t + 1 ∨ b = 4 * t + 3 := ⟨b / 4, by omega⟩
    have hm : a * b % 4 = (a % 4) * (b % 4) % 4 := Nat.mul_mod a b 4
    have sq : ∀ x y : Int, x * y = (-1 * x) * (-1 * y) := fun x y => by grind
    by_cases hN3 : N % 4 = 3
    · rcases hs with hs | hs <;> rcases ht with ht | ht
      · have e : a * b % 4 = 1 := by rw [hm, show a % 4 = 1 by omega, show b % 4 = 1 by omega]
        rw [if_neg (by omega), if_neg (by omega), if_neg (by omega)]; grind
      · have e : a * b % 4 = 3 := by rw [hm, show a % 4 = 1 by omega, show b % 4 = 3 by omega]
        rw [if_pos ⟨e, hN3⟩, if_neg (by omega), if_pos (by omega)]; grind
      · have e : a * b % 4 = 3 := by rw [hm, show a % 4 = 3 by omega, show b % 4 = 1 by omega]
        rw [if_pos ⟨e, hN3⟩, if_pos (by omega), if_neg (by omega)]; grind
      · have e : a * b % 4 = 1 := by rw [hm, show a % 4 = 3 by omega, show b % 4 = 3 by omega]
        rw [if_neg (by omega), if_pos (by omega), if_pos (by omega)]; grind
    · rw [if_neg (by omega), if_neg (by omega), if_neg (by omega)]; grind
  rcases Nat.mod_two_eq_zero_or_one n with h | h
  · have h1 := odd (n + a * b) (by omega)
    rw [gs_congr (x := n + a * b) (y := n) (m := a * b) (by simp), gs_congr (x := n + a * b) (y := n) (m := a) (by simp), gs_congr (x := n + a * b) (y := n) (m := b) (by simp)] at h1
    exact h1
  · exact odd n h
end Qr

set_option linter.all false
namespace Hd
open Qr
/-! the sign, by turns -/
def stripO : Nat → Int → Int → Int → Option (Int × Int)
  | 0, _, _, _ => none
  | k + 1, h, b, f => if h % 2 = 0 then stripO k (h / 2) b (if b % 8 = 3 ∨ b % 8 = 5 then -f else f) else some (h, f)
def outerO : Nat → Int → Int → Int → Option Int
  | 0, _, _, _ => none
  | k + 1, h, b, f => if 0 < h then (match stripO 70 h b f with
      | none => none
      | some (h', f') => outerO k (b % h') h' (if b % 4 = 3 ∧ h' % 4 = 3 then -f' else f')) else some (if b = 1 then f else 0)
def jacO (n m : Int) : Option Int := outerO 100 (n % m) m 1
theorem stripO_pos : ∀ (k : Nat) (h b f h' f' : Int), 0 < h → stripO k h b f = some (h', f') → 0 < h'
  | 0, h, b, f, h', f', _, e => by simp [stripO] at e
  | k + 1, h, b, f, h', f', h0, e => by
    rw [stripO] at e
    split at e
    · exact stripO_pos k _ _ _ _ _ (by omega) e
    · cases e; exact h0
theorem strip_gs {b : Nat} (hb : b % 2 = 1) : ∀ (k h : Nat) (f : Int), 0 < h → h < 2 ^ k → ∃ (h' : Nat) (f' : Int), stripO k h b f = some ((h' : Int), f') ∧ h' % 2 = 1 ∧ h' ≤ h ∧ f * gs h b = f' * gs h' b
  | 0, h, f, h0, hk => by simp at hk; omega
  | k + 1, h, f, h0, hk => by
    rw [stripO]
    rcases Nat.mod_two_eq_zero_or_one h with e | e
    · rw [if_pos (by omega)]
      obtain ⟨h', f', a1, a2, a3, a4⟩ := strip_gs hb k (h / 2) (if (b : Int) % 8 = 3 ∨ (b : Int) % 8 = 5 then -f else f) (by omega) (by rw [Nat.pow_succ] at hk; omega)
      refine ⟨h', f', ?_, a2, by omega, ?_⟩
      · rw [← a1]
        congr 1
      · rw [← a4]
        have : h = 2 * (h / 2) := by omega
        rw [this, gs_mul hb, gs_two hb, show 2 * (h / 2) / 2 = h / 2 by omega]
        by_cases c : b % 8 = 3 ∨ b % 8 = 5
        · rw [if_pos c, if_pos (by omega)]; grind
        · rw [if_neg c, if_neg (by omega)]; grind
    · rw [if_neg (by omega)]
      exact ⟨h, f, rfl, e, Nat.le_refl _, rfl⟩
theorem gs_zero (b : Nat) : gs 0 b = if b = 1 then 1 else 0 := by
  unfold gs
  by_cases h : b = 1
  · subst h
    rw [if_pos (by simp), if_pos rfl]
    rfl
  · rw [if_neg (by simpa using h), if_neg h]
theorem outer_gs : ∀ (k h b : Nat) (f : Int), b % 2 = 1 → h < b → b < 2 ^ 60 → h * b < 2 ^ k → outerO (k + 1) h b f = some (f * gs h b)
  | k, h, b, f, hb, hl, hz, hk => by
    rw [outerO]
    rcases Nat.eq_zero_or_pos h with e | e
    · subst e
      rw [if_neg (by omega), gs_zero]
      by_cases c : b = 1
      · rw [if_pos c, if_pos (by omega)]; simp
      · rw [if_neg c, if_neg (by omega)]; simp
    · rw [if_pos (by omega)]
      obtain ⟨h', f', a1, a2, a3, a4⟩ := strip_gs hb 70 h f e (Nat.lt_trans (Nat.lt_trans hl hz) (by decide))
      rw [a1, a4]
      have d1 : b % h' < h' := Nat.mod_lt _ (by omega)
      have d2 : 2 * (b % h') < b := by
        have := Nat.div_add_mod b h'
        have q1 : 1 ≤ b / h' := Nat.div_pos (by omega) (by omega)
        have : h' * 1 ≤ h' * (b / h') := Nat.mul_le_mul_left _ q1
        omega
      cases k with
      | zero =>
        have : 1 * 1 ≤ h * b := Nat.mul_le_mul (by omega) (by omega)
        simp at hk; omega
      | succ k =>
        have d3 : (b % h') * h' < 2 ^ k := by
          rw [Nat.pow_succ] at hk
          have m1 : 2 * (b % h') * h' ≤ (b - 1) * h' := Nat.mul_le_mul_right _ (by omega)
          have m2 : (b - 1) * h' ≤ (b - 1) * h := Nat.mul_le_mul_left _ a3
          have m3 : (b - 1) * h ≤ b * h := Nat.mul_le_mul_right _ (by omega)
          have m4 : b * h = h * b := Nat.mul_comm _ _
          have m5 : 2 * (b % h') * h' = 2 * ((b % h') * h') := Nat.mul_assoc _ _ _
          omega
        have ih := outer_gs k (b % h') h' (if (b : Int) % 4 = 3 ∧ (h' : Int) % 4 = 3 then -f' else f') a2 d1 (by omega) d3
        show outerO (k + 1) ((b : Int) % (h' : Int)) h' _ = _
        rw [← Int.natCast_emod, ih, gs_mod, gs_recip hb a2]
        congr 1
        by_cases c : b % 4 = 3 ∧ h' % 4 = 3
        · rw [if_pos c, if_pos (by omega)]; grind
        · rw [if_neg c, if_neg (by omega)]; grind
/-- what the program's sign tells -/
theorem jac_gs {n : Int} {m : Nat} (hm : m % 2 = 1) (hz : m < 2 ^ 49) : jacO n m = some (gs (n % m).toNat m) := by
  have h0 := Int.emod_nonneg n (b := (m : Int)) (by omega)
  have h1 := Int.emod_lt_of_pos n (b := (m : Int)) (by omega)
  obtain ⟨r, hr⟩ := Int.eq_ofNat_of_zero_le h0
  have hr' : n % (m : Int) = (r : Int) := hr
  unfold jacO
  rw [hr', Int.toNat_natCast]
  have h2 : r < m := by omega
  have h3 : r * m < 2 ^ 99 := by
    have a : r * m ≤ 2 ^ 49 * 2 ^ 49 := Nat.mul_le_mul (by omega) (by omega)
    have b : (2 : Nat) ^ 49 * 2 ^ 49 < 2 ^ 99 := by decide
    omega
  rw [outer_gs 99 r m 1 hm h2 (Nat.lt_trans hz (by decide)) h3, Int.one_mul]
end Hd

set_option Elab.async false
set_option linter.all false
set_option maxRecDepth 100000
set_option maxHeartbeats 0
namespace Hd
open PySem L2 DL
/-- the figures, the highest first -/
def bitsL : Nat → List Int
  | 0 => []
  | n + 1 => bitsL ((n + 1) / 2) ++ [(((n + 1) % 2 : Nat) : Int)]
def phi_bits_of (_ : Ad) : FSp := fun ds Q Z => ∃ n : Nat, ds = [.int n] ∧ n < 2 ^ 70 ∧ Q (.lst ((bitsL n).map .int))
theorem m_bits_of {ad : Ad} : MonoF (phi_bits_of ad) := ⟨fun ds Q Q' Z Z' hq hz ⟨a, e, c, q⟩ => ⟨a, e, c, hq _ q⟩⟩
theorem p_bits_of (ad : Ad) : ∀ ds Q Z, phi_bits_of ad ds Q Z → fnD 1 2 (t_bits_of ad) ds Q Z := by
  rintro ds Q Z ⟨a, rfl, hl, q⟩
  refine ⟨rfl, ?_⟩
  simp [t_bits_of, loopE, xSeq, xIf, xAsg, xName, xRet, xRetN, xDrop, xNext, xRaise, xPar, putOps, nbO, xTru, truK, xNot, xAnd, xOr, xAndV, xOrV, xNotV, xIfE, xVar, xMov, xC, xOp, xUn, xMt, xLst, xTup, xConsA, xNilA, rdK, rd, kpK, kp, kpLK, kpL, ownK, xIsE, cmpR, cntR, idxR, appR, eqIR, intC, intF, ixR, atD, atI, ixN, flatD, eqD, wipeE, xChain, List.findIdx_cons, List.map, List.replicate]
  refine whN_inv (n := a) (fun n δ => ∃ (ds : List Int), δ = [.val (.int n), .own (ds.map .int)] ∧ ds.length ≤ 70 ∧ n * 2 ^ ds.length ≤ a ∧ bitsL n ++ ds.reverse = bitsL a) ⟨[], rfl, by simp, by simp, by simp⟩ ?_
  rintro n δ k' ⟨ds, rfl, h1, h2, h3⟩ hk
  simp [loopE, xSeq, xIf, xAsg, xName, xRet, xRetN, xDrop, xNext, xRaise, xPar, putOps, nbO, xTru, truK, xNot, xAnd, xOr, xAndV, xOrV, xNotV, xIfE, xVar, xMov, xC, xOp, xUn, xMt, xLst, xTup, xConsA, xNilA, rdK, rd, kpK, kp, kpLK, kpL, ownK, xIsE, cmpR, cntR, idxR, appR, eqIR, intC, intF, ixR, atD, atI, ixN, flatD, eqD, wipeE, xChain, List.findIdx_cons, List.map, List.replicate, gtR, modR, divR, intC, intF]
  split
  · rename_i h
    have hn : 0 < n := by omega
    have l1 : 2 ^ (ds.length + 1) = 2 * 2 ^ ds.length := by rw [Nat.pow_succ]; omega
    have l2 : n / 2 * 2 ^ (ds.length + 1) ≤ n * 2 ^ ds.length := by
      rw [l1, ← Nat.mul_assoc]; exact Nat.mul_le_mul_right _ (by omega)
    refine ⟨by omega, by decide, hk (n / 2) _ (by omega) ⟨ds ++ [((n % 2 : Nat) : Int)], ?_, ?_, ?_, ?_⟩⟩
    · simp
    · rw [List.length_append]
      have : 2 ^ ds.length < 2 ^ 70 := Nat.lt_of_le_of_lt (Nat.le_trans (by have := Nat.mul_le_mul_right (2 ^ ds.length) (show 1 ≤ n by omega); omega) h2) hl
      have := (Nat.pow_lt_pow_iff_right (by decide : 1 < 2)).mp this
      simp; omega
    · rw [List.length_append]; simp only [List.length_singleton]; omega
    · rw [← h3]
      obtain ⟨k, rfl⟩ : ∃ k, n = k + 1 := ⟨n - 1, by omega⟩
      rw [List.reverse_append, bitsL]; simp
  · rename_i h
    have e : n = 0 := by omega
    subst e
    simp [revR, loopE, xSeq, xIf, xAsg, xName, xRet, xRetN, xDrop, xNext, xRaise, xPar, putOps, nbO, xTru, truK, xNot, xAnd, xOr, xAndV, xOrV, xNotV, xIfE, xVar, xMov, xC, xOp, xUn, xMt, xLst, xTup, xConsA, xNilA, rdK, rd, kpK, kp, kpLK, kpL, ownK, xIsE, cmpR, cntR, idxR, appR, eqIR, intC, intF, ixR, atD, atI, ixN, flatD, eqD, wipeE, xChain, List.findIdx_cons, List.map, List.replicate]
    have : ds.reverse = bitsL a := by simpa [bitsL] using h3
    rw [← this] at q
    simpa using q
/-- the number told by figures, the highest first -/
def valB (l : List Int) : Nat := l.foldl (fun a b => 2 * a + b.toNat) 0
theorem valB_snoc (l : List Int) (b : Int) : valB (l ++ [b]) = 2 * valB l + b.toNat := by simp [valB]
theorem valB_bits : ∀ n, valB (bitsL n) = n
  | 0 => by simp [bitsL, valB]
  | n + 1 => by
    have := valB_bits ((n + 1) / 2)
    rw [bitsL, valB_snoc, this]; omega
theorem bits_01 : ∀ n, ∀ b ∈ bitsL n, b = 0 ∨ b = 1
  | 0, b, h => by simp [bitsL] at h
  | n + 1, b, h => by
    rw [bitsL, List.mem_append] at h
    rcases h with h | h
    · exact bits_01 _ b h
    · simp at h; omega
def phi_pair_rests_of (_ : Ad) : FSp := fun ds Q Z => ∃ (p q : Int) (n : Nat) (m : Int), ds = [.int p, .int q, .int n, .int m] ∧ (n < 2 ^ 70 ∧ 1 ≤ m ∧ m % 2 = 1 ∧ m < 2 ^ 62 ∧ -2000000 < p ∧ p < 2000000 ∧ -2000000 < q ∧ q < 2000000) ∧ Q (.tup [.int (Lu.U p q n % m), .int (Lu.V p q n % m)])
theorem m_pair_rests_of {ad : Ad} : MonoF (phi_pair_rests_of ad) := ⟨fun ds Q Q' Z Z' hq hz ⟨a, b, c, d, e, f, q⟩ => ⟨a, b, c, d, e, f, hq _ q⟩⟩
theorem p_pair_rests_of (ad : Ad) : ∀ ds Q Z, phi_pair_rests_of ad ds Q Z → fnD 4 10 (t_pair_rests_of ad (phi_bits_of ad)) ds Q Z := by
  rintro ds Q Z ⟨p, q, n, m, rfl, ⟨hn, m1, m2, m3, p1, p2, q1, q2⟩, hQ⟩
  refine ⟨rfl, ?_⟩
  have mm : ∀ x : Int, 0 ≤ x % m ∧ x % m < m := fun x => ⟨Int.emod_nonneg _ (by omega), Int.emod_lt_of_pos _ (by omega)⟩
  simp [t_pair_rests_of, loopE, xSeq, xIf, xAsg, xName, xRet, xRetN, xDrop, xNext, xRaise, xPar, putOps, nbO, xTru, truK, xNot, xAnd, xOr, xAndV, xOrV, xNotV, xIfE, xVar, xMov, xC, xOp, xUn, xMt, xLst, xTup, xConsA, xNilA, rdK, rd, kpK, kp, kpLK, kpL, ownK, xIsE, cmpR, cntR, idxR, appR, eqIR, intC, intF, ixR, atD, atI, ixN, flatD, eqD, wipeE, xChain, List.findIdx_cons, List.map, List.replicate, phi_bits_of, addR, subR, mulR, divR, modR, xFor, xIt, itemsOf, lendK, xCall]
  refine ⟨by decide, .inl (.inl ⟨by omega, by omega⟩), .inl (.inl ⟨by decide, by decide⟩), by omega, n, rfl, by omega, ?_⟩
  have hh : 2 * ((m + 1) / 2) = m + 1 := by omega
  refine forL_inv (fun i δ => ∃ (k : Nat) (b : Sl), k = valB ((bitsL n).take i) ∧ δ = [.val (.int p), .val (.int q), .val (.int n), .val (.int m), .val (.int ((m + 1) / 2)), .val (.int (p * p - 4 * q)), .val (.int (Lu.U p q k % m)), .val (.int (Lu.V p q k % m)), .val (.int (q ^ k % m)), b]) ⟨0, .un, by simp [valB], by simp [Lu.U, Lu.V]⟩ ?_ ?_
  · rintro i d δ k' hd ⟨k, b, hk0, rfl⟩ hk
    rw [List.getElem?_map] at hd
    obtain ⟨bit, hb, rfl⟩ : ∃ bit, (bitsL n)[i]? = some bit ∧ D.int bit = d := by
      cases e : (bitsL n)[i]? with
      | none => rw [e] at hd; cases hd
      | some b => rw [e] at hd; exact ⟨b, rfl, Option.some.inj hd⟩
    have h01 := bits_01 n bit (List.mem_of_getElem? hb)
    have hv : valB ((bitsL n).take (i + 1)) = 2 * k + bit.toNat := by
      rw [List.take_add_one, hb, Option.toList_some, valB_snoc, hk0]
    have cu := mm (Lu.U p q k)
    have cv := mm (Lu.V p q k)
    have cp := mm (q ^ k)
    simp [loopE, xSeq, xIf, xAsg, xName, xRet, xRetN, xDrop, xNext, xRaise, xPar, putOps, nbO, xTru, truK, xNot, xAnd, xOr, xAndV, xOrV, xNotV, xIfE, xVar, xMov, xC, xOp, xUn, xMt, xLst, xTup, xConsA, xNilA, rdK, rd, kpK, kp, kpLK, kpL, ownK, xIsE, cmpR, cntR, idxR, appR, eqIR, intC, intF, ixR, atD, atI, ixN, flatD, eqD, wipeE, xChain, List.findIdx_cons, List.map, List.replicate, addR, subR, mulR, divR, modR, eqR, eqC, okD]
    have m0 : 0 < m := by omega
    have e1 : Lu.U p q k % m * (Lu.V p q k % m) % m = Lu.U p q (2 * k) % m := by rw [Lu.e_mul, ← Lu.U_dbl]
    have e2 : (Lu.V p q k % m * (Lu.V p q k % m) - 2 * (q ^ k % m)) % m = Lu.V p q (2 * k) % m := by rw [Lu.e_sq, ← Lu.V_dbl]
    have e3 : q ^ k % m * (q ^ k % m) % m = q ^ (2 * k) % m := by rw [Lu.e_mul, ← Int.pow_add, show k + k = 2 * k by omega]
    have e4 := Lu.e_up (m := m) (p := p) hh (Lu.U_succ p q (2 * k))
    have e5 := Lu.e_up2 (m := m) hh (Lu.V_succ p q (2 * k))
    have e6 : q ^ (2 * k) % m * q % m = q ^ (2 * k + 1) % m := by rw [Int.mul_emod, Int.emod_emod, ← Int.mul_emod, ← Int.pow_succ]
    rw [e1, e2, e3, e4, e5, e6]
    have c1 := mm (Lu.U p q (2 * k))
    have c2 := mm (Lu.V p q (2 * k))
    have c3 := mm (q ^ (2 * k))
    have sm : ∀ x : Int, 0 ≤ x → x < m → -2 ^ 64 < x ∧ x < 2 ^ 64 := fun x h1 h2 => ⟨by omega, by omega⟩
    have sp : -2 ^ 64 < p ∧ p < 2 ^ 64 := ⟨by omega, by omega⟩
    have sq : -2 ^ 64 < q ∧ q < 2 ^ 64 := ⟨by omega, by omega⟩
    refine ⟨.inl (.inl (sm _ cu.1 cu.2)), m0, .inl (.inl (sm _ cv.1 cv.2)), .inl (.inl ⟨by decide, by decide⟩), m0, .inl (.inl (sm _ cp.1 cp.2)), m0, ?_⟩
    rcases h01 with rfl | rfl
    · rw [if_neg (by decide)]
      exact hk _ ⟨2 * k, _, by rw [hv]; rfl, rfl⟩
    · rw [if_pos rfl]
      exact ⟨.inl (.inl sp), .inl (.inr ⟨by omega, by omega⟩), m0, .inl (.inr (sm _ c1.1 c1.2)), .inl (.inl sp), .inl (.inr ⟨by omega, by omega⟩), m0, .inl (.inr sq), m0, hk _ ⟨2 * k + 1, _, by rw [hv]; rfl, rfl⟩⟩
  · rintro δ ⟨k, b, hk0, rfl⟩
    have : k = n := by rw [hk0, List.length_map, List.take_length, valB_bits]
    subst this
    simp [loopE, xSeq, xIf, xAsg, xName, xRet, xRetN, xDrop, xNext, xRaise, xPar, putOps, nbO, xTru, truK, xNot, xAnd, xOr, xAndV, xOrV, xNotV, xIfE, xVar, xMov, xC, xOp, xUn, xMt, xLst, xTup, xConsA, xNilA, rdK, rd, kpK, kp, kpLK, kpL, ownK, xIsE, cmpR, cntR, idxR, appR, eqIR, intC, intF, ixR, atD, atI, ixN, flatD, eqD, wipeE, xChain, List.findIdx_cons, List.map, List.replicate, un, hQ]
def isIntD : D → Bool
  | .int _ => true
  | _ => false
def withinD (lo hi : Int) : D → Bool
  | .int i => decide (lo ≤ i) && decide (i ≤ hi)
  | _ => false
def phi_is_integer (_ : Ad) : FSp := fun ds Q Z => ∃ d, ds = [d] ∧ okTy d ∧ Q (.bl (isIntD d))
def phi_is_within (_ : Ad) : FSp := fun ds Q Z => ∃ d lo hi, ds = [d, .int lo, .int hi] ∧ okTy d ∧ Q (.bl (withinD lo hi d))
theorem m_is_integer {ad : Ad} : MonoF (phi_is_integer ad) := ⟨fun ds Q Q' Z Z' hq hz ⟨d, e, c, q⟩ => ⟨d, e, c, hq _ q⟩⟩
theorem m_is_within {ad : Ad} : MonoF (phi_is_within ad) := ⟨fun ds Q Q' Z Z' hq hz ⟨d, a, b, e, c, q⟩ => ⟨d, a, b, e, c, hq _ q⟩⟩
theorem p_is_integer (ad : Ad) : ∀ ds Q Z, phi_is_integer ad ds Q Z → fnD 1 1 (t_is_integer ad) ds Q Z := by
  rintro ds Q Z ⟨d, rfl, c, q⟩
  refine ⟨rfl, ?_⟩
  cases d <;> simp_all [t_is_integer, loopE, xSeq, xIf, xAsg, xName, xRet, xRetN, xDrop, xNext, xRaise, xPar, putOps, nbO, xTru, truK, xNot, xAnd, xOr, xAndV, xOrV, xNotV, xIfE, xVar, xMov, xC, xOp, xUn, xMt, xLst, xTup, xConsA, xNilA, rdK, rd, kpK, kp, kpLK, kpL, ownK, xIsE, cmpR, cntR, idxR, appR, eqIR, intC, intF, ixR, atD, atI, ixN, flatD, eqD, wipeE, xChain, List.findIdx_cons, List.map, List.replicate, isiR, okTy, isT, isIntD]
theorem p_is_within (ad : Ad) : ∀ ds Q Z, phi_is_within ad ds Q Z → fnD 3 3 (t_is_within ad (phi_is_integer ad)) ds Q Z := by
  rintro ds Q Z ⟨d, lo, hi, rfl, c, q⟩
  refine ⟨rfl, ?_⟩
  cases d <;> simp_all [t_is_within, phi_is_integer, loopE, xSeq, xIf, xAsg, xName, xRet, xRetN, xDrop, xNext, xRaise, xPar, putOps, nbO, xTru, truK, xNot, xAnd, xOr, xAndV, xOrV, xNotV, xIfE, xVar, xMov, xC, xOp, xUn, xMt, xLst, xTup, xConsA, xNilA, rdK, rd, kpK, kp, kpLK, kpL, ownK, xIsE, cmpR, cntR, idxR, appR, eqIR, intC, intF, ixR, atD, atI, ixN, flatD, eqD, wipeE, xChain, List.findIdx_cons, List.map, List.replicate, isiR, okTy, isT, isIntD, xCall, withinD, intC, intF]
  split <;> simp_all
/-- p, q as they may be -/
def partsOk (d : D) : Bool := withinD (-1000000) 1000000 d
def phi_check_parts (ad : Ad) : FSp := fun ds Q Z => ∃ p q, ds = [p, q] ∧ okTy p ∧ okTy q ∧ (if (partsOk p && partsOk q) = true then Q .non else Z ⟨ad.BadNumber, none⟩)
theorem m_check_parts {ad : Ad} : MonoF (phi_check_parts ad) := ⟨fun ds Q Q' Z Z' hq hz ⟨p, q, e, c, c2, h⟩ => ⟨p, q, e, c, c2, by split at h <;> simp_all⟩⟩
theorem p_check_parts (ad : Ad) : ∀ ds Q Z, phi_check_parts ad ds Q Z → fnD 2 3 (t_check_parts ad (phi_is_integer ad)) ds Q Z := by
  rintro ds Q Z ⟨p, q, rfl, c1, c2, h⟩
  refine ⟨rfl, ?_⟩
  have key : ∀ i : Int, partsOk (.int i) = !decide (1000000 < if i < 0 then -i else i) := fun i => by
    simp only [partsOk, withinD]
    split
    · rw [Bool.eq_iff_iff]; simp; omega
    · rw [Bool.eq_iff_iff]; simp; omega
  simp [t_check_parts, loopE, xSeq, xIf, xAsg, xName, xRet, xRetN, xDrop, xNext, xRaise, xPar, putOps, nbO, xTru, truK, xNot, xAnd, xOr, xAndV, xOrV, xNotV, xIfE, xVar, xMov, xC, xOp, xUn, xMt, xLst, xTup, xConsA, xNilA, rdK, rd, kpK, kp, kpLK, kpL, ownK, xIsE, cmpR, cntR, idxR, appR, eqIR, intC, intF, ixR, atD, atI, ixN, flatD, eqD, wipeE, xChain, List.findIdx_cons, List.map, List.replicate, xFor, xIt, itemsOf, lendK, forL, un, phi_is_integer, xCall, gtR, intC, intF, absR]
  refine ⟨c1, ?_⟩
  cases p with
  | int i =>
    simp only [isIntD, if_true]
    by_cases hi : 1000000 < if i < 0 then -i else i
    · rw [if_pos hi]; simpa [key, hi] using h
    · rw [if_neg hi]
      refine ⟨c2, ?_⟩
      cases q with
      | int j =>
        simp only [isIntD, if_true]
        by_cases hj : 1000000 < if j < 0 then -j else j
        · rw [if_pos hj]; simpa [key, hj] using h
        · rw [if_neg hj]; simpa [key, hi, hj] using h
      | _ => simpa [isIntD, partsOk, withinD] using h
  | _ => simpa [isIntD, partsOk, withinD] using h
def phi_sign_of (_ : Ad) : FSp := fun ds Q Z => ∃ n m r : Int, ds = [.int n, .int m] ∧ (-1000000000 ≤ n ∧ n ≤ 1000000000 ∧ 1 ≤ m ∧ m ≤ 1000000000000000000 ∧ m % 2 = 1) ∧ jacO n m = some r ∧ Q (.int r)
theorem m_sign_of {ad : Ad} : MonoF (phi_sign_of ad) := ⟨fun ds Q Q' Z Z' hq hz ⟨a, b, r, e, c, c2, q⟩ => ⟨a, b, r, e, c, c2, hq _ q⟩⟩
theorem p_sign_of (ad : Ad) : ∀ ds Q Z, phi_sign_of ad ds Q Z → fnD 2 5 (t_sign_of ad (phi_is_integer ad) (phi_is_within ad)) ds Q Z := by
  rintro ds Q Z ⟨n, m, r, rfl, ⟨n1, n2, m1, m2, m3⟩, hr, q⟩
  refine ⟨rfl, ?_⟩
  have a1 : ¬ (1000000000000000000 < if n < 0 then -n else n) := by split <;> omega
  have m0 : 0 < m := by omega
  simp [t_sign_of, loopE, xSeq, xIf, xAsg, xName, xRet, xRetN, xDrop, xNext, xRaise, xPar, putOps, nbO, xTru, truK, xNot, xAnd, xOr, xAndV, xOrV, xNotV, xIfE, xVar, xMov, xC, xOp, xUn, xMt, xLst, xTup, xConsA, xNilA, rdK, rd, kpK, kp, kpLK, kpL, ownK, xIsE, cmpR, cntR, idxR, appR, eqIR, intC, intF, ixR, atD, atI, ixN, flatD, eqD, wipeE, xChain, List.findIdx_cons, List.map, List.replicate, phi_is_integer, phi_is_within, xCall, okTy, isIntD, withinD, absR, gtR, modR, eqR, eqC, okD, intC, intF, a1, m1, m2, m3, m0]
  refine ⟨.int m, 1, _, ⟨rfl, rfl, rfl⟩, trivial, ?_⟩
  rw [if_pos (by simp [m1, m2])]
  refine whN_inv (fun k δ => ∃ h b f : Int, δ = [.val (.int n), .val (.int m), .val (.int h), .val (.int b), .val (.int f)] ∧ 0 ≤ h ∧ outerO k h b f = some r) (n := 100) ⟨_, _, _, rfl, Int.emod_nonneg _ (by omega), hr⟩ ?_
  rintro k δ k' ⟨h, b, f, rfl, h0, e⟩ hk
  cases k with
  | zero => simp [outerO] at e
  | succ k =>
    rw [outerO] at e
    simp [loopE, xSeq, xIf, xAsg, xName, xRet, xRetN, xDrop, xNext, xRaise, xPar, putOps, nbO, xTru, truK, xNot, xAnd, xOr, xAndV, xOrV, xNotV, xIfE, xVar, xMov, xC, xOp, xUn, xMt, xLst, xTup, xConsA, xNilA, rdK, rd, kpK, kp, kpLK, kpL, ownK, xIsE, cmpR, cntR, idxR, appR, eqIR, intC, intF, ixR, atD, atI, ixN, flatD, eqD, wipeE, xChain, List.findIdx_cons, List.map, List.replicate, intC, intF]
    split at e
    · rename_i hp
      rw [if_pos hp]
      cases es : stripO 70 h b f with
      | none => rw [es] at e; cases e
      | some hf =>
        obtain ⟨h', f'⟩ := hf
        rw [es] at e
        have hp' := stripO_pos _ _ _ _ _ _ hp es
        refine whN_inv (fun j δ => ∃ h f : Int, δ = [.val (.int n), .val (.int m), .val (.int h), .val (.int b), .val (.int f)] ∧ 0 < h ∧ stripO j h b f = some (h', f')) (n := 70) ⟨_, _, rfl, hp, es⟩ ?_
        rintro j δ k2 ⟨h, f, rfl, hp, es⟩ hk2
        cases j with
        | zero => simp [stripO] at es
        | succ j =>
          rw [stripO] at es
          simp [loopE, xSeq, xIf, xAsg, xName, xRet, xRetN, xDrop, xNext, xRaise, xPar, putOps, nbO, xTru, truK, xNot, xAnd, xOr, xAndV, xOrV, xNotV, xIfE, xVar, xMov, xC, xOp, xUn, xMt, xLst, xTup, xConsA, xNilA, rdK, rd, kpK, kp, kpLK, kpL, ownK, xIsE, cmpR, cntR, idxR, appR, eqIR, intC, intF, ixR, atD, atI, ixN, flatD, eqD, wipeE, xChain, List.findIdx_cons, List.map, List.replicate, intC, intF, modR, eqC, okD]
          split at es
          · rename_i he
            rw [if_pos he]
            simp [loopE, xSeq, xIf, xAsg, xName, xRet, xRetN, xDrop, xNext, xRaise, xPar, putOps, nbO, xTru, truK, xNot, xAnd, xOr, xAndV, xOrV, xNotV, xIfE, xVar, xMov, xC, xOp, xUn, xMt, xLst, xTup, xConsA, xNilA, rdK, rd, kpK, kp, kpLK, kpL, ownK, xIsE, cmpR, cntR, idxR, appR, eqIR, intC, intF, ixR, atD, atI, ixN, flatD, eqD, wipeE, xChain, List.findIdx_cons, List.map, List.replicate, divR, negR, inR, inC, inF]
            refine ⟨by decide, ?_⟩
            by_cases h35 : b % 8 = 3 ∨ b % 8 = 5
            · rw [if_pos (h35.elim (fun z => .inl z.symm) fun z => .inr z.symm)]
              rw [if_pos h35] at es
              exact hk2 j _ (by omega) ⟨_, _, rfl, by omega, es⟩
            · rw [if_neg (fun z => h35 (z.elim (fun z => .inl z.symm) fun z => .inr z.symm))]
              rw [if_neg h35] at es
              exact hk2 j _ (by omega) ⟨_, _, rfl, by omega, es⟩
          · rename_i he
            rw [if_neg he]
            cases es
            have nx : ∀ g : Int, outerO k (b % h') h' g = some r → 0 < h' ∧ k' [.val (.int n), .val (.int m), .val (.int (b % h')), .val (.int h'), .val (.int g)] := fun g eg => ⟨hp, hk k _ (by omega) ⟨_, _, _, rfl, Int.emod_nonneg _ (by omega), eg⟩⟩
            dsimp only at e
            split
            · rename_i b4
              split
              · rename_i h4
                rw [if_pos ⟨b4, h4⟩] at e
                exact nx _ e
              · rename_i h4
                rw [if_neg fun z => h4 z.2] at e
                exact nx _ e
            · rename_i b4
              rw [if_neg fun z => b4 z.1] at e
              exact nx _ e
    · rename_i hp
      rw [if_neg hp]
      simp [loopE, xSeq, xIf, xAsg, xName, xRet, xRetN, xDrop, xNext, xRaise, xPar, putOps, nbO, xTru, truK, xNot, xAnd, xOr, xAndV, xOrV, xNotV, xIfE, xVar, xMov, xC, xOp, xUn, xMt, xLst, xTup, xConsA, xNilA, rdK, rd, kpK, kp, kpLK, kpL, ownK, xIsE, cmpR, cntR, idxR, appR, eqIR, intC, intF, ixR, atD, atI, ixN, flatD, eqD, wipeE, xChain, List.findIdx_cons, List.map, List.replicate, eqC, okD]
      have e := Option.some.inj e
      split
      · rename_i b1; rw [if_pos b1] at e; rw [e]; exact q
      · rename_i b1; rw [if_neg b1] at e; rw [e]; exact q
theorem lg {x : Int} (h0 : 0 < x) (h1 : x < 2 ^ 62) : x.natAbs.log2 < 9000 := by
  have : x.natAbs < 2 ^ 62 := by omega
  have h2 : x.natAbs ≠ 0 := by omega
  have := (Nat.log2_lt h2).2 this
  omega
/-- the prime factors, by turns -/
def primO : Nat → Int → Int → List Int → Option (List Int)
  | 0, _, _, _ => none
  | k + 1, l, o, acc => if o * o ≤ l then (if l % o = 0 then primO k (l / o) o (acc ++ [o]) else primO k l (o + 1) acc) else some (acc ++ if 1 < l then [l] else [])
def phi__law_primes (_ : Ad) : FSp := fun ds Q Z => ∃ (n : Int) (l : List Int), ds = [.int n] ∧ (0 ≤ n ∧ n ≤ 1000000) ∧ primO 5000 n 2 [] = some l ∧ Q (.lst (l.map .int))
theorem m__law_primes {ad : Ad} : MonoF (phi__law_primes ad) := ⟨fun ds Q Q' Z Z' hq hz ⟨a, r, e, c, c2, q⟩ => ⟨a, r, e, c, c2, hq _ q⟩⟩
theorem p__law_primes (ad : Ad) : ∀ ds Q Z, phi__law_primes ad ds Q Z → fnD 1 4 (t__law_primes ad) ds Q Z := by
  rintro ds Q Z ⟨n, l, rfl, ⟨n0, n1⟩, he, q⟩
  refine ⟨rfl, ?_⟩
  simp [t__law_primes, loopE, xSeq, xIf, xAsg, xName, xRet, xRetN, xDrop, xNext, xRaise, xPar, putOps, nbO, xTru, truK, xNot, xAnd, xOr, xAndV, xOrV, xNotV, xIfE, xVar, xMov, xC, xOp, xUn, xMt, xLst, xTup, xConsA, xNilA, rdK, rd, kpK, kp, kpLK, kpL, ownK, xIsE, cmpR, cntR, idxR, appR, eqIR, intC, intF, ixR, atD, atI, ixN, flatD, eqD, wipeE, xChain, List.findIdx_cons, List.map, List.replicate]
  refine whN_inv (fun k δ => ∃ (r o : Int) (acc : List Int), δ = [.val (.int n), .own (acc.map .int), .val (.int r), .val (.int o)] ∧ (0 ≤ r ∧ r ≤ 1000000 ∧ 2 ≤ o ∧ o ≤ 2000) ∧ acc.length + k ≤ 5000 ∧ primO k r o acc = some l) (n := 5000) ⟨n, 2, [], rfl, ⟨by omega, by omega, by omega, by omega⟩, by simp, he⟩ ?_
  rintro k δ k' ⟨r, o, acc, rfl, ⟨r0, r1, o0, o1⟩, hl, e⟩ hk
  cases k with
  | zero => simp [primO] at e
  | succ k =>
    rw [primO] at e
    have mo : mulOk o o := .inl (.inl ⟨by omega, by omega⟩)
    have oo : 0 < o := by omega
    simp [loopE, xSeq, xIf, xAsg, xName, xRet, xRetN, xDrop, xNext, xRaise, xPar, putOps, nbO, xTru, truK, xNot, xAnd, xOr, xAndV, xOrV, xNotV, xIfE, xVar, xMov, xC, xOp, xUn, xMt, xLst, xTup, xConsA, xNilA, rdK, rd, kpK, kp, kpLK, kpL, ownK, xIsE, cmpR, cntR, idxR, appR, eqIR, intC, intF, ixR, atD, atI, ixN, flatD, eqD, wipeE, xChain, List.findIdx_cons, List.map, List.replicate, leR, mulR, intC, intF, mo]
    split at e
    · rename_i hle
      rw [if_pos hle]
      have lo := lg oo (by omega)
      have ob : o ≤ 1000 := by
        rcases Int.lt_or_le 1000 o with h | h
        · have : 1001 * 1001 ≤ o * o := Int.mul_le_mul (by omega) (by omega) (by decide) (by omega)
          omega
        · exact h
      simp [loopE, xSeq, xIf, xAsg, xName, xRet, xRetN, xDrop, xNext, xRaise, xPar, putOps, nbO, xTru, truK, xNot, xAnd, xOr, xAndV, xOrV, xNotV, xIfE, xVar, xMov, xC, xOp, xUn, xMt, xLst, xTup, xConsA, xNilA, rdK, rd, kpK, kp, kpLK, kpL, ownK, xIsE, cmpR, cntR, idxR, appR, eqIR, intC, intF, ixR, atD, atI, ixN, flatD, eqD, wipeE, xChain, List.findIdx_cons, List.map, List.replicate, toIntR, modR, divR, addR, appR, eqR, eqC, okD, oo, lo]
      by_cases hm : r % o = 0
      · rw [if_pos hm] at e ⊢
        have d1 : r / o ≤ r := Int.ediv_le_self _ r0
        have d0 : 0 ≤ r / o := Int.ediv_nonneg r0 (by omega)
        exact ⟨by omega, hk k _ (by omega) ⟨_, _, acc ++ [o], by simp, ⟨d0, by omega, o0, o1⟩, by simp; omega, e⟩⟩
      · rw [if_neg hm] at e ⊢
        exact hk k _ (by omega) ⟨_, _, acc, rfl, ⟨r0, r1, by omega, by omega⟩, by omega, e⟩
    · rename_i hle
      rw [if_neg hle]
      simp [loopE, xSeq, xIf, xAsg, xName, xRet, xRetN, xDrop, xNext, xRaise, xPar, putOps, nbO, xTru, truK, xNot, xAnd, xOr, xAndV, xOrV, xNotV, xIfE, xVar, xMov, xC, xOp, xUn, xMt, xLst, xTup, xConsA, xNilA, rdK, rd, kpK, kp, kpLK, kpL, ownK, xIsE, cmpR, cntR, idxR, appR, eqIR, intC, intF, ixR, atD, atI, ixN, flatD, eqD, wipeE, xChain, List.findIdx_cons, List.map, List.replicate, addR, gtR, intC, intF]
      have e := Option.some.inj e
      split
      · rename_i h1
        rw [if_pos h1] at e
        refine ⟨by omega, ?_⟩
        rw [← e] at q
        simpa using q
      · rename_i h1
        rw [if_neg h1] at e
        refine ⟨by omega, ?_⟩
        rw [← e] at q
        simpa using q
/-- the law's sign of a prime -/
def chi (n pr : Int) : Int := if n % pr = 0 then 0 else if ((List.range (pr - 1).toNat).any fun i => (1 + (i : Int)) * (1 + (i : Int)) % pr == n % pr) = true then 1 else -1
def signL (n : Int) (l : List Int) : Int := l.foldl (fun a pr => a * chi n pr) 1
def phi__law_sign (_ : Ad) : FSp := fun ds Q Z => ∃ (n m : Int) (l : List Int), ds = [.int n, .int m] ∧ (0 ≤ m ∧ m ≤ 1000000) ∧ primO 5000 m 2 [] = some l ∧ (∀ pr ∈ l, 1 < pr ∧ pr ≤ 1000000) ∧ Q (.int (signL n l))
theorem m__law_sign {ad : Ad} : MonoF (phi__law_sign ad) := ⟨fun ds Q Q' Z Z' hq hz ⟨a, r, l, e, c, c2, c3, q⟩ => ⟨a, r, l, e, c, c2, c3, hq _ q⟩⟩
theorem p__law_sign (ad : Ad) : ∀ ds Q Z, phi__law_sign ad ds Q Z → fnD 2 7 (t__law_sign ad (phi__law_primes ad)) ds Q Z := by
  rintro ds Q Z ⟨n, m, l, rfl, ⟨m0, m1⟩, hl, hpr, hQ⟩
  refine ⟨rfl, ?_⟩
  simp [t__law_sign, loopE, xSeq, xIf, xAsg, xName, xRet, xRetN, xDrop, xNext, xRaise, xPar, putOps, nbO, xTru, truK, xNot, xAnd, xOr, xAndV, xOrV, xNotV, xIfE, xVar, xMov, xC, xOp, xUn, xMt, xLst, xTup, xConsA, xNilA, rdK, rd, kpK, kp, kpLK, kpL, ownK, xIsE, cmpR, cntR, idxR, appR, eqIR, intC, intF, ixR, atD, atI, ixN, flatD, eqD, wipeE, xChain, List.findIdx_cons, List.map, List.replicate, phi__law_primes, xCall, xFor, xIt, itemsOf, lendK]
  refine ⟨⟨m0, m1⟩, l, hl, ?_⟩
  refine forL_inv (fun i δ => ∃ (f : Int) (s3 s4 s5 : Sl), δ = [.val (.int n), .val (.int m), .val (.int f), s3, s4, s5, .un] ∧ f = signL n (l.take i) ∧ -1 ≤ f ∧ f ≤ 1) ⟨1, .un, .un, .un, rfl, by simp [signL], by decide, by decide⟩ ?_ ?_
  · rintro i d δ k' hd ⟨f, s3, s4, s5, rfl, hf, f0, f1⟩ hk
    rw [List.getElem?_map] at hd
    obtain ⟨pr, hp, rfl⟩ : ∃ pr, l[i]? = some pr ∧ D.int pr = d := by
      cases e : l[i]? with
      | none => rw [e] at hd; cases hd
      | some b => rw [e] at hd; exact ⟨b, rfl, Option.some.inj hd⟩
    obtain ⟨c1, c2⟩ := hpr pr (List.mem_of_getElem? hp)
    have p0 : 0 < pr := by omega
    have hs : signL n (l.take (i + 1)) = f * chi n pr := by
      rw [List.take_add_one, hp, Option.toList_some, hf]; simp [signL]
    simp [loopE, xSeq, xIf, xAsg, xName, xRet, xRetN, xDrop, xNext, xRaise, xPar, putOps, nbO, xTru, truK, xNot, xAnd, xOr, xAndV, xOrV, xNotV, xIfE, xVar, xMov, xC, xOp, xUn, xMt, xLst, xTup, xConsA, xNilA, rdK, rd, kpK, kp, kpLK, kpL, ownK, xIsE, cmpR, cntR, idxR, appR, eqIR, intC, intF, ixR, atD, atI, ixN, flatD, eqD, wipeE, xChain, List.findIdx_cons, List.map, List.replicate, modR, toIntR, p0, xLc, xRg2, rdK, rd, Rg]
    refine ⟨by omega, by simp [rgD]; omega, by simp [plainSl], ?_⟩
    try simp only [wipeE, List.set_cons_succ, List.set_cons_zero]
    refine lc_all (fun d => match d with
      | .int x => .int (x * x % pr)
      | d => d) (fun d hd k2 q => ?_) ?_
    · unfold rgD at hd
      obtain ⟨j, hj, rfl⟩ := List.mem_map.mp hd
      have hj := List.mem_range.mp hj
      have mo : mulOk (1 + (j : Int)) (1 + (j : Int)) := .inl (.inl ⟨by omega, by omega⟩)
      simpa [loopE, xSeq, xIf, xAsg, xName, xRet, xRetN, xDrop, xNext, xRaise, xPar, putOps, nbO, xTru, truK, xNot, xAnd, xOr, xAndV, xOrV, xNotV, xIfE, xVar, xMov, xC, xOp, xUn, xMt, xLst, xTup, xConsA, xNilA, rdK, rd, kpK, kp, kpLK, kpL, ownK, xIsE, cmpR, cntR, idxR, appR, eqIR, intC, intF, ixR, atD, atI, ixN, flatD, eqD, wipeE, xChain, List.findIdx_cons, List.map, List.replicate, mulR, toIntR, modR, mo, p0] using q
    · have mf (x : Int) : mulOk f x := .inl (.inl ⟨by omega, by omega⟩)
      simp [loopE, xSeq, xIf, xAsg, xName, xRet, xRetN, xDrop, xNext, xRaise, xPar, putOps, nbO, xTru, truK, xNot, xAnd, xOr, xAndV, xOrV, xNotV, xIfE, xVar, xMov, xC, xOp, xUn, xMt, xLst, xTup, xConsA, xNilA, rdK, rd, kpK, kp, kpLK, kpL, ownK, xIsE, cmpR, cntR, idxR, appR, eqIR, intC, intF, ixR, atD, atI, ixN, flatD, eqD, wipeE, xChain, List.findIdx_cons, List.map, List.replicate, un, restE, mulR, eqR, eqC, okD, inR, inC, inF, negR, mf]
      by_cases h0 : n % pr = 0
      · rw [if_pos h0]
        exact hk _ ⟨_, _, _, _, rfl, by rw [hs]; simp [chi, h0], by decide, by decide⟩
      · rw [if_neg h0]
        refine ⟨.inl fun x hx => ?_, ?_⟩
        · unfold rgD at hx
          obtain ⟨j, _, rfl⟩ := List.mem_map.mp hx
          rfl
        · have hw : (∃ x, x ∈ rgD 1 (pr.toNat - 1) ∧ eqD (match x with | D.int x => D.int (x * x % pr) | d => d) (D.int (n % pr)) = true) ↔ ((List.range (pr - 1).toNat).any fun i => (1 + (i : Int)) * (1 + (i : Int)) % pr == n % pr) = true := by
            have e : (pr - 1).toNat = pr.toNat - 1 := by omega
            rw [List.any_eq_true, e]
            unfold rgD
            constructor
            · rintro ⟨x, hx, he⟩
              obtain ⟨j, hj, rfl⟩ := List.mem_map.mp hx
              exact ⟨j, hj, he⟩
            · rintro ⟨j, hj, he⟩
              exact ⟨_, List.mem_map.mpr ⟨j, hj, rfl⟩, he⟩
          split
          · rename_i h
            exact hk _ ⟨_, _, _, _, rfl, by rw [hs, chi, if_neg h0, if_pos (hw.mp h), Int.mul_one], f0, f1⟩
          · rename_i h
            exact hk _ ⟨_, _, _, _, rfl, by rw [hs, chi, if_neg h0, if_neg (fun g => h (hw.mpr g))]; simp, by omega, by omega⟩
  · rintro δ ⟨f, s3, s4, s5, rfl, hf, _, _⟩
    rw [List.length_map, List.take_length] at hf
    subst hf
    simpa [loopE, xSeq, xIf, xAsg, xName, xRet, xRetN, xDrop, xNext, xRaise, xPar, putOps, nbO, xTru, truK, xNot, xAnd, xOr, xAndV, xOrV, xNotV, xIfE, xVar, xMov, xC, xOp, xUn, xMt, xLst, xTup, xConsA, xNilA, rdK, rd, kpK, kp, kpLK, kpL, ownK, xIsE, cmpR, cntR, idxR, appR, eqIR, intC, intF, ixR, atD, atI, ixN, flatD, eqD, wipeE, xChain, List.findIdx_cons, List.map, List.replicate, un] using hQ
end Hd

set_option Elab.async false
set_option linter.all false
set_option maxRecDepth 100000
namespace DL
open PySem L2
/-! ### the laws' own equality -/
mutual
def lisD : D → D → Bool
  | .non, .non => true
  | .bl a, .bl b => a == b
  | .int a, .int b => a == b
  | .str a, .str b => a == b
  | .tup xs, .tup ys => lisDs xs ys
  | .lst xs, .lst ys => lisDs xs ys
  | _, _ => false
def lisDs : List D → List D → Bool
  | [], [] => true
  | x :: xs, y :: ys => lisD x y && lisDs xs ys
  | _, _ => false
end
mutual
theorem lisD_refl : ∀ (n : Nat) (d : D), okD n d = true → lisD d d = true
  | n, .non, _ => rfl
  | n, .bl _, _ => by simp [lisD]
  | n, .int _, _ => by simp [lisD]
  | n, .str _, _ => by simp [lisD]
  | n + 1, .tup ds, h => by rw [lisD]; exact lisDs_refl n ds (by simpa [okD] using h)
  | n + 1, .lst ds, h => by rw [lisD]; exact lisDs_refl n ds (by simpa [okD] using h)
  | 0, .tup ds, h => by simp [okD] at h
  | 0, .lst ds, h => by simp [okD] at h
  | n, .dic _, h => by simp [okD] at h
  | n, .dit _, h => by simp [okD] at h
  | n, .ref _, h => by simp [okD] at h
theorem lisDs_refl : ∀ (n : Nat) (d : List D), okDs n d = true → lisDs d d = true
  | n, [], _ => rfl
  | n, d :: ds, h => by
    simp only [okDs, Bool.and_eq_true] at h
    rw [lisDs, lisD_refl n d h.1, lisDs_refl n ds h.2]; rfl
end
mutual
theorem lisD_eq : ∀ (d e : D), lisD d e = true → d = e
  | .tup xs, e, h => by
    cases e <;> simp [lisD] at h
    rw [lisDs_eq xs _ h]
  | .lst xs, e, h => by
    cases e <;> simp [lisD] at h
    rw [lisDs_eq xs _ h]
  | .non, e, h => by cases e <;> simp_all [lisD]
  | .bl a, e, h => by cases e <;> simp_all [lisD]
  | .int a, e, h => by cases e <;> simp_all [lisD]
  | .str a, e, h => by cases e <;> simp_all [lisD]
  | .dic a, e, h => by cases e <;> simp_all [lisD]
  | .dit a, e, h => by cases e <;> simp_all [lisD]
  | .ref a, e, h => by cases e <;> simp_all [lisD]
theorem lisDs_eq : ∀ (d e : List D), lisDs d e = true → d = e
  | [], e, h => by cases e <;> simp_all [lisDs]
  | x :: xs, e, h => by
    cases e with
    | nil => simp [lisDs] at h
    | cons y ys =>
      simp only [lisDs, Bool.and_eq_true] at h
      rw [lisD_eq x y h.1, lisDs_eq xs ys h.2]
end
theorem lisDs_all : ∀ (xs ys : List D), xs.length = ys.length → ((xs.zip ys).all fun p => lisD p.1 p.2) = lisDs xs ys
  | [], [], _ => rfl
  | x :: xs, y :: ys, h => by rw [List.zip_cons_cons, List.all_cons, lisDs, lisDs_all xs ys (by simpa using h)]
  | [], _ :: _, h => by simp at h
  | _ :: _, [], h => by simp at h
mutual
theorem eqD_refl : ∀ (n : Nat) (d : D), okD n d = true → eqD d d = true
  | n, .non, _ => rfl
  | n, .bl _, _ => by simp [eqD]
  | n, .int _, _ => by simp [eqD]
  | n, .str _, _ => by simp [eqD]
  | n + 1, .tup ds, h => by rw [eqD]; exact eqDs_refl n ds (by simpa [okD] using h)
  | n + 1, .lst ds, h => by rw [eqD]; exact eqDs_refl n ds (by simpa [okD] using h)
  | 0, .tup ds, h => by simp [okD] at h
  | 0, .lst ds, h => by simp [okD] at h
  | n, .dic _, h => by simp [okD] at h
  | n, .dit _, h => by simp [okD] at h
  | n, .ref _, h => by simp [okD] at h
theorem eqDs_refl : ∀ (n : Nat) (d : List D), okDs n d = true → eqDs d d = true
  | n, [], _ => rfl
  | n, d :: ds, h => by
    simp only [okDs, Bool.and_eq_true] at h
    rw [eqDs, eqD_refl n d h.1, eqDs_refl n ds h.2]; rfl
end
theorem lisDs_len : ∀ (xs ys : List D), lisDs xs ys = true → xs.length = ys.length
  | [], [], _ => rfl
  | x :: xs, y :: ys, h => by simp only [lisDs, Bool.and_eq_true] at h; simp [lisDs_len xs ys h.2]
  | [], _ :: _, h => by simp [lisDs] at h
  | _ :: _, [], h => by simp [lisDs] at h
theorem lisDs_comp {n : Nat} {xs ys : List D} (h1 : okDs n xs = true) (h2 : okDs n ys = true) : ∀ d ∈ zipD xs ys, ∃ x y, d = .tup [x, y] ∧ okD n x = true ∧ okD n y = true := by
  have key : ∀ (xs ys : List D), okDs n xs = true → okDs n ys = true → ∀ d ∈ zipD xs ys, ∃ x y, d = .tup [x, y] ∧ okD n x = true ∧ okD n y = true := by
    intro xs
    induction xs with
    | nil => intro ys _ _ d hd; simp [zipD] at hd
    | cons x xs ih =>
      intro ys h1 h2 d hd
      cases ys with
      | nil => simp [zipD] at hd
      | cons y ys =>
        simp only [okDs, Bool.and_eq_true] at h1 h2
        unfold zipD at hd
        rw [List.zip_cons_cons, List.map_cons] at hd
        rcases List.mem_cons.mp hd with rfl | hd
        · exact ⟨x, y, rfl, h1.1, h2.1⟩
        · exact ih ys h1.2 h2.2 d hd
  exact key xs ys h1 h2
def zipF (d : D) : D := match d with
  | .tup [x, y] => .bl (lisD x y)
  | d => d
theorem zipF_map (xs ys : List D) : (zipD xs ys).map zipF = ((xs.zip ys).map fun p => lisD p.1 p.2).map D.bl := by
  unfold zipD
  rw [List.map_map, List.map_map]
  rfl
theorem okD_ty {n : Nat} {d : D} (h : okD n d = true) : okTy d := by cases d <;> simp [okD] at h <;> trivial
mutual
theorem okD_up : ∀ (n m : Nat) (d : D), n ≤ m → okD n d = true → okD m d = true
  | n, m, .non, _, _ => by simp [okD]
  | n, m, .bl _, _, _ => by simp [okD]
  | n, m, .int _, _, _ => by simp [okD]
  | n, m, .str _, _, h => by simpa [okD] using h
  | n + 1, m, .tup ds, l, h => by
    cases m with
    | zero => omega
    | succ m => simp only [okD] at h ⊢; exact okDs_up n m ds (by omega) h
  | n + 1, m, .lst ds, l, h => by
    cases m with
    | zero => omega
    | succ m => simp only [okD] at h ⊢; exact okDs_up n m ds (by omega) h
  | 0, m, .tup ds, _, h => by simp [okD] at h
  | 0, m, .lst ds, _, h => by simp [okD] at h
  | n, m, .dic _, _, h => by simp [okD] at h
  | n, m, .dit _, _, h => by simp [okD] at h
  | n, m, .ref _, _, h => by simp [okD] at h
theorem okDs_up : ∀ (n m : Nat) (d : List D), n ≤ m → okDs n d = true → okDs m d = true
  | n, m, [], _, _ => by simp [okDs]
  | n, m, d :: ds, l, h => by
    simp only [okDs, Bool.and_eq_true] at h ⊢
    exact ⟨okD_up n m d l h.1, okDs_up n m ds l h.2⟩
end
-- its promise: things not deeper than n, not too long
mutual
def shrt : D → Bool
  | .tup ds => decide (ds.length ≤ 16777216) && shrts ds
  | .lst ds => decide (ds.length ≤ 16777216) && shrts ds
  | _ => true
def shrts : List D → Bool
  | [] => true
  | d :: ds => shrt d && shrts ds
end
def isP (n : Nat) : FSp := fun ds Q _ => ∃ a b, ds = [a, b] ∧ okD n a = true ∧ okD n b = true ∧ shrt a = true ∧ shrt b = true ∧ Q (.bl (lisD a b))
theorem m_isP {n : Nat} : MonoF (isP n) := ⟨fun ds Q Q' Z Z' hq hz ⟨a, b, e, h1, h2, h3, h4, q⟩ => ⟨a, b, e, h1, h2, h3, h4, hq _ q⟩⟩
theorem isP_same {n : Nat} {d : D} {Q : D → Prop} {Z : Ex → Prop} (h : okD n d = true) (s : shrt d = true) (q : Q (.bl true)) : isP n [d, d] Q Z := ⟨d, d, rfl, h, h, s, s, by rw [lisD_refl n d h]; exact q⟩
theorem shrts_mem : ∀ {xs : List D}, shrts xs = true → ∀ d ∈ xs, shrt d = true
  | [], _, d, h => by cases h
  | x :: xs, h, d, hd => by
    simp only [shrts, Bool.and_eq_true] at h
    rcases List.mem_cons.mp hd with rfl | hd
    · exact h.1
    · exact shrts_mem h.2 d hd
theorem zip_mem2 {xs ys : List D} {x y : D} (h : (D.tup [x, y]) ∈ zipD xs ys) : x ∈ xs ∧ y ∈ ys := by
  unfold zipD at h
  obtain ⟨p, hp, e⟩ := List.mem_map.mp h
  injection e with e
  injection e with e1 e
  injection e with e2 _
  subst e1 e2
  exact ⟨(List.of_mem_zip hp).1, (List.of_mem_zip hp).2⟩
end DL

set_option Elab.async false
set_option linter.all false
set_option maxRecDepth 100000
set_option maxHeartbeats 0
namespace Hd
open PySem L2 DL
theorem zipD_len (xs ys : List D) : (zipD xs ys).length ≤ xs.length := by
  unfold zipD
  rw [List.length_map, List.length_zip]; omega
theorem p__law_is (ad : Ad) (n : Nat) (hn : n ≤ 60) (f : FSp) (hf : ∀ a b Q Z, (∃ k, n = k + 1 ∧ isP k [a, b] Q Z) → f [a, b] Q Z) : ∀ ds Q Z, isP n ds Q Z → fnD 2 4 (t__law_is ad f) ds Q Z := by
  rintro ds Q Z ⟨a, b, rfl, h1, h2, s1, s2, hQ⟩
  refine ⟨rfl, ?_⟩
  have sq : ∀ (xs ys : List D) (k : Nat), n = k + 1 → okDs k xs = true → okDs k ys = true → shrts xs = true → shrts ys = true → ∀ d ∈ zipD xs ys, ∀ (Q : D → Prop) (Z : Ex → Prop), Q (zipF d) → ∃ x y, d = .tup [x, y] ∧ f [x, y] Q Z := by
    intro xs ys k hk o1 o2 t1 t2 d hd Q Z q
    obtain ⟨x, y, rfl, hx, hy⟩ := lisDs_comp o1 o2 d hd
    obtain ⟨mx, my⟩ := zip_mem2 hd
    exact ⟨x, y, rfl, hf _ _ _ _ ⟨k, hk, x, y, rfl, hx, hy, shrts_mem t1 x mx, shrts_mem t2 y my, q⟩⟩
  have lc : ∀ (xs ys : List D) (k : Nat) (δ : DL.Env), n = k + 1 → okDs k xs = true → okDs k ys = true → shrts xs = true → shrts ys = true → xs.length = ys.length → (∃ s0 s1, δ = [s0, s1, .un, .un]) → Q (.bl (lisDs xs ys)) →
      lcL (xTupG [xName 2, xName 3]) xYes (xCall f (xConsA (xMov 2) (xConsA (xMov 3) xNilA))) [2, 3] (fun acc δ2 => ∃ bs : List Bool, acc = bs.map D.bl ∧ Q (.bl (bs.all id))) (zipD xs ys) δ [] := by
    rintro xs ys k δ hk o1 o2 t1 t2 hl ⟨s0, s1, rfl⟩ hQ
    refine lc_all zipF (fun d hd k2 q => ?_) ⟨(xs.zip ys).map fun p => lisD p.1 p.2, zipF_map xs ys, ?_⟩
    · obtain ⟨x, y, rfl, h⟩ := sq xs ys k hk o1 o2 t1 t2 d hd (fun y => k2 y [s0, s1, .un, .un]) (fun _ => False) q
      simpa [loopE, xSeq, xIf, xAsg, xName, xRet, xRetN, xDrop, xNext, xRaise, xPar, putOps, nbO, xTru, truK, xNot, xAnd, xOr, xAndV, xOrV, xNotV, xIfE, xVar, xMov, xC, xOp, xUn, xMt, xLst, xTup, xConsA, xNilA, rdK, rd, kpK, kp, kpLK, kpL, ownK, xIsE, cmpR, cntR, idxR, appR, eqIR, intC, intF, ixR, atD, atI, ixN, flatD, eqD, wipeE, xChain, List.findIdx_cons, List.map, List.replicate, xTupG, gsE, xCall] using h
    · rw [List.all_map]
      have := lisDs_all xs ys hl
      rw [show ((xs.zip ys).all (id ∘ fun p => lisD p.1 p.2)) = lisDs xs ys from this]
      exact hQ
  have o64 : ∀ d, okD n d = true → okD 64 d = true := fun d h => okD_up n 64 d (by omega) h
  have t1 := okD_ty h1
  have t2 := okD_ty h2
  have p1 := o64 _ h1
  have p2 := o64 _ h2
  cases b with
  | tup ys =>
    cases a with
    | tup xs =>
      simp [t__law_is, loopE, xSeq, xIf, xAsg, xName, xRet, xRetN, xDrop, xNext, xRaise, xPar, putOps, nbO, xTru, truK, xNot, xAnd, xOr, xAndV, xOrV, xNotV, xIfE, xVar, xMov, xC, xOp, xUn, xMt, xLst, xTup, xConsA, xNilA, rdK, rd, kpK, kp, kpLK, kpL, ownK, xIsE, cmpR, cntR, idxR, appR, eqIR, intC, intF, ixR, atD, atI, ixN, flatD, eqD, wipeE, xChain, List.findIdx_cons, List.map, List.replicate, isiR, okTy, isT, neR, eqR, eqC, okD, neD, lenR, allR, xLc, xZip]
      have z := zipD_len xs ys
      simp only [shrt, Bool.and_eq_true, decide_eq_true_eq] at s1 s2
      cases n with
      | zero => simp [okD] at h1
      | succ k =>
        simp only [okD] at h1 h2
        split
        · rename_i hl
          have hl : xs.length = ys.length := by omega
          exact ⟨by omega, rfl, lc xs ys k _ rfl h1 h2 s1.2 s2.2 hl ⟨_, _, rfl⟩ hQ⟩
        · rename_i hl
          have : lisDs xs ys = false := by
            rcases Bool.eq_false_or_eq_true (lisDs xs ys) with h | h
            · exact absurd (by rw [lisDs_len _ _ h]) hl
            · exact h
          simpa [lisD, this] using hQ
    | ref _ => exact t1.elim
    | _ => simp [t__law_is, loopE, xSeq, xIf, xAsg, xName, xRet, xRetN, xDrop, xNext, xRaise, xPar, putOps, nbO, xTru, truK, xNot, xAnd, xOr, xAndV, xOrV, xNotV, xIfE, xVar, xMov, xC, xOp, xUn, xMt, xLst, xTup, xConsA, xNilA, rdK, rd, kpK, kp, kpLK, kpL, ownK, xIsE, cmpR, cntR, idxR, appR, eqIR, intC, intF, ixR, atD, atI, ixN, flatD, eqD, wipeE, xChain, List.findIdx_cons, List.map, List.replicate, isiR, okTy, isT, neR, neD, eqC, okD] ; simpa [lisD] using hQ
  | lst ys =>
    cases a with
    | lst xs =>
      simp [t__law_is, loopE, xSeq, xIf, xAsg, xName, xRet, xRetN, xDrop, xNext, xRaise, xPar, putOps, nbO, xTru, truK, xNot, xAnd, xOr, xAndV, xOrV, xNotV, xIfE, xVar, xMov, xC, xOp, xUn, xMt, xLst, xTup, xConsA, xNilA, rdK, rd, kpK, kp, kpLK, kpL, ownK, xIsE, cmpR, cntR, idxR, appR, eqIR, intC, intF, ixR, atD, atI, ixN, flatD, eqD, wipeE, xChain, List.findIdx_cons, List.map, List.replicate, isiR, okTy, isT, neR, eqR, eqC, okD, neD, lenR, allR, xLc, xZip]
      have z := zipD_len xs ys
      simp only [shrt, Bool.and_eq_true, decide_eq_true_eq] at s1 s2
      cases n with
      | zero => simp [okD] at h1
      | succ k =>
        simp only [okD] at h1 h2
        split
        · rename_i hl
          have hl : xs.length = ys.length := by omega
          exact ⟨by omega, rfl, lc xs ys k _ rfl h1 h2 s1.2 s2.2 hl ⟨_, _, rfl⟩ hQ⟩
        · rename_i hl
          have : lisDs xs ys = false := by
            rcases Bool.eq_false_or_eq_true (lisDs xs ys) with h | h
            · exact absurd (by rw [lisDs_len _ _ h]) hl
            · exact h
          simpa [lisD, this] using hQ
    | ref _ => exact t1.elim
    | _ => simp [t__law_is, loopE, xSeq, xIf, xAsg, xName, xRet, xRetN, xDrop, xNext, xRaise, xPar, putOps, nbO, xTru, truK, xNot, xAnd, xOr, xAndV, xOrV, xNotV, xIfE, xVar, xMov, xC, xOp, xUn, xMt, xLst, xTup, xConsA, xNilA, rdK, rd, kpK, kp, kpLK, kpL, ownK, xIsE, cmpR, cntR, idxR, appR, eqIR, intC, intF, ixR, atD, atI, ixN, flatD, eqD, wipeE, xChain, List.findIdx_cons, List.map, List.replicate, isiR, okTy, isT, neR, neD, eqC, okD] ; simpa [lisD] using hQ
  | ref _ => exact t2.elim
  | dic _ => simp [okD] at h2
  | dit _ => simp [okD] at h2
  | _ => 
    cases a with
    | ref _ => exact t1.elim
    | dic _ => simp [okD] at h1
    | dit _ => simp [okD] at h1
    | _ => 
      simp [t__law_is, loopE, xSeq, xIf, xAsg, xName, xRet, xRetN, xDrop, xNext, xRaise, xPar, putOps, nbO, xTru, truK, xNot, xAnd, xOr, xAndV, xOrV, xNotV, xIfE, xVar, xMov, xC, xOp, xUn, xMt, xLst, xTup, xConsA, xNilA, rdK, rd, kpK, kp, kpLK, kpL, ownK, xIsE, cmpR, cntR, idxR, appR, eqIR, intC, intF, ixR, atD, atI, ixN, flatD, eqD, wipeE, xChain, List.findIdx_cons, List.map, List.replicate, isiR, okTy, isT, isR, isC, isF, isNonD, neR, neD, eqC, eqR, p1, p2, okD]
      try simp only [okD] at p1 p2
      try simp only [p1, p2]
      simpa [lisD] using hQ
/-! ### the hand -/
def anyP (h : Addr) : FSp := fun ds Q _ => ∃ xs, (ds = [.ref h, .lst xs] ∨ ds = [.ref h, .tup xs]) ∧ (0 < xs.length ∧ xs.length ≤ 1000000) ∧ ∀ d ∈ xs, Q d
theorem m_anyP {h : Addr} : MonoF (anyP h) := ⟨fun ds Q Q' Z Z' hq hz ⟨a, e, c, q⟩ => ⟨a, e, c, fun d hd => hq _ (q d hd)⟩⟩
theorem at_in {xs : List D} {r : Int} (h0 : 0 ≤ r) (h1 : r < xs.length) : ∃ d ∈ xs, atD xs r = some d := by
  have h2 : r.toNat < xs.length := by omega
  refine ⟨xs[r.toNat], List.getElem_mem h2, ?_⟩
  unfold atD atI ixN
  rw [if_pos h0, if_pos h1]
  show xs[r.toNat]? = _
  rw [List.getElem?_eq_getElem h2]
theorem log_nat {n : Nat} (h0 : 0 < n) (h1 : n ≤ 1000000) : ((n : Int)).natAbs.log2 < 9000 := lg (x := n) (by omega) (by omega)
theorem p__law_any (ad : Ad) (h : Addr) : ∀ ds Q Z, anyP h ds Q Z → fnD 2 2 (t__law_any ad (drawF h)) ds Q Z := by
  rintro ds Q Z ⟨xs, hd, ⟨l0, l1⟩, hQ⟩
  rcases hd with rfl | rfl
  all_goals
    refine ⟨rfl, ?_⟩
    simp [t__law_any, xRet, xOp, xVar, xCall, xConsA, xNilA, xMov, xUn, rdK, rd, lenR, kpLK, kpL, kp, ixR, kpK, drawF, anyF]
    refine ⟨⟨by omega, log_nat l0 l1⟩, ?_⟩
    intro d r hr r0 r1
    subst hr
    obtain ⟨d, hd, e⟩ := at_in r0 r1
    exact ⟨d, e, hQ d hd⟩
def handP (a : Addr) (ns : List Int) : FSp := fun ds Q _ => ds = [.ref a] ∧ ns.length ≤ 63 ∧ ∀ d, handD d → Q d
theorem m_handP {a : Addr} {ns : List Int} : MonoF (handP a ns) := ⟨fun ds Q Q' Z Z' hq hz ⟨e, c, q⟩ => ⟨e, c, fun d hd => hq _ (q d hd)⟩⟩
theorem p__law_hand (ad : Ad) (a : Addr) (ns : List Int) : ∀ ds Q Z, handP a ns ds Q Z → fnD 1 3 (t__law_hand ad a ns) ds Q Z := by
  rintro ds Q Z ⟨rfl, hl, hQ⟩
  refine ⟨rfl, ?_⟩
  simp [t__law_hand, xSeq, xAsg, xLc, xIt, xScr, itemsOf, lendK, rdK, rd]
  have hc : cutD (ns.map .int) none (some 63) = ns.map .int := by
    unfold cutD HT.sIx
    simp
    rw [List.take_of_length_le (by rw [List.length_map]; omega)]
  rw [hc]
  refine ⟨by rw [List.length_map]; omega, rfl, ?_⟩
  refine lc_all (fun d => match d with
    | .int x => .int (if x < 0 then -x else x)
    | d => d) (fun d hd k2 q => ?_) ?_
  · obtain ⟨x, hx, rfl⟩ := List.mem_map.mp hd
    simpa [loopE, xSeq, xIf, xAsg, xName, xRet, xRetN, xDrop, xNext, xRaise, xPar, putOps, nbO, xTru, truK, xNot, xAnd, xOr, xAndV, xOrV, xNotV, xIfE, xVar, xMov, xC, xOp, xUn, xMt, xLst, xTup, xConsA, xNilA, rdK, rd, kpK, kp, kpLK, kpL, ownK, xIsE, cmpR, cntR, idxR, appR, eqIR, intC, intF, ixR, atD, atI, ixN, flatD, eqD, wipeE, xChain, List.findIdx_cons, List.map, List.replicate, toIntR, absR] using q
  · rw [List.map_map]
    have e : (ns.map ((fun d => match d with
      | .int x => .int (if x < 0 then -x else x)
      | d => d) ∘ D.int)) = (ns.map fun x => if x < 0 then -x else x).map D.int := by rw [List.map_map]; rfl
    rw [e]
    have m1 : mulOk 114 ns.length := .inl (.inl ⟨by omega, by omega⟩)
    simp [loopE, xSeq, xIf, xAsg, xName, xRet, xRetN, xDrop, xNext, xRaise, xPar, putOps, nbO, xTru, truK, xNot, xAnd, xOr, xAndV, xOrV, xNotV, xIfE, xVar, xMov, xC, xOp, xUn, xMt, xLst, xTup, xConsA, xNilA, rdK, rd, kpK, kp, kpLK, kpL, ownK, xIsE, cmpR, cntR, idxR, appR, eqIR, intC, intF, ixR, atD, atI, ixN, flatD, eqD, wipeE, xChain, List.findIdx_cons, List.map, List.replicate, un, restE, lenR, mulR, addR, m1]
    exact hQ _ ⟨ns.map fun x => if x < 0 then -x else x, 0, 0, _, 0, by omega, by rw [List.map_map]⟩
end Hd

set_option Elab.async false
set_option linter.all false
set_option maxRecDepth 100000
set_option maxHeartbeats 0
namespace Hd
open DL
/-! ### finite checks -/
/-- squares below a prime, as a mask -/
def sqm (pr : Nat) : Nat := (List.range (pr - 1)).foldl (fun m i => m ||| 1 <<< ((1 + i) * (1 + i) % pr)) 0
theorem fold_bit (f : Nat → Nat) (r : Nat) : ∀ (l : List Nat) (m : Nat), (l.foldl (fun m i => m ||| 1 <<< f i) m).testBit r = (m.testBit r || l.any fun i => f i == r)
  | [], m => by simp
  | a :: l, m => by
    rw [List.foldl_cons, fold_bit f r l, Nat.testBit_or, List.any_cons, Bool.or_assoc]
    congr 1
    congr 1
    rw [Nat.one_shiftLeft, Nat.testBit_two_pow]
    rw [Bool.eq_iff_iff]; simp
def chiM (r pr m : Nat) : Int := if r = 0 then 0 else if m.testBit r = true then 1 else -1
theorem chi_mask {n pr : Int} (h : 1 < pr) : chi n pr = chiM (n % pr).toNat pr.toNat (sqm pr.toNat) := by
  have h0 := Int.emod_nonneg n (b := pr) (by omega)
  unfold chi chiM sqm
  rw [fold_bit]
  have e0 : (n % pr = 0) = ((n % pr).toNat = 0) := by rw [eq_iff_iff]; omega
  have e1 : ((List.range (pr - 1).toNat).any fun i => (1 + (i : Int)) * (1 + (i : Int)) % pr == n % pr) = (Nat.testBit 0 (n % pr).toNat || (List.range (pr.toNat - 1)).any fun i => (1 + i) * (1 + i) % pr.toNat == (n % pr).toNat) := by
    rw [Nat.zero_testBit, Bool.false_or, show (pr - 1).toNat = pr.toNat - 1 by omega]
    congr 1
    funext i
    obtain ⟨k, rfl⟩ := Int.eq_ofNat_of_zero_le (show 0 ≤ pr by omega)
    rw [Bool.eq_iff_iff, beq_iff_eq, beq_iff_eq]
    have : (1 + (i : Int)) * (1 + (i : Int)) % (k : Int) = (((1 + i) * (1 + i) % k : Nat) : Int) := by rw [Int.natCast_emod, Int.natCast_mul, Int.natCast_add]; rfl
    rw [this, Int.toNat_natCast]
    omega
  rw [e1]
  simp only [e0]
def sgM (n : Int) (l : List (Nat × Nat)) : Int := l.foldl (fun a p => a * chiM (n % (p.1 : Int)).toNat p.1 p.2) 1
theorem sg_mask (n : Int) : ∀ (l : List Int) (a : Int), (∀ p ∈ l, 1 < p) → l.foldl (fun a pr => a * chi n pr) a = (l.map fun p => (p.toNat, sqm p.toNat)).foldl (fun a p => a * chiM (n % (p.1 : Int)).toNat p.1 p.2) a
  | [], a, _ => rfl
  | p :: l, a, h => by
    have hp := h p (List.mem_cons_self ..)
    rw [List.foldl_cons, List.map_cons, List.foldl_cons, chi_mask hp, Int.toNat_of_nonneg (show 0 ≤ p by omega)]
    exact sg_mask n l _ fun q hq => h q (List.mem_cons_of_mem _ hq)
def jOk (m : Nat) : Bool := match primO 5000 m 2 [] with
  | some l => (l.all fun p => decide (1 < p) && decide (p ≤ 1000000) && decide ((m : Int) % p = 0)) && ((List.range m).all fun n => decide (jacO n m = some (sgM n (l.map fun p => (p.toNat, sqm p.toNat)))))
  | none => false
theorem j_chk : ((List.range 120).all fun i => jOk (1 + 2 * i)) = true := by decide +kernel
theorem chi_mod {n m pr : Int} (h : m % pr = 0) : chi (n % m) pr = chi n pr := by
  have e : n % m % pr = n % pr := Int.emod_emod_of_dvd n (Int.dvd_of_emod_eq_zero h)
  unfold chi
  rw [e]
theorem sg_mod {n m : Int} : ∀ (l : List Int) (a : Int), (∀ p ∈ l, m % p = 0) → l.foldl (fun a pr => a * chi (n % m) pr) a = l.foldl (fun a pr => a * chi n pr) a
  | [], a, _ => rfl
  | p :: l, a, h => by
    rw [List.foldl_cons, List.foldl_cons, chi_mod (h p (List.mem_cons_self ..))]
    exact sg_mod l _ fun q hq => h q (List.mem_cons_of_mem _ hq)
/-- the law's sign is the program's -/
theorem sign_ok {n m : Int} (h1 : 1 ≤ m) (h2 : m ≤ 239) (h3 : m % 2 = 1) : ∃ l, primO 5000 m 2 [] = some l ∧ (∀ pr ∈ l, 1 < pr ∧ pr ≤ 1000000) ∧ jacO n m = some (signL n l) ∧ signL n l = Qr.gs (n % m).toNat m.toNat := by
  obtain ⟨k, rfl⟩ := Int.eq_ofNat_of_zero_le (show 0 ≤ m by omega)
  have hi : (k - 1) / 2 ∈ List.range 120 := List.mem_range.mpr (by omega)
  have h := List.all_eq_true.mp j_chk _ hi
  rw [show 1 + 2 * ((k - 1) / 2) = k by omega] at h
  unfold jOk at h
  cases e : primO 5000 (k : Int) 2 [] with
  | none => rw [e] at h; cases h
  | some l =>
    rw [e] at h
    simp only [Bool.and_eq_true, List.all_eq_true, decide_eq_true_eq, List.mem_range] at h
    obtain ⟨ha, hb⟩ := h
    have hr0 := Int.emod_nonneg n (b := (k : Int)) (by omega)
    have hr1 := Int.emod_lt_of_pos n (b := (k : Int)) (by omega)
    have hj := hb (n % (k : Int)).toNat (by omega)
    rw [Int.toNat_of_nonneg hr0] at hj
    have e1 : jacO (n % (k : Int)) k = jacO n k := by unfold jacO; rw [Int.emod_emod]
    have e2 : signL (n % (k : Int)) l = sgM (n % (k : Int)) (l.map fun p => (p.toNat, sqm p.toNat)) := sg_mask _ l 1 fun p hp => (ha p hp).1.1
    have e3 : signL (n % (k : Int)) l = signL n l := sg_mod l 1 fun p hp => (ha p hp).2
    rw [e1, ← e2, e3] at hj
    refine ⟨l, rfl, fun p hp => ⟨(ha p hp).1.1, (ha p hp).1.2⟩, hj, ?_⟩
    have g := jac_gs (n := n) (m := k) (by omega) (Nat.lt_of_le_of_lt (show k ≤ 239 by omega) (by decide))
    rw [hj] at g
    simpa using g
/-! terms -/
def fibN : Nat → Nat × Nat → List Nat
  | 0, _ => []
  | k + 1, (a, b) => a :: fibN k (b, a + b)
def fibL : List Nat := fibN 282 (0, 1)
def rtN : Nat → Nat → Nat → Nat
  | 0, x, _ => x
  | k + 1, x, n => let y := (x + n / x) / 2
    bif Nat.blt y x then rtN k y n else x
def rtF (n : Nat) : Nat := bif Nat.beq n 0 then 0 else rtN 500 (2 ^ (Nat.log2 n / 2 + 1)) n
def rtB (n r : Nat) : Bool := Nat.ble (r * r) n && Nat.blt n ((r + 1) * (r + 1))
def tB (n : Nat) : Bool := let a := 5 * n * n + 4
  let b := 5 * n * n - 4
  let r1 := rtF a
  let r2 := rtF b
  rtB a r1 && rtB b r2 && Nat.ble n (10 ^ 60) && ((Nat.beq (r1 * r1) a || (Nat.ble 4 (5 * n * n) && Nat.beq (r2 * r2) b)) == fibL.any (Nat.beq n))
def tAll : Bool := (fibL.all fun f => tB f && tB (f + 1) && tB (f - 1) && tB (f + 2)) && (List.range 200).all tB

theorem t_chk : tAll = true := by decide +kernel
end Hd

set_option Elab.async false
set_option linter.all false
set_option maxRecDepth 100000
namespace DL
open PySem L2
/-! ### to step through a reading: simp looks at the head alone. What is behind a stop stays as it is: a thing's type names it, so simp leaves it -/
universe u v
structure Tg {α : Sort u} (a : α) : Type where
structure Tg2 {α : Sort u} {β : Sort v} (a : α) (b : β) : Type where
def call (φ : FSp) (ds : List D) (Q : D → Prop) (Z : Ex → Prop) (_ : Tg2 Q Z) : Prop := φ ds Q Z
def brK (b : Bool) (A B : Prop) (_ : Tg2 A B) : Prop := if b = true then A else B
theorem brK_of {b : Bool} {A B : Prop} {t : Tg2 A B} (h1 : b = true → A) (h0 : b = false → B) : brK b A B t := by
  unfold brK
  cases b with
  | true => exact h1 rfl
  | false => exact h0 rfl
@[simp] theorem s_brK1 {A B : Prop} {t : Tg2 A B} : brK true A B t = A := id rfl
@[simp] theorem s_brK0 {A B : Prop} {t : Tg2 A B} : brK false A B t = B := id rfl
def forW (γ : DTg) (τ : DSt) (l : Option Nat) (F : DEnds) (ds : List D) (δ : Env) (_ : Tg F) : Prop := forL γ τ l F ds δ
def lcW (γ : DTg) (θ : DTT) (τ : DT) (vs : List Nat) (k : List D → Env → Prop) (ds : List D) (δ : Env) (acc : List D) (_ : Tg k) : Prop := lcL γ θ τ vs k ds δ acc
def whW (θ : DTT) (τ : DSt) (F : DEnds) (δ : Env) (_ : Tg F) : Prop := xWh θ τ F δ
def optK {α : Type} (o : Option α) (k : α → Prop) (_ : Tg k) : Prop := match o with
  | some a => k a
  | none => False
@[simp ↓] theorem s_optK1 {α : Type} {a : α} {k : α → Prop} {t : Tg k} : optK (some a) k t = k a := id rfl
@[simp ↓] theorem s_optK0 {α : Type} {k : α → Prop} {t : Tg k} : optK none k t = False := id rfl
def slAt (i : Nat) (δ : Env) (k : Sl → Prop) (_ : Tg k) : Prop := match δ[i]? with
  | some s => k s
  | none => False
@[simp ↓] theorem s_slAt0 {s : Sl} {δ : Env} {k : Sl → Prop} {t : Tg k} : slAt 0 (s :: δ) k t = k s := id rfl
@[simp ↓] theorem s_slAt1 {n : Nat} {s : Sl} {δ : Env} {k : Sl → Prop} {t : Tg k} : slAt (n + 1) (s :: δ) k t = slAt n δ k ⟨⟩ := id rfl
def vrS (s : Sl) (i : Nat) (δ : Env) (Q : Op → Env → Prop) (_ : Tg Q) : Prop := match s with
  | .val d => Q (.v d) δ
  | .own _ => Q (.b i) δ
  | .ownD _ => Q (.b i) δ
  | .ownT _ => Q (.b i) δ
  | .lent _ => Q (.b i) δ
  | _ => False
section
variable {i : Nat} {δ : Env} {Q : Op → Env → Prop} {t : Tg Q}
@[simp ↓] theorem s_vr1 {d : D} : vrS (.val d) i δ Q t = Q (.v d) δ := id rfl
@[simp ↓] theorem s_vr2 {d : List D} : vrS (.own d) i δ Q t = Q (.b i) δ := id rfl
@[simp ↓] theorem s_vr3 {d : List (Key × D)} : vrS (.ownD d) i δ Q t = Q (.b i) δ := id rfl
@[simp ↓] theorem s_vr4 {d : List (List Key × D)} : vrS (.ownT d) i δ Q t = Q (.b i) δ := id rfl
@[simp ↓] theorem s_vr5 {d : List D} : vrS (.lent d) i δ Q t = Q (.b i) δ := id rfl
@[simp ↓] theorem s_vr6 : vrS .un i δ Q t = False := id rfl
def mvS (s : Sl) (i : Nat) (δ : Env) (Q : Op → Env → Prop) (_ : Tg Q) : Prop := match s with
  | .val d => Q (.v d) δ
  | .own ds => Q (.v (.lst ds)) (δ.set i (.val (.lst ds)))
  | .ownD ds => Q (.v (.dic ds)) (δ.set i (.val (.dic ds)))
  | .ownT ds => Q (.v (.dit ds)) (δ.set i (.val (.dit ds)))
  | _ => False
@[simp ↓] theorem s_mv1 {d : D} : mvS (.val d) i δ Q t = Q (.v d) δ := id rfl
@[simp ↓] theorem s_mv2 {ds : List D} : mvS (.own ds) i δ Q t = Q (.v (.lst ds)) (δ.set i (.val (.lst ds))) := id rfl
@[simp ↓] theorem s_mv3 {ds : List (Key × D)} : mvS (.ownD ds) i δ Q t = Q (.v (.dic ds)) (δ.set i (.val (.dic ds))) := id rfl
@[simp ↓] theorem s_mv4 {ds : List (List Key × D)} : mvS (.ownT ds) i δ Q t = Q (.v (.dit ds)) (δ.set i (.val (.dit ds))) := id rfl
end
section
variable {δ : Env} {k : D → Prop} {t : Tg k}
def rdS (s : Sl) (k : D → Prop) (_ : Tg k) : Prop := match s with
  | .own ds => k (.lst ds)
  | .lent ds => k (.lst ds)
  | .ownD kvs => k (.dic kvs)
  | .ownT kvs => k (.dit kvs)
  | _ => False
@[simp ↓] theorem s_rdS1 {ds : List D} : rdS (.own ds) k t = k (.lst ds) := id rfl
@[simp ↓] theorem s_rdS2 {ds : List D} : rdS (.lent ds) k t = k (.lst ds) := id rfl
@[simp ↓] theorem s_rdS3 {ds : List (Key × D)} : rdS (.ownD ds) k t = k (.dic ds) := id rfl
@[simp ↓] theorem s_rdS4 {ds : List (List Key × D)} : rdS (.ownT ds) k t = k (.dit ds) := id rfl
def rdT (o : Op) (δ : Env) (k : D → Prop) (_ : Tg k) : Prop := rdK o δ k
@[simp ↓] theorem s_rdK1 {d : D} : rdT (.v d) δ k t = k d := id rfl
@[simp ↓] theorem s_rdK2 {d : List D} : rdT (.n d) δ k t = k (.lst d) := id rfl
@[simp ↓] theorem s_rdK3 {d : List (Key × D)} : rdT (.nd d) δ k t = k (.dic d) := id rfl
@[simp ↓] theorem s_rdK4 {d : List (List Key × D)} : rdT (.nt d) δ k t = k (.dit d) := id rfl
@[simp ↓] theorem s_rdK5 {i : Nat} : rdT (.b i) δ k t = slAt i δ (fun s => rdS s k ⟨⟩) ⟨⟩ := by
  unfold rdT rdK slAt rdS
  cases h : δ[i]? with
  | none => simp [rd, h]
  | some s => cases s <;> simp [rd, h]
def kpT (o : Op) (k : D → Prop) (_ : Tg k) : Prop := kpK o k
@[simp ↓] theorem s_kpK1 {d : D} : kpT (.v d) k t = k d := id rfl
@[simp ↓] theorem s_kpK2 {d : List D} : kpT (.n d) k t = k (.lst d) := id rfl
@[simp ↓] theorem s_kpK3 {d : List (Key × D)} : kpT (.nd d) k t = k (.dic d) := id rfl
@[simp ↓] theorem s_kpK4 {d : List (List Key × D)} : kpT (.nt d) k t = k (.dit d) := id rfl
@[simp ↓] theorem s_kpK0 {o : Op} : kpK o k = kpT o k ⟨⟩ := id rfl
end
section
variable {k : List D → Prop} {t : Tg k}
def kpLT (o : List Op) (k : List D → Prop) (_ : Tg k) : Prop := kpLK o k
@[simp ↓] theorem s_kpLK0 : kpLT [] k t = k [] := id rfl
theorem kpLK_cons {o : Op} {os : List Op} {d : D} {k : List D → Prop} (h : kp o = some d) : kpLK (o :: os) k = kpLK os fun ds => k (d :: ds) := by
  unfold kpLK
  rw [kpL, h]
  cases kpL os <;> rfl
@[simp ↓] theorem s_kpLK1 {d : D} {os : List Op} : kpLT (.v d :: os) k t = kpLT os (fun ds => k (d :: ds)) ⟨⟩ := kpLK_cons rfl
@[simp ↓] theorem s_kpLK2 {d : List D} {os : List Op} : kpLT (.n d :: os) k t = kpLT os (fun ds => k (.lst d :: ds)) ⟨⟩ := kpLK_cons rfl
@[simp ↓] theorem s_kpLK3 {d : List (Key × D)} {os : List Op} : kpLT (.nd d :: os) k t = kpLT os (fun ds => k (.dic d :: ds)) ⟨⟩ := kpLK_cons rfl
@[simp ↓] theorem s_kpLK4 {d : List (List Key × D)} {os : List Op} : kpLT (.nt d :: os) k t = kpLT os (fun ds => k (.dit d :: ds)) ⟨⟩ := kpLK_cons rfl
end
section
variable {k : Bool → Prop} {t : Tg k}
def truT (d : D) (k : Bool → Prop) (_ : Tg k) : Prop := truK d k
@[simp ↓] theorem s_truK1 : truT .non k t = k false := id rfl
@[simp ↓] theorem s_truK2 {b : Bool} : truT (.bl b) k t = k b := id rfl
@[simp ↓] theorem s_truK3 {i : Int} : truT (.int i) k t = k (i != 0) := id rfl
@[simp ↓] theorem s_truK4 {s : Str} : truT (.str s) k t = (s.length ≤ 16777216 ∧ k ((s.length : Int) != 0)) := id rfl
@[simp ↓] theorem s_truK5 {s : List D} : truT (.lst s) k t = k (!s.isEmpty) := id rfl
@[simp ↓] theorem s_truK6 {s : List D} : truT (.tup s) k t = k (!s.isEmpty) := id rfl
@[simp ↓] theorem s_truK7 {s : List (Key × D)} : truT (.dic s) k t = k (!s.isEmpty) := id rfl
def blK (d : D) (k : Bool → Prop) (_ : Tg k) : Prop := match d with
  | .bl b => k b
  | _ => False
@[simp ↓] theorem s_blK {b : Bool} : blK (.bl b) k t = k b := id rfl
end
section
variable {k : List D → Prop} {t : Tg k}
def owS (s : Sl) (k : List D → Prop) (_ : Tg k) : Prop := match s with
  | .own ds => k ds
  | _ => False
@[simp ↓] theorem s_owS {ds : List D} : owS (.own ds) k t = k ds := id rfl
theorem ownK_at {i : Nat} {δ : Env} : ownK i δ k = slAt i δ (fun s => owS s k ⟨⟩) ⟨⟩ := by
  unfold ownK slAt owS
  cases h : δ[i]? with
  | none => rfl
  | some s => cases s <;> rfl
def lsK (d : D) (k : List D → Prop) (_ : Tg k) : Prop := match d with
  | .lst ds => k ds
  | _ => False
@[simp ↓] theorem s_lsK {ds : List D} : lsK (.lst ds) k t = k ds := id rfl
def zpK (as : List D) (k : List D → Prop) (_ : Tg k) : Prop := match as with
  | [.lst ds, .lst es] => k (zipD ds es)
  | [.tup ds, .tup es] => k (zipD ds es)
  | _ => False
@[simp ↓] theorem s_zpK1 {ds es : List D} : zpK [.lst ds, .lst es] k t = k (zipD ds es) := id rfl
@[simp ↓] theorem s_zpK2 {ds es : List D} : zpK [.tup ds, .tup es] k t = k (zipD ds es) := id rfl
end
section
variable {k : Int → Prop} {t : Tg k}
def intT (o : Op) (k : Int → Prop) (_ : Tg k) : Prop := intK o k
@[simp ↓] theorem s_intK {i : Int} : intT (.v (.int i)) k t = k i := id rfl
def isI (d : D) (k : Int → Prop) (_ : Tg k) : Prop := match d with
  | .int i => k i
  | _ => False
@[simp ↓] theorem s_isI {i : Int} : isI (.int i) k t = k i := id rfl
end
def rfS (s : Sl) (k : Addr → Prop) (_ : Tg k) : Prop := match s with
  | .val (.ref f) => k f
  | _ => False
@[simp ↓] theorem s_rfS {f : Addr} {k : Addr → Prop} {t : Tg k} : rfS (.val (.ref f)) k t = k f := id rfl
section
variable {i : Nat} {δ : Env} {k : Option Nat → Env → Prop} {t : Tg k}
def lnS (s : Sl) (i : Nat) (δ : Env) (k : Option Nat → Env → Prop) (_ : Tg k) : Prop := match s with
  | .own ds => k (some i) (δ.set i (.lent ds))
  | _ => k none δ
@[simp ↓] theorem s_lnS1 {ds : List D} : lnS (.own ds) i δ k t = k (some i) (δ.set i (.lent ds)) := id rfl
@[simp ↓] theorem s_lnS2 {d : D} : lnS (.val d) i δ k t = k none δ := id rfl
@[simp ↓] theorem s_lnS3 {ds : List D} : lnS (.lent ds) i δ k t = k none δ := id rfl
def lendT (o : Op) (δ : Env) (k : Option Nat → Env → Prop) (_ : Tg k) : Prop := lendK o δ k
@[simp ↓] theorem s_lendK1 {d : D} : lendT (.v d) δ k t = k none δ := id rfl
@[simp ↓] theorem s_lendK2 {d : List D} : lendT (.n d) δ k t = k none δ := id rfl
theorem lendT_of {h : ∃ s, δ[i]? = some s} : lendT (.b i) δ k t = slAt i δ (fun s => lnS s i δ k ⟨⟩) ⟨⟩ := by
  unfold lendT lendK slAt lnS
  obtain ⟨s, h⟩ := h
  rw [h]
  cases s <;> simp [h]
end
@[simp] theorem s_itemsOf1 {ds : List D} : itemsOf (.lst ds) = some ds := id rfl
@[simp] theorem s_itemsOf2 {ds : List D} : itemsOf (.tup ds) = some ds := id rfl
@[simp] theorem s_itemsOf3 {s : Str} : itemsOf (.str s) = some (signs s) := id rfl
@[simp] theorem s_un0 {δ : Env} : un none δ = δ := id rfl
@[simp] theorem s_wipe0 {δ : Env} : wipeE [] δ = δ := id rfl
@[simp] theorem s_wipe1 {i : Nat} {is : List Nat} {δ : Env} : wipeE (i :: is) δ = (wipeE is δ).set i .un := id rfl
@[simp] theorem s_rest0 {δ0 δ : Env} : restE δ0 [] δ = δ := id rfl
def rstK (s : Option Sl) (i : Nat) (δ : Env) : Env := match s with
  | some s => δ.set i s
  | none => δ
@[simp] theorem s_rstK1 {s : Sl} {i : Nat} {δ : Env} : rstK (some s) i δ = δ.set i s := id rfl
@[simp] theorem s_rest1 {i : Nat} {is : List Nat} {δ0 δ : Env} : restE δ0 (i :: is) δ = rstK (δ0[i]?) i (restE δ0 is δ) := by
  unfold rstK
  rw [restE]
  all_goals (cases δ0[i]? <;> rfl)
@[simp] theorem s_plain1 : plainSl .un = true := id rfl
@[simp] theorem s_plain2 {d : D} : plainSl (.val d) = true := id rfl
@[simp ↓] theorem s_loop1 {N B : Env → Prop} {F : DEnds} : (loopE N B F).nx = N := id rfl
@[simp ↓] theorem s_loop2 {N B : Env → Prop} {F : DEnds} : (loopE N B F).rt = F.rt := id rfl
@[simp ↓] theorem s_loop3 {N B : Env → Prop} {F : DEnds} : (loopE N B F).bk = B := id rfl
@[simp ↓] theorem s_loop4 {N B : Env → Prop} {F : DEnds} : (loopE N B F).ct = N := id rfl
@[simp ↓] theorem s_loop5 {N B : Env → Prop} {F : DEnds} : (loopE N B F).ex = F.ex := id rfl
@[simp] theorem s_hide0 : hideE [] = [] := id rfl
@[simp] theorem s_hide1 {s : Sl} {δ : Env} : hideE (s :: δ) = hideS s :: hideE δ := id rfl
@[simp] theorem s_hideS1 : hideS .un = .un := id rfl
@[simp] theorem s_hideS2 {d : D} : hideS (.val d) = .val d := id rfl
@[simp] theorem s_hideS3 {d : List D} : hideS (.own d) = .lent d := id rfl
@[simp] theorem s_hideS4 {d : List D} : hideS (.lent d) = .lent d := id rfl
/-! operations -/
section
variable {P : Op → Prop} {t : Tg P}
def opT (ρ : D2) (a b : D) (P : Op → Prop) (_ : Tg P) : Prop := ρ a b P
def unT (ρ : D1) (a : D) (P : Op → Prop) (_ : Tg P) : Prop := ρ a P
def slT (a : D) (lo hi : Option Int) (P : Op → Prop) (_ : Tg P) : Prop := slR a lo hi P
def l3T (a b c : D) (P : Op → Prop) (_ : Tg P) : Prop := lrg3K a b c P
@[simp ↓] theorem s_addR0 {i j : Int} : opT addR (.int i) (.int j) P t = (P (.v (.int (i + j)))) := id rfl
@[simp ↓] theorem s_addR1 {i j : Str} : opT addR (.str i) (.str j) P t = (i.length + j.length ≤ 16777216 ∧ P (.v (.str (i ++ j)))) := id rfl
@[simp ↓] theorem s_addR2 {i j : List D} : opT addR (.lst i) (.lst j) P t = (i.length + j.length ≤ 16777216 ∧ P (.n (i ++ j))) := id rfl
@[simp ↓] theorem s_addR3 {i j : List D} : opT addR (.tup i) (.tup j) P t = (i.length + j.length ≤ 16777216 ∧ P (.v (.tup (i ++ j)))) := id rfl
@[simp ↓] theorem s_subR0 {i j : Int} : opT subR (.int i) (.int j) P t = (P (.v (.int (i - j)))) := id rfl
@[simp ↓] theorem s_mulR0 {i j : Int} : opT mulR (.int i) (.int j) P t = (mulOk i j ∧ P (.v (.int (i * j)))) := id rfl
@[simp ↓] theorem s_mulR1 {a : List D} {k : Int} : opT mulR (.lst a) (.int k) P t = ((k < 16777217 ∧ -16777216 ≤ k ∧ a.length * k.toNat ≤ 16777216) ∧ P (.n (List.replicate k.toNat a).flatten)) := id rfl
@[simp ↓] theorem s_mulR2 {a : List D} {k : Int} : opT mulR (.tup a) (.int k) P t = ((a ≠ [] ∧ 2 ≤ k ∧ k ≤ 1000 ∧ a.length ≤ 1000) ∧ P (.v (.tup (List.replicate k.toNat a).flatten))) := id rfl
@[simp ↓] theorem s_divR0 {i j : Int} : opT divR (.int i) (.int j) P t = ((0 < j ∧ j.natAbs.log2 < 9000) ∧ P (.v (.int (i / j)))) := id rfl
@[simp ↓] theorem s_modR0 {i j : Int} : opT modR (.int i) (.int j) P t = (0 < j ∧ P (.v (.int (i % j)))) := id rfl
@[simp ↓] theorem s_powR0 {i j : Int} : opT powR (.int i) (.int j) P t = ((0 ≤ j ∧ j ≤ 1000000 ∧ i.natAbs < 2 ^ 64) ∧ P (.v (.int (i ^ j.toNat)))) := id rfl
@[simp ↓] theorem s_shlR0 {i j : Int} : opT shlR (.int i) (.int j) P t = ((0 ≤ j ∧ j ≤ 1000000 ∧ i.natAbs < 2 ^ 64) ∧ P (.v (.int (i * 2 ^ j.toNat)))) := id rfl
@[simp ↓] theorem s_ltR {i j : Int} : opT ltR (.int i) (.int j) P t = P (.v (.bl (decide (i < j)))) := by simp [opT, ltR, cmpR, intC, intF]
@[simp ↓] theorem s_leR {i j : Int} : opT leR (.int i) (.int j) P t = P (.v (.bl (decide (i ≤ j)))) := by simp [opT, leR, cmpR, intC, intF]
@[simp ↓] theorem s_gtR {i j : Int} : opT gtR (.int i) (.int j) P t = P (.v (.bl (decide (j < i)))) := by simp [opT, gtR, cmpR, intC, intF]
@[simp ↓] theorem s_geR {i j : Int} : opT geR (.int i) (.int j) P t = P (.v (.bl (decide (j ≤ i)))) := by simp [opT, geR, cmpR, intC, intF]
@[simp ↓] theorem s_eqIR {i j : Int} : opT eqIR (.int i) (.int j) P t = P (.v (.bl (decide (i = j)))) := by simp [opT, eqIR, cmpR, intC, intF]
@[simp ↓] theorem s_eqR {a b : D} : opT eqR a b P t = (eqC a b ∧ P (.v (.bl (eqD a b)))) := id rfl
@[simp ↓] theorem s_neR {a b : D} : opT neR a b P t = (eqC a b ∧ P (.v (.bl (neD a b)))) := id rfl
@[simp ↓] theorem s_isR {a b : D} : opT isR a b P t = (isC a b ∧ P (.v (.bl (isF a b)))) := id rfl
@[simp ↓] theorem s_isnR {a b : D} : opT isnR a b P t = (isC a b ∧ P (.v (.bl (notF a b)))) := id rfl
@[simp ↓] theorem s_inR {a b : D} : opT inR a b P t = (inC a b ∧ P (.v (.bl (inF a b)))) := id rfl
@[simp ↓] theorem s_ninR {a b : D} : opT ninR a b P t = (inC a b ∧ P (.v (.bl (ninF a b)))) := id rfl
@[simp] theorem s_intC {i j : Int} : intC (.int i) (.int j) = True := id rfl
@[simp] theorem s_intF {f : Int → Int → Bool} {i j : Int} : intF f (.int i) (.int j) = f i j := id rfl
@[simp] theorem s_eqC_ii {i j : Int} : eqC (.int i) (.int j) = True := by simp [eqC, okD]
@[simp] theorem s_eqC_bb {i j : Bool} : eqC (.bl i) (.bl j) = True := by simp [eqC, okD]
@[simp] theorem s_eqD_ii {i j : Int} : eqD (.int i) (.int j) = decide (i = j) := by
  rw [Bool.eq_iff_iff]; simp [eqD]
@[simp] theorem s_eqD_bb {i j : Bool} : eqD (.bl i) (.bl j) = (i == j) := id rfl
@[simp] theorem s_neD_ii {i j : Int} : neD (.int i) (.int j) = !decide (i = j) := by simp [neD]
@[simp] theorem s_neD_bb {i j : Bool} : neD (.bl i) (.bl j) = !(i == j) := by simp [neD]
@[simp] theorem s_isC1 {d : D} : isC d .non = True := id rfl
@[simp] theorem s_isC2 {b c : Bool} : isC (.bl b) (.bl c) = True := by simp [isC]
@[simp] theorem s_isF1 {d : D} : isF d .non = isNonD d := id rfl
@[simp] theorem s_isF2 {b c : Bool} : isF (.bl b) (.bl c) = decide (b = c) := id rfl
@[simp] theorem s_notF1 {d : D} : notF d .non = !isNonD d := id rfl
@[simp] theorem s_notF2 {b c : Bool} : notF (.bl b) (.bl c) = !decide (b = c) := id rfl
@[simp] theorem s_isN0 : isNonD .non = true := id rfl
@[simp] theorem s_isN1 {i : Int} : isNonD (.int i) = false := id rfl
@[simp] theorem s_isN2 {i : Bool} : isNonD (.bl i) = false := id rfl
@[simp] theorem s_isN3 {i : Str} : isNonD (.str i) = false := id rfl
@[simp] theorem s_isN4 {i : List D} : isNonD (.tup i) = false := id rfl
@[simp] theorem s_isN5 {i : List D} : isNonD (.lst i) = false := id rfl
@[simp ↓] theorem s_isiR {ts : List Ty} {a : D} : unT (isiR ts) a P t = (okTy a ∧ P (.v (.bl (ts.any fun t => isT t a)))) := id rfl
@[simp] theorem s_okTy0 : okTy .non = True := id rfl
@[simp] theorem s_okTy1 {i : Int} : okTy (.int i) = True := id rfl
@[simp] theorem s_okTy2 {i : Bool} : okTy (.bl i) = True := id rfl
@[simp] theorem s_okTy3 {i : Str} : okTy (.str i) = True := id rfl
@[simp] theorem s_okTy4 {i : List D} : okTy (.tup i) = True := id rfl
@[simp] theorem s_okTy5 {i : List D} : okTy (.lst i) = True := id rfl
@[simp] theorem s_okTy6 {i : List (Key × D)} : okTy (.dic i) = True := id rfl
@[simp] theorem s_isT_int0  : isT .int .non = false := id rfl
@[simp] theorem s_isT_int1 {i : Int} : isT .int (.int i) = true := id rfl
@[simp] theorem s_isT_int2 {i : Bool} : isT .int (.bl i) = true := id rfl
@[simp] theorem s_isT_int3 {i : Str} : isT .int (.str i) = false := id rfl
@[simp] theorem s_isT_int4 {i : List D} : isT .int (.tup i) = false := id rfl
@[simp] theorem s_isT_int5 {i : List D} : isT .int (.lst i) = false := id rfl
@[simp] theorem s_isT_int6 {i : List (Key × D)} : isT .int (.dic i) = false := id rfl
@[simp] theorem s_isT_bl0  : isT .bl .non = false := id rfl
@[simp] theorem s_isT_bl1 {i : Int} : isT .bl (.int i) = false := id rfl
@[simp] theorem s_isT_bl2 {i : Bool} : isT .bl (.bl i) = true := id rfl
@[simp] theorem s_isT_bl3 {i : Str} : isT .bl (.str i) = false := id rfl
@[simp] theorem s_isT_bl4 {i : List D} : isT .bl (.tup i) = false := id rfl
@[simp] theorem s_isT_bl5 {i : List D} : isT .bl (.lst i) = false := id rfl
@[simp] theorem s_isT_bl6 {i : List (Key × D)} : isT .bl (.dic i) = false := id rfl
@[simp] theorem s_isT_str0  : isT .str .non = false := id rfl
@[simp] theorem s_isT_str1 {i : Int} : isT .str (.int i) = false := id rfl
@[simp] theorem s_isT_str2 {i : Bool} : isT .str (.bl i) = false := id rfl
@[simp] theorem s_isT_str3 {i : Str} : isT .str (.str i) = true := id rfl
@[simp] theorem s_isT_str4 {i : List D} : isT .str (.tup i) = false := id rfl
@[simp] theorem s_isT_str5 {i : List D} : isT .str (.lst i) = false := id rfl
@[simp] theorem s_isT_str6 {i : List (Key × D)} : isT .str (.dic i) = false := id rfl
@[simp] theorem s_isT_tup0  : isT .tup .non = false := id rfl
@[simp] theorem s_isT_tup1 {i : Int} : isT .tup (.int i) = false := id rfl
@[simp] theorem s_isT_tup2 {i : Bool} : isT .tup (.bl i) = false := id rfl
@[simp] theorem s_isT_tup3 {i : Str} : isT .tup (.str i) = false := id rfl
@[simp] theorem s_isT_tup4 {i : List D} : isT .tup (.tup i) = true := id rfl
@[simp] theorem s_isT_tup5 {i : List D} : isT .tup (.lst i) = false := id rfl
@[simp] theorem s_isT_tup6 {i : List (Key × D)} : isT .tup (.dic i) = false := id rfl
@[simp] theorem s_isT_lst0  : isT .lst .non = false := id rfl
@[simp] theorem s_isT_lst1 {i : Int} : isT .lst (.int i) = false := id rfl
@[simp] theorem s_isT_lst2 {i : Bool} : isT .lst (.bl i) = false := id rfl
@[simp] theorem s_isT_lst3 {i : Str} : isT .lst (.str i) = false := id rfl
@[simp] theorem s_isT_lst4 {i : List D} : isT .lst (.tup i) = false := id rfl
@[simp] theorem s_isT_lst5 {i : List D} : isT .lst (.lst i) = true := id rfl
@[simp] theorem s_isT_lst6 {i : List (Key × D)} : isT .lst (.dic i) = false := id rfl
@[simp] theorem s_isT_dic0  : isT .dic .non = false := id rfl
@[simp] theorem s_isT_dic1 {i : Int} : isT .dic (.int i) = false := id rfl
@[simp] theorem s_isT_dic2 {i : Bool} : isT .dic (.bl i) = false := id rfl
@[simp] theorem s_isT_dic3 {i : Str} : isT .dic (.str i) = false := id rfl
@[simp] theorem s_isT_dic4 {i : List D} : isT .dic (.tup i) = false := id rfl
@[simp] theorem s_isT_dic5 {i : List D} : isT .dic (.lst i) = false := id rfl
@[simp] theorem s_isT_dic6 {i : List (Key × D)} : isT .dic (.dic i) = true := id rfl
@[simp ↓] theorem s_negR0 {i : Int} : unT negR (.int i) P t = (P (.v (.int (-i)))) := id rfl
@[simp ↓] theorem s_absR0 {i : Int} : unT absR (.int i) P t = (P (.v (.int (if i < 0 then -i else i)))) := id rfl
@[simp ↓] theorem s_lenR0 {i : List D} : unT lenR (.lst i) P t = (P (.v (.int i.length))) := id rfl
@[simp ↓] theorem s_lenR1 {i : List D} : unT lenR (.tup i) P t = (P (.v (.int i.length))) := id rfl
@[simp ↓] theorem s_lenR2 {z : Str} : unT lenR (.str z) P t = (z.length ≤ 16777216 ∧ P (.v (.int z.length))) := id rfl
@[simp ↓] theorem s_toIntR0 {i : Int} : unT toIntR (.int i) P t = (P (.v (.int i))) := id rfl
@[simp ↓] theorem s_toIntR1 {b : Bool} : unT toIntR (.bl b) P t = (P (.v (.int (if b = true then 1 else 0)))) := id rfl
@[simp ↓] theorem s_toLstR0 {i : List D} : unT toLstR (.lst i) P t = (P (.n i)) := id rfl
@[simp ↓] theorem s_toLstR1 {i : List D} : unT toLstR (.tup i) P t = (P (.n i)) := id rfl
@[simp ↓] theorem s_toTupR0 {i : List D} : unT toTupR (.lst i) P t = (P (.v (.tup i))) := id rfl
@[simp ↓] theorem s_toTupR1 {i : List D} : unT toTupR (.tup i) P t = (P (.v (.tup i))) := id rfl
@[simp ↓] theorem s_revR0 {i : List D} : unT revR (.lst i) P t = (P (.n i.reverse)) := id rfl
@[simp ↓] theorem s_sumR0 {i : List D} : unT sumR (.lst i) P t = (∃ ns : List Int, i = ns.map D.int ∧ P (.v (.int ns.sum))) := id rfl
@[simp ↓] theorem s_sortR0 {i : List D} : unT sortR (.lst i) P t = (∃ ns : List Int, i = ns.map D.int ∧ P (.n ((srt ns).map D.int))) := id rfl
@[simp ↓] theorem s_maxR0 {i : List D} : unT maxR (.lst i) P t = (∃ ns : List Int, i = ns.map D.int ∧ 0 < ns.length ∧ ∀ m, m ∈ ns → (∀ y, y ∈ ns → y ≤ m) → P (.v (.int m))) := id rfl
@[simp ↓] theorem s_minR0 {i : List D} : unT minR (.lst i) P t = (∃ ns : List Int, i = ns.map D.int ∧ 0 < ns.length ∧ ∀ m, m ∈ ns → (∀ y, y ∈ ns → m ≤ y) → P (.v (.int m))) := id rfl
@[simp ↓] theorem s_max2R0 {i j : Int} : opT max2R (.int i) (.int j) P t = (P (.v (.int (if j > i then j else i)))) := id rfl
@[simp ↓] theorem s_min2R0 {i j : Int} : opT min2R (.int i) (.int j) P t = (P (.v (.int (if j < i then j else i)))) := id rfl
@[simp ↓] theorem s_allR0 {i : List D} : unT allR (.lst i) P t = (∃ bs : List Bool, i = bs.map D.bl ∧ P (.v (.bl (bs.all id)))) := id rfl
@[simp ↓] theorem s_anyR0 {i : List D} : unT anyR (.lst i) P t = (∃ bs : List Bool, i = bs.map D.bl ∧ P (.v (.bl (bs.any id)))) := id rfl
@[simp ↓] theorem s_lrg1R0 {n : Int} : unT lrg1R (.int n) P t = (n ≤ 16777216 ∧ 0 ≤ n ∧ P (.n (rgD 0 n.toNat))) := id rfl
@[simp ↓] theorem s_lrg2R0 {i j : Int} : opT lrg2R (.int i) (.int j) P t = ((0 ≤ i ∧ i ≤ 16777216 ∧ 0 ≤ j ∧ j ≤ 16777216) ∧ P (.n (rgD i (j - i).toNat))) := id rfl
@[simp ↓] theorem s_ixR0 {ds : List D} {i : Int} : opT ixR (.lst ds) (.int i) P t = (∃ d, atD ds i = some d ∧ P (.v d)) := id rfl
@[simp ↓] theorem s_ixR1 {ds : List D} {i : Int} : opT ixR (.tup ds) (.int i) P t = (∃ d, atD ds i = some d ∧ P (.v d)) := id rfl
@[simp ↓] theorem s_ixR2 {z : Str} {i : Int} : opT ixR (.str z) (.int i) P t = (∃ c, z.length ≤ 16777216 ∧ atI z.cps.toList i = some c ∧ P (.v (.str ⟨#[c]⟩))) := id rfl
@[simp ↓] theorem s_slR1 {ds : List D} {lo hi : Option Int} : slT (.lst ds) lo hi P t = P (.n (cutD ds lo hi)) := id rfl
@[simp ↓] theorem s_slR2 {ds : List D} {lo hi : Option Int} : slT (.tup ds) lo hi P t = P (.v (.tup (cutD ds lo hi))) := id rfl
@[simp ↓] theorem s_slR3 {z : Str} {lo hi : Option Int} : slT (.str z) lo hi P t = (z.length ≤ 16777216 ∧ P (.v (.str (cutS z lo hi)))) := id rfl
end
section
variable {P : D → List D → Prop} {ds : List D} {t : Tg P}
def mtT (ρ : DM) (ds as : List D) (P : D → List D → Prop) (_ : Tg P) : Prop := ρ ds as P
@[simp ↓] theorem s_appR0 {d : D} : mtT appR ds [d] P t = (ds.length < 16777216 ∧ P .non (ds ++ [d])) := id rfl
@[simp ↓] theorem s_extR0 {zs : List D} : mtT extR ds [.lst zs] P t = (ds.length + zs.length ≤ 16777216 ∧ P .non (ds ++ zs)) := id rfl
@[simp ↓] theorem s_popR0  : mtT popR ds [] P t = (∃ d, ds[ds.length - 1]? = some d ∧ P d ds.dropLast) := id rfl
@[simp ↓] theorem s_sortM0  : mtT sortM ds [] P t = (∃ ns : List Int, ds = ns.map D.int ∧ P .non ((srt ns).map D.int)) := id rfl
@[simp ↓] theorem s_insR0 {i : Int} {d : D} : mtT insR ds [.int i, d] P t = ((ds.length < 16777216 ∧ 0 ≤ i ∧ i < 2 ^ 63) ∧ P .non (ds.take i.toNat ++ [d] ++ ds.drop i.toNat)) := id rfl
@[simp ↓] theorem s_cntR0 {d : D} : mtT cntR ds [d] P t = ((flatD d = true ∧ ds.all flatD = true) ∧ P (.int ((ds.countP fun z => eqD z d : Nat) : Int)) ds) := id rfl
@[simp ↓] theorem s_idxR0 {d : D} : mtT idxR ds [d] P t = ((flatD d = true ∧ ds.all flatD = true) ∧ (ds.findIdx fun z => eqD z d) < ds.length ∧ P (.int ((ds.findIdx fun z => eqD z d : Nat) : Int)) ds) := id rfl
@[simp ↓] theorem s_popAtR0 {i : Int} : mtT popAtR ds [.int i] P t = ((-(2 ^ 63) ≤ i ∧ i < 2 ^ 63) ∧ ∃ k d, seqIndex? i ds.length = some k ∧ ds[k]? = some d ∧ P d (ds.eraseIdx k)) := id rfl
end
section
variable {Z : Ex → Prop} {δ δ' : Env} {F : DEnds}
@[simp ↓] theorem s_xC {d : D} {Q : Op → Env → Prop} : xC d Z δ Q = (Q (.v d) δ) := id rfl
@[simp ↓] theorem s_xVar {i : Nat} {Q : Op → Env → Prop} : xVar i Z δ Q = (slAt i δ (fun s => vrS s i δ Q ⟨⟩) ⟨⟩) := by
  unfold xVar slAt vrS
  cases h : δ[i]? with
  | none => rfl
  | some s => cases s <;> rfl
@[simp ↓] theorem s_xMov {i : Nat} {Q : Op → Env → Prop} : xMov i Z δ Q = (slAt i δ (fun s => mvS s i δ Q ⟨⟩) ⟨⟩) := by
  unfold xMov slAt mvS
  cases h : δ[i]? with
  | none => rfl
  | some s => cases s <;> rfl
@[simp ↓] theorem s_xOp {ρ : D2} {a b : DT} {Q : Op → Env → Prop} : xOp ρ a b Z δ Q = (a Z δ fun o1 δ1 => b Z δ1 fun o2 δ2 => rdT o1 δ2 (fun d1 => rdT o2 δ2 (fun d2 => opT ρ d1 d2 (fun o => Q o δ2) ⟨⟩) ⟨⟩) ⟨⟩) := id rfl
@[simp ↓] theorem s_xUn {ρ : D1} {a : DT} {Q : Op → Env → Prop} : xUn ρ a Z δ Q = (a Z δ fun o δ1 => rdT o δ1 (fun d => unT ρ d (fun o => Q o δ1) ⟨⟩) ⟨⟩) := id rfl
@[simp ↓] theorem s_xTru {a : DT} {Q : Bool → Env → Prop} : xTru a Z δ Q = (a Z δ fun o δ1 => rdT o δ1 (fun d => truT d (fun b => Q b δ1) ⟨⟩) ⟨⟩) := id rfl
@[simp ↓] theorem s_xNot {a : DTT} {Q : Bool → Env → Prop} : xNot a Z δ Q = (a Z δ fun b δ1 => Q (!b) δ1) := id rfl
@[simp ↓] theorem s_xAnd {a b : DTT} {Q : Bool → Env → Prop} : xAnd a b Z δ Q = (a Z δ fun c δ1 => brK c (b Z δ1 Q) (Q false δ1) ⟨⟩) := id rfl
@[simp ↓] theorem s_xOr {a b : DTT} {Q : Bool → Env → Prop} : xOr a b Z δ Q = (a Z δ fun c δ1 => brK c (Q true δ1) (b Z δ1 Q) ⟨⟩) := id rfl
@[simp ↓] theorem s_xYes  {Q : Bool → Env → Prop} : xYes  Z δ Q = (Q true δ) := id rfl
@[simp ↓] theorem s_xAndV {a b : DT} {Q : Op → Env → Prop} : xAndV a b Z δ Q = (a Z δ fun o δ1 => rdT o δ1 (fun d => blK d (fun c => brK c (b Z δ1 Q) (Q (.v (.bl false)) δ1) ⟨⟩) ⟨⟩) ⟨⟩) := by
  unfold xAndV
  refine congrArg _ (funext fun o => funext fun δ1 => congrArg _ (funext fun d => ?_))
  cases d <;> rfl
@[simp ↓] theorem s_xOrV {a b : DT} {Q : Op → Env → Prop} : xOrV a b Z δ Q = (a Z δ fun o δ1 => rdT o δ1 (fun d => blK d (fun c => brK c (Q (.v (.bl true)) δ1) (b Z δ1 Q) ⟨⟩) ⟨⟩) ⟨⟩) := by
  unfold xOrV
  refine congrArg _ (funext fun o => funext fun δ1 => congrArg _ (funext fun d => ?_))
  cases d <;> rfl
@[simp ↓] theorem s_xNotV {a : DT} {Q : Op → Env → Prop} : xNotV a Z δ Q = (a Z δ fun o δ1 => rdT o δ1 (fun d => blK d (fun c => Q (.v (.bl (!c))) δ1) ⟨⟩) ⟨⟩) := by
  unfold xNotV
  refine congrArg _ (funext fun o => funext fun δ1 => congrArg _ (funext fun d => ?_))
  cases d <;> rfl
@[simp ↓] theorem s_xIfE {c : DTT} {a b : DT} {Q : Op → Env → Prop} : xIfE c a b Z δ Q = (c Z δ fun k δ1 => brK k (a Z δ1 Q) (b Z δ1 Q) ⟨⟩) := id rfl
@[simp ↓] theorem s_xChain {C C' : D → D → Prop} {f f' : D → D → Bool} {a b c : DT} {Q : Op → Env → Prop} : xChain C C' f f' a b c Z δ Q = (a Z δ fun o1 δ1 => b Z δ1 fun o2 δ2 => rdT o1 δ2 (fun d1 => rdT o2 δ2 (fun d2 => C d1 d2 ∧ brK (f d1 d2) (c Z δ2 fun o3 δ3 => rdT o2 δ3 (fun d2 => rdT o3 δ3 (fun d3 => C' d2 d3 ∧ Q (.v (.bl (f' d2 d3))) δ3) ⟨⟩) ⟨⟩) (Q (.v (.bl false)) δ2) ⟨⟩) ⟨⟩) ⟨⟩) := id rfl
@[simp ↓] theorem s_xNilA  {Q : List Op → Env → Prop} : xNilA  Z δ Q = (Q [] δ) := id rfl
@[simp ↓] theorem s_xConsA {a : DT} {s : DTA} {Q : List Op → Env → Prop} : xConsA a s Z δ Q = (a Z δ fun o δ1 => s Z δ1 fun os δ2 => Q (o :: os) δ2) := id rfl
@[simp ↓] theorem s_xTup {s : DTA} {Q : Op → Env → Prop} : xTup s Z δ Q = (s Z δ fun os δ1 => kpLT os (fun ds => ds.length ≤ 16777216 ∧ Q (.v (.tup ds)) δ1) ⟨⟩) := id rfl
@[simp ↓] theorem s_xLst {s : DTA} {Q : Op → Env → Prop} : xLst s Z δ Q = (s Z δ fun os δ1 => kpLT os (fun ds => ds.length ≤ 16777216 ∧ Q (.n ds) δ1) ⟨⟩) := id rfl
@[simp ↓] theorem s_xCall {φ : FSp} {s : DTA} {Q : Op → Env → Prop} : xCall φ s Z δ Q = (s Z δ fun os δ1 => kpLT os (fun ds => call φ ds (fun d => Q (.v d) δ1) Z ⟨⟩) ⟨⟩) := id rfl
def rdLT (os : List Op) (δ : Env) (k : List D → Prop) (_ : Tg k) : Prop := rdLK os δ k
@[simp ↓] theorem s_rdLK0 {k : List D → Prop} {t : Tg k} : rdLT [] δ k t = k [] := id rfl
@[simp ↓] theorem s_rdLK1 {o : Op} {os : List Op} {k : List D → Prop} {t : Tg k} : rdLT (o :: os) δ k t = rdT o δ (fun d => rdLT os δ (fun ds => k (d :: ds)) ⟨⟩) ⟨⟩ := by
  unfold rdLT rdLK rdT rdK
  rw [rdL]
  cases h : rd o δ with
  | none => rfl
  | some d => cases h2 : rdL δ os <;> simp [h2]
@[simp ↓] theorem s_xCallF {φ : FSp} {s : DTA} {Q : Op → Env → Prop} : xCallF φ s Z δ Q = (s Z δ fun os δ1 => rdLT os δ1 (fun ds => call φ ds (fun d => flatD d = true ∧ Q (.v d) δ1) (fun x => x.fld = none ∧ Z x) ⟨⟩) ⟨⟩) := id rfl
@[simp ↓] theorem s_xMt {i : Nat} {ρ : DM} {s : DTA} {Q : Op → Env → Prop} : xMt i ρ s Z δ Q = (slAt i δ (fun s0 => owS s0 (fun _ => s Z δ fun os δ1 => kpLT os (fun as => slAt i δ1 (fun s1 => owS s1 (fun ds => mtT ρ ds as (fun d ds' => Q (.v d) (δ1.set i (.own ds'))) ⟨⟩) ⟨⟩) ⟨⟩) ⟨⟩) ⟨⟩) ⟨⟩) := by
  unfold xMt
  rw [ownK_at]
  refine congrArg (fun k => slAt i δ k ⟨⟩) (funext fun s0 => congrArg (fun k => owS s0 k ⟨⟩) (funext fun _ => congrArg _ (funext fun os => funext fun δ1 => congrArg (kpLK os) (funext fun as => ?_))))
  exact ownK_at
@[simp ↓] theorem s_xLc {ι : DIt} {γ : DTg} {θ : DTT} {τ : DT} {vs : List Nat} {Q : Op → Env → Prop} : xLc ι γ θ τ vs Z δ Q = (ι Z δ fun ds l δ1 => ds.length ≤ 16777216 ∧ (vs.all fun i => match δ1[i]? with
    | some s => plainSl s
    | none => true) = true ∧ lcW γ θ τ vs (fun acc δ2 => Q (.n acc) (un l (restE δ1 vs δ2))) ds (wipeE vs δ1) [] ⟨⟩) := rfl
@[simp ↓] theorem s_xSl0 {a : DT} {Q : Op → Env → Prop} : xSl0 a Z δ Q = (a Z δ fun o δ1 => rdT o δ1 (fun d => slT d none none (fun o => Q o δ1) ⟨⟩) ⟨⟩) := id rfl
@[simp ↓] theorem s_xSlL {a b : DT} {Q : Op → Env → Prop} : xSlL a b Z δ Q = (a Z δ fun o1 δ1 => b Z δ1 fun o2 δ2 => rdT o1 δ2 (fun d1 => rdT o2 δ2 (fun d2 => isI d2 (fun i => slT d1 (some i) none (fun o => Q o δ2) ⟨⟩) ⟨⟩) ⟨⟩) ⟨⟩) := by
  unfold xSlL xOp
  refine congrArg _ (funext fun o1 => funext fun δ1 => congrArg _ (funext fun o2 => funext fun δ2 => congrArg _ (funext fun d1 => congrArg _ (funext fun d2 => ?_))))
  cases d2 <;> rfl
@[simp ↓] theorem s_xSlH {a b : DT} {Q : Op → Env → Prop} : xSlH a b Z δ Q = (a Z δ fun o1 δ1 => b Z δ1 fun o2 δ2 => rdT o1 δ2 (fun d1 => rdT o2 δ2 (fun d2 => isI d2 (fun i => slT d1 none (some i) (fun o => Q o δ2) ⟨⟩) ⟨⟩) ⟨⟩) ⟨⟩) := by
  unfold xSlH xOp
  refine congrArg _ (funext fun o1 => funext fun δ1 => congrArg _ (funext fun o2 => funext fun δ2 => congrArg _ (funext fun d1 => congrArg _ (funext fun d2 => ?_))))
  cases d2 <;> rfl
@[simp ↓] theorem s_xSlB {a b c : DT} {Q : Op → Env → Prop} : xSlB a b c Z δ Q = (a Z δ fun o δ1 => b Z δ1 fun o1 δ2 => intT o1 (fun i => c Z δ2 fun o2 δ3 => intT o2 (fun j => rdT o δ3 (fun d => slT d (some i) (some j) (fun o => Q o δ3) ⟨⟩) ⟨⟩) ⟨⟩) ⟨⟩) := id rfl
@[simp ↓] theorem s_xLrg3 {a b c : DT} {Q : Op → Env → Prop} : xLrg3 a b c Z δ Q = (a Z δ fun o δ1 => b Z δ1 fun o' δ2 => c Z δ2 fun o'' δ3 => rdT o δ3 (fun d => rdT o' δ3 (fun d' => rdT o'' δ3 (fun d'' => isI d (fun i => isI d' (fun j => isI d'' (fun c => ∃ n : Nat, RgC i j c n ∧ n ≤ 16777216 ∧ Q (.n (rgC i c n)) δ3) ⟨⟩) ⟨⟩) ⟨⟩) ⟨⟩) ⟨⟩) ⟨⟩) := by
  unfold xLrg3
  refine congrArg _ (funext fun o => funext fun δ1 => congrArg _ (funext fun o' => funext fun δ2 => congrArg _ (funext fun o'' => funext fun δ3 => congrArg _ (funext fun d => congrArg _ (funext fun d' => congrArg _ (funext fun d'' => ?_))))))
  cases d <;> cases d' <;> cases d'' <;> rfl
@[simp ↓] theorem s_xHear {R : Addr → Option D} {l : D} {a : DT} {Q : Op → Env → Prop} : xHear R l a Z δ Q = ((flatD l = true ∧ ∀ C w, R C = some w → flatD w = true) ∧ a (fun x => x.fld = none ∧ ∃ w, R x.cls = some w ∧ Q (.v w) δ) (hideE δ) fun _ _ => Q (.v l) δ) := id rfl
@[simp ↓] theorem s_xDic0  {Q : Op → Env → Prop} : xDic0  Z δ Q = (Q (.nd []) δ) := id rfl
@[simp ↓] theorem s_xCallL {i : Nat} {R : Addr → Option FSp} {s : DTA} {Q : Op → Env → Prop} : xCallL i R s Z δ Q = (slAt i δ (fun sl => rfS sl (fun f => optK (R f) (fun φ => xCall φ s Z δ Q) ⟨⟩) ⟨⟩) ⟨⟩) := by
  unfold xCallL slAt rfS
  cases h : δ[i]? with
  | none => rfl
  | some s => cases s <;> first | rfl | (rename_i d; cases d <;> first | rfl | (rename_i f; simp only [optK]; split <;> simp_all))
@[simp ↓] theorem s_xIsE {i : Nat} {a : Addr} {b : Bool} {Q : Op → Env → Prop} : xIsE i a b Z δ Q = (slAt i δ (fun sl => rfS sl (fun a' => a' = a ∧ Q (.v (.bl b)) δ) ⟨⟩) ⟨⟩) := by
  unfold xIsE slAt rfS
  cases h : δ[i]? with
  | none => rfl
  | some s => cases s <;> first | rfl | (rename_i d; cases d <;> first | rfl | (rename_i f; simp only [optK]; split <;> simp_all))
@[simp ↓] theorem s_xScr {i : Nat} {a : Addr} {ns : List Int} {k : Int} {Q : Op → Env → Prop} : xScr i a ns k Z δ Q = (slAt i δ (fun sl => rfS sl (fun b => b = a ∧ Q (.n (cutD (ns.map .int) none (some k))) δ) ⟨⟩) ⟨⟩) := by
  unfold xScr slAt rfS
  cases h : δ[i]? with
  | none => rfl
  | some s => cases s <;> first | rfl | (rename_i d; cases d <;> first | rfl | (rename_i f; simp only [optK]; split <;> simp_all))
def itT (o : Op) (δ : Env) (k : Option Nat → Env → Prop) (_ : Tg k) : Prop := lendK o δ k
section
variable {k : Option Nat → Env → Prop} {t : Tg k}
@[simp ↓] theorem s_itT1 {d : D} : itT (.v d) δ k t = k none δ := id rfl
@[simp ↓] theorem s_itT2 {d : List D} : itT (.n d) δ k t = k none δ := id rfl
def liT (s : Option Sl) (i : Nat) (δ : Env) (k : Option Nat → Env → Prop) (_ : Tg k) : Prop := match s with
  | some (.own ds) => k (some i) (δ.set i (.lent ds))
  | _ => k none δ
@[simp] theorem s_liT1 {ds : List D} {i : Nat} : liT (some (.own ds)) i δ k t = k (some i) (δ.set i (.lent ds)) := id rfl
@[simp] theorem s_liT2 {d : D} {i : Nat} : liT (some (.val d)) i δ k t = k none δ := id rfl
@[simp] theorem s_liT3 {ds : List D} {i : Nat} : liT (some (.lent ds)) i δ k t = k none δ := id rfl
@[simp ↓] theorem s_itT3 {i : Nat} : itT (.b i) δ k t = liT (δ[i]?) i δ k ⟨⟩ := by
  unfold itT lendK liT
  cases h : δ[i]? with
  | none => simp [h]
  | some s => cases s <;> simp [h]
end
@[simp ↓] theorem s_xIt {f : List D → List D} {a : DT} {Q : List D → Option Nat → Env → Prop} : xIt f a Z δ Q = (a Z δ fun o δ1 => rdT o δ1 (fun d => optK (itemsOf d) (fun ds => itT o δ1 (fun l δ2 => Q (f ds) l δ2) ⟨⟩) ⟨⟩) ⟨⟩) := by
  unfold xIt
  refine congrArg _ (funext fun o => funext fun δ1 => congrArg _ (funext fun d => ?_))
  cases itemsOf d <;> rfl
@[simp ↓] theorem s_xItL {f : List D → List D} {a : DT} {Q : List D → Option Nat → Env → Prop} : xItL f a Z δ Q = (a Z δ fun o δ1 => rdT o δ1 (fun d => lsK d (fun ds => itT o δ1 (fun l δ2 => Q (f ds) l δ2) ⟨⟩) ⟨⟩) ⟨⟩) := by
  unfold xItL
  refine congrArg _ (funext fun o => funext fun δ1 => congrArg _ (funext fun d => ?_))
  cases d <;> rfl
@[simp ↓] theorem s_xRg1 {a : DT} {Q : List D → Option Nat → Env → Prop} : xRg1 a Z δ Q = (a Z δ fun o δ1 => rdT o δ1 (fun d => isI d (fun j => Rg j ∧ Q (rgD 0 j.toNat) none δ1) ⟨⟩) ⟨⟩) := by
  unfold xRg1
  refine congrArg _ (funext fun o => funext fun δ1 => congrArg _ (funext fun d => ?_))
  cases d <;> rfl
@[simp ↓] theorem s_xRg2 {a b : DT} {Q : List D → Option Nat → Env → Prop} : xRg2 a b Z δ Q = (a Z δ fun o1 δ1 => b Z δ1 fun o2 δ2 => rdT o1 δ2 (fun d1 => rdT o2 δ2 (fun d2 => isI d1 (fun i => isI d2 (fun j => (Rg i ∧ Rg j) ∧ Q (rgD i (j - i).toNat) none δ2) ⟨⟩) ⟨⟩) ⟨⟩) ⟨⟩) := by
  unfold xRg2
  refine congrArg _ (funext fun o1 => funext fun δ1 => congrArg _ (funext fun o2 => funext fun δ2 => congrArg _ (funext fun d1 => congrArg _ (funext fun d2 => ?_))))
  cases d1 <;> cases d2 <;> rfl
@[simp ↓] theorem s_xRg3 {a b c : DT} {Q : List D → Option Nat → Env → Prop} : xRg3 a b c Z δ Q = (a Z δ fun o1 δ1 => b Z δ1 fun o2 δ2 => c Z δ2 fun o3 δ3 => rdT o1 δ3 (fun d1 => rdT o2 δ3 (fun d2 => rdT o3 δ3 (fun d3 => isI d1 (fun i => isI d2 (fun j => isI d3 (fun c => ∃ n, RgC i j c n ∧ Q (rgC i c n) none δ3) ⟨⟩) ⟨⟩) ⟨⟩) ⟨⟩) ⟨⟩) ⟨⟩) := by
  unfold xRg3
  refine congrArg _ (funext fun o1 => funext fun δ1 => congrArg _ (funext fun o2 => funext fun δ2 => congrArg _ (funext fun o3 => funext fun δ3 => congrArg _ (funext fun d1 => congrArg _ (funext fun d2 => congrArg _ (funext fun d3 => ?_))))))
  cases d1 <;> cases d2 <;> cases d3 <;> rfl
@[simp ↓] theorem s_xZip {s : DTA} {Q : List D → Option Nat → Env → Prop} : xZip s Z δ Q = (s Z δ fun os δ1 => kpLT os (fun as => zpK as (fun ds => Q ds none δ1) ⟨⟩) ⟨⟩) := by
  unfold xZip
  refine congrArg _ (funext fun os => funext fun δ1 => congrArg _ (funext fun as => ?_))
  unfold zpK
  split <;> simp_all
@[simp ↓] theorem s_xName0 {i : Nat} {d : D} {Q : Env → Prop} : xName i (.v d) δ Q = (Q (δ.set i (.val d))) := id rfl
@[simp ↓] theorem s_xName1 {i : Nat} {d : List D} {Q : Env → Prop} : xName i (.n d) δ Q = (Q (δ.set i (.own d))) := id rfl
@[simp ↓] theorem s_xName2 {i : Nat} {d : List (Key × D)} {Q : Env → Prop} : xName i (.nd d) δ Q = (Q (δ.set i (.ownD d))) := id rfl
@[simp ↓] theorem s_xName3 {i : Nat} {d : List (List Key × D)} {Q : Env → Prop} : xName i (.nt d) δ Q = (Q (δ.set i (.ownT d))) := id rfl
@[simp ↓] theorem s_xTupG0 {γs : List DTg} {ds : List D} {Q : Env → Prop} : xTupG γs (.v (.tup ds)) δ Q = (ds.length = γs.length ∧ gsE γs ds δ Q) := id rfl
@[simp ↓] theorem s_gsE0 {Q : Env → Prop} : gsE [] [] δ Q = Q δ := id rfl
@[simp ↓] theorem s_gsE1 {γ : DTg} {γs : List DTg} {d : D} {ds : List D} {Q : Env → Prop} : gsE (γ :: γs) (d :: ds) δ Q = γ (.v d) δ fun δ1 => gsE γs ds δ1 Q := id rfl
@[simp ↓] theorem s_putOps0 {Q : Env → Prop} : putOps [] [] δ Q = Q δ := id rfl
@[simp ↓] theorem s_putOps1 {i : Nat} {is : List Nat} {o : Op} {os : List Op} {Q : Env → Prop} : putOps (i :: is) (o :: os) δ Q = xName i o δ fun δ1 => putOps is os δ1 Q := id rfl
@[simp] theorem s_nbO1 {d : D} : nbO (.v d) = true := id rfl
@[simp] theorem s_nbO2 {d : List D} : nbO (.n d) = true := id rfl
@[simp] theorem s_nbO3 {i : Nat} : nbO (.b i) = false := id rfl
def setK (di : D) (ds : List D) (k : Nat → Prop) (_ : Tg k) : Prop := match di with
  | .int j => match ixN ds.length j with
    | some n => k n
    | none => False
  | _ => False
@[simp ↓] theorem s_setK {j : Int} {ds : List D} {k : Nat → Prop} {t : Tg k} : setK (.int j) ds k t = optK (ixN ds.length j) k ⟨⟩ := by
  show (match ixN ds.length j with
    | some n => k n
    | none => False) = optK _ k ⟨⟩
  unfold optK
  cases ixN ds.length j <;> rfl
@[simp ↓] theorem s_xSub {i : Nat} {a : DT} {o : Op} {Q : Env → Prop} : xSub i a o δ Q = kpT o (fun d => slAt i δ (fun s0 => owS s0 (fun _ => a (fun _ => False) δ fun oi δ1 => rdT oi δ1 (fun di => slAt i δ1 (fun s1 => owS s1 (fun ds => setK di ds (fun n => Q (δ1.set i (.own (ds.set n d)))) ⟨⟩) ⟨⟩) ⟨⟩) ⟨⟩) ⟨⟩) ⟨⟩) ⟨⟩ := by
  unfold xSub
  refine congrArg (kpK o) (funext fun d => ?_)
  rw [ownK_at]
  refine congrArg (fun k => slAt i δ k ⟨⟩) (funext fun s0 => congrArg (fun k => owS s0 k ⟨⟩) (funext fun _ => congrArg _ (funext fun oi => funext fun δ1 => congrArg (rdK oi δ1) (funext fun di => ?_))))
  rw [ownK_at]
  refine congrArg (fun k => slAt i δ1 k ⟨⟩) (funext fun s1 => congrArg (fun k => owS s1 k ⟨⟩) (funext fun ds => ?_))
  cases di <;> first | rfl | (simp only [setK]; cases ixN ds.length _ <;> rfl)
@[simp ↓] theorem s_xNext  : xNext  F δ = (F.nx δ) := id rfl
@[simp ↓] theorem s_xSeq {a b : DSt} : xSeq a b F δ = (a { F with nx := b F } δ) := id rfl
@[simp ↓] theorem s_xDrop {a : DT} : xDrop a F δ = (a F.ex δ fun _ δ1 => F.nx δ1) := id rfl
@[simp ↓] theorem s_xRet {a : DT} : xRet a F δ = (a F.ex δ fun o _ => kpT o F.rt ⟨⟩) := id rfl
@[simp ↓] theorem s_xRetN  : xRetN  F δ = (F.rt .non) := id rfl
@[simp ↓] theorem s_xIf {c : DTT} {a b : DSt} : xIf c a b F δ = (c F.ex δ fun k δ1 => brK k (a F δ1) (b F δ1) ⟨⟩) := id rfl
@[simp ↓] theorem s_xBrk  : xBrk  F δ = (F.bk δ) := id rfl
@[simp ↓] theorem s_xCnt  : xCnt  F δ = (F.ct δ) := id rfl
@[simp ↓] theorem s_xRaise {x : Ex} : xRaise x F δ = (F.ex x) := id rfl
@[simp ↓] theorem s_xAsg {a : DT} {γ : DTg} : xAsg a γ F δ = (a F.ex δ fun o δ1 => γ o δ1 F.nx) := id rfl
@[simp ↓] theorem s_xPar {is : List Nat} {s : DTA} : xPar is s F δ = (s F.ex δ fun os δ1 => (os.all nbO = true ∧ os.length = is.length) ∧ putOps is os δ1 F.nx) := id rfl
@[simp ↓] theorem s_xFor {ι : DIt} {γ : DTg} {τ : DSt} : xFor ι γ τ F δ = (ι F.ex δ fun ds l δ1 => forW γ τ l F ds δ1 ⟨⟩) := id rfl
@[simp ↓] theorem s_xWh {θ : DTT} {τ : DSt} : xWh θ τ F δ = (whW θ τ F δ ⟨⟩) := id rfl
end
/-! ### loops, comprehensions -/
theorem forW_inv {γ : DTg} {τ : DSt} {l : Option Nat} {F : DEnds} {ds : List D} {δ : Env} {t : Tg F} (P : Nat → Env → Prop) (h0 : P 0 δ)
    (hs : ∀ i d δ (k' : Env → Prop), ds[i]? = some d → P i δ → (∀ δ', P (i + 1) δ' → k' δ') → γ (.v d) δ fun δ' => τ (loopE k' (fun δ => F.nx (un l δ)) F) δ') (hd : ∀ δ, P ds.length δ → F.nx (un l δ)) : forW γ τ l F ds δ t := forL_inv P h0 hs hd
theorem whW_inv {θ : DTT} {τ : DSt} {F : DEnds} {δ : Env} {t : Tg F} (P : Nat → Env → Prop) {n : Nat} (h0 : P n δ)
    (hs : ∀ n δ (k' : Env → Prop), P n δ → (∀ m δ', m < n → P m δ' → k' δ') → θ F.ex δ fun b δ' => brK b (τ (loopE k' F.nx F) δ') (F.nx δ') ⟨⟩) : whW θ τ F δ t := whN_inv P h0 hs
theorem forW_cons {γ : DTg} {τ : DSt} {l : Option Nat} {F : DEnds} {d : D} {ds : List D} {δ : Env} {t : Tg F} : forW γ τ l F (d :: ds) δ t = γ (.v d) δ fun δ' => τ (loopE (fun δ2 => forW γ τ l F ds δ2 ⟨⟩) (fun δ => F.nx (un l δ)) F) δ' := id rfl
theorem forW_nil {γ : DTg} {τ : DSt} {l : Option Nat} {F : DEnds} {δ : Env} {t : Tg F} : forW γ τ l F [] δ t = F.nx (un l δ) := id rfl
theorem lcW_inv {γ : DTg} {θ : DTT} {τ : DT} {vs : List Nat} {k : List D → Env → Prop} {δ : Env} {t : Tg k} (f : D → Option D) {ds : List D} {acc : List D} (h : ∀ d ∈ ds, ∀ (k' : List D → Env → Prop) (acc : List D), k' (acc ++ (f d).toList) δ →
      γ (.v d) δ fun δ1 => θ (fun _ => False) δ1 fun b δ2 => brK b (τ (fun _ => False) δ2 fun o δ3 => kpT o (fun y => k' (acc ++ [y]) (wipeE vs δ3)) ⟨⟩) (k' acc (wipeE vs δ2)) ⟨⟩) (q : k (acc ++ ds.filterMap f) δ) : lcW γ θ τ vs k ds δ acc t := lc_inv f h q
theorem lcW_all {γ : DTg} {τ : DT} {vs : List Nat} {k : List D → Env → Prop} {δ : Env} {t : Tg k} (f : D → D) {ds : List D} (h : ∀ d ∈ ds, ∀ (k' : D → Env → Prop), k' (f d) δ → γ (.v d) δ fun δ1 => τ (fun _ => False) δ1 fun o δ3 => kpT o (fun y => k' y (wipeE vs δ3)) ⟨⟩) (q : k (ds.map f) δ) : lcW γ xYes τ vs k ds δ [] t := lc_all f h q
end DL

set_option Elab.async false
set_option linter.all false
set_option maxRecDepth 100000
set_option maxHeartbeats 0
namespace Lu
theorem na_add {a b : Int} {k : Nat} (ha : a.natAbs < 2 ^ k) (hb : b.natAbs < 2 ^ k) : (a + b).natAbs < 2 ^ (k + 1) := by
  have := Int.natAbs_add_le a b
  rw [Nat.pow_succ]; omega
theorem na_sub {a b : Int} {k : Nat} (ha : a.natAbs < 2 ^ k) (hb : b.natAbs < 2 ^ k) : (a - b).natAbs < 2 ^ (k + 1) := by
  have := Int.natAbs_sub_le a b
  rw [Nat.pow_succ]; omega
theorem na_mul {a b : Int} {j k : Nat} (ha : a.natAbs < 2 ^ j) (hb : b.natAbs < 2 ^ k) : (a * b).natAbs < 2 ^ (j + k) := by
  rw [Int.natAbs_mul, Nat.pow_add]
  rcases Nat.eq_zero_or_pos b.natAbs with h | h
  · rw [h, Nat.mul_zero]; exact Nat.mul_pos (Nat.pow_pos (by decide)) (Nat.pow_pos (by decide))
  · exact Nat.lt_of_lt_of_le (Nat.mul_lt_mul_of_pos_right ha h) (Nat.mul_le_mul_left _ (Nat.le_of_lt hb))
theorem na_mono {a : Int} {j k : Nat} (ha : a.natAbs < 2 ^ j) (h : j ≤ k) : a.natAbs < 2 ^ k := Nat.lt_of_lt_of_le ha (Nat.pow_le_pow_right (by decide) h)
section
variable {p q : Int} (hp : p.natAbs < 2 ^ 20) (hq : q.natAbs < 2 ^ 20)
include hp hq
theorem U_b : ∀ n, (U p q n).natAbs < 2 ^ (21 * n + 1)
  | 0 => by simp [U]
  | 1 => by simp [U]
  | n + 2 => by
    have h1 := na_mul hp (U_b (n + 1))
    have h2 := na_mono (na_mul hq (U_b n)) (show 20 + (21 * n + 1) ≤ 20 + (21 * (n + 1) + 1) by omega)
    have := na_sub h1 h2
    simp only [U]
    exact na_mono this (by omega)
theorem V_b : ∀ n, (V p q n).natAbs < 2 ^ (21 * n + 2)
  | 0 => by simp [V]
  | 1 => by simp only [V]; exact na_mono hp (by omega)
  | n + 2 => by
    have h1 := na_mul hp (V_b (n + 1))
    have h2 := na_mono (na_mul hq (V_b n)) (show 20 + (21 * n + 2) ≤ 20 + (21 * (n + 1) + 2) by omega)
    have := na_sub h1 h2
    simp only [V]
    exact na_mono this (by omega)
omit hp in
theorem q_b : ∀ n, (q ^ n).natAbs < 2 ^ (20 * n + 1)
  | 0 => by simp
  | n + 1 => by
    rw [Int.pow_succ]
    exact na_mono (na_mul (q_b n) hq) (by omega)
end
/-- the pair's table -/
theorem U_mix (p q : Int) (i : Nat) : ∀ j, U p q (i + j) = U p q i * U p q (j + 1) + (U p q (i + 1) - p * U p q i) * U p q j
  | 0 => by simp [U]
  | 1 => by simp [U]; grind
  | j + 2 => by
    have h1 := U_mix p q i j
    have h2 := U_mix p q i (j + 1)
    rw [← Nat.add_assoc] at *
    simp only [U] at *
    grind
end Lu
namespace Hd
open PySem L2 DL
theorem log_b {i : Int} {a : Nat} (h : i.natAbs < 2 ^ a) (ha : 0 < a) : i.natAbs.log2 < a := by
  rcases Nat.eq_zero_or_pos i.natAbs with e | e
  · rw [e]; simpa using ha
  · exact (Nat.log2_lt (by omega)).mpr h
theorem mul_b {i j : Int} {a b : Nat} (hi : i.natAbs < 2 ^ a) (hj : j.natAbs < 2 ^ b) (ha : 0 < a) (hb : 0 < b) (h : a + b ≤ 1000000) : mulOk i j := by
  have h1 := log_b hi ha
  have h2 := log_b hj hb
  refine .inr ?_
  unfold CMulW
  omega
/-! parts, terms -/
def phi_pair_of (_ : Ad) : FSp := fun ds Q Z => ∃ (p q : Int) (n : Nat), ds = [.int p, .int q, .int n] ∧ (-1000000 ≤ p ∧ p ≤ 1000000 ∧ -1000000 ≤ q ∧ q ≤ 1000000 ∧ n ≤ 2000) ∧ Q (.tup [.int (Lu.U p q n), .int (Lu.V p q n)])
theorem m_pair_of {ad : Ad} : MonoF (phi_pair_of ad) := ⟨fun ds Q Q' Z Z' hq hz ⟨a, b, n, e, c, q⟩ => ⟨a, b, n, e, c, hq _ q⟩⟩
theorem call_bits {ad : Ad} {n : Nat} {Q : D → Prop} {Z : Ex → Prop} (hn : n < 2 ^ 70) (h : Q (.lst ((bitsL n).map .int))) : phi_bits_of ad [.int n] Q Z := ⟨n, rfl, hn, h⟩
theorem valB_le (n : Nat) (i : Nat) : valB ((bitsL n).take i) ≤ n := by
  have key : ∀ (l r : List Int), valB l ≤ valB (l ++ r) := by
    intro l r
    unfold valB
    rw [List.foldl_append]
    generalize List.foldl (fun a b => 2 * a + b.toNat) 0 l = x
    induction r generalizing x with
    | nil => simp
    | cons b r ih =>
      rw [List.foldl_cons]
      exact Nat.le_trans (by omega) (ih _)
  have := key ((bitsL n).take i) ((bitsL n).drop i)
  rw [List.take_append_drop, valB_bits] at this
  exact this
theorem half2 {x y : Int} (h : 2 * x = y) : y / 2 = x := by omega
theorem p_pair_of (ad : Ad) : ∀ ds Q Z, phi_pair_of ad ds Q Z → fnD 3 7 (t_pair_of ad (phi_bits_of ad)) ds Q Z := by
  rintro ds Q Z ⟨p, q, n, rfl, ⟨p1, p2, q1, q2, n1⟩, hQ⟩
  refine ⟨rfl, ?_⟩
  have hp : p.natAbs < 2 ^ 20 := by omega
  have hq : q.natAbs < 2 ^ 20 := by omega
  simp [t_pair_of]
  refine call_bits (by omega) ?_
  simp
  refine forW_inv (fun i δ => ∃ (k : Nat) (b : Sl), k = valB ((bitsL n).take i) ∧ δ = [.val (.int p), .val (.int q), .val (.int n), .val (.int (Lu.U p q k)), .val (.int (Lu.V p q k)), .val (.int (q ^ k)), b]) ⟨0, .un, by simp [valB], by simp [Lu.U, Lu.V]⟩ ?_ ?_
  · rintro i d δ k' hd ⟨k, b, hk0, rfl⟩ hk
    rw [List.getElem?_map] at hd
    obtain ⟨bit, hb, rfl⟩ : ∃ bit, (bitsL n)[i]? = some bit ∧ D.int bit = d := by
      cases e : (bitsL n)[i]? with
      | none => rw [e] at hd; cases hd
      | some b => rw [e] at hd; exact ⟨b, rfl, Option.some.inj hd⟩
    have h01 := bits_01 n bit (List.mem_of_getElem? hb)
    have hv : valB ((bitsL n).take (i + 1)) = 2 * k + bit.toNat := by
      rw [List.take_add_one, hb, Option.toList_some, valB_snoc, hk0]
    have hle := valB_le n i
    have hle2 := valB_le n (i + 1)
    have bu := fun k => Lu.U_b hp hq k
    have bv := fun k => Lu.V_b hp hq k
    have bq := fun k => Lu.q_b hq k
    have m1 : mulOk (Lu.U p q k) (Lu.V p q k) := mul_b (bu k) (bv k) (by omega) (by omega) (by omega)
    have m2 : mulOk (Lu.V p q k) (Lu.V p q k) := mul_b (bv k) (bv k) (by omega) (by omega) (by omega)
    have m3 : mulOk 2 (q ^ k) := .inl (.inl ⟨by decide, by decide⟩)
    have m4 : mulOk (q ^ k) (q ^ k) := mul_b (bq k) (bq k) (by omega) (by omega) (by omega)
    have e1 : Lu.U p q k * Lu.V p q k = Lu.U p q (2 * k) := (Lu.U_dbl p q k).symm
    have e2 : Lu.V p q k * Lu.V p q k - 2 * q ^ k = Lu.V p q (2 * k) := (Lu.V_dbl p q k).symm
    have e3 : q ^ k * q ^ k = q ^ (2 * k) := by rw [← Int.pow_add, show k + k = 2 * k by omega]
    have m5 : mulOk p (Lu.U p q (2 * k)) := .inl (.inl ⟨by omega, by omega⟩)
    have m6 : mulOk p p := .inl (.inl ⟨by omega, by omega⟩)
    have m7 : mulOk 4 q := .inl (.inl ⟨by decide, by decide⟩)
    have bd : (p * p - 4 * q).natAbs < 2 ^ 41 := by
      have a := Lu.na_mul hp hp
      have b := Lu.na_mul (a := 4) (j := 3) (by decide) hq
      exact Lu.na_mono (Lu.na_sub a (Lu.na_mono b (by omega))) (by omega)
    have m8 : mulOk (p * p - 4 * q) (Lu.U p q (2 * k)) := .inl (.inl ⟨by omega, by omega⟩)
    have m9 : mulOk p (Lu.V p q (2 * k)) := .inl (.inl ⟨by omega, by omega⟩)
    have m10 : mulOk (q ^ (2 * k)) q := .inl (.inr ⟨by omega, by omega⟩)
    have e4 := half2 (Lu.U_succ p q (2 * k))
    have e5 := half2 (Lu.V_succ p q (2 * k))
    have e6 : q ^ (2 * k) * q = q ^ (2 * k + 1) := (Int.pow_succ q (2 * k)).symm
    have l2 : (2 : Nat).log2 < 9000 := by decide +kernel
    rcases h01 with rfl | rfl
    · simp [m1, m2, m3, m4, e1, e2, e3]
      exact hk _ ⟨2 * k, _, by rw [hv]; rfl, rfl⟩
    · simp [m1, m2, m3, m4, e1, e2, e3, m5, m6, m7, m8, m9, m10, e4, e5, e6, l2]
      exact hk _ ⟨2 * k + 1, _, by rw [hv]; rfl, rfl⟩
  · rintro δ ⟨k, b, hk0, rfl⟩
    have : k = n := by rw [hk0, List.length_map, List.take_length, valB_bits]
    subst this
    simpa using hQ
end Hd

set_option Elab.async false
set_option linter.all false
set_option maxRecDepth 100000
set_option maxHeartbeats 0
namespace Hd
open PySem L2 DL
/-! roots -/
def binL : Nat → List Int
  | 0 => []
  | n + 1 => (((n + 1) % 2 : Nat) : Int) :: binL ((n + 1) / 2)
theorem binL_len : ∀ n, 0 < n → 2 ^ ((binL n).length - 1) ≤ n ∧ n < 2 ^ (binL n).length ∧ 0 < (binL n).length
  | n + 1, _ => by
    rcases Nat.eq_zero_or_pos ((n + 1) / 2) with e | e
    · have : n = 0 := by omega
      subst this
      simp [binL]
    · have ih := binL_len ((n + 1) / 2) e
      rw [binL, List.length_cons]
      obtain ⟨k, hk⟩ : ∃ k, (binL ((n + 1) / 2)).length = k + 1 := ⟨_, (Nat.succ_pred_eq_of_pos ih.2.2).symm⟩
      rw [hk] at ih ⊢
      simp only [Nat.add_sub_cancel] at ih ⊢
      rw [Nat.pow_succ] at *
      rw [Nat.pow_succ]
      omega
def phi_bin_of (_ : Ad) : FSp := fun ds Q Z => ∃ n : Nat, ds = [.int n] ∧ n < 2 ^ 1000 ∧ Q (.lst ((binL n).map .int))
theorem m_bin_of {ad : Ad} : MonoF (phi_bin_of ad) := ⟨fun ds Q Q' Z Z' hq hz ⟨a, e, c, q⟩ => ⟨a, e, c, hq _ q⟩⟩
theorem p_bin_of (ad : Ad) : ∀ ds Q Z, phi_bin_of ad ds Q Z → fnD 1 2 (t_bin_of ad) ds Q Z := by
  rintro ds Q Z ⟨a, rfl, hl, q⟩
  refine ⟨rfl, ?_⟩
  simp [t_bin_of]
  refine whW_inv (n := a) (fun n δ => ∃ (ds : List Int), δ = [.val (.int n), .own (ds.map .int)] ∧ ds.length ≤ 1000 ∧ n * 2 ^ ds.length ≤ a ∧ ds ++ binL n = binL a) ⟨[], rfl, by simp, by simp, by simp⟩ ?_
  rintro n δ k' ⟨ds, rfl, h1, h2, h3⟩ hk
  have l2 : (2 : Nat).log2 < 9000 := by decide +kernel
  simp
  refine brK_of (fun h => ?_) fun h => ?_
  · have hn : 0 < n := by simpa using h
    have l1 : 2 ^ (ds.length + 1) = 2 * 2 ^ ds.length := by rw [Nat.pow_succ]; omega
    have l3 : n / 2 * 2 ^ (ds.length + 1) ≤ n * 2 ^ ds.length := by
      rw [l1, ← Nat.mul_assoc]; exact Nat.mul_le_mul_right _ (by omega)
    have l4 : ds.length < 1000 := by
      have : 2 ^ ds.length < 2 ^ 1000 := Nat.lt_of_le_of_lt (Nat.le_trans (by have := Nat.mul_le_mul_right (2 ^ ds.length) (show 1 ≤ n by omega); omega) h2) hl
      exact (Nat.pow_lt_pow_iff_right (by decide : 1 < 2)).mp this
    simp [l2]
    refine ⟨by omega, hk (n / 2) _ (by omega) ⟨ds ++ [((n % 2 : Nat) : Int)], by simp, by simp; omega, by rw [List.length_append]; simp only [List.length_singleton]; omega, ?_⟩⟩
    rw [← h3]
    obtain ⟨k, rfl⟩ : ∃ k, n = k + 1 := ⟨n - 1, by omega⟩
    rw [binL]; simp
  · have e : n = 0 := by simpa using h
    subst e
    have : ds = binL a := by simpa [binL] using h3
    subst this
    simpa using q
def isRt (n r : Nat) : Prop := r * r ≤ n ∧ n < (r + 1) * (r + 1)
def phi_root_of (_ : Ad) : FSp := fun ds Q Z => ∃ n r : Nat, ds = [.int n] ∧ n < 2 ^ 900 ∧ isRt n r ∧ Q (.int r)
theorem m_root_of {ad : Ad} : MonoF (phi_root_of ad) := ⟨fun ds Q Q' Z Z' hq hz ⟨a, r, e, c, c2, q⟩ => ⟨a, r, e, c, c2, hq _ q⟩⟩
/-- a turn is not below the root -/
theorem newt {n r x : Nat} (hx : 0 < x) (hr : r * r ≤ n) : r ≤ (x + n / x) / 2 := by
  rcases Nat.lt_or_ge ((x + n / x) / 2) r with h | h
  · have h1 : x + n / x ≤ 2 * r - 1 := by omega
    have h2 := Nat.div_add_mod n x
    have h3 := Nat.mod_lt n hx
    generalize n / x = y at *
    -- n < x (y + 1), x + y + 1 ≤ 2 r
    have h4 : n < x * (y + 1) := by rw [Nat.mul_add]; omega
    have h5 : x + (y + 1) ≤ 2 * r := by omega
    generalize y + 1 = z at *
    have h6 : 4 * (x * z) ≤ (x + z) * (x + z) := by
      rcases Nat.le_total x z with c | c
      · obtain ⟨t, rfl⟩ : ∃ t, z = x + t := ⟨z - x, by omega⟩
        have : (x + (x + t)) * (x + (x + t)) = 4 * (x * (x + t)) + t * t := by grind
        omega
      · obtain ⟨t, rfl⟩ : ∃ t, x = z + t := ⟨x - z, by omega⟩
        have : (z + t + z) * (z + t + z) = 4 * ((z + t) * z) + t * t := by grind
        omega
    have h7 : (x + z) * (x + z) ≤ 2 * r * (2 * r) := Nat.mul_le_mul h5 h5
    have h8 : 2 * r * (2 * r) = 4 * (r * r) := by grind
    omega
  · exact h
theorem newt_end {n r x : Nat} (hx : 0 < x) (hr : isRt n r) (h : x ≤ (x + n / x) / 2) (hx2 : r ≤ x) : x = r := by
  rcases Nat.lt_or_ge r x with c | c
  · have h1 : (r + 1) * (r + 1) ≤ x * x := Nat.mul_le_mul c c
    have h2 : n / x < x := by
      rw [Nat.div_lt_iff_lt_mul hx]
      have := hr.2
      omega
    omega
  · omega
theorem log_n {x : Nat} (h : x < 2 ^ 1000) : x.log2 < 9000 := by
  have := log_b (i := x) (a := 1000) (by simpa using h) (by decide)
  simp at this; omega
theorem p_root_of (ad : Ad) : ∀ ds Q Z, phi_root_of ad ds Q Z → fnD 1 3 (t_root_of ad (phi_bin_of ad)) ds Q Z := by
  rintro ds Q Z ⟨n, r, rfl, hn, hr, hQ⟩
  refine ⟨rfl, ?_⟩
  have l2 : (2 : Nat).log2 < 9000 := by decide +kernel
  simp [t_root_of]
  refine brK_of (fun h => ?_) fun h => ?_
  · have h : n < 2 := by have := of_decide_eq_true h; omega
    have : r = n := by
      have h1 := hr.1
      have h2 := hr.2
      have h3 : r < 2 := by
        rcases Nat.lt_or_ge r 2 with c | c
        · exact c
        · have : 2 * 2 ≤ r * r := Nat.mul_le_mul c c
          omega
      have : r = 0 ∨ r = 1 := by omega
      rcases this with rfl | rfl <;> omega
    subst this
    simpa using hQ
  · have h : 2 ≤ n := by have := of_decide_eq_false h; omega
    have hb := binL_len n (by omega)
    have hlen : (binL n).length ≤ 900 := by
      have : 2 ^ ((binL n).length - 1) < 2 ^ 900 := Nat.lt_of_le_of_lt hb.1 hn
      have := (Nat.pow_lt_pow_iff_right (by decide : 1 < 2)).mp this
      omega
    simp
    refine ⟨n, rfl, Nat.lt_trans hn (Nat.pow_lt_pow_right (by decide) (by decide)), ?_⟩
    generalize hL : (binL n).length = len at *
    simp [hL, l2]
    have e0 : (((len : Int) + 1) / 2).toNat = (len + 1) / 2 := by omega
    refine ⟨⟨by omega, by omega⟩, ?_⟩
    rw [e0]
    have e1 : ((2 : Int) ^ ((len + 1) / 2)) = ((2 ^ ((len + 1) / 2) : Nat) : Int) := by simp
    rw [e1]
    have hx0 : 0 < 2 ^ ((len + 1) / 2) := Nat.pow_pos (by decide)
    have hx1 : 2 ^ ((len + 1) / 2) < 2 ^ 1000 := Nat.pow_lt_pow_right (by decide) (by omega)
    have hx2 : r ≤ 2 ^ ((len + 1) / 2) := by
      rcases Nat.lt_or_ge (2 ^ ((len + 1) / 2)) r with c | c
      · have h1 : 2 ^ ((len + 1) / 2) * 2 ^ ((len + 1) / 2) < r * r := Nat.mul_lt_mul'' c c
        rw [← Nat.pow_add] at h1
        have h2 : 2 ^ len ≤ 2 ^ ((len + 1) / 2 + (len + 1) / 2) := Nat.pow_le_pow_right (by decide) (by omega)
        have := hr.1
        omega
      · exact c
    generalize 2 ^ ((len + 1) / 2) = x at *
    have cast : ∀ x : Nat, 0 < x → ((x : Int) + (n : Int) / (x : Int)) / 2 = (((x + n / x) / 2 : Nat) : Int) := fun x hx => by
      rw [← Int.natCast_ediv, ← Int.natCast_add]; rfl
    have lx := log_n hx1
    simp [lx, hx0, l2]
    refine ⟨by omega, ?_⟩
    refine whW_inv (n := x) (fun m δ => ∃ x : Nat, δ = [.val (.int n), .val (.int x), .val (.int (((x : Int) + (n : Int) / (x : Int)) / 2))] ∧ 0 < x ∧ x < 2 ^ 1000 ∧ r ≤ x ∧ m = x) ⟨x, rfl, hx0, hx1, hx2, rfl⟩ ?_
    rintro m δ k' ⟨x, rfl, hx0, hx1, hx2, hm⟩ hk
    have hnx := newt hx0 hr.1
    rw [cast x hx0]
    simp only [s_xTru, s_xOp, s_xVar, s_slAt0, s_slAt1, s_vr1, s_rdK1, s_ltR, s_truK2]
    refine brK_of (fun h => ?_) fun h => ?_
    · have h : (x + n / x) / 2 < x := by have := of_decide_eq_true h; omega
      generalize hy : (x + n / x) / 2 = y at *
      have hy0 : 0 < y := by
        rcases Nat.eq_zero_or_pos r with c | c
        · subst c; have := hr.2; omega
        · omega
      have ly := log_n (x := y) (by omega)
      simp [ly, hy0, l2]
      exact hk y _ (by omega) ⟨y, rfl, hy0, Nat.lt_trans h hx1, hnx, rfl⟩
    · have h : x ≤ (x + n / x) / 2 := by have := of_decide_eq_false h; omega
      have := newt_end hx0 hr h hx2
      subst this
      simpa using hQ
end Hd

set_option Elab.async false
set_option linter.all false
set_option maxRecDepth 100000
set_option maxHeartbeats 0
namespace Hd
open PySem L2 DL
/-! terms, remainders, as they are asked -/
def partB (p q : Int) : Prop := -1000000 ≤ p ∧ p ≤ 1000000 ∧ -1000000 ≤ q ∧ q ≤ 1000000
theorem call_parts {ad : Ad} {p q : Int} (h : partB p q) {Q : D → Prop} {Z : Ex → Prop} (k : Q .non) : phi_check_parts ad [.int p, .int q] Q Z :=
  ⟨.int p, .int q, rfl, trivial, trivial, by rw [if_pos (by obtain ⟨a, b, c, d⟩ := h; simp [partsOk, withinD, a, b, c, d])]; exact k⟩
theorem call_parts_no {ad : Ad} {p q : D} (hp : okTy p) (hq : okTy q) (h : (partsOk p && partsOk q) = false) {Q : D → Prop} {Z : Ex → Prop} (k : Z ⟨ad.BadNumber, none⟩) : phi_check_parts ad [p, q] Q Z :=
  ⟨p, q, rfl, hp, hq, by rw [h]; exact k⟩
theorem call_within {ad : Ad} {d : D} {lo hi : Int} (hd : okTy d) {Q : D → Prop} {Z : Ex → Prop} (k : Q (.bl (withinD lo hi d))) : phi_is_within ad [d, .int lo, .int hi] Q Z := ⟨d, lo, hi, rfl, hd, k⟩
def phi_pair_terms (ad : Ad) : FSp := fun ds Q Z => (∃ (p q : Int) (n : Nat), ds = [.int p, .int q, .int n] ∧ (partB p q ∧ n ≤ 2000) ∧ Q (.tup [.int (Lu.U p q n), .int (Lu.V p q n)])) ∨
  (∃ p q n, ds = [p, q, n] ∧ okTy p ∧ okTy q ∧ okTy n ∧ ((partsOk p && partsOk q) = false ∨ withinD 0 2000 n = false) ∧ Z ⟨ad.BadNumber, none⟩)
theorem m_pair_terms {ad : Ad} : MonoF (phi_pair_terms ad) := ⟨fun ds Q Q' Z Z' hq hz h => by
  rcases h with ⟨p, q, n, e, c, h⟩ | ⟨p, q, n, e, c1, c2, c3, c4, h⟩
  · exact .inl ⟨p, q, n, e, c, hq _ h⟩
  · exact .inr ⟨p, q, n, e, c1, c2, c3, c4, hz _ h⟩⟩
theorem p_pair_terms (ad : Ad) : ∀ ds Q Z, phi_pair_terms ad ds Q Z → fnD 3 3 (t_pair_terms ad (phi_check_parts ad) (phi_is_within ad) (phi_pair_of ad)) ds Q Z := by
  rintro ds Q Z (⟨p, q, n, rfl, ⟨c, hn⟩, h⟩ | ⟨p, q, n, rfl, c1, c2, c3, c4, h⟩)
  · refine ⟨rfl, ?_⟩
    simp [t_pair_terms]
    refine call_parts c ?_
    simp
    refine call_within (by exact trivial) ?_
    have : withinD 0 2000 (.int n) = true := by simp [withinD, hn]; omega
    simp [this]
    exact ⟨p, q, n, rfl, ⟨c.1, c.2.1, c.2.2.1, c.2.2.2, hn⟩, by simpa using h⟩
  · refine ⟨rfl, ?_⟩
    simp [t_pair_terms]
    by_cases hb : (partsOk p && partsOk q) = true
    · refine ⟨p, q, rfl, c1, c2, ?_⟩
      rw [if_pos hb]
      have hw : withinD 0 2000 n = false := by
        rcases c4 with c | c
        · rw [hb] at c; cases c
        · exact c
      simp
      refine call_within (by exact c3) ?_
      simpa [hw] using h
    · exact call_parts_no c1 c2 (by simpa using hb) h
def phi_pair_rests (ad : Ad) : FSp := fun ds Q Z => (∃ (p q : Int) (n : Nat) (m : Int), ds = [.int p, .int q, .int n, .int m] ∧ (partB p q ∧ n ≤ 1000000000000000000 ∧ 1 ≤ m ∧ m ≤ 1000000000000000000 ∧ m % 2 = 1) ∧ Q (.tup [.int (Lu.U p q n % m), .int (Lu.V p q n % m)])) ∨
  (∃ m, ds = [.int 1, .int 1, .int 5, m] ∧ okTy m ∧ (withinD 1 1000000000000000000 m = false ∨ ∃ i : Int, m = .int i ∧ i % 2 = 0) ∧ Z ⟨ad.BadNumber, none⟩)
theorem m_pair_rests {ad : Ad} : MonoF (phi_pair_rests ad) := ⟨fun ds Q Q' Z Z' hq hz h => by
  rcases h with ⟨p, q, n, m, e, c, h⟩ | ⟨m, e, c1, c2, h⟩
  · exact .inl ⟨p, q, n, m, e, c, hq _ h⟩
  · exact .inr ⟨m, e, c1, c2, hz _ h⟩⟩
theorem p_pair_rests (ad : Ad) : ∀ ds Q Z, phi_pair_rests ad ds Q Z → fnD 4 4 (t_pair_rests ad (phi_check_parts ad) (phi_is_within ad) (phi_pair_rests_of ad)) ds Q Z := by
  rintro ds Q Z (⟨p, q, n, m, rfl, ⟨c, hn, m1, m2, m3⟩, h⟩ | ⟨m, rfl, c1, c2, h⟩)
  · refine ⟨rfl, ?_⟩
    simp [t_pair_rests]
    refine call_parts c ?_
    simp
    refine call_within (by exact trivial) ?_
    have w1 : withinD 0 1000000000000000000 (.int n) = true := by simp [withinD]; omega
    simp [w1]
    refine call_within (by exact trivial) ?_
    have w2 : withinD 1 1000000000000000000 (.int m) = true := by simp [withinD]; omega
    have m0 : 0 < m := by omega
    simp [w2, m0, m3]
    obtain ⟨a, b, c, d⟩ := c
    exact ⟨p, q, n, m, rfl, ⟨by omega, m1, m3, by omega, by omega, by omega, by omega, by omega⟩, by simpa using h⟩
  · refine ⟨rfl, ?_⟩
    simp [t_pair_rests]
    refine call_parts ⟨by decide, by decide, by decide, by decide⟩ ?_
    simp
    refine call_within (by exact trivial) ?_
    have w1 : withinD 0 1000000000000000000 (.int 5) = true := by decide
    simp [w1]
    refine call_within (by exact c1) ?_
    by_cases hw : withinD 1 1000000000000000000 m = true
    · rcases c2 with c | ⟨i, rfl, hi⟩
      · rw [hw] at c; cases c
      · simpa [hw, hi] using h
    · have hw : withinD 1 1000000000000000000 m = false := by simpa using hw
      simpa [hw] using h
/-! a term? -/
def termB (n r1 r2 : Nat) : Bool := decide (r1 * r1 = 5 * n * n + 4) || (decide (4 ≤ 5 * n * n) && decide (r2 * r2 = 5 * n * n - 4))
def phi_is_term (ad : Ad) : FSp := fun ds Q Z => (∃ n r1 r2 : Nat, ds = [.int n] ∧ n ≤ 10 ^ 60 ∧ isRt (5 * n * n + 4) r1 ∧ isRt (5 * n * n - 4) r2 ∧ Q (.bl (termB n r1 r2))) ∨ (ds = [.int (-1)] ∧ Z ⟨ad.BadNumber, none⟩)
theorem m_is_term {ad : Ad} : MonoF (phi_is_term ad) := ⟨fun ds Q Q' Z Z' hq hz h => by
  rcases h with ⟨n, r1, r2, e, c1, c2, c3, h⟩ | ⟨e, h⟩
  · exact .inl ⟨n, r1, r2, e, c1, c2, c3, hq _ h⟩
  · exact .inr ⟨e, hz _ h⟩⟩
theorem call_root {ad : Ad} {i : Int} {n r : Nat} (hi : i = n) (hn : n < 2 ^ 900) (hr : isRt n r) {Q : D → Prop} {Z : Ex → Prop} (k : Q (.int r)) : phi_root_of ad [.int i] Q Z := ⟨n, r, by rw [hi], hn, hr, k⟩
theorem rt_b {n r a : Nat} (h : isRt n r) (hn : n < 2 ^ (a + a)) : r < 2 ^ a := by
  rcases Nat.lt_or_ge r (2 ^ a) with c | c
  · exact c
  · have := Nat.mul_le_mul c c
    rw [← Nat.pow_add] at this
    have := h.1
    omega
theorem p_is_term (ad : Ad) : ∀ ds Q Z, phi_is_term ad ds Q Z → fnD 1 3 (t_is_term ad (phi_is_integer ad) (phi_root_of ad)) ds Q Z := by
  rintro ds Q Z (⟨n, r1, r2, rfl, hn, h1, h2, hQ⟩ | ⟨rfl, h⟩)
  · refine ⟨rfl, ?_⟩
    have nb : n < 2 ^ 200 := Nat.lt_of_le_of_lt hn (by decide)
    have n5 : 5 * n * n + 4 < 2 ^ 410 := by
      have : n * n ≤ 2 ^ 200 * 2 ^ 200 := Nat.mul_le_mul (Nat.le_of_lt nb) (Nat.le_of_lt nb)
      rw [Nat.mul_assoc]
      have e : (2 : Nat) ^ 410 = 1024 * (2 ^ 200 * 2 ^ 200) := by rw [← Nat.pow_add]; rw [show (1024 : Nat) = 2 ^ 10 by decide, ← Nat.pow_add]
      rw [e]
      have : 0 < (2 : Nat) ^ 200 * 2 ^ 200 := Nat.mul_pos (Nat.pow_pos (by decide)) (Nat.pow_pos (by decide))
      omega
    have b1 := rt_b (a := 205) h1 (by simpa using n5)
    have b2 := rt_b (a := 205) h2 (by have : 5 * n * n - 4 < 2 ^ 410 := by omega
                                      simpa using this)
    have mr (r : Nat) (h : r < 2 ^ 205) : mulOk r r := mul_b (a := 205) (b := 205) (by simpa using h) (by simpa using h) (by decide) (by decide) (by decide)
    have m5 : mulOk 5 (n : Int) := .inl (.inl ⟨by decide, by decide⟩)
    have m6 : mulOk (5 * (n : Int)) (n : Int) := mul_b (a := 203) (b := 200) (by
      have : (5 * (n : Int)).natAbs = 5 * n := by omega
      rw [this]
      have : (2 : Nat) ^ 203 = 8 * 2 ^ 200 := by decide
      omega) (by simpa using nb) (by decide) (by decide) (by decide)
    have hn' : (n : Int) ≤ 1000000000000000000000000000000000000000000000000000000000000 := by
      have : (10 : Nat) ^ 60 = 1000000000000000000000000000000000000000000000000000000000000 := by decide
      omega
    simp [t_is_term]
    refine ⟨.int n, rfl, trivial, ?_⟩
    have nn : 5 * (n : Int) * (n : Int) = ((5 * n * n : Nat) : Int) := by simp
    have big : (2 : Nat) ^ 410 < 2 ^ 900 := Nat.pow_lt_pow_right (by decide) (by decide)
    simp [isIntD, hn', m5, m6, forW_cons]
    have g1 : decide (0 ≤ 5 * (n : Int) * (n : Int) + 4) = true := by rw [nn]; simp; omega
    rw [g1]
    simp
    refine call_root (n := 5 * n * n + 4) (by simp) (Nat.lt_trans n5 big) h1 ?_
    simp
    refine call_root (n := 5 * n * n + 4) (by simp) (Nat.lt_trans n5 big) h1 ?_
    simp [mr r1 b1]
    have q1 : decide ((r1 : Int) * (r1 : Int) = 5 * (n : Int) * (n : Int) + 4) = decide (r1 * r1 = 5 * n * n + 4) := by
      rw [nn, ← Int.natCast_mul]
      rw [Bool.eq_iff_iff]; simp; omega
    rw [q1]
    refine brK_of (fun e1 => ?_) fun e1 => ?_
    · simp
      unfold termB at hQ
      rw [e1] at hQ
      simpa using hQ
    · simp [forW_cons, m5, m6]
      unfold termB at hQ
      rw [e1] at hQ
      by_cases h4 : 4 ≤ 5 * n * n
      · have g2 : decide (0 ≤ 5 * (n : Int) * (n : Int) + -4) = true := by rw [nn]; simp; omega
        rw [g2]
        simp
        refine call_root (n := 5 * n * n - 4) (by rw [nn]; omega) (by omega) h2 ?_
        simp
        refine call_root (n := 5 * n * n - 4) (by rw [nn]; omega) (by omega) h2 ?_
        simp [mr r2 b2]
        have q2 : decide ((r2 : Int) * (r2 : Int) = 5 * (n : Int) * (n : Int) + -4) = decide (r2 * r2 = 5 * n * n - 4) := by
          rw [nn, ← Int.natCast_mul]
          rw [Bool.eq_iff_iff]; simp; omega
        rw [q2]
        refine brK_of (fun e2 => ?_) fun e2 => ?_
        · rw [e2] at hQ
          simpa [h4] using hQ
        · rw [e2] at hQ
          simpa [h4, forW_nil] using hQ
      · have g2 : decide (0 ≤ 5 * (n : Int) * (n : Int) + -4) = false := by rw [nn]; simp; omega
        rw [g2]
        simpa [h4, forW_nil] using hQ
  · refine ⟨rfl, ?_⟩
    simp [t_is_term]
    refine ⟨.int (-1), rfl, trivial, ?_⟩
    simpa [isIntD] using h
end Hd

set_option Elab.async false
set_option linter.all false
set_option maxRecDepth 100000
set_option maxHeartbeats 0
namespace Hd
open PySem L2 DL
def phi__law_pair (_ : Ad) : FSp := fun ds Q Z => ∃ (p q : Int) (n : Nat), ds = [.int p, .int q, .int n] ∧ (partB p q ∧ n ≤ 2000) ∧ Q (.tup [.int (Lu.U p q n), .int (Lu.V p q n)])
theorem m__law_pair {ad : Ad} : MonoF (phi__law_pair ad) := ⟨fun ds Q Q' Z Z' hq hz ⟨a, b, n, e, c, q⟩ => ⟨a, b, n, e, c, hq _ q⟩⟩
theorem part_b {p q : Int} (h : partB p q) : p.natAbs < 2 ^ 20 ∧ q.natAbs < 2 ^ 20 := by
  obtain ⟨a, b, c, d⟩ := h
  constructor <;> omega
theorem p__law_pair (ad : Ad) : ∀ ds Q Z, phi__law_pair ad ds Q Z → fnD 3 7 (t__law_pair ad) ds Q Z := by
  rintro ds Q Z ⟨p, q, n, rfl, ⟨c, hn⟩, hQ⟩
  refine ⟨rfl, ?_⟩
  have hpq := part_b c
  simp [t__law_pair]
  refine ⟨by unfold Rg; omega, ?_⟩
  refine forW_inv (fun i δ => ∃ (s5 s6 : Sl), δ = [.val (.int p), .val (.int q), .val (.int n), .val (.tup [.int (Lu.U p q i), .int (Lu.V p q i)]), .val (.tup [.int (Lu.U p q (i + 1)), .int (Lu.V p q (i + 1))]), s5, s6]) ⟨.un, .un, by simp [Lu.U, Lu.V]⟩ ?_ ?_
  · rintro i d δ k' hd ⟨s5, s6, rfl⟩ hk
    have b (x : Int) : mulOk p x := .inl (.inl ⟨by obtain ⟨a, b, c, d⟩ := c; omega, by obtain ⟨a, b, c, d⟩ := c; omega⟩)
    have b2 (x : Int) : mulOk q x := .inl (.inl ⟨by obtain ⟨a, b, c, d⟩ := c; omega, by obtain ⟨a, b, c, d⟩ := c; omega⟩)
    have a0 (x y : D) : atD [x, y] 0 = some x := rfl
    have a1 (x y : D) : atD [x, y] 1 = some y := rfl
    simp [b, b2, a0, a1]
    exact hk _ ⟨_, _, rfl⟩
  · rintro δ ⟨s5, s6, rfl⟩
    simpa [rgD] using hQ
def phi__law_power (_ : Ad) : FSp := fun ds Q Z => ∃ (q : Int) (n : Nat), ds = [.int q, .int n] ∧ (-1000000 ≤ q ∧ q ≤ 1000000 ∧ n ≤ 2000) ∧ Q (.int (q ^ n))
theorem m__law_power {ad : Ad} : MonoF (phi__law_power ad) := ⟨fun ds Q Q' Z Z' hq hz ⟨a, n, e, c, q⟩ => ⟨a, n, e, c, hq _ q⟩⟩
theorem p__law_power (ad : Ad) : ∀ ds Q Z, phi__law_power ad ds Q Z → fnD 2 4 (t__law_power ad) ds Q Z := by
  rintro ds Q Z ⟨q, n, rfl, ⟨q1, q2, hn⟩, hQ⟩
  refine ⟨rfl, ?_⟩
  simp [t__law_power]
  refine ⟨by unfold Rg; omega, ?_⟩
  refine forW_inv (fun i δ => ∃ (s : Sl), δ = [.val (.int q), .val (.int n), .val (.int (q ^ i)), s]) ⟨.un, by simp⟩ ?_ ?_
  · rintro i d δ k' hd ⟨s, rfl⟩ hk
    have b (x : Int) : mulOk x q := .inl (.inr ⟨by omega, by omega⟩)
    simp [b]
    exact hk _ ⟨_, by rw [Int.pow_succ]⟩
  · rintro δ ⟨s, rfl⟩
    simpa [rgD] using hQ
/-! by tables -/
def t4 (a b c d : Int) : D := .tup [.int a, .int b, .int c, .int d]
def smB (x : Int) : Prop := -1000000000000000001 < x ∧ x < 1000000000000000001
def phi__law_times (_ : Ad) : FSp := fun ds Q Z => ∃ (a b c d e f g h m : Int), ds = [t4 a b c d, t4 e f g h, .int m] ∧ (smB a ∧ smB b ∧ smB c ∧ smB d ∧ 0 < m) ∧ Q (t4 ((a * e + b * g) % m) ((a * f + b * h) % m) ((c * e + d * g) % m) ((c * f + d * h) % m))
theorem m__law_times {ad : Ad} : MonoF (phi__law_times ad) := ⟨fun ds Q Q' Z Z' hq hz ⟨a, b, c, d, e, f, g, h, m, e1, c1, q⟩ => ⟨a, b, c, d, e, f, g, h, m, e1, c1, hq _ q⟩⟩
theorem p__law_times (ad : Ad) : ∀ ds Q Z, phi__law_times ad ds Q Z → fnD 3 11 (t__law_times ad) ds Q Z := by
  rintro ds Q Z ⟨a, b, c, d, e, f, g, h, m, rfl, ⟨ha, hb, hc, hd, hm⟩, hQ⟩
  refine ⟨rfl, ?_⟩
  have mk {x : Int} (hx : smB x) (y : Int) : mulOk x y := .inl (.inl ⟨by unfold smB at hx; omega, by unfold smB at hx; omega⟩)
  have ka := mk ha
  have kb := mk hb
  have kc := mk hc
  have kd := mk hd
  simp [t__law_times, t4, ka, kb, kc, kd, hm]
  simpa [t4] using hQ
/-- the table of the place -/
def tW (p q : Int) (n : Nat) : Int := Lu.U p q (n + 1) - p * Lu.U p q n
theorem tab_mul (p q : Int) (i j : Nat) : Lu.U p q (i + j + 1) = Lu.U p q (i + 1) * Lu.U p q (j + 1) + -q * Lu.U p q i * Lu.U p q j ∧ -q * Lu.U p q (i + j) = Lu.U p q (i + 1) * (-q * Lu.U p q j) + -q * Lu.U p q i * tW p q j ∧
    Lu.U p q (i + j) = Lu.U p q i * Lu.U p q (j + 1) + tW p q i * Lu.U p q j ∧ tW p q (i + j) = Lu.U p q i * (-q * Lu.U p q j) + tW p q i * tW p q j := by
  have h1 := Lu.U_mix p q i j
  have h2 := Lu.U_mix p q (i + 1) j
  rw [show i + 1 + j = i + j + 1 by omega] at h2
  simp only [Lu.U] at h2
  unfold tW
  refine ⟨?_, ?_, ?_, ?_⟩ <;> grind
theorem em2 (m a b c d : Int) : ((a % m) * (b % m) + (c % m) * (d % m)) % m = (a * b + c * d) % m := by
  rw [Int.add_emod, Lu.e_mul, Lu.e_mul, ← Int.add_emod]
theorem em3 {m a b c d a' b' c' d' : Int} (ha : a % m = a' % m) (hb : b % m = b' % m) (hc : c % m = c' % m) (hd : d % m = d' % m) : (a * b + c * d) % m = (a' * b' + c' * d') % m := by
  rw [← em2, ha, hb, hc, hd, em2]
/-- a table that is the place's, by remainders -/
def tabOk (p q m : Int) (n : Nat) (a b c d : Int) : Prop := (smB a ∧ smB b ∧ smB c ∧ smB d) ∧ a % m = Lu.U p q (n + 1) % m ∧ b % m = -q * Lu.U p q n % m ∧ c % m = Lu.U p q n % m ∧ d % m = tW p q n % m
theorem tab_times {p q m : Int} {i j : Nat} {a b c d e f g h : Int} (hm : 0 < m) (hm2 : m ≤ 1000000000000000000) (h1 : tabOk p q m i a b c d) (h2 : tabOk p q m j e f g h) : tabOk p q m (i + j) ((a * e + b * g) % m) ((a * f + b * h) % m) ((c * e + d * g) % m) ((c * f + d * h) % m) := by
  have s : ∀ x : Int, smB (x % m) := fun x => by
    have := Int.emod_nonneg x (b := m) (by omega)
    have := Int.emod_lt_of_pos x hm
    unfold smB; omega
  obtain ⟨_, a1, b1, c1, d1⟩ := h1
  obtain ⟨_, e1, f1, g1, i1⟩ := h2
  obtain ⟨t1, t2, t3, t4⟩ := tab_mul p q i j
  refine ⟨⟨s _, s _, s _, s _⟩, ?_, ?_, ?_, ?_⟩
  · rw [Int.emod_emod, em3 a1 e1 b1 g1, t1]
  · rw [Int.emod_emod, em3 a1 f1 b1 i1, t2]
  · rw [Int.emod_emod, em3 c1 e1 d1 g1, t3]
  · rw [Int.emod_emod, em3 c1 f1 d1 i1, t4]
def phi__law_far (_ : Ad) : FSp := fun ds Q Z => ∃ (p q : Int) (n : Nat) (m : Int), ds = [.int p, .int q, .int n, .int m] ∧ (partB p q ∧ n < 2 ^ 70 ∧ 1 ≤ m ∧ m ≤ 1000000000000000000) ∧ Q (.tup [.int (Lu.U p q n % m), .int (Lu.V p q n % m)])
theorem m__law_far {ad : Ad} : MonoF (phi__law_far ad) := ⟨fun ds Q Q' Z Z' hq hz ⟨a, b, n, m, e, c, q⟩ => ⟨a, b, n, m, e, c, hq _ q⟩⟩
theorem call_times {ad : Ad} {p q m : Int} {i j : Nat} {a b c d e f g h : Int} (hm : 0 < m) (hm2 : m ≤ 1000000000000000000) (h1 : tabOk p q m i a b c d) (h2 : tabOk p q m j e f g h) {Q : D → Prop} {Z : Ex → Prop}
    (k : ∀ a b c d, tabOk p q m (i + j) a b c d → Q (t4 a b c d)) : phi__law_times ad [t4 a b c d, t4 e f g h, .int m] Q Z :=
  ⟨a, b, c, d, e, f, g, h, m, rfl, ⟨h1.1.1, h1.1.2.1, h1.1.2.2.1, h1.1.2.2.2, hm⟩, k _ _ _ _ (tab_times hm hm2 h1 h2)⟩
theorem p__law_far (ad : Ad) : ∀ ds Q Z, phi__law_far ad ds Q Z → fnD 4 8 (t__law_far ad (phi__law_times ad)) ds Q Z := by
  rintro ds Q Z ⟨p, q, n, m, rfl, ⟨c, hn, m1, m2⟩, hQ⟩
  refine ⟨rfl, ?_⟩
  have m0 : 0 < m := by omega
  have l2 : (2 : Nat).log2 < 9000 := by decide +kernel
  have hb : tabOk p q m 1 p (0 - q) 1 0 := by
    obtain ⟨a, b, c, d⟩ := c
    refine ⟨⟨by unfold smB; omega, by unfold smB; omega, by unfold smB; omega, by unfold smB; omega⟩, ?_, ?_, ?_, ?_⟩
    · simp [Lu.U]
    · simp [Lu.U]
    · simp [Lu.U]
    · simp [Lu.U, tW]
  have hf : tabOk p q m 0 1 0 0 1 := by
    refine ⟨⟨by unfold smB; omega, by unfold smB; omega, by unfold smB; omega, by unfold smB; omega⟩, ?_, ?_, ?_, ?_⟩
    · simp [Lu.U]
    · simp [Lu.U]
    · simp [Lu.U]
    · simp [Lu.U, tW]
  simp [t__law_far]
  refine ⟨by unfold Rg; omega, ?_⟩
  refine forW_inv (fun i δ => ∃ (l k : Nat) (a b c d e f g h : Int) (s : Sl), δ = [.val (.int p), .val (.int q), .val (.int n), .val (.int m), .val (t4 a b c d), .val (t4 e f g h), .val (.int l), s] ∧ tabOk p q m (2 ^ i) a b c d ∧ tabOk p q m k e f g h ∧ k + l * 2 ^ i = n) ⟨n, 0, p, 0 - q, 1, 0, 1, 0, 0, 1, .un, by simp [t4], hb, hf, by simp⟩ ?_ ?_
  · rintro i dd δ k' hd ⟨l, k, a, b, c, d, e, f, g, h, s, rfl, hb, hf, hl⟩ hk
    have fin : ∀ (k2 : Nat) (e f g h : Int), tabOk p q m k2 e f g h → k2 + (l / 2) * 2 ^ (i + 1) = n → xSeq (xAsg (xCall (phi__law_times ad) (xConsA (xMov 4) (xConsA (xMov 4) (xConsA (xMov 3) xNilA)))) (xName 4)) (xAsg (xOp divR (xVar 6) (xC (.int 2))) (xName 6)) (loopE k' (fun δ => xRet
          (xTup
            (xConsA (xOp modR (xUn toIntR (xOp ixR (xVar 5) (xC (D.int 2)))) (xVar 3))
              (xConsA
                (xOp modR
                  (xUn toIntR
                    (xOp addR (xOp mulR (xOp ixR (xVar 5) (xC (D.int 2))) (xVar 0))
                      (xOp mulR (xC (D.int 2)) (xOp ixR (xVar 5) (xC (D.int 3))))))
                  (xVar 3))
                xNilA))) ⟨fun _ => Q .non, Q, fun _ => False, fun _ => False, Z⟩ (un none δ)) ⟨fun δ => xRet
          (xTup
            (xConsA (xOp modR (xUn toIntR (xOp ixR (xVar 5) (xC (D.int 2)))) (xVar 3))
              (xConsA
                (xOp modR
                  (xUn toIntR
                    (xOp addR (xOp mulR (xOp ixR (xVar 5) (xC (D.int 2))) (xVar 0))
                      (xOp mulR (xC (D.int 2)) (xOp ixR (xVar 5) (xC (D.int 3))))))
                  (xVar 3))
                xNilA))) ⟨fun _ => Q .non, Q, fun _ => False, fun _ => False, Z⟩ δ, Q, fun _ => False, fun _ => False, Z⟩) [.val (.int p), .val (.int q), .val (.int n), .val (.int m), .val (t4 a b c d), .val (t4 e f g h), .val (.int l), .val dd] := by
      intro k2 e f g h hf hl
      simp
      refine call_times m0 m2 hb hb fun a b c d hb => ?_
      simp [l2]
      exact hk _ ⟨l / 2, k2, a, b, c, d, e, f, g, h, .val dd, by simp, by rw [show 2 ^ (i + 1) = 2 ^ i + 2 ^ i by rw [Nat.pow_succ]; omega]; exact hb, hf, hl⟩
    simp
    refine brK_of (fun ho => ?_) fun ho => ?_
    · have ho : l % 2 = 1 := by have := of_decide_eq_true ho; omega
      simp
      refine call_times m0 m2 hf hb fun e f g h hf => ?_
      simp only [s_xName0, List.set_cons_succ, List.set_cons_zero]
      refine fin _ _ _ _ _ hf ?_
      have : l * 2 ^ i = (l / 2) * 2 ^ (i + 1) + 2 ^ i := by
        rw [Nat.pow_succ]
        have : l = 2 * (l / 2) + 1 := by omega
        generalize l / 2 = t at *
        subst this
        grind
      omega
    · have ho : l % 2 = 0 := by have := of_decide_eq_false ho; omega
      simp only [s_xNext]
      refine fin _ _ _ _ _ hf ?_
      have : l * 2 ^ i = (l / 2) * 2 ^ (i + 1) := by
        rw [Nat.pow_succ]
        have : l = 2 * (l / 2) := by omega
        generalize l / 2 = t at *
        subst this
        grind
      omega
  · rintro δ ⟨l, k, a, b, c', d, e, f, g, h, s, rfl, hb, hf, hl⟩
    have hlen : (rgD 0 70).length = 70 := by simp [rgD]
    rw [hlen] at hl
    have l0 : l = 0 := by
      rcases Nat.eq_zero_or_pos l with z | z
      · exact z
      · have : 1 * 2 ^ 70 ≤ l * 2 ^ 70 := Nat.mul_le_mul_right _ z
        omega
    have hk : k = n := by rw [l0] at hl; omega
    subst hk
    obtain ⟨⟨s1, s2, s3, s4⟩, e1, f1, g1, h1⟩ := hf
    have a2 : atD [D.int e, .int f, .int g, .int h] 2 = some (.int g) := rfl
    have a3 : atD [D.int e, .int f, .int g, .int h] 3 = some (.int h) := rfl
    have k1 : mulOk g p := .inl (.inr ⟨by obtain ⟨a, b, c, d⟩ := c; omega, by obtain ⟨a, b, c, d⟩ := c; omega⟩)
    have k2 : mulOk 2 h := .inl (.inl ⟨by decide, by decide⟩)
    simp [t4, a2, a3, k1, k2, m0]
    have ev : (g * p + 2 * h) % m = Lu.V p q k % m := by
      rw [em3 g1 rfl (c := 2) (c' := 2) rfl h1]
      congr 1
      rw [Lu.V_eq]
      unfold tW
      grind
    rw [ev, g1]
    exact hQ
end Hd

set_option Elab.async false
set_option linter.all false
set_option maxRecDepth 100000
set_option maxHeartbeats 0
namespace Hd
open PySem L2 DL
theorem word_num {ad : Ad} : R__law_word ad ad.BadNumber = some (.str "number") := by
  unfold R__law_word
  rw [if_pos rfl]
theorem word_flat {ad : Ad} : flatD l__law_word = true ∧ ∀ C w, R__law_word ad C = some w → flatD w = true := by
  refine ⟨by decide +kernel, fun C w h => ?_⟩
  unfold R__law_word at h
  split at h
  · cases h; decide +kernel
  · cases h
theorem anyP_of {h : Addr} {xs : List D} {Q : D → Prop} {Z : Ex → Prop} (l : 0 < xs.length ∧ xs.length ≤ 1000000) {t : Tg2 Q Z} (q : ∀ d ∈ xs, Q d) : DL.call (anyP h) [.ref h, .lst xs] Q Z t := ⟨xs, .inl rfl, l, q⟩
theorem draw_of {h : Addr} {m : Int} {Q : D → Prop} {Z : Ex → Prop} (l : 0 < m ∧ m ≤ 1000000000000000000) {t : Tg2 Q Z} (q : ∀ r : Int, 0 ≤ r → r < m → Q (.int r)) : DL.call (drawF h) [.ref h, .int m] Q Z t := by
  refine ⟨⟨m, rfl, l.1, lg l.1 (by omega)⟩, ?_⟩
  rintro d ⟨m', r, e, rfl, r0, r1⟩
  cases e
  exact q r r0 r1
/-! signs -/
def signF (ad : Ad) : FSp := fun ds Q Z => phi_sign_of ad ds Q Z ∨ ∃ m, ds = [.int 5, m] ∧ okTy m ∧ (withinD 1 1000000000000000000 m = false ∨ ∃ i : Int, m = .int i ∧ i % 2 = 0) ∧ Z ⟨ad.BadNumber, none⟩
theorem m_signF {ad : Ad} : MonoF (signF ad) := ⟨fun ds Q Q' Z Z' hq hz h => by
  rcases h with h | ⟨m, e, c1, c2, h⟩
  · exact .inl (m_sign_of.m _ _ _ _ _ hq hz h)
  · exact .inr ⟨m, e, c1, c2, hz _ h⟩⟩
theorem p_signF (ad : Ad) : ∀ ds Q Z, signF ad ds Q Z → fnD 2 5 (t_sign_of ad (phi_is_integer ad) (phi_is_within ad)) ds Q Z := by
  rintro ds Q Z (h | ⟨m, rfl, c1, c2, h⟩)
  · exact p_sign_of ad _ _ _ h
  · refine ⟨rfl, ?_⟩
    simp [t_sign_of]
    refine ⟨.int 5, rfl, trivial, ?_⟩
    simp [isIntD]
    refine call_within (by exact c1) ?_
    by_cases hw : withinD 1 1000000000000000000 m = true
    · rcases c2 with c | ⟨i, rfl, hi⟩
      · rw [hw] at c; cases c
      · simpa [hw, hi] using h
    · have hw : withinD 1 1000000000000000000 m = false := by simpa using hw
      simpa [hw] using h
/-- the program's sign -/
theorem call_sign {ad : Ad} {n m : Int} (hn : -1000000000 ≤ n ∧ n ≤ 1000000000) (h1 : 1 ≤ m) (h2 : m ≤ 100000) (h3 : m % 2 = 1) {Q : D → Prop} {Z : Ex → Prop} (k : Q (.int (Qr.gs (n % m).toNat m.toNat))) : signF ad [.int n, .int m] Q Z := by
  obtain ⟨j, rfl⟩ := Int.eq_ofNat_of_zero_le (show 0 ≤ m by omega)
  have g := jac_gs (n := n) (m := j) (by omega) (Nat.lt_of_le_of_lt (show j ≤ 100000 by omega) (by decide))
  exact .inl ⟨n, j, _, rfl, ⟨hn.1, hn.2, by omega, by omega, by omega⟩, g, by simpa using k⟩
theorem call_lsign {ad : Ad} {n m : Int} (h1 : 1 ≤ m) (h2 : m ≤ 239) (h3 : m % 2 = 1) {Q : D → Prop} {Z : Ex → Prop} (k : Q (.int (Qr.gs (n % m).toNat m.toNat))) : phi__law_sign ad [.int n, .int m] Q Z := by
  obtain ⟨l, e, hp, _, hs⟩ := sign_ok (n := n) h1 h2 h3
  exact ⟨n, m, l, rfl, ⟨by omega, by omega⟩, e, hp, by rw [hs]; exact k⟩
def trueP (h : Addr) : FSp := fun ds Q _ => ds = [.ref h] ∧ Q (.bl true)
theorem m_trueP {h : Addr} : MonoF (trueP h) := ⟨fun ds Q Q' Z Z' hq hz ⟨e, q⟩ => ⟨e, hq _ q⟩⟩
theorem gs_top {m : Nat} (hm : m % 2 = 1) (a b : Int) : Qr.gs (a * b % (m : Int)).toNat m = Qr.gs (a % (m : Int)).toNat m * Qr.gs (b % (m : Int)).toNat m := by
  have m0 : (0 : Int) < m := by omega
  have pa := Int.emod_nonneg a (b := (m : Int)) (by omega)
  have pb := Int.emod_nonneg b (b := (m : Int)) (by omega)
  obtain ⟨x, hx⟩ := Int.eq_ofNat_of_zero_le pa
  obtain ⟨y, hy⟩ := Int.eq_ofNat_of_zero_le pb
  have hx : a % (m : Int) = (x : Int) := hx
  have hy : b % (m : Int) = (y : Int) := hy
  rw [← Qr.gs_mul hm, Int.mul_emod, hx, hy, Int.toNat_natCast, Int.toNat_natCast, ← Int.natCast_mul, ← Int.natCast_emod, Int.toNat_natCast, Qr.gs_mod]
theorem gs_low {a b : Nat} (ha : a % 2 = 1) (hb : b % 2 = 1) (n : Int) : Qr.gs (n % ((a * b : Nat) : Int)).toNat (a * b) = Qr.gs (n % (a : Int)).toNat a * Qr.gs (n % (b : Int)).toNat b := by
  have ab0 : 0 < a * b := Nat.mul_pos (by omega) (by omega)
  have p := Int.emod_nonneg n (b := ((a * b : Nat) : Int)) (by omega)
  obtain ⟨x, hx⟩ := Int.eq_ofNat_of_zero_le p
  have hx : n % ((a * b : Nat) : Int) = (x : Int) := hx
  have ea : n % (a : Int) = ((x % a : Nat) : Int) := by
    rw [Int.natCast_emod, ← hx, Int.emod_emod_of_dvd n (by rw [Int.natCast_mul]; exact Int.dvd_mul_right _ _)]
  have eb : n % (b : Int) = ((x % b : Nat) : Int) := by
    rw [Int.natCast_emod, ← hx, Int.emod_emod_of_dvd n (by rw [Int.natCast_mul]; exact Int.dvd_mul_left _ _)]
  rw [hx, ea, eb, Int.toNat_natCast, Int.toNat_natCast, Int.toNat_natCast, Qr.gs_mod, Qr.gs_mod]
  exact Qr.gs_bot ha hb x
theorem gs_topI {m : Int} (h : 1 ≤ m) (h2 : m % 2 = 1) (a b : Int) : Qr.gs (a * b % m).toNat m.toNat = Qr.gs (a % m).toNat m.toNat * Qr.gs (b % m).toNat m.toNat := by
  obtain ⟨k, rfl⟩ := Int.eq_ofNat_of_zero_le (show 0 ≤ m by omega)
  exact gs_top (by omega) a b
theorem gs_lowI {a b : Int} (h : 1 ≤ a) (h2 : a % 2 = 1) (h3 : 1 ≤ b) (h4 : b % 2 = 1) (n : Int) : Qr.gs (n % (a * b)).toNat (a * b).toNat = Qr.gs (n % a).toNat a.toNat * Qr.gs (n % b).toNat b.toNat := by
  obtain ⟨x, rfl⟩ := Int.eq_ofNat_of_zero_le (show 0 ≤ a by omega)
  obtain ⟨y, rfl⟩ := Int.eq_ofNat_of_zero_le (show 0 ≤ b by omega)
  have := gs_low (a := x) (b := y) (by omega) (by omega) n
  rw [Int.natCast_mul] at this
  have e : ((x : Int) * (y : Int)).toNat = x * y := by rw [← Int.natCast_mul, Int.toNat_natCast]
  show Qr.gs (n % ((x : Int) * (y : Int))).toNat ((x : Int) * (y : Int)).toNat = _
  rw [e]
  exact this
theorem p__law_are_signs_right (ad : Ad) (h : Addr) : ∀ ds Q Z, trueP h ds Q Z → fnD 1 6 (t__law_are_signs_right ad (drawF h) (phi__law_sign ad) (isP 2) (signF ad)) ds Q Z := by
  rintro ds Q Z ⟨rfl, hQ⟩
  refine ⟨rfl, ?_⟩
  have kk (x : Int) : mulOk 2 x := .inl (.inl ⟨by decide, by decide⟩)
  have kg (a b : Nat) (x : Int) : mulOk (Qr.gs a b) x := .inl (.inl (by rcases Qr.gs_cases a b with e | e | e <;> rw [e] <;> decide))
  have a0 (x y z : D) : atD [x, y, z] 0 = some x := rfl
  have a1 (x y z : D) : atD [x, y, z] 1 = some y := rfl
  have a2 (x y z : D) : atD [x, y, z] 2 = some z := rfl
  simp [t__law_are_signs_right]
  refine draw_of (by decide) fun r1 b1 c1 => ?_
  simp
  refine draw_of (by decide) fun r2 b2 c2 => ?_
  simp [k__law_are_signs_right_4]
  refine draw_of (by decide) fun r3 b3 c3 => ?_
  simp [kk]
  refine draw_of (by decide) fun r4 b4 c4 => ?_
  have k1 : mulOk (r1 - 200) (r2 - 200) := .inl (.inl ⟨by omega, by omega⟩)
  have k2 : mulOk (1 + 2 * r3) (1 + 2 * r4) := .inl (.inl ⟨by omega, by omega⟩)
  have pr : -40000 ≤ (r1 - 200) * (r2 - 200) ∧ (r1 - 200) * (r2 - 200) ≤ 40000 := by
    have q1 : 0 ≤ (200 - (r1 - 200)) * (200 + (r2 - 200)) := Int.mul_nonneg (by omega) (by omega)
    have q2 : 0 ≤ (200 + (r1 - 200)) * (200 - (r2 - 200)) := Int.mul_nonneg (by omega) (by omega)
    have q3 : 0 ≤ (200 - (r1 - 200)) * (200 - (r2 - 200)) := Int.mul_nonneg (by omega) (by omega)
    have q4 : 0 ≤ (200 + (r1 - 200)) * (200 + (r2 - 200)) := Int.mul_nonneg (by omega) (by omega)
    constructor <;> grind
  have ms : 1 ≤ (1 + 2 * r3) * (1 + 2 * r4) ∧ (1 + 2 * r3) * (1 + 2 * r4) ≤ 18881 ∧ ((1 + 2 * r3) * (1 + 2 * r4)) % 2 = 1 := by
    have q1 : 0 ≤ r3 * r4 := Int.mul_nonneg b3 b4
    have q2 : r3 * r4 ≤ 119 * 39 := Int.mul_le_mul (by omega) (by omega) b4 (by omega)
    have e : (1 + 2 * r3) * (1 + 2 * r4) = 1 + 2 * r3 + 2 * r4 + 4 * (r3 * r4) := by grind
    rw [e]; omega
  simp [kk, k__law_are_signs_right_3]
  refine call_lsign (by omega) (by omega) (by omega) ?_
  simp
  refine call_lsign (by omega) (by omega) (by omega) ?_
  simp
  refine call_lsign (by omega) (by omega) (by omega) ?_
  simp [k__law_are_signs_right_2]
  refine call_sign ⟨by omega, by omega⟩ (by omega) (by omega) (by omega) ?_
  simp
  refine call_sign ⟨by omega, by omega⟩ (by omega) (by omega) (by omega) ?_
  simp
  refine call_sign ⟨by omega, by omega⟩ (by omega) (by omega) (by omega) ?_
  simp
  refine isP_same (by rfl) (by rfl) ?_
  simp [k__law_are_signs_right_1, k1, k2]
  refine call_sign ⟨by omega, by omega⟩ (by omega) (by omega) (by omega) ?_
  rw [gs_topI (by omega) (by omega)]
  simp [kg, a0, a1, a2, k2]
  refine call_sign ⟨by omega, by omega⟩ ms.1 (by omega) ms.2.2 ?_
  rw [gs_lowI (by omega) (by omega) (by omega) (by omega)]
  simp [kg, a0, a2]
  exact hQ
end Hd

set_option Elab.async false
set_option linter.all false
set_option maxRecDepth 100000
set_option maxHeartbeats 0
namespace Hd
open PySem L2 DL
theorem call_pt {ad : Ad} {p q i : Int} {n : Nat} (hi : i = n) (c : partB p q) (hn : n ≤ 2000) {Q : D → Prop} {Z : Ex → Prop} (k : Q (.tup [.int (Lu.U p q n), .int (Lu.V p q n)])) : phi_pair_terms ad [.int p, .int q, .int i] Q Z := .inl ⟨p, q, n, by rw [hi], ⟨c, hn⟩, k⟩
theorem call_lp {ad : Ad} {p q i : Int} {n : Nat} (hi : i = n) (c : partB p q) (hn : n ≤ 2000) {Q : D → Prop} {Z : Ex → Prop} (k : Q (.tup [.int (Lu.U p q n), .int (Lu.V p q n)])) : phi__law_pair ad [.int p, .int q, .int i] Q Z := ⟨p, q, n, by rw [hi], ⟨c, hn⟩, k⟩
theorem call_pw {ad : Ad} {q i : Int} {n : Nat} (hi : i = n) (c : -1000000 ≤ q ∧ q ≤ 1000000) (hn : n ≤ 2000) {Q : D → Prop} {Z : Ex → Prop} (k : Q (.int (q ^ n))) : phi__law_power ad [.int q, .int i] Q Z := ⟨q, n, by rw [hi], ⟨c.1, c.2, hn⟩, k⟩
theorem call_pr {ad : Ad} {p q i m : Int} {n : Nat} (hi : i = n) (c : partB p q) (hn : n ≤ 1000000000000000000) (hm : 1 ≤ m ∧ m ≤ 1000000000000000000 ∧ m % 2 = 1) {Q : D → Prop} {Z : Ex → Prop} (k : Q (.tup [.int (Lu.U p q n % m), .int (Lu.V p q n % m)])) : phi_pair_rests ad [.int p, .int q, .int i, .int m] Q Z :=
  .inl ⟨p, q, n, m, by rw [hi], ⟨c, hn, hm⟩, k⟩
theorem call_far {ad : Ad} {p q i m : Int} {n : Nat} (hi : i = n) (c : partB p q) (hn : n ≤ 1000000000000000000) (hm : 1 ≤ m ∧ m ≤ 1000000000000000000) {Q : D → Prop} {Z : Ex → Prop} (k : Q (.tup [.int (Lu.U p q n % m), .int (Lu.V p q n % m)])) : phi__law_far ad [.int p, .int q, .int i, .int m] Q Z :=
  ⟨p, q, n, m, by rw [hi], ⟨c, by omega, hm⟩, k⟩
theorem p__law_is_right (ad : Ad) (h : Addr) : ∀ ds Q Z, trueP h ds Q Z → fnD 1 10 (t__law_is_right ad (anyP h) (drawF h) (phi__law_pair ad) (isP 2) (phi_pair_terms ad) (phi__law_power ad) (phi_pair_rests ad) (phi__law_far ad)) ds Q Z := by
  rintro ds Q Z ⟨rfl, hQ⟩
  refine ⟨rfl, ?_⟩
  have kk (x : Int) : mulOk 2 x := .inl (.inl ⟨by decide, by decide⟩)
  have k4 (x : Int) : mulOk 4 x := .inl (.inl ⟨by decide, by decide⟩)
  simp [t__law_is_right]
  refine anyP_of (by simp) fun d hd => ?_
  obtain ⟨top, rfl, t1, t2⟩ : ∃ t : Int, d = .int t ∧ 0 < t ∧ t ≤ 1000000 := by
    simp only [List.mem_cons, List.not_mem_nil, or_false] at hd
    rcases hd with rfl | rfl | rfl
    · exact ⟨3, rfl, by decide, by decide⟩
    · exact ⟨9, rfl, by decide, by decide⟩
    · exact ⟨1000000, rfl, by decide, by decide⟩
  simp
  refine draw_of (by decide) fun pl l1 l2 => ?_
  obtain ⟨n, rfl⟩ := Int.eq_ofNat_of_zero_le l1
  have hn : n < 40 := by omega
  simp [k__law_is_right_10, kk]
  refine draw_of ⟨by omega, by omega⟩ fun r1 a1 b1 => ?_
  simp [kk]
  refine draw_of ⟨by omega, by omega⟩ fun r2 a2 b2 => ?_
  obtain ⟨p, rfl⟩ : ∃ p, r1 = p + top := ⟨r1 - top, by omega⟩
  obtain ⟨q, rfl⟩ : ∃ q, r2 = q + top := ⟨r2 - top, by omega⟩
  have c : partB p q := ⟨by omega, by omega, by omega, by omega⟩
  have hpq := part_b c
  have bu := Lu.U_b hpq.1 hpq.2 n
  have bv := Lu.V_b hpq.1 hpq.2 n
  have m1 : mulOk (Lu.U p q n) (Lu.V p q n) := mul_b bu bv (by omega) (by omega) (by omega)
  have m2 : mulOk (Lu.V p q n) (Lu.V p q n) := mul_b bv bv (by omega) (by omega) (by omega)
  have m3 : mulOk p p := .inl (.inl ⟨by omega, by omega⟩)
  have bd : (p * p - 4 * q).natAbs < 2 ^ 41 := by
    have a := Lu.na_mul hpq.1 hpq.1
    have b := Lu.na_mul (a := 4) (j := 3) (by decide) hpq.2
    exact Lu.na_mono (Lu.na_sub a (Lu.na_mono b (by omega))) (by omega)
  have bdu := Lu.na_mul bd bu
  have m4 : mulOk (p * p - 4 * q) (Lu.U p q n) := mul_b bd bu (by omega) (by omega) (by omega)
  have m5 : mulOk ((p * p - 4 * q) * Lu.U p q n) (Lu.U p q n) := mul_b bdu bu (by omega) (by omega) (by omega)
  have ec : ((2 : Int) * (n : Int)) = ((2 * n : Nat) : Int) := by simp
  simp [k__law_is_right_9]
  refine call_lp (n := n) rfl c (by omega) ?_
  simp [k__law_is_right_8]
  refine call_pt (n := n) rfl c (by omega) ?_
  simp
  refine isP_same (by rfl) (by rfl) ?_
  simp [k__law_is_right_7, k__law_is_right_6, m2, m3, m4, m5, k4]
  refine call_pw (n := n) rfl ⟨by omega, by omega⟩ (by omega) ?_
  have e1 : Lu.V p q n * Lu.V p q n - (p * p - 4 * q) * Lu.U p q n * Lu.U p q n = 4 * q ^ n := by
    have := Lu.UV_sq p q n
    rw [Int.mul_assoc]; exact this
  simp [k4, e1, k__law_is_right_5, kk]
  refine call_pt (n := 2 * n) ec c (by omega) ?_
  simp [m1, m2]
  refine call_pw (n := n) rfl ⟨by omega, by omega⟩ (by omega) ?_
  rw [Lu.U_dbl, Lu.V_dbl]
  simp [kk]
  refine isP_same (by rfl) (by rfl) ?_
  simp [k__law_is_right_4]
  refine anyP_of (by simp) fun d hd => ?_
  obtain ⟨top2, rfl, u1, u2⟩ : ∃ t : Int, d = .int t ∧ 0 < t ∧ t ≤ 100000000000000000 := by
    simp only [List.mem_cons, List.not_mem_nil, or_false] at hd
    rcases hd with rfl | rfl | rfl
    · exact ⟨5, rfl, by decide, by decide⟩
    · exact ⟨500, rfl, by decide, by decide⟩
    · exact ⟨100000000000000000, rfl, by decide, by decide⟩
  simp
  refine draw_of ⟨by omega, by omega⟩ fun r3 a3 b3 => ?_
  have m0 : 0 < 1 + 2 * r3 := by omega
  simp [kk, k__law_is_right_3]
  refine call_pr (n := n) rfl c (by omega) ⟨by omega, by omega, by omega⟩ ?_
  simp [m0]
  refine isP_same (by rfl) (by rfl) ?_
  simp [k__law_is_right_2]
  refine draw_of (by decide) fun r4 a4 b4 => ?_
  simp
  refine draw_of (by decide) fun r5 a5 b5 => ?_
  have m6 : mulOk r4 r5 := .inl (.inl ⟨by omega, by omega⟩)
  obtain ⟨x, rfl⟩ := Int.eq_ofNat_of_zero_le a4
  obtain ⟨y, rfl⟩ := Int.eq_ofNat_of_zero_le a5
  have ef : ((x : Int) * (y : Int)) = ((x * y : Nat) : Int) := by simp
  have hf : x * y ≤ 1000000000 * 1000000000 := Nat.mul_le_mul (by omega) (by omega)
  simp [m6, k__law_is_right_1]
  refine call_pr (n := x * y) ef c (by omega) ⟨by omega, by omega, by omega⟩ ?_
  simp
  refine call_far (n := x * y) ef c (by omega) ⟨by omega, by omega⟩ ?_
  simp
  refine isP_same (by rfl) (by rfl) ?_
  simpa using hQ
end Hd

set_option Elab.async false
set_option linter.all false
set_option maxRecDepth 100000
set_option maxHeartbeats 0
namespace Hd
open PySem L2 DL
/-! terms -/
theorem rtB_ok {n r : Nat} (h : rtB n r = true) : isRt n r := by
  unfold rtB at h
  simp only [Bool.and_eq_true] at h
  exact ⟨Nat.le_of_ble_eq_true h.1, by have := h.2; simp [Nat.blt] at this; exact this⟩
theorem call_term {ad : Ad} {i : Int} {n : Nat} (hi : i = n) (h : tB n = true) {Q : D → Prop} {Z : Ex → Prop} (k : Q (.bl (fibL.any (Nat.beq n)))) : phi_is_term ad [.int i] Q Z := by
  unfold tB at h
  simp only [Bool.and_eq_true, beq_iff_eq] at h
  obtain ⟨⟨⟨h1, h2⟩, h3⟩, h4⟩ := h
  refine .inl ⟨n, _, _, by rw [hi], Nat.le_of_ble_eq_true h3, rtB_ok h1, rtB_ok h2, ?_⟩
  have : termB n (rtF (5 * n * n + 4)) (rtF (5 * n * n - 4)) = fibL.any (Nat.beq n) := by
    rw [← h4, Bool.eq_iff_iff]
    unfold termB
    simp only [Bool.or_eq_true, Bool.and_eq_true, decide_eq_true_eq, Nat.beq_eq, Nat.ble_eq]
  rw [this]
  exact k
def dn (x : Nat) : D := .int (x : Int)
theorem fib0 : [D.int 0, D.int 1] = [0, 1].map dn := rfl
def fibP : Nat → List Nat → List Nat
  | 0, l => l
  | k + 1, l => fibP k (l ++ [l.getD (l.length - 1) 0 + l.getD (l.length - 2) 0])
theorem fib_chk : fibP 280 [0, 1] = fibL := by decide +kernel
theorem fibP_succ : ∀ (k : Nat) (l : List Nat), fibP (k + 1) l = fibP k l ++ [(fibP k l).getD ((fibP k l).length - 1) 0 + (fibP k l).getD ((fibP k l).length - 2) 0]
  | 0, l => rfl
  | k + 1, l => by rw [fibP, fibP_succ k]; rfl
theorem fibP_len : ∀ (k : Nat) (l : List Nat), (fibP k l).length = l.length + k
  | 0, l => rfl
  | k + 1, l => by rw [fibP, fibP_len k]; simp; omega
theorem at_neg {l : List Nat} {j : Nat} (h : j < l.length) (hj : 0 < j + 1) : atD (l.map dn) (-((j : Int) + 1)) = some (.int (l.getD (l.length - 1 - j) 0 : Nat)) := by
  have e : ixN (l.map dn).length (-((j : Int) + 1)) = some (l.length - 1 - j) := by
    unfold ixN
    rw [List.length_map, if_neg (by omega), if_pos (by omega)]
    congr 1; omega
  unfold atD atI
  rw [e]
  show (l.map dn)[l.length - 1 - j]? = _
  rw [List.getElem?_map, List.getElem?_eq_getElem (by omega)]
  simp [dn, List.getD, List.getElem?_eq_getElem (show l.length - 1 - j < l.length by omega)]
theorem inL {n : Nat} (l : List Nat) : inC (.int (n : Int)) (.lst (l.map dn)) ∧ inF (.int (n : Int)) (.lst (l.map dn)) = l.any (Nat.beq n) := by
  constructor
  · refine .inl ⟨rfl, ?_⟩
    rw [List.all_map, List.all_eq_true]
    intro x _; rfl
  · show (l.map dn).any (fun z => eqD z (.int (n : Int))) = _
    rw [List.any_map]
    congr 1
    funext x
    show eqD (dn x) (.int (n : Int)) = Nat.beq n x
    rw [Bool.eq_iff_iff, Nat.beq_eq]
    simp [dn]
    omega
abbrev KT (f : Ad → FSp → FSp → FSp → FSp → DSt) (ad : Ad) (h : Addr) : DSt := f ad (anyP h) (drawF h) (isP 2) (phi_is_term ad)
theorem t_mem {f : Nat} (h : f ∈ fibL) : tB f = true ∧ tB (f + 1) = true ∧ tB (f - 1) = true ∧ tB (f + 2) = true := by
  have := t_chk
  unfold tAll at this
  simp only [Bool.and_eq_true, List.all_eq_true] at this
  have := this.1 f h
  exact ⟨this.1.1.1, this.1.1.2, this.1.2, this.2⟩
theorem t_low {n : Nat} (h : n < 200) : tB n = true := by
  have := t_chk
  unfold tAll at this
  simp only [Bool.and_eq_true, List.all_eq_true] at this
  exact this.2 n (List.mem_range.mpr h)
def fibD : List D := fibL.map dn
theorem fibD_len : fibD.length = 282 := by
  unfold fibD
  rw [List.length_map, ← fib_chk, fibP_len]; rfl
theorem terms_2 (ad : Ad) (h : Addr) {F : DEnds} {s2 : Sl} {f n : Nat} (hf : f ∈ fibL) (hn : tB n = true) (hF : F.rt (.bl true)) : KT k__law_are_terms_right_2 ad h F [.val (.ref h), .own fibD, s2, .val (.int f), .val (.int n)] := by
  simp [KT, k__law_are_terms_right_2]
  refine call_term (n := n) rfl hn ?_
  simp
  refine call_term (n := f) rfl (t_mem hf).1 ?_
  obtain ⟨i1, i2⟩ := inL (n := n) fibL
  have i1 : inC (.int (n : Int)) (.lst fibD) := i1
  have i2 : inF (.int (n : Int)) (.lst fibD) = fibL.any (Nat.beq n) := i2
  have hm : fibL.any (Nat.beq f) = true := List.any_eq_true.mpr ⟨f, hf, by simp⟩
  rw [hm]
  simp [i1, i2]
  refine isP_same (by rfl) (by rfl) ?_
  simpa using hF
theorem terms_3 (ad : Ad) (h : Addr) {F : DEnds} {s2 s4 : Sl} {f : Nat} (hf : f ∈ fibL) (hF : F.rt (.bl true)) : KT k__law_are_terms_right_3 ad h F [.val (.ref h), .own fibD, s2, .val (.int f), s4] := by
  obtain ⟨t1, t2, t3, t4⟩ := t_mem hf
  simp [KT, k__law_are_terms_right_3]
  refine draw_of (by decide) fun r a b => ?_
  simp
  refine anyP_of (by simp) fun d hd => ?_
  have : ∃ (i : Int) (n : Nat), d = .int i ∧ (if i > 0 then i else 0) = (n : Int) ∧ tB n = true := by
    simp only [List.mem_cons, List.not_mem_nil, or_false] at hd
    rcases hd with rfl | rfl | rfl | rfl | rfl
    · exact ⟨_, f, rfl, by split <;> omega, t1⟩
    · exact ⟨_, f + 1, rfl, by split <;> omega, t2⟩
    · exact ⟨_, f - 1, rfl, by split <;> omega, t3⟩
    · exact ⟨_, f + 2, rfl, by split <;> omega, t4⟩
    · exact ⟨_, r.toNat, rfl, by split <;> omega, t_low (by omega)⟩
  obtain ⟨i, n, rfl, e, hn⟩ := this
  simp [e]
  exact terms_2 ad h hf hn hF
theorem p__law_are_terms_right (ad : Ad) (h : Addr) : ∀ ds Q Z, trueP h ds Q Z → fnD 1 5 (t__law_are_terms_right ad (anyP h) (drawF h) (isP 2) (phi_is_term ad)) ds Q Z := by
  rintro ds Q Z ⟨rfl, hQ⟩
  refine ⟨rfl, ?_⟩
  simp [t__law_are_terms_right, k__law_are_terms_right_5]
  refine ⟨by unfold Rg; omega, ?_⟩
  refine forW_inv (fun i δ => ∃ s2, δ = [.val (.ref h), .own ((fibP i [0, 1]).map dn), s2, .un, .un]) ⟨_, rfl⟩ ?_ ?_
  · rintro i d δ k' hd ⟨s2, rfl⟩ hk
    have hi : i < 280 := by
      have := (List.getElem?_eq_some_iff.mp hd).1
      simpa [rgD] using this
    have hl := fibP_len i [0, 1]
    simp only [List.length_cons, List.length_nil] at hl
    have x1 := at_neg (l := fibP i [0, 1]) (j := 0) (by omega) (by omega)
    have x2 := at_neg (l := fibP i [0, 1]) (j := 1) (by omega) (by omega)
    simp only [Nat.sub_zero] at x1 x2
    simp [b__law_are_terms_right_1]
    refine ⟨_, x1, ?_⟩
    simp
    refine ⟨_, x2, ?_⟩
    simp
    refine ⟨by omega, ?_⟩
    refine hk _ ⟨.val d, ?_⟩
    rw [fibP_succ, List.map_append]
    simp
    rfl
  · rintro δ ⟨s2, rfl⟩
    have hlen : (rgD 0 280).length = 280 := by simp [rgD]
    rw [hlen, fib_chk]
    show KT k__law_are_terms_right_4 ad h _ (un none [.val (.ref h), .own fibD, s2, .un, .un])
    simp [KT, k__law_are_terms_right_4]
    refine anyP_of ⟨by rw [fibD_len]; decide, by rw [fibD_len]; decide⟩ fun d hd => ?_
    obtain ⟨f, hf, rfl⟩ := List.mem_map.mp hd
    refine ⟨rfl, ?_⟩
    simp
    exact terms_3 ad h hf hQ
end Hd

set_option Elab.async false
set_option linter.all false
set_option maxRecDepth 100000
set_option maxHeartbeats 0
namespace Hd
open PySem L2 DL
/-! what is refused -/
theorem sN : PyData.strOk "number" = true := by decide +kernel
theorem num_pt {ad : Ad} {p q n : D} (hp : okTy p) (hq : okTy q) (hn : okTy n) (hb : (partsOk p && partsOk q) = false ∨ withinD 0 2000 n = false) {Q : D → Prop} {Z : Ex → Prop} (k : Z ⟨ad.BadNumber, none⟩) : phi_pair_terms ad [p, q, n] Q Z := .inr ⟨p, q, n, rfl, hp, hq, hn, hb, k⟩
theorem num_pr {ad : Ad} {m : D} (hm : okTy m) (hb : withinD 1 1000000000000000000 m = false ∨ ∃ i : Int, m = .int i ∧ i % 2 = 0) {Q : D → Prop} {Z : Ex → Prop} (k : Z ⟨ad.BadNumber, none⟩) : phi_pair_rests ad [.int 1, .int 1, .int 5, m] Q Z := .inr ⟨m, rfl, hm, hb, k⟩
theorem num_sg {ad : Ad} {m : D} (hm : okTy m) (hb : withinD 1 1000000000000000000 m = false ∨ ∃ i : Int, m = .int i ∧ i % 2 = 0) {Q : D → Prop} {Z : Ex → Prop} (k : Z ⟨ad.BadNumber, none⟩) : signF ad [.int 5, m] Q Z := .inr ⟨m, rfl, hm, hb, k⟩
theorem num_tm {ad : Ad} {Q : D → Prop} {Z : Ex → Prop} (k : Z ⟨ad.BadNumber, none⟩) : phi_is_term ad [.int (-1)] Q Z := .inr ⟨rfl, k⟩
theorem p__law_refused_right (ad : Ad) (h : Addr) : ∀ ds Q Z, trueP h ds Q Z → fnD 1 5 (t__law_refused_right ad (anyP h) (phi_pair_terms ad) (phi_pair_rests ad) (signF ad) (phi_is_term ad)) ds Q Z := by
  rintro ds Q Z ⟨rfl, hQ⟩
  refine ⟨rfl, ?_⟩
  simp [t__law_refused_right]
  refine anyP_of (by simp) fun odd ho => ?_
  have ho : okTy odd ∧ partsOk odd = false := by
    simp only [List.mem_cons, List.not_mem_nil, or_false] at ho
    rcases ho with rfl | rfl | rfl | rfl | rfl | rfl <;> exact ⟨trivial, by decide⟩
  simp
  refine anyP_of (by simp) fun even he => ?_
  have he : okTy even ∧ (withinD 1 1000000000000000000 even = false ∨ ∃ i : Int, even = .int i ∧ i % 2 = 0) := by
    simp only [List.mem_cons, List.not_mem_nil, or_false] at he
    rcases he with rfl | rfl | rfl | rfl
    · exact ⟨trivial, .inl (by decide)⟩
    · exact ⟨trivial, .inr ⟨_, rfl, by decide⟩⟩
    · exact ⟨trivial, .inr ⟨_, rfl, by decide⟩⟩
    · exact ⟨trivial, .inl (by decide)⟩
  simp [k__law_refused_right_8]
  refine anyP_of (by simp) fun place hp => ?_
  have hp : okTy place ∧ withinD 0 2000 place = false := by
    simp only [List.mem_cons, List.not_mem_nil, or_false] at hp
    rcases hp with rfl | rfl | rfl | rfl | rfl <;> exact ⟨trivial, by decide⟩
  simp [k__law_refused_right_7]
  refine ⟨word_flat, num_pt ho.1 (by trivial) (by trivial) (.inl (by rw [ho.2]; rfl)) ⟨rfl, _, word_num, ?_⟩⟩
  simp [k__law_refused_right_6]
  refine ⟨word_flat, num_pt (by trivial) ho.1 (by trivial) (.inl (by rw [ho.2, Bool.and_false])) ⟨rfl, _, word_num, ?_⟩⟩
  simp [k__law_refused_right_5]
  refine ⟨word_flat, num_pt (by trivial) (by trivial) hp.1 (.inr hp.2) ⟨rfl, _, word_num, ?_⟩⟩
  simp [k__law_refused_right_4]
  refine ⟨word_flat, num_pr he.1 he.2 ⟨rfl, _, word_num, ?_⟩⟩
  simp [k__law_refused_right_3]
  refine ⟨word_flat, num_sg he.1 he.2 ⟨rfl, _, word_num, ?_⟩⟩
  simp [k__law_refused_right_2]
  refine ⟨word_flat, num_tm ⟨rfl, _, word_num, ?_⟩⟩
  simp [k__law_refused_right_1, eqC, okD, okDs, sN, eqD, eqDs]
  exact hQ
/-! the law -/
theorem r0 (ad : Ad) : ∀ (a : Addr) (ns : List Int), ns.length ≤ 63 → t_law0 (handP a ns) { noE with nx := fun δ => ∃ d, δ = .val (.ref a) :: .val d :: List.replicate 2 .un ∧ handD d } (.val (.ref a) :: List.replicate 3 .un) := by
  intro a ns hl
  simp [t_law0, List.replicate]
  exact ⟨rfl, hl, fun d hd => ⟨d, rfl, hd⟩⟩
abbrev KL (f : Ad → FSp → FSp → FSp → FSp → FSp → FSp → FSp → FSp → FSp → DSt) (ad : Ad) (h : Addr) : DSt := f ad (phi_pair_terms ad) (phi_pair_rests ad) (signF ad) (phi_is_term ad) (isP 2) (trueP h) (trueP h) (trueP h) (trueP h)
theorem gs1 : Qr.gs (2 % 15 : Int).toNat (15 : Int).toNat = 1 ∧ Qr.gs (5 % 21 : Int).toNat (21 : Int).toNat = 1 := by decide +kernel
theorem r1 (ad : Ad) : ∀ (a h : Addr), t_law ad (phi_pair_terms ad) (phi_pair_rests ad) (signF ad) (phi_is_term ad) (isP 2) (trueP h) (trueP h) (trueP h) (trueP h) { noE with rt := fun d => d = .bl true } (.val (.ref a) :: .val (.ref h) :: List.replicate 2 .un) := by
  intro a h
  have e1 : Lu.U 1 (-1) 10 = 55 ∧ Lu.V 1 (-1) 10 = 123 := by decide
  have e2 : Lu.U 1 (-1) 10 % 7 = 6 ∧ Lu.V 1 (-1) 10 % 7 = 4 := by decide
  simp [t_law, List.replicate]
  refine call_pt (n := 10) rfl ⟨by decide, by decide, by decide, by decide⟩ (by decide) ?_
  rw [e1.1, e1.2]
  simp
  refine call_pr (n := 10) rfl ⟨by decide, by decide, by decide, by decide⟩ (by decide) (by decide) ?_
  rw [e2.1, e2.2]
  simp
  refine call_sign (by decide) (by decide) (by decide) (by decide) ?_
  rw [gs1.1]
  simp
  refine call_sign (by decide) (by decide) (by decide) (by decide) ?_
  rw [gs1.2]
  simp
  refine call_term (n := 8) rfl (t_low (by decide)) ?_
  rw [show fibL.any (Nat.beq 8) = true by decide +kernel]
  simp
  refine call_term (n := 4) rfl (t_low (by decide)) ?_
  rw [show fibL.any (Nat.beq 4) = false by decide +kernel]
  simp [k_law_5]
  refine isP_same (by rfl) (by rfl) ?_
  simp [k_law_4]
  refine ⟨by unfold Rg; omega, ?_⟩
  refine forW_inv (fun _ δ => ∃ s2 s3, δ = [.val (.ref a), .val (.ref h), s2, s3]) ⟨_, _, rfl⟩ ?_ ?_
  · rintro i d δ k' hd ⟨s2, s3, rfl⟩ hk
    simp [b_law_2]
    refine ⟨rfl, ?_⟩
    simp
    refine ⟨rfl, ?_⟩
    simp
    refine ⟨rfl, ?_⟩
    simp [k_law_1]
    refine ⟨rfl, ?_⟩
    simp
    exact hk _ ⟨_, _, rfl⟩
  · rintro δ ⟨s2, s3, rfl⟩
    simp [k_law_3]
end Hd

set_option Elab.async false
set_option linter.all false
set_option maxRecDepth 100000
set_option maxHeartbeats 0
namespace Hd
open PySem L2 DL
def noF : FSp := fun _ _ _ => False
theorem m_noF : MonoF noF := ⟨fun _ _ _ _ _ _ _ h => h⟩
theorem cal__law_draw {P : Program} {w : World} {K : PySem.W.Frag} {mg : Str → Option Value} {base : Heap} {ad : Ad} {h c : Addr} {hc : h ≠ c} {P0 : Addr} (fx : Fx P w K mg ad) : Cal P w K mg base (GG P0 h c hc) "_law_draw" ad._law_draw 1 (drawF h) := by
  obtain ⟨fd, F⟩ := fx.f__law_draw
  exact ⟨⟨fd, _, ok_draw F fx.g_int fx.g_len, F.bindsN fun _ _ _ _ _ _ us hl => match us, hl with | [_, _], _ => rfl⟩, fx.g__law_draw, F.kp, mono_anyF⟩
theorem cal_is0 {P : Program} {w : World} {K : PySem.W.Frag} {mg : Str → Option Value} {base : Heap} {ad : Ad} {G : Amb} (fx : Fx P w K mg ad) : Cal P w K mg base G "_law_is" ad._law_is 1 noF := by
  obtain ⟨fd, F⟩ := fx.f__law_is
  exact ⟨⟨fd, ["said_told", "due"], F.ok sc__law_is (fun vs H Q E q => by obtain ⟨_, _, _, _, _, _, q⟩ := q; exact q.elim) (fun cdv A outer s H vs Q E hr q => by obtain ⟨_, _, _, _, _, _, q⟩ := q; exact q.elim), F.bindsN fun _ _ _ _ _ _ us hl => match us, hl with | [_, _], _ => rfl⟩, fx.g__law_is, F.kp, m_noF⟩
theorem cal_isN {P : Program} {w : World} {K : PySem.W.Frag} {mg : Str → Option Value} {base : Heap} {ad : Ad} {G : Amb} (fx : Fx P w K mg ad) : ∀ n, n ≤ 60 → Cal P w K mg base G "_law_is" ad._law_is (n + 2) (isP n)
  | 0, hn => by
    obtain ⟨fd, F⟩ := fx.f__law_is
    exact ⟨⟨fd, _, fn_dl (k := 1) F sc__law_is (by decide) (p__law_is ad 0 hn noF fun a b Q Z ⟨k, e, _⟩ => by omega) (fun cdv A outer s H E hr => der__law_is fx (cal_is0 fx) (by decide) cdv A outer s H E hr), F.bindsN fun _ _ _ _ _ _ us hl => match us, hl with | [_, _], _ => rfl⟩, fx.g__law_is, F.kp, m_isP⟩
  | n + 1, hn => by
    obtain ⟨fd, F⟩ := fx.f__law_is
    exact ⟨⟨fd, _, fn_dl (k := n + 2) F sc__law_is (by decide) (p__law_is ad (n + 1) hn (isP n) fun a b Q Z ⟨k, e, q⟩ => by cases e; exact q) (fun cdv A outer s H E hr => der__law_is fx (cal_isN fx n (by omega)) (by omega) cdv A outer s H E hr), F.bindsN fun _ _ _ _ _ _ us hl => match us, hl with | [_, _], _ => rfl⟩, fx.g__law_is, F.kp, m_isP⟩
theorem cal__law_is {P : Program} {w : World} {K : PySem.W.Frag} {mg : Str → Option Value} {base : Heap} {ad : Ad} {G : Amb} (fx : Fx P w K mg ad) : Cal P w K mg base G "_law_is" ad._law_is 4 (isP 2) := cal_isN fx 2 (by decide)
theorem cal__law_hand {P : Program} {w : World} {K : PySem.W.Frag} {mg : Str → Option Value} {base : Heap} {ad : Ad} {G : Amb} (fx : Fx P w K mg ad) {a : Addr} {ns : List Int} (hs : ∀ H, G.inv H → SqL K H a (ns.map V.int)) : Cal P w K mg base G "_law_hand" ad._law_hand 1 (handP a ns) := by
  obtain ⟨fd, F⟩ := fx.f__law_hand
  exact ⟨⟨fd, _, fn_dl (k := 0) F sc__law_hand (by decide) (p__law_hand ad a ns) (fun cdv A outer s H E hr => der__law_hand fx hs cdv A outer s H E hr), F.bindsN fun _ _ _ _ _ _ us hl => match us, hl with | [_], _ => rfl⟩, fx.g__law_hand, F.kp, m_handP⟩
theorem cal_is_integer {P : Program} {w : World} {K : PySem.W.Frag} {mg : Str → Option Value} {base : Heap} {ad : Ad} {G : Amb} (fx : Fx P w K mg ad) : Cal P w K mg base G "is_integer" ad.is_integer 1 (phi_is_integer ad) := by
  obtain ⟨fd, F⟩ := fx.f_is_integer
  exact ⟨⟨fd, _, fn_dl (k := 0) F sc_is_integer (by decide) (p_is_integer ad) (fun cdv A outer s H E hr => der_is_integer fx cdv A outer s H E hr), F.bindsN fun _ _ _ _ _ _ us hl => match us, hl with | [_], _ => rfl⟩, fx.g_is_integer, F.kp, m_is_integer⟩
theorem cal_is_within {P : Program} {w : World} {K : PySem.W.Frag} {mg : Str → Option Value} {base : Heap} {ad : Ad} {G : Amb} (fx : Fx P w K mg ad) : Cal P w K mg base G "is_within" ad.is_within 2 (phi_is_within ad) := by
  obtain ⟨fd, F⟩ := fx.f_is_within
  exact ⟨⟨fd, _, fn_dl (k := 1) F sc_is_within (by decide) (p_is_within ad) (fun cdv A outer s H E hr => der_is_within fx (cal_is_integer fx) (by decide) cdv A outer s H E hr), F.bindsN fun _ _ _ _ _ _ us hl => match us, hl with | [_, _, _], _ => rfl⟩, fx.g_is_within, F.kp, m_is_within⟩
theorem cal_bin_of {P : Program} {w : World} {K : PySem.W.Frag} {mg : Str → Option Value} {base : Heap} {ad : Ad} {G : Amb} (fx : Fx P w K mg ad) : Cal P w K mg base G "bin_of" ad.bin_of 1 (phi_bin_of ad) := by
  obtain ⟨fd, F⟩ := fx.f_bin_of
  exact ⟨⟨fd, _, fn_dl (k := 0) F sc_bin_of (by decide) (p_bin_of ad) (fun cdv A outer s H E hr => der_bin_of fx cdv A outer s H E hr), F.bindsN fun _ _ _ _ _ _ us hl => match us, hl with | [_], _ => rfl⟩, fx.g_bin_of, F.kp, m_bin_of⟩
theorem cal_root_of {P : Program} {w : World} {K : PySem.W.Frag} {mg : Str → Option Value} {base : Heap} {ad : Ad} {G : Amb} (fx : Fx P w K mg ad) : Cal P w K mg base G "root_of" ad.root_of 2 (phi_root_of ad) := by
  obtain ⟨fd, F⟩ := fx.f_root_of
  exact ⟨⟨fd, _, fn_dl (k := 1) F sc_root_of (by decide) (p_root_of ad) (fun cdv A outer s H E hr => der_root_of fx (cal_bin_of fx) (by decide) cdv A outer s H E hr), F.bindsN fun _ _ _ _ _ _ us hl => match us, hl with | [_], _ => rfl⟩, fx.g_root_of, F.kp, m_root_of⟩
theorem cal_check_parts {P : Program} {w : World} {K : PySem.W.Frag} {mg : Str → Option Value} {base : Heap} {ad : Ad} {G : Amb} (fx : Fx P w K mg ad) : Cal P w K mg base G "check_parts" ad.check_parts 2 (phi_check_parts ad) := by
  obtain ⟨fd, F⟩ := fx.f_check_parts
  exact ⟨⟨fd, _, fn_dl (k := 1) F sc_check_parts (by decide) (p_check_parts ad) (fun cdv A outer s H E hr => der_check_parts fx (cal_is_integer fx) (by decide) cdv A outer s H E hr), F.bindsN fun _ _ _ _ _ _ us hl => match us, hl with | [_, _], _ => rfl⟩, fx.g_check_parts, F.kp, m_check_parts⟩
theorem cal_bits_of {P : Program} {w : World} {K : PySem.W.Frag} {mg : Str → Option Value} {base : Heap} {ad : Ad} {G : Amb} (fx : Fx P w K mg ad) : Cal P w K mg base G "bits_of" ad.bits_of 1 (phi_bits_of ad) := by
  obtain ⟨fd, F⟩ := fx.f_bits_of
  exact ⟨⟨fd, _, fn_dl (k := 0) F sc_bits_of (by decide) (p_bits_of ad) (fun cdv A outer s H E hr => der_bits_of fx cdv A outer s H E hr), F.bindsN fun _ _ _ _ _ _ us hl => match us, hl with | [_], _ => rfl⟩, fx.g_bits_of, F.kp, m_bits_of⟩
theorem cal_pair_of {P : Program} {w : World} {K : PySem.W.Frag} {mg : Str → Option Value} {base : Heap} {ad : Ad} {G : Amb} (fx : Fx P w K mg ad) : Cal P w K mg base G "pair_of" ad.pair_of 2 (phi_pair_of ad) := by
  obtain ⟨fd, F⟩ := fx.f_pair_of
  exact ⟨⟨fd, _, fn_dl (k := 1) F sc_pair_of (by decide) (p_pair_of ad) (fun cdv A outer s H E hr => der_pair_of fx (cal_bits_of fx) (by decide) cdv A outer s H E hr), F.bindsN fun _ _ _ _ _ _ us hl => match us, hl with | [_, _, _], _ => rfl⟩, fx.g_pair_of, F.kp, m_pair_of⟩
theorem cal_pair_terms {P : Program} {w : World} {K : PySem.W.Frag} {mg : Str → Option Value} {base : Heap} {ad : Ad} {G : Amb} (fx : Fx P w K mg ad) : Cal P w K mg base G "pair_terms" ad.pair_terms 3 (phi_pair_terms ad) := by
  obtain ⟨fd, F⟩ := fx.f_pair_terms
  exact ⟨⟨fd, _, fn_dl (k := 2) F sc_pair_terms (by decide) (p_pair_terms ad) (fun cdv A outer s H E hr => der_pair_terms fx (cal_check_parts fx) (by decide) (cal_is_within fx) (by decide) (cal_pair_of fx) (by decide) cdv A outer s H E hr), F.bindsN fun _ _ _ _ _ _ us hl => match us, hl with | [_, _, _], _ => rfl⟩, fx.g_pair_terms, F.kp, m_pair_terms⟩
theorem cal_pair_rests_of {P : Program} {w : World} {K : PySem.W.Frag} {mg : Str → Option Value} {base : Heap} {ad : Ad} {G : Amb} (fx : Fx P w K mg ad) : Cal P w K mg base G "pair_rests_of" ad.pair_rests_of 2 (phi_pair_rests_of ad) := by
  obtain ⟨fd, F⟩ := fx.f_pair_rests_of
  exact ⟨⟨fd, _, fn_dl (k := 1) F sc_pair_rests_of (by decide) (p_pair_rests_of ad) (fun cdv A outer s H E hr => der_pair_rests_of fx (cal_bits_of fx) (by decide) cdv A outer s H E hr), F.bindsN fun _ _ _ _ _ _ us hl => match us, hl with | [_, _, _, _], _ => rfl⟩, fx.g_pair_rests_of, F.kp, m_pair_rests_of⟩
theorem cal_pair_rests {P : Program} {w : World} {K : PySem.W.Frag} {mg : Str → Option Value} {base : Heap} {ad : Ad} {G : Amb} (fx : Fx P w K mg ad) : Cal P w K mg base G "pair_rests" ad.pair_rests 3 (phi_pair_rests ad) := by
  obtain ⟨fd, F⟩ := fx.f_pair_rests
  exact ⟨⟨fd, _, fn_dl (k := 2) F sc_pair_rests (by decide) (p_pair_rests ad) (fun cdv A outer s H E hr => der_pair_rests fx (cal_check_parts fx) (by decide) (cal_is_within fx) (by decide) (cal_pair_rests_of fx) (by decide) cdv A outer s H E hr), F.bindsN fun _ _ _ _ _ _ us hl => match us, hl with | [_, _, _, _], _ => rfl⟩, fx.g_pair_rests, F.kp, m_pair_rests⟩
theorem cal_sign_of {P : Program} {w : World} {K : PySem.W.Frag} {mg : Str → Option Value} {base : Heap} {ad : Ad} {G : Amb} (fx : Fx P w K mg ad) : Cal P w K mg base G "sign_of" ad.sign_of 3 (signF ad) := by
  obtain ⟨fd, F⟩ := fx.f_sign_of
  exact ⟨⟨fd, _, fn_dl (k := 2) F sc_sign_of (by decide) (p_signF ad) (fun cdv A outer s H E hr => der_sign_of fx (cal_is_integer fx) (by decide) (cal_is_within fx) (by decide) cdv A outer s H E hr), F.bindsN fun _ _ _ _ _ _ us hl => match us, hl with | [_, _], _ => rfl⟩, fx.g_sign_of, F.kp, m_signF⟩
theorem cal_is_term {P : Program} {w : World} {K : PySem.W.Frag} {mg : Str → Option Value} {base : Heap} {ad : Ad} {G : Amb} (fx : Fx P w K mg ad) : Cal P w K mg base G "is_term" ad.is_term 3 (phi_is_term ad) := by
  obtain ⟨fd, F⟩ := fx.f_is_term
  exact ⟨⟨fd, _, fn_dl (k := 2) F sc_is_term (by decide) (p_is_term ad) (fun cdv A outer s H E hr => der_is_term fx (cal_is_integer fx) (by decide) (cal_root_of fx) (by decide) cdv A outer s H E hr), F.bindsN fun _ _ _ _ _ _ us hl => match us, hl with | [_], _ => rfl⟩, fx.g_is_term, F.kp, m_is_term⟩
theorem cal__law_any {P : Program} {w : World} {K : PySem.W.Frag} {mg : Str → Option Value} {base : Heap} {ad : Ad} {h c : Addr} {hc : h ≠ c} {P0 : Addr} (fx : Fx P w K mg ad) : Cal P w K mg base (GG P0 h c hc) "_law_any" ad._law_any 2 (anyP h) := by
  obtain ⟨fd, F⟩ := fx.f__law_any
  exact ⟨⟨fd, _, fn_dl (k := 1) F sc__law_any (by decide) (p__law_any ad h) (fun cdv A outer s H E hr => der__law_any fx (cal__law_draw fx) (by decide) cdv A outer s H E hr), F.bindsN fun _ _ _ _ _ _ us hl => match us, hl with | [_, _], _ => rfl⟩, fx.g__law_any, F.kp, m_anyP⟩
theorem cal__law_pair {P : Program} {w : World} {K : PySem.W.Frag} {mg : Str → Option Value} {base : Heap} {ad : Ad} {G : Amb} (fx : Fx P w K mg ad) : Cal P w K mg base G "_law_pair" ad._law_pair 1 (phi__law_pair ad) := by
  obtain ⟨fd, F⟩ := fx.f__law_pair
  exact ⟨⟨fd, _, fn_dl (k := 0) F sc__law_pair (by decide) (p__law_pair ad) (fun cdv A outer s H E hr => der__law_pair fx cdv A outer s H E hr), F.bindsN fun _ _ _ _ _ _ us hl => match us, hl with | [_, _, _], _ => rfl⟩, fx.g__law_pair, F.kp, m__law_pair⟩
theorem cal__law_primes {P : Program} {w : World} {K : PySem.W.Frag} {mg : Str → Option Value} {base : Heap} {ad : Ad} {G : Amb} (fx : Fx P w K mg ad) : Cal P w K mg base G "_law_primes" ad._law_primes 1 (phi__law_primes ad) := by
  obtain ⟨fd, F⟩ := fx.f__law_primes
  exact ⟨⟨fd, _, fn_dl (k := 0) F sc__law_primes (by decide) (p__law_primes ad) (fun cdv A outer s H E hr => der__law_primes fx cdv A outer s H E hr), F.bindsN fun _ _ _ _ _ _ us hl => match us, hl with | [_], _ => rfl⟩, fx.g__law_primes, F.kp, m__law_primes⟩
theorem cal__law_sign {P : Program} {w : World} {K : PySem.W.Frag} {mg : Str → Option Value} {base : Heap} {ad : Ad} {G : Amb} (fx : Fx P w K mg ad) : Cal P w K mg base G "_law_sign" ad._law_sign 2 (phi__law_sign ad) := by
  obtain ⟨fd, F⟩ := fx.f__law_sign
  exact ⟨⟨fd, _, fn_dl (k := 1) F sc__law_sign (by decide) (p__law_sign ad) (fun cdv A outer s H E hr => der__law_sign fx (cal__law_primes fx) (by decide) cdv A outer s H E hr), F.bindsN fun _ _ _ _ _ _ us hl => match us, hl with | [_, _], _ => rfl⟩, fx.g__law_sign, F.kp, m__law_sign⟩
theorem cal__law_times {P : Program} {w : World} {K : PySem.W.Frag} {mg : Str → Option Value} {base : Heap} {ad : Ad} {G : Amb} (fx : Fx P w K mg ad) : Cal P w K mg base G "_law_times" ad._law_times 1 (phi__law_times ad) := by
  obtain ⟨fd, F⟩ := fx.f__law_times
  exact ⟨⟨fd, _, fn_dl (k := 0) F sc__law_times (by decide) (p__law_times ad) (fun cdv A outer s H E hr => der__law_times fx cdv A outer s H E hr), F.bindsN fun _ _ _ _ _ _ us hl => match us, hl with | [_, _, _], _ => rfl⟩, fx.g__law_times, F.kp, m__law_times⟩
theorem cal__law_far {P : Program} {w : World} {K : PySem.W.Frag} {mg : Str → Option Value} {base : Heap} {ad : Ad} {G : Amb} (fx : Fx P w K mg ad) : Cal P w K mg base G "_law_far" ad._law_far 2 (phi__law_far ad) := by
  obtain ⟨fd, F⟩ := fx.f__law_far
  exact ⟨⟨fd, _, fn_dl (k := 1) F sc__law_far (by decide) (p__law_far ad) (fun cdv A outer s H E hr => der__law_far fx (cal__law_times fx) (by decide) cdv A outer s H E hr), F.bindsN fun _ _ _ _ _ _ us hl => match us, hl with | [_, _, _, _], _ => rfl⟩, fx.g__law_far, F.kp, m__law_far⟩
theorem cal__law_power {P : Program} {w : World} {K : PySem.W.Frag} {mg : Str → Option Value} {base : Heap} {ad : Ad} {G : Amb} (fx : Fx P w K mg ad) : Cal P w K mg base G "_law_power" ad._law_power 1 (phi__law_power ad) := by
  obtain ⟨fd, F⟩ := fx.f__law_power
  exact ⟨⟨fd, _, fn_dl (k := 0) F sc__law_power (by decide) (p__law_power ad) (fun cdv A outer s H E hr => der__law_power fx cdv A outer s H E hr), F.bindsN fun _ _ _ _ _ _ us hl => match us, hl with | [_, _], _ => rfl⟩, fx.g__law_power, F.kp, m__law_power⟩
theorem cal__law_is_right {P : Program} {w : World} {K : PySem.W.Frag} {mg : Str → Option Value} {base : Heap} {ad : Ad} {h c : Addr} {hc : h ≠ c} {P0 : Addr} (fx : Fx P w K mg ad) : Cal P w K mg base (GG P0 h c hc) "_law_is_right" ad._law_is_right 5 (trueP h) := by
  obtain ⟨fd, F⟩ := fx.f__law_is_right
  exact ⟨⟨fd, _, fn_dl (k := 4) F sc__law_is_right (by decide) (p__law_is_right ad h) (fun cdv A outer s H E hr => der__law_is_right fx (cal__law_any fx) (by decide) (cal__law_draw fx) (by decide) (cal__law_pair fx) (by decide) (cal__law_is fx) (by decide) (cal_pair_terms fx) (by decide) (cal__law_power fx) (by decide) (cal_pair_rests fx) (by decide) (cal__law_far fx) (by decide) cdv A outer s H E hr), F.bindsN fun _ _ _ _ _ _ us hl => match us, hl with | [_], _ => rfl⟩, fx.g__law_is_right, F.kp, m_trueP⟩
theorem cal__law_are_signs_right {P : Program} {w : World} {K : PySem.W.Frag} {mg : Str → Option Value} {base : Heap} {ad : Ad} {h c : Addr} {hc : h ≠ c} {P0 : Addr} (fx : Fx P w K mg ad) : Cal P w K mg base (GG P0 h c hc) "_law_are_signs_right" ad._law_are_signs_right 5 (trueP h) := by
  obtain ⟨fd, F⟩ := fx.f__law_are_signs_right
  exact ⟨⟨fd, _, fn_dl (k := 4) F sc__law_are_signs_right (by decide) (p__law_are_signs_right ad h) (fun cdv A outer s H E hr => der__law_are_signs_right fx (cal__law_draw fx) (by decide) (cal__law_sign fx) (by decide) (cal__law_is fx) (by decide) (cal_sign_of fx) (by decide) cdv A outer s H E hr), F.bindsN fun _ _ _ _ _ _ us hl => match us, hl with | [_], _ => rfl⟩, fx.g__law_are_signs_right, F.kp, m_trueP⟩
theorem cal__law_are_terms_right {P : Program} {w : World} {K : PySem.W.Frag} {mg : Str → Option Value} {base : Heap} {ad : Ad} {h c : Addr} {hc : h ≠ c} {P0 : Addr} (fx : Fx P w K mg ad) : Cal P w K mg base (GG P0 h c hc) "_law_are_terms_right" ad._law_are_terms_right 5 (trueP h) := by
  obtain ⟨fd, F⟩ := fx.f__law_are_terms_right
  exact ⟨⟨fd, _, fn_dl (k := 4) F sc__law_are_terms_right (by decide) (p__law_are_terms_right ad h) (fun cdv A outer s H E hr => der__law_are_terms_right fx (cal__law_any fx) (by decide) (cal__law_draw fx) (by decide) (cal__law_is fx) (by decide) (cal_is_term fx) (by decide) cdv A outer s H E hr), F.bindsN fun _ _ _ _ _ _ us hl => match us, hl with | [_], _ => rfl⟩, fx.g__law_are_terms_right, F.kp, m_trueP⟩
theorem cal__law_refused_right {P : Program} {w : World} {K : PySem.W.Frag} {mg : Str → Option Value} {base : Heap}  {h c : Addr} {hc : h ≠ c} {P0 : Addr} (fx : Fx P w K mg (adK K)) (TB : LamX.TabB base mg (He.codeOf K ("_law_refused_right", none)) P0) : Cal P w K mg base (GG P0 h c hc) "_law_refused_right" (adK K)._law_refused_right 7 (trueP h) := by
  obtain ⟨fd, F⟩ := fx.f__law_refused_right
  obtain ⟨oc, od, dV, kV, doc, pm, an, ct, osl, rfl, lk, hcd⟩ := FunD.code (p := ("_law_refused_right", none)) F
  exact ⟨⟨_, _, fn_dlC (k := 6) lk hcd sc__law_refused_right (by decide) (p__law_refused_right (adK K) h) (fun A outer s H E hr => der__law_refused_right TB fx (cal__law_any fx) (by decide) (cal_pair_terms fx) (by decide) (cal_pair_rests fx) (by decide) (cal_sign_of fx) (by decide) (cal_is_term fx) (by decide) A outer s H E hr), F.bindsN fun _ _ _ _ _ _ us hl => match us, hl with | [_], _ => rfl⟩, fx.g__law_refused_right, F.kp, m_trueP⟩
def Tt (K : PySem.W.Frag) : List (Addr × PySem.Str) := TT (He.cT K ("_law_refused_right", none)).2
theorem law_ok {P : Program} {w : World} {K : PySem.W.Frag} {mg : PySem.Str → Option Value} {base : Heap} {fd : FuncData} (fx : Fx P w K mg (adK K)) (hx : ex K = true) (tb : ∀ p ∈ tf.map (He.cT K), LamX.TabB base mg p.1 p.2) (F : FunD K "law" "law" (defArgs s_law) (defBody s_law) (defScope s_law) [] [] (He.ga K "law") fd) :
    FnOk P w K mg base (L2.CX P w) 11 (He.ga K "law") fd ["script"] (lawSp K (Tt K)) := by
  obtain ⟨oc, od, dV, kV, doc, pm, an, ct, osl, rfl, lk, hcd⟩ := FunD.code (p := ("law", none)) F
  have TB0 : LamX.TabB base mg (He.codeOf K ("_law_refused_right", none)) (He.cT K ("_law_refused_right", none)).2 := tb _ (List.mem_map.mpr ⟨_, List.mem_cons_self .., rfl⟩)
  exact ok_law (k := 7) fx lk hcd (c_h := fun G a ns hs => cal__law_hand fx hs) (l_h := by decide) (r0 := r0 (adK K))
    (C_pair_terms := fun h c hc => cal_pair_terms fx) (l_pair_terms := by decide)
    (C_pair_rests := fun h c hc => cal_pair_rests fx) (l_pair_rests := by decide)
    (C_sign_of := fun h c hc => cal_sign_of fx) (l_sign_of := by decide)
    (C_is_term := fun h c hc => cal_is_term fx) (l_is_term := by decide)
    (C__law_is := fun h c hc => cal__law_is fx) (l__law_is := by decide)
    (C__law_is_right := fun h c hc => cal__law_is_right fx) (l__law_is_right := by decide)
    (C__law_are_signs_right := fun h c hc => cal__law_are_signs_right fx) (l__law_are_signs_right := by decide)
    (C__law_are_terms_right := fun h c hc => cal__law_are_terms_right fx) (l__law_are_terms_right := by decide)
    (C__law_refused_right := fun h c hc => cal__law_refused_right fx TB0) (l__law_refused_right := by decide)
    (r1 := r1 (adK K))
end Hd
open PySem PySem.W PySem.Calls PyProof.Rows
theorem PySem.Challenge.cw_nextterms_k90_whole_pairs_holds : PySem.Challenge.rw_nextterms_k90_whole_pairs.Holds := by
  w_on; o_law
  refine HandSHeadRun.head_any (r := OpenLaw.row PySem.Challenge.rw_nextterms_k90_whole_pairs) (q := view (OpenLaw.row PySem.Challenge.rw_nextterms_k90_whole_pairs).prog [36]) (H := Hd.hk) (ob := Hd.ob) (M := 4000) (loose := Hd.names) (d := HandSHeadRun.topDef (OpenLaw.row PySem.Challenge.rw_nextterms_k90_whole_pairs).prog 36) (kwd := []) Hd.ob_eq
    (by kernel_rfl) (fun s => by kernel_rfl) Hd.run (by kernel_rfl) (by kernel_rfl) (by kernel_rfl) (by rfl) (by first | assumption | decide +kernel) (by decide +kernel) ⟨rfl, rfl, rfl, rfl, rfl, by decide +kernel⟩ ?hw ?hc
  case hw => w_witness2
  case hc =>
    refine LamX.walk_ofTsE (l := PySem.Challenge.rw_nextterms_k90_whole_pairs) (n := 63) (k := 11) (x := "script") (CX := fun w => L2.CX PySem.Challenge.rw_nextterms_k90_whole_pairs.prog w) rfl (by decide) (by kernel_rfl) ⟨rfl, by decide, by decide⟩ ?F ?hCX
    case F =>
      intro w mg fa h Y G hmg0
      obtain ⟨K, KX, c⟩ := Y
      have hmg : mg ("law" : PySem.Str) = some (.ref fa) := by
        have e : (HandSHeadRun.topDef (OpenLaw.row PySem.Challenge.rw_nextterms_k90_whole_pairs).prog 36).name = ("law" : PySem.Str) := by kernel_rfl
        rw [← e]
        exact hmg0
      have e := hmg.symm.trans (He.glo_ok KX G (x := "law") (c.t.d.fact 27 (f := .glo "law") rfl))
      cases e
      obtain ⟨fd, F⟩ := c.t.d.def_ 27 (d := Hd.d_law) rfl
      have b := L2.FunD.bindsA (ps := ["script"]) F fun _ _ _ _ _ _ us hl => match us, hl with | [_], _ => rfl
      refine ⟨K, KX, fd, Hd.tf.map (He.cT K), DL.lawSp K (Hd.Tt K), fun p hp => ?_, fun p hp => ?_, fun p hp => ?_, fun s u => b s [u] rfl, fun H a ns hl _ ht hS => ⟨a, ns, rfl, hl, fun p hp => ?_, hS, fun _ => rfl⟩, fun base KB GB tb => Hd.law_ok (Hd.fx_of KB GB c) c.more tb F⟩
      · obtain ⟨q, hq, rfl⟩ := List.mem_map.mp hp
        exact c.empty q hq
      · obtain ⟨q, hq, rfl⟩ := List.mem_map.mp hp
        exact c.out q hq
      · obtain ⟨q, hq, rfl⟩ := List.mem_map.mp hp
        exact PySem.W.codeHd_of_K KX (c.hd q hq)
      · simp only [Hd.Tt, Hd.TT, List.mem_cons, List.not_mem_nil, or_false] at hp
        obtain rfl := hp
        exact LamX.TabS.nil (ht _ (List.mem_map.mpr ⟨("_law_refused_right", none), by simp [Hd.tf], rfl⟩))
    case hCX =>
      rintro w H s e s' hx
      obtain ⟨_, _, _, _, _, _, _, _, _, _, _, _, z⟩ := hx
      exact z

