import PyProof.Rows.All
import Wide.All
import OpenK.AllK
import Wide.FinOn
import HandS.ForMost
import HandS.ForExc
import HandS.Flow
import HandS.WideBits
import HandS.IsInst
import HandS.TupLe
import HandS.TupMul
import HandS.Zip
import HandS.Lambda
import HandS.ExcCtx
import HandS.HotCalls
import HandS.Defaults
import HandS.Style
import KE.KRevSl
import KE.GoesZip
import HandS.ExcIs
import HandS.Text
import HandS.HeadHook4
import HandS.HeadWalk
import HandS.EndTab
import HandS.Head2
import HandS.NestedK
import KE.IntBitsLaws
import PySem.Challenge.RW_lowbitsalone_k05_whole_polynomials
set_option Elab.async false
set_option linter.all false
set_option autoImplicit false
set_option maxRecDepth 100000
set_option maxHeartbeats 4000000
/-! HD: data as trees over the hand layer; own work. -/
namespace HD
open PySem PySem.Spec PyProof.Rows L2

/-- a lambda as it is written -/
structure Lam where
  id : Nat
  params : Arguments
  body : Expr
  scope : Scope
  qual : Str
  caps : List Str
inductive D where
  | non | bl (b : Bool) | int (i : Int) | str (x : Str) | tup (ds : List D) | lst (ds : List D) | dic (kvs : List (D × D)) | glo (x : Str)
  | own (ds : List D) | owd (kvs : List (D × D)) | clo (l : Lam) (ds : List D)

inductive R (α : Type) where
  | ok (a : α) | exc (c : Str) | bad

/-- a dict at an address, by values -/
def DicV (H : Hp) (a : Addr) (kvs : List (V × V)) : Prop := ∃ l : List (Key × V), Rd H a (.dK l) ∧ kvs = l.map fun p => (kV p.1, p.2)

/-- a lambda's function object -/
def CloO (f c' : Addr) (cl : List (Str × Addr)) (l : Lam) : HO := .ext fun h => ∃ pm ctv : Value, h.get? f = some (PySem.W.kla_obj "<lambda>" l.qual l.params l.body l.scope cl pm c' ctv)
/-- a cell that stays as it is -/
def CelO (o : Obj) : HO := .frz o (.ext fun _ => True)
/-- what a lambda has captured -/
def CapsAt (H : Hp) (T : Addr → Prop) (cl : List (Str × Addr)) : List Str → List V → Prop
  | [], [] => True
  | x :: xs, v :: vs => (∃ c o u, cl.lookup x = some c ∧ H c = some (CelO o) ∧ o.data = .cell (some u) ∧ ¬ T c ∧ RelV v u) ∧ CapsAt H T cl xs vs
  | _, _ => False
def CloOk (cl : List (Str × Addr)) (l : Lam) : Prop := (∀ y c, cl.lookup y = some c → y ∈ l.caps) ∧ ∀ x y c, cl.lookup x = some c → cl.lookup y = some c → x = y
def InCl (cl : List (Str × Addr)) : Addr → Prop := fun b => ∃ y, cl.lookup y = some b
/-- a list of the module -/
def KLst (K : PySem.W.Frag) (a : Addr) (xs : List V) : Prop := ∃ (o : Obj) (its : Array Value) (n : Nat), K.lookup a = some o ∧ o.cls = .type "list" ∧ o.dict = none ∧ o.data = .seq its n ∧ its.size ≤ sizeLine ∧ Vals xs its.toList
mutual
inductive Rp (K : PySem.W.Frag) (mg : Str → Option Value) (H : Hp) : (Addr → Prop) → V → D → Prop where
  | non {T : Addr → Prop} : Rp K mg H T .non .non
  | bl {T : Addr → Prop} (b : Bool) : Rp K mg H T (.bl b) (.bl b)
  | int {T : Addr → Prop} (i : Int) : Rp K mg H T (.int i) (.int i)
  | str {T : Addr → Prop} (x : Str) : Rp K mg H T (.str x) (.str x)
  | tup {T : Addr → Prop} {a : Addr} {xs : List V} {ds : List D} : SqT K H a xs → Rps K mg H T xs ds → Rp K mg H T (.ref a) (.tup ds)
  | lst {T : Addr → Prop} {a : Addr} {xs : List V} {ds : List D} : Rd H a (.lst xs) → ¬ T a → Rps K mg H T xs ds → Rp K mg H T (.ref a) (.lst ds)
  | lsk {T : Addr → Prop} {a : Addr} {xs : List V} {ds : List D} : KLst K a xs → Rps K mg H T xs ds → Rp K mg H T (.ref a) (.lst ds)
  | dic {T : Addr → Prop} {a : Addr} {ks : List (V × V)} {kvs : List (D × D)} : DicV H a ks → ¬ T a → Rpk K mg H T ks kvs → Rp K mg H T (.ref a) (.dic kvs)
  | glo {T : Addr → Prop} {v : V} {x : Str} {u : Value} : mg x = some u → RelV v u → Rp K mg H T v (.glo x)
  | clo {T : Addr → Prop} {f c' : Addr} {cl : List (Str × Addr)} {l : Lam} {us : List V} {ds : List D} : H f = some (CloO f c' cl l) → H c' = some (LamX.CodeO c' l.qual) → CloOk cl l → CapsAt H T cl l.caps us →
      Rps K mg H (fun b => T b ∨ InCl cl b) us ds → Rp K mg H T (.ref f) (.clo l ds)
inductive Rps (K : PySem.W.Frag) (mg : Str → Option Value) (H : Hp) : (Addr → Prop) → List V → List D → Prop where
  | nil {T : Addr → Prop} : Rps K mg H T [] []
  | cons {T : Addr → Prop} {v : V} {vs : List V} {d : D} {ds : List D} : Rp K mg H T v d → Rps K mg H T vs ds → Rps K mg H T (v :: vs) (d :: ds)
inductive Rpk (K : PySem.W.Frag) (mg : Str → Option Value) (H : Hp) : (Addr → Prop) → List (V × V) → List (D × D) → Prop where
  | nil {T : Addr → Prop} : Rpk K mg H T [] []
  | cons {T : Addr → Prop} {k v : V} {vs : List (V × V)} {kd d : D} {ds : List (D × D)} : Rp K mg H T k kd → Rp K mg H T v d → Rpk K mg H T vs ds → Rpk K mg H T ((k, v) :: vs) ((kd, d) :: ds)
end

/-- what a change at M's addresses may touch -/
def mutO : HO → Bool
  | .lst _ => true
  | .dK _ => true
  | .dT _ => true
  | .frz _ (.ext _) => true
  | _ => false
def tblO : HO → Bool
  | .tbl _ => true
  | _ => false
structure Ext (M : Addr → Prop) (H H' : Hp) : Prop where
  keep : ∀ b o, H b = some o → (M b → mutO o = false) → tblO o = false → H' b = some o
  there : ∀ b, H b ≠ none → H' b ≠ none
theorem Ext.refl (M : Addr → Prop) (H : Hp) : Ext M H H := ⟨fun _ _ h _ _ => h, fun _ h => h⟩
theorem Ext.mono {M M' : Addr → Prop} {H H' : Hp} (e : Ext M H H') (h : ∀ b, M b → M' b) : Ext M' H H' := ⟨fun b o hb hm ht => e.keep b o hb (fun m => hm (h b m)) ht, e.there⟩
theorem Ext.same {H H' : Hp} (e : Same H H') {M : Addr → Prop} : Ext M H H' := ⟨fun b o h _ _ => e b o h, fun b h => by
  cases q : H b with
  | none => exact absurd q h
  | some o => rw [e b o q]; exact fun z => nomatch z⟩
theorem Ext.gone {M : Addr → Prop} {H H' : Hp} (e : Ext M H H') {b : Addr} (h : H' b = none) : H b = none := by
  cases q : H b with
  | none => rfl
  | some o => exact absurd h (e.there b (by rw [q]; exact fun z => nomatch z))

section
variable {K : PySem.W.Frag} {mg : Str → Option Value} {H H' : Hp} {T T' : Addr → Prop}
/-- how a reading is carried over: hk keeps what is readable outside of T, ht -/
structure Carry (H : Hp) (T : Addr → Prop) (H' : Hp) (T' : Addr → Prop) : Prop where
  keep : ∀ b o, H b = some o → (T b → mutO o = false) → tblO o = false → H' b = some o
  less : ∀ b, H b ≠ none → ¬ T b → ¬ T' b
theorem Carry.rd (c : Carry H T H' T') {a : Addr} {o : HO} (h : Rd H a o) (n : ¬ T a) (ho : tblO o = false := by rfl) : Rd H' a o := by
  rcases h with h | ⟨u, h⟩
  · exact .inl (c.keep _ _ h (fun t => absurd t n) ho)
  · exact .inr ⟨u, c.keep _ _ h (fun t => absurd t n) rfl⟩
theorem Carry.plus (c : Carry H T H' T') (S : Addr → Prop) : Carry H (fun b => T b ∨ S b) H' (fun b => T' b ∨ S b) :=
  ⟨fun b o e m ht => c.keep b o e (fun t => m (.inl t)) ht, fun b h n t => t.elim (c.less b h fun z => n (.inl z)) fun z => n (.inr z)⟩
theorem Carry.caps (c : Carry H T H' T') {cl : List (Str × Addr)} : ∀ {xs : List Str} {vs : List V}, CapsAt H T cl xs vs → CapsAt H' T' cl xs vs
  | [], [], _ => trivial
  | _ :: _, _ :: _, ⟨⟨k, o, u, e1, e2, e4, n, e3⟩, r⟩ => ⟨⟨k, o, u, e1, c.keep _ _ e2 (fun t => absurd t n) rfl, e4, c.less _ (by rw [e2]; exact fun z => nomatch z) n, e3⟩, Carry.caps c r⟩
  | [], _ :: _, h => h.elim
  | _ :: _, [], h => h.elim
theorem rd_there {a : Addr} {o : HO} (h : Rd H a o) : H a ≠ none := by
  rcases h with h | ⟨u, h⟩
  · rw [h]; exact fun z => nomatch z
  · rw [h]; exact fun z => nomatch z
theorem Carry.sqT (c : Carry H T H' T') {a : Addr} {xs : List V} (h : SqT K H a xs) : SqT K H' a xs := by
  rcases h with (h | ⟨u, h⟩) | h
  · exact .inl (.inl (c.keep _ _ h (fun _ => rfl) rfl))
  · exact .inl (.inr ⟨u, c.keep _ _ h (fun _ => rfl) rfl⟩)
  · exact .inr h
theorem Carry.dicV (c : Carry H T H' T') {a : Addr} {ks : List (V × V)} (h : DicV H a ks) (n : ¬ T a) : DicV H' a ks := by
  obtain ⟨l, h1, h2⟩ := h
  exact ⟨l, c.rd h1 n, h2⟩
theorem dicV_there {a : Addr} {ks : List (V × V)} (h : DicV H a ks) : H a ≠ none := by
  obtain ⟨l, h1, h2⟩ := h
  exact rd_there h1
theorem Carry.rdE (c : Carry H T H' T') {a : Addr} {φ : Heap → Prop} (h : H a = some (.ext φ)) : H' a = some (.ext φ) := c.keep _ _ h (fun _ => rfl) rfl
mutual
theorem Rp.carry : ∀ {d : D} {v : V} {T T' : Addr → Prop}, Carry H T H' T' → Rp K mg H T v d → Rp K mg H' T' v d
  | _, _, _, _, _, .non => .non
  | _, _, _, _, _, .bl b => .bl b
  | _, _, _, _, _, .int i => .int i
  | _, _, _, _, _, .str x => .str x
  | _, _, _, _, c, .tup h r => .tup (c.sqT h) (Rps.carry c r)
  | _, _, _, _, c, .lst h n r => .lst (c.rd h n) (c.less _ (rd_there h) n) (Rps.carry c r)
  | _, _, _, _, c, .lsk h r => .lsk h (Rps.carry c r)
  | _, _, _, _, c, .dic h n r => .dic (c.dicV h n) (c.less _ (dicV_there h) n) (Rpk.carry c r)
  | _, _, _, _, _, .glo h r => .glo h r
  | _, _, _, _, c, .clo h h2 h3 k r => .clo (c.rdE h) (c.rdE h2) h3 (c.caps k) (Rps.carry (c.plus _) r)
theorem Rps.carry : ∀ {ds : List D} {vs : List V} {T T' : Addr → Prop}, Carry H T H' T' → Rps K mg H T vs ds → Rps K mg H' T' vs ds
  | _, _, _, _, _, .nil => .nil
  | _, _, _, _, c, .cons h r => .cons (Rp.carry c h) (Rps.carry c r)
theorem Rpk.carry : ∀ {ds : List (D × D)} {vs : List (V × V)} {T T' : Addr → Prop}, Carry H T H' T' → Rpk K mg H T vs ds → Rpk K mg H' T' vs ds
  | _, _, _, _, _, .nil => .nil
  | _, _, _, _, c, .cons k h r => .cons (Rp.carry c k) (Rp.carry c h) (Rpk.carry c r)
end
theorem Carry.less_of (h : ∀ b, T' b → T b) : Carry H T H T' := ⟨fun _ _ e _ _ => e, fun b _ n t => n (h b t)⟩
theorem Carry.laid {p : Addr} {o : HO} (hp : H p = none) : Carry H T (upd H p o) (fun a => T a ∨ a = p) :=
  ⟨fun b u e _ _ => by rw [upd_ne (ne_of_none e hp)]; exact e, fun b h n t => by
    rcases t with t | t
    · exact n t
    · exact h (by rw [t]; exact hp)⟩
theorem Rps.length : ∀ {ds : List D} {vs : List V}, Rps K mg H T vs ds → vs.length = ds.length
  | _, _, .nil => rfl
  | _, _, .cons _ r => by rw [List.length_cons, List.length_cons, Rps.length r]
theorem Rps.get : ∀ {ds : List D} {vs : List V} {i : Nat} {v : V}, Rps K mg H T vs ds → vs[i]? = some v → ∃ d, ds[i]? = some d ∧ Rp K mg H T v d
  | _, _, _, _, .nil, h => by simp at h
  | _, _, 0, _, .cons h _, e => by
    simp at e
    subst e
    exact ⟨_, rfl, h⟩
  | _, _, i + 1, _, .cons _ r, e => by
    obtain ⟨d, h1, h2⟩ := Rps.get (i := i) r (by simpa using e)
    exact ⟨d, by simpa using h1, h2⟩
theorem Rps.getD : ∀ {ds : List D} {vs : List V} {i : Nat} {d : D}, Rps K mg H T vs ds → ds[i]? = some d → ∃ v, vs[i]? = some v ∧ Rp K mg H T v d
  | _, _, _, _, .nil, h => by simp at h
  | _, _, 0, _, .cons h _, e => by
    simp at e
    subst e
    exact ⟨_, rfl, h⟩
  | _, _, i + 1, _, .cons _ r, e => by
    obtain ⟨d, h1, h2⟩ := Rps.getD (i := i) r (by simpa using e)
    exact ⟨d, by simpa using h1, h2⟩
theorem Rps.append : ∀ {ds es : List D} {vs us : List V}, Rps K mg H T vs ds → Rps K mg H T us es → Rps K mg H T (vs ++ us) (ds ++ es)
  | _, _, _, _, .nil, h => h
  | _, _, _, _, .cons h r, q => .cons h (Rps.append r q)
theorem Rps.set {v : V} {d : D} (h : Rp K mg H T v d) : ∀ {ds : List D} {vs : List V} (i : Nat), Rps K mg H T vs ds → Rps K mg H T (vs.set i v) (ds.set i d)
  | _, _, _, .nil => .nil
  | _, _, 0, .cons _ r => .cons h r
  | _, _, i + 1, .cons q r => .cons q (Rps.set h i r)
theorem Rps.drop : ∀ {ds : List D} {vs : List V} (i : Nat), Rps K mg H T vs ds → Rps K mg H T (vs.drop i) (ds.drop i)
  | _, _, 0, r => r
  | _, _, _ + 1, .nil => .nil
  | _, _, i + 1, .cons _ r => Rps.drop i r
theorem Rps.take : ∀ {ds : List D} {vs : List V} (i : Nat), Rps K mg H T vs ds → Rps K mg H T (vs.take i) (ds.take i)
  | _, _, 0, _ => .nil
  | _, _, _ + 1, .nil => .nil
  | _, _, i + 1, .cons h r => .cons h (Rps.take i r)
theorem Rps.reverse {ds : List D} {vs : List V} (h : Rps K mg H T vs ds) : Rps K mg H T vs.reverse ds.reverse := by
  induction ds generalizing vs with
  | nil => cases h; exact .nil
  | cons d ds ih =>
    cases h with
    | cons h r =>
      rw [List.reverse_cons, List.reverse_cons]
      exact (ih r).append (.cons h .nil)
theorem Rps.rep {ds : List D} {vs : List V} (h : Rps K mg H T vs ds) : ∀ k : Nat, Rps K mg H T (List.replicate k vs).flatten (List.replicate k ds).flatten
  | 0 => .nil
  | k + 1 => by
    rw [List.replicate_succ, List.replicate_succ, List.flatten_cons, List.flatten_cons]
    exact h.append (Rps.rep h k)
theorem Rps.ints : ∀ {ns : List Int} {vs : List V}, Rps K mg H T vs (ns.map D.int) → vs = ns.map V.int
  | [], _, .nil => rfl
  | _ :: ns, _, .cons (.int _) r => by rw [List.map_cons, Rps.ints r]
theorem Rps.of_ints : ∀ (ns : List Int), Rps K mg H T (ns.map V.int) (ns.map D.int)
  | [] => .nil
  | n :: ns => .cons (.int n) (Rps.of_ints ns)
theorem Rps.bls : ∀ {ns : List Bool} {vs : List V}, Rps K mg H T vs (ns.map D.bl) → vs = ns.map V.bl
  | [], _, .nil => rfl
  | _ :: ns, _, .cons (.bl _) r => by rw [List.map_cons, Rps.bls r]
theorem Rps.strs : ∀ {ns : List Str} {vs : List V}, Rps K mg H T vs (ns.map D.str) → vs = ns.map V.str
  | [], _, .nil => rfl
  | _ :: ns, _, .cons (.str _) r => by rw [List.map_cons, Rps.strs r]
theorem Rps.of_strs : ∀ (ns : List Str), Rps K mg H T (ns.map V.str) (ns.map D.str)
  | [] => .nil
  | n :: ns => .cons (.str n) (Rps.of_strs ns)
end

/-! ### the state -/
abbrev SD := List (Option D)
abbrev SV := L2.St
def isOwn : D → Bool
  | .own _ => true
  | .owd _ => true
  | _ => false
/-- none: no table changes; some T: these tables may grow, and stay what they are -/
abbrev Tix := Option (List (Addr × Str))
structure WT where
  w : WX
  tb : Tix
def TInv (Θ : Tix) (He H : Hp) : Prop := match Θ with
  | none => ∀ b ps, He b = some (.tbl ps) → H b = some (.tbl ps)
  | some T => LamX.Tabs T H
structure Amb (Θ : Tix) where
  T0 : Addr → Prop
  He : Hp
  io : Option Addr
/-- all but lists and dicts at M's addresses stay -/
theorem TInv.keep {Θ : Tix} {He H H' : Hp} (M : Addr → Prop) (hM : ∀ b, M b → ∃ o, H b = some o ∧ ((∃ xs, o = .lst xs) ∨ ∃ l, o = .dK l)) (k : ∀ b o, H b = some o → ¬ M b → H' b = some o) (h : TInv Θ He H) : TInv Θ He H' := by
  have k2 : ∀ b o, H b = some o → (∀ xs, o ≠ .lst xs) → (∀ l, o ≠ .dK l) → H' b = some o := fun b o e n1 n2 => k b o e fun m => by
    obtain ⟨u, e2, z⟩ := hM b m
    rw [e] at e2
    cases e2
    rcases z with ⟨xs, z⟩ | ⟨l, z⟩
    · exact n1 xs z
    · exact n2 l z
  cases Θ with
  | none => exact fun b ps e => k2 b _ (h b ps e) (fun _ z => nomatch z) (fun _ z => nomatch z)
  | some T =>
    intro p hp
    obtain ⟨ps, h1, h2, h3⟩ := h p hp
    refine ⟨ps, k2 _ _ h1 (fun _ z => nomatch z) (fun _ z => nomatch z), h2, fun pos cv hc => ?_⟩
    obtain ⟨c, e1, e2⟩ := h3 pos cv hc
    exact ⟨c, e1, k2 _ _ e2 (fun _ z => nomatch z) (fun _ z => nomatch z)⟩
theorem TInv.same {Θ : Tix} {He H H' : Hp} (s : Same H H') (h : TInv Θ He H) : TInv Θ He H' := h.keep (fun _ => False) (fun _ z => z.elim) fun b o e _ => s b o e
def OwnAt (σ : SV) (sd : SD) (i : Nat) (a : Addr) : Prop := σ[i]? = some (some (.ref a)) ∧ ∃ d, sd[i]? = some (some d) ∧ isOwn d = true
def Own (σ : SV) (sd : SD) (a : Addr) : Prop := ∃ i, OwnAt σ sd i a
def Tof {Θ : Tix} (B : Amb Θ) (σ : SV) (sd : SD) : Addr → Prop := fun a => B.T0 a ∨ Own σ sd a
inductive SlotR (K : PySem.W.Frag) (mg : Str → Option Value) {Θ : Tix} (B : Amb Θ) (H : Hp) (T : Addr → Prop) : V → D → Prop where
  | val {v : V} {d : D} : isOwn d = false → Rp K mg H T v d → SlotR K mg B H T v d
  | own {a : Addr} {xs : List V} {ds : List D} : H a = some (.lst xs) → Rps K mg H T xs ds → ¬ B.T0 a → (B.He a = none ∨ B.io = some a) → SlotR K mg B H T (.ref a) (.own ds)
  | owd {a : Addr} {l : List (Key × V)} {kvs : List (D × D)} : H a = some (.dK l) → Rpk K mg H T (l.map fun p => (kV p.1, p.2)) kvs → ¬ B.T0 a → (B.He a = none ∨ B.io = some a) → SlotR K mg B H T (.ref a) (.owd kvs)
structure Rel (K : PySem.W.Frag) (mg : Str → Option Value) {Θ : Tix} (B : Amb Θ) (σ : SV) (H : Hp) (sd : SD) : Prop where
  len : sd.length = σ.length
  slots : ∀ (i : Nat) (d : D), sd[i]? = some (some d) → ∃ v, σ[i]? = some (some v) ∧ SlotR K mg B H (Tof B σ sd) v d
  inj : ∀ (i j : Nat) (a : Addr), OwnAt σ sd i a → OwnAt σ sd j a → i = j
  t0 : ∀ a, B.T0 a → H a ≠ none
  ent : Ext (fun b => B.io = some b) B.He H
  io : ∀ a, B.io = some a → OwnAt σ sd 0 a
  inv : TInv Θ B.He H
/-- a step of a def's body -/
structure Stp (K : PySem.W.Frag) (mg : Str → Option Value) {Θ : Tix} (B : Amb Θ) (σ : SV) (sd : SD) (H : Hp) (σ' : SV) (sd' : SD) (H' : Hp) : Prop where
  rel : Rel K mg B σ' H' sd'
  ext : Ext (Own σ sd) H H'
  own : ∀ a, Own σ' sd' a → Own σ sd a ∨ H a = none
section
variable {K : PySem.W.Frag} {mg : Str → Option Value} {Θ : Tix} {B : Amb Θ} {σ σ' σ2 : SV} {sd sd' sd2 : SD} {H H' H2 : Hp}
theorem Rel.ownObj (r : Rel K mg B σ H sd) {a : Addr} (h : Own σ sd a) : ∃ o, H a = some o ∧ ((∃ xs, o = .lst xs) ∨ ∃ l, o = .dK l) := by
  obtain ⟨i, h1, d, h2, h3⟩ := h
  obtain ⟨v, e, s⟩ := r.slots i d h2
  rw [h1] at e
  cases e
  cases s with
  | val n _ => rw [h3] at n; cases n
  | own e1 _ _ _ => exact ⟨_, e1, .inl ⟨_, rfl⟩⟩
  | owd e1 _ _ _ => exact ⟨_, e1, .inr ⟨_, rfl⟩⟩
theorem Rel.ownT0 (r : Rel K mg B σ H sd) {a : Addr} (h : Own σ sd a) : ¬ B.T0 a ∧ (B.He a = none ∨ B.io = some a) := by
  obtain ⟨i, h1, d, h2, h3⟩ := h
  obtain ⟨v, e, s⟩ := r.slots i d h2
  rw [h1] at e
  cases e
  cases s with
  | val n _ => rw [h3] at n; cases n
  | own _ _ e1 e2 => exact ⟨e1, e2⟩
  | owd _ _ e1 e2 => exact ⟨e1, e2⟩
theorem Stp.refl (r : Rel K mg B σ H sd) : Stp K mg B σ sd H σ sd H := ⟨r, Ext.refl _ _, fun _ h => .inl h⟩
theorem Stp.trans (a : Stp K mg B σ sd H σ' sd' H') (b : Stp K mg B σ' sd' H' σ2 sd2 H2) : Stp K mg B σ sd H σ2 sd2 H2 := by
  refine ⟨b.rel, ⟨fun x o e hm ht => ?_, fun x h => b.ext.there x (a.ext.there x h)⟩, fun x h => ?_⟩
  · refine b.ext.keep x o (a.ext.keep x o e hm ‹_›) (fun hm' => ?_) ‹_›
    rcases a.own x hm' with z | z
    · exact hm z
    · rw [z] at e; cases e
  · rcases b.own x h with z | z
    · exact a.own x z
    · exact .inr (a.ext.gone z)
theorem Stp.carry (a : Stp K mg B σ sd H σ' sd' H') : Carry H (Tof B σ sd) H' (Tof B σ' sd') :=
  ⟨fun b o e hm ht => a.ext.keep b o e (fun m => hm (.inr m)) ht, fun b h n t => by
    rcases t with t | t
    · exact n (.inl t)
    · rcases a.own b t with z | z
      · exact n (.inr z)
      · exact h z⟩
theorem OwnAt.set {i j : Nat} {a : Addr} {v : V} {d : D} (h : OwnAt (σ.set i (some v)) (sd.set i (some d)) j a) : (j = i ∧ v = .ref a ∧ isOwn d = true) ∨ (j ≠ i ∧ OwnAt σ sd j a) := by
  obtain ⟨h1, e, h2, h3⟩ := h
  by_cases q : i = j
  · subst q
    left
    have l1 : i < (σ.set i (some v)).length := by
      rcases Nat.lt_or_ge i (σ.set i (some v)).length with z | z
      · exact z
      · rw [List.getElem?_eq_none z] at h1; cases h1
    have l2 : i < (sd.set i (some d)).length := by
      rcases Nat.lt_or_ge i (sd.set i (some d)).length with z | z
      · exact z
      · rw [List.getElem?_eq_none z] at h2; cases h2
    rw [List.length_set] at l1 l2
    rw [List.getElem?_set_self l1] at h1
    rw [List.getElem?_set_self l2] at h2
    cases h1
    cases h2
    exact ⟨rfl, rfl, h3⟩
  · right
    rw [List.getElem?_set_ne q] at h1 h2
    exact ⟨fun z => q z.symm, h1, e, h2, h3⟩
theorem OwnAt.unset {i j : Nat} {a : Addr} {v : V} {d : D} (h : OwnAt σ sd j a) (q : j ≠ i) : OwnAt (σ.set i (some v)) (sd.set i (some d)) j a := by
  obtain ⟨h1, e, h2, h3⟩ := h
  refine ⟨?_, e, ?_, h3⟩
  · rw [List.getElem?_set_ne (Ne.symm q)]; exact h1
  · rw [List.getElem?_set_ne (Ne.symm q)]; exact h2
theorem SlotR.carry {T T' : Addr → Prop} {v : V} {d : D} (c : Carry H T H' T') (k : ∀ a o, v = .ref a → isOwn d = true → H a = some o → H' a = some o) (s : SlotR K mg B H T v d) : SlotR K mg B H' T' v d := by
  cases s with
  | val n r => exact .val n (r.carry c)
  | own e r n q => exact .own (k _ _ rfl rfl e) (r.carry c) n q
  | owd e r n q => exact .owd (k _ _ rfl rfl e) (r.carry c) n q
/-- slot 0 is not the list that is handed in and out -/
def free0 (i : Nat) (sd : SD) : Bool := match i with
  | 0 => (match sd[0]? with
    | some (some d) => !isOwn d
    | _ => true)
  | _ => true
theorem free0_io (r : Rel K mg B σ H sd) {i : Nat} (h : free0 i sd = true) {a : Addr} (e : B.io = some a) : i ≠ 0 := fun z => by
  subst z
  obtain ⟨h1, d, h2, h3⟩ := r.io a e
  unfold free0 at h
  rw [h2] at h
  simp only [h3] at h
  cases h
/-- a plain value goes to a slot -/
theorem Rel.set (r : Rel K mg B σ H sd) {i : Nat} {v : V} {d : D} (hi : i < σ.length) (hd : isOwn d = false) (rv : Rp K mg H (Tof B σ sd) v d) (h0 : free0 i sd = true) :
    Stp K mg B σ sd H (σ.set i (some v)) (sd.set i (some d)) H := by
  have sub : ∀ a, Own (σ.set i (some v)) (sd.set i (some d)) a → Own σ sd a := fun a ⟨j, h⟩ => by
    rcases h.set with ⟨_, _, z⟩ | ⟨_, z⟩
    · rw [hd] at z; cases z
    · exact ⟨j, z⟩
  have c : Carry H (Tof B σ sd) H (Tof B (σ.set i (some v)) (sd.set i (some d))) := Carry.less_of fun b t => t.elim .inl fun t => .inr (sub b t)
  refine ⟨⟨by rw [List.length_set, List.length_set]; exact r.len, fun j e hj => ?_, fun j k a h1 h2 => ?_, r.t0, r.ent, fun a e => ?_, r.inv⟩, Ext.refl _ _, fun a h => .inl (sub a h)⟩
  · by_cases q : i = j
    · subst q
      rw [List.getElem?_set_self (by rw [r.len]; exact hi)] at hj
      cases hj
      exact ⟨v, List.getElem?_set_self hi, .val hd (rv.carry c)⟩
    · rw [List.getElem?_set_ne q] at hj
      obtain ⟨w, h1, h2⟩ := r.slots j e hj
      exact ⟨w, by rw [List.getElem?_set_ne q]; exact h1, h2.carry c fun _ _ _ _ z => z⟩
  · rcases h1.set with ⟨_, _, z⟩ | ⟨_, z1⟩
    · rw [hd] at z; cases z
    · rcases h2.set with ⟨_, _, z⟩ | ⟨_, z2⟩
      · rw [hd] at z; cases z
      · exact r.inj j k a z1 z2
  · exact (r.io a e).unset fun z => free0_io r h0 e z.symm
end
end HD

set_option Elab.async false
set_option linter.all false
set_option autoImplicit false
set_option maxRecDepth 100000
set_option maxHeartbeats 4000000
namespace HD
open PySem PySem.Spec PyProof.Rows L2
abbrev ME := SD → R (D × SD)
abbrev MF := SD → R (List D × SD)
/-- as Rp, but the outermost list may be one that is held for a change -/
inductive Rq (K : PySem.W.Frag) (mg : Str → Option Value) (H : Hp) (T : Addr → Prop) : V → D → Prop where
  | val {v : V} {d : D} : Rp K mg H T v d → Rq K mg H T v d
  | lst {a : Addr} {xs : List V} {ds : List D} : Rd H a (.lst xs) → Rps K mg H T xs ds → Rq K mg H T (.ref a) (.lst ds)
  | dic {a : Addr} {ks : List (V × V)} {kvs : List (D × D)} : DicV H a ks → Rpk K mg H T ks kvs → Rq K mg H T (.ref a) (.dic kvs)
section
variable {K : PySem.W.Frag} {mg : Str → Option Value} {Θ : Tix} {B : Amb Θ} {σ σ' σ2 : SV} {sd sd' sd2 : SD} {H H' H2 : Hp} {T T' : Addr → Prop}
theorem Rd.same {a : Addr} {o : HO} (s : Same H H') (h : Rd H a o) : Rd H' a o := by
  rcases h with h | ⟨u, h⟩
  · exact .inl (s _ _ h)
  · exact .inr ⟨u, s _ _ h⟩
theorem Rq.same (s : Same H H') (st : Stp K mg B σ sd H σ' sd' H') {v : V} {d : D} (h : Rq K mg H (Tof B σ sd) v d) : Rq K mg H' (Tof B σ' sd') v d := by
  cases h with
  | val r => exact .val (r.carry st.carry)
  | lst h r => exact .lst (Rd.same s h) (r.carry st.carry)
  | dic h r =>
    obtain ⟨l, h1, h2⟩ := h
    exact .dic ⟨l, Rd.same s h1, h2⟩ (r.carry st.carry)
/-- the ambient with one more address that nothing may reach -/
def Amb.plus {Θ : Tix} (B : Amb Θ) (p : Addr) : Amb Θ := { B with T0 := fun a => B.T0 a ∨ a = p }
theorem same_laid {p : Addr} {o : HO} (h : H p = none) : Same H (upd H p o) := fun b u e => by rw [upd_ne (ne_of_none e h)]; exact e
theorem Rel.laid (r : Rel K mg B σ H sd) {p : Addr} {o : HO} (hp : H p = none) : Rel K mg (B.plus p) σ (upd H p o) sd := by
  have c : Carry H (Tof B σ sd) (upd H p o) (Tof (B.plus p) σ sd) := ⟨fun b u e _ _ => same_laid hp b u e, fun b h n t => by
    rcases t with (t | t) | t
    · exact n (.inl t)
    · exact h (by rw [t]; exact hp)
    · exact n (.inr t)⟩
  refine ⟨r.len, fun i d h => ?_, r.inj, fun a h => ?_, ⟨fun b u e hm ht => ?_, fun b h => ?_⟩, r.io, ?_⟩
  · obtain ⟨v, h1, h2⟩ := r.slots i d h
    refine ⟨v, h1, ?_⟩
    cases h2 with
    | val n q => exact .val n (q.carry c)
    | own e q n z => exact .own (same_laid hp _ _ e) (q.carry c) (fun t => t.elim n fun t => by rw [t, hp] at e; cases e) z
    | owd e q n z => exact .owd (same_laid hp _ _ e) (q.carry c) (fun t => t.elim n fun t => by rw [t, hp] at e; cases e) z
  · rcases h with h | h
    · intro z
      have z2 := r.t0 a h
      cases q : H a with
      | none => exact z2 q
      | some u => rw [same_laid hp a u q] at z; cases z
    · rw [h, upd_same]
      exact fun z => nomatch z
  · exact same_laid hp b u (r.ent.keep b u e hm ht)
  · have z2 := r.ent.there b h
    cases q : H b with
    | none => exact absurd q z2
    | some u => rw [same_laid hp b u q]; exact fun z => nomatch z
  · exact r.inv.same (same_laid hp)
theorem Rel.unplus {p : Addr} (r : Rel K mg (B.plus p) σ H sd) : Rel K mg B σ H sd := by
  have c : Carry H (Tof (B.plus p) σ sd) H (Tof B σ sd) := Carry.less_of fun b t => t.elim (fun t => .inl (.inl t)) .inr
  refine ⟨r.len, fun i d h => ?_, r.inj, fun a h => r.t0 a (.inl h), r.ent, r.io, r.inv⟩
  obtain ⟨v, h1, h2⟩ := r.slots i d h
  refine ⟨v, h1, ?_⟩
  cases h2 with
  | val n q => exact .val n (q.carry c)
  | own e q n z => exact .own e (q.carry c) (fun t => n (.inl t)) z
  | owd e q n z => exact .owd e (q.carry c) (fun t => n (.inl t)) z
theorem Stp.laid (r : Rel K mg B σ H sd) {p : Addr} {o : HO} (hp : H p = none) : Stp K mg B σ sd H σ sd (upd H p o) :=
  ⟨(r.laid hp).unplus, Ext.same (same_laid hp), fun _ h => .inl h⟩
/-- a new list is a plain value -/
theorem rp_new (r : Rel K mg B σ H sd) {p : Addr} {xs : List V} {ds : List D} (hp : H p = none) (h : Rps K mg H (Tof B σ sd) xs ds) : Rp K mg (upd H p (.lst xs)) (Tof B σ sd) (.ref p) (.lst ds) := by
  refine .lst (.inl upd_same) (fun t => ?_) (h.carry (Stp.laid (o := .lst xs) r hp).carry)
  rcases t with t | t
  · exact r.t0 p t hp
  · obtain ⟨o, e, _⟩ := r.ownObj t
    rw [hp] at e
    cases e
theorem rp_tup (r : Rel K mg B σ H sd) {p : Addr} {xs : List V} {ds : List D} (hp : H p = none) (h : Rps K mg H (Tof B σ sd) xs ds) : Rp K mg (upd H p (.tup xs)) (Tof B σ sd) (.ref p) (.tup ds) :=
  .tup (.inl (.inl upd_same)) (h.carry (Stp.laid (o := .tup xs) r hp).carry)
end
/-- a new list at p, known to nobody -/
structure Fresh (K : PySem.W.Frag) (mg : Str → Option Value) {Θ : Tix} (B : Amb Θ) (σ : SV) (sd : SD) (H : Hp) (σ' : SV) (sd' : SD) (H' : Hp) (p : Addr) (xs : List V) (ds : List D) : Prop where
  st : Stp K mg B σ sd H σ' sd' H'
  new : H p = none
  at_ : H' p = some (.lst xs)
  rel : Rel K mg (B.plus p) σ' H' sd'
  rp : Rps K mg H' (Tof (B.plus p) σ' sd') xs ds
section
variable {K : PySem.W.Frag} {mg : Str → Option Value} {Θ : Tix} {B : Amb Θ} {σ σ' σ2 : SV} {sd sd' sd2 : SD} {H H' H2 : Hp} {p : Addr} {xs : List V} {ds : List D}
theorem Fresh.laid (s : Stp K mg B σ sd H σ' sd' H') (hp : H' p = none) (h : Rps K mg H' (Tof B σ' sd') xs ds) : Fresh K mg B σ sd H σ' sd' (upd H' p (.lst xs)) p xs ds := by
  refine ⟨s.trans (Stp.laid s.rel hp), s.ext.gone hp, upd_same, s.rel.laid hp, ?_⟩
  refine h.carry ⟨fun b u e _ _ => same_laid hp b u e, fun b h n t => ?_⟩
  rcases t with (t | t) | t
  · exact n (.inl t)
  · exact h (by rw [t]; exact hp)
  · exact n (.inr t)
theorem Fresh.later (s : Stp K mg B σ sd H σ' sd' H') (f : Fresh K mg B σ' sd' H' σ2 sd2 H2 p xs ds) : Fresh K mg B σ sd H σ2 sd2 H2 p xs ds := ⟨s.trans f.st, s.ext.gone f.new, f.at_, f.rel, f.rp⟩
theorem Fresh.not (r : Rel K mg B σ H sd) (f : Fresh K mg B σ sd H σ' sd' H' p xs ds) : ¬ Tof B σ' sd' p := fun t => by
  rcases t with t | t
  · exact r.t0 p t f.new
  · exact (f.rel.ownT0 t).1 (.inr rfl)
theorem Fresh.less (f : Fresh K mg B σ sd H σ' sd' H' p xs ds) : Rps K mg H' (Tof B σ' sd') xs ds := f.rp.carry (Carry.less_of fun b t => t.elim (fun t => .inl (.inl t)) .inr)
theorem Fresh.val (r : Rel K mg B σ H sd) (f : Fresh K mg B σ sd H σ' sd' H' p xs ds) : Rp K mg H' (Tof B σ' sd') (.ref p) (.lst ds) := .lst (.inl f.at_) (f.not r) f.less
end
/-! ### what an evaluation leaves -/
section
variable (K : PySem.W.Frag) (mg : Str → Option Value) {Θ : Tix} (B : Amb Θ) (σ : SV) (sd : SD) (H : Hp) (W : WT)
/-- an exception of the class named c -/
def AftX (c : Str) : Prop := ∀ H' sd', Stp K mg B σ sd H σ sd' H' → ∀ C : Addr, mg c = some (.ref C) → W.w (.ref C) none σ H'
def AftE (q : Bool) (Q : VK) : R (D × SD) → Prop
  | .ok (d, sd') => ∀ v H', Stp K mg B σ sd H σ sd' H' → (q = true → Same H H') → Rp K mg H' (Tof B σ sd') v d → Q v H'
  | .exc c => AftX K mg B σ sd H W c
  | .bad => False
def AftP (q : Bool) (Q : VK) : R (D × SD) → Prop
  | .ok (d, sd') => ∀ v H', Stp K mg B σ sd H σ sd' H' → (q = true → Same H H') → Rq K mg H' (Tof B σ sd') v d → Q v H'
  | .exc c => AftX K mg B σ sd H W c
  | .bad => False
def AftF (q : Bool) (Q : VK) : R (List D × SD) → Prop
  | .ok (ds, sd') => ∀ p xs H', Fresh K mg B σ sd H σ sd' H' p xs ds → (q = true → Same H H') → Q (.ref p) H'
  | .exc c => AftX K mg B σ sd H W c
  | .bad => False
def AftT (q : Bool) (Q : Bool → Hp → Prop) : R (Bool × SD) → Prop
  | .ok (b, sd') => ∀ H', Stp K mg B σ sd H σ sd' H' → (q = true → Same H H') → Q b H'
  | .exc c => AftX K mg B σ sd H W c
  | .bad => False
def AftA (q : Bool) (Q : List V → Hp → Prop) : R (List D × SD) → Prop
  | .ok (ds, sd') => ∀ vs H', Stp K mg B σ sd H σ sd' H' → (q = true → Same H H') → Rps K mg H' (Tof B σ sd') vs ds → Q vs H'
  | .exc c => AftX K mg B σ sd H W c
  | .bad => False
end
section
variable (X : Cx) (W : WT) (q : Bool)
def tD (m : ME) : TE := fun σ H Q => ∃ (B : Amb W.tb) (sd : SD), Rel X.K X.mg B σ H sd ∧ AftE X.K X.mg B σ sd H W q Q (m sd)
def tP (m : ME) : TE := fun σ H Q => ∃ (B : Amb W.tb) (sd : SD), Rel X.K X.mg B σ H sd ∧ AftP X.K X.mg B σ sd H W q Q (m sd)
def tF (m : MF) : TE := fun σ H Q => ∃ (B : Amb W.tb) (sd : SD), Rel X.K X.mg B σ H sd ∧ AftF X.K X.mg B σ sd H W q Q (m sd)
def tT (m : SD → R (Bool × SD)) : TT := fun σ H Q => ∃ (B : Amb W.tb) (sd : SD), Rel X.K X.mg B σ H sd ∧ AftT X.K X.mg B σ sd H W q Q (m sd)
def tA (m : MF) : TA := fun σ H Q => ∃ (B : Amb W.tb) (sd : SD), Rel X.K X.mg B σ H sd ∧ AftA X.K X.mg B σ sd H W q Q (m sd)
abbrev DE (e : Expr) (m : ME) : Prop := PE X e (tD X W q m)
abbrev DP (e : Expr) (m : ME) : Prop := PE X e (tP X W q m)
abbrev DF (e : Expr) (m : MF) : Prop := PE X e (tF X W q m)
abbrev DT (e : Expr) (m : SD → R (Bool × SD)) : Prop := PT X e (tT X W q m)
abbrev DW (e : Expr) (m : SD → R (Bool × SD)) : Prop := PW X e (tT X W q m)
abbrev DA (es : List Expr) (m : MF) : Prop := PA X es (tA X W q m)
end
theorem pe_imp {X : Cx} {e : Expr} {t t' : TE} (h : PE X e t) (i : ∀ σ H Q, t' σ H Q → t σ H Q) : PE X e t' := ⟨fun pins s σ H Q I z => h.run pins s σ H Q I (i _ _ _ z)⟩
theorem pt_imp {X : Cx} {e : Expr} {t t' : TT} (h : PT X e t) (i : ∀ σ H Q, t' σ H Q → t σ H Q) : PT X e t' := ⟨fun pins s σ H Q I z => h.run pins s σ H Q I (i _ _ _ z)⟩
theorem pw_imp {X : Cx} {e : Expr} {t t' : TT} (h : PW X e t) (i : ∀ σ H Q, t' σ H Q → t σ H Q) : PW X e t' := ⟨fun wh pins s σ H Q I z => h.run wh pins s σ H Q I (i _ _ _ z)⟩
theorem pa_imp {X : Cx} {es : List Expr} {t t' : TA} (h : PA X es t) (i : ∀ σ H Q, t' σ H Q → t σ H Q) : PA X es t' := ⟨fun p pins s σ H Q I z => h.run p pins s σ H Q I (i _ _ _ z)⟩
theorem ps_imp {X : Cx} {st : Stmt} {t t' : TS} (h : PS X st t) (i : ∀ D σ H, t' D σ H → t D σ H) : PS X st t' := ⟨fun pins s σ H D I z => h.run pins s σ H D I (i _ _ _ z)⟩
theorem pss_imp {X : Cx} {st : List Stmt} {t t' : TS} (h : PSs X st t) (i : ∀ D σ H, t' D σ H → t D σ H) : PSs X st t' := ⟨fun pins s σ H D I z => h.run pins s σ H D I (i _ _ _ z)⟩
/-- one after another -/
def mB {α β : Type} (m : SD → R (α × SD)) (k : α → SD → R (β × SD)) : SD → R (β × SD) := fun sd => match m sd with
  | .ok (a, s) => k a s
  | .exc c => .exc c
  | .bad => .bad
def mR {α : Type} (a : α) : SD → R (α × SD) := fun sd => .ok (a, sd)
def mO {α : Type} (o : Option α) : SD → R (α × SD) := fun sd => match o with
  | some a => .ok (a, sd)
  | none => .bad
section
variable {X : Cx} {W : WT} {q q1 q2 : Bool} {B : Amb W.tb} {σ : SV} {sd sd1 : SD} {H H1 : Hp} {Q Q' : VK}
theorem AftX.later {K : PySem.W.Frag} {mg : Str → Option Value} {c : Str} (s : Stp K mg B σ sd H σ sd1 H1) (h : AftX K mg B σ sd H W c) : AftX K mg B σ sd1 H1 W c := fun H' sd' st C e => h H' sd' (s.trans st) C e
theorem same_and (h1 : q1 = true → Same H H1) {H2 : Hp} (h2 : q2 = true → Same H1 H2) : (q1 && q2) = true → Same H H2 := fun e => by
  rw [Bool.and_eq_true] at e
  exact (h1 e.1).trans (h2 e.2)
/-- the first part of a value -/
theorem bindE {β : Type} {m : ME} {k : D → SD → R (β × SD)} (r : Rel X.K X.mg B σ H sd) (hx : ∀ c, mB m k sd = .exc c → AftX X.K X.mg B σ sd H W c) (hb : mB m k sd ≠ .bad)
    (h : ∀ v H1 d sd1, m sd = .ok (d, sd1) → Stp X.K X.mg B σ sd H σ sd1 H1 → (q = true → Same H H1) → Rp X.K X.mg H1 (Tof B σ sd1) v d → Q v H1) : tD X W q m σ H Q := by
  refine ⟨B, sd, r, ?_⟩
  unfold mB at hx hb
  cases e : m sd with
  | ok p =>
    obtain ⟨d, sd1⟩ := p
    exact fun v H' st sm rp => h v H' d sd1 e st sm rp
  | exc c => rw [e] at hx; exact hx c rfl
  | bad => rw [e] at hb; exact hb rfl
theorem bindP {β : Type} {m : ME} {k : D → SD → R (β × SD)} (r : Rel X.K X.mg B σ H sd) (hx : ∀ c, mB m k sd = .exc c → AftX X.K X.mg B σ sd H W c) (hb : mB m k sd ≠ .bad)
    (h : ∀ v H1 d sd1, m sd = .ok (d, sd1) → Stp X.K X.mg B σ sd H σ sd1 H1 → (q = true → Same H H1) → Rq X.K X.mg H1 (Tof B σ sd1) v d → Q v H1) : tP X W q m σ H Q := by
  refine ⟨B, sd, r, ?_⟩
  unfold mB at hx hb
  cases e : m sd with
  | ok p =>
    obtain ⟨d, sd1⟩ := p
    exact fun v H' st sm rp => h v H' d sd1 e st sm rp
  | exc c => rw [e] at hx; exact hx c rfl
  | bad => rw [e] at hb; exact hb rfl
theorem bindT {β : Type} {m : SD → R (Bool × SD)} {k : Bool → SD → R (β × SD)} {Q : Bool → Hp → Prop} (r : Rel X.K X.mg B σ H sd) (hx : ∀ c, mB m k sd = .exc c → AftX X.K X.mg B σ sd H W c) (hb : mB m k sd ≠ .bad)
    (h : ∀ H1 d sd1, m sd = .ok (d, sd1) → Stp X.K X.mg B σ sd H σ sd1 H1 → (q = true → Same H H1) → Q d H1) : tT X W q m σ H Q := by
  refine ⟨B, sd, r, ?_⟩
  unfold mB at hx hb
  cases e : m sd with
  | ok p =>
    obtain ⟨d, sd1⟩ := p
    exact fun H' st sm => h H' d sd1 e st sm
  | exc c => rw [e] at hx; exact hx c rfl
  | bad => rw [e] at hb; exact hb rfl
theorem bindA {β : Type} {m : MF} {k : List D → SD → R (β × SD)} {Q : List V → Hp → Prop} (r : Rel X.K X.mg B σ H sd) (hx : ∀ c, mB m k sd = .exc c → AftX X.K X.mg B σ sd H W c) (hb : mB m k sd ≠ .bad)
    (h : ∀ v H1 d sd1, m sd = .ok (d, sd1) → Stp X.K X.mg B σ sd H σ sd1 H1 → (q = true → Same H H1) → Rps X.K X.mg H1 (Tof B σ sd1) v d → Q v H1) : tA X W q m σ H Q := by
  refine ⟨B, sd, r, ?_⟩
  unfold mB at hx hb
  cases e : m sd with
  | ok p =>
    obtain ⟨d, sd1⟩ := p
    exact fun v H' st sm rp => h v H' d sd1 e st sm rp
  | exc c => rw [e] at hx; exact hx c rfl
  | bad => rw [e] at hb; exact hb rfl
theorem mB_ok {α β : Type} {m : SD → R (α × SD)} {k : α → SD → R (β × SD)} {a : α} {s : SD} (e : m sd = .ok (a, s)) : mB m k sd = k a s := by
  unfold mB
  rw [e]
/-- what is asked of a whole's end gives what its parts need -/
theorem AftE.parts {r : R (D × SD)} (h : AftE X.K X.mg B σ sd H W q Q r) : (∀ c, r = .exc c → AftX X.K X.mg B σ sd H W c) ∧ r ≠ .bad := by
  cases r with
  | ok p => exact ⟨fun c z => (nomatch z), fun z => (nomatch z)⟩
  | exc c => exact ⟨fun c z => (by cases z; exact h), fun z => (nomatch z)⟩
  | bad => exact h.elim
theorem AftP.parts {r : R (D × SD)} (h : AftP X.K X.mg B σ sd H W q Q r) : (∀ c, r = .exc c → AftX X.K X.mg B σ sd H W c) ∧ r ≠ .bad := by
  cases r with
  | ok p => exact ⟨fun c z => (nomatch z), fun z => (nomatch z)⟩
  | exc c => exact ⟨fun c z => (by cases z; exact h), fun z => (nomatch z)⟩
  | bad => exact h.elim
theorem AftF.parts {r : R (List D × SD)} (h : AftF X.K X.mg B σ sd H W q Q r) : (∀ c, r = .exc c → AftX X.K X.mg B σ sd H W c) ∧ r ≠ .bad := by
  cases r with
  | ok p => exact ⟨fun c z => (nomatch z), fun z => (nomatch z)⟩
  | exc c => exact ⟨fun c z => (by cases z; exact h), fun z => (nomatch z)⟩
  | bad => exact h.elim
theorem AftA.parts {r : R (List D × SD)} {Q : List V → Hp → Prop} (h : AftA X.K X.mg B σ sd H W q Q r) : (∀ c, r = .exc c → AftX X.K X.mg B σ sd H W c) ∧ r ≠ .bad := by
  cases r with
  | ok p => exact ⟨fun c z => (nomatch z), fun z => (nomatch z)⟩
  | exc c => exact ⟨fun c z => (by cases z; exact h), fun z => (nomatch z)⟩
  | bad => exact h.elim
theorem AftT.parts {r : R (Bool × SD)} {Q : Bool → Hp → Prop} (h : AftT X.K X.mg B σ sd H W q Q r) : (∀ c, r = .exc c → AftX X.K X.mg B σ sd H W c) ∧ r ≠ .bad := by
  cases r with
  | ok p => exact ⟨fun c z => (nomatch z), fun z => (nomatch z)⟩
  | exc c => exact ⟨fun c z => (by cases z; exact h), fun z => (nomatch z)⟩
  | bad => exact h.elim
end
/-! ### the simplest expressions -/
def mVar (i : Nat) : ME := fun sd => match sd[i]? with
  | some (some d) => if isOwn d = true then .bad else .ok (d, sd)
  | _ => .bad
def unOwn : D → D
  | .own ds => .lst ds
  | .owd ks => .dic ks
  | d => d
def mPeek (i : Nat) : ME := fun sd => match sd[i]? with
  | some (some d) => .ok (unOwn d, sd)
  | _ => .bad
def mC (d : D) : ME := fun sd => .ok (d, sd)
section
variable {X : Cx} {W : WT} {q q1 q2 : Bool} {e a b c : Expr} {es : List Expr} {pos : Pos} {m ma mb : ME}
theorem de_var (i : Nat) {x : Str} {pos : Pos} (hN : X.N[i]? = some x := by rfl) (hv : Vis X.env.scope x := by first | exact Or.inl rfl | exact Or.inr (Or.inl rfl) | exact Or.inr (Or.inr rfl)) (hd : (x == ("__debug__" : Str)) = false := by decide)
    (hcd : (x == ("__classdict__" : Str)) = false := by decide) : DE X W true (.Name x pos) (mVar i) := by
  refine pe_imp (pv i hN hv hd hcd) fun σ H Q ⟨B, sd, r, h⟩ => ?_
  unfold mVar at h
  cases e : sd[i]? with
  | none => rw [e] at h; exact h.elim
  | some o =>
    rw [e] at h
    cases o with
    | none => exact h.elim
    | some d =>
      simp only at h
      obtain ⟨v, h1, h2⟩ := r.slots i d e
      refine ⟨v, h1, ?_⟩
      cases h2 with
      | val n p =>
        rw [n, if_neg (by decide)] at h
        exact h v H (Stp.refl r) (fun _ => Same.refl H) p
      | own _ _ _ _ => exact h.elim
      | owd _ _ _ _ => exact h.elim
theorem dp_var (i : Nat) {x : Str} {pos : Pos} (hN : X.N[i]? = some x := by rfl) (hv : Vis X.env.scope x := by first | exact Or.inl rfl | exact Or.inr (Or.inl rfl) | exact Or.inr (Or.inr rfl)) (hd : (x == ("__debug__" : Str)) = false := by decide)
    (hcd : (x == ("__classdict__" : Str)) = false := by decide) : DP X W true (.Name x pos) (mPeek i) := by
  refine pe_imp (pv i hN hv hd hcd) fun σ H Q ⟨B, sd, r, h⟩ => ?_
  unfold mPeek at h
  cases e : sd[i]? with
  | none => rw [e] at h; exact h.elim
  | some o =>
    rw [e] at h
    cases o with
    | none => exact h.elim
    | some d =>
      simp only at h
      obtain ⟨v, h1, h2⟩ := r.slots i d e
      refine ⟨v, h1, ?_⟩
      cases h2 with
      | val n p =>
        have z : unOwn d = d := by
          cases d <;> first | rfl | cases n
        rw [z] at h
        exact h v H (Stp.refl r) (fun _ => Same.refl H) (.val p)
      | own e1 p _ _ => exact h _ H (Stp.refl r) (fun _ => Same.refl H) (.lst (.inl e1) p)
      | owd e1 p _ _ => exact h _ H (Stp.refl r) (fun _ => Same.refl H) (.dic ⟨_, .inl e1, rfl⟩ p)
theorem dp_of (h : DE X W q e m) : DP X W q e m := pe_imp h fun σ H Q ⟨B, sd, r, z⟩ => ⟨B, sd, r, by
  cases e : m sd with
  | ok p => rw [e] at z; exact fun v H' st sm rp => z v H' st sm (.val rp)
  | exc c => rw [e] at z; exact z
  | bad => rw [e] at z; exact z.elim⟩
def mLst (m : MF) : ME := mB m fun ds => mR (.lst ds)
theorem de_of {m : MF} (h : DF X W q e m) : DE X W q e (mLst m) := pe_imp h fun σ H Q ⟨B, sd, r, z⟩ => ⟨B, sd, r, by
  unfold mLst mB at z
  cases e : m sd with
  | ok p =>
    obtain ⟨ds, sd'⟩ := p
    rw [e] at z
    exact fun p xs H' f sm => z _ _ f.st sm (f.val r)
  | exc c => rw [e] at z; exact z
  | bad => rw [e] at z; exact z.elim⟩
theorem de_c {v : V} {d : D} (h : PE X e (tC v)) (hr : ∀ K mg H T, Rp K mg H T v d) : DE X W true e (mC d) := pe_imp h fun σ H Q ⟨B, sd, r, z⟩ => z v H (Stp.refl r) (fun _ => Same.refl H) (hr _ _ _ _)
theorem de_int {i : Int} {j : Nat} : DE X W true (.Constant (.int i) j pos) (mC (.int i)) := de_c pe_int fun _ _ _ _ => .int i
theorem de_bl {i : Bool} {j : Nat} : DE X W true (.Constant (.bool i) j pos) (mC (.bl i)) := de_c pe_bl fun _ _ _ _ => .bl i
theorem de_str {i : Str} {j : Nat} : DE X W true (.Constant (.str i) j pos) (mC (.str i)) := de_c pe_str fun _ _ _ _ => .str i
theorem de_non {j : Nat} : DE X W true (.Constant .none j pos) (mC .non) := de_c pe_non fun _ _ _ _ => .non
/-- a number of the module's -/
theorem de_globI {x : Str} {i : Int} {t : Tok} (hg : Gl X x) (hm : X.mg x = some (.int i t)) (hd : (x == ("__debug__" : Str)) = false := by decide) : DE X W true (.Name x pos) (mC (.int i)) := de_c (pe_glob hg hm (v := .int i) ⟨t, rfl⟩ hd) fun _ _ _ _ => .int i
/-- a def of the module's as a value -/
theorem de_globF {x : Str} {a : Addr} (hg : Gl X x) (hm : X.mg x = some (.ref a)) (hd : (x == ("__debug__" : Str)) = false := by decide) : DE X W true (.Name x pos) (mC (.glo x)) :=
  pe_imp (pe_glob hg hm (v := .ref a) rfl hd) fun σ H Q ⟨B, sd, r, z⟩ => z _ H (Stp.refl r) (fun _ => Same.refl H) (.glo hm rfl)
/-! ### argument lists, displays -/
theorem da_nil : DA X W true [] (mR []) := pa_imp pa_nil fun σ H Q ⟨B, sd, r, z⟩ => z [] H (Stp.refl r) (fun _ => Same.refl H) .nil
def mCons (m : ME) (ms : MF) : MF := mB m fun d => mB ms fun ds => mR (d :: ds)
theorem da_cons {ms : MF} (h : DE X W q1 e m) (hs : DA X W q2 es ms) (hst : starEach (e :: es) X.env = (false, eval e X.env) :: starEach es X.env := by rfl) : DA X W (q1 && q2) (e :: es) (mCons m ms) := by
  refine pa_imp (pa_cons h hs hst) fun σ H Q ⟨B, sd, r, z⟩ => ?_
  refine bindE r z.parts.1 z.parts.2 fun v H1 d sd1 e1 st1 sm1 rp1 => ?_
  unfold mCons at z
  rw [mB_ok e1] at z
  refine bindA st1.rel (fun c e => (z.parts.1 c e).later st1) z.parts.2 fun vs H2 ds sd2 e2 st2 sm2 rp2 => ?_
  rw [mB_ok e2] at z
  exact z _ _ (st1.trans st2) (same_and sm1 sm2) (.cons (rp1.carry st2.carry) rp2)
/-- how many there are -/
def LenA (ms : MF) (n : Nat) : Prop := ∀ sd ds sd', ms sd = .ok (ds, sd') → ds.length = n
theorem lena0 : LenA (mR []) 0 := fun sd ds sd' h => by
  cases h
  rfl
theorem lenac {m : ME} {ms : MF} {n : Nat} (h : LenA ms n) : LenA (mCons m ms) (n + 1) := fun sd ds sd' e => by
  unfold mCons mB at e
  cases e1 : m sd with
  | ok p =>
    rw [e1] at e
    simp only at e
    cases e2 : ms p.2 with
    | ok p2 =>
      rw [e2] at e
      simp only [mR] at e
      have z := h _ _ _ e2
      cases e
      rw [List.length_cons, z]
    | exc c => rw [e2] at e; cases e
    | bad => rw [e2] at e; cases e
  | exc c => rw [e1] at e; cases e
  | bad => rw [e1] at e; cases e
theorem de_tup {ms : MF} {k n : Nat} (h : DA X W q es ms) (hl : LenA ms n) (hz : n ≤ sizeLine := by decide) : DE X W q (.Tuple es k pos) (mB ms fun ds => mR (.tup ds)) := by
  refine pe_imp (pe_tup h) fun σ H Q ⟨B, sd, r, z⟩ => ?_
  refine bindA r z.parts.1 z.parts.2 fun vs H1 ds sd1 e1 st1 sm1 rp1 => ?_
  rw [mB_ok e1] at z
  refine ⟨by rw [rp1.length, hl _ _ _ e1]; exact hz, fun p hp => z _ _ (st1.trans (Stp.laid st1.rel hp)) (fun e => (sm1 e).trans (same_laid hp)) (rp_tup st1.rel hp rp1)⟩
theorem df_lst {ms : MF} {n : Nat} (h : DA X W q es ms) (hl : LenA ms n) (hz : n ≤ sizeLine := by decide) : DF X W q (.List es pos) ms := by
  refine pe_imp (pe_lst h) fun σ H Q ⟨B, sd, r, z⟩ => ?_
  refine ⟨B, sd, r, ?_⟩
  cases e : ms sd with
  | ok p =>
    obtain ⟨ds, sd'⟩ := p
    rw [e] at z
    exact fun vs H' st sm rp => ⟨by rw [rp.length, hl _ _ _ e]; exact hz, fun p hp => z p vs _ (Fresh.laid st hp rp) fun e => (sm e).trans (same_laid hp)⟩
  | exc c => rw [e] at z; exact z
  | bad => rw [e] at z; exact z.elim
end
end HD

set_option Elab.async false
set_option linter.all false
set_option autoImplicit false
set_option maxRecDepth 100000
set_option maxHeartbeats 4000000
namespace HD
open PySem PySem.Spec PyProof.Rows L2
/-- a list that nobody else knows, behind a def's end -/
structure FreshE (K : PySem.W.Frag) (mg : Str → Option Value) {Θ : Tix} (B : Amb Θ) (σ : SV) (sd : SD) (H : Hp) (σ' : SV) (sd' : SD) (H' : Hp) (p : Addr) (xs : List V) (ds : List D) : Prop where
  st : Stp K mg B σ sd H σ' sd' H'
  new : B.He p = none
  at_ : H' p = some (.lst xs)
  rel : Rel K mg (B.plus p) σ' H' sd'
  rp : Rps K mg H' (Tof (B.plus p) σ' sd') xs ds
theorem Fresh.toE {K : PySem.W.Frag} {mg : Str → Option Value} {Θ : Tix} {B : Amb Θ} {σ σ' : SV} {sd sd' : SD} {H H' : Hp} {p : Addr} {xs : List V} {ds : List D} (r : Rel K mg B σ H sd) (f : Fresh K mg B σ sd H σ' sd' H' p xs ds) : FreshE K mg B σ sd H σ' sd' H' p xs ds := ⟨f.st, r.ent.gone f.new, f.at_, f.rel, f.rp⟩
theorem FreshE.later {K : PySem.W.Frag} {mg : Str → Option Value} {Θ : Tix} {B : Amb Θ} {σ σ1 σ2 : SV} {sd sd1 sd2 : SD} {H H1 H2 : Hp} {p : Addr} {xs : List V} {ds : List D} (s : Stp K mg B σ sd H σ1 sd1 H1) (f : FreshE K mg B σ1 sd1 H1 σ2 sd2 H2 p xs ds) : FreshE K mg B σ sd H σ2 sd2 H2 p xs ds := ⟨s.trans f.st, f.new, f.at_, f.rel, f.rp⟩
/-! ### statements -/
inductive Fl where
  | nx (sd : SD) | rt (d : D) (sd : SD) | rf (ds : List D) (sd : SD) | bk (sd : SD) | ct (sd : SD)
abbrev MS := SD → R Fl
def AftS (K : PySem.W.Frag) (mg : Str → Option Value) {Θ : Tix} (B : Amb Θ) (σ : SV) (sd : SD) (H : Hp) (W : WT) (Dn : Ends) : R Fl → Prop
  | .ok (.nx sd') => ∀ σ' H', Stp K mg B σ sd H σ' sd' H' → Dn.nx σ' H'
  | .ok (.rt d sd') => ∀ σ' v H', Stp K mg B σ sd H σ' sd' H' → Rp K mg H' (Tof B σ' sd') v d → Dn.rt v H'
  | .ok (.rf ds sd') => ∀ σ' p xs H', FreshE K mg B σ sd H σ' sd' H' p xs ds → Dn.rt (.ref p) H'
  | .ok (.bk sd') => ∀ σ' H', Stp K mg B σ sd H σ' sd' H' → Dn.bk σ' H'
  | .ok (.ct sd') => ∀ σ' H', Stp K mg B σ sd H σ' sd' H' → Dn.ct σ' H'
  | .exc c => ∀ σ' H' sd', Stp K mg B σ sd H σ' sd' H' → ∀ C : Addr, mg c = some (.ref C) → W.w (.ref C) none σ' H'
  | .bad => False
section
variable (X : Cx) (W : WT)
def tS (m : MS) : TS := fun Dn σ H => ∃ (B : Amb W.tb) (sd : SD), Rel X.K X.mg B σ H sd ∧ AftS X.K X.mg B σ sd H W Dn (m sd)
abbrev DS (st : Stmt) (m : MS) : Prop := PS X st (tS X W m)
abbrev DSs (st : List Stmt) (m : MS) : Prop := PSs X st (tS X W m)
end
section
variable {X : Cx} {W : WT} {q q1 q2 : Bool} {e a b c : Expr} {es : List Expr} {pos : Pos} {m ma mb : ME} {st : Stmt} {rest : List Stmt} {ms ms1 ms2 : MS}
theorem AftS.later {K : PySem.W.Frag} {mg : Str → Option Value} {B : Amb W.tb} {σ σ1 : SV} {sd sd1 : SD} {H H1 : Hp} {Dn : Ends} {r : R Fl} (s : Stp K mg B σ sd H σ1 sd1 H1) (h : AftS K mg B σ sd H W Dn r) : AftS K mg B σ1 sd1 H1 W Dn r := by
  cases r with
  | ok f =>
    cases f with
    | nx sd' => exact fun σ' H' st => h σ' H' (s.trans st)
    | rt d sd' => exact fun σ' v H' st => h σ' v H' (s.trans st)
    | rf ds sd' => exact fun σ' p xs H' f => h σ' p xs H' (f.later s)
    | bk sd' => exact fun σ' H' st => h σ' H' (s.trans st)
    | ct sd' => exact fun σ' H' st => h σ' H' (s.trans st)
  | exc c => exact fun σ' H' sd' st => h σ' H' sd' (s.trans st)
  | bad => exact h
def mSeq (m1 m2 : MS) : MS := fun sd => match m1 sd with
  | .ok (.nx sd') => m2 sd'
  | r => r
def mNext : MS := fun sd => .ok (.nx sd)
theorem dss_nil : DSs X W [] mNext := pss_imp pss_nil fun Dn σ H ⟨B, sd, r, h⟩ => h σ H (Stp.refl r)
theorem tS_seq {Dn : Ends} {σ : SV} {H : Hp} (h : tS X W (mSeq ms1 ms2) Dn σ H) : tSeq (tS X W ms1) (tS X W ms2) Dn σ H := by
  obtain ⟨B, sd, r, h⟩ := h
  refine ⟨B, sd, r, ?_⟩
  unfold mSeq at h
  cases e : ms1 sd with
  | ok f =>
    rw [e] at h
    cases f with
    | nx sd' => exact fun σ' H' st => ⟨B, sd', st.rel, h.later st⟩
    | rt d sd' => exact h
    | rf ds sd' => exact h
    | bk sd' => exact h
    | ct sd' => exact h
  | exc c => rw [e] at h; exact h
  | bad => rw [e] at h; exact h
theorem dss_cons (h1 : DS X W st ms1) (h2 : DSs X W rest ms2) : DSs X W (st :: rest) (mSeq ms1 ms2) := pss_imp (pss_cons h1 h2) fun _ _ _ h => tS_seq h
theorem dss_one (h : DS X W st ms) : DSs X W [st] ms := pss_one h
/-- the parts of a statement's end -/
theorem AftS.parts {B : Amb W.tb} {σ : SV} {sd : SD} {H : Hp} {Dn : Ends} {r : R Fl} (h : AftS X.K X.mg B σ sd H W Dn r) : (∀ c, r = .exc c → AftX X.K X.mg B σ sd H W c) ∧ r ≠ .bad := by
  cases r with
  | ok p => exact ⟨fun c z => (nomatch z), fun z => (nomatch z)⟩
  | exc c => exact ⟨fun c z => (by cases z; exact fun H' sd' st => h σ H' sd' st), fun z => (nomatch z)⟩
  | bad => exact h.elim
def mBS {α : Type} (m : SD → R (α × SD)) (k : α → SD → R Fl) : MS := fun sd => match m sd with
  | .ok (a, s) => k a s
  | .exc c => .exc c
  | .bad => .bad
theorem mBS_ok {α : Type} {m : SD → R (α × SD)} {k : α → SD → R Fl} {a : α} {sd s : SD} (e : m sd = .ok (a, s)) : mBS m k sd = k a s := by
  unfold mBS
  rw [e]
section
variable {B : Amb W.tb} {σ : SV} {sd : SD} {H : Hp} {Q : VK}
theorem bindSE {m : ME} {k : D → SD → R Fl} (r : Rel X.K X.mg B σ H sd) (hx : (∀ c, mBS m k sd = .exc c → AftX X.K X.mg B σ sd H W c) ∧ mBS m k sd ≠ .bad)
    (h : ∀ v H1 d sd1, m sd = .ok (d, sd1) → Stp X.K X.mg B σ sd H σ sd1 H1 → (q = true → Same H H1) → Rp X.K X.mg H1 (Tof B σ sd1) v d → Q v H1) : tD X W q m σ H Q := by
  refine ⟨B, sd, r, ?_⟩
  unfold mBS at hx
  cases e : m sd with
  | ok p =>
    obtain ⟨d, sd1⟩ := p
    exact fun v H' st sm rp => h v H' d sd1 e st sm rp
  | exc c => rw [e] at hx; exact hx.1 c rfl
  | bad => rw [e] at hx; exact (hx.2 rfl).elim
theorem bindSP {m : ME} {k : D → SD → R Fl} (r : Rel X.K X.mg B σ H sd) (hx : (∀ c, mBS m k sd = .exc c → AftX X.K X.mg B σ sd H W c) ∧ mBS m k sd ≠ .bad)
    (h : ∀ v H1 d sd1, m sd = .ok (d, sd1) → Stp X.K X.mg B σ sd H σ sd1 H1 → (q = true → Same H H1) → Rq X.K X.mg H1 (Tof B σ sd1) v d → Q v H1) : tP X W q m σ H Q := by
  refine ⟨B, sd, r, ?_⟩
  unfold mBS at hx
  cases e : m sd with
  | ok p =>
    obtain ⟨d, sd1⟩ := p
    exact fun v H' st sm rp => h v H' d sd1 e st sm rp
  | exc c => rw [e] at hx; exact hx.1 c rfl
  | bad => rw [e] at hx; exact (hx.2 rfl).elim
theorem bindSF {m : MF} {k : List D → SD → R Fl} (r : Rel X.K X.mg B σ H sd) (hx : (∀ c, mBS m k sd = .exc c → AftX X.K X.mg B σ sd H W c) ∧ mBS m k sd ≠ .bad)
    (h : ∀ p xs H1 ds sd1, m sd = .ok (ds, sd1) → Fresh X.K X.mg B σ sd H σ sd1 H1 p xs ds → (q = true → Same H H1) → Q (.ref p) H1) : tF X W q m σ H Q := by
  refine ⟨B, sd, r, ?_⟩
  unfold mBS at hx
  cases e : m sd with
  | ok p =>
    obtain ⟨d, sd1⟩ := p
    exact fun p xs H' f sm => h p xs H' d sd1 e f sm
  | exc c => rw [e] at hx; exact hx.1 c rfl
  | bad => rw [e] at hx; exact (hx.2 rfl).elim
theorem bindST {m : SD → R (Bool × SD)} {k : Bool → SD → R Fl} {Q : Bool → Hp → Prop} (r : Rel X.K X.mg B σ H sd) (hx : (∀ c, mBS m k sd = .exc c → AftX X.K X.mg B σ sd H W c) ∧ mBS m k sd ≠ .bad)
    (h : ∀ H1 d sd1, m sd = .ok (d, sd1) → Stp X.K X.mg B σ sd H σ sd1 H1 → (q = true → Same H H1) → Q d H1) : tT X W q m σ H Q := by
  refine ⟨B, sd, r, ?_⟩
  unfold mBS at hx
  cases e : m sd with
  | ok p =>
    obtain ⟨d, sd1⟩ := p
    exact fun H' st sm => h H' d sd1 e st sm
  | exc c => rw [e] at hx; exact hx.1 c rfl
  | bad => rw [e] at hx; exact (hx.2 rfl).elim
end
/-- return e -/
def mRet (m : ME) : MS := mBS m fun d sd => .ok (.rt d sd)
theorem ds_ret (h : DE X W q e m) : DS X W (.Return (some e) pos) (mRet m) := ps_imp (ps_ret h) fun Dn σ H ⟨B, sd, r, z⟩ => by
  refine bindSE r z.parts fun v H1 d sd1 e1 st1 _ rp1 => ?_
  unfold mRet at z
  rw [mBS_ok e1] at z
  exact z σ v H1 st1 rp1
def mRetF (m : MF) : MS := mBS m fun d sd => .ok (.rf d sd)
theorem ds_retF {m : MF} (h : DF X W q e m) : DS X W (.Return (some e) pos) (mRetF m) := ps_imp (ps_ret h) fun Dn σ H ⟨B, sd, r, z⟩ => by
  refine bindSF r z.parts fun p xs H1 d sd1 e1 f1 _ => ?_
  unfold mRetF at z
  rw [mBS_ok e1] at z
  exact z σ p xs H1 (f1.toE r)
/-- an expression as a statement -/
def mDrop (m : ME) : MS := mBS m fun _ sd => .ok (.nx sd)
theorem ds_expr (h : DE X W q e m) (hs : swapsWith e none pos.line X.env = pure false := by rfl) : DS X W (.Expr e pos) (mDrop m) := ps_imp (ps_expr h hs) fun Dn σ H ⟨B, sd, r, z⟩ => by
  refine bindSE r z.parts fun v H1 d sd1 e1 st1 _ rp1 => ?_
  unfold mDrop at z
  rw [mBS_ok e1] at z
  exact z σ H1 st1
def mPass : MS := fun sd => .ok (.nx sd)
theorem ds_pass : DS X W (.Pass pos) mPass := ps_imp ps_pass fun Dn σ H ⟨B, sd, r, z⟩ => z σ H (Stp.refl r)
def mBreak : MS := fun sd => .ok (.bk sd)
theorem ds_break : DS X W (.Break pos) mBreak := ps_imp ps_break fun Dn σ H ⟨B, sd, r, z⟩ => z σ H (Stp.refl r)
/-- if -/
def mIf (t : SD → R (Bool × SD)) (a b : MS) : MS := mBS t fun c sd => if c = true then a sd else b sd
theorem ds_if {xa xb : List Stmt} {t : SD → R (Bool × SD)} (hc : DT X W q c t) (ha : DSs X W xa ms1) (hb : DSs X W xb ms2) : DS X W (.If c xa xb pos) (mIf t ms1 ms2) := ps_imp (ps_if hc ha hb) fun Dn σ H ⟨B, sd, r, z⟩ => by
  refine bindST r z.parts fun H1 d sd1 e1 st1 _ => ?_
  unfold mIf at z
  rw [mBS_ok e1] at z
  cases d with
  | true => exact ⟨B, sd1, st1.rel, z.later st1⟩
  | false => exact ⟨B, sd1, st1.rel, z.later st1⟩
/-! ### stores -/
/-- a plain value to a slot -/
def put (i : Nat) (d : D) (sd : SD) : Option SD := if (isOwn d = false ∧ free0 i sd = true ∧ i < sd.length) then some (sd.set i (some d)) else none
def mPut (i : Nat) (d : D) (sd : SD) : R Fl := match put i d sd with
  | some s => .ok (.nx s)
  | none => .bad
theorem put_ok {K : PySem.W.Frag} {mg : Str → Option Value} {Θ : Tix} {B : Amb Θ} {σ : SV} {sd sd' : SD} {H : Hp} {i : Nat} {v : V} {d : D} (r : Rel K mg B σ H sd) (rv : Rp K mg H (Tof B σ sd) v d) (h : put i d sd = some sd') :
    Stp K mg B σ sd H (σ.set i (some v)) sd' H := by
  unfold put at h
  split at h
  · rename_i hc
    cases h
    exact r.set (by rw [← r.len]; exact hc.2.2) hc.1 rv hc.2.1
  · cases h
def mSet (i : Nat) (m : ME) : MS := mBS m fun d sd => mPut i d sd
theorem ds_set (i : Nat) {x : Str} {pos' : Pos} (hN : X.N.Nodup) (h : DE X W q e m) (hi : X.N[i]? = some x := by rfl) (hx : Loc X.env.scope x := by first | exact .inl rfl | exact .inr rfl) (hs : swapsWith e (some (.Name x pos')) pos.line X.env = pure false := by rfl)
    (hf : X.fn x = true ∨ X.env.scope.names.lookup x = some .local := by first | exact .inl rfl | exact .inr rfl) : DS X W (.Assign [.Name x pos'] e pos) (mSet i m) := ps_imp (ps_set hN hi hx h hs hf) fun Dn σ H ⟨B, sd, r, z⟩ => by
  refine bindSE r z.parts fun v H1 d sd1 e1 st1 _ rp1 => ?_
  unfold mSet at z
  rw [mBS_ok e1] at z
  unfold mPut at z
  cases e2 : put i d sd1 with
  | none => rw [e2] at z; exact z.elim
  | some sd2 =>
    rw [e2] at z
    exact z _ _ (st1.trans (put_ok st1.rel rp1 e2))
/-- a new list to a slot, to be changed there -/
def putO (i : Nat) (ds : List D) (sd : SD) : Option SD := if (free0 i sd = true ∧ i < sd.length) then some (sd.set i (some (.own ds))) else none
theorem Fresh.setOwn {K : PySem.W.Frag} {mg : Str → Option Value} {Θ : Tix} {B : Amb Θ} {σ0 σ : SV} {sd sd1 : SD} {H H1 : Hp} {i : Nat} {p : Addr} {xs : List V} {ds : List D} (r0 : Rel K mg B σ0 H sd) (f : Fresh K mg B σ0 sd H σ sd1 H1 p xs ds) (hi : i < σ.length) (h0 : free0 i sd1 = true) :
    Stp K mg B σ0 sd H (σ.set i (some (.ref p))) (sd1.set i (some (.own ds))) H1 := by
  have r := f.st.rel
  have hpe : B.He p = none := r0.ent.gone f.new
  have np : ∀ a, Own σ sd1 a → a ≠ p := fun a h z => (f.rel.ownT0 h).1 (.inr z)
  have sub : ∀ a, Own (σ.set i (some (V.ref p))) (sd1.set i (some (.own ds))) a → Own σ sd1 a ∨ a = p := fun a ⟨j, h⟩ => by
    rcases h.set with ⟨_, z, _⟩ | ⟨_, z⟩
    · cases z; exact .inr rfl
    · exact .inl ⟨j, z⟩
  have c : Carry H1 (Tof (B.plus p) σ sd1) H1 (Tof B (σ.set i (some (V.ref p))) (sd1.set i (some (.own ds)))) := Carry.less_of fun b t => by
    rcases t with t | t
    · exact .inl (.inl t)
    · rcases sub b t with z | z
      · exact .inr z
      · exact .inl (.inr z)
  refine ⟨⟨by rw [List.length_set, List.length_set]; exact r.len, fun j e hj => ?_, fun j k a h1 h2 => ?_, r.t0, r.ent, fun a e => ?_, r.inv⟩, f.st.ext, fun a h => ?_⟩
  · by_cases q : i = j
    · subst q
      rw [List.getElem?_set_self (by rw [r.len]; exact hi)] at hj
      cases hj
      exact ⟨.ref p, List.getElem?_set_self hi, .own f.at_ (f.rp.carry c) (fun t => r0.t0 p t f.new) (.inl hpe)⟩
    · rw [List.getElem?_set_ne q] at hj
      obtain ⟨w, h1, h2⟩ := f.rel.slots j e hj
      refine ⟨w, by rw [List.getElem?_set_ne q]; exact h1, ?_⟩
      cases h2 with
      | val n g => exact .val n (g.carry c)
      | own g1 g2 g3 g4 => exact .own g1 (g2.carry c) (fun t => g3 (.inl t)) g4
      | owd g1 g2 g3 g4 => exact .owd g1 (g2.carry c) (fun t => g3 (.inl t)) g4
  · rcases h1.set with ⟨z1, z2, _⟩ | ⟨n1, z1⟩
    · rcases h2.set with ⟨z3, _, _⟩ | ⟨n2, z3⟩
      · rw [z1, z3]
      · cases z2
        exact absurd rfl (np _ ⟨k, z3⟩)
    · rcases h2.set with ⟨_, z2, _⟩ | ⟨n2, z3⟩
      · cases z2
        exact absurd rfl (np _ ⟨j, z1⟩)
      · exact r.inj j k a z1 z3
  · exact (r.io a e).unset fun z => free0_io r h0 e z.symm
  · rcases sub a h with z | z
    · exact f.st.own a z
    · rw [z]; exact .inr f.new
def mPutO (i : Nat) (ds : List D) (sd : SD) : R Fl := match putO i ds sd with
  | some s => .ok (.nx s)
  | none => .bad
theorem putO_ok {K : PySem.W.Frag} {mg : Str → Option Value} {Θ : Tix} {B : Amb Θ} {σ0 σ : SV} {sd sd1 sd' : SD} {H H1 : Hp} {i : Nat} {p : Addr} {xs : List V} {ds : List D} (r0 : Rel K mg B σ0 H sd) (f : Fresh K mg B σ0 sd H σ sd1 H1 p xs ds) (h : putO i ds sd1 = some sd') :
    Stp K mg B σ0 sd H (σ.set i (some (.ref p))) sd' H1 := by
  unfold putO at h
  split at h
  · rename_i hc
    cases h
    exact f.setOwn r0 (by rw [← f.st.rel.len]; exact hc.2) hc.1
  · cases h
def mSetO (i : Nat) (m : MF) : MS := mBS m fun ds sd => mPutO i ds sd
theorem ds_setO (i : Nat) {m : MF} {x : Str} {pos' : Pos} (hN : X.N.Nodup) (h : DF X W q e m) (hi : X.N[i]? = some x := by rfl) (hx : Loc X.env.scope x := by first | exact .inl rfl | exact .inr rfl) (hs : swapsWith e (some (.Name x pos')) pos.line X.env = pure false := by rfl)
    (hf : X.fn x = true ∨ X.env.scope.names.lookup x = some .local := by first | exact .inl rfl | exact .inr rfl) : DS X W (.Assign [.Name x pos'] e pos) (mSetO i m) := ps_imp (ps_set hN hi hx h hs hf) fun Dn σ H ⟨B, sd, r, z⟩ => by
  refine bindSF r z.parts fun p xs H1 ds sd1 e1 f1 _ => ?_
  unfold mSetO at z
  rw [mBS_ok e1] at z
  unfold mPutO at z
  cases e2 : putO i ds sd1 with
  | none => rw [e2] at z; exact z.elim
  | some sd2 =>
    rw [e2] at z
    exact z _ _ (putO_ok r f1 e2)
end
end HD

set_option Elab.async false
set_option linter.all false
set_option autoImplicit false
set_option maxRecDepth 100000
set_option maxHeartbeats 4000000
namespace HD
open PySem PySem.Spec PyProof.Rows L2
/-! ### operators -/
section
variable {K : PySem.W.Frag} {mg : Str → Option Value} {H : Hp} {T : Addr → Prop} {v : V}
theorem Rq.int {i : Int} (h : Rq K mg H T v (.int i)) : v = .int i := by
  cases h with
  | val r => cases r; rfl
theorem Rq.bl {i : Bool} (h : Rq K mg H T v (.bl i)) : v = .bl i := by
  cases h with
  | val r => cases r; rfl
theorem Rq.str {i : Str} (h : Rq K mg H T v (.str i)) : v = .str i := by
  cases h with
  | val r => cases r; rfl
theorem Rq.non (h : Rq K mg H T v .non) : v = .non := by
  cases h with
  | val r => cases r; rfl
theorem Rq.tup {ds : List D} (h : Rq K mg H T v (.tup ds)) : ∃ a xs, v = .ref a ∧ SqT K H a xs ∧ Rps K mg H T xs ds := by
  cases h with
  | val r => cases r with | tup h r => exact ⟨_, _, rfl, h, r⟩
theorem Rq.lst' {ds : List D} (h : Rq K mg H T v (.lst ds)) : ∃ a xs, v = .ref a ∧ SqL K H a xs ∧ Rps K mg H T xs ds := by
  cases h with
  | val r =>
    cases r with
    | lst h _ r => exact ⟨_, _, rfl, .inl h, r⟩
    | lsk h r => exact ⟨_, _, rfl, .inr h, r⟩
  | lst h r => exact ⟨_, _, rfl, .inl h, r⟩
end
/-- an operator on data: no new mutable thing, no exception -/
def OpD (X : Cx) (f : Value → Value → Sem Value) (g : D → D → Option D) : Prop := ∃ r, OpR X f r ∧ ∀ {Θ : Tix} (B : Amb Θ) (σ : SV) (sd : SD) (H : Hp) (x y : V) (dx dy d : D) (Q : VK), Rel X.K X.mg B σ H sd →
  Rq X.K X.mg H (Tof B σ sd) x dx → Rq X.K X.mg H (Tof B σ sd) y dy → g dx dy = some d → (∀ v H', Stp X.K X.mg B σ sd H σ sd H' → Same H H' → Rp X.K X.mg H' (Tof B σ sd) v d → Q v H') → r x y H Q
def OpF (X : Cx) (f : Value → Value → Sem Value) (g : D → D → Option (List D)) : Prop := ∃ r, OpR X f r ∧ ∀ {Θ : Tix} (B : Amb Θ) (σ : SV) (sd : SD) (H : Hp) (x y : V) (dx dy : D) (ds : List D) (Q : VK), Rel X.K X.mg B σ H sd →
  Rq X.K X.mg H (Tof B σ sd) x dx → Rq X.K X.mg H (Tof B σ sd) y dy → g dx dy = some ds → (∀ p xs, H p = none → Rps X.K X.mg H (Tof B σ sd) xs ds → Q (.ref p) (upd H p (.lst xs))) → r x y H Q
/-- a comparison on data -/
def OpB (X : Cx) (f : Value → Value → Sem Value) (g : D → D → Option Bool) : Prop := ∃ r, OpR X f r ∧ ∀ {Θ : Tix} (B : Amb Θ) (σ : SV) (sd : SD) (H : Hp) (x y : V) (dx dy : D) (b : Bool) (Q : VK), Rel X.K X.mg B σ H sd →
  Rq X.K X.mg H (Tof B σ sd) x dx → Rq X.K X.mg H (Tof B σ sd) y dy → g dx dy = some b → Q (.bl b) H → r x y H Q
/-- two ints -/
def f2I (g : Int → Int → Option Int) : D → D → Option D
  | .int i, .int j => (g i j).map .int
  | _, _ => none
def f2B (g : Int → Int → Bool) : D → D → Option Bool
  | .int i, .int j => some (g i j)
  | _, _ => none
section
variable {X : Cx}
theorem opd_int {f : Value → Value → Sem Value} {C : Int → Int → Prop} {g : Int → Int → Int} {go : Int → Int → Option Int} (h : OpR X f (rI C fun i j => .int (g i j))) (hg : ∀ i j k, go i j = some k → C i j ∧ k = g i j) : OpD X f (f2I go) := by
  refine ⟨_, h, fun B σ sd H x y dx dy d Q r h1 h2 e q => ?_⟩
  cases dx with
  | int i =>
    cases dy with
    | int j =>
      have e' : (go i j).map D.int = some d := e
      cases z : go i j with
      | none => rw [z] at e'; cases e'
      | some k =>
        rw [z] at e'
        cases e'
        obtain ⟨c1, c2⟩ := hg i j k z
        subst c2
        exact ⟨i, j, h1.int, h2.int, c1, q _ H (Stp.refl r) (Same.refl H) (.int _)⟩
    | _ => cases e
  | _ => cases e
theorem opd_int0 {f : Value → Value → Sem Value} {g : Int → Int → Int} (h : OpR X f (rI0 fun i j => .int (g i j))) : OpD X f (f2I fun i j => some (g i j)) := by
  refine ⟨_, h, fun B σ sd H x y dx dy d Q r h1 h2 e q => ?_⟩
  cases dx with
  | int i =>
    cases dy with
    | int j =>
      cases e
      exact ⟨i, j, h1.int, h2.int, q _ H (Stp.refl r) (Same.refl H) (.int _)⟩
    | _ => cases e
  | _ => cases e
theorem opb_int {f : Value → Value → Sem Value} {g : Int → Int → Bool} (h : OpR X f (rI0 fun i j => .bl (g i j))) : OpB X f (f2B g) := by
  refine ⟨_, h, fun B σ sd H x y dx dy b Q r h1 h2 e q => ?_⟩
  cases dx with
  | int i =>
    cases dy with
    | int j =>
      cases e
      exact ⟨i, j, h1.int, h2.int, q⟩
    | _ => cases e
  | _ => cases e
theorem OpD.or {f : Value → Value → Sem Value} {g1 g2 g : D → D → Option D} (h1 : OpD X f g1) (h2 : OpD X f g2) (hg : ∀ a b d, g a b = some d → g1 a b = some d ∨ g2 a b = some d) : OpD X f g := by
  obtain ⟨r1, a1, b1⟩ := h1
  obtain ⟨r2, a2, b2⟩ := h2
  refine ⟨_, a1.or a2, fun B σ sd H x y dx dy d Q r x1 x2 e q => ?_⟩
  rcases hg _ _ _ e with z | z
  · exact .inl (b1 B σ sd H x y dx dy d Q r x1 x2 z q)
  · exact .inr (b2 B σ sd H x y dx dy d Q r x1 x2 z q)
theorem OpB.or {f : Value → Value → Sem Value} {g1 g2 g : D → D → Option Bool} (h1 : OpB X f g1) (h2 : OpB X f g2) (hg : ∀ a b d, g a b = some d → g1 a b = some d ∨ g2 a b = some d) : OpB X f g := by
  obtain ⟨r1, a1, b1⟩ := h1
  obtain ⟨r2, a2, b2⟩ := h2
  refine ⟨_, a1.or a2, fun B σ sd H x y dx dy d Q r x1 x2 e q => ?_⟩
  rcases hg _ _ _ e with z | z
  · exact .inl (b1 B σ sd H x y dx dy d Q r x1 x2 z q)
  · exact .inr (b2 B σ sd H x y dx dy d Q r x1 x2 z q)
def mulOk (i j : Int) : Bool := decide ((Builtin.Int.intBits i : Int) + (Builtin.Int.intBits j : Int) ≤ 134217728)
def dSub := f2I fun i j => some (i - j)
def dMulI := f2I fun i j => if mulOk i j = true then some (i * j) else none
def dMod := f2I fun i j => if 0 < j then some (i % j) else none
def dDiv := f2I fun i j => if 0 < j ∧ j.natAbs.log2 < 9000 then some (i / j) else none
def dShl := f2I fun i j => if 0 ≤ j ∧ (Builtin.Int.intBits i : Int) + j ≤ 134217728 then some (i * 2 ^ j.toNat) else none
def dShr := f2I fun i j => if 0 ≤ j then some (i / 2 ^ j.toNat) else none
def dPow := f2I fun i j => if 0 ≤ j ∧ j ≤ 1000000 ∧ i.natAbs < 2 ^ 64 then some (i ^ j.toNat) else none
def dBand := f2I fun i j => some (Builtin.bitAnd i j)
def dBor := f2I fun i j => some (Builtin.bitOr i j)
def dBxor := f2I fun i j => some (Builtin.bitXor i j)
theorem o_addI : OpD X (binaryOp .Add) (f2I fun i j => some (i + j)) := opd_int0 op_add
theorem o_sub : OpD X (binaryOp .Sub) dSub := opd_int0 op_sub
theorem o_mulI : OpD X (binaryOp .Mult) dMulI := opd_int (C := CMulX) op_mulX fun i j k e => by
  try simp only at e
  split at e
  · rename_i h
    cases e
    have h' : ((Builtin.Int.intBits i : Int) + (Builtin.Int.intBits j : Int) ≤ 134217728) := by simpa [mulOk] using h
    exact ⟨h', rfl⟩
  · cases e
theorem o_mod : OpD X (binaryOp .Mod) dMod := opd_int op_mod fun i j k e => by
  try simp only at e
  split at e
  · rename_i h
    cases e
    exact ⟨h, rfl⟩
  · cases e
theorem o_div : OpD X (binaryOp .FloorDiv) dDiv := opd_int (C := CDivW) op_fdivW fun i j k e => by
  try simp only at e
  split at e
  · rename_i h
    cases e
    exact ⟨h, rfl⟩
  · cases e
theorem o_shl : OpD X (binaryOp .LShift) dShl := opd_int (C := CShl) op_shlW fun i j k e => by
  try simp only at e
  split at e
  · rename_i h
    cases e
    exact ⟨h, rfl⟩
  · cases e
theorem o_shr : OpD X (binaryOp .RShift) dShr := opd_int op_shr fun i j k e => by
  try simp only at e
  split at e
  · rename_i h
    cases e
    exact ⟨h, rfl⟩
  · cases e
theorem o_pow : OpD X (binaryOp .Pow) dPow := opd_int (C := CPow) op_pow fun i j k e => by
  try simp only at e
  split at e
  · rename_i h
    cases e
    exact ⟨h, rfl⟩
  · cases e
theorem o_and : OpD X (binaryOp .BitAnd) dBand := opd_int0 op_and
theorem o_or : OpD X (binaryOp .BitOr) dBor := opd_int0 op_or
theorem o_xor : OpD X (binaryOp .BitXor) dBxor := opd_int0 op_xor
/-- t + u of tuples -/
def dCatT : D → D → Option D
  | .tup a, .tup b => if a ≠ [] ∧ a.length + b.length ≤ sizeLine then some (.tup (a ++ b)) else none
  | _, _ => none
theorem o_catT : OpD X (binaryOp .Add) dCatT := by
  refine ⟨_, op_catT, fun B σ sd H x y dx dy d Q r h1 h2 e q => ?_⟩
  cases dx with
  | tup as =>
    cases dy with
    | tup bs =>
      dsimp only [dCatT] at e
      split at e
      · rename_i hc
        cases e
        obtain ⟨a, xs, rfl, s1, p1⟩ := h1.tup
        obtain ⟨b, ys, rfl, s2, p2⟩ := h2.tup
        have l1 := p1.length
        have l2 := p2.length
        refine ⟨a, b, xs, ys, rfl, rfl, s1, s2, fun z => ?_, by omega, ?_⟩
        · rw [z] at l1
          exact hc.1 (List.length_eq_zero_iff.mp l1.symm)
        · refine ⟨fun z => ?_, fun z p hp => ?_⟩
          · have eb : bs = [] := by
              rw [z] at l2
              exact List.length_eq_zero_iff.mp l2.symm
            rw [eb, List.append_nil] at q
            exact q _ H (Stp.refl r) (Same.refl H) (.tup s1 p1)
          · exact q _ _ (Stp.laid r hp) (same_laid hp) (rp_tup r hp (p1.append p2))
      · cases e
    | _ => cases e
  | _ => cases e
def dCatS : D → D → Option D
  | .str a, .str b => if a.length + b.length ≤ sizeLine then some (.str (a ++ b)) else none
  | _, _ => none
theorem o_catS : OpD X (binaryOp .Add) dCatS := by
  refine ⟨_, op_add_str, fun B σ sd H x y dx dy d Q r h1 h2 e q => ?_⟩
  cases dx with
  | str as =>
    cases dy with
    | str bs =>
      dsimp only [dCatS] at e
      split at e
      · rename_i hc
        cases e
        exact ⟨as, bs, h1.str, h2.str, hc, q _ H (Stp.refl r) (Same.refl H) (.str _)⟩
      · cases e
    | _ => cases e
  | _ => cases e
/-- + but of lists -/
def dAdd : D → D → Option D
  | .int i, .int j => some (.int (i + j))
  | .tup a, .tup b => dCatT (.tup a) (.tup b)
  | .str a, .str b => dCatS (.str a) (.str b)
  | _, _ => none
theorem o_add : OpD X (binaryOp .Add) dAdd := by
  have h := (o_addI (X := X)).or (o_catT.or o_catS (g := fun a b => match a, b with | .tup a, .tup b => dCatT (.tup a) (.tup b) | .str a, .str b => dCatS (.str a) (.str b) | _, _ => none) fun a b d e => ?_) (g := dAdd) fun a b d e => ?_
  · exact h
  · cases a <;> first | (cases b <;> first | exact .inl e | exact .inr e | cases e) | cases e
  · cases a <;> first | (cases b <;> first | exact .inl e | exact .inr e | cases e) | cases e
/-- a tuple taken some times -/
def dRepT : D → D → Option D
  | .tup a, .int k => if a ≠ [] ∧ 2 ≤ k ∧ k ≤ 1000 ∧ a.length ≤ 1000 then some (.tup (List.replicate k.toNat a).flatten) else none
  | _, _ => none
theorem o_repT : OpD X (binaryOp .Mult) dRepT := by
  refine ⟨_, op_repT, fun B σ sd H x y dx dy d Q r h1 h2 e q => ?_⟩
  cases dx with
  | tup as =>
    cases dy with
    | int k =>
      dsimp only [dRepT] at e
      split at e
      · rename_i hc
        cases e
        obtain ⟨a, xs, rfl, s1, p1⟩ := h1.tup
        have l1 := p1.length
        refine ⟨a, k, xs, rfl, h2.int, s1, fun z => ?_, hc.2.1, hc.2.2.1, by rw [l1]; exact hc.2.2.2, fun p hp => ?_⟩
        · rw [z] at l1
          exact hc.1 (List.length_eq_zero_iff.mp l1.symm)
        · exact q _ _ (Stp.laid r hp) (same_laid hp) (rp_tup r hp (p1.rep _))
      · cases e
    | _ => cases e
  | _ => cases e
def dMul : D → D → Option D
  | .int i, .int j => dMulI (.int i) (.int j)
  | .tup a, .int k => dRepT (.tup a) (.int k)
  | _, _ => none
theorem o_mul : OpD X (binaryOp .Mult) dMul := (o_mulI (X := X)).or o_repT fun a b d e => by
  cases a <;> first | (cases b <;> first | exact .inl e | exact .inr e | cases e) | cases e
/-- lists -/
def dCatL : D → D → Option (List D)
  | .lst a, .lst b => if a.length + b.length ≤ sizeLine then some (a ++ b) else none
  | _, _ => none
/-! comparisons of numbers -/
def bLt := f2B fun i j => decide (i < j)
def bLe := f2B fun i j => decide (i ≤ j)
def bGt := f2B fun i j => decide (j < i)
def bGe := f2B fun i j => decide (j ≤ i)
theorem o_lt : OpB X (compareOp .Lt) bLt := opb_int op_lt
theorem o_le : OpB X (compareOp .LtE) bLe := opb_int op_le
theorem o_gt : OpB X (compareOp .Gt) bGt := opb_int op_gt
theorem o_ge : OpB X (compareOp .GtE) bGe := opb_int op_ge
end
/-! equality -/
mutual
def toP : D → Option PyData
  | .non => some .none
  | .bl b => some (.bool b)
  | .int i => some (.int i)
  | .str x => some (.str x)
  | .tup ds => (toPs ds).map .tuple
  | .lst ds => (toPs ds).map .list
  | _ => none
def toPs : List D → Option (List PyData)
  | [] => some []
  | d :: ds => match toP d, toPs ds with
    | some p, some ps => some (p :: ps)
    | _, _ => none
end
section
variable {K : PySem.W.Frag} {mg : Str → Option Value} {H : Hp} {T : Addr → Prop}
mutual
theorem dp_toP : ∀ {d : D} {v : V} {p : PyData}, Rp K mg H T v d → toP d = some p → Dp K H v p
  | _, _, _, .non, e => by
    simp only [toP] at e
    cases e
    exact .non
  | _, _, _, .bl b, e => by
    simp only [toP] at e
    cases e
    exact .bl b
  | _, _, _, .int b, e => by
    simp only [toP] at e
    cases e
    exact .int b
  | _, _, _, .str b, e => by
    simp only [toP] at e
    cases e
    exact .str b
  | .tup ds, _, p, .tup h r, e => by
    simp only [toP] at e
    cases z : toPs ds with
    | none => rw [z] at e; cases e
    | some ps =>
      rw [z] at e
      cases e
      exact .tup h (dps_toP r z)
  | .lst ds, _, p, .lst h _ r, e => by
    simp only [toP] at e
    cases z : toPs ds with
    | none => rw [z] at e; cases e
    | some ps =>
      rw [z] at e
      cases e
      exact .lst (.inl h) (dps_toP r z)
  | .lst ds, _, p, .lsk h r, e => by
    simp only [toP] at e
    cases z : toPs ds with
    | none => rw [z] at e; cases e
    | some ps =>
      rw [z] at e
      cases e
      exact .lst (.inr h) (dps_toP r z)
  | _, _, _, .dic _ _ _, e => by simp only [toP] at e; cases e
  | _, _, _, .glo _ _, e => by simp only [toP] at e; cases e
  | _, _, _, .clo _ _ _ _ _, e => by simp only [toP] at e; cases e
theorem dps_toP : ∀ {ds : List D} {vs : List V} {ps : List PyData}, Rps K mg H T vs ds → toPs ds = some ps → DpAll K H vs ps
  | _, _, _, .nil, e => by
    simp only [toPs] at e
    cases e
    exact .nil
  | d :: ds, _, _, .cons h r, e => by
    simp only [toPs] at e
    cases z1 : toP d with
    | none => rw [z1] at e; cases e
    | some p =>
      cases z2 : toPs ds with
      | none => rw [z1, z2] at e; cases e
      | some ps =>
        rw [z1, z2] at e
        cases e
        exact .cons (dp_toP h z1) (dps_toP r z2)
end
theorem rq_toP {d : D} {v : V} {p : PyData} (h : Rq K mg H T v d) (e : toP d = some p) : Dp K H v p := by
  cases h with
  | val r => exact dp_toP r e
  | @lst a xs ds h r =>
    simp only [toP] at e
    cases z : toPs ds with
    | none => rw [z] at e; cases e
    | some ps =>
      rw [z] at e
      cases e
      exact .lst (.inl h) (dps_toP r z)
  | dic _ _ => simp only [toP] at e; cases e
end
/-- == by data -/
def eqP (d e : D) : Option Bool := match toP d, toP e with
  | some p, some q => if SeqAt.shaped p = true ∧ SeqAt.shaped q = true then some (PyData.eqv p q) else none
  | _, _ => none
def eqV : D → D → Option Bool
  | .int i, .int j => some (decide (i = j))
  | .bl i, .bl j => some (decide (i = j))
  | .str i, .str j => some (decide (i = j))
  | _, _ => none
def bEq : D → D → Option Bool
  | .int i, .int j => some (decide (i = j))
  | .bl i, .bl j => some (decide (i = j))
  | .str i, .str j => some (decide (i = j))
  | d, e => eqP d e
def bNe (d e : D) : Option Bool := (bEq d e).map not
section
variable {X : Cx}
theorem o_eqP (hu : X.A.units + 64 < cLine) : OpB X (compareOp .Eq) eqP := by
  refine ⟨_, op_eqD hu, fun B σ sd H x y dx dy b Q r h1 h2 e q => ?_⟩
  simp only [eqP] at e
  cases z1 : toP dx with
  | none => rw [z1] at e; cases e
  | some p1 =>
    cases z2 : toP dy with
    | none => rw [z1, z2] at e; cases e
    | some p2 =>
      rw [z1, z2] at e
      try simp only at e
      by_cases hc : SeqAt.shaped p1 = true ∧ SeqAt.shaped p2 = true
      · rw [if_pos hc] at e
        cases e
        exact ⟨p1, p2, rq_toP h1 z1, rq_toP h2 z2, hc.1, hc.2, q⟩
      · rw [if_neg hc] at e
        cases e
theorem o_eqV : OpB X (compareOp .Eq) eqV := by
  refine ⟨_, op_eq, fun B σ sd H x y dx dy b Q r h1 h2 e q => ?_⟩
  cases dx with
  | int i =>
    cases dy with
    | int j =>
      cases e
      obtain rfl := h1.int
      obtain rfl := h2.int
      refine ⟨rfl, ?_⟩
      rw [dec_int, Bool.beq_eq_decide_eq]
      exact q
    | _ => cases e
  | bl i =>
    cases dy with
    | bl j =>
      cases e
      obtain rfl := h1.bl
      obtain rfl := h2.bl
      refine ⟨rfl, ?_⟩
      rw [dec_bl, Bool.beq_eq_decide_eq]
      exact q
    | _ => cases e
  | str i =>
    cases dy with
    | str j =>
      cases e
      obtain rfl := h1.str
      obtain rfl := h2.str
      refine ⟨rfl, ?_⟩
      rw [dec_str, Bool.beq_eq_decide_eq]
      exact q
    | _ => cases e
  | _ => cases e
theorem bEq_or (a b : D) (d : Bool) (e : bEq a b = some d) : eqV a b = some d ∨ eqP a b = some d := by
  cases a <;> cases b <;> first | exact .inl e | exact .inr e
theorem o_eq (hu : X.A.units + 64 < cLine) : OpB X (compareOp .Eq) bEq := o_eqV.or (o_eqP hu) bEq_or
theorem o_neP (hu : X.A.units + 64 < cLine) : OpB X (compareOp .NotEq) (fun a b => (eqP a b).map not) := by
  refine ⟨_, op_neD hu, fun B σ sd H x y dx dy b Q r h1 h2 e q => ?_⟩
  simp only [eqP] at e
  cases z1 : toP dx with
  | none => rw [z1] at e; cases e
  | some p1 =>
    cases z2 : toP dy with
    | none => rw [z1, z2] at e; cases e
    | some p2 =>
      rw [z1, z2] at e
      try simp only at e
      by_cases hc : SeqAt.shaped p1 = true ∧ SeqAt.shaped p2 = true
      · rw [if_pos hc] at e
        cases e
        exact ⟨p1, p2, rq_toP h1 z1, rq_toP h2 z2, hc.1, hc.2, q⟩
      · rw [if_neg hc] at e
        cases e
theorem o_neV : OpB X (compareOp .NotEq) (fun a b => (eqV a b).map not) := by
  refine ⟨_, op_ne, fun B σ sd H x y dx dy b Q r h1 h2 e q => ?_⟩
  cases dx with
  | int i =>
    cases dy with
    | int j =>
      cases e
      obtain rfl := h1.int
      obtain rfl := h2.int
      refine ⟨rfl, ?_⟩
      rw [dec_int, Bool.beq_eq_decide_eq]
      exact q
    | _ => cases e
  | bl i =>
    cases dy with
    | bl j =>
      cases e
      obtain rfl := h1.bl
      obtain rfl := h2.bl
      refine ⟨rfl, ?_⟩
      rw [dec_bl, Bool.beq_eq_decide_eq]
      exact q
    | _ => cases e
  | str i =>
    cases dy with
    | str j =>
      cases e
      obtain rfl := h1.str
      obtain rfl := h2.str
      refine ⟨rfl, ?_⟩
      rw [dec_str, Bool.beq_eq_decide_eq]
      exact q
    | _ => cases e
  | _ => cases e
theorem o_ne (hu : X.A.units + 64 < cLine) : OpB X (compareOp .NotEq) bNe := o_neV.or (o_neP hu) fun a b d e => by
  unfold bNe at e
  cases z : bEq a b with
  | none => rw [z] at e; cases e
  | some k =>
    rw [z] at e
    rcases bEq_or a b k z with w | w
    · left
      rw [w]
      exact e
    · right
      rw [w]
      exact e
/-! is -/
def bIs : D → D → Option Bool
  | d, .non => some (match d with
    | .non => true
    | _ => false)
  | .bl i, .bl j => some (decide (i = j))
  | _, _ => none
end
section
variable {X : Cx} {W : WT} {q q1 q2 q3 : Bool} {e a b c : Expr} {es : List Expr} {pos : Pos} {m ma mb mc : ME}
/-! ### the forms -/
def mBin (f : D → D → Option D) (ma mb : ME) : ME := mB ma fun x => mB mb fun y => mO (f x y)
theorem mO_some {α : Type} {o : Option α} {sd : SD} {a : α} (h : o = some a) : mO o sd = .ok (a, sd) := by
  rw [h]
  rfl
theorem AftE.mO {K : PySem.W.Frag} {mg : Str → Option Value} {B : Amb W.tb} {σ : SV} {sd sd1 : SD} {H : Hp} {Q : VK} {o : Option D} (z : AftE K mg B σ sd H W q Q (mO o sd1)) : ∃ d, o = some d := by
  cases o with
  | none => exact z.elim
  | some d => exact ⟨d, rfl⟩
theorem de_bin {op : Operator} {f : D → D → Option D} (ho : OpD X (binaryOp op) f) (ha : DE X W q1 a ma) (hb : DP X W q2 b mb) : DE X W (q1 && q2) (.BinOp a op b pos) (mBin f ma mb) := by
  obtain ⟨r0, h1, h2⟩ := ho
  refine pe_imp (pe_op h1 ha hb) fun σ H Q ⟨B, sd, r, z⟩ => ?_
  refine bindE r z.parts.1 z.parts.2 fun v H1 d sd1 e1 st1 sm1 rp1 => ?_
  unfold mBin at z
  rw [mB_ok e1] at z
  refine bindP st1.rel (fun c e => (z.parts.1 c e).later st1) z.parts.2 fun v2 H2 d2 sd2 e2 st2 sm2 rp2 => ?_
  rw [mB_ok e2] at z
  obtain ⟨d3, e3⟩ := AftE.mO z
  rw [mO_some e3] at z
  exact h2 B σ sd2 H2 v v2 d d2 d3 Q st2.rel (.val (rp1.carry st2.carry)) rp2 e3 fun v3 H3 st3 sm3 rp3 => z v3 H3 ((st1.trans st2).trans st3) (fun e => (same_and sm1 sm2 e).trans sm3) rp3
theorem de_binP {op : Operator} {f : D → D → Option D} (ho : OpD X (binaryOp op) f) (ha : DP X W q1 a ma) (hb : DP X W true b mb) : DE X W q1 (.BinOp a op b pos) (mBin f ma mb) := by
  obtain ⟨r0, h1, h2⟩ := ho
  refine pe_imp (pe_op h1 ha hb) fun σ H Q ⟨B, sd, r, z⟩ => ?_
  refine bindP r z.parts.1 z.parts.2 fun v H1 d sd1 e1 st1 sm1 rp1 => ?_
  unfold mBin at z
  rw [mB_ok e1] at z
  refine bindP st1.rel (fun c e => (z.parts.1 c e).later st1) z.parts.2 fun v2 H2 d2 sd2 e2 st2 sm2 rp2 => ?_
  rw [mB_ok e2] at z
  obtain ⟨d3, e3⟩ := AftE.mO z
  rw [mO_some e3] at z
  exact h2 B σ sd2 H2 v v2 d d2 d3 Q st2.rel (rp1.same (sm2 rfl) st2) rp2 e3 fun v3 H3 st3 sm3 rp3 => z v3 H3 ((st1.trans st2).trans st3) (fun e => ((sm1 e).trans (sm2 rfl)).trans sm3) rp3
def mBinF (f : D → D → Option (List D)) (ma mb : ME) : MF := mB ma fun x => mB mb fun y => mO (f x y)
theorem df_bin {op : Operator} {f : D → D → Option (List D)} (ho : OpF X (binaryOp op) f) (ha : DP X W q1 a ma) (hb : DP X W true b mb) : DF X W q1 (.BinOp a op b pos) (mBinF f ma mb) := by
  obtain ⟨r0, h1, h2⟩ := ho
  refine pe_imp (pe_op h1 ha hb) fun σ H Q ⟨B, sd, r, z⟩ => ?_
  refine bindP r z.parts.1 z.parts.2 fun v H1 d sd1 e1 st1 sm1 rp1 => ?_
  unfold mBinF at z
  rw [mB_ok e1] at z
  refine bindP st1.rel (fun c e => (z.parts.1 c e).later st1) z.parts.2 fun v2 H2 d2 sd2 e2 st2 sm2 rp2 => ?_
  rw [mB_ok e2] at z
  cases e3 : f d d2 with
  | none => rw [e3] at z; exact z.elim
  | some ds =>
    rw [mO_some e3] at z
    exact h2 B σ sd2 H2 v v2 d d2 ds Q st2.rel (rp1.same (sm2 rfl) st2) rp2 e3 fun p xs hp rp3 => z p xs _ (Fresh.laid (st1.trans st2) hp rp3) fun e => ((sm1 e).trans (sm2 rfl)).trans (same_laid hp)
/-- a comparison -/
def mCmp (f : D → D → Option Bool) (ma mb : ME) : SD → R (Bool × SD) := mB ma fun x => mB mb fun y => mO (f x y)
def mCmpV (f : D → D → Option Bool) (ma mb : ME) : ME := mB ma fun x => mB mb fun y => mO ((f x y).map D.bl)
theorem de_cmp {op : CmpOp} {f : D → D → Option Bool} (ho : OpB X (compareOp op) f) (ha : DP X W q1 a ma) (hb : DP X W true b mb) (hm : behindInMarks op b = false := by first | exact nomark _ | rfl) : DE X W q1 (.Compare a [op] [b] pos) (mCmpV f ma mb) := by
  obtain ⟨r0, h1, h2⟩ := ho
  refine pe_imp (pe_cmpR h1 ha hb hm) fun σ H Q ⟨B, sd, r, z⟩ => ?_
  refine bindP r z.parts.1 z.parts.2 fun v H1 d sd1 e1 st1 sm1 rp1 => ?_
  unfold mCmpV at z
  rw [mB_ok e1] at z
  refine bindP st1.rel (fun c e => (z.parts.1 c e).later st1) z.parts.2 fun v2 H2 d2 sd2 e2 st2 sm2 rp2 => ?_
  rw [mB_ok e2] at z
  cases e3 : f d d2 with
  | none => rw [e3] at z; exact z.elim
  | some k =>
    rw [e3] at z
    exact h2 B σ sd2 H2 v v2 d d2 k Q st2.rel (rp1.same (sm2 rfl) st2) rp2 e3 (z _ H2 (st1.trans st2) (fun e => (sm1 e).trans (sm2 rfl)) (.bl k))
/-- the same where the second may change something: the first is no list that is held -/
theorem de_cmpN {op : CmpOp} {f : D → D → Option Bool} (ho : OpB X (compareOp op) f) (ha : DE X W q1 a ma) (hb : DP X W q2 b mb) (hm : behindInMarks op b = false := by first | exact nomark _ | rfl) : DE X W (q1 && q2) (.Compare a [op] [b] pos) (mCmpV f ma mb) := by
  obtain ⟨r0, h1, h2⟩ := ho
  refine pe_imp (pe_cmpR h1 ha hb hm) fun σ H Q ⟨B, sd, r, z⟩ => ?_
  refine bindE r z.parts.1 z.parts.2 fun v H1 d sd1 e1 st1 sm1 rp1 => ?_
  unfold mCmpV at z
  rw [mB_ok e1] at z
  refine bindP st1.rel (fun c e => (z.parts.1 c e).later st1) z.parts.2 fun v2 H2 d2 sd2 e2 st2 sm2 rp2 => ?_
  rw [mB_ok e2] at z
  cases e3 : f d d2 with
  | none => rw [e3] at z; exact z.elim
  | some k =>
    rw [e3] at z
    exact h2 B σ sd2 H2 v v2 d d2 k Q st2.rel (.val (rp1.carry st2.carry)) rp2 e3 (z _ H2 (st1.trans st2) (same_and sm1 sm2) (.bl k))
theorem dt_cmp {op : CmpOp} {f : D → D → Option Bool} (ho : OpB X (compareOp op) f) (ha : DP X W q1 a ma) (hb : DP X W true b mb) (hm : behindInMarks op b = false := by first | exact nomark _ | rfl) : DT X W q1 (.Compare a [op] [b] pos) (mCmp f ma mb) := by
  obtain ⟨r0, h1, h2⟩ := ho
  refine pt_imp (pt_cmpR h1 ha hb hm) fun σ H Q ⟨B, sd, r, z⟩ => ?_
  refine bindP r z.parts.1 z.parts.2 fun v H1 d sd1 e1 st1 sm1 rp1 => ?_
  unfold mCmp at z
  rw [mB_ok e1] at z
  refine bindP st1.rel (fun c e => (z.parts.1 c e).later st1) z.parts.2 fun v2 H2 d2 sd2 e2 st2 sm2 rp2 => ?_
  rw [mB_ok e2] at z
  cases e3 : f d d2 with
  | none => rw [e3] at z; exact z.elim
  | some k =>
    rw [e3] at z
    exact h2 B σ sd2 H2 v v2 d d2 k _ st2.rel (rp1.same (sm2 rfl) st2) rp2 e3 ⟨k, rfl, z H2 (st1.trans st2) (fun e => (sm1 e).trans (sm2 rfl))⟩
theorem dt_cmpN {op : CmpOp} {f : D → D → Option Bool} (ho : OpB X (compareOp op) f) (ha : DE X W q1 a ma) (hb : DP X W q2 b mb) (hm : behindInMarks op b = false := by first | exact nomark _ | rfl) : DT X W (q1 && q2) (.Compare a [op] [b] pos) (mCmp f ma mb) := by
  obtain ⟨r0, h1, h2⟩ := ho
  refine pt_imp (pt_cmpR h1 ha hb hm) fun σ H Q ⟨B, sd, r, z⟩ => ?_
  refine bindE r z.parts.1 z.parts.2 fun v H1 d sd1 e1 st1 sm1 rp1 => ?_
  unfold mCmp at z
  rw [mB_ok e1] at z
  refine bindP st1.rel (fun c e => (z.parts.1 c e).later st1) z.parts.2 fun v2 H2 d2 sd2 e2 st2 sm2 rp2 => ?_
  rw [mB_ok e2] at z
  cases e3 : f d d2 with
  | none => rw [e3] at z; exact z.elim
  | some k =>
    rw [e3] at z
    exact h2 B σ sd2 H2 v v2 d d2 k _ st2.rel (.val (rp1.carry st2.carry)) rp2 e3 ⟨k, rfl, z H2 (st1.trans st2) (same_and sm1 sm2)⟩
/-- a value that is True or False, as a test -/
def mTst (m : ME) : SD → R (Bool × SD) := mB m fun d => match d with
  | .bl k => mR k
  | _ => fun _ => .bad
theorem dt_val (h : DE X W q e m) (he : ∀ whole, isTrue e X.env whole = (do let v ← whole; standAt e.pos; holding [v] (truthy v)) := by intro _; rfl) : DT X W q e (mTst m) := by
  refine pt_imp (pt_val h he) fun σ H Q ⟨B, sd, r, z⟩ => ?_
  refine bindE r z.parts.1 z.parts.2 fun v H1 d sd1 e1 st1 sm1 rp1 => ?_
  unfold mTst at z
  rw [mB_ok e1] at z
  cases d with
  | bl k =>
    cases rp1
    exact ⟨k, rfl, z H1 st1 sm1⟩
  | _ => exact z.elim
/-- not, and, or -/
def mNotT (t : SD → R (Bool × SD)) : SD → R (Bool × SD) := mB t fun k => mR (!k)
def mAndT (t u : SD → R (Bool × SD)) : SD → R (Bool × SD) := mB t fun k => if k = true then u else mR false
def mOrT (t u : SD → R (Bool × SD)) : SD → R (Bool × SD) := mB t fun k => if k = true then mR true else u
section
variable {t u : SD → R (Bool × SD)} {rest : List Expr}
theorem dt_not (h : DT X W q a t) : DT X W q (.UnaryOp .Not a pos) (mNotT t) := by
  refine pt_imp (pt_not h) fun σ H Q ⟨B, sd, r, z⟩ => ?_
  refine bindT r z.parts.1 z.parts.2 fun H1 k sd1 e1 st1 sm1 => ?_
  unfold mNotT at z
  rw [mB_ok e1] at z
  exact z H1 st1 sm1
theorem dw_and1 (h : DT X W q a t) : DW X W q (.BoolOp .And [a] pos) t := pw_and1 h
theorem dw_or1 (h : DT X W q a t) : DW X W q (.BoolOp .Or [a] pos) t := pw_or1 h
theorem dw_and (h : DT X W q1 a t) (hb : DW X W q2 (.BoolOp .And (b :: rest) pos) u) : DW X W (q1 && q2) (.BoolOp .And (a :: b :: rest) pos) (mAndT t u) := by
  refine pw_imp (pw_and h hb) fun σ H Q ⟨B, sd, r, z⟩ => ?_
  refine bindT r z.parts.1 z.parts.2 fun H1 k sd1 e1 st1 sm1 => ?_
  unfold mAndT at z
  rw [mB_ok e1] at z
  cases k with
  | true =>
    rw [if_pos rfl] at z
    rw [if_pos rfl]
    have u0 : tT X W q2 u σ H1 Q := by
      refine ⟨B, sd1, st1.rel, ?_⟩
      cases e2 : u sd1 with
      | ok p => rw [e2] at z; exact fun H2 st2 sm2 => z H2 (st1.trans st2) (same_and sm1 sm2)
      | exc c => rw [e2] at z; exact z.later st1
      | bad => rw [e2] at z; exact z.elim
    exact u0
  | false =>
    rw [if_neg Bool.false_ne_true]
    exact z H1 st1 fun e => sm1 (by rw [Bool.and_eq_true] at e; exact e.1)
theorem dw_or (h : DT X W q1 a t) (hb : DW X W q2 (.BoolOp .Or (b :: rest) pos) u) : DW X W (q1 && q2) (.BoolOp .Or (a :: b :: rest) pos) (mOrT t u) := by
  refine pw_imp (pw_or h hb) fun σ H Q ⟨B, sd, r, z⟩ => ?_
  refine bindT r z.parts.1 z.parts.2 fun H1 k sd1 e1 st1 sm1 => ?_
  unfold mOrT at z
  rw [mB_ok e1] at z
  cases k with
  | false =>
    rw [if_neg Bool.false_ne_true] at z
    rw [if_neg Bool.false_ne_true]
    have u0 : tT X W q2 u σ H1 Q := by
      refine ⟨B, sd1, st1.rel, ?_⟩
      cases e2 : u sd1 with
      | ok p => rw [e2] at z; exact fun H2 st2 sm2 => z H2 (st1.trans st2) (same_and sm1 sm2)
      | exc c => rw [e2] at z; exact z.later st1
      | bad => rw [e2] at z; exact z.elim
    exact u0
  | true =>
    rw [if_pos rfl]
    exact z H1 st1 fun e => sm1 (by rw [Bool.and_eq_true] at e; exact e.1)
theorem dt_of (h : DW X W q e t) : DT X W q e t := PW.pt h
/-- as values -/
def mAndV (ma mb : ME) : ME := mB ma fun d => match d with
  | .bl true => mb
  | .bl false => mR (.bl false)
  | _ => fun _ => .bad
def mOrV (ma mb : ME) : ME := mB ma fun d => match d with
  | .bl true => mR (.bl true)
  | .bl false => mb
  | _ => fun _ => .bad
theorem AftE.after {B : Amb W.tb} {σ : SV} {sd sd1 : SD} {H H1 : Hp} {Q : VK} {r : R (D × SD)} (st1 : Stp X.K X.mg B σ sd H σ sd1 H1) (sm1 : q1 = true → Same H H1) (z : AftE X.K X.mg B σ sd H W (q1 && q2) Q r) : AftE X.K X.mg B σ sd1 H1 W q2 Q r := by
  cases r with
  | ok p => exact fun v H2 st2 sm2 rp2 => z v H2 (st1.trans st2) (same_and sm1 sm2) rp2
  | exc c => exact z.later st1
  | bad => exact z
theorem AftT.after {B : Amb W.tb} {σ : SV} {sd sd1 : SD} {H H1 : Hp} {Q : Bool → Hp → Prop} {r : R (Bool × SD)} (st1 : Stp X.K X.mg B σ sd H σ sd1 H1) (sm1 : q1 = true → Same H H1) (z : AftT X.K X.mg B σ sd H W (q1 && q2) Q r) : AftT X.K X.mg B σ sd1 H1 W q2 Q r := by
  cases r with
  | ok p => exact fun H2 st2 sm2 => z H2 (st1.trans st2) (same_and sm1 sm2)
  | exc c => exact z.later st1
  | bad => exact z
theorem AftP.after {B : Amb W.tb} {σ : SV} {sd sd1 : SD} {H H1 : Hp} {Q : VK} {r : R (D × SD)} (st1 : Stp X.K X.mg B σ sd H σ sd1 H1) (sm1 : q1 = true → Same H H1) (z : AftP X.K X.mg B σ sd H W (q1 && q2) Q r) : AftP X.K X.mg B σ sd1 H1 W q2 Q r := by
  cases r with
  | ok p => exact fun v H2 st2 sm2 rp2 => z v H2 (st1.trans st2) (same_and sm1 sm2) rp2
  | exc c => exact z.later st1
  | bad => exact z
theorem AftF.after {B : Amb W.tb} {σ : SV} {sd sd1 : SD} {H H1 : Hp} {Q : VK} {r : R (List D × SD)} (st1 : Stp X.K X.mg B σ sd H σ sd1 H1) (sm1 : q1 = true → Same H H1) (z : AftF X.K X.mg B σ sd H W (q1 && q2) Q r) : AftF X.K X.mg B σ sd1 H1 W q2 Q r := by
  cases r with
  | ok p => exact fun p v H2 f2 sm2 => z p v H2 (f2.later st1) (same_and sm1 sm2)
  | exc c => exact z.later st1
  | bad => exact z
theorem de_one (h : DE X W q a ma) {op : BoolOp} : DE X W q (.BoolOp op [a] pos) ma := pe_one h
theorem de_and (h : DE X W q1 a ma) (hb : DE X W q2 (.BoolOp .And (b :: rest) pos) mb) : DE X W (q1 && q2) (.BoolOp .And (a :: b :: rest) pos) (mAndV ma mb) := by
  refine pe_imp (pe_and h hb) fun σ H Q ⟨B, sd, r, z⟩ => ?_
  refine bindE r z.parts.1 z.parts.2 fun v H1 d sd1 e1 st1 sm1 rp1 => ?_
  unfold mAndV at z
  rw [mB_ok e1] at z
  cases d with
  | bl k =>
    cases rp1
    refine ⟨k, rfl, ?_⟩
    cases k with
    | true => exact ⟨B, sd1, st1.rel, z.after st1 sm1⟩
    | false => exact z _ H1 st1 (fun e => sm1 (by rw [Bool.and_eq_true] at e; exact e.1)) (.bl false)
  | _ => exact z.elim
theorem de_or (h : DE X W q1 a ma) (hb : DE X W q2 (.BoolOp .Or (b :: rest) pos) mb) : DE X W (q1 && q2) (.BoolOp .Or (a :: b :: rest) pos) (mOrV ma mb) := by
  refine pe_imp (pe_or h hb) fun σ H Q ⟨B, sd, r, z⟩ => ?_
  refine bindE r z.parts.1 z.parts.2 fun v H1 d sd1 e1 st1 sm1 rp1 => ?_
  unfold mOrV at z
  rw [mB_ok e1] at z
  cases d with
  | bl k =>
    cases rp1
    refine ⟨k, rfl, ?_⟩
    cases k with
    | false => exact ⟨B, sd1, st1.rel, z.after st1 sm1⟩
    | true => exact z _ H1 st1 (fun e => sm1 (by rw [Bool.and_eq_true] at e; exact e.1)) (.bl true)
  | _ => exact z.elim
def mNotV (ma : ME) : ME := mB ma fun d => match d with
  | .bl k => mR (.bl (!k))
  | _ => fun _ => .bad
theorem de_not (h : DE X W q a ma) : DE X W q (.UnaryOp .Not a pos) (mNotV ma) := by
  refine pe_imp (pe_not h) fun σ H Q ⟨B, sd, r, z⟩ => ?_
  refine bindE r z.parts.1 z.parts.2 fun v H1 d sd1 e1 st1 sm1 rp1 => ?_
  unfold mNotV at z
  rw [mB_ok e1] at z
  cases d with
  | bl k =>
    cases rp1
    exact ⟨k, rfl, z _ H1 st1 sm1 (.bl _)⟩
  | _ => exact z.elim
def mIfE (t : SD → R (Bool × SD)) (ma mb : ME) : ME := mB t fun k => if k = true then ma else mb
theorem de_if (hc : DT X W q1 c t) (ha : DE X W q2 a ma) (hb : DE X W q2 b mb) : DE X W (q1 && q2) (.IfExp c a b pos) (mIfE t ma mb) := by
  refine pe_imp (pe_ifExp hc ha hb) fun σ H Q ⟨B, sd, r, z⟩ => ?_
  refine bindT r z.parts.1 z.parts.2 fun H1 k sd1 e1 st1 sm1 => ?_
  unfold mIfE at z
  rw [mB_ok e1] at z
  cases k with
  | true => exact ⟨B, sd1, st1.rel, z.after st1 sm1⟩
  | false => exact ⟨B, sd1, st1.rel, z.after st1 sm1⟩
/-- -n, ~n -/
def mUn (g : Int → Int) (ma : ME) : ME := mB ma fun d => match d with
  | .int i => mR (.int (g i))
  | _ => fun _ => .bad
theorem de_un {op : UnaryOp} {g : Int → Int} (ho : UnR X (unaryOp op) (rU fun i => .int (g i))) (h : DE X W q a ma) : DE X W q (.UnaryOp op a pos) (mUn g ma) := by
  refine pe_imp (pe_un ho h) fun σ H Q ⟨B, sd, r, z⟩ => ?_
  refine bindE r z.parts.1 z.parts.2 fun v H1 d sd1 e1 st1 sm1 rp1 => ?_
  unfold mUn at z
  rw [mB_ok e1] at z
  cases d with
  | int k =>
    cases rp1
    exact ⟨k, rfl, z _ H1 st1 sm1 (.int _)⟩
  | _ => exact z.elim
/-- a < b < c -/
def mChain (f g : D → D → Option Bool) (ma mb mc : ME) : SD → R (Bool × SD) := mB ma fun x => mB mb fun y => mB (mO (f x y)) fun k => if k = true then mB mc fun w => mO (g y w) else mR false
def mChainV (f g : D → D → Option Bool) (ma mb mc : ME) : ME := mB ma fun x => mB mb fun y => mB (mO (f x y)) fun k => if k = true then mB mc fun w => mO ((g y w).map D.bl) else mR (.bl false)
theorem de_chain {op op' : CmpOp} {f g : D → D → Option Bool} (ho : OpB X (compareOp op) f) (ho' : OpB X (compareOp op') g) (ha : DE X W q1 a ma) (hb : DE X W q2 b mb) (hc : DE X W q3 c mc)
    (hm : lastMarks [op, op'] [b, c] = false := by with_unfolding_all rfl) : DE X W (q1 && (q2 && q3)) (.Compare a [op, op'] [b, c] pos) (mChainV f g ma mb mc) := by
  obtain ⟨r0, h1, h2⟩ := ho
  obtain ⟨r1, k1, k2⟩ := ho'
  refine pe_imp (pe_chain h1 k1 ha hb hc hm) fun σ H Q ⟨B, sd, r, z⟩ => ?_
  refine bindE r z.parts.1 z.parts.2 fun v H1 d sd1 e1 st1 sm1 rp1 => ?_
  unfold mChainV at z
  rw [mB_ok e1] at z
  have z := z.after st1 sm1
  refine bindE st1.rel z.parts.1 z.parts.2 fun v2 H2 d2 sd2 e2 st2 sm2 rp2 => ?_
  rw [mB_ok e2] at z
  have z := z.after st2 sm2
  cases e3 : f d d2 with
  | none => rw [e3] at z; exact z.elim
  | some k =>
    rw [e3] at z
    refine h2 B σ sd2 H2 v v2 d d2 k _ st2.rel (.val (rp1.carry st2.carry)) (.val rp2) e3 ⟨k, rfl, ?_⟩
    cases k with
    | true =>
      refine bindE st2.rel z.parts.1 z.parts.2 fun v3 H3 d3 sd3 e4 st3 sm3 rp3 => ?_
      have z : AftE X.K X.mg B σ sd2 H2 W q3 Q (mB mc (fun w => mO ((g d2 w).map D.bl)) sd2) := z
      rw [mB_ok e4] at z
      cases e5 : g d2 d3 with
      | none => rw [e5] at z; exact z.elim
      | some k' =>
        rw [e5] at z
        exact k2 B σ sd3 H3 v2 v3 d2 d3 k' Q st3.rel (.val (rp2.carry st3.carry)) (.val rp3) e5 (z _ H3 st3 sm3 (.bl _))
    | false => exact z _ H2 (Stp.refl st2.rel) (fun _ => Same.refl _) (.bl false)
theorem dt_chain {op op' : CmpOp} {f g : D → D → Option Bool} (ho : OpB X (compareOp op) f) (ho' : OpB X (compareOp op') g) (ha : DE X W q1 a ma) (hb : DE X W q2 b mb) (hc : DE X W q3 c mc)
    (hm : lastMarks [op, op'] [b, c] = false := by with_unfolding_all rfl) : DT X W (q1 && (q2 && q3)) (.Compare a [op, op'] [b, c] pos) (mChain f g ma mb mc) := by
  obtain ⟨r0, h1, h2⟩ := ho
  obtain ⟨r1, k1, k2⟩ := ho'
  refine pt_imp (pt_chain h1 k1 ha hb hc hm) fun σ H Q ⟨B, sd, r, z⟩ => ?_
  refine bindE r z.parts.1 z.parts.2 fun v H1 d sd1 e1 st1 sm1 rp1 => ?_
  unfold mChain at z
  rw [mB_ok e1] at z
  have z := z.after st1 sm1
  refine bindE st1.rel z.parts.1 z.parts.2 fun v2 H2 d2 sd2 e2 st2 sm2 rp2 => ?_
  rw [mB_ok e2] at z
  have z := z.after st2 sm2
  cases e3 : f d d2 with
  | none => rw [e3] at z; exact z.elim
  | some k =>
    rw [e3] at z
    refine h2 B σ sd2 H2 v v2 d d2 k _ st2.rel (.val (rp1.carry st2.carry)) (.val rp2) e3 ⟨k, rfl, ?_⟩
    cases k with
    | true =>
      refine bindE st2.rel z.parts.1 z.parts.2 fun v3 H3 d3 sd3 e4 st3 sm3 rp3 => ?_
      have z : AftT X.K X.mg B σ sd2 H2 W q3 Q (mB mc (fun w => mO (g d2 w)) sd2) := z
      rw [mB_ok e4] at z
      cases e5 : g d2 d3 with
      | none => rw [e5] at z; exact z.elim
      | some k' =>
        rw [e5] at z
        exact k2 B σ sd3 H3 v2 v3 d2 d3 k' _ st3.rel (.val (rp2.carry st3.carry)) (.val rp3) e5 ⟨k', rfl, z H3 st3 sm3⟩
    | false => exact ⟨false, rfl, z H2 (Stp.refl st2.rel) (fun _ => Same.refl _)⟩
end
end
end HD

set_option Elab.async false
set_option linter.all false
set_option autoImplicit false
set_option maxRecDepth 100000
set_option maxHeartbeats 4000000
namespace HD
open PySem PySem.Spec PyProof.Rows L2
section
variable {K : PySem.W.Frag} {mg : Str → Option Value} {Θ : Tix} {B : Amb Θ} {σ : SV} {sd : SD} {H H' : Hp} {T : Addr → Prop}
/-- where nothing is changed -/
theorem Stp.same (r : Rel K mg B σ H sd) (s : Same H H') : Stp K mg B σ sd H σ sd H' := by
  have c : Carry H (Tof B σ sd) H' (Tof B σ sd) := ⟨fun b o e _ _ => s b o e, fun b _ n => n⟩
  refine ⟨⟨r.len, fun i d h => ?_, r.inj, fun a h z => ?_, ⟨fun b o e m ht => s b o (r.ent.keep b o e m ht), fun b h z => ?_⟩, r.io, r.inv.same s⟩, Ext.same s, fun a h => .inl h⟩
  · obtain ⟨v, h1, h2⟩ := r.slots i d h
    exact ⟨v, h1, h2.carry c fun _ o _ _ e => s _ _ e⟩
  · exact r.t0 a h (s.free z)
  · exact r.ent.there b h (s.free z)
theorem rp_atI {ds : List D} {vs : List V} {i : Int} {d : D} (h : Rps K mg H T vs ds) (e : atI ds i = some d) : ∃ v, atI vs i = some v ∧ Rp K mg H T v d := by
  unfold atI at e ⊢
  rw [h.length]
  cases z : ixN ds.length i with
  | none => rw [z] at e; cases e
  | some j =>
    rw [z] at e
    exact h.getD e
end
/-! ### items -/
def dIx : D → D → Option D
  | .lst ds, .int i => atI ds i
  | .tup ds, .int i => atI ds i
  | .str s, .int i => if s.length ≤ sizeLine then (atI s.cps.toList i).map fun c => .str ⟨#[c]⟩ else none
  | _, _ => none
section
variable {X : Cx} {W : WT} {q q1 q2 q3 : Bool} {e a b c : Expr} {es : List Expr} {pos : Pos} {m ma mb mc : ME}
theorem de_ix (ha : DP X W q1 a ma) (hb : DE X W true b mb) (hs : PlainIx b := by exact fun _ _ => rfl) : DE X W q1 (.Subscript a b pos) (mBin dIx ma mb) := by
  refine pe_imp (pe_ix ix_seq ha hb hs) fun σ H Q ⟨B, sd, r, z⟩ => ?_
  refine bindP r z.parts.1 z.parts.2 fun v H1 d sd1 e1 st1 sm1 rp1 => ?_
  unfold mBin at z
  rw [mB_ok e1] at z
  refine bindE st1.rel (fun c e => (z.parts.1 c e).later st1) z.parts.2 fun v2 H2 d2 sd2 e2 st2 sm2 rp2 => ?_
  rw [mB_ok e2] at z
  obtain ⟨d3, e3⟩ := AftE.mO z
  rw [mO_some e3] at z
  have rp1' := rp1.same (sm2 rfl) st2
  have fin : ∀ v, Rp X.K X.mg H2 (Tof B σ sd2) v d3 → Q v H2 := fun v h => z v H2 (st1.trans st2) (fun e => (sm1 e).trans (sm2 rfl)) h
  cases d with
  | lst ds =>
    cases d2 with
    | int i =>
      cases rp2
      obtain ⟨p, xs, rfl, h1, h2⟩ := rp1'.lst'
      obtain ⟨w, g1, g2⟩ := rp_atI h2 e3
      exact .inl ⟨p, xs, i, w, rfl, rfl, h1, g1, fin w g2⟩
    | _ => cases e3
  | tup ds =>
    cases d2 with
    | int i =>
      cases rp2
      obtain ⟨p, xs, rfl, h1, h2⟩ := rp1'.tup
      obtain ⟨w, g1, g2⟩ := rp_atI h2 e3
      exact .inr (.inl ⟨p, xs, i, w, rfl, rfl, h1, g1, fin w g2⟩)
    | _ => cases e3
  | str s =>
    cases d2 with
    | int i =>
      cases rp2
      obtain rfl := rp1'.str
      dsimp only [dIx] at e3
      split at e3
      · rename_i hc
        cases g : atI s.cps.toList i with
        | none => rw [g] at e3; cases e3
        | some c =>
          rw [g] at e3
          cases e3
          exact .inr (.inr ⟨s, i, c, rfl, rfl, hc, g, fin _ (.str _)⟩)
      · cases e3
    | _ => cases e3
  | _ => cases e3
/-! ### built-ins of one thing -/
def CallD (X : Cx) (f : Value) (g : D → Option D) : Prop := ∃ r, CallR X f r ∧ ∀ {Θ : Tix} (B : Amb Θ) (σ : SV) (sd : SD) (H : Hp) (x : V) (dx d : D) (Q : VK), Rel X.K X.mg B σ H sd →
  Rq X.K X.mg H (Tof B σ sd) x dx → g dx = some d → (∀ v H', Stp X.K X.mg B σ sd H σ sd H' → Same H H' → Rp X.K X.mg H' (Tof B σ sd) v d → Q v H') → r [x] H Q
def mFn (g : D → Option D) (ma : ME) : ME := mB ma fun x => mO (g x)
theorem de_b1 {id : String} {x : Str} {p : Pos} {g : D → Option D} (hc : CallD X (.builtin id) g) (hg : Gl X x) (hm : X.mg x = none) (hv : bootBuiltins x = some (.builtin id)) (ha : DP X W q a ma) (hn : x ≠ "__name__" := by decide)
    (hdb : (x == ("__debug__" : Str)) = false := by decide) (na : starEach [a] X.env = (false, eval a X.env) :: starEach [] X.env := by rfl) : DE X W q (.Call (.Name x p) [a] [] pos) (mFn g ma) := by
  obtain ⟨r0, h1, h2⟩ := hc
  refine pe_imp (pe_callB h1 hg hm hv (pa_cons ha pa_nil na) hn hdb na) fun σ H Q ⟨B, sd, r, z⟩ => ?_
  refine bindP r z.parts.1 z.parts.2 fun v H1 d sd1 e1 st1 sm1 rp1 => ?_
  unfold mFn at z
  rw [mB_ok e1] at z
  obtain ⟨d3, e3⟩ := AftE.mO z
  rw [mO_some e3] at z
  exact h2 B σ sd1 H1 v d d3 Q st1.rel rp1 e3 fun v3 H3 st3 sm3 rp3 => z v3 H3 (st1.trans st3) (fun e => (sm1 e).trans sm3) rp3
theorem de_t1 {T : String} {x : Str} {p : Pos} {g : D → Option D} (hc : CallD X (.type T) g) (hg : Gl X x) (hm : X.mg x = none) (hv : bootBuiltins x = some (.type T)) (ha : DP X W q a ma) (hn : x ≠ "__name__" := by decide)
    (hdb : (x == ("__debug__" : Str)) = false := by decide) (na : starEach [a] X.env = (false, eval a X.env) :: starEach [] X.env := by rfl) : DE X W q (.Call (.Name x p) [a] [] pos) (mFn g ma) := by
  obtain ⟨r0, h1, h2⟩ := hc
  refine pe_imp (pe_callTy h1 hg hm hv (pa_cons ha pa_nil na) hn hdb na) fun σ H Q ⟨B, sd, r, z⟩ => ?_
  refine bindP r z.parts.1 z.parts.2 fun v H1 d sd1 e1 st1 sm1 rp1 => ?_
  unfold mFn at z
  rw [mB_ok e1] at z
  obtain ⟨d3, e3⟩ := AftE.mO z
  rw [mO_some e3] at z
  exact h2 B σ sd1 H1 v d d3 Q st1.rel rp1 e3 fun v3 H3 st3 sm3 rp3 => z v3 H3 (st1.trans st3) (fun e => (sm1 e).trans sm3) rp3
def dLen : D → Option D
  | .lst ds => some (.int ds.length)
  | .tup ds => some (.int ds.length)
  | .str s => if s.length ≤ sizeLine then some (.int s.length) else none
  | _ => none
theorem c_len : CallD X (.builtin "len") dLen := by
  refine ⟨_, call_len, fun B σ sd H x dx d Q r h e q => ?_⟩
  cases dx with
  | lst ds =>
    cases e
    obtain ⟨p, xs, rfl, h1, h2⟩ := h.lst'
    exact ⟨_, xs.length, rfl, .inl ⟨xs, h1, rfl⟩, by rw [h2.length]; exact q _ H (Stp.refl r) (Same.refl H) (.int _)⟩
  | tup ds =>
    cases e
    obtain ⟨p, xs, rfl, h1, h2⟩ := h.tup
    exact ⟨_, xs.length, rfl, .inr ⟨xs, h1, rfl⟩, by rw [h2.length]; exact q _ H (Stp.refl r) (Same.refl H) (.int _)⟩
  | str s =>
    obtain rfl := h.str
    dsimp only [dLen] at e
    split at e
    · rename_i hc
      cases e
      exact ⟨_, s.length, rfl, ⟨hc, rfl⟩, q _ H (Stp.refl r) (Same.refl H) (.int _)⟩
    · cases e
  | _ => cases e
def blOf : D → Option Bool
  | .bl b => some b
  | _ => none
def intOf : D → Option Int
  | .int b => some b
  | _ => none
def allOf {α : Type} (f : D → Option α) : List D → Option (List α)
  | [] => some []
  | d :: ds => match f d, allOf f ds with
    | some x, some xs => some (x :: xs)
    | _, _ => none
theorem allOf_bl : ∀ {ds : List D} {bs : List Bool}, allOf blOf ds = some bs → ds = bs.map D.bl
  | [], _, h => by cases h; rfl
  | d :: ds, bs, h => by
    unfold allOf at h
    cases e1 : blOf d with
    | none => rw [e1] at h; cases h
    | some b =>
      cases e2 : allOf blOf ds with
      | none => rw [e1, e2] at h; cases h
      | some r =>
        rw [e1, e2] at h
        cases h
        rw [allOf_bl e2]
        cases d <;> cases e1
        rfl
theorem allOf_int : ∀ {ds : List D} {bs : List Int}, allOf intOf ds = some bs → ds = bs.map D.int
  | [], _, h => by cases h; rfl
  | d :: ds, bs, h => by
    unfold allOf at h
    cases e1 : intOf d with
    | none => rw [e1] at h; cases h
    | some b =>
      cases e2 : allOf intOf ds with
      | none => rw [e1, e2] at h; cases h
      | some r =>
        rw [e1, e2] at h
        cases h
        rw [allOf_int e2]
        cases d <;> cases e1
        rfl
theorem allOf_ints (ns : List Int) : allOf intOf (ns.map D.int) = some ns := by
  induction ns with
  | nil => rfl
  | cons n ns ih =>
    rw [List.map_cons]
    unfold allOf
    rw [ih]
    rfl
theorem allOf_bls (ns : List Bool) : allOf blOf (ns.map D.bl) = some ns := by
  induction ns with
  | nil => rfl
  | cons n ns ih =>
    rw [List.map_cons]
    unfold allOf
    rw [ih]
    rfl
def dAll : D → Option D
  | .lst ds => (allOf blOf ds).map fun bs => .bl (bs.all id)
  | _ => none
def dAny : D → Option D
  | .lst ds => (allOf blOf ds).map fun bs => .bl (bs.any id)
  | _ => none
def dSum : D → Option D
  | .lst ds => (allOf intOf ds).map fun bs => .int bs.sum
  | _ => none
theorem c_all (hc : X.calm = true) : CallD X (.builtin "all") dAll := by
  refine ⟨_, cr_all hc, fun B σ sd H x dx d Q r h e q => ?_⟩
  cases dx with
  | lst ds =>
    dsimp only [dAll] at e
    cases z : allOf blOf ds with
    | none => rw [z] at e; cases e
    | some bs =>
      rw [z] at e
      cases e
      obtain ⟨p, xs, rfl, h1, h2⟩ := h.lst'
      rw [allOf_bl z] at h2
      rw [h2.bls] at h1
      exact ⟨p, bs, rfl, h1, q _ H (Stp.refl r) (Same.refl H) (.bl _)⟩
  | _ => cases e
theorem c_any (hc : X.calm = true) : CallD X (.builtin "any") dAny := by
  refine ⟨_, cr_any hc, fun B σ sd H x dx d Q r h e q => ?_⟩
  cases dx with
  | lst ds =>
    dsimp only [dAny] at e
    cases z : allOf blOf ds with
    | none => rw [z] at e; cases e
    | some bs =>
      rw [z] at e
      cases e
      obtain ⟨p, xs, rfl, h1, h2⟩ := h.lst'
      rw [allOf_bl z] at h2
      rw [h2.bls] at h1
      exact ⟨p, bs, rfl, h1, q _ H (Stp.refl r) (Same.refl H) (.bl _)⟩
  | _ => cases e
theorem c_sum (hc : X.calm = true) : CallD X (.builtin "sum") dSum := by
  refine ⟨_, cr_sum hc, fun B σ sd H x dx d Q r h e q => ?_⟩
  cases dx with
  | lst ds =>
    dsimp only [dSum] at e
    cases z : allOf intOf ds with
    | none => rw [z] at e; cases e
    | some bs =>
      rw [z] at e
      cases e
      obtain ⟨p, xs, rfl, h1, h2⟩ := h.lst'
      rw [allOf_int z] at h2
      rw [h2.ints] at h1
      exact ⟨p, bs, rfl, h1, q _ H (Stp.refl r) (Same.refl H) (.int _)⟩
  | _ => cases e
def dAbs : D → Option D
  | .int i => some (.int (if i < 0 then -i else i))
  | _ => none
theorem c_abs : CallD X (.builtin "abs") dAbs := by
  refine ⟨_, call_abs, fun B σ sd H x dx d Q r h e q => ?_⟩
  cases dx with
  | int i =>
    cases e
    obtain rfl := h.int
    exact ⟨i, rfl, q _ H (Stp.refl r) (Same.refl H) (.int _)⟩
  | _ => cases e
def dInt : D → Option D
  | .int i => some (.int i)
  | .bl k => some (.int (if k then 1 else 0))
  | _ => none
theorem c_int : CallD X (.type "int") dInt := by
  refine ⟨_, call_int1, fun B σ sd H x dx d Q r h e q => ?_⟩
  cases dx with
  | int i =>
    cases e
    obtain rfl := h.int
    exact .inl ⟨i, rfl, q _ H (Stp.refl r) (Same.refl H) (.int _)⟩
  | bl i =>
    cases e
    obtain rfl := h.bl
    exact .inr ⟨i, rfl, q _ H (Stp.refl r) (Same.refl H) (.int _)⟩
  | _ => cases e
def dTuple : D → Option D
  | .lst ds => some (.tup ds)
  | .tup ds => some (.tup ds)
  | _ => none
theorem c_tuple : CallD X (.type "tuple") dTuple := by
  refine ⟨_, call_tuple_of, fun B σ sd H x dx d Q r h e q => ?_⟩
  cases dx with
  | lst ds =>
    cases e
    obtain ⟨p, xs, rfl, h1, h2⟩ := h.lst'
    exact ⟨p, xs, rfl, .inl ⟨h1, fun l hl => q _ _ (Stp.laid r hl) (same_laid hl) (rp_tup r hl h2)⟩⟩
  | tup ds =>
    cases e
    obtain ⟨p, xs, rfl, h1, h2⟩ := h.tup
    exact ⟨p, xs, rfl, .inr ⟨h1, q _ H (Stp.refl r) (Same.refl H) (.tup h1 h2)⟩⟩
  | _ => cases e
/-! max, min of two -/
def mBin2 (f : D → D → Option D) (ma mb : ME) : ME := mB ma fun x => mB mb fun y => mO (f x y)
theorem de_b2 {id : String} {x : Str} {p : Pos} {g : D → D → Option D} {r0 : List V → Hp → VK → Prop} (hc : CallR X (.builtin id) r0)
    (h2 : ∀ (i j : V) (di dj d : D) (H : Hp) (Q : VK) (K : PySem.W.Frag) (mg : Str → Option Value) (T : Addr → Prop), Rp K mg H T i di → Rp K mg H T j dj → g di dj = some d → (∀ v, (∀ K mg H T, Rp K mg H T v d) → Q v H) → r0 [i, j] H Q)
    (hg : Gl X x) (hm : X.mg x = none) (hv : bootBuiltins x = some (.builtin id)) (ha : DE X W q1 a ma) (hb : DE X W q2 b mb) (hn : x ≠ "__name__" := by decide)
    (hdb : (x == ("__debug__" : Str)) = false := by decide) (na : starEach [a, b] X.env = (false, eval a X.env) :: starEach [b] X.env := by rfl) (nb : starEach [b] X.env = (false, eval b X.env) :: starEach [] X.env := by rfl) : DE X W (q1 && q2) (.Call (.Name x p) [a, b] [] pos) (mBin2 g ma mb) := by
  refine pe_imp (pe_callB hc hg hm hv (pa_cons ha (pa_cons hb pa_nil nb) na) hn hdb na (by rw [nb]; rfl)) fun σ H Q ⟨B, sd, r, z⟩ => ?_
  refine bindE r z.parts.1 z.parts.2 fun v H1 d sd1 e1 st1 sm1 rp1 => ?_
  unfold mBin2 at z
  rw [mB_ok e1] at z
  refine bindE st1.rel (fun c e => (z.parts.1 c e).later st1) z.parts.2 fun v2 H2 d2 sd2 e2 st2 sm2 rp2 => ?_
  rw [mB_ok e2] at z
  obtain ⟨d3, e3⟩ := AftE.mO z
  rw [mO_some e3] at z
  exact h2 v v2 d d2 d3 H2 Q X.K X.mg (Tof B σ sd2) (rp1.carry st2.carry) rp2 e3 fun v h => z v H2 (st1.trans st2) (same_and sm1 sm2) (h _ _ _ _)
def dMax := f2I fun i j => some (if j > i then j else i)
def dMin := f2I fun i j => some (if j < i then j else i)
theorem de_max {p : Pos} (hc : X.calm = true) (hg : Gl X "max") (hm : X.mg "max" = none) (ha : DE X W q1 a ma) (hb : DE X W q2 b mb) (na : starEach [a, b] X.env = (false, eval a X.env) :: starEach [b] X.env := by rfl) (nb : starEach [b] X.env = (false, eval b X.env) :: starEach [] X.env := by rfl) : DE X W (q1 && q2) (.Call (.Name "max" p) [a, b] [] pos) (mBin2 dMax ma mb) :=
  de_b2 (call_max2 hc) (fun i j di dj d H Q K mg T h1 h2 e z => by
    cases h1 with
    | int i =>
      cases h2 with
      | int j =>
        cases e
        exact ⟨i, j, rfl, z _ fun _ _ _ _ => .int _⟩
      | _ => cases e
    | _ => cases e) hg hm (by decide +kernel) ha hb (by decide) (by decide) na nb
theorem de_min {p : Pos} (hc : X.calm = true) (hg : Gl X "min") (hm : X.mg "min" = none) (ha : DE X W q1 a ma) (hb : DE X W q2 b mb) (na : starEach [a, b] X.env = (false, eval a X.env) :: starEach [b] X.env := by rfl) (nb : starEach [b] X.env = (false, eval b X.env) :: starEach [] X.env := by rfl) : DE X W (q1 && q2) (.Call (.Name "min" p) [a, b] [] pos) (mBin2 dMin ma mb) :=
  de_b2 (call_min2 hc) (fun i j di dj d H Q K mg T h1 h2 e z => by
    cases h1 with
    | int i =>
      cases h2 with
      | int j =>
        cases e
        exact ⟨i, j, rfl, z _ fun _ _ _ _ => .int _⟩
      | _ => cases e
    | _ => cases e) hg hm (by decide +kernel) ha hb (by decide) (by decide) na nb
/-! isinstance -/
def tyD : D → Option String
  | .non => some "NoneType"
  | .bl _ => some "bool"
  | .int _ => some "int"
  | .str _ => some "str"
  | .tup _ => some "tuple"
  | .lst _ => some "list"
  | _ => none
def dIsi (T : String) (d : D) : Option D := (tyD d).bind fun t => (kitB t T).map .bl
theorem tyX_of {H : Hp} {T : Addr → Prop} {v : V} {d : D} {t : String} (h : Rq X.K X.mg H T v d) (e : tyD d = some t) : TyX X.K H v (.type t) := by
  cases d with
  | non => cases e; obtain rfl := h.non; exact .base .non
  | bl b => cases e; obtain rfl := h.bl; exact .base (.bl b)
  | int b => cases e; obtain rfl := h.int; exact .base (.int b)
  | str b => cases e; obtain rfl := h.str; exact .base (.str b)
  | tup ds =>
    cases e
    obtain ⟨p, xs, rfl, h1, _⟩ := h.tup
    rcases h1 with (h1 | ⟨u, h1⟩) | ⟨o, its, n, h1, h2, _⟩
    · exact .base (.tup h1)
    · exact .fTuple h1
    · exact .kTuple h1 h2
  | lst ds =>
    cases e
    obtain ⟨p, xs, rfl, h1, _⟩ := h.lst'
    rcases h1 with (h1 | ⟨u, h1⟩) | ⟨o, its, n, h1, h2, _⟩
    · exact .base (.lst h1)
    · exact .base (.frz h1)
    · exact .kList h1 h2
  | _ => cases e
theorem de_isi {T : String} {y : Str} {p py : Pos} (hg : Gl X "isinstance") (hm : X.mg "isinstance" = none) (hgy : Gl X y) (hmy : X.mg y = none) (hvy : bootBuiltins y = some (.type T)) (ha : DP X W q a ma)
    (hn : y ≠ "__name__" := by decide) (hdb : (y == ("__debug__" : Str)) = false := by decide) (na : starEach [a, .Name y py] X.env = (false, eval a X.env) :: starEach [.Name y py] X.env := by rfl) : DE X W q (.Call (.Name "isinstance" p) [a, .Name y py] [] pos) (mFn (dIsi T) ma) := by
  refine pe_imp (pe_callB call_isi hg hm (by decide +kernel) (pa_cons ha (pa_cons (pe_bltn hgy hmy hvy (v := .ty T) rfl hn hdb) pa_nil) na) (by decide) (by decide) na (by rfl)) fun σ H Q ⟨B, sd, r, z⟩ => ?_
  refine bindP r z.parts.1 z.parts.2 fun v H1 d sd1 e1 st1 sm1 rp1 => ?_
  unfold mFn at z
  rw [mB_ok e1] at z
  obtain ⟨d3, e3⟩ := AftE.mO z
  rw [mO_some e3] at z
  unfold dIsi at e3
  cases w1 : tyD d with
  | none => rw [w1] at e3; cases e3
  | some t =>
    cases w2 : kitB t T with
    | none => rw [w1] at e3; simp only [Option.bind, w2] at e3; cases e3
    | some k =>
      rw [w1] at e3
      simp only [Option.bind, w2] at e3
      cases e3
      exact ⟨v, .ty T, .type t, .type T, k, rfl, .ty T, tyX_of rp1 w1, kit_ty w2, z _ H1 st1 sm1 (.bl _)⟩
/-! len(set(numbers)) -/
def dLenSet : D → Option D
  | .lst ds => (allOf intOf ds).bind fun ns => if ns.length ≤ 4000 then some (.int (ns.foldl step_dedup ([] : List Int)).length) else none
  | _ => none
theorem firstMet_all (ns : List Int) : firstMet (fun i => ns.getD i 0) ns.length = ns.foldl step_dedup [] := by
  unfold firstMet
  congr 1
  apply List.ext_getElem
  · simp
  · intro i h1 h2
    simp only [List.getElem_map, List.getElem_range]
    rw [List.getD_eq_getElem?_getD, List.getElem?_eq_getElem h2]
    rfl
theorem de_lenSet {p p2 p3 : Pos} (hc : X.calm = true) (hg : Gl X "len") (hm : X.mg "len" = none) (hg2 : Gl X "set") (hm2 : X.mg "set" = none) (ha : DP X W q a ma)
    (na : starEach [a] X.env = (false, eval a X.env) :: starEach [] X.env := by rfl) : DE X W q (.Call (.Name "len" p) [.Call (.Name "set" p2) [a] [] p3] [] pos) (mFn dLenSet ma) := by
  refine ⟨fun pins s σ H Q I ⟨B, sd, r, z⟩ => ?_⟩
  have hP : tP X W q ma σ H (fun v H1 => ∃ (l : Addr) (ns : List Int), v = .ref l ∧ SqL X.K H1 l (ns.map V.int) ∧ ns.length ≤ 4000 ∧ Q (.int ((ns.foldl step_dedup ([] : List Int)).length : Nat)) H1) := by
    refine bindP r z.parts.1 z.parts.2 fun v H1 d sd1 e1 st1 sm1 rp1 => ?_
    unfold mFn at z
    rw [mB_ok e1] at z
    obtain ⟨d3, e3⟩ := AftE.mO z
    rw [mO_some e3] at z
    cases d with
    | lst ds =>
      dsimp only [dLenSet] at e3
      cases w : allOf intOf ds with
      | none => rw [w] at e3; cases e3
      | some ns =>
        rw [w] at e3
        simp only [Option.bind] at e3
        split at e3
        · rename_i hl
          cases e3
          obtain ⟨l, xs, rfl, h1, h2⟩ := rp1.lst'
          rw [allOf_int w] at h2
          rw [h2.ints] at h1
          exact ⟨l, ns, rfl, h1, hl, z _ H1 st1 sm1 (.int _)⟩
        · cases e3
    | _ => cases e3
  refine Call_ (ld_blt I hg hm boot_len (callWith_builtin1 (args_cons (Call_ (ld_blt I hg2 hm2 boot_set (callWith_type1 (args_cons (thn (ha.run pins s σ H _ I hP) fun v s1 h1 => args_nil ?_) na) na rfl))) rfl) rfl rfl))
  obtain ⟨y, H1, I1, r1, l, ns, rfl, hl, hz, hQ⟩ := h1
  cases r1
  obtain ⟨its, rv, pl, _⟩ := I1.list hl
  have sz : its.toArray.size = ns.length := by
    have := rv.length
    rw [List.length_map] at this
    rw [List.size_toArray, this]
  refine call_set_list (I1.ok.hd hc) pl.isList (by simpa using RZ.intsAre_vals rv) (by rw [sz]; unfold scanBound; omega) fun h' tk hS hk => args_nil ?_
  rw [sz, firstMet_all] at hS
  obtain ⟨o, es, ep, t, ho, hex, hd, _, _, hb, hf, hn⟩ := hS
  have I2 : Inv X pins σ H1 { s1 with heap := h', toks := tk } := I1.kept fun b o e => hk b o (Heap.lt_size e) e
  refine call_len_set ho hex hd hf ?_ ⟨.int ((ns.foldl step_dedup ([] : List Int)).length : Nat), H1, I2.tok _, ⟨_, by rw [hn]⟩, hQ⟩
  have : scanBound = 4096 := rfl
  omega
/-! ### changes of a list that is held -/
/-- a list that is held, behind a change -/
theorem Rel.changed {K : PySem.W.Frag} {mg : Str → Option Value} {Θ : Tix} {B : Amb Θ} {σ : SV} {sd : SD} {H : Hp} {i : Nat} {a : Addr} {ds ds' : List D} {xs' : List V} (r : Rel K mg B σ H sd) (h1 : σ[i]? = some (some (.ref a))) (h2 : sd[i]? = some (some (.own ds)))
    (rv : Rps K mg H (Tof B σ sd) xs' ds') : Stp K mg B σ sd H σ (sd.set i (some (.own ds'))) (upd H a (.lst xs')) := by
  have ho : OwnAt σ sd i a := ⟨h1, _, h2, rfl⟩
  obtain ⟨n0, he⟩ := r.ownT0 ⟨i, ho⟩
  obtain ⟨v, e1, sl⟩ := r.slots i _ h2
  rw [h1] at e1
  cases e1
  obtain ⟨xs, hH⟩ : ∃ xs, H a = some (.lst xs) := by
    cases sl with
    | val n _ => cases n
    | own e _ _ _ => exact ⟨_, e⟩
  have hi : i < sd.length := by
    rcases Nat.lt_or_ge i sd.length with z | z
    · exact z
    · rw [List.getElem?_eq_none z] at h2; cases h2
  have same : ∀ j b, OwnAt σ (sd.set i (some (.own ds'))) j b ↔ OwnAt σ sd j b := fun j b => by
    constructor
    · rintro ⟨q1, d, q2, q3⟩
      by_cases z : i = j
      · subst z
        exact ⟨q1, _, h2, rfl⟩
      · rw [List.getElem?_set_ne z] at q2
        exact ⟨q1, d, q2, q3⟩
    · rintro ⟨q1, d, q2, q3⟩
      by_cases z : i = j
      · subst z
        exact ⟨q1, _, List.getElem?_set_self hi, rfl⟩
      · exact ⟨q1, d, by rw [List.getElem?_set_ne z]; exact q2, q3⟩
  have own : ∀ b, Own σ (sd.set i (some (.own ds'))) b ↔ Own σ sd b := fun b => ⟨fun ⟨j, h⟩ => ⟨j, (same j b).mp h⟩, fun ⟨j, h⟩ => ⟨j, (same j b).mpr h⟩⟩
  have ex : Ext (Own σ sd) H (upd H a (.lst xs')) := ⟨fun b o e m _ => by
    by_cases z : b = a
    · subst z
      rw [hH] at e
      cases e
      have := m ⟨i, ho⟩
      cases this
    · rw [upd_ne z]; exact e, fun b h => by
    by_cases z : b = a
    · rw [z, upd_same]; exact fun w => nomatch w
    · rw [upd_ne z]; exact h⟩
  have c : Carry H (Tof B σ sd) (upd H a (.lst xs')) (Tof B σ (sd.set i (some (.own ds')))) := ⟨fun b o e m ht => ex.keep b o e (fun z => m (.inr z)) ht, fun b _ n t => n (t.elim .inl fun t => .inr ((own b).mp t))⟩
  refine ⟨⟨by rw [List.length_set]; exact r.len, fun j d hj => ?_, fun j k b q1 q2 => r.inj j k b ((same j b).mp q1) ((same k b).mp q2), fun b h => ex.there b (r.t0 b h), ⟨fun b o e m ht => ?_, fun b h => ex.there b (r.ent.there b h)⟩, fun b e => (same 0 b).mpr (r.io b e), ?_⟩, ex, fun b h => .inl ((own b).mp h)⟩
  · by_cases z : i = j
    · subst z
      rw [List.getElem?_set_self hi] at hj
      cases hj
      exact ⟨.ref a, h1, .own upd_same (rv.carry c) n0 he⟩
    · rw [List.getElem?_set_ne z] at hj
      obtain ⟨w, g1, g2⟩ := r.slots j d hj
      refine ⟨w, g1, g2.carry c fun b o ev eo hb => ?_⟩
      have : b ≠ a := fun y => z (r.inj i j a ho ⟨by rw [g1, ev, y], d, hj, eo⟩)
      rw [upd_ne this]
      exact hb
  · have e2 := r.ent.keep b o e m ht
    by_cases z : b = a
    · subst z
      rcases he with he | he
      · rw [he] at e; cases e
      · rw [hH] at e2
        cases e2
        have := m he
        cases this
    · rw [upd_ne z]
      exact e2
  · exact r.inv.keep (fun b => b = a) (fun b hb => by rw [hb]; exact ⟨_, hH, .inl ⟨_, rfl⟩⟩) fun b o e n => by rw [upd_ne n]; exact e
def ownAt (i : Nat) (sd : SD) : Option (List D) := match sd[i]? with
  | some (some (.own ds)) => some ds
  | _ => none
theorem ownAt_ok {i : Nat} {sd : SD} {ds : List D} (h : ownAt i sd = some ds) : sd[i]? = some (some (.own ds)) := by
  unfold ownAt at h
  split at h
  · rename_i e
    cases h
    exact e
  · cases h
theorem Rel.ownList {K : PySem.W.Frag} {mg : Str → Option Value} {Θ : Tix} {B : Amb Θ} {σ : SV} {sd : SD} {H : Hp} {i : Nat} {ds : List D} (r : Rel K mg B σ H sd) (h : ownAt i sd = some ds) :
    ∃ a xs, σ[i]? = some (some (.ref a)) ∧ H a = some (.lst xs) ∧ Rps K mg H (Tof B σ sd) xs ds := by
  obtain ⟨v, h1, h2⟩ := r.slots i _ (ownAt_ok h)
  cases h2 with
  | val n _ => cases n
  | own e p _ _ => exact ⟨_, _, h1, e, p⟩
/-- x.append(e) -/
def mApp (i : Nat) (m : ME) : MS := fun sd => match ownAt i sd with
  | some _ => mBS m (fun d sd => match ownAt i sd with
    | some ds => if ds.length < sizeLine then .ok (.nx (sd.set i (some (.own (ds ++ [d]))))) else .bad
    | none => .bad) sd
  | none => .bad
theorem ds_append (i : Nat) {x : Str} {px p1 p2 : Pos} (h : DE X W q e m) (hN : X.N[i]? = some x := by rfl) (hv : Vis X.env.scope x := by first | exact Or.inl rfl | exact Or.inr (Or.inl rfl) | exact Or.inr (Or.inr rfl)) (hd : (x == ("__debug__" : Str)) = false := by decide)
    (hcd : (x == ("__classdict__" : Str)) = false := by decide)
    (hpe : ∀ {to te : TE}, PE X (.Name x px) to → PE X e te → PE X (.Call (.Attribute (.Name x px) "append" p1) [e] [] p2) (tBM X.K "list" rAppend to (tCons te tNil)) := by exact fun h1 h2 => pe_bm PySem.F.plainAttrs_list PySem.F.slot_list_append PySem.F.type_list_append mt_append h1 (pa_cons h2 pa_nil))
    (hs : swapsWith (.Call (.Attribute (.Name x px) "append" p1) [e] [] p2) none pos.line X.env = pure false := by rfl) :
    DS X W (.Expr (.Call (.Attribute (.Name x px) "append" p1) [e] [] p2) pos) (mApp i m) := by
  refine ps_imp (ps_expr (hpe (pv i hN hv hd hcd) h) hs) fun Dn σ H ⟨B, sd, r, z⟩ => ?_
  unfold mApp at z
  cases e0 : ownAt i sd with
  | none => rw [e0] at z; exact z.elim
  | some ds0 =>
    rw [e0] at z
    simp only at z
    obtain ⟨a, xs0, g1, g2, g3⟩ := r.ownList e0
    refine ⟨.ref a, g1, .inl ⟨rfl, xs0, SqL.of g2⟩, ?_⟩
    refine bindSE r z.parts fun v H1 d sd1 e1 st1 _ rp1 => ?_
    rw [mBS_ok e1] at z
    cases e2 : ownAt i sd1 with
    | none => rw [e2] at z; exact z.elim
    | some ds =>
      rw [e2] at z
      simp only at z
      split at z
      · rename_i hz
        obtain ⟨a', xs, k1, k2, k3⟩ := st1.rel.ownList e2
        rw [g1] at k1
        cases k1
        refine ⟨a, xs, v, rfl, rfl, k2, by rw [k3.length]; exact hz, ?_⟩
        exact z σ _ (st1.trans (st1.rel.changed g1 (ownAt_ok e2) (k3.append (.cons rp1 .nil))))
      · exact z.elim
/-- x[j] = e -/
def mPutIx (i : Nat) (m mj : ME) : MS := mBS m fun d sd => match ownAt i sd with
  | some _ => mBS mj (fun k sd => match ownAt i sd, k with
    | some ds, .int k => (match ixN ds.length k with
      | some j => .ok (.nx (sd.set i (some (.own (ds.set j d)))))
      | none => .bad)
    | _, _ => .bad) sd
  | none => .bad
theorem ds_putIx (i : Nat) {x : Str} {px p1 : Pos} (h : DE X W q1 e m) (hj : DE X W q2 b mb) (hN : X.N[i]? = some x := by rfl) (hv : Vis X.env.scope x := by first | exact Or.inl rfl | exact Or.inr (Or.inl rfl) | exact Or.inr (Or.inr rfl)) (hd : (x == ("__debug__" : Str)) = false := by decide)
    (hcd : (x == ("__classdict__" : Str)) = false := by decide)
    (hpe : ∀ {to ti te : TE}, PE X (.Name x px) to → PE X b ti → PE X e te → PS X (.Assign [.Subscript (.Name x px) b p1] e pos) (tAsg te (gSub to ti rSetL)) := by exact fun h1 h2 h3 => ps_asg h3 (pg_sub h1 h2 set_list)) :
    DS X W (.Assign [.Subscript (.Name x px) b p1] e pos) (mPutIx i m mb) := by
  refine ps_imp (hpe (pv i hN hv hd hcd) hj h) fun Dn σ H ⟨B, sd, r, z⟩ => ?_
  refine bindSE r z.parts fun v H1 d sd1 e1 st1 _ rp1 => ?_
  unfold mPutIx at z
  rw [mBS_ok e1] at z
  have z := z.later st1
  cases e0 : ownAt i sd1 with
  | none => rw [e0] at z; exact z.elim
  | some ds0 =>
    rw [e0] at z
    simp only at z
    obtain ⟨a, xs0, g1, g2, g3⟩ := st1.rel.ownList e0
    refine ⟨.ref a, g1, ?_⟩
    refine bindSE st1.rel z.parts fun v2 H2 k sd2 e2 st2 _ rp2 => ?_
    rw [mBS_ok e2] at z
    cases e3 : ownAt i sd2 with
    | none => rw [e3] at z; exact z.elim
    | some ds =>
      rw [e3] at z
      cases k with
      | int k =>
        simp only at z
        cases e4 : ixN ds.length k with
        | none => rw [e4] at z; exact z.elim
        | some j =>
          rw [e4] at z
          cases rp2
          obtain ⟨a', xs, k1, k2, k3⟩ := st2.rel.ownList e3
          rw [g1] at k1
          cases k1
          refine ⟨a, xs, k, j, rfl, rfl, k2, by rw [k3.length]; exact e4, ?_⟩
          exact z σ _ (st2.trans (st2.rel.changed g1 (ownAt_ok e3) (k3.set (rp1.carry st2.carry) j)))
      | _ => exact z.elim
end
end HD

set_option Elab.async false
set_option linter.all false
set_option autoImplicit false
set_option maxRecDepth 100000
set_option maxHeartbeats 4000000
namespace HD
open PySem PySem.Spec PyProof.Rows L2
/-! ### the promises -/
/-- a plain def: a value of its arguments' values -/
def spD (K : PySem.W.Frag) (mg : Str → Option Value) (n : Nat) (G : List D → R D) : Sp := fun vs H Q E => ∃ (T0 : Addr → Prop) (ds : List D), ds.length = n ∧ (∀ a, T0 a → H a ≠ none) ∧ Rps K mg H T0 vs ds ∧ match G ds with
  | .ok d => ∀ v H', Same H H' → Rp K mg H' T0 v d → Q v H'
  | .exc c => ∀ H', Same H H' → ∀ C : Addr, mg c = some (.ref C) → E (.ref C) none H'
  | .bad => False
/-- .. that hands back a new list -/
def spF (K : PySem.W.Frag) (mg : Str → Option Value) (n : Nat) (G : List D → R (List D)) : Sp := fun vs H Q E => ∃ (T0 : Addr → Prop) (ds : List D), ds.length = n ∧ (∀ a, T0 a → H a ≠ none) ∧ Rps K mg H T0 vs ds ∧ match G ds with
  | .ok es => ∀ p xs H', Same H H' → H p = none → H' p = some (.lst xs) → Rps K mg H' (fun a => T0 a ∨ a = p) xs es → Q (.ref p) H'
  | .exc c => ∀ H', Same H H' → ∀ C : Addr, mg c = some (.ref C) → E (.ref C) none H'
  | .bad => False
/-- .. that changes the list it is handed first -/
def spM (K : PySem.W.Frag) (mg : Str → Option Value) (n : Nat) (G : List D → List D → R (D × List D)) : Sp := fun vs H Q E => ∃ (T0 : Addr → Prop) (a : Addr) (xs : List V) (ws : List V) (as ds : List D), vs = .ref a :: ws ∧ ds.length + 1 = n ∧ (∀ b, T0 b → H b ≠ none) ∧ T0 a ∧ H a = some (.lst xs) ∧
  Rps K mg H T0 xs as ∧ Rps K mg H T0 ws ds ∧ match G as ds with
  | .ok (d, bs) => ∀ v ys H', Ext (fun b => b = a) H H' → (∀ b ps, H b = some (.tbl ps) → H' b = some (.tbl ps)) → H' a = some (.lst ys) → Rps K mg H' T0 ys bs → Rp K mg H' T0 v d → Q v H'
  | _ => False
theorem Rp.noOwn {K : PySem.W.Frag} {mg : Str → Option Value} {H : Hp} {T : Addr → Prop} {v : V} {d : D} (h : Rp K mg H T v d) : isOwn d = false := by cases h <;> rfl
/-- a def that makes lambdas: its tables grow -/
def spT (T : List (Addr × Str)) (K : PySem.W.Frag) (mg : Str → Option Value) (n : Nat) (G : List D → R D) : Sp := fun vs H Q E => ∃ (T0 : Addr → Prop) (ds : List D), ds.length = n ∧ LamX.Tabs T H ∧ (∀ a, T0 a → H a ≠ none) ∧ Rps K mg H T0 vs ds ∧ match G ds with
  | .ok d => ∀ v H', Ext (fun _ => False) H H' → LamX.Tabs T H' → Rp K mg H' T0 v d → Q v H'
  | .exc c => ∀ H', Ext (fun _ => False) H H' → LamX.Tabs T H' → ∀ C : Addr, mg c = some (.ref C) → E (.ref C) none H'
  | .bad => False
def startD (n : Nat) (ds : List D) : SD := ds.map some ++ List.replicate (n - ds.length) none
def runD (m : MS) (n : Nat) (ds : List D) : R D := match m (startD n ds) with
  | .ok (.nx _) => .ok .non
  | .ok (.rt d _) => .ok d
  | .ok (.rf es _) => .ok (.lst es)
  | .exc c => .exc c
  | _ => .bad
def runF (m : MS) (n : Nat) (ds : List D) : R (List D) := match m (startD n ds) with
  | .ok (.rf es _) => .ok es
  | .exc c => .exc c
  | _ => .bad
def startM (n : Nat) (as ds : List D) : SD := some (.own as) :: (ds.map some ++ List.replicate (n - (ds.length + 1)) none)
def runM (m : MS) (n : Nat) (as ds : List D) : R (D × List D) := match m (startM n as ds) with
  | .ok (.nx sd) => (match ownAt 0 sd with
    | some bs => .ok (.non, bs)
    | none => .bad)
  | .ok (.rt d sd) => (match ownAt 0 sd with
    | some bs => .ok (d, bs)
    | none => .bad)
  | .ok (.rf es sd) => (match ownAt 0 sd with
    | some bs => .ok (.lst es, bs)
    | none => .bad)
  | _ => .bad
section
variable {K : PySem.W.Frag} {mg : Str → Option Value} {H : Hp} {T0 : Addr → Prop} {vs : List V} {ds : List D} {N : List Str}
theorem start_get {i : Nat} {v : V} (h : vs[i]? = some v) : (L2.start N vs)[i]? = some (some v) := by
  have hi : i < vs.length := by
    rcases Nat.lt_or_ge i vs.length with z | z
    · exact z
    · rw [List.getElem?_eq_none z] at h; cases h
  unfold L2.start
  rw [List.getElem?_append_left (by rw [List.length_map]; exact hi), List.getElem?_map, h]
  rfl
theorem startD_get {n i : Nat} {d : D} (h : (startD n ds)[i]? = some (some d)) : ds[i]? = some d := by
  unfold startD at h
  rcases Nat.lt_or_ge i ds.length with z | z
  · rw [List.getElem?_append_left (by rw [List.length_map]; exact z), List.getElem?_map] at h
    cases e : ds[i]? with
    | none => rw [e] at h; cases h
    | some x => rw [e] at h; cases h; rfl
  · rw [List.getElem?_append_right (by rw [List.length_map]; exact z)] at h
    rcases Nat.lt_or_ge (i - (ds.map some).length) (n - ds.length) with y | y
    · rw [List.getElem?_replicate, if_pos y] at h; cases h
    · rw [List.getElem?_eq_none (by simpa using y)] at h; cases h
/-- a plain def's own ambient -/
def ambD {Θ : Tix} (T0 : Addr → Prop) (H : Hp) : Amb Θ := ⟨T0, H, none⟩
theorem rel_start {Θ : Tix} (inv : TInv Θ H H) (hl : vs.length ≤ N.length) (t0 : ∀ a, T0 a → H a ≠ none) (h : Rps K mg H T0 vs ds) : Rel K mg (ambD (Θ := Θ) T0 H) (L2.start N vs) H (startD N.length ds) := by
  have l := h.length
  have no : ∀ i a, ¬ OwnAt (L2.start N vs) (startD N.length ds) i a := fun i a ⟨_, d, h2, h3⟩ => by
    have e := startD_get h2
    obtain ⟨v, _, r⟩ := h.getD e
    rw [r.noOwn] at h3
    cases h3
  refine ⟨?_, fun i d hd => ?_, fun i j a h1 => absurd h1 (no i a), t0, Ext.refl _ _, fun a e => (nomatch e), inv⟩
  · unfold startD L2.start
    simp only [List.length_append, List.length_map, List.length_replicate]
    omega
  · obtain ⟨v, h1, h2⟩ := h.getD (startD_get hd)
    exact ⟨v, start_get h1, .val h2.noOwn (h2.carry (Carry.less_of fun b t => t.elim (fun t => t) fun ⟨i, t⟩ => absurd t (no i b)))⟩
end
section
variable {P : Program} {w : World} {K : PySem.W.Frag} {mg : Str → Option Value} {base : Heap} {x qual : Str} {st : Stmt} {f : Addr} {fd : FuncData} {N ps : List Str} {k : Nat}
/-- the context of a def's body -/
abbrev cxD (P : Program) (w : World) (K : PySem.W.Frag) (mg : Str → Option Value) (base : Heap) (N : List Str) (qual : Str) (st : Stmt) (f : Addr) (cdv : Value) (A : Around) (outer : List Env) (s : Shared) (H : Hp) (E : XK) : Cx :=
  cxOf (L2N.CX P w) P w K mg base N qual (defScope st) f cdv A outer s H E
abbrev wE (Θ : Tix) (E : XK) : WT := ⟨fun c d _ H' => E c d H', Θ⟩
theorem tinv0 {H : Hp} : TInv none H H := fun _ _ e => e
abbrev Body (P : Program) (w : World) (K : PySem.W.Frag) (mg : Str → Option Value) (base : Heap) (N : List Str) (qual : Str) (st : Stmt) (f : Addr) (k : Nat) (Θ : Tix) (m : MS) : Prop :=
  ∀ (cdv : Value) (A : Around) (outer : List Env) (s : Shared) (H : Hp) (E : XK), Room k (A.deeper (envOfC qual (defScope st) s.heap.objs.size f cdv)) → DSs (cxD P w K mg base N qual st f cdv A outer s H E) (wE Θ E) (defBody st) m
theorem ext_same {H H' : Hp} {M : Addr → Prop} (e : Ext M H H') (i : TInv none H H') (h : ∀ b, ¬ M b) : Same H H' := fun b o q => by
  cases ht : tblO o with
  | false => exact e.keep b o q (fun m => absurd m (h b)) ht
  | true =>
    cases o with
    | tbl ps => exact i b ps q
    | _ => cases ht
theorem fn_D {m : MS} {G : List D → R D} (F : FunD K x qual (defArgs st) (defBody st) (defScope st) [] [] f fd) (S : FnScope N ps (defScope st)) (hN : ps.length ≤ N.length) (hb : Body P w K mg base N qual st f k none m) (hG : ∀ ds, ds.length = ps.length → G ds = .bad ∨ runD m N.length ds = G ds) :
    FnOk P w K mg base (L2N.CX P w) (k + 1) f fd ps (spD K mg ps.length G) := by
  refine F.ok S (fun vs H Q E h => ?_) (fun cdv A outer s H vs Q E hr h => ?_)
  · obtain ⟨T0, ds, h1, _, h2, _⟩ := h
    rw [h2.length, h1]
  · obtain ⟨T0, ds, h1, t0, h2, h3⟩ := h
    refine ⟨_, hb cdv A outer s H E hr, ?_⟩
    have hr0 := rel_start (Θ := none) (N := N) tinv0 (by rw [h2.length, h1]; exact hN) t0 h2
    refine ⟨ambD (Θ := none) T0 H, startD N.length ds, hr0, ?_⟩
    have sm : ∀ {σ' sd' H'}, Stp K mg (ambD (Θ := none) T0 H) (L2.start N vs) (startD N.length ds) H σ' sd' H' → Same H H' := fun st => ext_same st.rel.ent st.rel.inv fun b z => nomatch z
    rcases hG ds h1 with g | g
    · rw [g] at h3
      exact h3.elim
    · rw [← g] at h3
      unfold runD at h3
      show AftS K mg _ _ _ _ _ _ (m (startD N.length ds))
      cases e : m (startD N.length ds) with
      | ok fl =>
        rw [e] at h3
        cases fl with
        | nx sd' => exact fun σ' H' st => h3 .non H' (sm st) .non
        | rt d sd' => exact fun σ' v H' st rp => h3 v H' (sm st) (rp.carry (Carry.less_of fun b t => .inl t))
        | rf es sd' => exact fun σ' p xs H' fr => h3 _ H' (sm fr.st) (.lst (.inl fr.at_) (fun t => t0 p t fr.new) (fr.rp.carry (Carry.less_of fun b t => .inl (.inl t))))
        | bk sd' => exact h3.elim
        | ct sd' => exact h3.elim
      | exc c =>
        rw [e] at h3
        exact fun σ' H' sd' st C hC => h3 H' (sm st) C hC
      | bad => rw [e] at h3; exact h3.elim
theorem fn_T {T : List (Addr × Str)} {m : MS} {G : List D → R D} (F : FunD K x qual (defArgs st) (defBody st) (defScope st) [] [] f fd) (S : FnScope N ps (defScope st)) (hN : ps.length ≤ N.length) (hb : Body P w K mg base N qual st f k (some T) m) (hG : ∀ ds, ds.length = ps.length → G ds = .bad ∨ runD m N.length ds = G ds) :
    FnOk P w K mg base (L2N.CX P w) (k + 1) f fd ps (spT T K mg ps.length G) := by
  refine F.ok S (fun vs H Q E h => ?_) (fun cdv A outer s H vs Q E hr h => ?_)
  · obtain ⟨T0, ds, h1, _, _, h2, _⟩ := h
    rw [h2.length, h1]
  · obtain ⟨T0, ds, h1, hT, t0, h2, h3⟩ := h
    refine ⟨_, hb cdv A outer s H E hr, ?_⟩
    have hr0 := rel_start (Θ := some T) (N := N) hT (by rw [h2.length, h1]; exact hN) t0 h2
    refine ⟨ambD (Θ := some T) T0 H, startD N.length ds, hr0, ?_⟩
    have sm : ∀ {σ' sd' H'}, Stp K mg (ambD (Θ := some T) T0 H) (L2.start N vs) (startD N.length ds) H σ' sd' H' → Ext (fun _ => False) H H' := fun st => st.rel.ent.mono fun b z => nomatch z
    rcases hG ds h1 with g | g
    · rw [g] at h3
      exact h3.elim
    · rw [← g] at h3
      unfold runD at h3
      show AftS K mg _ _ _ _ _ _ (m (startD N.length ds))
      cases e : m (startD N.length ds) with
      | ok fl =>
        rw [e] at h3
        cases fl with
        | nx sd' => exact fun σ' H' st => h3 .non H' (sm st) st.rel.inv .non
        | rt d sd' => exact fun σ' v H' st rp => h3 v H' (sm st) st.rel.inv (rp.carry (Carry.less_of fun b t => .inl t))
        | rf es sd' => exact fun σ' p xs H' fr => h3 _ H' (sm fr.st) fr.st.rel.inv (.lst (.inl fr.at_) (fun t => t0 p t fr.new) (fr.rp.carry (Carry.less_of fun b t => .inl (.inl t))))
        | bk sd' => exact h3.elim
        | ct sd' => exact h3.elim
      | exc c =>
        rw [e] at h3
        exact fun σ' H' sd' st C hC => h3 H' (sm st) st.rel.inv C hC
      | bad => rw [e] at h3; exact h3.elim
theorem fn_F {m : MS} {G : List D → R (List D)} (F : FunD K x qual (defArgs st) (defBody st) (defScope st) [] [] f fd) (S : FnScope N ps (defScope st)) (hN : ps.length ≤ N.length) (hb : Body P w K mg base N qual st f k none m) (hG : ∀ ds, ds.length = ps.length → G ds = .bad ∨ runF m N.length ds = G ds) :
    FnOk P w K mg base (L2N.CX P w) (k + 1) f fd ps (spF K mg ps.length G) := by
  refine F.ok S (fun vs H Q E h => ?_) (fun cdv A outer s H vs Q E hr h => ?_)
  · obtain ⟨T0, ds, h1, _, h2, _⟩ := h
    rw [h2.length, h1]
  · obtain ⟨T0, ds, h1, t0, h2, h3⟩ := h
    refine ⟨_, hb cdv A outer s H E hr, ?_⟩
    have hr0 := rel_start (Θ := none) (N := N) tinv0 (by rw [h2.length, h1]; exact hN) t0 h2
    refine ⟨ambD (Θ := none) T0 H, startD N.length ds, hr0, ?_⟩
    have sm : ∀ {σ' sd' H'}, Stp K mg (ambD (Θ := none) T0 H) (L2.start N vs) (startD N.length ds) H σ' sd' H' → Same H H' := fun st => ext_same st.rel.ent st.rel.inv fun b z => nomatch z
    rcases hG ds h1 with g | g
    · rw [g] at h3
      exact h3.elim
    · rw [← g] at h3
      unfold runF at h3
      show AftS K mg _ _ _ _ _ _ (m (startD N.length ds))
      cases e : m (startD N.length ds) with
      | ok fl =>
        rw [e] at h3
        cases fl with
        | rf es sd' => exact fun σ' p xs H' fr => h3 p xs H' (sm fr.st) fr.new fr.at_ (fr.rp.carry (Carry.less_of fun b t => .inl t))
        | nx sd' => exact h3.elim
        | rt d sd' => exact h3.elim
        | bk sd' => exact h3.elim
        | ct sd' => exact h3.elim
      | exc c =>
        rw [e] at h3
        exact fun σ' H' sd' st C hC => h3 H' (sm st) C hC
      | bad => rw [e] at h3; exact h3.elim
/-- .. where a list is handed in and out -/
def ambM (T0 : Addr → Prop) (a : Addr) (H : Hp) : Amb none := ⟨fun b => T0 b ∧ b ≠ a, H, some a⟩
theorem rel_startM {H : Hp} {T0 : Addr → Prop} {a : Addr} {xs ws : List V} {as ds : List D} (hl : ws.length + 1 ≤ N.length) (t0 : ∀ a, T0 a → H a ≠ none) (ha : T0 a) (h0 : H a = some (.lst xs)) (h1 : Rps K mg H T0 xs as) (h : Rps K mg H T0 ws ds) :
    Rel K mg (ambM T0 a H) (L2.start N (.ref a :: ws)) H (startM N.length as ds) := by
  have l := h.length
  have e0 : (L2.start N (V.ref a :: ws))[0]? = some (some (.ref a)) := rfl
  have eS : ∀ i, (startM N.length as ds)[i + 1]? = (ds.map some ++ List.replicate (N.length - (ds.length + 1)) none)[i]? := fun i => rfl
  have getS : ∀ i d, (startM N.length as ds)[i + 1]? = some (some d) → ds[i]? = some d := fun i d e => by
    rw [eS] at e
    have e' : (startD (N.length - 1) ds)[i]? = some (some d) := by
      unfold startD
      rw [show N.length - 1 - ds.length = N.length - (ds.length + 1) by omega]
      exact e
    exact startD_get e'
  have own : ∀ i b, OwnAt (L2.start N (V.ref a :: ws)) (startM N.length as ds) i b → i = 0 ∧ b = a := fun i b ⟨h1, d, h2, h3⟩ => by
    cases i with
    | zero =>
      rw [e0] at h1
      cases h1
      exact ⟨rfl, rfl⟩
    | succ i =>
      obtain ⟨v, _, r⟩ := h.getD (getS i d h2)
      rw [r.noOwn] at h3
      cases h3
  have own0 : OwnAt (L2.start N (V.ref a :: ws)) (startM N.length as ds) 0 a := ⟨e0, .own as, rfl, rfl⟩
  have T : ∀ b, Tof (ambM T0 a H) (L2.start N (V.ref a :: ws)) (startM N.length as ds) b → T0 b := fun b t => by
    rcases t with t | ⟨i, t⟩
    · exact t.1
    · rw [(own i b t).2]; exact ha
  refine ⟨?_, fun i d hd => ?_, fun i j b h1 h2 => by rw [(own i b h1).1, (own j b h2).1], fun b t => t0 b t.1, Ext.refl _ _, fun b e => ?_, tinv0⟩
  · unfold startM L2.start
    simp only [List.length_append, List.length_map, List.length_replicate, List.length_cons]
    omega
  · cases i with
    | zero =>
      cases hd
      exact ⟨.ref a, rfl, .own h0 (h1.carry (Carry.less_of T)) (fun t => t.2 rfl) (.inr rfl)⟩
    | succ i =>
      obtain ⟨v, q1, q2⟩ := h.getD (getS i d hd)
      exact ⟨v, start_get (by simpa using q1), .val q2.noOwn (q2.carry (Carry.less_of T))⟩
  · cases e
    exact own0
theorem fn_M {m : MS} {G : List D → List D → R (D × List D)} (F : FunD K x qual (defArgs st) (defBody st) (defScope st) [] [] f fd) (S : FnScope N ps (defScope st)) (hN : ps.length ≤ N.length) (hb : Body P w K mg base N qual st f k none m) (hG : ∀ as ds, ds.length + 1 = ps.length → G as ds = .bad ∨ runM m N.length as ds = G as ds) :
    FnOk P w K mg base (L2N.CX P w) (k + 1) f fd ps (spM K mg ps.length G) := by
  refine F.ok S (fun vs H Q E h => ?_) (fun cdv A outer s H vs Q E hr h => ?_)
  · obtain ⟨T0, a, xs, ws, as, ds, rfl, h1, _, _, _, _, h2, _⟩ := h
    rw [List.length_cons, h2.length, h1]
  · obtain ⟨T0, a, xs, ws, as, ds, rfl, h1, t0, ha, h0, hx, h2, h3⟩ := h
    refine ⟨_, hb cdv A outer s H E hr, ?_⟩
    have hr0 := rel_startM (N := N) (by rw [h2.length, h1]; exact hN) t0 ha h0 hx h2
    refine ⟨ambM T0 a H, startM N.length as ds, hr0, ?_⟩
    -- the end of a run
    have fin : ∀ {σ' sd' H' bs}, Rel K mg (ambM T0 a H) σ' H' sd' → ownAt 0 sd' = some bs → Ext (fun b => b = a) H H' ∧ (∀ b, T0 b → Tof (ambM T0 a H) σ' sd' b) ∧ ∃ ys, H' a = some (.lst ys) ∧ Rps K mg H' T0 ys bs := fun {σ' sd' H' bs} r e => by
      obtain ⟨q1, d, q2, q3⟩ := r.io a rfl
      obtain ⟨b, ys, k1, k2, k3⟩ := r.ownList e
      rw [q1] at k1
      cases k1
      have sub : ∀ b, T0 b → Tof (ambM T0 a H) σ' sd' b := fun b t => by
        by_cases z : b = a
        · rw [z]; exact .inr ⟨0, q1, d, q2, q3⟩
        · exact .inl ⟨t, z⟩
      exact ⟨r.ent.mono fun b z => (Option.some.inj z).symm, sub, ys, k2, k3.carry (Carry.less_of sub)⟩
    rcases hG as ds h1 with g | g
    · rw [g] at h3
      exact h3.elim
    · rw [← g] at h3
      unfold runM at h3
      show AftS K mg _ _ _ _ _ _ (m (startM N.length as ds))
      cases e : m (startM N.length as ds) with
      | ok fl =>
        rw [e] at h3
        cases fl with
        | nx sd' =>
          refine fun σ' H' st => ?_
          simp only at h3
          cases e2 : ownAt 0 sd' with
          | none => rw [e2] at h3; exact h3.elim
          | some bs =>
            rw [e2] at h3
            obtain ⟨f1, f2, ys, f3, f4⟩ := fin st.rel e2
            exact h3 .non ys H' f1 st.rel.inv f3 f4 .non
        | rt d sd' =>
          refine fun σ' v H' st rp => ?_
          simp only at h3
          cases e2 : ownAt 0 sd' with
          | none => rw [e2] at h3; exact h3.elim
          | some bs =>
            rw [e2] at h3
            obtain ⟨f1, f2, ys, f3, f4⟩ := fin st.rel e2
            exact h3 v ys H' f1 st.rel.inv f3 f4 (rp.carry (Carry.less_of f2))
        | rf es sd' =>
          refine fun σ' p xs H' fr => ?_
          simp only at h3
          cases e2 : ownAt 0 sd' with
          | none => rw [e2] at h3; exact h3.elim
          | some bs =>
            rw [e2] at h3
            obtain ⟨f1, f2, ys, f3, f4⟩ := fin fr.st.rel e2
            refine h3 _ ys H' f1 fr.st.rel.inv f3 f4 (.lst (.inl fr.at_) (fun t => ?_) (fr.rp.carry (Carry.less_of fun b t => (f2 b t).elim (fun t => .inl (.inl t)) .inr)))
            exact t0 p t fr.new
        | bk sd' => exact h3.elim
        | ct sd' => exact h3.elim
      | exc c => rw [e] at h3; exact h3.elim
      | bad => rw [e] at h3; exact h3.elim
end
end HD

set_option Elab.async false
set_option linter.all false
set_option autoImplicit false
set_option maxRecDepth 100000
set_option maxHeartbeats 4000000
namespace HD
open PySem PySem.Spec PyProof.Rows L2
/-! ### calls -/
section
variable {K : PySem.W.Frag} {mg : Str → Option Value} {Θ : Tix} {B : Amb Θ} {σ : SV} {sd : SD} {H H' : Hp}
theorem Rel.tofThere (r : Rel K mg B σ H sd) {b : Addr} (t : Tof B σ sd b) : H b ≠ none := by
  rcases t with t | t
  · exact r.t0 b t
  · obtain ⟨o, e, _⟩ := r.ownObj t
    rw [e]
    exact fun z => nomatch z
theorem Same.none_of {H H' : Hp} (e : Same H H') {b : Addr} (h : H' b = none) : H b = none := e.free h
/-- a new list that a callee hands back -/
theorem fresh_call (r : Rel K mg B σ H sd) {p : Addr} {xs : List V} {ds : List D} (s : Same H H') (hp : H p = none) (h : H' p = some (.lst xs)) (rp : Rps K mg H' (fun a => Tof B σ sd a ∨ a = p) xs ds) : Fresh K mg B σ sd H σ sd H' p xs ds := by
  have c : Carry H (Tof B σ sd) H' (Tof (B.plus p) σ sd) := ⟨fun b o e _ _ => s b o e, fun b hb n t => by
    rcases t with (t | t) | t
    · exact n (.inl t)
    · exact hb (by rw [t]; exact hp)
    · exact n (.inr t)⟩
  have st := Stp.same r s
  refine ⟨st, hp, h, ⟨r.len, fun i d hd => ?_, r.inj, fun a ha => ?_, st.rel.ent, r.io, st.rel.inv⟩, rp.carry (Carry.less_of fun b t => ?_)⟩
  · obtain ⟨v, h1, h2⟩ := r.slots i d hd
    refine ⟨v, h1, ?_⟩
    cases h2 with
    | val n q => exact .val n (q.carry c)
    | own e q n z => exact .own (s _ _ e) (q.carry c) (fun t => t.elim n fun t => by rw [t, hp] at e; cases e) z
    | owd e q n z => exact .owd (s _ _ e) (q.carry c) (fun t => t.elim n fun t => by rw [t, hp] at e; cases e) z
  · rcases ha with ha | ha
    · exact st.rel.t0 a ha
    · rw [ha, h]; exact fun z => nomatch z
  · rcases t with (t | t) | t
    · exact .inl (.inl t)
    · exact .inr t
    · exact .inl (.inr t)
/-- a list that is held, behind a change by a callee -/
theorem Rel.changedBy {i : Nat} {a : Addr} {ds ds' : List D} {xs' : List V} (r : Rel K mg B σ H sd) (h1 : σ[i]? = some (some (.ref a))) (h2 : sd[i]? = some (some (.own ds))) (ex0 : Ext (fun b => b = a) H H') (hT : ∀ b ps, H b = some (.tbl ps) → H' b = some (.tbl ps)) (hn : H' a = some (.lst xs'))
    (rv : Rps K mg H' (Tof B σ sd) xs' ds') : Stp K mg B σ sd H σ (sd.set i (some (.own ds'))) H' := by
  have ho : OwnAt σ sd i a := ⟨h1, _, h2, rfl⟩
  obtain ⟨n0, he⟩ := r.ownT0 ⟨i, ho⟩
  obtain ⟨v, e1, sl⟩ := r.slots i _ h2
  rw [h1] at e1
  cases e1
  obtain ⟨xs, hH⟩ : ∃ xs, H a = some (.lst xs) := by
    cases sl with
    | val n _ => cases n
    | own e _ _ _ => exact ⟨_, e⟩
  have hi : i < sd.length := by
    rcases Nat.lt_or_ge i sd.length with z | z
    · exact z
    · rw [List.getElem?_eq_none z] at h2; cases h2
  have same : ∀ j b, OwnAt σ (sd.set i (some (.own ds'))) j b ↔ OwnAt σ sd j b := fun j b => by
    constructor
    · rintro ⟨q1, d, q2, q3⟩
      by_cases z : i = j
      · subst z
        exact ⟨q1, _, h2, rfl⟩
      · rw [List.getElem?_set_ne z] at q2
        exact ⟨q1, d, q2, q3⟩
    · rintro ⟨q1, d, q2, q3⟩
      by_cases z : i = j
      · subst z
        exact ⟨q1, _, List.getElem?_set_self hi, rfl⟩
      · exact ⟨q1, d, by rw [List.getElem?_set_ne z]; exact q2, q3⟩
  have own : ∀ b, Own σ (sd.set i (some (.own ds'))) b ↔ Own σ sd b := fun b => ⟨fun ⟨j, h⟩ => ⟨j, (same j b).mp h⟩, fun ⟨j, h⟩ => ⟨j, (same j b).mpr h⟩⟩
  have sub : ∀ b, b = a → Own σ sd b := fun b z => by rw [z]; exact ⟨i, ho⟩
  have ex : Ext (Own σ sd) H H' := ex0.mono sub
  have c : Carry H (Tof B σ sd) H' (Tof B σ (sd.set i (some (.own ds')))) := ⟨fun b o e m ht => ex.keep b o e (fun z => m (.inr z)) ht, fun b _ n t => n (t.elim .inl fun t => .inr ((own b).mp t))⟩
  have c2 : Carry H' (Tof B σ sd) H' (Tof B σ (sd.set i (some (.own ds')))) := Carry.less_of fun b t => t.elim .inl fun t => .inr ((own b).mp t)
  refine ⟨⟨by rw [List.length_set]; exact r.len, fun j d hj => ?_, fun j k b q1 q2 => r.inj j k b ((same j b).mp q1) ((same k b).mp q2), fun b h => ex.there b (r.t0 b h), ⟨fun b o e m ht => ?_, fun b h => ex.there b (r.ent.there b h)⟩, fun b e => (same 0 b).mpr (r.io b e), ?_⟩, ex, fun b h => .inl ((own b).mp h)⟩
  · by_cases z : i = j
    · subst z
      rw [List.getElem?_set_self hi] at hj
      cases hj
      exact ⟨.ref a, h1, .own hn (rv.carry c2) n0 he⟩
    · rw [List.getElem?_set_ne z] at hj
      obtain ⟨w, g1, g2⟩ := r.slots j d hj
      refine ⟨w, g1, g2.carry c fun b o ev eo hb => ?_⟩
      have : b ≠ a := fun y => z (r.inj i j a ho ⟨by rw [g1, ev, y], d, hj, eo⟩)
      cases ht : tblO o with
      | false => exact ex0.keep b o hb (fun y => absurd y this) ht
      | true =>
        cases o with
        | tbl ps => exact hT b ps hb
        | _ => cases ht
  · have e2 := r.ent.keep b o e m ht
    refine ex0.keep b o e2 (fun z => ?_) ht
    subst z
    rcases he with he | he
    · rw [he] at e; cases e
    · exact m he
  · exact r.inv.keep (fun b => b = a) (fun b hb => by rw [hb]; exact ⟨_, hH, .inl ⟨_, rfl⟩⟩) fun b o e n => by
      cases ht : tblO o with
      | false => exact ex0.keep b o e (fun y => absurd y n) ht
      | true =>
        cases o with
        | tbl ps => exact hT b ps e
        | _ => cases ht
end
section
variable {X : Cx} {W : WT} {q q1 q2 q3 : Bool} {e a b c : Expr} {es : List Expr} {pos p : Pos} {m ma mb mc : ME} {ms : MF} {x : Str} {f : Addr} {fd : FuncData} {k n : Nat} {ps : List Str}
def mCall (G : List D → R D) (ms : MF) : ME := mB ms fun ds sd => match G ds with
  | .ok d => .ok (d, sd)
  | .exc c => .exc c
  | .bad => .bad
theorem de_call {G : List D → R D} (F : FnOk X.prog X.w X.K X.mg X.base (L2N.CX X.prog X.w) k f fd ps (spD X.K X.mg n G)) (tk : L2N.Takes X W.w) (hr : Room k X.A) (hg : Gl X x) (hm : X.mg x = some (.ref f)) (hk : PySem.W.keepIn X.K (.ref f) = true) (hb : Binds X.K fd ps [])
    (ha : DA X W q (e :: es) ms) (hl : LenA ms n) (hdb : (x == ("__debug__" : Str)) = false := by decide) (he : starEach (e :: es) X.env = (false, eval e X.env) :: starEach es X.env := by rfl) (hpl : (backTo pos (starEach es X.env)).any (·.1) = false := by rfl) :
    DE X W q (.Call (.Name x p) (e :: es) [] pos) (mCall G ms) := by
  refine pe_imp (pe_callS F hr hg hm hk hb (fun σ => L2N.passAt tk σ) ha hdb he hpl) fun σ H Q ⟨B, sd, r, z⟩ => ?_
  refine bindA r z.parts.1 z.parts.2 fun vs H1 ds sd1 e1 st1 sm1 rp1 => ?_
  unfold mCall at z
  rw [mB_ok e1] at z
  refine ⟨Tof B σ sd1, ds, hl _ _ _ e1, fun a t => st1.rel.tofThere t, rp1, ?_⟩
  cases g : G ds with
  | ok d => rw [g] at z; exact fun v H' s rp => z v H' (st1.trans (Stp.same st1.rel s)) (fun e => (sm1 e).trans s) rp
  | exc c => rw [g] at z; exact fun H' s C hC => z H' sd1 (st1.trans (Stp.same st1.rel s)) C hC
  | bad => rw [g] at z; exact z.elim
/-- tables may grow -/
theorem Stp.grown {K : PySem.W.Frag} {mg : Str → Option Value} {Θ : Tix} {B : Amb Θ} {σ : SV} {sd : SD} {H H' : Hp} (r : Rel K mg B σ H sd) (e : Ext (fun _ => False) H H') (inv : TInv Θ B.He H') : Stp K mg B σ sd H σ sd H' := by
  have c : Carry H (Tof B σ sd) H' (Tof B σ sd) := ⟨fun b o h _ ht => e.keep b o h (fun z => z.elim) ht, fun b _ n => n⟩
  refine ⟨⟨r.len, fun i d h => ?_, r.inj, fun a h => e.there a (r.t0 a h), ⟨fun b o h m ht => e.keep b o (r.ent.keep b o h m ht) (fun z => z.elim) ht, fun b h => e.there b (r.ent.there b h)⟩, r.io, inv⟩, e.mono fun _ z => z.elim, fun a h => .inl h⟩
  obtain ⟨v, h1, h2⟩ := r.slots i d h
  refine ⟨v, h1, h2.carry c fun a o ev eo ea => ?_⟩
  obtain ⟨u, e1, z⟩ := r.ownObj ⟨i, by rw [h1, ev], d, h, eo⟩
  rw [ea] at e1
  cases e1
  refine e.keep _ _ ea (fun z => z.elim) ?_
  rcases z with ⟨_, z⟩ | ⟨_, z⟩
  · rw [z]; rfl
  · rw [z]; rfl
theorem tinv_of {T : List (Addr × Str)} {Θ : Tix} {He H : Hp} (e : Θ = some T) (i : LamX.Tabs T H) : TInv Θ He H := by
  subst e
  exact i
theorem tinv_to {T : List (Addr × Str)} {Θ : Tix} {He H : Hp} (e : Θ = some T) (i : TInv Θ He H) : LamX.Tabs T H := by
  subst e
  exact i
/-- a def that makes lambdas, called where the tables may grow -/
theorem de_callT {T : List (Addr × Str)} {G : List D → R D} (F : FnOk X.prog X.w X.K X.mg X.base (L2N.CX X.prog X.w) k f fd ps (spT T X.K X.mg n G)) (hΘ : W.tb = some T) (tk : L2N.Takes X W.w) (hr : Room k X.A) (hg : Gl X x) (hm : X.mg x = some (.ref f)) (hk : PySem.W.keepIn X.K (.ref f) = true) (hb : Binds X.K fd ps [])
    (ha : DA X W q (e :: es) ms) (hl : LenA ms n) (hdb : (x == ("__debug__" : Str)) = false := by decide) (he : starEach (e :: es) X.env = (false, eval e X.env) :: starEach es X.env := by rfl) (hpl : (backTo pos (starEach es X.env)).any (·.1) = false := by rfl) :
    DE X W false (.Call (.Name x p) (e :: es) [] pos) (mCall G ms) := by
  refine pe_imp (pe_callS F hr hg hm hk hb (fun σ => L2N.passAt tk σ) ha hdb he hpl) fun σ H Q ⟨B, sd, r, z⟩ => ?_
  refine bindA r z.parts.1 z.parts.2 fun vs H1 ds sd1 e1 st1 sm1 rp1 => ?_
  unfold mCall at z
  rw [mB_ok e1] at z
  have inv : ∀ {H' : Hp}, LamX.Tabs T H' → TInv W.tb B.He H' := fun {H'} i => tinv_of hΘ i
  have inv1 : LamX.Tabs T H1 := tinv_to hΘ st1.rel.inv
  refine ⟨Tof B σ sd1, ds, hl _ _ _ e1, inv1, fun a t => st1.rel.tofThere t, rp1, ?_⟩
  cases g : G ds with
  | ok d => rw [g] at z; exact fun v H' s i rp => z v H' (st1.trans (Stp.grown st1.rel s (inv i))) (fun e => nomatch e) rp
  | exc c => rw [g] at z; exact fun H' s i C hC => z H' sd1 (st1.trans (Stp.grown st1.rel s (inv i))) C hC
  | bad => rw [g] at z; exact z.elim
def mCallF (G : List D → R (List D)) (ms : MF) : MF := mB ms fun ds sd => match G ds with
  | .ok d => .ok (d, sd)
  | .exc c => .exc c
  | .bad => .bad
theorem df_call {G : List D → R (List D)} (F : FnOk X.prog X.w X.K X.mg X.base (L2N.CX X.prog X.w) k f fd ps (spF X.K X.mg n G)) (tk : L2N.Takes X W.w) (hr : Room k X.A) (hg : Gl X x) (hm : X.mg x = some (.ref f)) (hk : PySem.W.keepIn X.K (.ref f) = true) (hb : Binds X.K fd ps [])
    (ha : DA X W q (e :: es) ms) (hl : LenA ms n) (hdb : (x == ("__debug__" : Str)) = false := by decide) (he : starEach (e :: es) X.env = (false, eval e X.env) :: starEach es X.env := by rfl) (hpl : (backTo pos (starEach es X.env)).any (·.1) = false := by rfl) :
    DF X W q (.Call (.Name x p) (e :: es) [] pos) (mCallF G ms) := by
  refine pe_imp (pe_callS F hr hg hm hk hb (fun σ => L2N.passAt tk σ) ha hdb he hpl) fun σ H Q ⟨B, sd, r, z⟩ => ?_
  refine bindA r z.parts.1 z.parts.2 fun vs H1 ds sd1 e1 st1 sm1 rp1 => ?_
  unfold mCallF at z
  rw [mB_ok e1] at z
  refine ⟨Tof B σ sd1, ds, hl _ _ _ e1, fun a t => st1.rel.tofThere t, rp1, ?_⟩
  cases g : G ds with
  | ok d => rw [g] at z; exact fun p xs H' s hp h rp => z p xs H' ((fresh_call st1.rel s hp h rp).later st1) (fun e => (sm1 e).trans s)
  | exc c => rw [g] at z; exact fun H' s C hC => z H' sd1 (st1.trans (Stp.same st1.rel s)) C hC
  | bad => rw [g] at z; exact z.elim
/-- a call that changes the list at slot i -/
def mCallM (G : List D → List D → R (D × List D)) (i : Nat) (ms : MF) : ME := fun sd => match ownAt i sd with
  | some _ => mB ms (fun ds sd => match ownAt i sd with
    | some as => (match G as ds with
      | .ok (d, bs) => .ok (d, sd.set i (some (.own bs)))
      | _ => .bad)
    | none => .bad) sd
  | none => .bad
theorem de_callM {G : List D → List D → R (D × List D)} (i : Nat) {y : Str} {py : Pos} (F : FnOk X.prog X.w X.K X.mg X.base (L2N.CX X.prog X.w) k f fd ps (spM X.K X.mg (n + 1) G)) (tk : L2N.Takes X W.w) (hr : Room k X.A) (hg : Gl X x) (hm : X.mg x = some (.ref f)) (hk : PySem.W.keepIn X.K (.ref f) = true) (hb : Binds X.K fd ps [])
    (ha : DA X W q es ms) (hl : LenA ms n) (hN : X.N[i]? = some y := by rfl) (hv : Vis X.env.scope y := by first | exact Or.inl rfl | exact Or.inr (Or.inl rfl) | exact Or.inr (Or.inr rfl)) (hd : (y == ("__debug__" : Str)) = false := by decide)
    (hcd : (y == ("__classdict__" : Str)) = false := by decide) (hdb : (x == ("__debug__" : Str)) = false := by decide)
    (he : starEach (.Name y py :: es) X.env = (false, eval (.Name y py) X.env) :: starEach es X.env := by rfl) (hpl : (backTo pos (starEach es X.env)).any (·.1) = false := by rfl) :
    DE X W false (.Call (.Name x p) (.Name y py :: es) [] pos) (mCallM G i ms) := by
  refine pe_imp (pe_callS F hr hg hm hk hb (fun σ => L2N.passAt tk σ) (pa_cons (pv i hN hv hd hcd) ha he) hdb he hpl) fun σ H Q ⟨B, sd, r, z⟩ => ?_
  unfold mCallM at z
  cases e0 : ownAt i sd with
  | none => rw [e0] at z; exact z.elim
  | some as0 =>
    rw [e0] at z
    simp only at z
    obtain ⟨a, xs0, g1, g2, g3⟩ := r.ownList e0
    refine ⟨.ref a, g1, ?_⟩
    refine bindA r z.parts.1 z.parts.2 fun vs H1 ds sd1 e1 st1 sm1 rp1 => ?_
    rw [mB_ok e1] at z
    cases e2 : ownAt i sd1 with
    | none => rw [e2] at z; exact z.elim
    | some as =>
      rw [e2] at z
      simp only at z
      obtain ⟨a', xs, k1, k2, k3⟩ := st1.rel.ownList e2
      rw [g1] at k1
      cases k1
      refine ⟨Tof B σ sd1, a, xs, vs, as, ds, rfl, by rw [hl _ _ _ e1], fun b t => st1.rel.tofThere t, .inr ⟨i, g1, _, ownAt_ok e2, rfl⟩, k2, k3, rp1, ?_⟩
      cases g : G as ds with
      | ok pr =>
        obtain ⟨d, bs⟩ := pr
        rw [g] at z
        refine fun v ys H' ex hT hn rys rv => ?_
        have st2 := st1.rel.changedBy g1 (ownAt_ok e2) ex hT hn rys
        have lt : i < sd1.length := by
          rcases Nat.lt_or_ge i sd1.length with z | z
          · exact z
          · have := ownAt_ok e2
            rw [List.getElem?_eq_none z] at this; cases this
        refine z v H' (st1.trans st2) (fun e => nomatch e) (rv.carry (Carry.less_of fun b t => ?_))
        rcases t with t | ⟨j, q1, d', q2, q3⟩
        · exact .inl t
        · right
          by_cases zz : i = j
          · subst zz
            exact ⟨i, q1, _, ownAt_ok e2, rfl⟩
          · rw [List.getElem?_set_ne zz] at q2
            exact ⟨j, q1, d', q2, q3⟩
      | exc c => rw [g] at z; exact z.elim
      | bad => rw [g] at z; exact z.elim
/-- return of the list that is held at slot i -/
def mRetO (i : Nat) : MS := fun sd => match i, ownAt i sd with
  | _ + 1, some ds => .ok (.rf ds (sd.set i none))
  | _, _ => .bad
theorem ds_retO (i : Nat) {y : Str} {py : Pos} (hN : X.N[i]? = some y := by rfl) (hv : Vis X.env.scope y := by first | exact Or.inl rfl | exact Or.inr (Or.inl rfl) | exact Or.inr (Or.inr rfl)) (hd : (y == ("__debug__" : Str)) = false := by decide)
    (hcd : (y == ("__classdict__" : Str)) = false := by decide) : DS X W (.Return (some (.Name y py)) pos) (mRetO i) := by
  refine ps_imp (ps_ret (pv i hN hv hd hcd)) fun Dn σ H ⟨B, sd, r, z⟩ => ?_
  cases i with
  | zero => exact z.elim
  | succ i =>
    simp only [mRetO] at z
    cases e0 : ownAt (i + 1) sd with
    | none => rw [e0] at z; exact z.elim
    | some ds =>
      rw [e0] at z
      simp only at z
      obtain ⟨a, xs, g1, g2, g3⟩ := r.ownList e0
      have ho : OwnAt σ sd (i + 1) a := ⟨g1, _, ownAt_ok e0, rfl⟩
      obtain ⟨n0, he⟩ := r.ownT0 ⟨i + 1, ho⟩
      have hne : B.He a = none := by
        rcases he with he | he
        · exact he
        · have := r.inj _ _ _ ho (r.io a he)
          cases this
      refine ⟨.ref a, g1, ?_⟩
      have own : ∀ j b, OwnAt σ (sd.set (i + 1) none) j b → OwnAt σ sd j b ∧ j ≠ i + 1 := fun j b ⟨q1, d, q2, q3⟩ => by
        by_cases zz : i + 1 = j
        · subst zz
          rcases Nat.lt_or_ge (i + 1) sd.length with y | y
          · rw [List.getElem?_set_self y] at q2; cases q2
          · rw [List.getElem?_eq_none (by simpa using y)] at q2; cases q2
        · rw [List.getElem?_set_ne zz] at q2
          exact ⟨⟨q1, d, q2, q3⟩, fun w => zz w.symm⟩
      have c : ∀ b, Tof (B.plus a) σ (sd.set (i + 1) none) b → Tof B σ sd b := fun b t => by
        rcases t with (t | t) | ⟨j, t⟩
        · exact .inl t
        · rw [t]; exact .inr ⟨i + 1, ho⟩
        · exact .inr ⟨j, (own j b t).1⟩
      have rel : Rel X.K X.mg (B.plus a) σ H (sd.set (i + 1) none) := by
        refine ⟨by rw [List.length_set]; exact r.len, fun j d hj => ?_, fun j k b q1 q2 => r.inj j k b (own j b q1).1 (own k b q2).1, fun b t => ?_, r.ent, fun b e => ?_, r.inv⟩
        · have zz : i + 1 ≠ j := fun zz => by
            subst zz
            rcases Nat.lt_or_ge (i + 1) sd.length with y | y
            · rw [List.getElem?_set_self y] at hj; cases hj
            · rw [List.getElem?_eq_none (by simpa using y)] at hj; cases hj
          rw [List.getElem?_set_ne zz] at hj
          obtain ⟨v, h1, h2⟩ := r.slots j d hj
          refine ⟨v, h1, ?_⟩
          cases h2 with
          | val n g => exact .val n (g.carry (Carry.less_of c))
          | own e g n w => exact .own e (g.carry (Carry.less_of c)) (fun t => t.elim n fun t => zz (r.inj _ _ a ho ⟨by rw [h1, t], _, hj, rfl⟩)) w
          | owd e g n w => exact .owd e (g.carry (Carry.less_of c)) (fun t => t.elim n fun t => zz (r.inj _ _ a ho ⟨by rw [h1, t], _, hj, rfl⟩)) w
        · rcases t with t | t
          · exact r.t0 b t
          · rw [t, g2]; exact fun z => nomatch z
        · obtain ⟨q1, d, q2, q3⟩ := r.io b e
          exact ⟨q1, d, by rw [List.getElem?_set_ne (by omega)]; exact q2, q3⟩
      refine z σ a xs H ⟨⟨rel.unplus, Ext.refl _ _, fun b ⟨j, t⟩ => .inl ⟨j, (own j b t).1⟩⟩, hne, g2, rel, g3.carry (Carry.less_of c)⟩
end
end HD

set_option Elab.async false
set_option linter.all false
set_option autoImplicit false
set_option maxRecDepth 100000
set_option maxHeartbeats 4000000
namespace HD
open PySem PySem.Spec PyProof.Rows L2
/-! ### while -/
def mWhile (t : SD → R (Bool × SD)) (body : MS) : Nat → MS
  | 0 => fun _ => .bad
  | n + 1 => mBS t fun c sd => if c = true then (match body sd with
    | .ok (.nx sd') => mWhile t body n sd'
    | .ok (.ct sd') => mWhile t body n sd'
    | .ok (.bk sd') => .ok (.nx sd')
    | r => r) else .ok (.nx sd)
def mWh (fuel : SD → Nat) (t : SD → R (Bool × SD)) (body : MS) : MS := fun sd => mWhile t body (fuel sd) sd
section
variable {X : Cx} {W : WT} {q q1 q2 : Bool} {e a b c : Expr} {es : List Expr} {pos : Pos} {m ma mb mc : ME}
theorem ds_while (fuel : SD → Nat) {t : SD → R (Bool × SD)} {xb : List Stmt} {mb : MS} (hp : PassesOwn (model X.prog X.w) X.A X.env X.xe) (hc : DT X W q c t) (hb : DSs X W xb mb) : DS X W (.While c xb [] pos) (mWh fuel t mb) := by
  refine ps_imp (ps_while hp hc hb) fun Dn σ H ⟨B, sd, r, z⟩ => ?_
  refine ⟨fun m σ1 H1 => ∃ sd1, Rel X.K X.mg B σ1 H1 sd1 ∧ AftS X.K X.mg B σ1 sd1 H1 W Dn (mWhile t mb m sd1), ⟨fuel sd, sd, r, z⟩, ?_⟩
  rintro m σ1 H1 ⟨sd1, r1, z⟩
  cases m with
  | zero => exact z.elim
  | succ m =>
    unfold mWhile at z
    refine bindST r1 z.parts fun H2 k sd2 e2 st2 _ => ?_
    rw [mBS_ok e2] at z
    cases k with
    | false => exact z σ1 H2 st2
    | true =>
      rw [if_pos rfl] at z
      rw [if_pos rfl]
      have z := z.later st2
      refine ⟨fun σ3 H3 => ∃ sd3, Rel X.K X.mg B σ3 H3 sd3 ∧ AftS X.K X.mg B σ3 sd3 H3 W Dn (mWhile t mb m sd3), fun σ3 H3 h => ⟨m, Nat.lt_succ_self m, h⟩, B, sd2, st2.rel, ?_⟩
      cases e3 : mb sd2 with
      | ok fl =>
        rw [e3] at z
        cases fl with
        | nx sd' => exact fun σ' H' st => ⟨sd', st.rel, z.later st⟩
        | ct sd' => exact fun σ' H' st => ⟨sd', st.rel, z.later st⟩
        | bk sd' => exact fun σ' H' st => z σ' H' st
        | rt d sd' => exact z
        | rf ds sd' => exact z
      | exc c => rw [e3] at z; exact z
      | bad => rw [e3] at z; exact z.elim
end
/-! ### what is walked -/
structure Walks (K : PySem.W.Frag) (mg : Str → Option Value) (J : It) (H1 : Hp) (T1 : Addr → Prop) (ds : List D) : Prop where
  go : ∀ (H' : Hp) (T' : Addr → Prop), Carry H1 T1 H' T' → (∀ b, T' b → H' b ≠ none) → ∀ i, i < ds.length → J.go i H' ∧ ∀ x H'', J.yld i H' x H'' → Same H' H'' ∧ ∃ d, ds[i]? = some d ∧ Rp K mg H'' T' x d
  stop : ∀ (H' : Hp) (T' : Addr → Prop), Carry H1 T1 H' T' → ∀ i, ds.length ≤ i → J.stop i H'
def AftI (K : PySem.W.Frag) (mg : Str → Option Value) {Θ : Tix} (B : Amb Θ) (σ : SV) (sd : SD) (H : Hp) (W : WT) (q : Bool) (Rr : It → Hp → Prop) : R (List D × SD) → Prop
  | .ok (ds, sd1) => ∀ J H1, Stp K mg B σ sd H σ sd1 H1 → (q = true → Same H H1) → Walks K mg J H1 (Tof B σ sd1) ds → Rr J H1
  | .exc c => AftX K mg B σ sd H W c
  | .bad => False
def DI (X : Cx) (W : WT) (q : Bool) (tg iter : Expr) (ms : MF) : Prop := ∃ wi, PI X tg iter wi ∧ ∀ (B : Amb W.tb) (σ : SV) (sd : SD) (H : Hp) (Rr : It → Hp → Prop), Rel X.K X.mg B σ H sd → AftI X.K X.mg B σ sd H W q Rr (ms sd) → wi σ H Rr
theorem pi_or {X : Cx} {tg iter : Expr} {wi wi' : TI} (h : PI X tg iter wi) (h' : PI X tg iter wi') : PI X tg iter (fun σ H R => wi σ H R ∨ wi' σ H R) := ⟨fun pins s σ H R I z => z.elim (h.run pins s σ H R I) (h'.run pins s σ H R I)⟩
section
variable {K : PySem.W.Frag} {mg : Str → Option Value} {H : Hp} {T : Addr → Prop} {a : Addr} {ds : List D}
theorem walks_lst (h : Rp K mg H T (.ref a) (.lst ds)) : Walks K mg (Itl K a) H T ds := by
  have at_ : ∀ {H' T'}, Carry H T H' T' → ∃ xs, SqL K H' a xs ∧ Rps K mg H' T' xs ds := fun {H' T'} c => by
    obtain ⟨b, xs, e, h1, h2⟩ := (Rq.val (h.carry c)).lst'
    cases e
    exact ⟨xs, h1, h2⟩
  refine ⟨fun H' T' c _ i hi => ?_, fun H' T' c i hi => ?_⟩
  · obtain ⟨xs, h1, h2⟩ := at_ c
    have hx : i < xs.length := by rw [h2.length]; exact hi
    refine ⟨⟨xs, xs[i], h1, by simp [hx]⟩, fun x H'' y => ?_⟩
    obtain ⟨e, y⟩ := y
    subst e
    exact ⟨Same.refl _, h2.get (y xs h1)⟩
  · obtain ⟨xs, h1, h2⟩ := at_ c
    exact ⟨xs, h1, by rw [h2.length]; exact hi⟩
theorem walks_tup (h : Rp K mg H T (.ref a) (.tup ds)) : Walks K mg (Itt K a) H T ds := by
  have at_ : ∀ {H' T'}, Carry H T H' T' → ∃ xs, SqT K H' a xs ∧ Rps K mg H' T' xs ds := fun {H' T'} c => by
    obtain ⟨b, xs, e, h1, h2⟩ := (Rq.val (h.carry c)).tup
    cases e
    exact ⟨xs, h1, h2⟩
  refine ⟨fun H' T' c _ i hi => ?_, fun H' T' c i hi => ?_⟩
  · obtain ⟨xs, h1, h2⟩ := at_ c
    have hx : i < xs.length := by rw [h2.length]; exact hi
    refine ⟨⟨xs, xs[i], h1, by simp [hx]⟩, fun x H'' y => ?_⟩
    obtain ⟨e, y⟩ := y
    subst e
    exact ⟨Same.refl _, h2.get (y xs h1)⟩
  · obtain ⟨xs, h1, h2⟩ := at_ c
    exact ⟨xs, h1, by rw [h2.length]; exact hi⟩
theorem walks_range (lo : Int) (n : Nat) : Walks K mg (Itr lo n) H T ((List.range n).map fun i => D.int (lo + (i : Nat))) := by
  refine ⟨fun H' T' _ _ i hi => ?_, fun H' T' _ i hi => ?_⟩
  · rw [List.length_map, List.length_range] at hi
    refine ⟨hi, fun x H'' y => ?_⟩
    obtain ⟨e, y⟩ := y
    subst e y
    refine ⟨Same.refl _, .int (lo + i), ?_, .int _⟩
    rw [List.getElem?_map, List.getElem?_range hi]
    rfl
  · rw [List.length_map, List.length_range] at hi
    exact hi
end
section
variable {X : Cx} {W : WT} {q q1 q2 : Bool} {e a b c tg : Expr} {es : List Expr} {pos : Pos} {m ma mb mc : ME}
def itemsD : D → Option (List D)
  | .lst ds => some ds
  | .tup ds => some ds
  | _ => none
def mSrc (m : ME) : MF := mB m fun d => mO (itemsD d)
theorem AftI.parts {B : Amb W.tb} {σ : SV} {sd : SD} {H : Hp} {Rr : It → Hp → Prop} {r : R (List D × SD)} (h : AftI X.K X.mg B σ sd H W q Rr r) : (∀ c, r = .exc c → AftX X.K X.mg B σ sd H W c) ∧ r ≠ .bad := by
  cases r with
  | ok p => exact ⟨fun c z => (nomatch z), fun z => (nomatch z)⟩
  | exc c => exact ⟨fun c z => (by cases z; exact h), fun z => (nomatch z)⟩
  | bad => exact h.elim
theorem di_seq (ha : DE X W q a ma) : DI X W q tg a (mSrc ma) := by
  refine ⟨_, pi_or (pi_list ha) (pi_tup ha), fun B σ sd H Rr r z => ?_⟩
  unfold mSrc at z
  cases e : ma sd with
  | ok pr =>
    obtain ⟨d, sd1⟩ := pr
    cases d with
    | lst ds =>
      left
      refine bindE r z.parts.1 z.parts.2 fun v H1 d sd1 e1 st1 sm1 rp1 => ?_
      rw [e] at e1
      cases e1
      rw [mB_ok e] at z
      obtain ⟨p, xs, rfl, h1, h2⟩ := (Rq.val rp1).lst'
      exact ⟨p, rfl, ⟨xs, h1⟩, z _ H1 st1 sm1 (walks_lst rp1)⟩
    | tup ds =>
      right
      refine bindE r z.parts.1 z.parts.2 fun v H1 d sd1 e1 st1 sm1 rp1 => ?_
      rw [e] at e1
      cases e1
      rw [mB_ok e] at z
      obtain ⟨p, xs, rfl, h1, h2⟩ := (Rq.val rp1).tup
      exact ⟨p, rfl, ⟨xs, h1⟩, z _ H1 st1 sm1 (walks_tup rp1)⟩
    | _ => rw [mB_ok e] at z; exact z.elim
  | exc c =>
    left
    exact bindE r z.parts.1 z.parts.2 fun v H1 d sd1 e1 st1 sm1 rp1 => by rw [e] at e1; cases e1
  | bad => exact absurd (show mB ma (fun d => mO (itemsD d)) sd = .bad by unfold mB; rw [e]) z.parts.2
/-- range(n) -/
def mRng1 (m : ME) : MF := mB m fun d => match d with
  | .int n => if n < 2 ^ 62 ∧ -(2 ^ 62) ≤ n then mR ((List.range n.toNat).map fun i => D.int (0 + (i : Nat))) else fun _ => .bad
  | _ => fun _ => .bad
theorem di_range1 {p : Pos} (hg : Gl X "range") (hm : X.mg "range" = none) (ha : DE X W q a ma) (na : starEach [a] X.env = (false, eval a X.env) :: starEach [] X.env := by rfl) : DI X W q tg (.Call (.Name "range" p) [a] [] pos) (mRng1 ma) := by
  refine ⟨_, pi_range1 hg hm (pa_cons ha pa_nil na) na, fun B σ sd H Rr r z => ?_⟩
  unfold mRng1 at z
  refine bindE r z.parts.1 z.parts.2 fun v H1 d sd1 e1 st1 sm1 rp1 => ?_
  rw [mB_ok e1] at z
  cases d with
  | int n =>
    cases rp1
    simp only at z
    by_cases hc : n < 2 ^ 62 ∧ -(2 ^ 62) ≤ n
    · rw [if_pos hc] at z
      exact ⟨n, rfl, hc.2, hc.1, z _ H1 st1 sm1 (walks_range 0 n.toNat)⟩
    · rw [if_neg hc] at z
      exact z.elim
  | _ => exact z.elim
/-- range(a, b) -/
def mRng2 (m m' : ME) : MF := mB m fun d => mB m' fun d' => match d, d' with
  | .int lo, .int hi => if lo < 2 ^ 62 ∧ -(2 ^ 62) ≤ lo ∧ hi < 2 ^ 62 ∧ -(2 ^ 62) ≤ hi then mR ((List.range (hi - lo).toNat).map fun i => D.int (lo + (i : Nat))) else fun _ => .bad
  | _, _ => fun _ => .bad
theorem di_range2 {p : Pos} (hg : Gl X "range") (hm : X.mg "range" = none) (ha : DE X W q1 a ma) (hb : DE X W q2 b mb) (na : starEach [a, b] X.env = (false, eval a X.env) :: starEach [b] X.env := by rfl) (nb : starEach [b] X.env = (false, eval b X.env) :: starEach [] X.env := by rfl) : DI X W (q1 && q2) tg (.Call (.Name "range" p) [a, b] [] pos) (mRng2 ma mb) := by
  refine ⟨_, pi_range2 hg hm (pa_cons ha (pa_cons hb pa_nil nb) na) (by rw [na, nb]; rfl) (by rw [nb]; rfl), fun B σ sd H Rr r z => ?_⟩
  unfold mRng2 at z
  refine bindE r z.parts.1 z.parts.2 fun v H1 d sd1 e1 st1 sm1 rp1 => ?_
  rw [mB_ok e1] at z
  refine bindE st1.rel (fun c e => (z.parts.1 c e).later st1) z.parts.2 fun v2 H2 d2 sd2 e2 st2 sm2 rp2 => ?_
  rw [mB_ok e2] at z
  cases d with
  | int lo =>
    cases d2 with
    | int hi =>
      cases rp1
      cases rp2
      simp only at z
      by_cases hc : lo < 2 ^ 62 ∧ -(2 ^ 62) ≤ lo ∧ hi < 2 ^ 62 ∧ -(2 ^ 62) ≤ hi
      · rw [if_pos hc] at z
        exact ⟨lo, hi, rfl, ⟨hc.2.1, hc.1, hc.2.2.2, hc.2.2.1⟩, z _ H2 (st1.trans st2) (same_and sm1 sm2) (walks_range lo _)⟩
      · rw [if_neg hc] at z
        exact z.elim
    | _ => exact z.elim
  | _ => exact z.elim
end
/-! ### targets -/
/-- the slots outside of ts are as they were -/
def Out (ts : List Nat) (σ σ' : SV) : Prop := σ'.length = σ.length ∧ ∀ i, i ∉ ts → σ'[i]? = σ[i]?
theorem Out.trans {ts us : List Nat} {σ σ1 σ2 : SV} (a : Out ts σ σ1) (b : Out us σ1 σ2) : Out (ts ++ us) σ σ2 := ⟨b.1.trans a.1, fun i h => by
  rw [List.mem_append, not_or] at h
  rw [b.2 i h.2, a.2 i h.1]⟩
def CG (K : PySem.W.Frag) (mg : Str → Option Value) (ts : List Nat) (g : TG) (asg : D → SD → Option SD) : Prop := ∀ {Θ : Tix} (B : Amb Θ) (σ : SV) (sd : SD) (H : Hp) (v : V) (d : D) (sd' : SD) (Q : SV → Hp → Prop), Rel K mg B σ H sd → Rp K mg H (Tof B σ sd) v d → asg d sd = some sd' →
  (∀ σ', Stp K mg B σ sd H σ' sd' H → Out ts σ σ' → Q σ' H) → g v σ H Q
def CGs (K : PySem.W.Frag) (mg : Str → Option Value) (ts : List Nat) (g : TGs) (asg : List D → SD → Option SD) : Prop := ∀ {Θ : Tix} (B : Amb Θ) (σ : SV) (sd : SD) (H : Hp) (v : List V) (d : List D) (sd' : SD) (Q : SV → Hp → Prop), Rel K mg B σ H sd → Rps K mg H (Tof B σ sd) v d → asg d sd = some sd' →
  (∀ σ', Stp K mg B σ sd H σ' sd' H → Out ts σ σ' → Q σ' H) → g v σ H Q
def DG (X : Cx) (tg : Expr) (asg : D → SD → Option SD) : Prop := ∃ ts g, PG X tg g ∧ CG X.K X.mg ts g asg
def DGs (X : Cx) (tgs : List Expr) (asg : List D → SD → Option SD) : Prop := ∃ ts g, PGs X tgs g ∧ CGs X.K X.mg ts g asg
def putNil : List D → SD → Option SD
  | [], sd => some sd
  | _, _ => none
def putCons (a : D → SD → Option SD) (r : List D → SD → Option SD) : List D → SD → Option SD
  | d :: ds, sd => (a d sd).bind (r ds)
  | _, _ => none
def putTup (n : Nat) (r : List D → SD → Option SD) : D → SD → Option SD
  | .tup ds, sd => if ds.length = n then r ds sd else none
  | _, _ => none
section
variable {X : Cx} {pos : Pos} {e : Expr} {es : List Expr}
theorem cg_name {K : PySem.W.Frag} {mg : Str → Option Value} (i : Nat) : CG K mg [i] (gName i) (put i) := fun B σ sd H v d sd' Q r rp h k => k _ (put_ok r rp h) ⟨List.length_set, fun j hj => List.getElem?_set_ne fun e => hj (by rw [e]; exact List.mem_singleton_self _)⟩
theorem cgs_nil {K : PySem.W.Frag} {mg : Str → Option Value} : CGs K mg [] gNil putNil := fun B σ sd H v d sd' Q r rp h k => by
  cases rp with
  | nil => cases h; exact ⟨rfl, k σ (Stp.refl r) ⟨rfl, fun _ _ => rfl⟩⟩
  | cons _ _ => cases h
theorem cgs_cons {K : PySem.W.Frag} {mg : Str → Option Value} {ts us : List Nat} {g1 : TG} {g2 : TGs} {a : D → SD → Option SD} {rr : List D → SD → Option SD} (b1 : CG K mg ts g1 a) (b2 : CGs K mg us g2 rr) : CGs K mg (ts ++ us) (gCons g1 g2) (putCons a rr) := fun B σ sd H v d sd' Q r rp h k => by
  cases rp with
  | nil => cases h
  | @cons _ w ws d ds p ps =>
    simp only [putCons] at h
    cases e1 : a d sd with
    | none => rw [e1] at h; cases h
    | some sd1 =>
      rw [e1] at h
      refine ⟨w, ws, rfl, b1 B σ sd H w d sd1 _ r p e1 fun σ1 st1 o1 => ?_⟩
      exact b2 B σ1 sd1 H ws ds sd' _ st1.rel (ps.carry st1.carry) h fun σ2 st2 o2 => k σ2 (st1.trans st2) (o1.trans o2)
theorem cg_tup {K : PySem.W.Frag} {mg : Str → Option Value} {ts : List Nat} {n : Nat} {g : TGs} {rr : List D → SD → Option SD} (b : CGs K mg ts g rr) : CG K mg ts (gTup K n g) (putTup n rr) := fun B σ sd H v d sd' Q r rp h kk => by
  cases d with
  | tup ds =>
    simp only [putTup] at h
    split at h
    · rename_i hl
      obtain ⟨p, xs, rfl, h1, h2⟩ := (Rq.val rp).tup
      exact ⟨p, xs, rfl, h1, by rw [h2.length, hl], b B σ sd H xs ds sd' Q r h2 h kk⟩
    · cases h
  | _ => cases h
theorem dg_name (i : Nat) {x : Str} (hN : X.N.Nodup) (hi : X.N[i]? = some x := by rfl) (hx : Loc X.env.scope x := by first | exact .inl rfl | exact .inr rfl) (hf : X.fn x = true ∨ X.env.scope.names.lookup x = some .local := by first | exact .inl rfl | exact .inr rfl) : DG X (.Name x pos) (put i) :=
  ⟨_, _, pg_name hN hi hx hf, cg_name i⟩
theorem dgs_nil : DGs X [] putNil := ⟨_, _, pgs_nil, cgs_nil⟩
theorem dgs_cons {a : D → SD → Option SD} {rr : List D → SD → Option SD} (h1 : DG X e a) (h2 : DGs X es rr) (hs : (assignEach (e :: es) X.env).map (·.2) = assign e X.env :: (assignEach es X.env).map (·.2) := by rfl) : DGs X (e :: es) (putCons a rr) := by
  obtain ⟨t1, g1, a1, b1⟩ := h1
  obtain ⟨t2, g2, a2, b2⟩ := h2
  exact ⟨_, _, pgs_cons a1 a2 hs, cgs_cons b1 b2⟩
theorem dg_tup {k n : Nat} {rr : List D → SD → Option SD} (hc : X.calm = true) (h : DGs X es rr) (hn : (assignEach es X.env).length = n := by rfl) (hst : (assignEach es X.env).findIdx? (·.1) = none := by rfl) : DG X (.Tuple es k pos) (putTup n rr) := by
  obtain ⟨ts, g, a, b⟩ := h
  exact ⟨_, _, pg_tup hc a hn hst, cg_tup b⟩
/-- target = e -/
def mAsg (asg : D → SD → Option SD) (m : ME) : MS := mBS m fun d sd => match asg d sd with
  | some s => .ok (.nx s)
  | none => .bad
theorem ds_asg {tg : Expr} {W : WT} {q : Bool} {m : ME} {asg : D → SD → Option SD} (hg : DG X tg asg) (h : DE X W q e m) (hs : swapsWithSole [tg] e pos.line X.env = pure false := by rfl) (hw : swappedStores [tg] e X.env = pure none := by rfl)
    (h1 : (assignEach [tg] X.env).map (·.2) = [assign tg X.env] := by rfl) : DS X W (.Assign [tg] e pos) (mAsg asg m) := by
  obtain ⟨ts, g, a1, b1⟩ := hg
  refine ps_imp (ps_asg h a1 hs hw h1) fun Dn σ H ⟨B, sd, r, z⟩ => ?_
  refine bindSE r z.parts fun v H1 d sd1 e1 st1 _ rp1 => ?_
  unfold mAsg at z
  rw [mBS_ok e1] at z
  cases e2 : asg d sd1 with
  | none => rw [e2] at z; exact z.elim
  | some sd2 =>
    rw [e2] at z
    exact b1 B σ sd1 H1 v d sd2 _ st1.rel rp1 e2 fun σ2 st2 _ => z σ2 H1 (st1.trans st2)
end
/-! ### for -/
def loopD (asg : D → SD → Option SD) (body : MS) : List D → SD → R Fl
  | [], sd => .ok (.nx sd)
  | d :: ds, sd => match asg d sd with
    | none => .bad
    | some sd1 => (match body sd1 with
      | .ok (.nx sd2) => loopD asg body ds sd2
      | .ok (.ct sd2) => loopD asg body ds sd2
      | .ok (.bk sd2) => .ok (.nx sd2)
      | r => r)
def mFor (ms : MF) (asg : D → SD → Option SD) (body : MS) : MS := mBS ms fun ds sd => loopD asg body ds sd
section
variable {X : Cx} {W : WT} {q : Bool} {tg iter : Expr} {pos : Pos}
theorem ds_for {ms : MF} {asg : D → SD → Option SD} {xb : List Stmt} {mb : MS} (hp : PassesOwn (model X.prog X.w) X.A X.env X.xe) (hc : X.calm = true) (hi : DI X W q tg iter ms) (hg : DG X tg asg) (hb : DSs X W xb mb)
    (hs : ∀ x, foldedSetIterable iter X.env x = pure x := by intro _; rfl) : DS X W (.For tg iter xb [] pos) (mFor ms asg mb) := by
  obtain ⟨wi, i1, i2⟩ := hi
  obtain ⟨ts, g, g1, g2⟩ := hg
  refine ps_imp (ps_for hp hc i1 g1 hb hs) fun Dn σ H ⟨B, sd, r, z⟩ => ?_
  refine i2 B σ sd H _ r ?_
  unfold mFor at z
  cases e : ms sd with
  | exc c => exact z.parts.1 c (by unfold mBS; rw [e])
  | bad => exact absurd (by unfold mBS; rw [e]) z.parts.2
  | ok pr =>
    obtain ⟨ds, sd1⟩ := pr
    rw [mBS_ok e] at z
    refine fun J H1 st1 sm1 wk => ?_
    have z := z.later st1
    refine ⟨fun i m σ' H' => m = ds.length - i ∧ i ≤ ds.length ∧ ∃ sd', Stp X.K X.mg B σ sd1 H1 σ' sd' H' ∧ AftS X.K X.mg B σ' sd' H' W Dn (loopD asg mb (ds.drop i) sd'), ⟨ds.length, rfl, Nat.zero_le _, sd1, Stp.refl st1.rel, z⟩, ?_⟩
    rintro i m σ' H' ⟨rfl, hi, sd', st', z'⟩
    by_cases hlt : i < ds.length
    · obtain ⟨w1, w2⟩ := wk.go H' (Tof B σ' sd') st'.carry (fun b t => st'.rel.tofThere t) i hlt
      refine .inr ⟨w1, fun σ3 H3 => ∃ sd3, Stp X.K X.mg B σ sd1 H1 σ3 sd3 H3 ∧ AftS X.K X.mg B σ3 sd3 H3 W Dn (loopD asg mb (ds.drop (i + 1)) sd3), fun σ3 H3 h => ⟨ds.length - (i + 1), by omega, rfl, hlt, h⟩, fun x H2 y => ?_⟩
      obtain ⟨s2, d, e1, rp⟩ := w2 x H2 y
      have st2 : Stp X.K X.mg B σ' sd' H' σ' sd' H2 := Stp.same st'.rel s2
      have ed : ds.drop i = d :: ds.drop (i + 1) := by
        obtain ⟨h1, h2⟩ := List.getElem?_eq_some_iff.mp e1
        rw [List.drop_eq_getElem_cons h1, h2]
      rw [ed] at z'
      unfold loopD at z'
      have z2 := z'.later st2
      cases e3 : asg d sd' with
      | none => rw [e3] at z2; exact z2.elim
      | some sd3 =>
        rw [e3] at z2
        simp only at z2
        refine g2 B σ' sd' H2 x d sd3 _ st2.rel rp e3 fun σ3 st3 _ => ?_
        have z3 := z2.later st3
        refine ⟨B, sd3, st3.rel, ?_⟩
        have all := (st'.trans st2).trans st3
        cases e4 : mb sd3 with
        | ok fl =>
          rw [e4] at z3
          cases fl with
          | nx sd4 => exact fun σ4 H4 st4 => ⟨sd4, all.trans st4, z3.later st4⟩
          | ct sd4 => exact fun σ4 H4 st4 => ⟨sd4, all.trans st4, z3.later st4⟩
          | bk sd4 => exact fun σ4 H4 st4 => z3 σ4 H4 st4
          | rt d sd4 => exact z3
          | rf ds sd4 => exact z3
        | exc c => rw [e4] at z3; exact z3
        | bad => rw [e4] at z3; exact z3.elim
    · have ei : ds.drop i = [] := List.drop_eq_nil_of_le (by omega)
      rw [ei] at z'
      exact .inl ⟨wk.stop H' _ st'.carry i (by omega), z' σ' H' (Stp.refl st'.rel)⟩
end
end HD

set_option Elab.async false
set_option linter.all false
set_option autoImplicit false
set_option maxRecDepth 100000
set_option maxHeartbeats 4000000
namespace HD
open PySem PySem.Spec PyProof.Rows L2
/-! ### comprehensions -/
def wipeD (sd : SD) : List Nat → SD
  | [] => sd
  | v :: vs => (wipeD sd vs).set v none
def backD (sd0 : SD) (sd : SD) : List Nat → SD
  | [] => sd
  | v :: vs => (backD sd0 sd vs).set v (sd0[v]?.getD none)
def noOwn (sd : SD) (vs : List Nat) : Bool := vs.all fun v => match sd[v]? with
  | some (some d) => !isOwn d
  | _ => true
def compL (asg : D → SD → Option SD) (mt : SD → R (Bool × SD)) (me : ME) (vs : List Nat) : List D → SD → List D → R (List D × SD)
  | [], sd, acc => .ok (acc, sd)
  | d :: ds, sd, acc => match asg d sd with
    | none => .bad
    | some sd1 => (match mt sd1 with
      | .ok (true, sd2) => (match me sd2 with
        | .ok (e, sd3) => if noOwn sd3 vs = true ∧ acc.length < sizeLine then compL asg mt me vs ds (wipeD sd3 vs) (acc ++ [e]) else .bad
        | _ => .bad)
      | .ok (false, sd2) => if noOwn sd2 vs = true then compL asg mt me vs ds (wipeD sd2 vs) acc else .bad
      | _ => .bad)
def mComp (vs : List Nat) (ms : MF) (asg : D → SD → Option SD) (mt : SD → R (Bool × SD)) (me : ME) : MF := mB ms fun ds sd => if noOwn sd vs = true then (match compL asg mt me vs ds (wipeD sd vs) [] with
  | .ok (out, sd') => .ok (out, backD sd sd' vs)
  | _ => .bad) else .bad
section
variable {K : PySem.W.Frag} {mg : Str → Option Value} {Θ : Tix} {B : Amb Θ} {σ : SV} {sd sd' : SD} {H H' : Hp} {vs : List Nat}
theorem wipeD_length (sd : SD) : ∀ vs : List Nat, (wipeD sd vs).length = sd.length
  | [] => rfl
  | v :: vs => by unfold wipeD; rw [List.length_set, wipeD_length sd vs]
theorem backD_length (sd0 sd : SD) : ∀ vs : List Nat, (backD sd0 sd vs).length = sd.length
  | [] => rfl
  | v :: vs => by unfold backD; rw [List.length_set, backD_length sd0 sd vs]
theorem wipeD_some {sd : SD} {i : Nat} {x : D} : ∀ {vs : List Nat}, (wipeD sd vs)[i]? = some (some x) → sd[i]? = some (some x) ∧ i ∉ vs
  | [], h => ⟨h, by simp⟩
  | v :: vs, h => by
    unfold wipeD at h
    by_cases hi : v = i
    · subst hi
      rcases Nat.lt_or_ge v (wipeD sd vs).length with hv | hv
      · rw [List.getElem?_set_self hv] at h; cases h
      · rw [List.getElem?_eq_none (by simpa using hv)] at h; cases h
    · rw [List.getElem?_set_ne hi] at h
      obtain ⟨h1, h2⟩ := wipeD_some h
      exact ⟨h1, by simp only [List.mem_cons, not_or]; exact ⟨fun e => hi e.symm, h2⟩⟩
theorem wipeD_out {sd : SD} {i : Nat} : ∀ {vs : List Nat}, i ∉ vs → (wipeD sd vs)[i]? = sd[i]?
  | [], _ => rfl
  | v :: vs, h => by
    simp only [List.mem_cons, not_or] at h
    unfold wipeD
    rw [List.getElem?_set_ne (fun e => h.1 e.symm)]
    exact wipeD_out h.2
theorem wipe_keep {σ : SV} {i : Nat} : ∀ {vs : List Nat}, i ∉ vs → (wipe σ vs)[i]? = σ[i]?
  | [], _ => rfl
  | v :: vs, h => by
    simp only [List.mem_cons, not_or] at h
    unfold wipe
    rw [List.getElem?_set_ne (fun e => h.1 e.symm)]
    exact wipe_keep h.2
theorem backD_out {sd0 sd : SD} {i : Nat} : ∀ {vs : List Nat}, i ∉ vs → (backD sd0 sd vs)[i]? = sd[i]?
  | [], _ => rfl
  | v :: vs, h => by
    simp only [List.mem_cons, not_or] at h
    unfold backD
    rw [List.getElem?_set_ne (fun e => h.1 e.symm)]
    exact backD_out h.2
theorem backD_in {sd0 sd : SD} {i : Nat} (hl : sd0.length = sd.length) : ∀ {vs : List Nat}, i ∈ vs → (backD sd0 sd vs)[i]? = sd0[i]?
  | v :: vs, h => by
    unfold backD
    by_cases hi : v = i
    · subst hi
      rcases Nat.lt_or_ge v (backD sd0 sd vs).length with hv | hv
      · rw [List.getElem?_set_self hv]
        rw [backD_length, ← hl] at hv
        rw [List.getElem?_eq_getElem hv]
        rfl
      · rw [List.getElem?_eq_none (by rw [List.length_set]; exact hv)]
        rw [backD_length, ← hl] at hv
        rw [List.getElem?_eq_none hv]
    · rw [List.getElem?_set_ne hi]
      rcases List.mem_cons.mp h with e | e
      · exact absurd e.symm hi
      · exact backD_in hl e
theorem noOwn_at (h : noOwn sd vs = true) {i : Nat} (hi : i ∈ vs) {d : D} (e : sd[i]? = some (some d)) : isOwn d = false := by
  have := List.all_eq_true.mp h i hi
  rw [e] at this
  simp only [Bool.not_eq_true'] at this
  exact this
theorem own_wipe (h : noOwn sd vs = true) (j : Nat) (a : Addr) : OwnAt (wipe σ vs) (wipeD sd vs) j a ↔ OwnAt σ sd j a := by
  constructor
  · rintro ⟨h1, d, h2, h3⟩
    obtain ⟨q1, q2⟩ := wipeD_some h2
    rw [wipe_keep q2] at h1
    exact ⟨h1, d, q1, h3⟩
  · rintro ⟨h1, d, h2, h3⟩
    have q : j ∉ vs := fun m => by rw [noOwn_at h m h2] at h3; cases h3
    exact ⟨by rw [wipe_keep q]; exact h1, d, by rw [wipeD_out q]; exact h2, h3⟩
/-- a block's own names are forgotten -/
theorem Rel.wipe (r : Rel K mg B σ H sd) (h : noOwn sd vs = true) : Rel K mg B (L2.wipe σ vs) H (wipeD sd vs) := by
  have c : Carry H (Tof B σ sd) H (Tof B (L2.wipe σ vs) (wipeD sd vs)) := Carry.less_of fun b t => t.elim .inl fun ⟨j, t⟩ => .inr ⟨j, (own_wipe h j b).mp t⟩
  refine ⟨by rw [wipeD_length, wipe_length]; exact r.len, fun i d hd => ?_, fun i j a h1 h2 => r.inj i j a ((own_wipe h i a).mp h1) ((own_wipe h j a).mp h2), r.t0, r.ent, fun a e => (own_wipe h 0 a).mpr (r.io a e), r.inv⟩
  obtain ⟨q1, q2⟩ := wipeD_some hd
  obtain ⟨v, h1, h2⟩ := r.slots i d q1
  exact ⟨v, by rw [wipe_keep q2]; exact h1, h2.carry c fun _ _ _ _ z => z⟩
theorem Own.wipe (h : noOwn sd vs = true) (a : Addr) : Own (L2.wipe σ vs) (wipeD sd vs) a ↔ Own σ sd a := ⟨fun ⟨j, t⟩ => ⟨j, (own_wipe h j a).mp t⟩, fun ⟨j, t⟩ => ⟨j, (own_wipe h j a).mpr t⟩⟩
end
/-- a clause's tests -/
abbrev DTs (X : Cx) (W : WT) (q : Bool) (ifs : List Expr) (m : SD → R (Bool × SD)) : Prop := PTs X ifs (tT X W q m)
section
variable {X : Cx} {W : WT} {q : Bool} {c : Expr} {t : SD → R (Bool × SD)}
theorem dts_nil : DTs X W true [] (mR true) := ⟨fun pins s σ H Q I ⟨B, sd, r, z⟩ => pts_nil.run pins s σ H Q I (z H (Stp.refl r) fun _ => Same.refl H)⟩
theorem dts_one (h : DT X W q c t) : DTs X W q [c] t := pts_one h
end
abbrev w0 (W : WT) : WT := ⟨fun _ _ _ _ => False, W.tb⟩
/-- the new list's place, in a turn -/
theorem Fresh.grow {K : PySem.W.Frag} {mg : Str → Option Value} {Θ : Tix} {B : Amb Θ} {σ σw : SV} {sd sd1 : SD} {H H1 : Hp} {p : Addr} {xs : List V} {ds : List D} {y : V} {d : D} (hpe : B.He p = none) (f : Fresh K mg B σ sd H σw sd1 H1 p xs ds) (ry : Rp K mg H1 (Tof (B.plus p) σw sd1) y d) :
    Fresh K mg B σ sd H σw sd1 (upd H1 p (.lst (xs ++ [y]))) p (xs ++ [y]) (ds ++ [d]) := by
  have np : ∀ a, Own σw sd1 a → a ≠ p := fun a h z => (f.rel.ownT0 h).1 (.inr z)
  have c : Carry H1 (Tof (B.plus p) σw sd1) (upd H1 p (.lst (xs ++ [y]))) (Tof (B.plus p) σw sd1) := ⟨fun b o e m _ => by
    by_cases z : b = p
    · subst z
      rw [f.at_] at e
      cases e
      have := m (.inl (.inr rfl))
      cases this
    · rw [upd_ne z]; exact e, fun b _ n => n⟩
  have keep : ∀ b o, b ≠ p → H1 b = some o → upd H1 p (.lst (xs ++ [y])) b = some o := fun b o z e => by rw [upd_ne z]; exact e
  have there : ∀ b, H1 b ≠ none → upd H1 p (.lst (xs ++ [y])) b ≠ none := fun b h => by
    by_cases z : b = p
    · rw [z, upd_same]; exact fun w => nomatch w
    · rw [upd_ne z]; exact h
  have rel : Rel K mg (B.plus p) σw (upd H1 p (.lst (xs ++ [y]))) sd1 := by
    refine ⟨f.rel.len, fun i e hd => ?_, f.rel.inj, fun a t => there a (f.rel.t0 a t), ⟨fun b o e m ht => ?_, fun b h => there b (f.rel.ent.there b h)⟩, f.rel.io, ?_⟩
    · obtain ⟨v, h1, h2⟩ := f.rel.slots i e hd
      refine ⟨v, h1, h2.carry c fun a o ev eo ha => ?_⟩
      exact keep a o (np a ⟨i, by rw [h1, ev], e, hd, eo⟩) ha
    · have e2 := f.rel.ent.keep b o e m ht
      refine keep b o (fun z => ?_) e2
      subst z
      have e3 : B.He b = some o := e
      rw [hpe] at e3
      cases e3
    · exact f.rel.inv.keep (fun b => b = p) (fun b hb => by rw [hb]; exact ⟨_, f.at_, .inl ⟨_, rfl⟩⟩) fun b o e n => keep b o n e
  refine ⟨⟨rel.unplus, ⟨fun b o e m ht => ?_, fun b h => there b (f.st.ext.there b h)⟩, f.st.own⟩, f.new, upd_same, rel, (f.rp.append (.cons ry .nil)).carry c⟩
  exact keep b o (fun z => by rw [z, f.new] at e; cases e) (f.st.ext.keep b o e m ht)
/-- behind a part of a turn -/
theorem Fresh.step {K : PySem.W.Frag} {mg : Str → Option Value} {Θ : Tix} {B : Amb Θ} {σ σw σ2 : SV} {sd sd1 sd2 : SD} {H H1 H2 : Hp} {p : Addr} {xs : List V} {ds : List D} (f : Fresh K mg B σ sd H σw sd1 H1 p xs ds) (s : Stp K mg (B.plus p) σw sd1 H1 σ2 sd2 H2) :
    Fresh K mg B σ sd H σ2 sd2 H2 p xs ds := by
  have np : ∀ a, Own σw sd1 a → a ≠ p := fun a h z => (f.rel.ownT0 h).1 (.inr z)
  refine ⟨f.st.trans ⟨s.rel.unplus, s.ext, s.own⟩, f.new, s.ext.keep _ _ f.at_ (fun m => absurd rfl (np p m)) rfl, s.rel, f.rp.carry s.carry⟩
theorem Fresh.wipe {K : PySem.W.Frag} {mg : Str → Option Value} {Θ : Tix} {B : Amb Θ} {σ σ2 : SV} {sd sd2 : SD} {H H2 : Hp} {p : Addr} {xs : List V} {ds : List D} {vs : List Nat} (f : Fresh K mg B σ sd H σ2 sd2 H2 p xs ds) (h : noOwn sd2 vs = true) :
    Fresh K mg B σ sd H (L2.wipe σ2 vs) (wipeD sd2 vs) H2 p xs ds :=
  ⟨⟨f.st.rel.wipe h, f.st.ext, fun a t => f.st.own a ((Own.wipe h a).mp t)⟩, f.new, f.at_, f.rel.wipe h, f.rp.carry (Carry.less_of fun b t => t.elim .inl fun t => .inr ((Own.wipe h b).mp t))⟩
theorem wipe_out_eq {σ σ' : SV} (h1 : σ'.length = σ.length) : ∀ {vs : List Nat}, (∀ i, i ∉ vs → σ'[i]? = σ[i]?) → L2.wipe σ' vs = L2.wipe σ vs := fun {vs} h => by
  apply List.ext_getElem?
  intro i
  by_cases hi : i ∈ vs
  · have len : (L2.wipe σ' vs).length = (L2.wipe σ vs).length := by rw [wipe_length, wipe_length, h1]
    rcases Nat.lt_or_ge i (L2.wipe σ vs).length with hl | hl
    · have get : ∀ (τ : SV), i < (L2.wipe τ vs).length → (L2.wipe τ vs)[i]? = some none := fun τ hτ => by
        cases q : (L2.wipe τ vs)[i]? with
        | none => rw [List.getElem?_eq_none_iff] at q; omega
        | some o =>
          cases o with
          | none => rfl
          | some x => exact absurd hi (wipe_some q).2
      rw [get σ hl, get σ' (by rw [len]; exact hl)]
    · rw [List.getElem?_eq_none hl, List.getElem?_eq_none (by rw [len]; exact hl)]
  · rw [wipe_keep hi, wipe_keep hi, h i hi]
/-- the names that a block forgot stand again -/
theorem Fresh.back {K : PySem.W.Frag} {mg : Str → Option Value} {Θ : Tix} {B : Amb Θ} {σ : SV} {sd1 sd' : SD} {H1 H' : Hp} {D : Addr} {xs : List V} {acc : List HD.D} {vs : List Nat} (r1 : Rel K mg B σ H1 sd1) (hno : noOwn sd1 vs = true)
    (f : Fresh K mg B (L2.wipe σ vs) (wipeD sd1 vs) H1 (L2.wipe σ vs) sd' H' D xs acc) : Fresh K mg B σ sd1 H1 σ (backD sd1 sd' vs) H' D xs acc := by
  have hl : sd1.length = sd'.length := by rw [r1.len, f.rel.len, wipe_length]
  have own : ∀ j a, OwnAt σ (backD sd1 sd' vs) j a → OwnAt (L2.wipe σ vs) sd' j a := fun j a ⟨q1, d, q2, q3⟩ => by
    by_cases hj : j ∈ vs
    · rw [backD_in hl hj] at q2
      rw [noOwn_at hno hj q2] at q3
      cases q3
    · rw [backD_out hj] at q2
      exact ⟨by rw [wipe_keep hj]; exact q1, d, q2, q3⟩
  have sub : ∀ b, Tof (B.plus D) σ (backD sd1 sd' vs) b → Tof (B.plus D) (L2.wipe σ vs) sd' b := fun b t => t.elim .inl fun ⟨j, t⟩ => .inr ⟨j, own j b t⟩
  have c : Carry H' (Tof (B.plus D) (L2.wipe σ vs) sd') H' (Tof (B.plus D) σ (backD sd1 sd' vs)) := Carry.less_of sub
  have c1 : Carry H1 (Tof B σ sd1) H' (Tof (B.plus D) σ (backD sd1 sd' vs)) := ⟨fun b o e m ht => f.st.ext.keep b o e (fun t => m (.inr ((Own.wipe hno b).mp t))) ht, fun b hb n t => by
    rcases sub b t with (t | t) | t
    · exact n (.inl t)
    · exact hb (by rw [t]; exact f.new)
    · rcases f.st.own b t with y | y
      · exact n (.inr ((Own.wipe hno b).mp y))
      · exact hb y⟩
  have rel : Rel K mg (B.plus D) σ H' (backD sd1 sd' vs) := by
    refine ⟨by rw [backD_length, ← hl]; exact r1.len, fun j d hj => ?_, fun j k a h1 h2 => f.rel.inj j k a (own j a h1) (own k a h2), f.rel.t0, f.rel.ent, fun a e => ?_, f.rel.inv⟩
    · by_cases hm : j ∈ vs
      · rw [backD_in hl hm] at hj
        obtain ⟨v, h1, h2⟩ := r1.slots j d hj
        refine ⟨v, h1, ?_⟩
        cases h2 with
        | val n g => exact .val n (g.carry c1)
        | own _ _ _ _ => have := noOwn_at hno hm hj; cases this
        | owd _ _ _ _ => have := noOwn_at hno hm hj; cases this
      · rw [backD_out hm] at hj
        obtain ⟨v, h1, h2⟩ := f.rel.slots j d hj
        rw [wipe_keep hm] at h1
        exact ⟨v, h1, h2.carry c fun _ _ _ _ z => z⟩
    · have h0 := r1.io a e
      have hm : 0 ∉ vs := fun hm => by
        obtain ⟨_, d, q2, q3⟩ := h0
        rw [noOwn_at hno hm q2] at q3
        cases q3
      obtain ⟨q1, d, q2, q3⟩ := f.rel.io a e
      exact ⟨by rw [wipe_keep hm] at q1; exact q1, d, by rw [backD_out hm]; exact q2, q3⟩
  exact ⟨⟨rel.unplus, f.st.ext.mono fun b t => (Own.wipe hno b).mp t, fun a ⟨j, t⟩ => by
    rcases f.st.own a ⟨j, own j a t⟩ with y | y
    · exact .inl ((Own.wipe hno a).mp y)
    · exact .inr y⟩, f.new, f.at_, rel, f.rp.carry c⟩
section
variable {X : Cx} {W : WT} {q q1 q2 : Bool} {pos : Pos}
theorem comp_imp (own : List (Str × Nat)) {ms : MF} {asg : D → SD → Option SD} {g : TG} {mt : SD → R (Bool × SD)} {me : ME} {ts : List Nat} (cg : CG X.K X.mg ts g asg) (hts : ∀ i ∈ ts, i ∈ own.map (·.2)) {wi : TI}
    (i2 : ∀ (B : Amb W.tb) (σ : SV) (sd : SD) (H : Hp) (Rr : It → Hp → Prop), Rel X.K X.mg B σ H sd → AftI X.K X.mg B σ sd H W q Rr (ms sd) → wi σ H Rr) (σ : SV) (H : Hp) (Q : VK) (h : tF X W false (mComp (own.map (·.2)) ms asg mt me) σ H Q) :
    tLc wi g (tT X (w0 W) q1 mt) (tD X (w0 W) q2 me) (own.map (·.2)) σ H Q := by
  obtain ⟨B, sd, r, z⟩ := h
  generalize own.map (·.2) = vs at z hts ⊢
  refine i2 B σ sd H _ r ?_
  unfold mComp at z
  cases e : ms sd with
  | exc c => exact z.parts.1 c (by unfold mB; rw [e])
  | bad => exact absurd (by unfold mB; rw [e]) z.parts.2
  | ok pr =>
    obtain ⟨ds, sd1⟩ := pr
    rw [mB_ok e] at z
    by_cases hno : noOwn sd1 vs = true
    · rw [if_pos hno] at z
      refine fun J H1 st1 sm1 wk D hD => ?_
      have hpe : B.He D = none := st1.rel.ent.gone hD
      have r1 := st1.rel
      have rw1 : Rel X.K X.mg B (L2.wipe σ vs) H1 (wipeD sd1 vs) := r1.wipe hno
      have f0 : Fresh X.K X.mg B (L2.wipe σ vs) (wipeD sd1 vs) H1 (L2.wipe σ vs) (wipeD sd1 vs) (upd H1 D (.lst [])) D [] [] := Fresh.laid (Stp.refl rw1) hD .nil
      -- the source's carrying
      have cw : Carry H1 (Tof B σ sd1) H1 (Tof B (L2.wipe σ vs) (wipeD sd1 vs)) := Carry.less_of fun b t => t.elim .inl fun t => .inr ((Own.wipe hno b).mp t)
      cases et : compL asg mt me vs ds (wipeD sd1 vs) [] with
      | exc c => rw [et] at z; exact z.elim
      | bad => rw [et] at z; exact z.elim
      | ok pr =>
        obtain ⟨out, sdk⟩ := pr
        rw [et] at z
        refine ⟨fun i m H' => m = ds.length - i ∧ i ≤ ds.length ∧ ∃ sd' acc xs, Fresh X.K X.mg B (L2.wipe σ vs) (wipeD sd1 vs) H1 (L2.wipe σ vs) sd' H' D xs acc ∧ compL asg mt me vs (ds.drop i) sd' acc = .ok (out, sdk), ⟨ds.length, rfl, Nat.zero_le _, wipeD sd1 vs, [], [], f0, et⟩, ?_⟩
        rintro i m H' ⟨rfl, hi, sd', acc, xs, f, ec⟩
        have cc : Carry H1 (Tof B σ sd1) H' (Tof (B.plus D) (L2.wipe σ vs) sd') := ⟨fun b o e m ht => f.st.ext.keep b o e (fun t => m (.inr ((Own.wipe hno b).mp t))) ht, fun b hb n t => by
          rcases t with (t | t) | t
          · exact n (.inl t)
          · exact hb (by rw [t]; exact hD)
          · rcases f.st.own b t with y | y
            · exact n (.inr ((Own.wipe hno b).mp y))
            · exact hb y⟩
        by_cases hlt : i < ds.length
        · obtain ⟨w1, w2⟩ := wk.go H' (Tof (B.plus D) (L2.wipe σ vs) sd') cc (fun b t => f.rel.tofThere t) i hlt
          refine .inr ⟨w1, fun H3 => ∃ sd3 acc xs, Fresh X.K X.mg B (L2.wipe σ vs) (wipeD sd1 vs) H1 (L2.wipe σ vs) sd3 H3 D xs acc ∧ compL asg mt me vs (ds.drop (i + 1)) sd3 acc = .ok (out, sdk), fun H3 h => ⟨ds.length - (i + 1), by omega, rfl, hlt, h⟩, fun x H2 y => ?_⟩
          obtain ⟨s2, d, e1, rp⟩ := w2 x H2 y
          have f2 := f.step (Stp.same f.rel s2)
          have ed : ds.drop i = d :: ds.drop (i + 1) := by
            obtain ⟨h1, h2⟩ := List.getElem?_eq_some_iff.mp e1
            rw [List.drop_eq_getElem_cons h1, h2]
          rw [ed] at ec
          unfold compL at ec
          cases e3 : asg d sd' with
          | none => rw [e3] at ec; cases ec
          | some sd3 =>
            rw [e3] at ec
            simp only at ec
            refine cg (B.plus D) (L2.wipe σ vs) sd' H2 x d sd3 _ f2.rel rp e3 fun σ3 st3 out3 => ?_
            have f3 := f2.step st3
            have ew : L2.wipe σ3 vs = L2.wipe σ vs := by
              have o2 : ∀ i, i ∉ vs → σ3[i]? = σ[i]? := fun i hi => by rw [out3.2 i fun t => hi (hts i t), wipe_keep hi]
              exact wipe_out_eq (by rw [out3.1, wipe_length]) o2
            refine ⟨ew, B.plus D, sd3, f3.rel, ?_⟩
            cases e4 : mt sd3 with
            | exc c => rw [e4] at ec; cases ec
            | bad => rw [e4] at ec; cases ec
            | ok pr =>
              obtain ⟨k, sd4⟩ := pr
              rw [e4] at ec
              refine fun H4 st4 _ => ?_
              have f4 := f3.step st4
              cases k with
              | false =>
                simp only at ec
                by_cases hn : noOwn sd4 vs = true
                · rw [if_pos hn] at ec
                  have f5 := f4.wipe hn
                  rw [ew] at f5
                  exact ⟨wipeD sd4 vs, acc, xs, f5, ec⟩
                · rw [if_neg hn] at ec; cases ec
              | true =>
                simp only at ec
                refine L2.iteT ⟨B.plus D, sd4, f4.rel, ?_⟩
                cases e5 : me sd4 with
                | exc c => rw [e5] at ec; cases ec
                | bad => rw [e5] at ec; cases ec
                | ok pr =>
                  obtain ⟨d5, sd5⟩ := pr
                  rw [e5] at ec
                  simp only at ec
                  refine fun y5 H5 st5 _ rp5 => ?_
                  have f5 := f4.step st5
                  by_cases hn : noOwn sd5 vs = true ∧ acc.length < sizeLine
                  · rw [if_pos hn] at ec
                    have f6 := (f5.grow hpe rp5).wipe hn.1
                    rw [ew] at f6
                    exact ⟨xs, f5.at_, by rw [f5.rp.length]; exact hn.2, wipeD sd5 vs, _, _, f6, ec⟩
                  · rw [if_neg hn] at ec; cases ec
        · have ei : ds.drop i = [] := List.drop_eq_nil_of_le (by omega)
          rw [ei] at ec
          cases ec
          refine .inl ⟨wk.stop H' _ cc i (by omega), z D xs H' ((f.back r1 hno).later st1) (fun e => nomatch e)⟩
    · rw [if_neg hno] at z
      exact z.elim
theorem df_comp {elt tg iter : Expr} {ifs : List Expr} {scope : Scope} (own : List (Str × Nat)) {ms : MF} {asg : D → SD → Option SD} {g : TG} {mt : SD → R (Bool × SD)} {me : ME} (hc : X.calm = true) (hN : X.N.Nodup) (hi : DI X W q tg iter ms) (ok : BlkOk X.N X.env.scope scope own)
    (hg : ∀ (s : Shared) (H : Hp) (C : Addr) (cl : List (Str × Addr)) (fp : List Addr), PG (X.blk s H scope (compEnvC scope cl C X.env) fp) tg g) {ts : List Nat} (cg : CG X.K X.mg ts g asg) (hts : ∀ i ∈ ts, i ∈ own.map (·.2))
    (ht : ∀ (s : Shared) (H : Hp) (C : Addr) (cl : List (Str × Addr)) (fp : List Addr), PTs (X.blk s H scope (compEnvC scope cl C X.env) fp) ifs (tT X (w0 W) q1 mt))
    (he : ∀ (s : Shared) (H : Hp) (C : Addr) (cl : List (Str × Addr)) (fp : List Addr), PE (X.blk s H scope (compEnvC scope cl C X.env) fp) elt (tD X (w0 W) q2 me)) (hs : ∀ x, foldedSetIterable iter X.env x = pure x := by intro _; rfl) :
    DF X W false (.ListComp elt [⟨tg, iter, ifs, 0⟩] scope pos) (mComp (own.map (·.2)) ms asg mt me) := by
  obtain ⟨wi, i1, i2⟩ := hi
  exact pe_imp (pe_lc hc hN i1 ok hg ht he hs) fun σ H Q h => comp_imp own cg hts i2 σ H Q h
/-- name = [..] on one line, the name a local -/
theorem ds_setCo {elt tg iter : Expr} {ifs : List Expr} {scope : Scope} (own : List (Str × Nat)) {ms : MF} {asg : D → SD → Option SD} {g : TG} {mt : SD → R (Bool × SD)} {me : ME} (i : Nat) {y : Str} {py spos : Pos} (mk : MF → MS) (hc : X.calm = true) (hN : X.N.Nodup) (hi : DI X W q tg iter ms) (ok : BlkOk X.N X.env.scope scope own)
    (hg : ∀ (s : Shared) (H : Hp) (C : Addr) (cl : List (Str × Addr)) (fp : List Addr), PG (X.blk s H scope (compEnvC scope cl C X.env) fp) tg g) {ts : List Nat} (cg : CG X.K X.mg ts g asg) (hts : ∀ i ∈ ts, i ∈ own.map (·.2))
    (ht : ∀ (s : Shared) (H : Hp) (C : Addr) (cl : List (Str × Addr)) (fp : List Addr), PTs (X.blk s H scope (compEnvC scope cl C X.env) fp) ifs (tT X (w0 W) q1 mt))
    (he : ∀ (s : Shared) (H : Hp) (C : Addr) (cl : List (Str × Addr)) (fp : List Addr), PE (X.blk s H scope (compEnvC scope cl C X.env) fp) elt (tD X (w0 W) q2 me))
    (hm : ∀ Dn σ H, tS X W (mk (mComp (own.map (·.2)) ms asg mt me)) Dn σ H → tF X W false (mComp (own.map (·.2)) ms asg mt me) σ H fun v H1 => gName i v σ H1 Dn.nx)
    (hy : X.N[i]? = some y := by rfl) (hyl : X.env.scope.names.lookup y = some .local := by rfl) (hsw : swapsWith (.ListComp elt [⟨tg, iter, ifs, 0⟩] scope pos) (some (.Name y py)) spos.line X.env = pure true := by exact sw_true rfl rfl rfl rfl)
    (hs : ∀ x, foldedSetIterable iter X.env x = pure x := by intro _; rfl) : DS X W (.Assign [.Name y py] (.ListComp elt [⟨tg, iter, ifs, 0⟩] scope pos) spos) (mk (mComp (own.map (·.2)) ms asg mt me)) := by
  obtain ⟨wi, i1, i2⟩ := hi
  exact ps_imp (ps_setLc hc hN hy hyl hsw i1 ok hg ht he hs) fun Dn σ H h => comp_imp own cg hts i2 σ H _ (hm Dn σ H h)
end
end HD

set_option Elab.async false
set_option linter.all false
set_option autoImplicit false
set_option maxRecDepth 100000
set_option maxHeartbeats 4000000
namespace HD
open PySem PySem.Spec PyProof.Rows L2
/-! ### t[::-1] of a tuple -/
theorem rev_places (n : Nat) : Builtin.Slice.sliceAdjust none none (-1) (n : Int) = ((n : Int) - 1, -1) ∧ Builtin.Slice.slicePlaces ((n : Int) - 1) (-1) (-1) = n := by
  refine ⟨by simp [Builtin.Slice.sliceAdjust], ?_⟩
  unfold Builtin.Slice.slicePlaces
  have h1 : ¬ ((-1 : Int) > 0) := by omega
  rw [if_neg h1]
  by_cases h : (n : Int) - 1 > -1
  · rw [if_pos h]
    have : ((n : Int) - 1 - -1 - 1) / (- -1) + 1 = n := by
      rw [show (- -1 : Int) = 1 by omega, Int.ediv_one]
      omega
    rw [this]
    omega
  · rw [if_neg h]
    omega
theorem filterMap_some {α β : Type} {f : α → Option β} {g : α → β} : ∀ {l : List α}, (∀ k ∈ l, f k = some (g k)) → l.filterMap f = l.map g
  | [], _ => rfl
  | a :: l, h => by
    rw [List.filterMap_cons, h a List.mem_cons_self, List.map_cons]
    simp only
    rw [filterMap_some fun k hk => h k (List.mem_cons_of_mem _ hk)]
theorem rev_pick (xs : Array Value) : ((List.range xs.size).filterMap fun (k : Nat) => xs[(((xs.size : Int) - 1) + (k : Int) * (-1)).toNat]?).toArray = xs.toList.reverse.toArray := by
  congr 1
  apply List.ext_getElem?
  intro i
  have e : (List.range xs.size).filterMap (fun (k : Nat) => xs[(((xs.size : Int) - 1) + (k : Int) * (-1)).toNat]?) = (List.range xs.size).map fun k => xs.toList.reverse.getD k .none := by
    apply filterMap_some
    intro k hk
    have hk' : k < xs.size := List.mem_range.mp hk
    have e1 : (((xs.size : Int) - 1) + (k : Int) * (-1)).toNat = xs.size - 1 - k := by omega
    rw [e1, Array.getElem?_eq_getElem (by omega)]
    rw [List.getD_eq_getElem?_getD, List.getElem?_reverse (by simpa using hk')]
    rw [Array.length_toList, Array.getElem?_toList, Array.getElem?_eq_getElem (by omega)]
    rfl
  rw [e, List.getElem?_map]
  by_cases h : i < xs.size
  · rw [List.getElem?_range h]
    simp only [Option.map_some]
    rw [List.getD_eq_getElem?_getD]
    have hl : i < xs.toList.reverse.length := by simpa using h
    rw [List.getElem?_eq_getElem hl]
    rfl
  · rw [List.getElem?_eq_none (by simpa using h), List.getElem?_eq_none (by simpa using h)]
    rfl
theorem getItem_tuple_rev {prog : Program} {w : World} {A : Around} {E : Value → Shared → Prop} {s : Shared} {t sl : Addr} {xs : Array Value} {vs : Value} {Q : Value → Shared → Prop} (hT : IsTup s.heap t xs) (hS : s.heap.IsSliceOf sl .none .none vs) (hv : IsPart vs (some (-1)))
    (hz : xs.size ≤ sizeLine) (k : Q (.ref s.heap.objs.size) { s with heap := s.heap.push { cls := .type "tuple", data := .seq xs.toList.reverse.toArray } }) : wpAny (model prog w) A (getItem (.ref t) (.ref sl)) Q E s := by
  obtain ⟨os, hos, hcs, hds⟩ := id hS
  have hTy : s.TypeIs (.ref sl) "slice" := ⟨os, hos, hcs⟩
  have hok : sizeOk (.seq xs.toList.reverse.toArray) := by
    show xs.toList.reverse.toArray.size ≤ sizeLine
    simpa using hz
  unfold getItem
  try with_reducible refine wpAny_holding ?_
  first | refine wpAny_bind (wpAny_pure ?_) | skip
  refine wpAny_bind (wpAny_sequenceKey hT.typeIs (by decide) (wpAny_bind (wpAny_callSpecial?_slot (name := Str.ofString "__getitem__") hT.typeIs PyProof.Rows.slot_tuple_getitem (wpAny_call_entry PyProof.Rows.slot_tuple_getitem hT.typeIs entry_tuple_getitem ?_ (args_tuple_getitem _ _)))))
  show wpAny _ _ (Builtin.Tuple.tupleItemsOf (.ref t) >>= _) _ _ s
  refine wpAny_bind (PyProof.Rows.tupleItemsOf_ hT (wpAny_bind (wpAny_typeOf hTy ?_)))
  rw [if_pos (by decide)]
  have app : ∀ {A : Around} {E : Value → Shared → Prop} {R : Int × Int × Nat → Shared → Prop}, R ((xs.size : Int) - 1, -1, xs.size) s → wpAny (model prog w) A (Builtin.Slice.sliceApplied (.ref sl) (pure (xs.size : Int))) R E s := fun {A E R} hR => by
    unfold Builtin.Slice.sliceApplied Builtin.Slice.sliceFields
    refine wpAny_bind (wpAny_bind (wpAny_field hos hds (x := .none) rfl (wpAny_bind (wpAny_field hos hds (x := .none) rfl (wpAny_bind (wpAny_field hos hds (x := vs) rfl (wpAny_pure ?_)))))))
    refine wpAny_bind (HT.slicePart_ hv ?_)
    show wpAny _ _ (if ((-1 : Int) == 0) = true then _ else _) _ _ s
    rw [if_neg (by decide)]
    refine wpAny_bind (slicePart_none (wpAny_bind (slicePart_none (wpAny_bind (wpAny_pure ?_)))))
    show wpAny _ _ (match Builtin.Slice.sliceAdjust none none (-1) (xs.size : Int) with | (lo, hi) => pure (lo, (-1 : Int), Builtin.Slice.slicePlaces lo hi (-1))) _ _ s
    rw [(rev_places xs.size).1]
    show wpAny _ _ (pure ((xs.size : Int) - 1, (-1 : Int), Builtin.Slice.slicePlaces ((xs.size : Int) - 1) (-1) (-1))) _ _ s
    rw [(rev_places xs.size).2]
    exact wpAny_pure hR
  refine wpAny_bind (app ?_)
  show wpAny _ _ (if (((xs.size : Int) - 1) == 0 && (-1 : Int) == 1 && xs.size == xs.size) = true then _ else _) _ _ s
  rw [if_neg (by simp), rev_pick]
  first
    | exact wpAny_bind (m := Builtin.Tuple.tupleExact _) (wpAny_newObj_type (wpAny_pure ⟨_, rfl, wpAny_pure k⟩) hok)
    | exact wpAny_bind (m := Builtin.Tuple.tupleExact _) (wpAny_newObj_type (wpAny_bind (wpAny_pure (wpAny_pure ⟨_, rfl, wpAny_pure k⟩))) hok)
    | exact wpAny_bind (wpAny_bind (m := Builtin.Tuple.tupleExact _) (wpAny_newObj_type (wpAny_pure (wpAny_pure ⟨_, rfl, wpAny_pure k⟩)) hok))
    | exact wpAny_bind (wpAny_bind (m := Builtin.Tuple.tupleExact _) (wpAny_newObj_type (wpAny_pure ⟨_, rfl, wpAny_pure k⟩) hok))
def mRevT (m : ME) : ME := mB m fun d => match d with
  | .tup ds => mR (.tup ds.reverse)
  | _ => fun _ => .bad
section
variable {X : Cx} {W : WT} {q q1 q2 : Bool} {e a b c : Expr} {es : List Expr} {pos : Pos} {m ma mb mc : ME}
theorem de_revT {k : Nat} {p1 p2 p3 : Pos} (h : DE X W q e m) : DE X W q (.Subscript e (.Slice none none (some (.UnaryOp .USub (.Constant (.int 1) k p1) p2)) p3) pos) (mRevT m) := by
  refine ⟨fun pins s σ H Q I ⟨B, sd, r, z⟩ => ?_⟩
  have hE : tD X W q m σ H (fun v H1 => ∃ a xs, v = .ref a ∧ SqT X.K H1 a xs ∧ ∀ p, H1 p = none → Q (.ref p) (upd H1 p (.tup xs.reverse))) := by
    refine bindE r z.parts.1 z.parts.2 fun v H1 d sd1 e1 st1 sm1 rp1 => ?_
    unfold mRevT at z
    rw [mB_ok e1] at z
    cases d with
    | tup ds =>
      obtain ⟨a, xs, rfl, h1, h2⟩ := (Rq.val rp1).tup
      exact ⟨a, xs, rfl, h1, fun p hp => z _ _ (st1.trans (Stp.laid st1.rel hp)) (fun e => (sm1 e).trans (same_laid hp)) (rp_tup st1.rel hp h2.reverse)⟩
    | _ => exact z.elim
  refine Subscript_ (thn (h.run pins s σ H _ I hE) fun v s1 hv => ?_)
  obtain ⟨y, H1, I1, r1, a, xs, rfl, hx, hQ⟩ := hv
  cases r1
  have hst : PO X (some (.UnaryOp .USub (.Constant (.int 1) k p1) p2)) (tPart (tUn (rU fun i => .int (-i)) (tC (.int 1)))) := po_some (pe_un un_neg pe_int)
  refine wpAny_Slice (thn (po_none.run pins s1 σ H1 (fun o H2 => o = none ∧ H2 = H1) I1 ⟨rfl, rfl⟩) fun vl s2 ⟨l, H2, I2, pl, el, e2⟩ => ?_)
  subst el e2
  refine thn (po_none.run pins s2 σ H2 (fun o H3 => o = none ∧ H3 = H2) I2 ⟨rfl, rfl⟩) fun vu s3 ⟨u, H3, I3, pu, eu, e3⟩ => ?_
  subst eu e3
  refine thn (hst.run pins s3 σ H3 (fun o H4 => o = some (-1) ∧ H4 = H3) I3 ⟨1, rfl, -1, rfl, rfl, rfl⟩) fun vs s4 ⟨o, H4, I4, ps, eo, e4⟩ => ?_
  subst eo e4
  cases pl
  cases pu
  have I5 : Inv X pins σ H4 { s4 with heap := s4.heap.push { cls := .type "slice", data := .fields #[.none, .none, vs] } } := I4.kept (t' := s4.toks) fun b ob q => Heap.get?_push_of_some _ q
  obtain ⟨its, rv, ht, hz⟩ := I5.tuple hx
  show wpAny (model X.prog X.w) X.A (subscriptTail e (.Slice none none (some (.UnaryOp .USub (.Constant (.int 1) k p1) p2)) p3) (.ref a) (.ref s4.heap.objs.size)) (EP X pins σ Q) X.xe { s4 with heap := s4.heap.push { cls := .type "slice", data := .fields #[.none, .none, vs] } }
  refine tail_any (ops := [.ref a, .ref s4.heap.objs.size]) ht.typeIs (PyProof.Rows.slot_tuple_getitem.lookup) ?_ (by with_unfolding_all rfl)
  refine getItem_tuple_rev ht (Heap.IsSliceOf.new _ .none .none vs) ps (by rw [List.size_toArray, ← rv.length]; exact hz) ?_
  refine ⟨.ref _, _, I5.laid (t' := s4.toks) (o := .tup xs.reverse) (fun b ob q => Heap.get?_push_of_some _ q) (Nat.le_refl _) ?_, rfl, hQ _ (I5.hok.fresh (Nat.le_refl _))⟩
  exact ⟨by rw [List.length_reverse]; exact hz, its.reverse, rv.reverse, ⟨_, Heap.get?_push_size _ rfl, rfl, 0, rfl⟩⟩
end
end HD

set_option Elab.async false
set_option linter.all false
set_option autoImplicit false
set_option maxRecDepth 100000
set_option maxHeartbeats 4000000
namespace HD
open PySem PySem.Spec PyProof.Rows L2
/-! ### in, is -/
def scV : D → Option V
  | .non => some .non
  | .bl b => some (.bl b)
  | .int i => some (.int i)
  | .str x => some (.str x)
  | _ => none
theorem scV_rel {K : PySem.W.Frag} {mg : Str → Option Value} {H : Hp} {T : Addr → Prop} {v u : V} {d : D} (h : Rq K mg H T v d) (e : scV d = some u) : v = u ∧ flatV u = true := by
  cases d with
  | non => cases e; exact ⟨h.non, rfl⟩
  | bl b => cases e; exact ⟨h.bl, rfl⟩
  | int b => cases e; exact ⟨h.int, rfl⟩
  | str b => cases e; exact ⟨h.str, rfl⟩
  | _ => cases e
theorem scVs_rel {K : PySem.W.Frag} {mg : Str → Option Value} {H : Hp} {T : Addr → Prop} : ∀ {ds : List D} {vs us : List V}, Rps K mg H T vs ds → allOf scV ds = some us → vs = us ∧ us.all flatV = true
  | [], _, _, .nil, e => by cases e; exact ⟨rfl, rfl⟩
  | d :: ds, _, us, .cons h r, e => by
    unfold allOf at e
    cases e1 : scV d with
    | none => rw [e1] at e; cases e
    | some u =>
      cases e2 : allOf scV ds with
      | none => rw [e1, e2] at e; cases e
      | some us' =>
        rw [e1, e2] at e
        cases e
        obtain ⟨a1, a2⟩ := scV_rel (Rq.val h) e1
        obtain ⟨b1, b2⟩ := scVs_rel r e2
        exact ⟨by rw [a1, b1], by rw [List.all_cons, a2, b2]; rfl⟩
def bIn (x d : D) : Option Bool := match scV x, (itemsD d).bind (allOf scV) with
  | some v, some vs => some (inV v vs)
  | _, _ => none
def bNotIn (x d : D) : Option Bool := (bIn x d).map not
section
variable {X : Cx}
theorem in_core (neg : Bool) {f : Value → Value → Sem Value} (ho : OpR X f (rIn X.K neg)) : OpB X f (fun x d => (bIn x d).map fun b => if neg then !b else b) := by
  refine ⟨_, ho, fun B σ sd H x y dx dy b Q r h1 h2 e q => ?_⟩
  cases e1 : scV dx with
  | none => simp only [bIn, e1, Option.map_none] at e; cases e
  | some u =>
    cases e2 : (itemsD dy).bind (allOf scV) with
    | none => simp only [bIn, e1, e2, Option.map_none] at e; cases e
    | some us =>
      simp only [bIn, e1, e2, Option.map_some] at e
      cases e
      obtain ⟨rfl, fu⟩ := scV_rel h1 e1
      cases dy with
      | lst ds =>
        obtain ⟨p, xs, rfl, k1, k2⟩ := h2.lst'
        obtain ⟨rfl, fs⟩ := scVs_rel k2 e2
        exact ⟨p, xs, rfl, .inl k1, fu, fs, q⟩
      | tup ds =>
        obtain ⟨p, xs, rfl, k1, k2⟩ := h2.tup
        obtain ⟨rfl, fs⟩ := scVs_rel k2 e2
        exact ⟨p, xs, rfl, .inr k1, fu, fs, q⟩
      | _ => cases e2
theorem o_in : OpB X (compareOp .In) bIn := by
  obtain ⟨r, h1, h2⟩ := in_core false (op_in_seq (X := X))
  exact ⟨r, h1, fun B σ sd H x y dx dy b Q rr k1 k2 e q => h2 B σ sd H x y dx dy b Q rr k1 k2 (by show (bIn dx dy).map _ = _; rw [e]; rfl) q⟩
theorem o_notIn : OpB X (compareOp .NotIn) bNotIn := in_core true (op_notIn_seq (X := X))
def isNonD : D → Bool
  | .non => true
  | _ => false
def bIsN (x y : D) : Option Bool := match x, y with
  | d, .non => some (isNonD d)
  | .bl i, .bl j => some (decide (i = j))
  | _, _ => none
def bIsNotN (x y : D) : Option Bool := (bIsN x y).map not
theorem rq_non {K : PySem.W.Frag} {mg : Str → Option Value} {H : Hp} {T : Addr → Prop} {v : V} {d : D} (h : Rq K mg H T v d) (hg : ∀ x, d ≠ .glo x) : decide (v = .non) = isNonD d := by
  cases d with
  | non => rw [h.non]; rfl
  | bl b => rw [h.bl]; rfl
  | int b => rw [h.int]; rfl
  | str b => rw [h.str]; rfl
  | tup ds => obtain ⟨_, _, rfl, _⟩ := h.tup; rfl
  | lst ds => obtain ⟨_, _, rfl, _⟩ := h.lst'; rfl
  | glo x => exact absurd rfl (hg x)
  | dic kvs =>
    cases h with
    | val r => cases r; rfl
    | dic _ _ => rfl
  | own _ => cases h with | val r => cases r
  | owd _ => cases h with | val r => cases r
  | clo _ _ => cases h with | val r => cases r; rfl
def bIsC (x y : D) : Option Bool := match x with
  | .glo _ => none
  | _ => bIsN x y
def bIsNotC (x y : D) : Option Bool := (bIsC x y).map not
theorem o_is : OpB X (compareOp .Is) bIsC := by
  refine ⟨_, op_isN.or op_isBl, fun B σ sd H x y dx dy b Q r h1 h2 e q => ?_⟩
  have ng : ∀ x, dx ≠ .glo x := fun x z => by rw [z] at e; cases e
  have e : bIsN dx dy = some b := by cases dx <;> first | exact e | cases e
  cases dy with
  | non =>
    have e' : some (isNonD dx) = some b := by cases dx <;> exact e
    cases e'
    exact .inl ⟨h2.non, by rw [rq_non h1 ng]; exact q⟩
  | bl j =>
    cases dx with
    | bl i => cases e; exact .inr ⟨i, j, h1.bl, h2.bl, q⟩
    | _ => cases e
  | _ => cases dx <;> cases e
theorem o_isNot : OpB X (compareOp .IsNot) bIsNotC := by
  refine ⟨_, op_notN.or op_notBl, fun B σ sd H x y dx dy b Q r h1 h2 e0 q => ?_⟩
  unfold bIsNotC at e0
  cases e1 : bIsC dx dy with
  | none => rw [e1] at e0; cases e0
  | some k =>
    rw [e1] at e0
    cases e0
    have e := e1
    have ng : ∀ x, dx ≠ .glo x := fun x z => by rw [z] at e; cases e
    have e : bIsN dx dy = some k := by cases dx <;> first | exact e | cases e
    cases dy with
    | non =>
      have e' : some (isNonD dx) = some k := by cases dx <;> exact e
      cases e'
      exact .inl ⟨h2.non, by rw [rq_non h1 ng]; exact q⟩
    | bl j =>
      cases dx with
      | bl i => cases e; exact .inr ⟨i, j, h1.bl, h2.bl, q⟩
      | _ => cases e
    | _ => cases dx <;> cases e
end
/-! ### raise -/
section
variable {X : Cx} {W : WT} {q q1 q2 : Bool} {e a b c : Expr} {es : List Expr} {pos : Pos} {m ma mb mc : ME}
def mRaise (c : Str) : MS := fun _ => .exc c
/-- what is known of an own exception class x -/
structure ExcD (X : Cx) (x : Str) (C : Addr) : Prop where
  g : X.mg x = some (.ref C)
  ex : PySem.W.excIn X.K C [.type "ValueError", .type "Exception", .type "BaseException", .type "object"] "ValueError.__new__" = true
  kp : PySem.W.keepIn X.K (.ref C) = true
  sb : PySem.W.subIn X.K (.ref C) (.type "BaseException") = some true
  ty : PySem.W.typeIn X.K (.ref C) = some (.type "type")
theorem ds_raise {x : Str} {C : Addr} {msg : Str} {j : Nat} {p p2 pos2 : Pos} (hc : X.calm = true) (tk : L2N.Takes X W.w) (h : ExcD X x C) (hg : Gl X x) (hdb : (x == ("__debug__" : Str)) = false := by decide) : DS X W (.Raise (some (.Call (.Name x p) [.Constant (.str msg) j p2] [] pos2)) none pos) (mRaise x) :=
  ps_imp (L2N.ps_raise hc tk (L2N.pmk_own PySem.F.excBase_ValueError h.ex h.g h.kp (raises_own h.sb h.ty) hg hdb)) fun Dn σ H ⟨B, sd, r, z⟩ => z σ H sd (Stp.refl r) C h.g
/-! ### a, b = x, y -/
def mPar (i j : Nat) (ma mb : ME) : MS := mBS ma fun x => mBS mb fun y sd => match put i x sd with
  | some s => mPut j y s
  | none => .bad
theorem ds_par (i j : Nat) {x y : Str} {px py pt : Pos} {kt k2 : Nat} {pt2 : Pos} (hc : X.calm = true) (hN : X.N.Nodup) (ha : DE X W q1 a ma) (hb : DE X W q2 b mb) (hi : X.N[i]? = some x := by rfl) (hj : X.N[j]? = some y := by rfl) (hij : i ≠ j := by decide)
    (hx : X.env.scope.names.lookup x = some .local := by rfl) (hy : X.env.scope.names.lookup y = some .local := by rfl) (na : starEach [a, b] X.env = (false, eval a X.env) :: starEach [b] X.env := by rfl) (nb : starEach [b] X.env = (false, eval b X.env) :: starEach [] X.env := by rfl)
    (hw : swappedStores [.Tuple [.Name x px, .Name y py] kt pt] (.Tuple [a, b] k2 pt2) X.env = pure (some [x, y]) := by rfl)
    (hs : swapsWithSole [.Tuple [.Name x px, .Name y py] kt pt] (.Tuple [a, b] k2 pt2) pos.line X.env = pure false := by rfl) : DS X W (.Assign [.Tuple [.Name x px, .Name y py] kt pt] (.Tuple [a, b] k2 pt2) pos) (mPar i j ma mb) := by
  refine ps_imp (ps_par hc hN hi hj hij hx hy (pa_cons ha (pa_cons hb pa_nil nb) na) hw hs) fun Dn σ H ⟨B, sd, r, z⟩ => ?_
  refine bindSE r z.parts fun v H1 d sd1 e1 st1 _ rp1 => ?_
  unfold mPar at z
  rw [mBS_ok e1] at z
  have z := z.later st1
  refine bindSE st1.rel z.parts fun v2 H2 d2 sd2 e2 st2 _ rp2 => ?_
  rw [mBS_ok e2] at z
  have z := z.later st2
  cases e3 : put i d sd2 with
  | none => rw [e3] at z; exact z.elim
  | some sd3 =>
    rw [e3] at z
    simp only [mPut] at z
    cases e4 : put j d2 sd3 with
    | none => rw [e4] at z; exact z.elim
    | some sd4 =>
      rw [e4] at z
      have s3 := put_ok st2.rel (rp1.carry st2.carry) e3
      have s4 := put_ok s3.rel (rp2.carry s3.carry) e4
      exact ⟨v, v2, rfl, z _ _ (s3.trans s4)⟩
/-- the second one a new list, to be changed -/
def mParO (i j : Nat) (ma : ME) (mb : MF) : MS := mBS ma fun x => mBS mb fun ys sd => match put i x sd with
  | some s => mPutO j ys s
  | none => .bad
theorem ds_parO (i j : Nat) {mb : MF} {x y : Str} {px py pt : Pos} {kt k2 : Nat} {pt2 : Pos} (hc : X.calm = true) (hN : X.N.Nodup) (ha : DE X W q1 a ma) (hb : DF X W q2 b mb) (hi : X.N[i]? = some x := by rfl) (hj : X.N[j]? = some y := by rfl) (hij : i ≠ j := by decide)
    (hx : X.env.scope.names.lookup x = some .local := by rfl) (hy : X.env.scope.names.lookup y = some .local := by rfl) (na : starEach [a, b] X.env = (false, eval a X.env) :: starEach [b] X.env := by rfl) (nb : starEach [b] X.env = (false, eval b X.env) :: starEach [] X.env := by rfl)
    (hw : swappedStores [.Tuple [.Name x px, .Name y py] kt pt] (.Tuple [a, b] k2 pt2) X.env = pure (some [x, y]) := by rfl)
    (hs : swapsWithSole [.Tuple [.Name x px, .Name y py] kt pt] (.Tuple [a, b] k2 pt2) pos.line X.env = pure false := by rfl) : DS X W (.Assign [.Tuple [.Name x px, .Name y py] kt pt] (.Tuple [a, b] k2 pt2) pos) (mParO i j ma mb) := by
  refine ps_imp (ps_par hc hN hi hj hij hx hy (pa_cons ha (pa_cons hb pa_nil nb) na) hw hs) fun Dn σ H ⟨B, sd, r, z⟩ => ?_
  refine bindSE r z.parts fun v H1 d sd1 e1 st1 _ rp1 => ?_
  unfold mParO at z
  rw [mBS_ok e1] at z
  have z := z.later st1
  refine bindSF st1.rel z.parts fun p xs H2 ds sd2 e2 f2 _ => ?_
  rw [mBS_ok e2] at z
  cases e3 : put i d sd2 with
  | none => rw [e3] at z; exact z.elim
  | some sd3 =>
    rw [e3] at z
    simp only [mPutO] at z
    cases e4 : putO j ds sd3 with
    | none => rw [e4] at z; exact z.elim
    | some sd4 =>
      rw [e4] at z
      have rp2 : Rp X.K X.mg H2 (Tof (B.plus p) σ sd2) v d := rp1.carry ⟨fun b o e m ht => f2.st.ext.keep b o e (fun t => m (.inr t)) ht, fun b hb n t => by
        rcases t with (t | t) | t
        · exact n (.inl t)
        · exact hb (by rw [t]; exact f2.new)
        · rcases f2.st.own b t with y | y
          · exact n (.inr y)
          · exact hb y⟩
      have s3 := put_ok f2.rel rp2 e3
      have f3 := f2.step s3
      exact ⟨v, .ref p, rfl, z _ _ (putO_ok st1.rel f3 e4)⟩
end
end HD

set_option Elab.async false
set_option linter.all false
set_option autoImplicit false
set_option maxRecDepth 100000
set_option maxHeartbeats 4000000
namespace HD
open PySem PySem.Spec PyProof.Rows L2
/-! ### a def by its name -/
structure GF (P : Program) (w : World) (K : PySem.W.Frag) (mg : Str → Option Value) (base : Heap) (k : Nat) (x : Str) (ps : List Str) (sp : Sp) : Prop where
  ex : ∃ f fd, FnOk P w K mg base (L2N.CX P w) k f fd ps sp ∧ mg x = some (.ref f) ∧ PySem.W.keepIn K (.ref f) = true ∧ Binds K fd ps []
section
variable {X : Cx} {W : WT} {q q1 q2 q3 : Bool} {e a b c : Expr} {es : List Expr} {pos p : Pos} {m ma mb mc : ME} {ms : MF} {x : Str} {k n : Nat} {ps : List Str}
theorem de_callG {G : List D → R D} (F : GF X.prog X.w X.K X.mg X.base k x ps (spD X.K X.mg n G)) (tk : L2N.Takes X W.w) (hr : Room k X.A) (ha : DA X W q (e :: es) ms) (hl : LenA ms n) (hg : Gl X x := by rfl) (hdb : (x == ("__debug__" : Str)) = false := by decide)
    (he : starEach (e :: es) X.env = (false, eval e X.env) :: starEach es X.env := by rfl) (hpl : (backTo pos (starEach es X.env)).any (·.1) = false := by rfl) : DE X W q (.Call (.Name x p) (e :: es) [] pos) (mCall G ms) := by
  obtain ⟨f, fd, h1, h2, h3, h4⟩ := F.ex
  exact de_call h1 tk hr hg h2 h3 h4 ha hl hdb he hpl
theorem df_callG {G : List D → R (List D)} (F : GF X.prog X.w X.K X.mg X.base k x ps (spF X.K X.mg n G)) (tk : L2N.Takes X W.w) (hr : Room k X.A) (ha : DA X W q (e :: es) ms) (hl : LenA ms n) (hg : Gl X x := by rfl) (hdb : (x == ("__debug__" : Str)) = false := by decide)
    (he : starEach (e :: es) X.env = (false, eval e X.env) :: starEach es X.env := by rfl) (hpl : (backTo pos (starEach es X.env)).any (·.1) = false := by rfl) : DF X W q (.Call (.Name x p) (e :: es) [] pos) (mCallF G ms) := by
  obtain ⟨f, fd, h1, h2, h3, h4⟩ := F.ex
  exact df_call h1 tk hr hg h2 h3 h4 ha hl hdb he hpl
theorem de_callTG {T : List (Addr × Str)} {G : List D → R D} (F : GF X.prog X.w X.K X.mg X.base k x ps (spT T X.K X.mg n G)) (hΘ : W.tb = some T) (tk : L2N.Takes X W.w) (hr : Room k X.A) (ha : DA X W q (e :: es) ms) (hl : LenA ms n) (hg : Gl X x := by rfl) (hdb : (x == ("__debug__" : Str)) = false := by decide)
    (he : starEach (e :: es) X.env = (false, eval e X.env) :: starEach es X.env := by rfl) (hpl : (backTo pos (starEach es X.env)).any (·.1) = false := by rfl) : DE X W false (.Call (.Name x p) (e :: es) [] pos) (mCall G ms) := by
  obtain ⟨f, fd, h1, h2, h3, h4⟩ := F.ex
  exact de_callT h1 hΘ tk hr hg h2 h3 h4 ha hl hdb he hpl
theorem de_callMG {G : List D → List D → R (D × List D)} (i : Nat) {y : Str} {py : Pos} (F : GF X.prog X.w X.K X.mg X.base k x ps (spM X.K X.mg (n + 1) G)) (tk : L2N.Takes X W.w) (hr : Room k X.A) (ha : DA X W q es ms) (hl : LenA ms n) (hN : X.N[i]? = some y := by rfl)
    (hv : Vis X.env.scope y := by first | exact Or.inl rfl | exact Or.inr (Or.inl rfl) | exact Or.inr (Or.inr rfl)) (hg : Gl X x := by rfl) (hd : (y == ("__debug__" : Str)) = false := by decide)
    (hcd : (y == ("__classdict__" : Str)) = false := by decide) (hdb : (x == ("__debug__" : Str)) = false := by decide)
    (he : starEach (.Name y py :: es) X.env = (false, eval (.Name y py) X.env) :: starEach es X.env := by rfl) (hpl : (backTo pos (starEach es X.env)).any (·.1) = false := by rfl) :
    DE X W false (.Call (.Name x p) (.Name y py :: es) [] pos) (mCallM G i ms) := by
  obtain ⟨f, fd, h1, h2, h3, h4⟩ := F.ex
  exact de_callM i h1 tk hr hg h2 h3 h4 ha hl hN hv hd hcd hdb he hpl
theorem takes0N : L2N.Takes X (w0 W).w := fun _ _ x => by
  obtain ⟨_, _, _, _, _, _, _, _, _, _, _, _, _, _, _, _, z⟩ := x
  exact z.elim
/-- a comprehension over one name -/
theorem df_comp1 {elt iter : Expr} {ifs : List Expr} {scope : Scope} (own : List (Str × Nat)) (i : Nat) {y : Str} {py : Pos} {ms : MF} {mt : SD → R (Bool × SD)} {me : ME} (hc : X.calm = true) (hN : X.N.Nodup) (hi : DI X W q (.Name y py) iter ms) (ok : BlkOk X.N X.env.scope scope own)
    (hg : ∀ (s : Shared) (H : Hp) (C : Addr) (cl : List (Str × Addr)) (fp : List Addr), PG (X.blk s H scope (compEnvC scope cl C X.env) fp) (.Name y py) (gName i)) (hts : i ∈ own.map (·.2))
    (ht : ∀ (s : Shared) (H : Hp) (C : Addr) (cl : List (Str × Addr)) (fp : List Addr), PTs (X.blk s H scope (compEnvC scope cl C X.env) fp) ifs (tT X (w0 W) q1 mt))
    (he : ∀ (s : Shared) (H : Hp) (C : Addr) (cl : List (Str × Addr)) (fp : List Addr), PE (X.blk s H scope (compEnvC scope cl C X.env) fp) elt (tD X (w0 W) q2 me)) (hs : ∀ x, foldedSetIterable iter X.env x = pure x := by intro _; rfl) :
    DF X W false (.ListComp elt [⟨.Name y py, iter, ifs, 0⟩] scope pos) (mComp (own.map (·.2)) ms (put i) mt me) :=
  df_comp own hc hN hi ok hg (cg_name i) (fun j hj => by rw [List.mem_singleton.mp hj]; exact hts) ht he hs
theorem setO_imp {m : MF} {i : Nat} (Dn : Ends) (σ : SV) (H : Hp) (h : tS X W (mSetO i m) Dn σ H) : tF X W q m σ H fun v H1 => gName i v σ H1 Dn.nx := by
  obtain ⟨B, sd, r, z⟩ := h
  refine bindSF r z.parts fun p xs H1 ds sd1 e1 f1 _ => ?_
  unfold mSetO at z
  rw [mBS_ok e1] at z
  unfold mPutO at z
  cases e2 : putO i ds sd1 with
  | none => rw [e2] at z; exact z.elim
  | some sd2 =>
    rw [e2] at z
    exact z _ _ (putO_ok r f1 e2)
theorem setL_imp {m : MF} {i : Nat} (Dn : Ends) (σ : SV) (H : Hp) (h : tS X W (mSet i (mLst m)) Dn σ H) : tF X W q m σ H fun v H1 => gName i v σ H1 Dn.nx := by
  obtain ⟨B, sd, r, z⟩ := h
  unfold mSet at z
  have e : ∀ sd, mBS (mLst m) (fun d sd => mPut i d sd) sd = mBS m (fun ds sd => mPut i (.lst ds) sd) sd := fun sd => by
    unfold mBS mLst mB mR
    cases m sd <;> rfl
  rw [e sd] at z
  refine bindSF r z.parts fun p xs H1 ds sd1 e1 f1 _ => ?_
  rw [mBS_ok e1] at z
  unfold mPut at z
  cases e2 : put i (.lst ds) sd1 with
  | none => rw [e2] at z; exact z.elim
  | some sd2 =>
    rw [e2] at z
    exact z _ _ (f1.st.trans (put_ok f1.st.rel (f1.val r) e2))
theorem ds_setC1 {elt iter : Expr} {ifs : List Expr} {scope : Scope} (i : Nat) (own : List (Str × Nat)) (j : Nat) {x y : Str} {px py spos : Pos} {ms : MF} {mt : SD → R (Bool × SD)} {me : ME} (hc : X.calm = true) (hN : X.N.Nodup) (hi : DI X W q (.Name x px) iter ms) (ok : BlkOk X.N X.env.scope scope own)
    (hg : ∀ (s : Shared) (H : Hp) (C : Addr) (cl : List (Str × Addr)) (fp : List Addr), PG (X.blk s H scope (compEnvC scope cl C X.env) fp) (.Name x px) (gName j)) (hts : j ∈ own.map (·.2))
    (ht : ∀ (s : Shared) (H : Hp) (C : Addr) (cl : List (Str × Addr)) (fp : List Addr), PTs (X.blk s H scope (compEnvC scope cl C X.env) fp) ifs (tT X (w0 W) q1 mt))
    (he : ∀ (s : Shared) (H : Hp) (C : Addr) (cl : List (Str × Addr)) (fp : List Addr), PE (X.blk s H scope (compEnvC scope cl C X.env) fp) elt (tD X (w0 W) q2 me))
    (hy : X.N[i]? = some y := by rfl) (hyl : X.env.scope.names.lookup y = some .local := by rfl) (hsw : swapsWith (.ListComp elt [⟨.Name x px, iter, ifs, 0⟩] scope pos) (some (.Name y py)) spos.line X.env = pure true := by exact sw_true rfl rfl rfl rfl)
    (hs : ∀ x, foldedSetIterable iter X.env x = pure x := by intro _; rfl) : DS X W (.Assign [.Name y py] (.ListComp elt [⟨.Name x px, iter, ifs, 0⟩] scope pos) spos) (mSet i (mLst (mComp (own.map (·.2)) ms (put j) mt me))) :=
  ds_setCo own i (fun m => mSet i (mLst m)) hc hN hi ok hg (cg_name j) (fun k hk => by rw [List.mem_singleton.mp hk]; exact hts) ht he (fun Dn σ H h => setL_imp Dn σ H h) hy hyl hsw hs
theorem ds_setCO1 {elt iter : Expr} {ifs : List Expr} {scope : Scope} (i : Nat) (own : List (Str × Nat)) (j : Nat) {x y : Str} {px py spos : Pos} {ms : MF} {mt : SD → R (Bool × SD)} {me : ME} (hc : X.calm = true) (hN : X.N.Nodup) (hi : DI X W q (.Name x px) iter ms) (ok : BlkOk X.N X.env.scope scope own)
    (hg : ∀ (s : Shared) (H : Hp) (C : Addr) (cl : List (Str × Addr)) (fp : List Addr), PG (X.blk s H scope (compEnvC scope cl C X.env) fp) (.Name x px) (gName j)) (hts : j ∈ own.map (·.2))
    (ht : ∀ (s : Shared) (H : Hp) (C : Addr) (cl : List (Str × Addr)) (fp : List Addr), PTs (X.blk s H scope (compEnvC scope cl C X.env) fp) ifs (tT X (w0 W) q1 mt))
    (he : ∀ (s : Shared) (H : Hp) (C : Addr) (cl : List (Str × Addr)) (fp : List Addr), PE (X.blk s H scope (compEnvC scope cl C X.env) fp) elt (tD X (w0 W) q2 me))
    (hy : X.N[i]? = some y := by rfl) (hyl : X.env.scope.names.lookup y = some .local := by rfl) (hsw : swapsWith (.ListComp elt [⟨.Name x px, iter, ifs, 0⟩] scope pos) (some (.Name y py)) spos.line X.env = pure true := by exact sw_true rfl rfl rfl rfl)
    (hs : ∀ x, foldedSetIterable iter X.env x = pure x := by intro _; rfl) : DS X W (.Assign [.Name y py] (.ListComp elt [⟨.Name x px, iter, ifs, 0⟩] scope pos) spos) (mSetO i (mComp (own.map (·.2)) ms (put j) mt me)) :=
  ds_setCo own i (fun m => mSetO i m) hc hN hi ok hg (cg_name j) (fun k hk => by rw [List.mem_singleton.mp hk]; exact hts) ht he (fun Dn σ H h => setO_imp Dn σ H h) hy hyl hsw hs
theorem de_globE {x : Str} {i : Int} (hg : Gl X x) (hm : ∃ t, X.mg x = some (.int i t)) (hd : (x == ("__debug__" : Str)) = false := by decide) : DE X W true (.Name x pos) (mC (.int i)) := by
  obtain ⟨t, h⟩ := hm
  exact de_globI hg h hd
theorem de_globG {sp : Sp} (F : GF X.prog X.w X.K X.mg X.base k x ps sp) (hg : Gl X x := by rfl) (hd : (x == ("__debug__" : Str)) = false := by decide) : DE X W true (.Name x pos) (mC (.glo x)) := by
  obtain ⟨f, fd, _, h, _⟩ := F.ex
  exact de_globF hg h hd
end
/-- a def as it stands behind the top -/
abbrev FnX (K : PySem.W.Frag) (mg : Str → Option Value) (x : Str) (st : Stmt) : Prop := ∃ f fd, mg x = some (.ref f) ∧ FunD K x x (defArgs st) (defBody st) (defScope st) [] [] f fd
/-- an own exception class -/
structure ExcK (K : PySem.W.Frag) (mg : Str → Option Value) (x : Str) (C : Addr) : Prop where
  g : mg x = some (.ref C)
  ex : PySem.W.excIn K C [.type "ValueError", .type "Exception", .type "BaseException", .type "object"] "ValueError.__new__" = true
  kp : PySem.W.keepIn K (.ref C) = true
  sb : PySem.W.subIn K (.ref C) (.type "BaseException") = some true
  ty : PySem.W.typeIn K (.ref C) = some (.type "type")
theorem ExcK.d {X : Cx} {x : Str} {C : Addr} (h : ExcK X.K X.mg x C) : ExcD X x C := ⟨h.g, h.ex, h.kp, h.sb, h.ty⟩
end HD

set_option Elab.async false
set_option linter.all false
set_option autoImplicit false
set_option maxRecDepth 100000
set_option maxHeartbeats 4000000
namespace HD
open PySem PySem.Spec PyProof.Rows L2
/-! ### cells shown and hidden -/
section
open Classical
noncomputable def hidC (C : Addr → Prop) (H : Hp) : Hp := fun b => if C b then none else H b
noncomputable def trkC (C : Addr → Prop) (h : Heap) (H : Hp) : Hp := fun b => if C b then (h.get? b).map CelO else H b
variable {P : Program} {w : World} {C : Addr → Prop} {H H' : Hp} {h h' B : Heap} {b : Addr} {fs : List Addr}
theorem hidC_in (x : C b) : hidC C H b = none := if_pos x
theorem hidC_out (x : ¬ C b) : hidC C H b = H b := if_neg x
theorem trkC_in {o : Obj} (x : C b) (e : h.get? b = some o) : trkC C h H b = some (CelO o) := by
  unfold trkC
  rw [if_pos x, e]
  rfl
theorem trkC_out (x : ¬ C b) : trkC C h H b = H b := if_neg x
theorem ok_trk (ok : HOk P w H h') (hC : ∀ b, C b → H b = none ∧ ∃ o, h.get? b = some o ∧ h'.get? b = some o) : HOk P w (trkC C h H) h' := fun b o e => by
  have nc : ∀ c u, H c = some u → ¬ C c := fun c u z x => by rw [(hC c x).1] at z; cases z
  by_cases x : C b
  · obtain ⟨_, ob, e1, e2⟩ := hC b x
    rw [trkC_in x e1] at e
    cases e
    exact ⟨e2, trivial, ⟨ob, e2⟩, fun _ _ _ _ => trivial⟩
  · rw [trkC_out x] at e
    exact (ok b o e).stay (fun c u _ q => q) (fun c q => by rw [trkC_out (nc c _ q)]; exact q) fun c xs q => by rw [trkC_out (nc c _ q)]; exact q
theorem ok_hid (ok : HOk P w H h) (hC : ∀ b, C b → ∃ o, H b = some (CelO o)) : HOk P w (hidC C H) h := fun b o e => by
  by_cases x : C b
  · rw [hidC_in x] at e
    cases e
  · rw [hidC_out x] at e
    have nc : ∀ c u, H c = some u → (∀ o, u ≠ CelO o) → ¬ C c := fun c u z n x => by
      obtain ⟨o, q⟩ := hC c x
      rw [z] at q
      exact n o (Option.some.inj q)
    exact (ok b o e).stay (fun c u _ q => q) (fun c q => by rw [hidC_out (nc c _ q fun _ z => nomatch z)]; exact q) fun c xs q => by rw [hidC_out (nc c _ q fun _ z => nomatch z)]; exact q
theorem un_show (un : Un fs [] (trkC C h H) H' h h') (ok : HOk P w H' h') (hC : ∀ b, C b → H b = none ∧ ∃ o, h.get? b = some o) : Un fs [] H (hidC C H') h h' := by
  have nc : ∀ c u, H c = some u → ¬ C c := fun c u z x => by rw [(hC c x).1] at z; cases z
  have key : ∀ b o, C b → h.get? b = some o → h'.get? b = some o := fun b o x e => by
    have z := un.frzs b o _ (trkC_in x e)
    exact (ok b _ z).1
  refine ⟨fun b o q n hb hx => ?_, fun b o q n hb hx => ?_, fun b o q n hx => ?_, un.there, fun b xs q => ?_, fun b o u q => ?_, fun b ps q => ?_⟩
  · by_cases x : C b
    · exact key b o x q
    · exact un.keep b o q (by rw [trkC_out x]; exact n) hb hx
  · by_cases x : C b
    · exact ⟨o.slots, key b o x q⟩
    · exact un.slot b o q (by rw [trkC_out x]; exact n) hb hx
  · by_cases x : C b
    · exact hidC_in x
    · rw [hidC_out x]
      exact un.free b o q (by rw [trkC_out x]; exact n) hx
  · rw [hidC_out (nc b _ q)]
    exact un.tups b xs (by rw [trkC_out (nc b _ q)]; exact q)
  · rw [hidC_out (nc b _ q)]
    exact un.frzs b o u (by rw [trkC_out (nc b _ q)]; exact q)
  · rw [hidC_out (nc b _ q)]
    exact un.tbls b ps (by rw [trkC_out (nc b _ q)]; exact q)
theorem un_hide (un : Un fs [] (hidC C H) H' h h') (hC : ∀ b, C b → ∃ o, h.get? b = some o ∧ H b = some (CelO o)) : Un fs [] H (trkC C h H') h h' := by
  have nn : ∀ b, H b = none → ¬ C b := fun b n x => by
    obtain ⟨o, _, e⟩ := hC b x
    rw [n] at e
    cases e
  have nc : ∀ c u, H c = some u → (∀ o, u ≠ CelO o) → ¬ C c := fun c u z n x => by
    obtain ⟨o, _, q⟩ := hC c x
    rw [z] at q
    exact n o (Option.some.inj q)
  refine ⟨fun b o q n hb hx => un.keep b o q (by rw [hidC_out (nn b n)]; exact n) hb hx, fun b o q n hb hx => un.slot b o q (by rw [hidC_out (nn b n)]; exact n) hb hx, fun b o q n hx => ?_, un.there, fun b xs q => ?_, fun b o u q => ?_, fun b ps q => ?_⟩
  · rw [trkC_out (nn b n)]
    exact un.free b o q (by rw [hidC_out (nn b n)]; exact n) hx
  · have x := nc b _ q fun _ z => nomatch z
    rw [trkC_out x]
    exact un.tups b xs (by rw [hidC_out x]; exact q)
  · by_cases x : C b
    · obtain ⟨ob, e1, e2⟩ := hC b x
      rw [q] at e2
      rw [trkC_in x e1, ← e2]
    · rw [trkC_out x]
      exact un.frzs b o u (by rw [hidC_out x]; exact q)
  · have x := nc b _ q fun _ z => nomatch z
    rw [trkC_out x]
    exact un.tbls b ps (by rw [hidC_out x]; exact q)
theorem ub_hide (un : UB fs (hidC C H) H' h B h') (hC : ∀ b, C b → ∃ o, h.get? b = some o ∧ H b = some (CelO o)) : UB fs H (trkC C h H') h B h' := by
  have nn : ∀ b, H b = none → ¬ C b := fun b n x => by
    obtain ⟨o, _, e⟩ := hC b x
    rw [n] at e
    cases e
  have nc : ∀ c u, H c = some u → (∀ o, u ≠ CelO o) → ¬ C c := fun c u z n x => by
    obtain ⟨o, _, q⟩ := hC c x
    rw [z] at q
    exact n o (Option.some.inj q)
  refine ⟨fun b o q n hb => un.keep b o q (by rw [hidC_out (nn b n)]; exact n) hb, fun b o q hb => un.slot b o q hb, fun b o q n => ?_, un.there, fun b xs q => ?_, fun b o u q => ?_, fun b ps q => ?_⟩
  · rw [trkC_out (nn b n)]
    exact un.free b o q (by rw [hidC_out (nn b n)]; exact n)
  · have x := nc b _ q fun _ z => nomatch z
    rw [trkC_out x]
    exact un.tups b xs (by rw [hidC_out x]; exact q)
  · by_cases x : C b
    · obtain ⟨ob, e1, e2⟩ := hC b x
      rw [q] at e2
      rw [trkC_in x e1, ← e2]
    · rw [trkC_out x]
      exact un.frzs b o u (by rw [hidC_out x]; exact q)
  · have x := nc b _ q fun _ z => nomatch z
    rw [trkC_out x]
    exact un.tbls b ps (by rw [hidC_out x]; exact q)
end
/-! ### values without lambdas -/
mutual
def noClo : D → Bool
  | .clo _ _ => false
  | .tup ds => noClos ds
  | .lst ds => noClos ds
  | .dic _ => false
  | _ => true
def noClos : List D → Bool
  | [] => true
  | d :: ds => noClo d && noClos ds
end
section
variable {K : PySem.W.Frag} {mg : Str → Option Value} {H : Hp} {T : Addr → Prop} {C : Addr → Prop}
theorem sqT_hid (hC : ∀ b, C b → ∃ o, H b = some (CelO o)) {a : Addr} {xs : List V} (h : SqT K H a xs) : SqT K (hidC C H) a xs := by
  have nc : ∀ c u, H c = some u → (∀ o, u ≠ CelO o) → ¬ C c := fun c u z n x => by
    obtain ⟨o, q⟩ := hC c x
    rw [z] at q
    exact n o (Option.some.inj q)
  rcases h with (h | ⟨u, h⟩) | h
  · exact .inl (.inl (by rw [hidC_out (nc _ _ h fun _ z => nomatch z)]; exact h))
  · exact .inl (.inr ⟨u, by rw [hidC_out (nc _ _ h fun _ z => nomatch z)]; exact h⟩)
  · exact .inr h
theorem rdL_hid (hC : ∀ b, C b → ∃ o, H b = some (CelO o)) {a : Addr} {xs : List V} (h : Rd H a (.lst xs)) : Rd (hidC C H) a (.lst xs) := by
  have nc : ∀ c u, H c = some u → (∀ o, u ≠ CelO o) → ¬ C c := fun c u z n x => by
    obtain ⟨o, q⟩ := hC c x
    rw [z] at q
    exact n o (Option.some.inj q)
  rcases h with h | ⟨u, h⟩
  · exact .inl (by rw [hidC_out (nc _ _ h fun _ z => nomatch z)]; exact h)
  · exact .inr ⟨u, by rw [hidC_out (nc _ _ h fun _ z => nomatch z)]; exact h⟩
mutual
theorem rp_hid (hC : ∀ b, C b → ∃ o, H b = some (CelO o)) : ∀ {d : D} {v : V} {T : Addr → Prop}, Rp K mg H T v d → noClo d = true → Rp K mg (hidC C H) T v d
  | _, _, _, .non, _ => .non
  | _, _, _, .bl b, _ => .bl b
  | _, _, _, .int i, _ => .int i
  | _, _, _, .str x, _ => .str x
  | _, _, _, .tup h r, n => .tup (sqT_hid hC h) (rps_hid hC r (by unfold noClo at n; exact n))
  | _, _, _, .lst h t r, n => .lst (rdL_hid hC h) t (rps_hid hC r (by unfold noClo at n; exact n))
  | _, _, _, .lsk h r, n => .lsk h (rps_hid hC r (by unfold noClo at n; exact n))
  | _, _, _, .dic h t r, n => by unfold noClo at n; cases n
  | _, _, _, .glo h r, _ => .glo h r
  | _, _, _, .clo _ _ _ _ _, n => by unfold noClo at n; cases n
theorem rps_hid (hC : ∀ b, C b → ∃ o, H b = some (CelO o)) : ∀ {ds : List D} {vs : List V} {T : Addr → Prop}, Rps K mg H T vs ds → noClos ds = true → Rps K mg (hidC C H) T vs ds
  | _, _, _, .nil, _ => .nil
  | _, _, _, .cons h r, n => by
    unfold noClos at n
    rw [Bool.and_eq_true] at n
    exact .cons (rp_hid hC h n.1) (rps_hid hC r n.2)
end
end
end HD

set_option Elab.async false
set_option linter.all false
set_option autoImplicit false
set_option maxRecDepth 100000
set_option maxHeartbeats 4000000
namespace HD
open PySem PySem.Spec PyProof.Rows L2
/-! ### a lambda is made -/
section
variable {X : Cx} {pins : List (Addr × Obj)} {σ : SV} {H : Hp} {s : Shared}
/-- the new function object, known from now on -/
theorem lam_known {f c' : Addr} {cl : List (Str × Addr)} {l : Lam} {h1 : Heap} {t1 t2 : Nat} {pm ctv : Value} (I : Inv X pins σ H { s with heap := h1, toks := t1 }) (hf : f = h1.objs.size) :
    Inv X pins σ (upd H f (CloO f c' cl l)) { s with heap := h1.push (PySem.W.kla_obj "<lambda>" l.qual l.params l.body l.scope cl pm c' ctv), toks := t2 } := by
  have at_ : (h1.push (PySem.W.kla_obj "<lambda>" l.qual l.params l.body l.scope cl pm c' ctv)).get? f = some (PySem.W.kla_obj "<lambda>" l.qual l.params l.body l.scope cl pm c' ctv) := by
    rw [hf]
    exact Heap.get?_push_size _ rfl
  refine Inv.laid (s := { s with heap := h1, toks := t1 }) (t' := t2) I (fun b u e => Heap.get?_push_of_some _ e) (Nat.le_of_eq hf.symm) ⟨⟨pm, ctv, at_⟩, ⟨_, at_⟩, fun h2 h3 z st => ?_⟩
  obtain ⟨pm, ctv, e⟩ := z
  exact ⟨pm, ctv, st _ e⟩
theorem lam_new {T : List (Addr × Str)} {c P : Addr} {params : Arguments} {body : Expr} {scope : Scope} {pos : Pos} {l : Lam} {E Q : Value → Shared → Prop} (I : Inv X pins σ H s) (TB : LamX.TabB X.base X.mg c P) (hcode : X.env.code = .ref c)
    (l1 : l.params = params) (l2 : l.body = body) (l3 : l.scope = scope) (l4 : l.qual = X.env.qual ++ "<lambda>") (hm : (P, l.qual) ∈ T) (hu : ∀ p ∈ T, p.1 = P → p.2 = l.qual) (hT : LamX.Tabs T H) (hdef : defaultsOf params X.env = ([], []))
    (hfree : ∀ y ∈ scope.names, y.2 = .free → ∃ c, X.env.cells.lookup y.1 = some c)
    (h : ∀ (f c' : Addr) (H1 : Hp) (s' : Shared), Inv X pins σ H1 s' → Ext (fun _ => False) H H1 → LamX.Tabs T H1 → H f = none → H1 f = some (CloO f c' (cloFrom X.env.cells scope.names []) l) → H1 c' = some (LamX.CodeO c' l.qual) → Q (.ref f) s') :
    wpAny (model X.prog X.w) X.A (eval (.Lambda params body scope pos) X.env) Q E s := by
  subst l1 l2 l3
  obtain ⟨ps, hP, ht, ha⟩ := hT _ hm
  refine PySem.W.kla_eval hdef ?_
  rw [← l4]
  have bP : s.heap.BuiltinsAt X.mg P := TB.bm.keeps I.bk
  have hP' : s.heap.get? P = some { cls := .none, data := .fields ps } := I.hok P _ hP
  cases hc : codeAmong pos ps.toList with
  | some cv =>
    obtain ⟨c', e, hco⟩ := ha pos cv hc
    subst e
    refine PySem.W.kla_makeFunctionHit (mg := X.mg) (c := c) (P := P) (ps := ps) (closure_ok hfree) I.ok.glob (I.mod.glob.keeps I.bk) hcode (TB.code.keeps I.bk) hP' ht hc bP fun ctv h' tk hx hsz => ?_
    have I1 : Inv X pins σ H { s with heap := h', toks := tk } := I.kept hx
    have nf : H h'.objs.size = none := I.hok.fresh hsz
    refine h h'.objs.size c' _ _ (lam_known (t1 := tk) I1 rfl) (Ext.same (same_laid nf)) (hT.ext fun b o e => same_laid nf b o e) nf upd_same (same_laid nf _ _ hco)
  | none =>
    refine PySem.W.kla_makeFunction (mg := X.mg) (c := c) (P := P) (ps := ps) (closure_ok hfree) I.ok.glob (I.mod.glob.keeps I.bk) hcode (TB.code.keeps I.bk) hP' ht hc TB.gP bP fun c' ctv h' tk hx hge hlt hrec htb => ?_
    obtain ⟨c2, oc, vs, t, e2, hoc, hd, hv⟩ := hrec
    cases e2
    have hsz : s.heap.objs.size ≤ h'.objs.size := Nat.le_trans hge (Nat.le_of_lt hlt)
    have nC : H c' = none := I.hok.fresh hge
    have nf0 : H h'.objs.size = none := I.hok.fresh hsz
    have nPc : P ≠ c' := ne_of_none hP nC
    have nPf : P ≠ h'.objs.size := ne_of_none hP nf0
    have ncf : h'.objs.size ≠ c' := Nat.ne_of_gt hlt
    have I1 := LamX.inv_table (t' := tk) (q := l.qual) (more := #[rawInt pos.line, rawInt pos.col, .ref c']) (h' := h') I hP (fun b o hb e => hx b o hb e) htb hge ⟨oc, vs, t, hoc, hd, hv⟩
    have at_ : ∀ b, b ≠ P → b ≠ c' → b ≠ h'.objs.size → upd (upd (upd H P (.tbl (ps ++ #[rawInt pos.line, rawInt pos.col, .ref c']))) c' (LamX.CodeO c' l.qual)) h'.objs.size (CloO h'.objs.size c' (cloFrom X.env.cells l.scope.names []) l) b = H b := fun b h1 h2 h3 => by
      rw [upd_ne h3, upd_ne h2, upd_ne h1]
    have atC : upd (upd (upd H P (.tbl (ps ++ #[rawInt pos.line, rawInt pos.col, .ref c']))) c' (LamX.CodeO c' l.qual)) h'.objs.size (CloO h'.objs.size c' (cloFrom X.env.cells l.scope.names []) l) c' = some (LamX.CodeO c' l.qual) := by
      rw [upd_ne (Ne.symm ncf), upd_same]
    have atP : upd (upd (upd H P (.tbl (ps ++ #[rawInt pos.line, rawInt pos.col, .ref c']))) c' (LamX.CodeO c' l.qual)) h'.objs.size (CloO h'.objs.size c' (cloFrom X.env.cells l.scope.names []) l) P = some (.tbl (ps ++ #[rawInt pos.line, rawInt pos.col, .ref c'])) := by
      rw [upd_ne nPf, upd_ne nPc, upd_same]
    have keep : ∀ b o, H b = some o → b ≠ P → upd (upd (upd H P (.tbl (ps ++ #[rawInt pos.line, rawInt pos.col, .ref c']))) c' (LamX.CodeO c' l.qual)) h'.objs.size (CloO h'.objs.size c' (cloFrom X.env.cells l.scope.names []) l) b = some o := fun b o e n => by
      rw [at_ b n (ne_of_none e nC) (ne_of_none e nf0)]
      exact e
    have eL : (ps ++ #[rawInt pos.line, rawInt pos.col, .ref c']).toList = ps.toList ++ [rawInt pos.line, rawInt pos.col, .ref c'] := by simp
    refine h h'.objs.size c' _ _ (lam_known (t1 := tk) I1 rfl) ⟨fun b o e _ n => keep b o e fun z => ?_, fun b e => ?_⟩ (fun p hp => ?_) nf0 upd_same atC
    · rw [z, hP] at e
      cases e
      cases n
    · by_cases hb : b = P
      · rw [hb, atP]; exact fun z => nomatch z
      · cases q : H b with
        | none => exact absurd q e
        | some o => rw [keep b o q hb]; exact fun z => nomatch z
    · have codes : ∀ cv : Value, (∃ c0 : Addr, cv = .ref c0 ∧ H c0 = some (LamX.CodeO c0 p.2)) → ∃ c0, cv = .ref c0 ∧ upd (upd (upd H P (.tbl (ps ++ #[rawInt pos.line, rawInt pos.col, .ref c']))) c' (LamX.CodeO c' l.qual)) h'.objs.size (CloO h'.objs.size c' (cloFrom X.env.cells l.scope.names []) l) c0 = some (LamX.CodeO c0 p.2) := fun cv ⟨c0, e1, e2⟩ =>
        ⟨c0, e1, keep c0 _ e2 fun z => by rw [z, hP] at e2; exact LamX.codeO_ne _ (Option.some.inj e2).symm⟩
      by_cases hb : p.1 = P
      · have hq := hu p hp hb
        rw [hb]
        refine ⟨_, atP, by rw [eL]; exact PySem.TriplesOk_snoc _ _ _ _ ht, fun p' cv hcv => ?_⟩
        rw [eL] at hcv
        rcases LamX.among_app _ ht hcv with z | z
        · obtain ⟨c0, e1, e2⟩ := ha p' cv z
          exact codes cv ⟨c0, e1, by rw [hq]; exact e2⟩
        · exact ⟨c', z, by rw [hq]; exact atC⟩
      · obtain ⟨ps', a1, a2, a3⟩ := hT p hp
        refine ⟨ps', keep _ _ a1 hb, a2, fun p' cv hcv => codes cv (a3 p' cv hcv)⟩
end
end HD

set_option Elab.async false
set_option linter.all false
set_option autoImplicit false
set_option maxRecDepth 100000
set_option maxHeartbeats 4000000
namespace HD
open PySem PySem.Spec PyProof.Rows L2
/-! ### a def called with a lambda -/
/-- the context's cells lie out of the base and are no frames -/
def CellOk (X : Cx) : Prop := ∀ (pins : List (Addr × Obj)) (σ : SV) (H : Hp) (s : Shared), Inv X pins σ H s → ∀ y c, X.env.cells.lookup y = some c → X.base.get? c = none ∧ c ∉ frs X.stack
theorem cellOk_def {X : Cx} (hf : ∀ y, X.fn y = true) : CellOk X := fun pins σ H s I y c e => by
  have h1 := I.ok.cab y c (hf y) e
  refine ⟨Heap.get?_none_of_le (Nat.le_trans I.ok.bsz h1), fun hm => ?_⟩
  rcases List.mem_cons.mp (I.stkSub c hm) with z | z
  · exact I.cne y c e z
  · obtain ⟨_, o, ho, _⟩ := I.ok.funs.mem z
    exact Nat.lt_irrefl _ (Nat.lt_of_lt_of_le (Heap.lt_size ho) h1)
/-- what a lambda captures stands in cells -/
def FreeS (sc scope : Scope) : Prop := ∀ y ∈ scope.names, y.2 = .free → sc.names.lookup y.1 = some .cell ∨ sc.names.lookup y.1 = some .free
def freeSB (sc scope : Scope) : Bool := scope.names.all fun y => !decide (y.2 = .free) || decide (sc.names.lookup y.1 = some .cell) || decide (sc.names.lookup y.1 = some .free)
theorem freeS_by {sc scope : Scope} (h : freeSB sc scope = true) : FreeS sc scope := fun y hy e => by
  have z := List.all_eq_true.mp h y hy
  simp only [Bool.or_eq_true, Bool.not_eq_true', decide_eq_true_eq, decide_eq_false_iff_not] at z
  rcases z with (z | z) | z
  · exact absurd e z
  · exact .inl z
  · exact .inr z
theorem FreeS.has {X : Cx} {scope : Scope} (L : FreeS X.env.scope scope) (ok : X.Ok) : ∀ y ∈ scope.names, y.2 = .free → ∃ c, X.env.cells.lookup y.1 = some c := fun y hy e => by
  rcases L y hy e with k | k
  · exact ok.has _ (.inl k)
  · exact ok.has _ (.inr k)
/-- the captured names and their slots -/
def CapIx (X : Cx) (scope : Scope) : List Nat → List Str → Prop
  | [], [] => True
  | i :: is, y :: ys => (X.N[i]? = some y ∧ scope.names.lookup y = some .free ∧ (X.env.scope.names.lookup y = some .cell ∨ X.env.scope.names.lookup y = some .free)) ∧ CapIx X scope is ys
  | _, _ => False
def slotsD (sd : SD) : List Nat → Option (List D)
  | [] => some []
  | i :: is => match sd[i]? with
    | some (some d) => if isOwn d = true then none else (slotsD sd is).map (d :: ·)
    | _ => none
theorem clo_look {cells : List (Str × Addr)} {scope : Scope} {y : Str} {c : Addr} (hl : scope.names.lookup y = some .free) (e : cells.lookup y = some c) : (cloFrom cells scope.names []).lookup y = some c := by
  obtain ⟨c2, h2⟩ := mem_lookup (cloFrom_has (cells := cells) (acc := []) (PySem.mem_of_lookup hl))
  rcases cloFrom_mem (PySem.mem_of_lookup h2) with hm | ⟨_, h3⟩
  · cases hm
  · rw [e] at h3
    rw [h2, h3]
    rfl
theorem clo_back {cells : List (Str × Addr)} {scope : Scope} {y : Str} {c : Addr} (hf : ∀ z ∈ scope.names, z.2 = .free → ∃ c, cells.lookup z.1 = some c) (e : (cloFrom cells scope.names []).lookup y = some c) : cells.lookup y = some c ∧ (y, .free) ∈ scope.names := by
  rcases cloFrom_mem (PySem.mem_of_lookup e) with hm | ⟨h1, h2⟩
  · cases hm
  · obtain ⟨c1, h3⟩ := hf _ h1 rfl
    have h3 : cells.lookup y = some c1 := h3
    rw [h3] at h2
    exact ⟨by rw [h3, h2]; rfl, h1⟩
section
variable {X : Cx} {pins : List (Addr × Obj)} {σ : SV} {H : Hp} {s : Shared}
/-- what the slots hold, by the cells -/
theorem caps_at {W : WT} {B : Amb W.tb} {sd : SD} {scope : Scope} {C : Addr → Prop} (I : Inv X pins σ H s) (r : Rel X.K X.mg B σ H sd) (hC : ∀ b, C b ↔ InCl (cloFrom X.env.cells scope.names []) b) (hcn : ∀ b, C b → H b = none) :
    ∀ {is : List Nat} {ys : List Str} {ds : List D}, CapIx X scope is ys → slotsD sd is = some ds →
      ∃ us : List V, Rps X.K X.mg H (Tof B σ sd) us ds ∧ CapsAt (trkC C s.heap H) (Tof B σ sd) (cloFrom X.env.cells scope.names []) ys us
  | [], [], _, _, e => by cases e; exact ⟨[], .nil, trivial⟩
  | i :: is, y :: ys, ds, ⟨⟨h1, h2, h3⟩, hr⟩, e => by
    unfold slotsD at e
    cases e1 : sd[i]? with
    | none => rw [e1] at e; cases e
    | some od =>
      cases od with
      | none => rw [e1] at e; cases e
      | some d =>
        rw [e1] at e
        simp only at e
        by_cases ho : isOwn d = true
        · rw [if_pos ho] at e; cases e
        · rw [if_neg ho] at e
          cases e2 : slotsD sd is with
          | none => rw [e2] at e; cases e
          | some ds' =>
            rw [e2] at e
            cases e
            obtain ⟨us, g1, g2⟩ := caps_at I r hC hcn hr e2
            obtain ⟨v, k1, k2⟩ := r.slots i d e1
            have rp : Rp X.K X.mg H (Tof B σ sd) v d := by
              cases k2 with
              | val _ q => exact q
              | own _ _ _ _ => exact absurd rfl ho
              | owd _ _ _ _ => exact absurd rfl ho
            obtain ⟨m, hn, hl⟩ := I.loc
            have hv : Vis X.env.scope y := h3.elim (fun k => .inr (.inl k)) fun k => .inr (.inr k)
            obtain ⟨u, ru, q⟩ := hl i y v h1 k1 hv
            rcases q with ⟨k, _⟩ | ⟨_, c, ec, ⟨o, ho1, ho2⟩⟩
            · have k : X.env.scope.names.lookup y = some .local := k
              rcases h3 with z | z <;> rw [z] at k <;> cases k
            · have el := clo_look h2 ec
              have cC : C c := (hC c).mpr ⟨y, el⟩
              refine ⟨v :: us, .cons rp g1, ⟨c, o, u, el, trkC_in cC ho1, ho2, fun t => ?_, ru⟩, g2⟩
              exact r.tofThere t (hcn c cC)
  | [], _ :: _, _, h, _ => h.elim
  | _ :: _, [], _, h, _ => h.elim
end
def mCallLam (G : List D → R D) (l : Lam) (is : List Nat) (ms : MF) : ME := mB ms fun ds sd => match slotsD sd is with
  | some cs => (match G (.clo l cs :: ds) with
    | .ok d => if noClo d = true then .ok (d, sd) else .bad
    | _ => .bad)
  | none => .bad
section
variable {X : Cx} {W : WT} {q q1 q2 q3 : Bool} {e a b c : Expr} {es : List Expr} {pos p : Pos} {m ma mb mc : ME} {ms : MF} {x : Str} {k n : Nat} {ps : List Str}
theorem de_callLam {T : List (Addr × Str)} {G : List D → R D} {cc P : Addr} {params : Arguments} {body : Expr} {scope : Scope} {lpos : Pos} (l : Lam) (is : List Nat) (F : GF X.prog X.w X.K X.mg X.base k x ps (spT T X.K X.mg (n + 1) G)) (hΘ : W.tb = some T) (tk : L2N.Takes X W.w) (hr : Room k X.A)
    (TB : LamX.TabB X.base X.mg cc P) (hcode : X.env.code = .ref cc) (l1 : l.params = params) (l2 : l.body = body) (l3 : l.scope = scope) (l4 : l.qual = X.env.qual ++ "<lambda>") (hm : (P, l.qual) ∈ T) (hu : ∀ p ∈ T, p.1 = P → p.2 = l.qual)
    (cok : CellOk X) (hfr : FreeS X.env.scope scope) (hix : CapIx X scope is l.caps) (hcaps : ∀ y, scope.names.lookup y = some .free → y ∈ l.caps) (hun : ∀ y ∈ scope.names, scope.names.lookup y.1 = some y.2) (ha : DA X W q es ms) (hl : LenA ms n) (hdef : defaultsOf params X.env = ([], []) := by rfl) (hg : Gl X x := by rfl) (hdb : (x == ("__debug__" : Str)) = false := by decide)
    (he : starEach (.Lambda params body scope lpos :: es) X.env = (false, eval (.Lambda params body scope lpos) X.env) :: starEach es X.env := by rfl) (hpl : (backTo pos (starEach es X.env)).any (·.1) = false := by rfl) :
    DE X W false (.Call (.Name x p) (.Lambda params body scope lpos :: es) [] pos) (mCallLam G l is ms) := by
  obtain ⟨f, fd, F1, F2, F3, F4⟩ := F.ex
  refine ⟨fun pins s σ H Q I ⟨B, sd, r, z⟩ => ?_⟩
  have hfree := hfr.has I.ok
  refine wpAny_Call_Name_kw (ld_glob I hg F2 ?_ hdb)
  refine PySem.W.callWith_K (h₀ := X.base) I.ok.mod.kin F3 ?_ he hpl
  rw [he]
  show wpAny _ _ (spliced ((false, eval (.Lambda params body scope lpos) X.env) :: backTo pos (starEach es X.env))) _ _ s
  refine Calls.spliced_cons (lam_new I TB hcode l1 l2 l3 l4 hm hu (tinv_to hΘ r.inv) hdef hfree fun fl c' H1 s1 I1 ex1 T1 nf hf hc' => ?_)
  have st1 : Stp X.K X.mg B σ sd H σ sd H1 := Stp.grown r ex1 (tinv_of hΘ T1)
  have z1 : AftE X.K X.mg B σ sd H1 W false Q (mCallLam G l is ms sd) := by
    cases e0 : mCallLam G l is ms sd with
    | ok pr => rw [e0] at z; exact fun v H' st sm rp => z v H' (st1.trans st) (fun w => nomatch w) rp
    | exc c => rw [e0] at z; exact AftX.later st1 z
    | bad => rw [e0] at z; exact z.elim
  have hA : tA X W q ms σ H1 (fun vs H2 => ∃ sd2 ds, ms sd = .ok (ds, sd2) ∧ Stp X.K X.mg B σ sd H1 σ sd2 H2 ∧ Rps X.K X.mg H2 (Tof B σ sd2) vs ds) := by
    refine bindA st1.rel z1.parts.1 z1.parts.2 fun vs H2 ds sd2 e2 st2 sm2 rp2 => ⟨sd2, ds, e2, st2, rp2⟩
  refine thn (ha.run pos pins s1 σ H1 _ I1 hA) fun us s2 ⟨vs, H2, I2, ru, sd2, ds, e2, st2, rp2⟩ => ⟨I2.kIn, ?_⟩
  unfold mCallLam at z1
  rw [mB_ok e2] at z1
  cases e3 : slotsD sd2 is with
  | none => rw [e3] at z1; exact z1.elim
  | some cs =>
    rw [e3] at z1
    simp only at z1
    cases e4 : G (.clo l cs :: ds) with
    | bad => rw [e4] at z1; exact z1.elim
    | exc c => rw [e4] at z1; exact z1.elim
    | ok d =>
      rw [e4] at z1
      simp only at z1
      by_cases hno : noClo d = true
      · rw [if_pos hno] at z1
        -- the lambda's cells
        let C : Addr → Prop := InCl (cloFrom X.env.cells scope.names [])
        have cX : ∀ b, C b → ∃ y, X.env.cells.lookup y = some b ∧ (y, NameKind.free) ∈ scope.names := fun b ⟨y, e⟩ => ⟨y, clo_back hfree e⟩
        have cN : ∀ b, C b → H2 b = none := fun b x => by
          obtain ⟨y, e, _⟩ := cX b x
          exact I2.freeC y b e
        have cO : ∀ b, C b → ∃ o, s2.heap.get? b = some o := fun b x => by
          obtain ⟨y, e, _⟩ := cX b x
          obtain ⟨v, o, ho, _⟩ := I2.cell y b e
          exact ⟨o, ho⟩
        have cB : ∀ b, C b → X.base.get? b = none ∧ b ∉ frs X.stack := fun b x => by
          obtain ⟨y, e, _⟩ := cX b x
          exact cok pins σ H2 s2 I2 y b e
        obtain ⟨cu, g1, g2⟩ := caps_at (C := C) I2 st2.rel (fun b => Iff.rfl) cN hix e3
        let H3 : Hp := trkC C s2.heap H2
        have h32 : ∀ b o, H2 b = some o → H3 b = some o := fun b o e => by
          show trkC C s2.heap H2 b = _
          rw [trkC_out fun x => by rw [cN b x] at e; cases e]
          exact e
        have nt : ∀ b, C b → ¬ Tof B σ sd2 b := fun b x t => st2.rel.tofThere t (cN b x)
        have c3 : Carry H2 (Tof B σ sd2) H3 (fun b => Tof B σ sd2 b ∨ InCl (cloFrom X.env.cells scope.names []) b) := ⟨fun b o e _ _ => h32 b o e, fun b h n t => t.elim n fun t => h (cN b t)⟩
        have c3' : Carry H2 (Tof B σ sd2) H3 (Tof B σ sd2) := ⟨fun b o e _ _ => h32 b o e, fun b h n => n⟩
        have hf2 : H2 fl = some (CloO fl c' (cloFrom X.env.cells scope.names []) l) := st2.ext.keep _ _ hf (fun _ => rfl) rfl
        have hc2 : H2 c' = some (LamX.CodeO c' l.qual) := st2.ext.keep _ _ hc' (fun _ => rfl) rfl
        have rclo : Rp X.K X.mg H3 (Tof B σ sd2) (.ref fl) (.clo l cs) := .clo (h32 _ _ hf2) (h32 _ _ hc2) ⟨fun y c e => by
          have hm := (clo_back hfree e).2
          exact hcaps y (hun _ hm), fun x y c e1 e2 => I2.ok.inj x y c (clo_back hfree e1).1 (clo_back hfree e2).1⟩ g2 (g1.carry c3)
        have t03 : ∀ a, Tof B σ sd2 a → H3 a ≠ none := fun a t => by
          have := st2.rel.tofThere t
          cases q : H2 a with
          | none => exact absurd q this
          | some o => rw [h32 a o q]; exact fun w => (nomatch w)
        have T2 : LamX.Tabs T H2 := tinv_to hΘ st2.rel.inv
        have T3 : LamX.Tabs T H3 := T2.ext h32
        have e3 : Env0 X.prog X.w X.K X.mg X.base X.A X.stack s2 H3 := by
          have e0 := I2.env0
          refine ⟨e0.frames, e0.mod, fun b o e => ⟨(e0.bs b o e).1, ?_⟩, e0.bsz, e0.funs, fun b hb => ?_, ok_trk e0.hok fun b x => ?_, e0.bare⟩
          · show trkC C s2.heap H2 b = none
            rw [trkC_out fun x => by rw [(cB b x).1] at e; cases e]
            exact (e0.bs b o e).2
          · show trkC C s2.heap H2 b = none
            rw [trkC_out fun x => (cB b x).2 hb]
            exact e0.frf b hb
          · obtain ⟨o, ho⟩ := cO b x
            exact ⟨cN b x, o, ho, ho⟩
        have b2 := F4 s2 (.ref fl :: us) I2.kIn (by
          rw [List.append_nil, ← F1.len (.ref fl :: vs) H3 (fun _ _ => True) (fun _ _ _ => True) ⟨Tof B σ sd2, .clo l cs :: ds, by rw [List.length_cons, hl _ _ _ e2], T3, t03, .cons rclo (rp2.carry c3'), by rw [e4]; exact fun _ _ _ _ _ => trivial⟩]
          rw [List.length_cons, List.length_cons, ru.length])
        rw [List.append_nil] at b2
        have rc : codeAny (model X.prog X.w) X.A (.call (.ref f) ⟨.ref fl :: us, []⟩) (CR (L2N.CX X.prog X.w) X.stack X.prog X.w H3 s2 (fun v H' => (∀ b, C b → ∃ o, s2.heap.get? b = some o ∧ H' b = some (CelO o)) ∧ Q v (hidC C H')) (fun _ _ _ => False)) s2 := by
          refine F1.run X.A X.stack s2 H3 ⟨.ref fl :: us, []⟩ (.ref fl :: us) (.ref fl :: vs) _ _ hr e3 b2 (.cons rfl ru) ⟨Tof B σ sd2, .clo l cs :: ds, by rw [List.length_cons, hl _ _ _ e2], T3, t03, .cons rclo (rp2.carry c3'), ?_⟩
          · rw [e4]
            refine fun v H' ex Tb rv => ?_
            have cel : ∀ b, C b → ∃ o, s2.heap.get? b = some o ∧ H' b = some (CelO o) := fun b x => by
              obtain ⟨o, ho⟩ := cO b x
              exact ⟨o, ho, ex.keep b _ (trkC_in x ho) (fun w => w.elim) rfl⟩
            have hC' : ∀ b, C b → ∃ o, H' b = some (CelO o) := fun b x => let ⟨o, _, e⟩ := cel b x; ⟨o, e⟩
            have nc : ∀ c u, H' c = some u → (∀ o, u ≠ CelO o) → ¬ C c := fun c u z n x => by
              obtain ⟨o, q⟩ := hC' c x
              rw [z] at q
              exact n o (Option.some.inj q)
            refine ⟨cel, ?_⟩
            refine z1 v (hidC C H') (st2.trans (Stp.grown st2.rel ⟨fun b o e _ ht => ?_, fun b e => ?_⟩ (tinv_of hΘ fun p hp => ?_))) (fun w => nomatch w) (rp_hid hC' rv hno)
            · have x : ¬ C b := fun x => by rw [cN b x] at e; cases e
              rw [hidC_out x]
              exact ex.keep b o (h32 b o e) (fun w => w.elim) ht
            · cases q : H2 b with
              | none => exact absurd q e
              | some o =>
                have x : ¬ C b := fun x => by rw [cN b x] at q; cases q
                rw [hidC_out x]
                exact ex.there b (by rw [h32 b o q]; exact fun w => nomatch w)
            · obtain ⟨pz, a1, a2, a3⟩ := Tb p hp
              refine ⟨pz, by rw [hidC_out (nc _ _ a1 fun _ z => nomatch z)]; exact a1, a2, fun p' cv hcv => ?_⟩
              obtain ⟨c0, d1, d2⟩ := a3 p' cv hcv
              exact ⟨c0, d1, by rw [hidC_out (nc _ _ d2 fun _ z => nomatch z)]; exact d2⟩
        refine wpAny_call (codeAny_mono rc fun rr s' hq => ?_)
        cases rr with
        | error ev =>
          obtain ⟨_, _, _, _, _, _, _, _, _, _, _, _, w⟩ := (show L2N.CX X.prog X.w X.stack H3 s2 (fun _ _ _ => False) ev s' from hq)
          exact w.elim
        | ok fl2 =>
          cases fl2 with
          | ret u =>
            obtain ⟨v, H', os, bare, un, hok, rv, cel, qv⟩ := hq
            have hC' : ∀ b, C b → ∃ o, H' b = some (CelO o) := fun b x => let ⟨o, _, e⟩ := cel b x; ⟨o, e⟩
            refine I2.after (Q := Q) ⟨v, hidC C H', os, bare, un_show un hok fun b x => ⟨cN b x, cO b x⟩, ok_hid hok hC', rv, qv⟩
          | next => exact hq.elim
          | brk => exact hq.elim
          | cont => exact hq.elim
      · rw [if_neg hno] at z1
        exact z1.elim
end
end HD

set_option Elab.async false
set_option linter.all false
set_option autoImplicit false
set_option maxRecDepth 100000
set_option maxHeartbeats 4000000
namespace HD
open PySem PySem.Spec PyProof.Rows L2
/-! ### a lambda's body -/
abbrev lamE (l : Lam) (L f c' : Addr) (cl : List (Str × Addr)) : Env := PySem.W.envX l.qual l.scope L f (.ref c') cl
def lamC (P : Program) (w : World) (K : PySem.W.Frag) (mg : Str → Option Value) (base : Heap) (N : List Str) (l : Lam) (f c' : Addr) (cl : List (Str × Addr)) (A : Around) (outer : List Env) (s : Shared) (H : Hp) (E : XK) : Cx where
  prog := P
  w := w
  K := K
  mg := mg
  base := base
  A := A.deeper (lamE l s.heap.objs.size f c' cl)
  N := N
  s_0 := s
  H_0 := H
  env := lamE l s.heap.objs.size f c' cl
  outer := outer
  stack := lamE l s.heap.objs.size f c' cl :: outer
  ex := []
  calm := true
  fn := fun _ => false
  pn := []
  xe := fun e s' => wpAny (model P w) (A.deeper (lamE l s.heap.objs.size f c' cl)) (leaving (lamE l s.heap.objs.size f c' cl) e) (fun _ s'' => L2N.CX P w outer H s E e s'') (fun e' s'' => L2N.CX P w outer H s E e' s'') s'
structure LamSc (ps : List Str) (l : Lam) : Prop where
  kind : l.scope.kind = .function
  co : l.scope.isCoroutine = false
  gen : l.scope.isGenerator = false
  nocell : ∀ y ∈ l.scope.names, y.2 ≠ .cell
  par : ∀ y ∈ ps, l.scope.names.lookup y = some .local
  cap : ∀ y ∈ l.caps, l.scope.names.lookup y = some .free
  free : ∀ y ∈ l.scope.names, y.2 = .free → y.1 ∈ l.caps
  nd : (ps ++ l.caps).Nodup
theorem CapsAt.get {H : Hp} {T : Addr → Prop} {cl : List (Str × Addr)} : ∀ {ys : List Str} {vs : List V} {i : Nat} {y : Str}, CapsAt H T cl ys vs → ys[i]? = some y → ∃ v, vs[i]? = some v ∧ ∃ c o u, cl.lookup y = some c ∧ H c = some (CelO o) ∧ o.data = .cell (some u) ∧ ¬ T c ∧ RelV v u
  | [], [], i, _, _, e => by simp at e
  | y :: ys, v :: vs, 0, _, ⟨h, _⟩, e => by
    simp at e
    subst e
    exact ⟨v, rfl, h⟩
  | y :: ys, v :: vs, i + 1, _, ⟨_, h⟩, e => by
    obtain ⟨u, h1, h2⟩ := CapsAt.get (i := i) h (by simpa using e)
    exact ⟨u, by simpa using h1, h2⟩
  | [], _ :: _, _, _, h, _ => h.elim
  | _ :: _, [], _, _, h, _ => h.elim
theorem CapsAt.length {H : Hp} {T : Addr → Prop} {cl : List (Str × Addr)} : ∀ {ys : List Str} {vs : List V}, CapsAt H T cl ys vs → vs.length = ys.length
  | [], [], _ => rfl
  | _ :: _, _ :: _, ⟨_, h⟩ => by rw [List.length_cons, List.length_cons, CapsAt.length h]
  | [], _ :: _, h => h.elim
  | _ :: _, [], h => h.elim
theorem CapsAt.mem {H : Hp} {T : Addr → Prop} {cl : List (Str × Addr)} {ys : List Str} {vs : List V} {y : Str} (h : CapsAt H T cl ys vs) (m : y ∈ ys) : ∃ v c o u, cl.lookup y = some c ∧ H c = some (CelO o) ∧ o.data = .cell (some u) ∧ ¬ T c ∧ RelV v u := by
  obtain ⟨i, hi⟩ := List.mem_iff_getElem?.mp m
  obtain ⟨v, _, c, o, u, h⟩ := h.get hi
  exact ⟨v, c, o, u, h⟩
theorem look_nd {α : Type} : ∀ {l : List (Str × α)} {y : Str} {a : α}, (l.map (·.1)).Nodup → (y, a) ∈ l → l.lookup y = some a
  | (z, b) :: l, y, a, nd, m => by
    rw [List.map_cons, List.nodup_cons] at nd
    rw [List.lookup_cons]
    rcases List.mem_cons.mp m with e | m
    · cases e
      simp
    · have : y ≠ z := fun e => nd.1 (by rw [← e]; exact List.mem_map.mpr ⟨(y, a), m, rfl⟩)
      have e : (y == z) = false := by simpa using this
      rw [e]
      exact look_nd nd.2 m
theorem zip_keys {α : Type} : ∀ {ps : List Str} {us : List α}, ps.length = us.length → (ps.zip us).map (·.1) = ps
  | [], [], _ => rfl
  | p :: ps, u :: us, h => by
    rw [List.zip_cons_cons, List.map_cons, zip_keys (by simpa using h)]
theorem zip_look {ps : List Str} {us : List Value} (nd : ps.Nodup) (hl : ps.length = us.length) {i : Nat} {y : Str} {u : Value} (h1 : ps[i]? = some y) (h2 : us[i]? = some u) : (ps.zip us).reverse.lookup y = some u := by
  refine look_nd ?_ ?_
  · rw [List.map_reverse, zip_keys hl]
    exact (List.reverse_perm ps).nodup_iff.mpr nd
  · rw [List.mem_reverse]
    refine List.mem_iff_getElem?.mpr ⟨i, ?_⟩
    rw [List.getElem?_zip_eq_some]
    exact ⟨h1, h2⟩
section
variable {P : Program} {w : World} {K : PySem.W.Frag} {mg : Str → Option Value} {base : Heap} {l : Lam} {ps : List Str} {f c' : Addr} {cl : List (Str × Addr)} {A : Around} {outer : List Env} {s : Shared} {H : Hp} {E : XK} {T0 : Addr → Prop}
/-- what is known of a lambda's cells at a call -/
structure CellsAt (H : Hp) (h : Heap) (outer : List Env) (T0 : Addr → Prop) (cl : List (Str × Addr)) : Prop where
  at_ : ∀ b, InCl cl b → ∃ o u, h.get? b = some o ∧ H b = some (CelO o) ∧ o.data = .cell (some u)
  out : ∀ b, InCl cl b → b ∉ frs outer
  t0 : ∀ b, InCl cl b → ¬ T0 b
theorem cells_at {us : List V} (e0 : Env0 P w K mg base A outer s H) (ck : CloOk cl l) (ca : CapsAt H T0 cl l.caps us) : CellsAt H s.heap outer T0 cl := by
  have key : ∀ b, InCl cl b → ∃ o u, H b = some (CelO o) ∧ o.data = .cell (some u) ∧ ¬ T0 b := fun b ⟨y, e⟩ => by
    obtain ⟨v, c, o, u, e1, e2, e3, e4, _⟩ := ca.mem (ck.1 y b e)
    rw [e] at e1
    cases e1
    exact ⟨o, u, e2, e3, e4⟩
  refine ⟨fun b x => ?_, fun b x hm => ?_, fun b x => ?_⟩
  · obtain ⟨o, u, e1, e2, _⟩ := key b x
    exact ⟨o, u, (e0.hok b _ e1).1, e1, e2⟩
  · obtain ⟨o, u, e1, _⟩ := key b x
    rw [e0.frf b hm] at e1
    cases e1
  · obtain ⟨_, _, _, _, z⟩ := key b x
    exact z
theorem env0_hid (e0 : Env0 P w K mg base A outer s H) (ck : CellsAt H s.heap outer T0 cl) : Env0 P w K mg base A outer s (hidC (InCl cl) H) := by
  have hn : ∀ b, H b = none → hidC (InCl cl) H b = none := fun b e => by
    by_cases x : InCl cl b
    · exact hidC_in x
    · rw [hidC_out x]; exact e
  exact ⟨e0.frames, e0.mod, fun b o e => ⟨(e0.bs b o e).1, hn b (e0.bs b o e).2⟩, e0.bsz, e0.funs, fun b hb => hn b (e0.frf b hb), ok_hid e0.hok fun b x => let ⟨o, _, _, e, _⟩ := ck.at_ b x; ⟨o, e⟩, e0.bare⟩
theorem lam_inv {vs cs : List V} {us : List Value} {h1 : Heap} {tk : Nat} (S : LamSc ps l) (hd : A.handled = none) (e0 : Env0 P w K mg base A outer s H) (ck : CloOk cl l) (ca : CapsAt H T0 cl l.caps cs) (r : Vals vs us) (hl : vs.length = ps.length)
    (hns : h1.Ns s.heap.objs.size fun y => (ps.zip us).reverse.lookup y) (kp : ∀ b o, s.heap.get? b = some o → h1.get? b = some o) :
    Inv (lamC P w K mg base (ps ++ l.caps) l f c' cl A outer s (hidC (InCl cl) H) E) [] (L2.start (ps ++ l.caps) (vs ++ cs)) (hidC (InCl cl) H) { s with heap := h1, toks := tk } := by
  have cz := cells_at e0 ck ca
  have e1 := env0_hid e0 cz
  have lc := ca.length
  have lN : (vs ++ cs).length = (ps ++ l.caps).length := by rw [List.length_append, List.length_append, hl, lc]
  have noA : ∀ b : Addr, b ∉ (lamC P w K mg base (ps ++ l.caps) l f c' cl A outer s (hidC (InCl cl) H) E).ex := fun b z => absurd (show b ∈ ([] : List Addr) from z) (by simp)
  refine ⟨⟨e1.mod, S.kind, rfl, rfl, Nat.le_refl _, fun y z c h1 h2 => ck.2 y z c h1 h2, fun y hy => ?_, fun y c z _ => (nomatch (show false = true from z)), fun _ => hd, Around.frames_deeper e1.frames, .inr ⟨rfl, rfl⟩, fun b z => absurd z (noA b), e1.bs, e1.bsz, fun b _ _ => noA b, fun b z => absurd z (noA b), e1.funs, e1.frf⟩,
    rfl, e1.bare, Un.kept kp, ⟨_, hns, fun i y v g1 g2 g3 => ?_⟩, fun y c e => ?_, e1.hok.fresh (Nat.le_refl _), fun y c e => hidC_in ⟨y, e⟩, fun q hq => absurd (show q ∈ ([] : List (Addr × Obj)) ++ [] from hq) (by simp), e1.hok.kept kp, ?_⟩
  · have hy : l.scope.names.lookup y = some .cell ∨ l.scope.names.lookup y = some .free := hy
    rcases hy with hy | hy
    · exact absurd rfl (S.nocell _ (PySem.mem_of_lookup hy))
    · obtain ⟨v, c, o, u, e1, _⟩ := ca.mem (S.free _ (PySem.mem_of_lookup hy) rfl)
      exact ⟨c, e1⟩
  · have g1 : (ps ++ l.caps)[i]? = some y := g1
    have gv : (vs ++ cs)[i]? = some v := by
      unfold L2.start at g2
      rw [show (ps ++ l.caps).length - (vs ++ cs).length = 0 by omega, List.replicate_zero, List.append_nil, List.getElem?_map] at g2
      cases q : (vs ++ cs)[i]? with
      | none => rw [q] at g2; cases g2
      | some x => rw [q] at g2; cases g2; rfl
    by_cases hi : i < ps.length
    · rw [List.getElem?_append_left hi] at g1
      rw [List.getElem?_append_left (by rw [hl]; exact hi)] at gv
      obtain ⟨u, hu, ru⟩ := r.get gv
      have kl := S.par y (List.mem_of_getElem? g1)
      refine ⟨u, ru, .inl ⟨kl, ?_⟩⟩
      have nd : ps.Nodup := (List.nodup_append.mp S.nd).1
      exact zip_look nd (by rw [← hl]; exact r.length) g1 hu
    · rw [List.getElem?_append_right (by omega)] at g1
      rw [List.getElem?_append_right (by omega), hl] at gv
      obtain ⟨v2, h1, c, o, u, h2, h3, h4, _, h5⟩ := ca.get g1
      rw [gv] at h1
      cases h1
      have kf := S.cap y (List.mem_of_getElem? g1)
      refine ⟨u, h5, .inr ⟨.inr kf, c, h2, o, ?_, h4⟩⟩
      exact kp _ _ (e0.hok c _ h3).1
  · obtain ⟨o, u, e1, _, e3⟩ := cz.at_ c ⟨y, e⟩
    exact ⟨some u, o, kp _ _ e1, e3⟩
  · unfold L2.start
    show _ = (ps ++ l.caps).length
    rw [List.length_append, List.length_map, List.length_replicate, lN]
    omega
end
/-! ### values that are called -/
def AppS (T : List (Addr × Str)) (K : PySem.W.Frag) (mg : Str → Option Value) (T0 : Addr → Prop) (H : Hp) (Q : VK) (E : XK) : R D → Prop
  | .ok d => ∀ v H', Ext (fun _ => False) H H' → LamX.Tabs T H' → Rp K mg H' T0 v d → Q v H'
  | .exc c => ∀ H', Ext (fun _ => False) H H' → LamX.Tabs T H' → ∀ C : Addr, mg c = some (.ref C) → E (.ref C) none H'
  | .bad => False
structure App (P : Program) (w : World) (K : PySem.W.Frag) (mg : Str → Option Value) (base : Heap) (T : List (Addr × Str)) (k : Nat) (cal : D → Bool) (app : D → List D → R D) : Prop where
  run : ∀ (A : Around) (outer : List Env) (s : Shared) (H : Hp) (us : List Value) (vs : List V) (Q : VK) (E : XK) (v : V) (u : Value) (d : D) (ds : List D) (T0 : Addr → Prop), Room k A → Env0 P w K mg base A outer s H → RelV v u → Vals vs us → Rp K mg H T0 v d → Rps K mg H T0 vs ds →
    (∀ a, T0 a → H a ≠ none) → LamX.Tabs T H → AppS T K mg T0 H Q E (app d ds) → codeAny (model P w) A (.call u ⟨us, []⟩) (CR (L2N.CX P w) outer P w H s Q E) s
  at_ : ∀ d, cal d = true → (∃ x f, d = .glo x ∧ mg x = some (.ref f) ∧ PySem.W.keepIn K (.ref f) = true) ∨ ∃ l cs, d = .clo l cs
def runL (m : ME) (n : Nat) (ds : List D) : R D := match m (startD n ds) with
  | .ok (d, _) => .ok d
  | .exc c => .exc c
  | .bad => .bad
section
variable {P : Program} {w : World} {K : PySem.W.Frag} {mg : Str → Option Value} {base : Heap} {l : Lam} {ps : List Str} {T : List (Addr × Str)} {k : Nat} {q : Bool} {m : ME}
theorem cx_hide {cl : List (Str × Addr)} {outer : List Env} {s : Shared} {H : Hp} {E : XK} {T0 : Addr → Prop} {u : Value} {s' : Shared} (ck : CellsAt H s.heap outer T0 cl) (c : L2N.CX P w outer (hidC (InCl cl) H) s (fun cls d H' => (∀ b, InCl cl b → H' b = none) → E cls d (trkC (InCl cl) s.heap H')) u s') :
    L2N.CX P w outer H s E u s' := by
  obtain ⟨a, B, H', cls, d, rfl, fl, hok, ub, na, os, ag, hE⟩ := c
  have hB : ∀ b, InCl cl b → ∃ o, s.heap.get? b = some o ∧ B.get? b = some o ∧ H' b = none := fun b x => by
    obtain ⟨o, u, e1, _⟩ := ck.at_ b x
    exact ⟨o, e1, ub.keep b o e1 (hidC_in x) (ck.out b x), ub.free b o e1 (hidC_in x)⟩
  refine ⟨a, B, trkC (InCl cl) s.heap H', cls, d, rfl, fl, ok_trk hok fun b x => ?_, ub_hide ub fun b x => ?_, ?_, os, ag, hE fun b x => let ⟨_, _, _, e⟩ := hB b x; e⟩
  · obtain ⟨o, e1, e2, e3⟩ := hB b x
    exact ⟨e3, o, e1, e2⟩
  · obtain ⟨o, u, e1, e2, _⟩ := ck.at_ b x
    exact ⟨o, e1, e2⟩
  · have x : ¬ InCl cl a := fun x => by
      obtain ⟨o, _, e2, _⟩ := hB a x
      have := fl.2.1
      rw [e2] at this
      cases this
    rw [trkC_out x]
    exact na
theorem clo_run (S : LamSc ps l) (hbind : ∀ (q : Str) (cl : List (Str × Addr)) (pm cv ctv : Value) (us : List Value), us.length = ps.length → bindArgs (PySem.W.kla_fn "<lambda>" q l.params l.body l.scope cl pm cv ctv) ⟨us, []⟩ = pure (ps.zip us))
    (hbody : ∀ (f c' : Addr) (cl : List (Str × Addr)) (A : Around) (outer : List Env) (s : Shared) (H : Hp) (E : XK), Room k (A.deeper (lamE l s.heap.objs.size f c' cl)) → PE (lamC P w K mg base (ps ++ l.caps) l f c' cl A outer s H E) l.body (tD (lamC P w K mg base (ps ++ l.caps) l f c' cl A outer s H E) (wE (some T) E) q m))
    {A : Around} {outer : List Env} {s : Shared} {H : Hp} {us : List Value} {vs : List V} {Q : VK} {E : XK} {v : V} {u : Value} {cs ds : List D} {T0 : Addr → Prop} (hr : Room (k + 1) A) (e0 : Env0 P w K mg base A outer s H) (rv : RelV v u) (r : Vals vs us) (rp : Rp K mg H T0 v (.clo l cs)) (rps : Rps K mg H T0 vs ds)
    (t0 : ∀ a, T0 a → H a ≠ none) (hT : LamX.Tabs T H) (hn : noClos ds = true) (hl : ds.length = ps.length) (h : AppS T K mg T0 H Q E (runL m (ps ++ l.caps).length (ds ++ cs))) : codeAny (model P w) A (.call u ⟨us, []⟩) (CR (L2N.CX P w) outer P w H s Q E) s := by
  cases rp with
  | @clo _ f c' cl _ cu _ hf hc ck ca rc =>
    cases rv
    have lv : vs.length = ps.length := by rw [rps.length, hl]
    have cz := cells_at e0 ck ca
    obtain ⟨⟨pm, ctv, of⟩, _, _⟩ := e0.hok f _ hf
    obtain ⟨⟨oc, os, t, hoc, hdc, hvc⟩, _, _⟩ := e0.hok c' _ hc
    refine PySem.W.kla_callFunE hr.depth of rfl S.co S.gen rfl ⟨c', oc, os, t, rfl, hoc, hdc, hvc⟩ ?_
    rw [hbind _ _ _ _ _ us (by rw [← r.length, lv])]
    have lim : s.heap.NoLimit := e0.mod.nolimit.keeps fun b o e => (e0.bs b o e).1
    have bl : ∀ y ∈ ps.zip us, l.scope.names.lookup y.1 = some .local := fun ⟨n, z⟩ hy => S.par n (List.of_mem_zip hy).1
    refine wpAny_pure (wpAny_newFunctionEnv (fun y hy => S.nocell y hy) bl (fun h1 hns hsb => ⟨lim.fresh _ hsb, ?_⟩) S.kind)
    show codeAny _ _ (.expr l.body (lamE l s.heap.objs.size f c' cl)) _ _
    have kp : ∀ b o, s.heap.get? b = some o → h1.get? b = some o := fun b o e => hsb.extBut b o (Nat.ne_of_lt (Heap.lt_size e)) (Heap.get?_push_of_some _ e)
    have J := lam_inv (f := f) (c' := c') (E := fun cls d H' => (∀ b, InCl cl b → H' b = none) → E cls d (trkC (InCl cl) s.heap H')) (tk := s.toks + (ps.zip us).length) S hr.hd e0 ck ca r lv hns kp
    -- the values, where the cells are hidden
    have hC : ∀ b, InCl cl b → ∃ o, H b = some (CelO o) := fun b x => let ⟨o, _, _, e, _⟩ := cz.at_ b x; ⟨o, e⟩
    have r1 : Rps K mg (hidC (InCl cl) H) T0 vs ds := rps_hid hC rps hn
    have r2 : Rps K mg (hidC (InCl cl) H) T0 cu cs := rc.carry ⟨fun b o e mu _ => by
      by_cases x : InCl cl b
      · obtain ⟨ob, q⟩ := hC b x
        rw [e] at q
        cases q
        have := mu (.inr x)
        cases this
      · rw [hidC_out x]
        exact e, fun b _ n t => n (.inl t)⟩
    have nc : ∀ c u, H c = some u → (∀ o, u ≠ CelO o) → ¬ InCl cl c := fun c u z n x => by
      obtain ⟨o, q⟩ := hC c x
      rw [z] at q
      exact n o (Option.some.inj q)
    have T1 : LamX.Tabs T (hidC (InCl cl) H) := fun p hp => by
      obtain ⟨pz, a1, a2, a3⟩ := hT p hp
      refine ⟨pz, by rw [hidC_out (nc _ _ a1 fun _ z => nomatch z)]; exact a1, a2, fun p' cv hcv => ?_⟩
      obtain ⟨c0, d1, d2⟩ := a3 p' cv hcv
      exact ⟨c0, d1, by rw [hidC_out (nc _ _ d2 fun _ z => nomatch z)]; exact d2⟩
    have rl := rel_start (Θ := some T) (N := ps ++ l.caps) (mg := mg) T1 (by rw [List.length_append, List.length_append, lv, ca.length]; exact Nat.le_refl _) (fun a t => by
      rw [hidC_out fun x => cz.t0 a x t]
      exact t0 a t) (r1.append r2)
    have back : ∀ {H' : Hp} {s' : Shared}, Inv (lamC P w K mg base (ps ++ l.caps) l f c' cl A outer s (hidC (InCl cl) H) (fun cls d H' => (∀ b, InCl cl b → H' b = none) → E cls d (trkC (InCl cl) s.heap H'))) [] (L2.start (ps ++ l.caps) (vs ++ cu)) H' s' → ∀ b, InCl cl b → H' b = none ∧ ∃ o, s.heap.get? b = some o ∧ s'.heap.get? b = some o := fun {H' s'} J' b x => by
      obtain ⟨o, u, e1, _⟩ := cz.at_ b x
      exact ⟨J'.base.free b o e1 (hidC_in x) (by simp [lamC]), o, e1, J'.base.keep b o e1 (hidC_in x) (cz.out b x) (by simp [lamC])⟩
    refine PySem.W.kla_codeExpr (wpAny_mono ((hbody f c' cl A outer s _ _ (hr.deeper _)).run [] _ _ _ (fun v H' => (∀ b, InCl cl b → H' b = none) → Q v (trkC (InCl cl) s.heap H')) J ⟨_, _, rl, ?_⟩) (fun v s' hq => ?_) fun e s' hq => ?_)
    · -- what the mirror says
      have ext : ∀ {H' : Hp} {sd' : SD}, Stp K mg (ambD (Θ := some T) T0 (hidC (InCl cl) H)) (L2.start (ps ++ l.caps) (vs ++ cu)) (startD (ps ++ l.caps).length (ds ++ cs)) (hidC (InCl cl) H) (L2.start (ps ++ l.caps) (vs ++ cu)) sd' H' → (∀ b, InCl cl b → H' b = none) →
          Ext (fun _ => False) H (trkC (InCl cl) s.heap H') ∧ LamX.Tabs T (trkC (InCl cl) s.heap H') := fun {H' sd'} st hn' => by
        have up : ∀ b o, H' b = some o → trkC (InCl cl) s.heap H' b = some o := fun b o e => by
          rw [trkC_out fun x => by rw [hn' b x] at e; cases e]
          exact e
        refine ⟨⟨fun b o e _ ht => ?_, fun b e => ?_⟩, (show LamX.Tabs T H' from st.rel.inv).ext up⟩
        · by_cases x : InCl cl b
          · obtain ⟨ob, _, e1, e2, _⟩ := cz.at_ b x
            rw [trkC_in x e1, ← e2, e]
          · exact up b o (st.rel.ent.keep b o (by rw [show (ambD (Θ := some T) T0 (hidC (InCl cl) H)).He b = hidC (InCl cl) H b from rfl, hidC_out x]; exact e) (fun z => (nomatch z)) ht)
        · by_cases x : InCl cl b
          · obtain ⟨ob, _, e1, _⟩ := cz.at_ b x
            rw [trkC_in x e1]
            exact fun z => (nomatch z)
          · have z := st.rel.ent.there b (by rw [show (ambD (Θ := some T) T0 (hidC (InCl cl) H)).He b = hidC (InCl cl) H b from rfl, hidC_out x]; exact e)
            rw [trkC_out x]
            exact z
      show AftE K mg _ _ _ _ _ _ _ (m (startD (ps ++ l.caps).length (ds ++ cs)))
      unfold runL at h
      cases em : m (startD (ps ++ l.caps).length (ds ++ cs)) with
      | bad => rw [em] at h; exact h.elim
      | exc c =>
        rw [em] at h
        exact fun H' sd' st C hC' hn' => let ⟨x1, x2⟩ := ext st hn'; h _ x1 x2 C hC'
      | ok pr =>
        obtain ⟨d, sd'⟩ := pr
        rw [em] at h
        refine fun v H' st _ rp hn' => ?_
        obtain ⟨x1, x2⟩ := ext st hn'
        refine h v _ x1 x2 (rp.carry ⟨fun b o e _ _ => ?_, fun b _ n t => n (.inl t)⟩)
        rw [trkC_out fun x => by rw [hn' b x] at e; cases e]
        exact e
    · obtain ⟨v0, H', J', rv', qv⟩ := hq
      refine ⟨v0, trkC (InCl cl) s.heap H', J'.os, J'.bare, un_hide J'.base fun b x => ?_, ok_trk J'.hok (back J'), rv', qv fun b x => (back J' b x).1⟩
      obtain ⟨o, u, e1, e2, _⟩ := cz.at_ b x
      exact ⟨o, e1, e2⟩
    · exact wpAny_mono hq (fun _ s'' c => cx_hide cz c) fun e' s'' c => cx_hide cz c
end
end HD

set_option Elab.async false
set_option linter.all false
set_option autoImplicit false
set_option maxRecDepth 100000
set_option maxHeartbeats 4000000
namespace HD
open PySem PySem.Spec PyProof.Rows L2
/-! ### a local name is called -/
theorem relV_ref {v : V} {f : Addr} (r : RelV v (.ref f)) : v = .ref f := by
  cases v with
  | ref a => cases (show Value.ref f = Value.ref a from r); rfl
  | non => cases (show Value.ref f = Value.none from r)
  | bl b => cases (show Value.ref f = Value.bool b from r)
  | int i => obtain ⟨_, e⟩ := (show ∃ t, Value.ref f = Value.int i t from r); cases e
  | str i => obtain ⟨_, e⟩ := (show ∃ t, Value.ref f = Value.str i t from r); cases e
  | flt i => obtain ⟨_, e⟩ := (show ∃ t, Value.ref f = Value.float i t from r); cases e
  | byt i => obtain ⟨_, e⟩ := (show ∃ t, Value.ref f = Value.bytes i t from r); cases e
  | ty T => cases (show Value.ref f = Value.type T from r)
def mCallV (cal : D → Bool) (app : D → List D → R D) (i : Nat) (ms : MF) : ME := mB (mVar i) fun d => if cal d = true then mB ms (fun ds sd => match app d ds with
  | .ok r => .ok (r, sd)
  | .exc c => .exc c
  | .bad => .bad) else fun _ => .bad
section
variable {X : Cx} {W : WT} {q q1 q2 q3 : Bool} {e a b c : Expr} {es : List Expr} {pos p : Pos} {m ma mb mc : ME} {ms : MF} {x : Str} {k n : Nat} {T : List (Addr × Str)} {cal : D → Bool} {app : D → List D → R D}
/-- the call itself -/
theorem callV_core (AP : App X.prog X.w X.K X.mg X.base T k cal app) (hΘ : W.tb = some T) (tk : L2N.Takes X W.w) (hr : Room k X.A) {pins : List (Addr × Obj)} {s : Shared} {σ : SV} {H : Hp} {Q : VK} {B : Amb W.tb} {sd : SD} {v : V} {u : Value} {us : List Value} {vs : List V} {d : D} {ds : List D}
    (I : Inv X pins σ H s) (r : Rel X.K X.mg B σ H sd) (rv : RelV v u) (ru : Vals vs us) (rp : Rp X.K X.mg H (Tof B σ sd) v d) (rps : Rps X.K X.mg H (Tof B σ sd) vs ds)
    (z : AftE X.K X.mg B σ sd H W false Q (match app d ds with
      | .ok r => .ok (r, sd)
      | .exc c => .exc c
      | .bad => .bad)) : wpAny (model X.prog X.w) X.A (call u us) (EP X pins σ Q) X.xe s := by
  have rc := AP.run X.A X.stack s H us vs Q (fun cls d H' => W.w cls d σ H') v u d ds (Tof B σ sd) hr I.env0 rv ru rp rps (fun a t => r.tofThere t) (tinv_to hΘ r.inv) (by
    cases e : app d ds with
    | ok r0 => rw [e] at z; exact fun v' H' ex Tb rv' => z v' H' (Stp.grown r ex (tinv_of hΘ Tb)) (fun w => nomatch w) rv'
    | exc c => rw [e] at z; exact fun H' ex Tb C hC => z H' sd (Stp.grown r ex (tinv_of hΘ Tb)) C hC
    | bad => rw [e] at z; exact z.elim)
  refine wpAny_call (codeAny_mono rc fun rr s' hq => ?_)
  cases rr with
  | error ev => exact L2N.passAt tk σ pins H s ev s' I hq
  | ok fl =>
    cases fl with
    | ret u' => exact I.after hq
    | next => exact hq.elim
    | brk => exact hq.elim
    | cont => exact hq.elim
theorem mVar_ok {i : Nat} {sd sd' : SD} {d : D} (e : mVar i sd = .ok (d, sd')) : sd' = sd ∧ sd[i]? = some (some d) ∧ isOwn d = false := by
  unfold mVar at e
  split at e
  · split at e
    · cases e
    · rename_i h1 h2
      cases e
      exact ⟨rfl, h1, by simpa using h2⟩
  · cases e
/-- what stands behind a name that is called -/
theorem callV_name (i : Nat) {y : Str} {py : Pos} {B : Amb W.tb} {sd : SD} {pins : List (Addr × Obj)} {s : Shared} {σ : SV} {H : Hp} {Q : VK} (AP : App X.prog X.w X.K X.mg X.base T k cal app) (hN : X.N[i]? = some y) (hv : Vis X.env.scope y) (hd : (y == ("__debug__" : Str)) = false) (hcd : (y == ("__classdict__" : Str)) = false)
    (I : Inv X pins σ H s) (r : Rel X.K X.mg B σ H sd) (z : AftE X.K X.mg B σ sd H W false Q (mCallV cal app i ms sd)) {Qf : Value → Shared → Prop}
    (k1 : ∀ u s1 v d, Inv X pins σ H s1 → RelV v u → Rp X.K X.mg H (Tof B σ sd) v d → ((PySem.W.keepIn X.K u = true) ∨ ∃ f, u = .ref f ∧ PySem.W.FnAt f s1.heap ∧ ∃ c' cl l, H f = some (CloO f c' cl l)) →
      AftE X.K X.mg B σ sd H W false Q (mB ms (fun ds sd => match app d ds with
        | .ok r => .ok (r, sd)
        | .exc c => .exc c
        | .bad => .bad) sd) → Qf u s1) : wpAny (model X.prog X.w) X.A (eval (.Name y py) X.env) Qf X.xe s := by
  cases e0 : mVar i sd with
  | exc c => exact absurd e0 (by unfold mVar; split <;> (try split) <;> exact fun w => nomatch w)
  | bad => exact absurd (show mCallV cal app i ms sd = .bad by unfold mCallV mB; rw [e0]) z.parts.2
  | ok pr =>
    obtain ⟨d, sd0⟩ := pr
    obtain ⟨rfl, hs, ho⟩ := mVar_ok e0
    unfold mCallV at z
    rw [mB_ok e0] at z
    by_cases hc : cal d = true
    · rw [if_pos hc] at z
      obtain ⟨v, h1, h2⟩ := r.slots i d hs
      have rp : Rp X.K X.mg H (Tof B σ sd0) v d := by
        cases h2 with
        | val _ g => exact g
        | own _ _ _ _ => cases ho
        | owd _ _ _ _ => cases ho
      refine thn ((pe_var (pos := py) (i := i) hN hv hd hcd).run pins s σ H (fun v' H1 => v' = v ∧ H1 = H) I ⟨v, h1, rfl, rfl⟩) fun u s1 ⟨v', H1, I1, r1, q1, q2⟩ => ?_
      subst q1 q2
      refine k1 u s1 v' d I1 r1 rp ?_ z
      rcases AP.at_ d hc with ⟨x, f, rfl, hm, hk⟩ | ⟨l, cs, rfl⟩
      · cases rp with
        | glo hm2 rv2 =>
          rw [hm] at hm2
          cases hm2
          cases relV_ref rv2
          cases r1
          exact .inl hk
      · cases rp with
        | @clo _ f c' cl _ _ _ hf hc2 _ _ _ =>
          cases r1
          obtain ⟨⟨pm, ctv, of⟩, _, _⟩ := I1.hok f _ hf
          exact .inr ⟨f, rfl, ⟨_, _, _, _, of⟩, c', cl, l, hf⟩
    · rw [if_neg hc] at z
      exact z.elim
theorem de_callV1 (i : Nat) {y : Str} {py : Pos} (AP : App X.prog X.w X.K X.mg X.base T k cal app) (hΘ : W.tb = some T) (tk : L2N.Takes X W.w) (hr : Room k X.A) (ha : DA X W q (e :: es) ms) (hN : X.N[i]? = some y := by rfl) (hv : Vis X.env.scope y := by first | exact Or.inl rfl | exact Or.inr (Or.inl rfl) | exact Or.inr (Or.inr rfl))
    (hd : (y == ("__debug__" : Str)) = false := by decide) (hcd : (y == ("__classdict__" : Str)) = false := by decide) (he : starEach (e :: es) X.env = (false, eval e X.env) :: starEach es X.env := by rfl) (hpl : (backTo pos (starEach es X.env)).any (·.1) = false := by rfl) :
    DE X W false (.Call (.Name y py) (e :: es) [] pos) (mCallV cal app i ms) := by
  refine ⟨fun pins s σ H Q I ⟨B, sd, r, z⟩ => ?_⟩
  refine wpAny_Call_Name_kw (callV_name i AP hN hv hd hcd I r z fun u s1 v d I1 r1 rp hu z1 => ?_)
  have key : tA X W q ms σ H (fun vs H2 => ∃ ds sd2, ms sd = .ok (ds, sd2) ∧ Stp X.K X.mg B σ sd H σ sd2 H2 ∧ Rps X.K X.mg H2 (Tof B σ sd2) vs ds) :=
    bindA r z1.parts.1 z1.parts.2 fun vs H2 ds sd2 e2 st2 sm2 rp2 => ⟨ds, sd2, e2, st2, rp2⟩
  have core : ∀ us s2 vs H2, Inv X pins σ H2 s2 → Vals vs us → (∃ ds sd2, ms sd = .ok (ds, sd2) ∧ Stp X.K X.mg B σ sd H σ sd2 H2 ∧ Rps X.K X.mg H2 (Tof B σ sd2) vs ds) → wpAny (model X.prog X.w) X.A (call u us) (EP X pins σ Q) X.xe s2 := fun us s2 vs H2 I2 ru ⟨ds, sd2, e2, st2, rp2⟩ => by
    rw [mB_ok e2] at z1
    exact callV_core AP hΘ tk hr I2 st2.rel r1 ru (rp.carry st2.carry) rp2 (AftE.after (q1 := false) (q2 := false) st2 (fun w => nomatch w) z1)
  rcases hu with hk | ⟨f, rfl, hf, c', cl, l, hH⟩
  · exact PySem.W.callWith_K (h₀ := X.base) I1.ok.mod.kin hk (thn (ha.run pos pins s1 σ H _ I1 key) fun us s2 ⟨vs, H2, I2, ru, kk⟩ => ⟨I2.kIn, core us s2 vs H2 I2 ru kk⟩) he hpl
  · refine PySem.W.callWith_F hf (thn (ha.run pos pins s1 σ H _ I1 key) fun us s2 ⟨vs, H2, I2, ru, kk⟩ => ⟨?_, core us s2 vs H2 I2 ru kk⟩) he hpl
    obtain ⟨ds, sd2, e2, st2, rp2⟩ := kk
    obtain ⟨⟨pm, ctv, of⟩, _, _⟩ := I2.hok f _ (st2.ext.keep f _ hH (fun _ => rfl) rfl)
    exact ⟨_, _, _, _, of⟩
theorem de_callV0 (i : Nat) {y : Str} {py : Pos} (AP : App X.prog X.w X.K X.mg X.base T k cal app) (hΘ : W.tb = some T) (tk : L2N.Takes X W.w) (hr : Room k X.A) (hN : X.N[i]? = some y := by rfl) (hv : Vis X.env.scope y := by first | exact Or.inl rfl | exact Or.inr (Or.inl rfl) | exact Or.inr (Or.inr rfl))
    (hd : (y == ("__debug__" : Str)) = false := by decide) (hcd : (y == ("__classdict__" : Str)) = false := by decide) :
    DE X W false (.Call (.Name y py) [] [] pos) (mCallV cal app i (mR [])) := by
  refine ⟨fun pins s σ H Q I ⟨B, sd, r, z⟩ => ?_⟩
  refine wpAny_Call_Name_kw (callV_name i AP hN hv hd hcd I r z fun u s1 v d I1 r1 rp hu z1 => ?_)
  have core : wpAny (model X.prog X.w) X.A (call u []) (EP X pins σ Q) X.xe s1 := callV_core AP hΘ tk hr I1 r r1 .nil rp .nil z1
  rcases hu with hk | ⟨f, rfl, hf, _⟩
  · exact PySem.W.callWith_K0 I1.kIn hk core
  · exact PySem.W.callWith_F0 hf core
end
end HD

set_option Elab.async false
set_option linter.all false
set_option autoImplicit false
set_option maxRecDepth 100000
set_option maxHeartbeats 4000000
namespace HD
open PySem PySem.Spec PyProof.Rows L2
/-! ### comprehensions once more: any end of an iterator, and what is known of a block's cells -/
structure TurnG (GY : Cx → Prop) (GH : Hp → Prop) (P : Program) (w : World) (K : PySem.W.Frag) (tg : Expr) (J : It) (fp : List Addr) (it : Addr) (tn : Nat → Heap → Prop) : Prop where
  mem : it ∈ fp
  obj : ∀ i h, tn i h → ∀ b ∈ fp, ∃ o, h.get? b = some o ∧ ∀ v, o.data ≠ .cell v
  keep : ∀ i h h', tn i h → (∀ b ∈ fp, ∀ o, h.get? b = some o → h'.get? b = some o) → tn i h'
  item : ∀ (Y : Cx), Y.prog = P → Y.w = w → Y.K = K → GY Y → ∀ (i : Nat) (pins : List (Addr × Obj)) (s : Shared) (σ : SV) (H : Hp) (E : Value → Shared → Prop), Inv Y pins σ H s → (∀ b ∈ fp, FpOk Y pins H b) → tn i s.heap → J.go i H →
    wpAny (model P w) Y.A (pyNext (.ref it)) (fun r s1 => ∃ u, r = some u ∧ wpAny (model P w) Y.A (letOwnedTupleGo tg (.ref it) u) (fun _ s2 => ∃ x H', Inv Y pins σ H' s2 ∧ RelV x u ∧ J.yld i H x H' ∧ tn (i + 1) s2.heap ∧ ∀ b ∈ fp, H' b = none) E s1) E s
  done : ∀ (Y : Cx), Y.prog = P → Y.w = w → Y.K = K → GY Y → ∀ (i : Nat) (pins : List (Addr × Obj)) (s : Shared) (σ : SV) (H : Hp) (E : Value → Shared → Prop), Inv Y pins σ H s → GH H → (∀ b ∈ fp, FpOk Y pins H b) → tn i s.heap → J.stop i H →
    wpAny (model P w) Y.A (pyNext (.ref it)) (fun r s1 => r = none ∧ Inv Y pins σ H s1) E s
  self : ∀ (A : Around) (i : Nat) (s : Shared) (Q : Value → Shared → Prop) (E : Value → Shared → Prop), tn i s.heap → Q (.ref it) s → wpAny (model P w) A (pyIter (.ref it)) Q E s
def PIEG (GY : Cx → Prop) (GH : Hp → Prop) (X : Cx) (pins : List (Addr × Obj)) (σ : SV) (tg : Expr) (R : It → Hp → Prop) (itv : Value) (s2 : Shared) : Prop :=
  ∃ (it : Addr) (fp : List Addr) (tn : Nat → Heap → Prop) (J : It) (H' : Hp), itv = .ref it ∧ Inv X pins σ H' s2 ∧ TurnG GY GH X.prog X.w X.K tg J fp it tn ∧ tn 0 s2.heap ∧ (∀ b ∈ fp, FpOk X pins H' b) ∧ R J H'
structure PIG (GY : Cx → Prop) (GH : Hp → Prop) (X : Cx) (tg iter : Expr) (wi : TI) : Prop where
  run : ∀ (pins : List (Addr × Obj)) (s : Shared) (σ : SV) (H : Hp) (R : It → Hp → Prop), Inv X pins σ H s → wi σ H R →
    wpAny (model X.prog X.w) X.A (eval iter X.env) (fun v s1 => wpAny (model X.prog X.w) X.A (pyIter v) (PIEG GY GH X pins σ tg R) X.xe s1) X.xe s
abbrev calmY : Cx → Prop := fun Y => Y.calm = true
theorem pig_of {X : Cx} {tg iter : Expr} {wi : TI} (h : PI X tg iter wi) : PIG calmY (fun _ => True) X tg iter wi := ⟨fun pins s σ H R I z => thn (h.run pins s σ H R I z) fun v s1 q => thn q fun itv s2 ⟨it, fp, tn, J, H', e, I2, T, st, f, r⟩ =>
  ⟨it, fp, tn, J, H', e, I2, ⟨T.mem, T.obj, T.keep, fun Y a b c d i pins s σ H E I5 => T.item Y a b c d i pins s σ H E I5, fun Y a b c d i pins s σ H E I5 _ => T.done Y a b c d i pins s σ H E I5, T.self⟩, st, f, r⟩⟩
/-- what is told of a block's cells -/
def BlkCells (X : Cx) (cl : List (Str × Addr)) : Prop := ∀ y c, cl.lookup y = some c → X.base.get? c = none ∧ c ∉ frs X.stack
def tLcG (GH : Hp → Prop) (wi : TI) (g : TG) (tt : TT) (te : TE) (vs : List Nat) : TE := fun σ H Q => wi σ H fun J H1 => ∀ D, H1 D = none → ∃ W : Nat → Nat → Hp → Prop, (∃ m, W 0 m (upd H1 D (.lst []))) ∧ ∀ i m H, W i m H →
  (J.stop i H ∧ GH H ∧ Q (.ref D) H) ∨ (J.go i H ∧ ∃ Nx : Hp → Prop, (∀ H', Nx H' → ∃ m', m' < m ∧ W (i + 1) m' H') ∧ ∀ x H', J.yld i H x H' → g x (wipe σ vs) H' fun σ2 H2 => wipe σ2 vs = wipe σ vs ∧ tt σ2 H2 fun b H3 =>
    if b = true then te σ2 H3 fun y H4 => ∃ acc, H4 D = some (.lst acc) ∧ acc.length < sizeLine ∧ Nx (upd H4 D (.lst (acc ++ [y]))) else Nx H3)
section
variable {X : Cx} {GY : Cx → Prop} {GH : Hp → Prop}
theorem blk_cells {pins : List (Addr × Obj)} {σ : SV} {H : Hp} {s : Shared} {scope : Scope} (I : Inv X pins σ H s) (cok : CellOk X) (hf : ∀ y ∈ scope.names, y.2 = .free → ∃ c, X.env.cells.lookup y.1 = some c) :
    BlkCells X (cellsFrom (s.heap.objs.size + 1) scope.names (cloFrom X.env.cells scope.names [])) := fun y c e => by
  rw [← Heap.size_push s.heap { cls := .type "dict", data := .dict #[] }] at e
  rcases cells_mem (PySem.mem_of_lookup e) with hm | ⟨_, h2, _⟩
  · rcases cloFrom_mem hm with hm | ⟨h1, h2⟩
    · cases hm
    · obtain ⟨c1, h3⟩ := hf _ h1 rfl
      have h3 : X.env.cells.lookup y = some c1 := h3
      rw [h3] at h2
      have h2 : c = c1 := h2
      rw [h2]
      exact cok pins σ H s I y c1 h3
  · rw [Heap.size_push] at h2
    have h3 : s.heap.objs.size ≤ c := Nat.le_of_succ_le h2
    refine ⟨Heap.get?_none_of_le (Nat.le_trans (Nat.le_trans I.ok.bsz I.sz) h3), fun hm => ?_⟩
    rcases List.mem_cons.mp (I.stkSub c hm) with z | z
    · have lt := I.lt
      rw [← z] at lt
      exact absurd (Nat.lt_of_lt_of_le lt h3) (Nat.lt_irrefl _)
    · exact I.nofs h3 z
theorem cellOk_blk {s : Shared} {H : Hp} {scope : Scope} {C : Addr} {cl : List (Str × Addr)} {fp : List Addr} (h : BlkCells X cl) : CellOk (X.blk s H scope (compEnvC scope cl C X.env) fp) := fun _ _ _ _ _ y c e => h y c e
/-- the block's context, some pins kept -/
abbrev blkQ (X : Cx) (pq : List (Addr × Obj)) (s : Shared) (H : Hp) (scope : Scope) (cenv : Env) (fp : List Addr) : Cx := { X.blk s H scope cenv fp with pn := pq }
theorem blockQ_start {pins : List (Addr × Obj)} {σ : SV} {H : Hp} {s : Shared} {scope : Scope} {own : List (Str × Nat)} {fp : List Addr} {pq : List (Addr × Obj)} (I : Inv X pins σ H s) (ok : BlkOk X.N X.env.scope scope own) (hN : X.N.Nodup) (hfp : ∀ b ∈ fp, FpOk X pins H b ∧ b < s.heap.objs.size) (hpq : ∀ p ∈ pq, p ∈ X.pn) :
    Inv (blkQ X pq s H scope (compEnvC scope (cellsFrom (s.heap.objs.size + 1) scope.names (cloFrom X.env.cells scope.names [])) s.heap.objs.size X.env) fp) [] (wipe σ (own.map (·.2))) H { s with heap := pushCells (s.heap.push { cls := .type "dict", data := .dict #[] }) scope.names } := by
  have J := block_start I ok hN hfp
  have k := J.ok
  refine ⟨⟨k.mod, k.kind, k.glob, k.blt, k.above, k.inj, k.has, k.cab, k.hd, k.frames, k.stk, k.exf, k.bs, k.bsz, k.noex, k.exfs, k.funs, k.frf⟩, J.os, J.bare, J.base, J.loc, J.cell, J.free, J.freeC, fun p hp => ?_, J.hok, J.len⟩
  have hp : p ∈ pq := by simpa using (show p ∈ pq ++ ([] : List (Addr × Obj)) from hp)
  obtain ⟨e1, e2, e3, e4, e5⟩ := I.pin p (List.mem_append_left _ (hpq p hp))
  refine ⟨pushCells_keeps _ _ _ _ (Heap.get?_push_of_some _ e1), e2, Nat.ne_of_lt (Heap.lt_size e1), fun hm => ?_, e5⟩
  exact (List.mem_cons.mp (I.stkSub p.1 hm)).elim e3 e4
theorem lc_coreG {pq : List (Addr × Obj)} {pins : List (Addr × Obj)} {s : Shared} {σ : SV} {H : Hp} {Q : VK} {elt tg iter : Expr} {ifs : List Expr} {scope : Scope} {own : List (Str × Nat)} {pos pos' : Pos} {wi : TI} {g : TG} {tt : TT} {te : TE} {use : Option (Value → Sem Unit)} {Qf : Value → Shared → Prop}
    (hpq : ∀ p ∈ pq, p ∈ X.pn) (hGY : ∀ s H cenv fp, GY (blkQ X pq s H scope cenv fp)) (hN : X.N.Nodup) (I : Inv X pins σ H s) (cok : CellOk X) (hi : PIG GY GH X tg iter wi) (ok : BlkOk X.N X.env.scope scope own)
    (hg : ∀ (s : Shared) (H : Hp) (C : Addr) (cl : List (Str × Addr)) (fp : List Addr), BlkCells X cl → PG (blkQ X pq s H scope (compEnvC scope cl C X.env) fp) tg g)
    (ht : ∀ (s : Shared) (H : Hp) (C : Addr) (cl : List (Str × Addr)) (fp : List Addr), BlkCells X cl → PTs (blkQ X pq s H scope (compEnvC scope cl C X.env) fp) ifs tt)
    (he : ∀ (s : Shared) (H : Hp) (C : Addr) (cl : List (Str × Addr)) (fp : List Addr), BlkCells X cl → PE (blkQ X pq s H scope (compEnvC scope cl C X.env) fp) elt te) (hs : ∀ x, foldedSetIterable iter X.env x = pure x)
    (h : tLcG GH wi g tt te (own.map (·.2)) σ H Q)
    (fin0 : ∀ D C s' m H', Inv X pins σ H' s' → Q (.ref D) H' → s'.heap.Ns C m → FpOk X pins H' C → compPost (model X.prog X.w) X.A X.xe use Qf (.ref D) C (.ok .next) s') :
    wpAny (model X.prog X.w) X.A (comprehension (.ListComp elt [⟨tg, iter, ifs, 0⟩] scope pos) scope X.env pos' (newList []) false (eval iter X.env) use) Qf X.xe s := by
  have hfree : ∀ y ∈ scope.names, y.2 = .free → ∃ c, X.env.cells.lookup y.1 = some c := fun y hy e => (ok.free y hy e).elim (fun k => I.ok.has _ (.inl k)) fun k => I.ok.has _ (.inr k)
  refine wpAny_comprehension_free (use := use) rfl hs (closure_ok hfree) ok.kind (fun y hy e => by rw [ok.uniq y hy, e]) (thn (hi.run pins s σ H _ I h) fun xv s1 hx => thn hx fun itv s2 ⟨it, fp, tn, J, H2, e, I2, T, st2, f2, q⟩ => ?_)
  subst e
  refine wpAny_newObj_type (newEnv_comp ?_) (by show 0 ≤ sizeLine; decide)
  obtain ⟨D, hD⟩ : ∃ D, D = s2.heap.objs.size := ⟨_, rfl⟩
  rw [← hD]
  have nD : H2 D = none := I2.hok.fresh (Nat.le_of_eq hD.symm)
  obtain ⟨W, ⟨m0, w0⟩, turn⟩ := q D nD
  have atD : (s2.heap.push { cls := .type "list", data := .seq ([] : List Value).toArray }).get? D = some { cls := .type "list", data := .seq ([] : List Value).toArray } := by
    rw [hD]
    exact Heap.get?_push_size _ rfl
  obtain ⟨s3, hs3⟩ : ∃ s3 : Shared, s3 = { s2 with heap := s2.heap.push { cls := .type "list", data := .seq ([] : List Value).toArray } } := ⟨_, rfl⟩
  rw [← hs3]
  have h3 : s3.heap = s2.heap.push { cls := .type "list", data := .seq ([] : List Value).toArray } := by rw [hs3]
  have I3 : Inv X pins σ (upd H2 D (.lst [])) s3 := by
    rw [hs3]
    exact I2.laid (t' := s2.toks) (fun b o e => Heap.get?_push_of_some _ e) (Nat.le_of_eq hD.symm) ⟨Nat.zero_le _, [], 0, .nil, atD⟩
  have f3 : ∀ b ∈ fp, FpOk X pins (upd H2 D (.lst [])) b ∧ b < s3.heap.objs.size := fun b hb => by
    obtain ⟨o, e, _⟩ := T.obj _ _ st2 b hb
    have lt := Heap.lt_size e
    refine ⟨⟨?_, (f2 b hb).2⟩, by rw [h3, Heap.size_push]; exact Nat.lt_succ_of_lt lt⟩
    rw [upd_ne (by rw [hD]; exact Nat.ne_of_lt lt)]
    exact (f2 b hb).1
  have st3 : tn 0 s3.heap := T.keep _ _ _ st2 fun b _ o e => by rw [h3]; exact Heap.get?_push_of_some _ e
  have I4 := blockQ_start I3 ok hN f3 hpq
  have bc := blk_cells I3 cok hfree
  have pg := hg s3 (upd H2 D (.lst [])) s3.heap.objs.size _ fp bc
  have pt := ht s3 (upd H2 D (.lst [])) s3.heap.objs.size _ fp bc
  have pe := he s3 (upd H2 D (.lst [])) s3.heap.objs.size _ fp bc
  show codeAny _ _ (.compStart (.ListComp elt [⟨tg, iter, ifs, 0⟩] scope pos) 0 (.ref it) (.ref D) (compEnvC scope (cellsFrom (s3.heap.objs.size + 1) scope.names (cloFrom X.env.cells scope.names [])) s3.heap.objs.size X.env)) (compPost (model X.prog X.w) X.A X.xe use Qf (.ref D) s3.heap.objs.size)
    { s3 with heap := pushCells (s3.heap.push { cls := .type "dict", data := .dict #[] }) scope.names }
  generalize hce : compEnvC scope (cellsFrom (s3.heap.objs.size + 1) scope.names (cloFrom X.env.cells scope.names [])) s3.heap.objs.size X.env = ce at I4 pg pt pe ⊢
  have cL : ce.locals = s3.heap.objs.size := by rw [← hce]; rfl
  have nfp : ∀ b ∈ fp, upd H2 D (.lst []) b = none := fun b hb => (f3 b hb).1.1
  generalize hH3 : upd H2 D (.lst []) = H3 at I3 I4 pg pt pe w0 nfp f3
  generalize hs4 : ({ s3 with heap := pushCells (s3.heap.push { cls := .type "dict", data := .dict #[] }) scope.names } : Shared) = s4 at I4 ⊢
  have st4 : tn 0 s4.heap := T.keep _ _ _ st3 fun b _ o e => by rw [← hs4]; exact pushCells_keeps _ _ _ _ (Heap.get?_push_of_some _ e)
  have stat : ∀ {σ' : SV} {H' : Hp} {s' : Shared}, Inv (blkQ X pq s3 H3 scope ce fp) [] σ' H' s' → (∀ b ∈ fp, H' b = none) → ∀ b ∈ fp, FpOk (blkQ X pq s3 H3 scope ce fp) [] H' b := fun {σ' H' s'} I' hn b hb =>
    ⟨hn b hb, (I'.ok.exf b hb).1, I'.ok.exfs b hb, .inl hb, fun x c e => (I'.ok.exf b hb).2 x c e, fun p hp => (f3 b hb).1.2.2.2.2.2 p (List.mem_append_left _ (hpq p (by simpa using (show p ∈ pq ++ ([] : List (Addr × Obj)) from hp))))⟩
  refine codeAny_compStart_list ?_ (T.self X.A 0 _ _ _ st4 ?_)
  all_goals
    refine compLoop_any (fun n s' => ∃ i H', Inv (blkQ X pq s3 H3 scope ce fp) [] (wipe σ (own.map (·.2))) H' s' ∧ tn i s'.heap ∧ (∀ b ∈ fp, H' b = none) ∧ W i n H') ?_ m0 ⟨0, H3, I4, st4, nfp, w0⟩
    rintro n s5 ⟨i, H5, I5, st5, n5, w5⟩
    rcases turn i n H5 w5 with ⟨stop, gh, qq⟩ | ⟨go, Nx, hNx, step⟩
    · refine thnF (T.done (blkQ X pq s3 H3 scope ce fp) rfl rfl rfl (hGY _ _ _ _) i [] s5 _ H5 (fun _ _ => False) I5 gh (stat I5 n5) st5 stop) fun r s6 ⟨hr, I6⟩ => ?_
      subst hr
      have I7 : Inv X pins σ H5 s6 := I3.call' (ch := fp) I6.os I6.base I6.hok I6.bare fun b hb => ⟨(f3 b hb).1.2.2.2.1, (f3 b hb).1.2.1, (f3 b hb).1.2.2.2.2.1, (f3 b hb).1.2.2.2.2.2⟩
      have nC : H5 s3.heap.objs.size = none := by
        have z : H5 ce.locals = none := I6.free
        rw [cL] at z
        exact z
      obtain ⟨m, hn, _⟩ := I6.loc
      have hn : s6.heap.Ns ce.locals m := hn
      rw [cL] at hn
      exact fin0 D s3.heap.objs.size s6 m H5 I7 qq hn (I3.fpOk (Nat.le_refl _) nC)
    · refine thnF (T.item (blkQ X pq s3 H3 scope ce fp) rfl rfl rfl (hGY _ _ _ _) i [] s5 _ H5 (fun _ _ => False) I5 (stat I5 n5) st5 go) fun r s6 ⟨u, hr, h6⟩ => ?_
      subst hr
      refine thnF h6 fun _ s7 ⟨x, H7, I7, r7, y7, st7, n7⟩ => ?_
      refine thnF (pg.run _ s7 _ H7 x u _ (I7.pinned (stat I7 n7) (T.obj _ _ st7)) r7 (step x H7 y7)) fun _ s8 ⟨σ8, H8, I8, hw8, q8⟩ => ?_
      refine thnF (pt.run _ s8 σ8 H8 _ I8 q8) fun b s9 ⟨H9, I9, q9⟩ => ?_
      have fin : ∀ {s' : Shared} {H' : Hp}, Inv (blkQ X pq s3 H3 scope ce fp) ([] ++ pinsAt fp s7.heap) σ8 H' s' → Nx H' → ∃ m, m < n ∧ ∃ i H', Inv (blkQ X pq s3 H3 scope ce fp) [] (wipe σ (own.map (·.2))) H' s' ∧ tn i s'.heap ∧ (∀ b ∈ fp, H' b = none) ∧ W i m H' := fun {s' H'} I' nx => by
        obtain ⟨m', hm, w'⟩ := hNx H' nx
        have pn : ∀ b ∈ fp, ∀ o, s7.heap.get? b = some o → s'.heap.get? b = some o ∧ H' b = none := fun b hb o e => ⟨(I'.pin (b, o) (List.mem_append_right _ (List.mem_append_right _ (mem_pinsAt hb e)))).1, (I'.pin (b, o) (List.mem_append_right _ (List.mem_append_right _ (mem_pinsAt hb e)))).2.1⟩
        refine ⟨m', hm, i + 1, H', (I'.unpinned (pins := [])).weak (by rw [← hw8, wipe_length]) (fun j v e => ?_), T.keep _ _ _ st7 fun b hb o e => (pn b hb o e).1, fun b hb => ?_, w'⟩
        · rw [← hw8] at e
          exact (wipe_some e).1
        · obtain ⟨o, e, _⟩ := T.obj _ _ st7 b hb
          exact (pn b hb o e).2
      cases b with
      | false =>
        simp only [Bool.false_eq_true, if_false] at q9 ⊢
        exact fin I9 q9
      | true =>
        simp only [if_true] at q9 ⊢
        refine thnF (pe.run _ s9 σ8 H9 _ I9 q9) fun z s10 ⟨yv, H10, I10, r10, acc, hD10, hz10, nx⟩ => ?_
        exact app_ok (X := blkQ X pq s3 H3 scope ce fp) I10 hD10 hz10 r10 fun s11 I11 => fin I11 nx
theorem pe_lcG {pq : List (Addr × Obj)} {elt tg iter : Expr} {ifs : List Expr} {scope : Scope} {own : List (Str × Nat)} {pos : Pos} {wi : TI} {g : TG} {tt : TT} {te : TE} (hpq : ∀ p ∈ pq, p ∈ X.pn) (hGY : ∀ s H cenv fp, GY (blkQ X pq s H scope cenv fp)) (hN : X.N.Nodup) (cok : CellOk X) (hi : PIG GY GH X tg iter wi) (ok : BlkOk X.N X.env.scope scope own)
    (hg : ∀ (s : Shared) (H : Hp) (C : Addr) (cl : List (Str × Addr)) (fp : List Addr), BlkCells X cl → PG (blkQ X pq s H scope (compEnvC scope cl C X.env) fp) tg g)
    (ht : ∀ (s : Shared) (H : Hp) (C : Addr) (cl : List (Str × Addr)) (fp : List Addr), BlkCells X cl → PTs (blkQ X pq s H scope (compEnvC scope cl C X.env) fp) ifs tt)
    (he : ∀ (s : Shared) (H : Hp) (C : Addr) (cl : List (Str × Addr)) (fp : List Addr), BlkCells X cl → PE (blkQ X pq s H scope (compEnvC scope cl C X.env) fp) elt te) (hs : ∀ x, foldedSetIterable iter X.env x = pure x := by intro _; rfl) :
    PE X (.ListComp elt [⟨tg, iter, ifs, 0⟩] scope pos) (tLcG GH wi g tt te (own.map (·.2))) := by
  refine ⟨fun pins s σ H Q I h => ?_⟩
  rw [eval_ListComp]
  refine lc_coreG hpq hGY hN I cok hi ok hg ht he hs h fun D C s' m H' I' q hn ⟨f0, f1, f2, f3, f4, f5⟩ => ⟨m, hn, fun h'' sb => ?_⟩
  exact ⟨.ref D, H', I'.turned (t' := s'.toks) (fun b o hb e => (sb.2 b hb).trans e) f0 f1 f3 f4 f5, rfl, q⟩
end
section
variable {X : Cx} {W : WT} {q q1 q2 : Bool} {pos : Pos}
theorem AftI.mono {K : PySem.W.Frag} {mg : Str → Option Value} {Θ : Tix} {B : Amb Θ} {σ : SV} {sd : SD} {H : Hp} {Rr Rr' : It → Hp → Prop} {r : R (List D × SD)} (h : ∀ J H, Rr J H → Rr' J H) (z : AftI K mg B σ sd H W q Rr r) : AftI K mg B σ sd H W q Rr' r := by
  cases r with
  | ok p => exact fun J H1 a b c => h _ _ (z J H1 a b c)
  | exc c => exact z
  | bad => exact z
/-- a comprehension over one name, its block's cells known -/
theorem df_compC {elt iter : Expr} {ifs : List Expr} {scope : Scope} (own : List (Str × Nat)) (i : Nat) {y : Str} {py : Pos} {ms : MF} {mt : SD → R (Bool × SD)} {me : ME} (hc : X.calm = true) (hN : X.N.Nodup) (cok : CellOk X) (hi : DI X W q (.Name y py) iter ms) (ok : BlkOk X.N X.env.scope scope own)
    (hg : ∀ (s : Shared) (H : Hp) (C : Addr) (cl : List (Str × Addr)) (fp : List Addr), PG (X.blk s H scope (compEnvC scope cl C X.env) fp) (.Name y py) (gName i)) (hts : i ∈ own.map (·.2))
    (ht : ∀ (s : Shared) (H : Hp) (C : Addr) (cl : List (Str × Addr)) (fp : List Addr), BlkCells X cl → PTs (X.blk s H scope (compEnvC scope cl C X.env) fp) ifs (tT X (w0 W) q1 mt))
    (he : ∀ (s : Shared) (H : Hp) (C : Addr) (cl : List (Str × Addr)) (fp : List Addr), BlkCells X cl → PE (X.blk s H scope (compEnvC scope cl C X.env) fp) elt (tD X (w0 W) q2 me)) (hs : ∀ x, foldedSetIterable iter X.env x = pure x := by intro _; rfl) :
    DF X W false (.ListComp elt [⟨.Name y py, iter, ifs, 0⟩] scope pos) (mComp (own.map (·.2)) ms (put i) mt me) := by
  obtain ⟨wi, i1, i2⟩ := hi
  refine pe_imp (pe_lcG (pq := []) (GY := calmY) (fun _ h => absurd h (by simp)) (fun _ _ _ _ => hc) hN cok (pig_of i1) ok (fun s H C cl fp _ => hg s H C cl fp) ht he hs) fun σ H Q h => ?_
  obtain ⟨B, sd, r, z⟩ := comp_imp (W := W) (q := q) (q1 := q1) (q2 := q2) own (cg_name i) (fun j hj => by rw [List.mem_singleton.mp hj]; exact hts) (wi := fun σ H R => ∃ (B : Amb W.tb) (sd : SD), Rel X.K X.mg B σ H sd ∧ AftI X.K X.mg B σ sd H W q R (ms sd)) (fun B σ sd H R r z => ⟨B, sd, r, z⟩) σ H Q h
  refine i2 B σ sd H _ r (AftI.mono (fun J H1 hz D hD => ?_) z)
  obtain ⟨Wt, w0, step⟩ := hz D hD
  refine ⟨Wt, w0, fun i m H hw => ?_⟩
  rcases step i m H hw with ⟨a, b⟩ | r
  · exact .inl ⟨a, trivial, b⟩
  · exact .inr r
end
end HD

set_option Elab.async false
set_option linter.all false
set_option autoImplicit false
set_option maxRecDepth 100000
set_option maxHeartbeats 4000000
namespace PySem
open PySem.Sem (wp)
/-! ### ends of iterators where an exception is handled (own words for list and tuple iterators) -/
section
variable {prog : Program} {w : World} {A : Around} {E : Value → Shared → Prop} {s : Shared}
/-- a new StopIteration, raised where x1 is handled -/
theorem hd_stop {α : Type} {x1 : Addr} {Q : α → Shared → Prop} (hot : HotX.HotAt A x1 s.heap) (hE : ∀ h' e, (∀ b o, s.heap.get? b = some o → h'.get? b = some o) → (∃ o, h'.get? e = some o ∧ o.cls = .type "StopIteration") → E (.ref e) { s with heap := h' }) :
    wpAny (model prog w) A (do let e ← newExc (.type "StopIteration") []; (raiseNew e : Sem α)) Q E s := by
  obtain ⟨hh, o1, v1, g1, g2, g3⟩ := hot
  refine wpAny_bind ?_
  simp only [newExc, newTuple]
  refine wpAny_bind (wpAny_newObj_type ?_ (by size_fits))
  refine wpAny_bind (m := firstArgMember _ _) (wpAny_of_eq (a := Value.none) (by first | rfl | (simp only [firstArgMember]; rfl)) ?_)
  refine wpAny_newObj_type ?_ (by size_fits)
  have k1 := Heap.get?_push_of_some { cls := .type "tuple", data := .seq ([] : List Value).toArray } g1
  refine HotX.raiseNew_hot ⟨hh, o1, v1, Heap.get?_push_of_some _ (Heap.get?_push_of_some _ g1), g2, g3⟩ (Nat.ne_of_lt (Heap.lt_size (Heap.get?_push_of_some _ g1))) (Heap.get?_push_size _ rfl) rfl (by first | (simp; done) | (simp; omega) | (simp only [Array.size_append]; simp; omega)) ?_
  refine hE _ _ (fun b o e => ?_) ⟨_, Heap.get?_update_self _ (Heap.get?_push_size _ rfl) rfl, rfl⟩
  rw [Heap.get?_update_other _ _ (Nat.ne_of_gt (Heap.lt_size (Heap.get?_push_of_some _ e)))]
  exact Heap.get?_push_of_some _ (Heap.get?_push_of_some _ e)
theorem hot_keep {x1 : Addr} {h h' : Heap} (hot : HotX.HotAt A x1 h) (k : ∀ o, h.get? x1 = some o → h'.get? x1 = some o) : HotX.HotAt A x1 h' := by
  obtain ⟨hh, o1, v1, g1, g2, g3⟩ := hot
  exact ⟨hh, o1, v1, k _ g1, g2, g3⟩
theorem hd_list_end {it l x1 : Addr} {i : Nat} {items : Array Value} {Q : Value → Shared → Prop} (hot : HotX.HotAt A x1 s.heap) (hne : x1 ≠ it) (hit : s.heap.IsListIter it l i) (hl : s.heap.IsList l items) (hx : items[i]? = none)
    (hE : ∀ h' e, Heap.ExtBut it s.heap h' → (∃ o, h'.get? e = some o ∧ o.cls = .type "StopIteration") → E (.ref e) { s with heap := h' }) : wpAny (model prog w) A (Builtin.SmallTypes.nextOf (.ref it)) Q E s := by
  obtain ⟨o, g1, g2, g3⟩ := id hit
  obtain ⟨ol, j1, _, nl, j2⟩ := hl
  unfold Builtin.SmallTypes.nextOf
  refine wpAny_bind (wpAny_callSpecial?_slot (name := Str.ofString "__next__") hit.typeIs slot_listiter_next (wpAny_call_entry slot_listiter_next hit.typeIs entry_listiter_next ?_ (args_listiter_next _)))
  show wpAny _ _ (field (.ref it) 0 >>= _) _ _ s
  refine wpAny_bind (wpAny_field g1 g3 (x := .ref l) rfl ?_)
  rw [if_neg (show ¬ ((Value.ref l == Value.none) = true) from Bool.false_ne_true)]
  refine wpAny_bind (wpAny_field g1 g3 (x := .int i 0) rfl (wpAny_bind (wpAny_seqItems j1 j2 ?_)))
  simp only [Int.toNat_natCast, hx]
  refine wpAny_bind (wpAny_rule (wpAny_bind (wpAny_setField g1 g3 (by simp) ?_)))
  have sb : Heap.SameBut it s.heap (s.heap.update it (Obj.mapFields (·.setIfInBounds 0 Value.none))) := Heap.SameBut.update ..
  refine hd_stop (x1 := x1) (hot_keep (A := A.in1) (show HotX.HotAt A.in1 x1 s.heap from hot) fun o e => sb.extBut _ _ hne e) fun h' e k he => ?_
  exact hE h' e (fun b o hb q => k b o (sb.extBut b o hb q)) he
theorem hd_tuple_end {it t x1 : Addr} {i : Nat} {items : Array Value} {Q : Option Value → Shared → Prop} (hot : HotX.HotAt A x1 s.heap) (hne : x1 ≠ it) (hit : s.heap.IsTupleIter it t i) (hl : s.heap.IsTuple t items) (hx : items[i]? = none)
    (hQ : ∀ h', Heap.ExtBut it s.heap h' → Q none { s with heap := h' }) : wpAny (model prog w) A (pyNext (.ref it)) Q E s := by
  obtain ⟨o, g1, g2, g3⟩ := id hit
  obtain ⟨ol, j1, _, nl, j2⟩ := hl
  unfold pyNext
  refine wpAny_bind (wpAny_attempt (wpAny_callSpecial?_slot (name := Str.ofString "__next__") hit.typeIs F.slot_tuple_iterator_next (wpAny_call_entry F.slot_tuple_iterator_next hit.typeIs F.entry_tuple_iterator_next ?_ (F.args_tuple_iterator_next_1 _))))
  show wpAny _ _ (field (.ref it) 0 >>= _) _ _ s
  refine wpAny_bind (wpAny_field g1 g3 (x := .ref t) rfl ?_)
  rw [if_neg (show ¬ ((Value.ref t == Value.none) = true) from Bool.false_ne_true)]
  refine wpAny_bind (wpAny_field g1 g3 (x := .int i 0) rfl (wpAny_bind (wpAny_seqItems j1 j2 ?_)))
  simp only [Int.toNat_natCast, hx]
  refine wpAny_bind (wpAny_rule (wpAny_bind (wpAny_setField g1 g3 (by simp) ?_)))
  have sb : Heap.SameBut it s.heap (s.heap.update it (Obj.mapFields (·.setIfInBounds 0 Value.none))) := Heap.SameBut.update ..
  refine hd_stop (x1 := x1) (hot_keep (A := A.in1) (show HotX.HotAt A.in1 x1 s.heap from hot) fun o e => sb.extBut _ _ hne e) fun h' e k he => ?_
  obtain ⟨oe, ho, hc⟩ := he
  refine wpAny_bind (wpAny_isInstance (T := "StopIteration") (b := true) ⟨oe, ho, hc⟩ isSubtype_stop (wpAny_pure (hQ h' fun b o hb q => ?_)))
  exact k b o (sb.extBut b o hb q)
theorem hd_unpack {t x1 : Addr} {items : Array Value} {targets : List (Bool × (Value → Sem Unit))} {Q : Unit → Shared → Prop} (hot : HotX.HotAt A x1 s.heap) (ht : s.heap.IsTuple t items) (hn : targets.length = items.size) (hstar : targets.findIdx? (·.1) = none)
    (h : ∀ h', Heap.ExtBut s.heap.objs.size s.heap h' → wpAny (model prog w) A (assignInOrder (targets.map (·.2)) items.toList) Q E { s with heap := h' }) : wpAny (model prog w) A (unpack (.ref t) targets) Q E s := by
  obtain ⟨hh, o1, v1, g1, g2, g3⟩ := id hot
  have hlt : t ≠ s.heap.objs.size := by obtain ⟨o, ho, _⟩ := ht; exact Nat.ne_of_lt (Heap.lt_size ho)
  have hne : x1 ≠ s.heap.objs.size := Nat.ne_of_lt (Heap.lt_size g1)
  unfold unpack
  rw [hn, hstar]
  refine wpAny_bind (wpAny_holding ?_)
  unfold unpackItems notIterableAtAll
  refine wpAny_bind (wpAny_bind (wpAny_specialOf ht.typeIs F.slot_tuple_iter.lookup (wpAny_pure ?_)))
  simp only [Bool.false_eq_true, if_false]
  refine wpAny_bind (wpAny_holding (wpAny_pyIter_tuple ht (wpAny_bind (wpAny_holding (wpAny_draw_tuple hlt items.size 0 _ _ ⟨_, Heap.get?_push_size _ rfl, rfl, rfl⟩ (ht.push _) (by omega) fun h1 it1 sb1 => ?_)))))
  have all : List.take items.size (List.drop 0 items.toList) = items.toList := by
    rw [List.drop_zero]
    exact List.take_of_length_le (by simp)
  rw [all, if_neg (by simp)]
  refine wpAny_bind (wpAny_holding (hd_tuple_end (hot_keep hot fun o e => sb1.extBut _ _ hne (Heap.get?_push_of_some _ e)) hne it1 ((ht.push _).extBut sb1.extBut hlt) (by simp) fun h2 eb2 => ?_))
  simp only [Option.isSome_none, Bool.false_eq_true, if_false]
  exact wpAny_pure (h h2 fun b o hb e => eb2 b o hb (sb1.extBut b o hb (Heap.get?_push_of_some _ e)))
theorem hd_assign {env : Env} {elts : List Expr} {k : Nat} {pos : Pos} {t x1 : Addr} {items : Array Value} {Q : Unit → Shared → Prop} (hot : HotX.HotAt A x1 s.heap) (ht : s.heap.IsTuple t items) (hn : (assignEach elts env).length = items.size) (hstar : (assignEach elts env).findIdx? (·.1) = none)
    (h : ∀ h', Heap.ExtBut s.heap.objs.size s.heap h' → wpAny (model prog w) A (assignInOrder ((assignEach elts env).map (·.2)) items.toList) Q E { s with heap := h' }) : wpAny (model prog w) A (assign (.Tuple elts k pos) env (.ref t)) Q E s := by
  rw [arm_assign_Tuple]
  exact wpAny_bind (wpAny_standAt (hd_unpack hot ht hn hstar h))
theorem hd_draws {it l x1 : Addr} {items : Array Value} {hp : Heap} (hh : HotX.HotAt A x1 hp) (hne : l ≠ it) (hn1 : x1 ≠ it) :
    Draws prog w A it [it, l, x1] items.size (fun i v => items[i]? = some v) (fun i h => h.IsListIter it l i ∧ h.IsList l items ∧ HotX.HotAt A x1 h) where
  live := fun _ _ st => let ⟨o, ho, _⟩ := st.1; ⟨o, ho⟩
  frame := fun _ _ _ st hk => ⟨st.1.at fun o e => hk it (by simp) o e, st.2.1.at fun o e => hk l (by simp) o e, hot_keep st.2.2 fun o e => hk x1 (by simp) o e⟩
  item := fun i s Q E hi st hQ => wpAny_nextOf_list_item st.1 st.2.1 (x := items[i]) (by simp [hi]) fun h' hit' hs' => hQ _ h' s.toks (by simp [hi]) ⟨hit', st.2.1.extBut hs'.extBut hne, hot_keep st.2.2 fun o e => hs'.extBut _ _ hn1 e⟩ hs'
  done := fun s Q E st hE => hd_list_end st.2.2 hn1 st.1 st.2.1 (by simp) hE
end
end PySem

set_option Elab.async false
set_option linter.all false
set_option autoImplicit false
set_option maxRecDepth 100000
set_option maxHeartbeats 4000000
namespace HD
open PySem PySem.Spec PyProof.Rows L2
/-! ### where an exception is handled, its object known -/
abbrev okT : Hp → Prop := fun _ => True
section
variable {X : Cx}
theorem pg_tupH {es : List Expr} {k : Nat} {pos : Pos} {t : TGs} {n : Nat} (hy : L2H.HotC X) (h : PGs X es t) (hn : (assignEach es X.env).length = n := by rfl) (hst : (assignEach es X.env).findIdx? (·.1) = none := by rfl) : PG X (.Tuple es k pos) (gTup X.K n t) := by
  refine ⟨fun pins s σ H v u Q I r ⟨b, xs, e1, hq, hl, hw⟩ => ?_⟩
  subst e1
  cases r
  obtain ⟨its, rv, ht, hz⟩ := I.tuple hq
  obtain ⟨x1, hot⟩ := hy.at I
  refine hd_assign hot (show s.heap.IsTuple b its.toArray from ht) (by simp [hn, ← hl, rv.length]) hst fun h' hx => ?_
  exact h.run pins _ σ H xs _ Q (I.kept (t' := s.toks) fun c o e => hx c o (Nat.ne_of_lt (Heap.lt_size e)) e) (by simpa using rv) hw
def ItzH (K : PySem.W.Frag) (l1 l2 : Addr) : It := ⟨(Itz K l1 l2).go, (Itz K l1 l2).yld, fun i H => ∃ xs ys : List V, SqL K H l1 xs ∧ SqL K H l2 ys ∧ i ≤ xs.length ∧ i ≤ ys.length ∧ (i = xs.length ∨ i = ys.length)⟩
theorem turn_zipH {P : Program} {w : World} {K : PySem.W.Frag} {elts : List Expr} {kk : Nat} {tpos : Pos} {l1 l2 z TI TO i1 i2 : Addr} (D : ZipApart z TI TO i1 i2 l1 l2) :
    TurnG L2H.HotC okT P w K (.Tuple elts kk tpos) (ItzH K l1 l2) [z, TI, TO, i1, i2] z (fun i h => IsZip h z TI TO .none ∧ IsPair h TI (.ref i1) (.ref i2) ∧ (∃ x y, IsPair h TO x y) ∧ h.IsListIter i1 l1 i ∧ h.IsListIter i2 l2 i) where
  mem := by simp
  obj := fun i h ⟨g1, g2, ⟨x, y, g3⟩, ⟨o1, e1, _, d1⟩, ⟨o2, e2, _, d2⟩⟩ c hc => by
    have e' : c = z ∨ c = TI ∨ c = TO ∨ c = i1 ∨ c = i2 := by simpa using hc
    rcases e' with q | q | q | q | q
    · rw [q]; exact ⟨_, g1, fun v w => (nomatch w)⟩
    · rw [q]; exact ⟨_, g2, fun v w => (nomatch w)⟩
    · rw [q]; exact ⟨_, g3, fun v w => (nomatch w)⟩
    · rw [q]; exact ⟨o1, e1, fun v w => by rw [d1] at w; cases w⟩
    · rw [q]; exact ⟨o2, e2, fun v w => by rw [d2] at w; cases w⟩
  keep := fun i h h' ⟨g1, g2, ⟨x, y, g3⟩, g4, g5⟩ k => ⟨k z (by simp) _ g1, k TI (by simp) _ g2, ⟨x, y, k TO (by simp) _ g3⟩, g4.at fun o q => k i1 (by simp) o q, g5.at fun o q => k i2 (by simp) o q⟩
  item := by
    intro Y hP hw hK hc i pins s σ H E I hf ⟨g1, g2, ⟨x0, y0, g3⟩, g4, g5⟩ ⟨xs, ys, x, y, hqx, hqy, hx, hy⟩
    subst hP hw hK
    obtain ⟨its, rv, p, _⟩ := I.list hqx
    obtain ⟨its2, rv2, p2, _⟩ := I.list hqy
    obtain ⟨u, hu, ru⟩ := rv.get hx
    obtain ⟨u2, hu2, ru2⟩ := rv2.get hy
    have zl : z < s.heap.objs.size := Heap.lt_size g1
    refine wpAny_pyNext_zip_item D g1 g2 g3 g4 g5 p.isList p2.isList (x := u) (y := u2) (by simpa using hu) (by simpa using hu2) fun h' z' TO' h1' h2' hT hsz hk => ⟨_, rfl, wpAny_letOwnedTupleGo_zip (s := { s with heap := h' }) z' fun h2 z2 sb => ?_⟩
    have at_ : h2.get? s.heap.objs.size = some { cls := .type "tuple", data := .seq #[u, u2] } := (sb.2 _ (Nat.ne_of_gt zl)).trans hT
    have I1 : Inv Y pins σ (upd H s.heap.objs.size (.tup [x, y])) { s with heap := h2 } :=
      I.turnedNew (t' := s.toks) (ch := [z, TI, TO, i1, i2]) (fun c o hb q => (sb.2 c (fun w => hb (by simp [w]))).trans (hk c o (fun w => hb (by simp [w])) (fun w => hb (by simp [w])) (fun w => hb (by simp [w])) (fun w => hb (by simp [w])) q)) hf (Nat.le_refl _)
        ⟨by show 2 ≤ sizeLine; decide, [u, u2], .cons ru (.cons ru2 .nil), ⟨_, at_, rfl, _, rfl⟩⟩
    refine ⟨.ref s.heap.objs.size, _, I1, rfl, ⟨_, x, y, rfl, I.hok.fresh (Nat.le_refl _), rfl, fun l hl => by rw [I.list_inj hl hqx]; exact hx, fun l hl => by rw [I.list_inj hl hqy]; exact hy⟩,
      ⟨z2, (sb.2 _ D.TIz).trans (hk _ _ D.TIz D.TITO D.TIi1 D.TIi2 g2), ⟨u, u2, (sb.2 _ D.TOz).trans TO'⟩, h1'.at fun o q => (sb.2 _ D.i1z).trans q, h2'.at fun o q => (sb.2 _ D.i2z).trans q⟩, fun c hcm => ?_⟩
    have lt : c < s.heap.objs.size := by
      have e' : c = z ∨ c = TI ∨ c = TO ∨ c = i1 ∨ c = i2 := by simpa using hcm
      rcases e' with q | q | q | q | q
      · rw [q]; exact zl
      · rw [q]; exact Heap.lt_size g2
      · rw [q]; exact Heap.lt_size g3
      · rw [q]; obtain ⟨_, e1, _⟩ := g4; exact Heap.lt_size e1
      · rw [q]; obtain ⟨_, e1, _⟩ := g5; exact Heap.lt_size e1
    rw [upd_ne (Nat.ne_of_lt lt)]
    exact (hf c hcm).1
  done := by
    intro Y hP hw hK hc i pins s σ H E I _ hf ⟨g1, g2, ⟨x0, y0, g3⟩, g4, g5⟩ ⟨xs, ys, hqx, hqy, le1, le2, hend⟩
    subst hP hw hK
    obtain ⟨its, rv, p, _⟩ := I.list hqx
    obtain ⟨its2, rv2, p2, _⟩ := I.list hqy
    have s1 : its.toArray.size = xs.length := by rw [List.size_toArray, rv.length]
    have s2 : its2.toArray.size = ys.length := by rw [List.size_toArray, rv2.length]
    obtain ⟨pp, ⟨hh1, v1, hh2, hh3⟩, hpp⟩ := hc
    have pin1 := I.pin pp (List.mem_append_left _ hpp)
    let a := pp.1
    have hot : HotX.HotAt Y.A a s.heap := ⟨hh1, pp.2, v1, pin1.1, hh2, hh3⟩
    have na : ∀ c ∈ [z, TI, TO, i1, i2], a ≠ c := fun c hcm => (hf c hcm).2.2.2.2.2 pp (List.mem_append_left _ hpp)
    have S : ZipSep2 z TI TO i1 i2 [i1, l1, a] [i2, l2, a] := ⟨D.TIz, D.TOz, D.TITO, D.TIi1, by simp, by simp [D.i1z.symm, D.l1z.symm, Ne.symm (na z (by simp))], by simp [D.TOi1, D.l1TO.symm, Ne.symm (na TO (by simp))], D.TIi2, by simp, by simp [D.i2z.symm, D.l2z.symm, Ne.symm (na z (by simp))],
      by simp [D.TOi2, D.l2TO.symm, Ne.symm (na TO (by simp))], by simp [D.i12, D.l2i1.symm, Ne.symm (na i1 (by simp))], by simp [D.i12.symm, D.l1i2.symm, Ne.symm (na i2 (by simp))]⟩
    refine wpAny_pyNext_zipD2_end S (hd_draws (A := Y.A.in1) (items := its.toArray) (show HotX.HotAt Y.A.in1 a s.heap from hot) D.l1i1 (na i1 (by simp))) (hd_draws (A := Y.A.in1) (items := its2.toArray) (show HotX.HotAt Y.A.in1 a s.heap from hot) D.l2i2 (na i2 (by simp))) g1 g2 g3
      ⟨g4, p.isList, hot⟩ ⟨g5, p2.isList, hot⟩ (by rw [s1]; exact le1) (by rw [s2]; exact le2) (by rw [s1, s2]; exact hend) fun h' tk hk => ⟨rfl, I.turnedL (t' := tk) (ch := [z, TI, TO, i1, i2]) (fun c o hb q => hk c o (fun w => hb (by simp [w])) (fun w => hb (by simp [w])) (fun w => hb (by simp [w])) (fun w => hb (by simp [w])) q) hf⟩
  self := fun A i s Q E st h => wpAny_pyIter_zip st.1 h
def iZipH (K : PySem.W.Frag) (ta : TA) : TI := fun σ H R => ta σ H fun vs H1 => ∃ l1 l2 xs ys, vs = [.ref l1, .ref l2] ∧ SqL K H1 l1 xs ∧ SqL K H1 l2 ys ∧ R (ItzH K l1 l2) H1
theorem pi_zipH {e e2 : Expr} {ta : TA} {p pos tpos : Pos} {elts : List Expr} {kk : Nat} (hg : Gl X "zip") (hm : X.mg "zip" = none) (ha : PA X [e, e2] ta)
    (hs : starEach [e, e2] X.env = (false, eval e X.env) :: starEach [e2] X.env := by rfl) (hpl : (backTo pos (starEach [e2] X.env)).any (·.1) = false := by rfl) : PIG L2H.HotC okT X (.Tuple elts kk tpos) (.Call (.Name "zip" p) [e, e2] [] pos) (iZipH X.K ta) := by
  refine ⟨fun pins s σ H R I h => Call_ (ld_blt I hg hm PyProof.Rows.boot_zip (PyProof.Rows.callWith_type1 (thn (ha.run pos pins s σ H _ I h) fun us s1 ⟨vs, H1, I1, r1, l1, l2, xs, ys, ex, hqx, hqy, q⟩ => ?_) hs hpl))⟩
  subst ex
  cases r1 with
  | cons r rr =>
    cases rr with
    | cons r' rr =>
      cases rr
      cases r
      cases r'
      obtain ⟨its, rv, p1, _⟩ := I1.list hqx
      obtain ⟨its2, rv2, p2, _⟩ := I1.list hqy
      refine call_zip_2 p1.isList p2.isList fun h' hz hTI hTO h1 h2 hsz hk => wpAny_pyIter_zip hz ?_
      refine ⟨s1.heap.objs.size + 4, [s1.heap.objs.size + 4, s1.heap.objs.size + 2, s1.heap.objs.size + 3, s1.heap.objs.size, s1.heap.objs.size + 1], _, _, H1, rfl, I1.kept (t' := s1.toks) hk, turn_zipH (PySem.W.ktu_apart s1.heap.objs.size l1 l2 p1.lt p2.lt), ⟨hz, hTI, ⟨_, _, hTO⟩, h1, h2⟩, fun c hcm => ?_, q⟩
      have e' : c = s1.heap.objs.size + 4 ∨ c = s1.heap.objs.size + 2 ∨ c = s1.heap.objs.size + 3 ∨ c = s1.heap.objs.size ∨ c = s1.heap.objs.size + 1 := by simpa using hcm
      have le : s1.heap.objs.size ≤ c := by
        rcases e' with w | w | w | w | w
        · rw [w]; exact Nat.le_add_right _ _
        · rw [w]; exact Nat.le_add_right _ _
        · rw [w]; exact Nat.le_add_right _ _
        · rw [w]; exact Nat.le_refl _
        · rw [w]; exact Nat.le_add_right _ _
      exact I1.fpOk le (I1.hok.fresh le)
end
end HD

set_option Elab.async false
set_option linter.all false
set_option autoImplicit false
set_option maxRecDepth 100000
set_option maxHeartbeats 4000000
namespace HD
open PySem PySem.Spec PyProof.Rows L2
/-! ### isinstance of the exception that is handled -/
def rIsP (K : PySem.W.Frag) (D : Addr) (p : Addr × Obj) : List V → Hp → VK → Prop := fun xs H Q => ∃ (c : V) (cv : Value) (b : Bool), xs = [.ref p.1, c] ∧ (∀ u, RelV c u → u = cv) ∧ PySem.W.kitOne K (.ref D) cv = some b ∧ Q (.bl b) H
theorem call_isP {X : Cx} {D : Addr} {p : Addr × Obj} (C : ExcC X.K D) (hp : p ∈ X.pn) (hz : Zc (.ref D) none p.2) (hf : ∃ vs, p.2.data = .fields vs) : CallR X (.builtin "isinstance") (rIsP X.K D p) := by
  intro pins s σ H xs us Q I r ⟨c, cv, b, ex, hcv, hk, q⟩
  subst ex
  obtain ⟨u1, u2, e, r1, r2⟩ := vals2 r
  subst e
  cases r1
  have ec := hcv _ r2
  subst ec
  have hget := (I.pin p (List.mem_append_left _ hp)).1
  obtain ⟨vs, hv⟩ := hf
  have J : PySem.W.InstAt s.heap p.1 p.2 D none := by
    obtain ⟨a, oc, od, oda, osl⟩ := p
    obtain ⟨h1, h2⟩ := hz
    dsimp only at h1 h2 hv hget
    subst h1 h2 hv
    exact ⟨hget, rfl, rfl, trivial⟩
  exact PySem.W.kia_one (PySem.W.handS_kitx_exc C.hg C.hk C.hs C.hd C.ha C.hn C.ht C.hm) I.kIn J hk (fun z => nomatch z) fun tk => ⟨.bl b, H, I.kept (t' := tk) fun _ _ z => z, rfl, q⟩
def tIsP (p : Addr × Obj) (b : Bool) : TE := fun σ H Q => σ[0]? = some (some (.ref p.1)) ∧ Q (.bl b) H
section
variable {X : Cx} {D E : Addr} {p : Addr × Obj} {n x : Str} {b : Bool} {p1 p2 p3 pos : Pos}
theorem pe_isOwn (C : ExcC X.K D) (hp : p ∈ X.pn) (hz : Zc (.ref D) none p.2) (hf : ∃ vs, p.2.data = .fields vs) (hm : X.mg "isinstance" = none) (hmx : X.mg x = some (.ref E)) (hk : PySem.W.kitOne X.K (.ref D) (.ref E) = some b) (hg : Gl X "isinstance" := by rfl) (hgx : Gl X x := by rfl)
    (hN : X.N[0]? = some n := by rfl) (hv : Vis X.env.scope n := by first | exact Or.inl rfl | exact Or.inr (Or.inl rfl) | exact Or.inr (Or.inr rfl)) (hd : (n == ("__debug__" : Str)) = false := by decide) (hcd : (n == ("__classdict__" : Str)) = false := by decide) (hdx : (x == ("__debug__" : Str)) = false := by decide)
    (na : starEach [.Name n p2, .Name x p3] X.env = (false, eval (.Name n p2) X.env) :: starEach [.Name x p3] X.env := by rfl) (nb : starEach [.Name x p3] X.env = (false, eval (.Name x p3) X.env) :: starEach [] X.env := by rfl) (hpl : (backTo pos (starEach [.Name x p3] X.env)).any (·.1) = false := by rfl) :
    PE X (.Call (.Name "isinstance" p1) [.Name n p2, .Name x p3] [] pos) (tIsP p b) := by
  refine ⟨fun pins s σ H Q I ⟨h0, q⟩ => ?_⟩
  refine (pe_callB (call_isP C hp hz hf) hg hm (by decide +kernel) (pa_cons (pe_var (i := 0) hN hv hd hcd) (pa_cons (pe_glob hgx hmx (v := .ref E) rfl hdx) pa_nil nb) na) (by decide) (by decide) na hpl).run pins s σ H Q I ?_
  exact ⟨_, h0, _, _, b, rfl, fun u r => r, hk, q⟩
theorem pe_isBlt {T : String} (C : ExcC X.K D) (hp : p ∈ X.pn) (hz : Zc (.ref D) none p.2) (hf : ∃ vs, p.2.data = .fields vs) (hm : X.mg "isinstance" = none) (hmx : X.mg x = none) (hvx : bootBuiltins x = some (.type T)) (hk : PySem.W.kitOne X.K (.ref D) (.type T) = some b) (hg : Gl X "isinstance" := by rfl) (hgx : Gl X x := by rfl)
    (hN : X.N[0]? = some n := by rfl) (hv : Vis X.env.scope n := by first | exact Or.inl rfl | exact Or.inr (Or.inl rfl) | exact Or.inr (Or.inr rfl)) (hd : (n == ("__debug__" : Str)) = false := by decide) (hcd : (n == ("__classdict__" : Str)) = false := by decide) (hnx : x ≠ "__name__" := by decide) (hdx : (x == ("__debug__" : Str)) = false := by decide)
    (na : starEach [.Name n p2, .Name x p3] X.env = (false, eval (.Name n p2) X.env) :: starEach [.Name x p3] X.env := by rfl) (nb : starEach [.Name x p3] X.env = (false, eval (.Name x p3) X.env) :: starEach [] X.env := by rfl) (hpl : (backTo pos (starEach [.Name x p3] X.env)).any (·.1) = false := by rfl) :
    PE X (.Call (.Name "isinstance" p1) [.Name n p2, .Name x p3] [] pos) (tIsP p b) := by
  refine ⟨fun pins s σ H Q I ⟨h0, q⟩ => ?_⟩
  refine (pe_callB (call_isP C hp hz hf) hg hm (by decide +kernel) (pa_cons (pe_var (i := 0) hN hv hd hcd) (pa_cons (pe_bltn hgx hmx hvx (v := .ty T) rfl hnx hdx) pa_nil nb) na) (by decide) (by decide) na hpl).run pins s σ H Q I ?_
  exact ⟨_, h0, _, _, b, rfl, fun u r => r, hk, q⟩
end
/-! ### the names that hold, joined -/
def tIsL (p : Addr × Obj) : List Bool → TA
  | [] => tNil
  | b :: bs => tCons (tIsP p b) (tIsL p bs)
theorem tIsL_ok {p : Addr × Obj} {σ : SV} {H : Hp} (h0 : σ[0]? = some (some (.ref p.1))) : ∀ {bs : List Bool} {Q : List V → Hp → Prop}, Q (bs.map V.bl) H → tIsL p bs σ H Q
  | [], Q, q => q
  | b :: bs, Q, q => ⟨h0, tIsL_ok h0 (bs := bs) (Q := fun xs H2 => Q (V.bl b :: xs) H2) q⟩
abbrev rSpl : V → List V → Hp → VK → Prop := fun x xs H Q => ∃ a b, x = .str a ∧ xs = [.str b] ∧ (b.length == 0) = false ∧ a.length + 2 ≤ sizeLine ∧ rNewStrs (Txt.split a b) H Q
abbrev rJoi (K : PySem.W.Frag) : V → List V → Hp → VK → Prop := fun x xs H Q => ∃ a p, ∃ ys : List Str, x = .str a ∧ xs = [.ref p] ∧ (SqL K H p (ys.map V.str) ∨ SqT K H p (ys.map V.str)) ∧ (ys.map (·.length)).sum + ys.length * a.length ≤ 16777216 ∧ Q (.str (Txt.join a ys)) H
def tNames (K : PySem.W.Frag) (p : Addr × Obj) (bs : List Bool) (labels : Str) : TS := tSeq (tAsg (tLst (tIsL p bs)) (gName 1)) (tSeq (tAsg (tC (.str labels)) (gName 2))
  (tRet (tM1 (rJoi K) (tC (.str " ")) (tLcG okT (iZipH K (tCons (tM1 rSpl (tVar 2) (tC (.str " "))) (tCons (tVar 1) tNil))) (gTup K 2 (gCons (gName 3) (gCons (gName 4) gNil))) (tB (tVar 4)) (tVar 3) [3, 4]))))
def pick : List Str → List Bool → List Str
  | y :: ys, b :: bs => if b = true then y :: pick ys bs else pick ys bs
  | _, _ => []
theorem pick_snoc : ∀ (ys : List Str) (bs : List Bool) (i : Nat) (y : Str) (b : Bool), ys[i]? = some y → bs[i]? = some b → pick (ys.take (i + 1)) (bs.take (i + 1)) = pick (ys.take i) (bs.take i) ++ (if b = true then [y] else [])
  | [], _, i, y, b, h, _ => by simp at h
  | _ :: _, [], i, y, b, _, h => by simp at h
  | y0 :: ys, b0 :: bs, 0, y, b, h1, h2 => by
    simp at h1 h2
    subst h1 h2
    simp [pick]
  | y0 :: ys, b0 :: bs, i + 1, y, b, h1, h2 => by
    have ih := pick_snoc ys bs i y b (by simpa using h1) (by simpa using h2)
    rw [List.take_succ_cons, List.take_succ_cons, List.take_succ_cons, List.take_succ_cons]
    unfold pick
    rw [ih]
    split <;> rfl
theorem tNames_ok {K : PySem.W.Frag} {p : Addr × Obj} {bs : List Bool} {labels : Str} {H : Hp} {Q : VK} (hl : (Txt.split labels " ").length = bs.length) (hz : bs.length ≤ 1000) (hz2 : labels.length + 2 ≤ sizeLine) (hz3 : ∀ zs, zs = pick (Txt.split labels " ") bs → (zs.map (·.length)).sum + zs.length * (" " : Str).length ≤ 16777216)
    (q : ∀ H', Same H H' → Q (.str (Txt.join " " (pick (Txt.split labels " ") bs))) H') : tNames K p bs labels { nx := fun _ H' => Q .non H', rt := Q } [some (.ref p.1), none, none, none, none] H := by
  have szl : (1000 : Nat) ≤ sizeLine := by decide
  refine tIsL_ok rfl ⟨by rw [List.length_map]; omega, fun p1 hp1 => ?_⟩
  refine ⟨⟨" ", rfl⟩, ?_⟩
  refine ⟨_, rfl, ⟨labels, rfl⟩, labels, " ", rfl, rfl, by decide, hz2, fun p2 hp2 => ⟨_, rfl, ?_⟩⟩
  have n12 : p1 ≠ p2 := ne_of_none (o := .lst (bs.map V.bl)) upd_same hp2
  refine ⟨p2, p1, (Txt.split labels " ").map V.str, bs.map V.bl, rfl, .inl (.inl upd_same), .inl (.inl (by rw [upd_ne n12]; exact upd_same)), fun D hD => ?_⟩
  -- the loop
  have g1 : upd (upd H p1 (.lst (bs.map V.bl))) p2 (.lst ((Txt.split labels " ").map V.str)) p1 = some (.lst (bs.map V.bl)) := by rw [upd_ne n12]; exact upd_same
  have g2 : upd (upd H p1 (.lst (bs.map V.bl))) p2 (.lst ((Txt.split labels " ").map V.str)) p2 = some (.lst ((Txt.split labels " ").map V.str)) := upd_same
  have nD1 : p1 ≠ D := ne_of_none g1 hD
  have nD2 : p2 ≠ D := ne_of_none g2 hD
  have sm : Same H (upd (upd H p1 (.lst (bs.map V.bl))) p2 (.lst ((Txt.split labels " ").map V.str))) := (same_laid hp1).trans (same_laid hp2)
  have nHD : H D = none := sm.free hD
  refine ⟨fun i m H' => m = bs.length - i ∧ i ≤ bs.length ∧ H' p1 = some (.lst (bs.map V.bl)) ∧ H' p2 = some (.lst ((Txt.split labels " ").map V.str)) ∧ H' D = some (.lst ((pick ((Txt.split labels " ").take i) (bs.take i)).map V.str)) ∧ Same H H',
    ⟨bs.length, rfl, Nat.zero_le _, by rw [upd_ne nD1]; exact g1, by rw [upd_ne nD2]; exact g2, by rw [upd_same]; simp [pick], fun b o e => by rw [upd_ne (ne_of_none e nHD)]; exact sm b o e⟩, ?_⟩
  rintro i m H' ⟨rfl, hi, k1, k2, k3, k4⟩
  by_cases lt : i < bs.length
  · have e1 : (Txt.split labels " ")[i]? = some ((Txt.split labels " ")[i]'(by omega)) := List.getElem?_eq_getElem (by omega)
    have e2 : bs[i]? = some (bs[i]) := List.getElem?_eq_getElem lt
    generalize (Txt.split labels " ")[i]'(by omega) = y at e1
    generalize bs[i] = b at e2
    refine .inr ⟨⟨_, _, V.str y, V.bl b, .inl (.inl k2), .inl (.inl k1), by rw [List.getElem?_map, e1]; rfl, by rw [List.getElem?_map, e2]; rfl⟩, fun H' => i + 1 ≤ bs.length ∧ H' p1 = some (.lst (bs.map V.bl)) ∧ H' p2 = some (.lst ((Txt.split labels " ").map V.str)) ∧ H' D = some (.lst ((pick ((Txt.split labels " ").take (i + 1)) (bs.take (i + 1))).map V.str)) ∧ Same H H',
      fun H' z => ⟨bs.length - (i + 1), by omega, rfl, z.1, z.2.1, z.2.2.1, z.2.2.2.1, z.2.2.2.2⟩, ?_⟩
    rintro x H2 ⟨T, xv, yv, rfl, hT, rfl, f1, f2⟩
    have ex : some xv = some (V.str y) := by rw [← f1 _ (.inl (.inl k2)), List.getElem?_map, e1]; rfl
    have ey : some yv = some (V.bl b) := by rw [← f2 _ (.inl (.inl k1)), List.getElem?_map, e2]; rfl
    cases ex
    cases ey
    have m1 : upd H' T (.tup [.str y, .bl b]) p1 = some (.lst (bs.map V.bl)) := same_laid hT _ _ k1
    have m2 : upd H' T (.tup [.str y, .bl b]) p2 = some (.lst ((Txt.split labels " ").map V.str)) := same_laid hT _ _ k2
    have m3 := same_laid (o := .tup [.str y, .bl b]) hT _ _ k3
    have m4 : Same H (upd H' T (.tup [.str y, .bl b])) := k4.trans (same_laid hT)
    refine ⟨T, [.str y, .bl b], rfl, .inl (.inl upd_same), rfl, .str y, [.bl b], rfl, .bl b, [], rfl, rfl, ?_⟩
    refine ⟨rfl, _, rfl, b, rfl, ?_⟩
    have sn := pick_snoc _ _ i y b e1 e2
    cases b with
    | false =>
      refine ⟨lt, m1, m2, ?_, m4⟩
      rw [sn]
      simpa using m3
    | true =>
      refine ⟨_, rfl, _, m3, ?_, lt, ?_, ?_, ?_, ?_⟩
      · have : ∀ (ys : List Str) (bs : List Bool), (pick ys bs).length ≤ bs.length := fun ys => by
          induction ys with
          | nil => intro bs; simp [pick]
          | cons y ys ih =>
            intro bs
            cases bs with
            | nil => simp [pick]
            | cons b bs =>
              unfold pick
              split
              · rw [List.length_cons, List.length_cons]; exact Nat.succ_le_succ (ih bs)
              · rw [List.length_cons]; exact Nat.le_succ_of_le (ih bs)
        have h1 := this ((Txt.split labels " ").take i) (bs.take i)
        rw [List.length_take] at h1
        rw [List.length_map]
        omega
      · rw [upd_ne nD1]; exact m1
      · rw [upd_ne nD2]; exact m2
      · rw [upd_same, sn]
        simp
      · exact fun b o e => by rw [upd_ne (ne_of_none e nHD)]; exact m4 b o e
  · have e : i = bs.length := by omega
    subst e
    refine .inl ⟨⟨_, _, .inl (.inl k2), .inl (.inl k1), by rw [List.length_map]; omega, by rw [List.length_map]; omega, .inr (by rw [List.length_map])⟩, trivial, ?_⟩
    rw [List.take_of_length_le (by omega), List.take_length] at k3
    exact ⟨" ", D, _, rfl, rfl, .inl (.inl (.inl k3)), hz3 _ rfl, q H' k4⟩
end HD

set_option Elab.async false
set_option linter.all false
set_option autoImplicit false
set_option maxRecDepth 100000
set_option maxHeartbeats 4000000
namespace HD
open PySem PySem.Spec PyProof.Rows L2
/-! ### the def that tells an exception's names, called where it is handled -/
section
variable {P : Program} {w : World} {K : PySem.W.Frag} {mg : Str → Option Value} {base : Heap} {x : Str} {st : Stmt} {f : Addr} {fd : FuncData} {N : List Str} {k : Nat}
theorem names_run {labels : Str} (F : FunD K x x (defArgs st) (defBody st) (defScope st) [] [] f fd) (S : FnScope N ["e"] (defScope st)) (hN : N.length = 5) (bi : Binds K fd ["e"] []) {D : Addr} {bs : List Bool}
    (hb : ∀ (cdv : Value) (A : Around) (outer : List Env) (s : Shared) (H : Hp) (E : XK) (p : Addr × Obj), L2H.Hot1 A p → Zc (.ref D) none p.2 → (∃ vs, p.2.data = .fields vs) → PSs (L2H.cxH (L2N.CX P w) P w K mg base N x (defScope st) f cdv A outer s H E p) (defBody st) (tNames K p bs labels))
    (hl : (Txt.split labels " ").length = bs.length) (hz : bs.length ≤ 1000) (hz2 : labels.length + 2 ≤ sizeLine) (hz3 : ∀ zs, zs = pick (Txt.split labels " ") bs → (zs.map (·.length)).sum + zs.length * (" " : Str).length ≤ 16777216)
    {A : Around} {outer : List Env} {s : Shared} {H : Hp} {Q : VK} {E : XK} {p : Addr × Obj} (hr : L2H.RoomH (k + 1) A) (hot : L2H.Hot1 A p) (hpin : L2H.PinOk outer H s p) (hc : Zc (.ref D) none p.2) (hf : ∃ vs, p.2.data = .fields vs) (e0 : Env0 P w K mg base A outer s H)
    (q : ∀ H', Same H H' → Q (.str (Txt.join " " (pick (Txt.split labels " ") bs))) H') : codeAny (model P w) A (.call (.ref f) ⟨[.ref p.1], []⟩) (CR (L2N.CX P w) outer P w H s Q E) s := by
  obtain ⟨oc, od, dV, kV, doc, pm, an, cdv, ct, osl, rfl, lk, hcd, _, _⟩ := F.ex
  have KX : K.In s.heap := e0.mod.kin.keeps fun b o e => (e0.bs b o e).1
  have lim : s.heap.NoLimit := e0.mod.nolimit.keeps fun b o e => (e0.bs b o e).1
  have hkind : ∀ y ∈ (["e"] : List Str).zip [Value.ref p.1], (defScope st).names.lookup y.1 = some .local ∨ ((defScope st).names.lookup y.1 = some .cell ∧ ((cellsFrom (s.heap.objs.size + 1) (defScope st).names []).lookup y.1).isSome = true) := fun ⟨n, v⟩ hy => by
    rcases S.par n (List.of_mem_zip hy).1 with z | z
    · exact .inl z
    · exact .inr ⟨z, PySem.W.cellsFrom_some _ _ _ (.inl z)⟩
  have b1 := bi s [.ref p.1] KX rfl
  refine codeAny_call_function hr.depth (KX _ _ lk) rfl S.co S.gen rfl (PySem.W.codeRec_of KX hcd) (b1 _ _ _ _ ?_)
  refine wpAny_newFunctionEnv_cells S.kind hkind fun env he s1 x1 => ?_
  subst he
  refine ⟨lim.keeps x1.toInCall.keep, codeAny_func ?_⟩
  have I := L2H.inv_startH (CX := L2N.CX P w) (E := E) (f := f) (cd := cdv) (mg := mg) (vs := [.ref p.1]) (us := [.ref p.1]) S hpin e0 rfl (.cons rfl .nil) x1
  have es : L2.start N [V.ref p.1] = [some (.ref p.1), none, none, none, none] := by
    unfold L2.start
    rw [hN]
    rfl
  rw [es] at I
  refine wpAny_mono ((hb cdv A outer s H E p hot hc hf).run [] s1 _ H _ I (tNames_ok (Q := Q) hl hz hz2 hz3 q)) (fun fl s' hs => ?_) fun e s' hs => hs
  cases fl with
  | ret u =>
    obtain ⟨v, σ', H', J, rv, qv⟩ := hs
    exact ⟨v, H', J.os, J.bare, J.base, J.hok, rv, qv⟩
  | next =>
    obtain ⟨σ', H', J, qv⟩ := hs
    exact ⟨.non, H', J.os, J.bare, J.base, J.hok, rfl, qv⟩
  | brk => obtain ⟨_, _, _, z⟩ := hs; exact z.elim
  | cont => obtain ⟨_, _, _, z⟩ := hs; exact z.elim
end
/-- what an exception's names are, by its class; the def that tells them -/
structure NamesF (P : Program) (w : World) (K : PySem.W.Frag) (mg : Str → Option Value) (base : Heap) (nm : Str) (k : Nat) (names : Str → Option Str) : Prop where
  ex : ∃ f, mg nm = some (.ref f) ∧ PySem.W.keepIn K (.ref f) = true ∧ ∀ (c : Str) (z : Str) (D : Addr), names c = some z → mg c = some (.ref D) → ∀ (A : Around) (outer : List Env) (s : Shared) (H : Hp) (Q : VK) (E : XK) (p : Addr × Obj), L2H.RoomH k A → L2H.Hot1 A p → L2H.PinOk outer H s p →
    Zc (.ref D) none p.2 → (∃ vs, p.2.data = .fields vs) → Env0 P w K mg base A outer s H → (∀ H', Same H H' → Q (.str z) H') → codeAny (model P w) A (.call (.ref f) ⟨[.ref p.1], []⟩) (CR (L2N.CX P w) outer P w H s Q E) s
section
variable {X : Cx} {nm n : Str} {k i : Nat} {names : Str → Option Str} {a : Addr} {oe : Obj} {cls : Value} {d : Option Addr} {pn : List (Addr × Obj)} {p1 p2 p3 pos : Pos}
/-- the names, in an except suite -/
theorem pe_names (F : NamesF X.prog X.w X.K X.mg X.base nm k names) (hr : Room k X.A) (hz : L2N.Zn cls d oe) (hf : ∃ vs, oe.data = .fields vs) (hg : Gl X nm := by rfl) (hN : X.N[i]? = some n := by rfl) (hv : Vis X.env.scope n := by first | exact Or.inl rfl | exact Or.inr (Or.inl rfl) | exact Or.inr (Or.inr rfl))
    (hd : (n == ("__debug__" : Str)) = false := by decide) (hcd : (n == ("__classdict__" : Str)) = false := by decide) (hdb : (nm == ("__debug__" : Str)) = false := by decide)
    (na : starEach [.Name n p2] X.env = (false, eval (.Name n p2) X.env) :: starEach [] X.env := by rfl) :
    PE (X.suite a ((a, oe) :: pn)) (.Call (.Name nm p1) [.Name n p2] [] pos) (fun σ H Q => (i < σ.length → σ[i]? = some (some (.ref a))) ∧ ∃ (c z : Str) (D : Addr), names c = some z ∧ X.mg c = some (.ref D) ∧ cls = .ref D ∧ d = none ∧ ∀ H', Same H H' → Q (.str z) H') := by
  obtain ⟨f, h1, h2, h3⟩ := F.ex
  refine ⟨fun pins s σ H Q I ⟨hs0, c, z, D, e1, e2, e3, e4, q⟩ => ?_⟩
  subst e3 e4
  have hs := hs0 (by rw [I.len]; exact (List.getElem?_eq_some_iff.mp hN).1)
  refine wpAny_Call_Name_kw (ld_glob I hg h1 ?_ hdb)
  have pv := pe_var (X := X.suite a ((a, oe) :: pn)) (pos := p2) (i := i) (x := n) hN hv hd hcd
  refine PySem.W.callWith_K (h₀ := X.base) I.ok.mod.kin h2 (thn ((pa_cons pv pa_nil na).run pos pins s σ H (fun vs H1 => vs = [.ref a] ∧ H1 = H) I ⟨.ref a, hs, rfl, rfl⟩) fun us s1 ⟨vs, H1, I1, r, ev, eH⟩ => ⟨I1.kIn, ?_⟩) na rfl
  subst ev eH
  obtain ⟨u, eu, ru⟩ := vals1 r
  subst eu
  cases ru
  obtain ⟨vs, hv2⟩ := hf
  have P1 := I1.pin (a, oe) (List.mem_append_left _ List.mem_cons_self)
  have hpin : L2H.PinOk (X.suite a ((a, oe) :: pn)).stack H1 s1 (a, oe) := ⟨P1.1, P1.2.1, fun hm => (List.mem_cons.mp (I1.stkSub a hm)).elim P1.2.2.1 P1.2.2.2.1, P1.2.2.2.2⟩
  have rc := h3 c z D e1 e2 (X.suite a ((a, oe) :: pn)).A (X.suite a ((a, oe) :: pn)).stack s1 H1 Q (fun _ _ _ => False) (a, oe) ⟨hr.dp, hr.un⟩ ⟨rfl, vs, hv2, hz.2.2 vs hv2⟩ hpin hz.zc ⟨vs, hv2⟩ I1.env0 q
  refine wpAny_call (codeAny_mono rc fun rr s' hq => ?_)
  cases rr with
  | error ev =>
    obtain ⟨_, _, _, _, _, _, _, _, _, _, _, _, w⟩ := (show L2N.CX X.prog X.w (X.suite a ((a, oe) :: pn)).stack H1 s1 (fun _ _ _ => False) ev s' from hq)
    exact w.elim
  | ok fl =>
    cases fl with
    | ret u => exact I1.after hq
    | next => exact hq.elim
    | brk => exact hq.elim
    | cont => exact hq.elim
end
/-! ### try: call() except BitError as e: return names(e); return "" -/
def gErr (cal : D → Bool) (app : D → List D → R D) (names : Str → Option Str) (ds : List D) : R D := match ds with
  | [d] => if cal d = true then (match app d [] with
    | .ok _ => .ok (.str "")
    | .exc c => (match names c with
      | some z => .ok (.str z)
      | none => .bad)
    | .bad => .bad) else .bad
  | _ => .bad
theorem fn_error {P : Program} {w : World} {K : PySem.W.Frag} {mg : Str → Option Value} {base : Heap} {x nm bx : Str} {st : Stmt} {f : Addr} {fd : FuncData} {k : Nat} {T : List (Addr × Str)} {cal : D → Bool} {app : D → List D → R D} {names : Str → Option Str} {CB : Addr} {j : Nat} {p1 p2 p3 p4 p5 p6 p7 p8 p9 p10 p11 p12 : Pos}
    (F : FunD K x x (defArgs st) (defBody st) (defScope st) [] [] f fd) (S : FnScope ["call", "e"] ["call"] (defScope st))
    (hb : defBody st = [.Try [.Expr (.Call (.Name "call" p1) [] [] p2) p3] [.ExceptHandler (some (.Name bx p4)) (some "e") [.Return (some (.Call (.Name nm p5) [.Name "e" p6] [] p7)) p8] p9] [] [] p10, .Return (some (.Constant (.str "") j p11)) p12])
    (h1 : (defScope st).names.lookup ("call" : Str) = some .local) (h2 : (defScope st).names.lookup ("e" : Str) = some .local) (h3 : (defScope st).names.lookup bx = some .globalImplicit) (h4 : (defScope st).names.lookup nm = some .globalImplicit) (h5 : mg bx = some (.ref CB)) (hd5 : (bx == ("__debug__" : Str)) = false) (hd6 : (nm == ("__debug__" : Str)) = false)
    (AP : App P w K mg base T k cal app) (NF : NamesF P w K mg base nm k names) (hx : ∀ c z D, names c = some z → mg c = some (.ref D) → PySem.W.exmOne K (.ref D) (.ref CB) = some true) :
    FnOk P w K mg base (L2N.CX P w) (k + 1) f fd ["call"] (spT T K mg 1 (gErr cal app names)) := by
  refine F.ok S (fun vs H Q E h => ?_) (fun cdv A outer s H vs Q E hr h => ?_)
  · obtain ⟨T0, ds, h1, _, _, h2, _⟩ := h
    rw [h2.length, h1]
    rfl
  · obtain ⟨T0, ds, g1, hT, t0, g2, g3⟩ := h
    rw [hb]
    match ds, g1, g2, g3 with
    | [d], _, g2, g3 =>
      match vs, g2 with
      | [v], .cons rv .nil =>
        have tk : L2N.Takes (cxOf (L2N.CX P w) P w K mg base ["call", "e"] x (defScope st) f cdv A outer s H E) (fun cls d _ H' => E cls d H') := L2N.takes_of rfl rfl rfl rfl
        refine ⟨_, pss_cons (L2N.ps_try_as (X := cxOf (L2N.CX P w) P w K mg base ["call", "e"] x (defScope st) f cdv A outer s H E) (i := 1) (c := .ref CB) (Wout := fun cls d _ H' => E cls d H') (ts := fun a cls d => tRet (fun σ H Q => (1 < σ.length → σ[1]? = some (some (.ref a))) ∧ ∃ (c z : Str) (D : Addr), names c = some z ∧ mg c = some (.ref D) ∧ cls = .ref D ∧ d = none ∧ ∀ H', Same H H' → Q (.str z) H'))
          (tb := fun W => tS (cxOf (L2N.CX P w) P w K mg base ["call", "e"] x (defScope st) f cdv A outer s H E) ⟨W, some T⟩ (mDrop (mCallV cal app 0 (mR [])))) rfl rfl S.nd rfl h2 ⟨h3, hd5, .inl h5⟩ tk (fun W pn xe tkW _ => ?_) (fun a oe cls d pn hz hf => ?_)) (pss_one (ps_ret pe_str)), ?_⟩
        · exact dss_one (X := (cxOf (L2N.CX P w) P w K mg base ["call", "e"] x (defScope st) f cdv A outer s H E).tr pn xe) (W := ⟨W, some T⟩) (ds_expr (de_callV0 0 AP rfl tkW hr rfl (.inl h1)))
        · exact pss_one (ps_ret (pe_names (X := cxOf (L2N.CX P w) P w K mg base ["call", "e"] x (defScope st) f cdv A outer s H E) (i := 1) NF hr hz hf h4 rfl (.inl h2) (by decide) (by decide) hd6))
        · refine ⟨ambD (Θ := some T) T0 H, startD 2 [d], rel_start (N := ["call", "e"]) (Θ := some T) hT (by show 1 ≤ 2; decide) t0 (.cons rv .nil), ?_⟩
          have hno := rv.noOwn
          have ev : mVar 0 (startD 2 [d]) = .ok (d, startD 2 [d]) := by
            show (if isOwn d = true then R.bad else R.ok (d, startD 2 [d])) = _
            rw [hno]
            rfl
          by_cases hc : cal d = true
          · have eg : gErr cal app names [d] = (match app d [] with
              | .ok _ => .ok (.str "")
              | .exc c => (match names c with
                | some z => .ok (.str z)
                | none => .bad)
              | .bad => .bad) := by
              show (if cal d = true then _ else _) = _
              rw [if_pos hc]
            rw [eg] at g3
            have em : mCallV cal app 0 (mR []) (startD 2 [d]) = (match app d [] with
              | .ok r => .ok (r, startD 2 [d])
              | .exc c => .exc c
              | .bad => .bad) := by
              unfold mCallV
              rw [mB_ok ev, if_pos hc]
              rfl
            have up : ∀ {σ' : SV} {sd' : SD} {H' H2 : Hp}, Stp K mg (ambD (Θ := some T) T0 H) (L2.start ["call", "e"] [v]) (startD 2 [d]) H σ' sd' H' → Same H' H2 → Ext (fun _ => False) H H2 ∧ LamX.Tabs T H2 := fun {σ' sd' H' H2} st sm =>
              ⟨⟨fun b o e _ ht => sm _ _ (st.rel.ent.keep b o e (fun z => (nomatch z)) ht), fun b e n => st.rel.ent.there b e (sm.free n)⟩, (show LamX.Tabs T H' from st.rel.inv).ext fun b o e => sm b o e⟩
            unfold mDrop mBS
            rw [em]
            cases ea : app d [] with
            | bad => rw [ea] at g3; exact g3.elim
            | ok r0 =>
              rw [ea] at g3
              refine fun σ' H' st => ?_
              obtain ⟨x1, x2⟩ := up st (Same.refl H')
              exact g3 _ H' x1 x2 (.str "")
            | exc c =>
              rw [ea] at g3
              simp only at g3
              cases en : names c with
              | none => rw [en] at g3; exact g3.elim
              | some z =>
                rw [en] at g3
                refine fun σ' H' sd' st C hC => ⟨true, hx c z C en hC, fun _ a na => ⟨fun hl => ?_, c, z, C, en, hC, rfl, rfl, fun H2 sm => ?_⟩, fun w => nomatch w⟩
                · rw [List.getElem?_set_self (by simpa using hl)]
                · obtain ⟨x1, x2⟩ := up st sm
                  exact g3 _ H2 x1 x2 (.str z)
          · have eg : gErr cal app names [d] = .bad := by
              show (if cal d = true then _ else _) = _
              rw [if_neg hc]
            rw [eg] at g3
            exact g3.elim
end HD

set_option Elab.async false
set_option linter.all false
set_option autoImplicit false
set_option maxRecDepth 100000
set_option maxHeartbeats 4000000
namespace HD
open PySem PySem.Spec PyProof.Rows L2
/-! ### ways into a text -/
def exN : Expr := .Constant .none 0 ⟨0, 0, 0, 0⟩
def stN : Stmt := .Pass ⟨0, 0, 0, 0⟩
def xS (l : List Stmt) (i : Nat) : Stmt := l.getD i stN
def xRet : Stmt → Expr
  | .Return (some e) _ => e
  | _ => exN
def xVal : Stmt → Expr
  | .Assign _ e _ => e
  | .Expr e _ => e
  | _ => exN
def xTest : Stmt → Expr
  | .If t _ _ _ => t
  | .While t _ _ _ => t
  | _ => exN
def xBody : Stmt → List Stmt
  | .If _ b _ _ => b
  | .While _ b _ _ => b
  | .For _ _ b _ _ => b
  | _ => []
def xElse : Stmt → List Stmt
  | .If _ _ b _ => b
  | _ => []
def xL : Expr → Expr
  | .Compare a _ _ _ => a
  | .BinOp a _ _ _ => a
  | .UnaryOp _ a _ => a
  | _ => exN
def xR : Expr → Expr
  | .Compare _ _ (b :: _) _ => b
  | .BinOp _ _ b _ => b
  | _ => exN
def xArg (i : Nat) : Expr → Expr
  | .Call _ as _ _ => as.getD i exN
  | .BoolOp _ as _ => as.getD i exN
  | .Tuple as _ _ => as.getD i exN
  | .List as _ => as.getD i exN
  | _ => exN
def xIf : Expr → Expr
  | .ListComp _ [⟨_, _, i :: _, _⟩] _ _ => i
  | _ => exN
def xElt : Expr → Expr
  | .ListComp e _ _ _ => e
  | _ => exN
def lamOf (id : Nat) (qual : Str) (caps : List Str) : Expr → Lam
  | .Lambda ps b sc _ => ⟨id, ps, b, sc, qual, caps⟩
  | _ => ⟨id, ⟨[], [], none, [], [], none, []⟩, exN, ⟨.function, [], false, false, []⟩, qual, caps⟩
/-! ### a def whose code object is known -/
section
variable {P : Program} {w : World} {K : PySem.W.Frag} {mg : Str → Option Value} {base : Heap} {x qual : Str} {st : Stmt} {f : Addr} {fd : FuncData} {N ps : List Str} {k : Nat} {T : List (Addr × Str)}
abbrev BodyC (P : Program) (w : World) (K : PySem.W.Frag) (mg : Str → Option Value) (base : Heap) (N : List Str) (qual : Str) (st : Stmt) (f : Addr) (k : Nat) (Θ : Tix) (cdv : Value) (m : MS) : Prop :=
  ∀ (A : Around) (outer : List Env) (s : Shared) (H : Hp) (E : XK), Room k (A.deeper (envOfC qual (defScope st) s.heap.objs.size f cdv)) → DSs (cxD P w K mg base N qual st f cdv A outer s H E) (wE Θ E) (defBody st) m
theorem fn_TC {m : MS} {G : List D → R D} {cc : Addr} (F : FunD K x qual (defArgs st) (defBody st) (defScope st) [] [] f fd) (hcode : fd.code = .ref cc) (S : FnScope N ps (defScope st)) (hN : ps.length ≤ N.length) (hb : BodyC P w K mg base N qual st f k (some T) (.ref cc) m) (hG : ∀ ds, ds.length = ps.length → G ds = .bad ∨ runD m N.length ds = G ds) :
    FnOk P w K mg base (L2N.CX P w) (k + 1) f fd ps (spT T K mg ps.length G) := by
  obtain ⟨oc, od, dV, kV, doc, pm, an, cdv, ct, osl, rfl, lk, hcd, _, _⟩ := F.ex
  have ec : cdv = .ref cc := hcode
  subst ec
  refine fn_of lk hcd S (fun vs H Q E h => ?_) fun A outer s H vs Q E hr h => ?_
  · obtain ⟨T0, ds, h1, _, _, h2, _⟩ := h
    rw [h2.length, h1]
  · obtain ⟨T0, ds, h1, hT, t0, h2, h3⟩ := h
    refine ⟨_, hb A outer s H E hr, ?_⟩
    have hr0 := rel_start (Θ := some T) (N := N) hT (by rw [h2.length, h1]; exact hN) t0 h2
    refine ⟨ambD (Θ := some T) T0 H, startD N.length ds, hr0, ?_⟩
    have sm : ∀ {σ' sd' H'}, Stp K mg (ambD (Θ := some T) T0 H) (L2.start N vs) (startD N.length ds) H σ' sd' H' → Ext (fun _ => False) H H' := fun st => st.rel.ent.mono fun b z => nomatch z
    rcases hG ds h1 with g | g
    · rw [g] at h3
      exact h3.elim
    · rw [← g] at h3
      unfold runD at h3
      show AftS K mg _ _ _ _ _ _ (m (startD N.length ds))
      cases e : m (startD N.length ds) with
      | ok fl =>
        rw [e] at h3
        cases fl with
        | nx sd' => exact fun σ' H' st => h3 .non H' (sm st) st.rel.inv .non
        | rt d sd' => exact fun σ' v H' st rp => h3 v H' (sm st) st.rel.inv (rp.carry (Carry.less_of fun b t => .inl t))
        | rf es sd' => exact fun σ' p xs H' fr => h3 _ H' (sm fr.st) fr.st.rel.inv (.lst (.inl fr.at_) (fun t => t0 p t fr.new) (fr.rp.carry (Carry.less_of fun b t => .inl (.inl t))))
        | bk sd' => exact h3.elim
        | ct sd' => exact h3.elim
      | exc c => rw [e] at h3; exact fun σ' H' sd' st C hC => h3 H' (sm st) st.rel.inv C hC
      | bad => rw [e] at h3; exact h3.elim
/-! ### what may be called, piece by piece -/
theorem glo_run {x : Str} {n : Nat} {g : List D → R D} (G : GF P w K mg base k x ps (spD K mg n g)) {A : Around} {outer : List Env} {s : Shared} {H : Hp} {us : List Value} {vs : List V} {Q : VK} {E : XK} {v : V} {u : Value} {ds : List D} {T0 : Addr → Prop} (hr : Room k A) (e0 : Env0 P w K mg base A outer s H) (rv : RelV v u)
    (r : Vals vs us) (rp : Rp K mg H T0 v (.glo x)) (rps : Rps K mg H T0 vs ds) (t0 : ∀ a, T0 a → H a ≠ none) (hT : LamX.Tabs T H) (hl : ds.length = n) (hp : ps.length = n) (h : AppS T K mg T0 H Q E (g ds)) : codeAny (model P w) A (.call u ⟨us, []⟩) (CR (L2N.CX P w) outer P w H s Q E) s := by
  obtain ⟨f, fd, h1, h2, h3, h4⟩ := G.ex
  cases rp with
  | glo hm rv2 =>
    rw [h2] at hm
    cases hm
    cases relV_ref rv2
    cases rv
    have KX : K.In s.heap := e0.mod.kin.keeps fun b o e => (e0.bs b o e).1
    have b := h4 s us KX (by rw [List.append_nil, hp, ← hl, ← rps.length, r.length])
    rw [List.append_nil] at b
    refine h1.run A outer s H ⟨us, []⟩ us vs Q E hr e0 b r ⟨T0, ds, hl, t0, rps, ?_⟩
    cases eg : g ds with
    | ok d => rw [eg] at h; exact fun v' H' sm rv' => h v' H' (Ext.same sm) (hT.ext fun b o e => sm b o e) rv'
    | exc c => rw [eg] at h; exact fun H' sm C hC => h H' (Ext.same sm) (hT.ext fun b o e => sm b o e) C hC
    | bad => rw [eg] at h; exact h
end
/-! ### a lambda handed over, its static facts apart -/
structure LamStat (l : Lam) : Prop where
  caps : ∀ p ∈ l.scope.names, p.2 = .free → p.1 ∈ l.caps
  uniq : ∀ p ∈ l.scope.names, l.scope.names.lookup p.1 = some p.2
section
variable {X : Cx} {W : WT} {q q1 q2 q3 : Bool} {e a b c : Expr} {es : List Expr} {pos p : Pos} {m ma mb mc : ME} {ms : MF} {x : Str} {k n : Nat} {ps : List Str}
theorem de_lam {T : List (Addr × Str)} {G : List D → R D} {cc P : Addr} {params : Arguments} {body : Expr} {scope : Scope} {lpos : Pos} (l : Lam) (is : List Nat) (F : GF X.prog X.w X.K X.mg X.base k x ps (spT T X.K X.mg (n + 1) G)) (hΘ : W.tb = some T) (tk : L2N.Takes X W.w) (hr : Room k X.A)
    (TB : LamX.TabB X.base X.mg cc P) (L : LamStat l) (hm : (P, l.qual) ∈ T) (hu : ∀ p ∈ T, p.1 = P → p.2 = l.qual) (cok : CellOk X) (hix : CapIx X l.scope is l.caps) (hfr : FreeS X.env.scope l.scope) (ha : DA X W q es ms) (hl : LenA ms n)
    (hcode : X.env.code = .ref cc := by rfl) (l1 : l.params = params := by rfl) (l2 : l.body = body := by rfl) (l3 : l.scope = scope := by rfl) (l4 : l.qual = X.env.qual ++ "<lambda>" := by rfl) (hdef : defaultsOf params X.env = ([], []) := by rfl) (hg : Gl X x := by rfl) (hdb : (x == ("__debug__" : Str)) = false := by decide)
    (he : starEach (.Lambda params body scope lpos :: es) X.env = (false, eval (.Lambda params body scope lpos) X.env) :: starEach es X.env := by rfl) (hpl : (backTo pos (starEach es X.env)).any (·.1) = false := by rfl) :
    DE X W false (.Call (.Name x p) (.Lambda params body scope lpos :: es) [] pos) (mCallLam G l is ms) := by
  subst l3
  exact de_callLam l is F hΘ tk hr TB hcode l1 l2 rfl l4 hm hu cok hfr hix (fun y e => L.caps _ (PySem.mem_of_lookup e) rfl) L.uniq ha hl hdef hg hdb he hpl
end
end HD

set_option Elab.async false
set_option linter.all false
set_option autoImplicit false
set_option maxRecDepth 100000
set_option maxHeartbeats 4000000
namespace HD
open PySem PySem.Spec PyProof.Rows L2
def topS (i : Nat) : Stmt := PySem.Challenge.pw_lowbitsalone_k05_whole_polynomials.main.body.getD i (.Pass ⟨0, 0, 0, 0⟩)
def frees : List Str := ["ValueError", "abs", "all", "bool", "int", "isinstance", "len", "max", "min", "range", "set", "tuple", "zip"]
section
variable {P : Program} {w : World} {K : PySem.W.Frag} {mg : Str → Option Value} {base : Heap}
abbrev st_is_whole : Stmt := topS 16
theorem sc_is_whole : FnScope ["value", "low", "high"] ["value", "low", "high"] (defScope st_is_whole) := ⟨rfl, rfl, rfl, by decide +kernel, rfl, by decide +kernel, by decide +kernel⟩
def m_is_whole : MS := mRet (mAndV (mFn (dIsi "int") (mPeek 0)) (mAndV (mNotV (mFn (dIsi "bool") (mPeek 0))) (mChainV bLe bLe (mVar 1) (mVar 0) (mVar 2))))
def g_is_whole (ds : List D) : R D := runD m_is_whole 3 ds
theorem body_is_whole {f : Addr} (fr : ∀ x ∈ frees, mg x = none)  : Body P w K mg base ["value", "low", "high"] "is_whole" st_is_whole f 0 none m_is_whole := by
  intro cdv A outer s H E hr
  have tk : L2N.Takes (cxD P w K mg base ["value", "low", "high"] "is_whole" st_is_whole f cdv A outer s H E) (wE none E).w := L2N.takes_of rfl rfl rfl rfl
  have po : PassesOwn (model P w) (cxD P w K mg base ["value", "low", "high"] "is_whole" st_is_whole f cdv A outer s H E).A (cxD P w K mg base ["value", "low", "high"] "is_whole" st_is_whole f cdv A outer s H E).env (cxD P w K mg base ["value", "low", "high"] "is_whole" st_is_whole f cdv A outer s H E).xe := passes_of rfl
  exact (dss_one (ds_ret (de_and (de_isi rfl (fr "isinstance" (by decide)) rfl (fr "int" (by decide)) (by decide +kernel) (dp_var 0)) (de_and (de_not (de_isi rfl (fr "isinstance" (by decide)) rfl (fr "bool" (by decide)) (by decide +kernel) (dp_var 0))) (de_one (de_chain o_le o_le (de_var 1) (de_var 0) (de_var 2)))))))
theorem ok_is_whole (F : FnX K mg "is_whole" st_is_whole) (fr : ∀ x ∈ frees, mg x = none)  : GF P w K mg base 1 "is_whole" ["value", "low", "high"] (spD K mg 3 g_is_whole) := by
  obtain ⟨f, fd, hm, F⟩ := F
  exact ⟨f, fd, fn_D F sc_is_whole (by decide) (body_is_whole fr ) (fun _ _ => .inr rfl), hm, F.kp, F.bindsN fun _ _ _ _ _ _ us hl => match us, hl with | [_, _, _], _ => rfl⟩
abbrev st_need_width : Stmt := topS 19
theorem sc_need_width : FnScope ["width", "most"] ["width", "most"] (defScope st_need_width) := ⟨rfl, rfl, rfl, by decide +kernel, rfl, by decide +kernel, by decide +kernel⟩
def m_need_width : MS := mIf (mNotT (mTst (mCall g_is_whole (mCons (mVar 0) (mCons (mC (.int 0)) (mCons (mVar 1) (mR []))))))) (mRaise "InvalidWidth") (mNext)
def g_need_width (ds : List D) : R D := runD m_need_width 2 ds
theorem body_need_width {f : Addr} (fr : ∀ x ∈ frees, mg x = none) (c_is_whole : GF P w K mg base 1 "is_whole" ["value", "low", "high"] (spD K mg 3 g_is_whole)) (x_InvalidWidth : ∃ C, ExcK K mg "InvalidWidth" C) : Body P w K mg base ["width", "most"] "need_width" st_need_width f 1 none m_need_width := by
  intro cdv A outer s H E hr
  have tk : L2N.Takes (cxD P w K mg base ["width", "most"] "need_width" st_need_width f cdv A outer s H E) (wE none E).w := L2N.takes_of rfl rfl rfl rfl
  have po : PassesOwn (model P w) (cxD P w K mg base ["width", "most"] "need_width" st_need_width f cdv A outer s H E).A (cxD P w K mg base ["width", "most"] "need_width" st_need_width f cdv A outer s H E).env (cxD P w K mg base ["width", "most"] "need_width" st_need_width f cdv A outer s H E).xe := passes_of rfl
  exact (dss_one (ds_if (dt_not (dt_val (de_callG c_is_whole tk (hr.mono (by decide)) (da_cons (de_var 0) (da_cons de_int (da_cons (de_var 1) da_nil))) (lenac (lenac (lenac lena0)))))) (dss_one (let ⟨_, hx⟩ := x_InvalidWidth; ds_raise rfl tk hx.d rfl)) dss_nil))
theorem ok_need_width (F : FnX K mg "need_width" st_need_width) (fr : ∀ x ∈ frees, mg x = none) (c_is_whole : GF P w K mg base 1 "is_whole" ["value", "low", "high"] (spD K mg 3 g_is_whole)) (x_InvalidWidth : ∃ C, ExcK K mg "InvalidWidth" C) : GF P w K mg base 2 "need_width" ["width", "most"] (spD K mg 2 g_need_width) := by
  obtain ⟨f, fd, hm, F⟩ := F
  exact ⟨f, fd, fn_D F sc_need_width (by decide) (body_need_width fr c_is_whole x_InvalidWidth) (fun _ _ => .inr rfl), hm, F.kp, F.bindsN fun _ _ _ _ _ _ us hl => match us, hl with | [_, _], _ => rfl⟩
abbrev st_need_word : Stmt := topS 20
theorem sc_need_word : FnScope ["width", "word"] ["width", "word"] (defScope st_need_word) := ⟨rfl, rfl, rfl, by decide +kernel, rfl, by decide +kernel, by decide +kernel⟩
def m_need_word : MS := mIf (mNotT (mTst (mCall g_is_whole (mCons (mVar 1) (mCons (mC (.int 0)) (mCons (mBin dSub (mBin dShl (mC (.int 1)) (mPeek 0)) (mC (.int 1))) (mR []))))))) (mRaise "InvalidWord") (mNext)
def g_need_word (ds : List D) : R D := runD m_need_word 2 ds
theorem body_need_word {f : Addr} (fr : ∀ x ∈ frees, mg x = none) (c_is_whole : GF P w K mg base 1 "is_whole" ["value", "low", "high"] (spD K mg 3 g_is_whole)) (x_InvalidWord : ∃ C, ExcK K mg "InvalidWord" C) : Body P w K mg base ["width", "word"] "need_word" st_need_word f 1 none m_need_word := by
  intro cdv A outer s H E hr
  have tk : L2N.Takes (cxD P w K mg base ["width", "word"] "need_word" st_need_word f cdv A outer s H E) (wE none E).w := L2N.takes_of rfl rfl rfl rfl
  have po : PassesOwn (model P w) (cxD P w K mg base ["width", "word"] "need_word" st_need_word f cdv A outer s H E).A (cxD P w K mg base ["width", "word"] "need_word" st_need_word f cdv A outer s H E).env (cxD P w K mg base ["width", "word"] "need_word" st_need_word f cdv A outer s H E).xe := passes_of rfl
  exact (dss_one (ds_if (dt_not (dt_val (de_callG c_is_whole tk (hr.mono (by decide)) (da_cons (de_var 1) (da_cons de_int (da_cons (de_bin o_sub (de_bin o_shl de_int (dp_var 0)) (dp_of de_int)) da_nil))) (lenac (lenac (lenac lena0)))))) (dss_one (let ⟨_, hx⟩ := x_InvalidWord; ds_raise rfl tk hx.d rfl)) dss_nil))
theorem ok_need_word (F : FnX K mg "need_word" st_need_word) (fr : ∀ x ∈ frees, mg x = none) (c_is_whole : GF P w K mg base 1 "is_whole" ["value", "low", "high"] (spD K mg 3 g_is_whole)) (x_InvalidWord : ∃ C, ExcK K mg "InvalidWord" C) : GF P w K mg base 2 "need_word" ["width", "word"] (spD K mg 2 g_need_word) := by
  obtain ⟨f, fd, hm, F⟩ := F
  exact ⟨f, fd, fn_D F sc_need_word (by decide) (body_need_word fr c_is_whole x_InvalidWord) (fun _ _ => .inr rfl), hm, F.kp, F.bindsN fun _ _ _ _ _ _ us hl => match us, hl with | [_, _], _ => rfl⟩
abbrev st_is_good_poly : Stmt := topS 24
theorem sc_is_good_poly : FnScope ["value", "part"] ["value"] (defScope st_is_good_poly) := ⟨rfl, rfl, rfl, by decide +kernel, rfl, by decide +kernel, by decide +kernel⟩
def m_is_good_poly : MS := mSeq (mIf (mOrT (mNotT (mTst (mFn (dIsi "tuple") (mPeek 0)))) (mNotT (mChain bLe bLe (mC (.int 1)) (mFn dLen (mPeek 0)) (mC (.int 6))))) (mRet (mC (.bl false))) (mNext)) (mRet (mFn dAll (mLst (mComp [1] (mSrc (mVar 0)) (put 1) (mR true) (mCall g_is_whole (mCons (mVar 1) (mCons (mUn (fun i => -i) (mC (.int 1000000))) (mCons (mC (.int 1000000)) (mR [])))))))))
def g_is_good_poly (ds : List D) : R D := runD m_is_good_poly 2 ds
theorem body_is_good_poly {f : Addr} (fr : ∀ x ∈ frees, mg x = none) (c_is_whole : GF P w K mg base 1 "is_whole" ["value", "low", "high"] (spD K mg 3 g_is_whole)) (i_MOST_PARTS : ∃ t, mg "MOST_PARTS" = some (.int 6 t)) (i_FAR : ∃ t, mg "FAR" = some (.int 1000000 t)) : Body P w K mg base ["value", "part"] "is_good_poly" st_is_good_poly f 1 none m_is_good_poly := by
  intro cdv A outer s H E hr
  have tk : L2N.Takes (cxD P w K mg base ["value", "part"] "is_good_poly" st_is_good_poly f cdv A outer s H E) (wE none E).w := L2N.takes_of rfl rfl rfl rfl
  have po : PassesOwn (model P w) (cxD P w K mg base ["value", "part"] "is_good_poly" st_is_good_poly f cdv A outer s H E).A (cxD P w K mg base ["value", "part"] "is_good_poly" st_is_good_poly f cdv A outer s H E).env (cxD P w K mg base ["value", "part"] "is_good_poly" st_is_good_poly f cdv A outer s H E).xe := passes_of rfl
  exact (dss_cons (ds_if (dt_of (dw_or (dt_not (dt_val (de_isi rfl (fr "isinstance" (by decide)) rfl (fr "tuple" (by decide)) (by decide +kernel) (dp_var 0)))) (dw_or1 (dt_not (dt_chain o_le o_le de_int (de_b1 c_len rfl (fr "len" (by decide)) boot_len (dp_var 0)) (de_globE rfl i_MOST_PARTS)))))) (dss_one (ds_ret de_bl)) dss_nil) (dss_one (ds_ret (de_b1 (c_all rfl) rfl (fr "all" (by decide)) (by decide +kernel) (dp_of (de_of (df_comp1 [("part", 1)] 1 rfl sc_is_good_poly.nd (di_seq (de_var 0)) (blkOk_by (by rfl)) (fun s H C cl fp => pg_name sc_is_good_poly.nd rfl (by first | exact .inl rfl | exact .inr rfl) (by first | exact .inl rfl | exact .inr rfl)) (by decide) (fun s H C cl fp => dts_nil) (fun s H C cl fp => (de_callG c_is_whole takes0N (hr.mono (by decide)) (da_cons (de_var 1) (da_cons (de_un un_neg (de_globE rfl i_FAR)) (da_cons (de_globE rfl i_FAR) da_nil))) (lenac (lenac (lenac lena0))))))))))))
theorem ok_is_good_poly (F : FnX K mg "is_good_poly" st_is_good_poly) (fr : ∀ x ∈ frees, mg x = none) (c_is_whole : GF P w K mg base 1 "is_whole" ["value", "low", "high"] (spD K mg 3 g_is_whole)) (i_MOST_PARTS : ∃ t, mg "MOST_PARTS" = some (.int 6 t)) (i_FAR : ∃ t, mg "FAR" = some (.int 1000000 t)) : GF P w K mg base 2 "is_good_poly" ["value"] (spD K mg 1 g_is_good_poly) := by
  obtain ⟨f, fd, hm, F⟩ := F
  exact ⟨f, fd, fn_D F sc_is_good_poly (by decide) (body_is_good_poly fr c_is_whole i_MOST_PARTS i_FAR) (fun _ _ => .inr rfl), hm, F.kp, F.bindsN fun _ _ _ _ _ _ us hl => match us, hl with | [_], _ => rfl⟩
abbrev st_need_poly : Stmt := topS 25
theorem sc_need_poly : FnScope ["poly"] ["poly"] (defScope st_need_poly) := ⟨rfl, rfl, rfl, by decide +kernel, rfl, by decide +kernel, by decide +kernel⟩
def m_need_poly : MS := mIf (mNotT (mTst (mCall g_is_good_poly (mCons (mVar 0) (mR []))))) (mRaise "InvalidPoly") (mNext)
def g_need_poly (ds : List D) : R D := runD m_need_poly 1 ds
theorem body_need_poly {f : Addr} (fr : ∀ x ∈ frees, mg x = none) (c_is_good_poly : GF P w K mg base 2 "is_good_poly" ["value"] (spD K mg 1 g_is_good_poly)) (x_InvalidPoly : ∃ C, ExcK K mg "InvalidPoly" C) : Body P w K mg base ["poly"] "need_poly" st_need_poly f 2 none m_need_poly := by
  intro cdv A outer s H E hr
  have tk : L2N.Takes (cxD P w K mg base ["poly"] "need_poly" st_need_poly f cdv A outer s H E) (wE none E).w := L2N.takes_of rfl rfl rfl rfl
  have po : PassesOwn (model P w) (cxD P w K mg base ["poly"] "need_poly" st_need_poly f cdv A outer s H E).A (cxD P w K mg base ["poly"] "need_poly" st_need_poly f cdv A outer s H E).env (cxD P w K mg base ["poly"] "need_poly" st_need_poly f cdv A outer s H E).xe := passes_of rfl
  exact (dss_one (ds_if (dt_not (dt_val (de_callG c_is_good_poly tk (hr.mono (by decide)) (da_cons (de_var 0) da_nil) (lenac lena0)))) (dss_one (let ⟨_, hx⟩ := x_InvalidPoly; ds_raise rfl tk hx.d rfl)) dss_nil))
theorem ok_need_poly (F : FnX K mg "need_poly" st_need_poly) (fr : ∀ x ∈ frees, mg x = none) (c_is_good_poly : GF P w K mg base 2 "is_good_poly" ["value"] (spD K mg 1 g_is_good_poly)) (x_InvalidPoly : ∃ C, ExcK K mg "InvalidPoly" C) : GF P w K mg base 3 "need_poly" ["poly"] (spD K mg 1 g_need_poly) := by
  obtain ⟨f, fd, hm, F⟩ := F
  exact ⟨f, fd, fn_D F sc_need_poly (by decide) (body_need_poly fr c_is_good_poly x_InvalidPoly) (fun _ _ => .inr rfl), hm, F.kp, F.bindsN fun _ _ _ _ _ _ us hl => match us, hl with | [_], _ => rfl⟩
abbrev st_made_by : Stmt := topS 26
theorem sc_made_by : FnScope ["poly", "width", "word", "found", "part"] ["poly", "width", "word"] (defScope st_made_by) := ⟨rfl, rfl, rfl, by decide +kernel, rfl, by decide +kernel, by decide +kernel⟩
def m_made_by : MS := mSeq (mSet 3 (mC (.int 0))) (mSeq (mFor (mSrc (mRevT (mVar 0))) (put 4) (mSet 3 (mBin dAdd (mBin dMul (mVar 3) (mPeek 2)) (mPeek 4)))) (mRet (mBin dMod (mVar 3) (mBin dShl (mC (.int 1)) (mPeek 1)))))
def g_made_by (ds : List D) : R D := runD m_made_by 5 ds
theorem body_made_by {f : Addr} (fr : ∀ x ∈ frees, mg x = none)  : Body P w K mg base ["poly", "width", "word", "found", "part"] "made_by" st_made_by f 0 none m_made_by := by
  intro cdv A outer s H E hr
  have tk : L2N.Takes (cxD P w K mg base ["poly", "width", "word", "found", "part"] "made_by" st_made_by f cdv A outer s H E) (wE none E).w := L2N.takes_of rfl rfl rfl rfl
  have po : PassesOwn (model P w) (cxD P w K mg base ["poly", "width", "word", "found", "part"] "made_by" st_made_by f cdv A outer s H E).A (cxD P w K mg base ["poly", "width", "word", "found", "part"] "made_by" st_made_by f cdv A outer s H E).env (cxD P w K mg base ["poly", "width", "word", "found", "part"] "made_by" st_made_by f cdv A outer s H E).xe := passes_of rfl
  exact (dss_cons (ds_set 3 sc_made_by.nd de_int) (dss_cons (ds_for po rfl (di_seq (de_revT (de_var 0))) (dg_name 4 sc_made_by.nd) (dss_one (ds_set 3 sc_made_by.nd (de_bin o_add (de_bin o_mul (de_var 3) (dp_var 2)) (dp_var 4))))) (dss_one (ds_ret (de_bin o_mod (de_var 3) (dp_of (de_bin o_shl de_int (dp_var 1))))))))
theorem ok_made_by (F : FnX K mg "made_by" st_made_by) (fr : ∀ x ∈ frees, mg x = none)  : GF P w K mg base 1 "made_by" ["poly", "width", "word"] (spD K mg 3 g_made_by) := by
  obtain ⟨f, fd, hm, F⟩ := F
  exact ⟨f, fd, fn_D F sc_made_by (by decide) (body_made_by fr ) (fun _ _ => .inr rfl), hm, F.kp, F.bindsN fun _ _ _ _ _ _ us hl => match us, hl with | [_, _, _], _ => rfl⟩
abbrev st_is_poly : Stmt := topS 27
theorem sc_is_poly : FnScope ["value"] ["value"] (defScope st_is_poly) := ⟨rfl, rfl, rfl, by decide +kernel, rfl, by decide +kernel, by decide +kernel⟩
def m_is_poly : MS := mRet (mCall g_is_good_poly (mCons (mVar 0) (mR [])))
def g_is_poly (ds : List D) : R D := runD m_is_poly 1 ds
theorem body_is_poly {f : Addr} (fr : ∀ x ∈ frees, mg x = none) (c_is_good_poly : GF P w K mg base 2 "is_good_poly" ["value"] (spD K mg 1 g_is_good_poly)) : Body P w K mg base ["value"] "is_poly" st_is_poly f 2 none m_is_poly := by
  intro cdv A outer s H E hr
  have tk : L2N.Takes (cxD P w K mg base ["value"] "is_poly" st_is_poly f cdv A outer s H E) (wE none E).w := L2N.takes_of rfl rfl rfl rfl
  have po : PassesOwn (model P w) (cxD P w K mg base ["value"] "is_poly" st_is_poly f cdv A outer s H E).A (cxD P w K mg base ["value"] "is_poly" st_is_poly f cdv A outer s H E).env (cxD P w K mg base ["value"] "is_poly" st_is_poly f cdv A outer s H E).xe := passes_of rfl
  exact (dss_one (ds_ret (de_callG c_is_good_poly tk (hr.mono (by decide)) (da_cons (de_var 0) da_nil) (lenac lena0))))
theorem ok_is_poly (F : FnX K mg "is_poly" st_is_poly) (fr : ∀ x ∈ frees, mg x = none) (c_is_good_poly : GF P w K mg base 2 "is_good_poly" ["value"] (spD K mg 1 g_is_good_poly)) : GF P w K mg base 3 "is_poly" ["value"] (spD K mg 1 g_is_poly) := by
  obtain ⟨f, fd, hm, F⟩ := F
  exact ⟨f, fd, fn_D F sc_is_poly (by decide) (body_is_poly fr c_is_good_poly) (fun _ _ => .inr rfl), hm, F.kp, F.bindsN fun _ _ _ _ _ _ us hl => match us, hl with | [_], _ => rfl⟩
abbrev st_poly_comes : Stmt := topS 28
theorem sc_poly_comes : FnScope ["poly", "width", "word"] ["poly", "width", "word"] (defScope st_poly_comes) := ⟨rfl, rfl, rfl, by decide +kernel, rfl, by decide +kernel, by decide +kernel⟩
def m_poly_comes : MS := mSeq (mDrop (mCall g_need_poly (mCons (mVar 0) (mR [])))) (mSeq (mDrop (mCall g_need_width (mCons (mVar 1) (mCons (mC (.int 64)) (mR []))))) (mSeq (mDrop (mCall g_need_word (mCons (mVar 1) (mCons (mVar 2) (mR []))))) (mRet (mCall g_made_by (mCons (mVar 0) (mCons (mVar 1) (mCons (mVar 2) (mR []))))))))
def g_poly_comes (ds : List D) : R D := runD m_poly_comes 3 ds
theorem body_poly_comes {f : Addr} (fr : ∀ x ∈ frees, mg x = none) (c_need_poly : GF P w K mg base 3 "need_poly" ["poly"] (spD K mg 1 g_need_poly)) (c_need_width : GF P w K mg base 2 "need_width" ["width", "most"] (spD K mg 2 g_need_width)) (c_need_word : GF P w K mg base 2 "need_word" ["width", "word"] (spD K mg 2 g_need_word)) (c_made_by : GF P w K mg base 1 "made_by" ["poly", "width", "word"] (spD K mg 3 g_made_by)) (i_FAR_WIDTH : ∃ t, mg "FAR_WIDTH" = some (.int 64 t)) : Body P w K mg base ["poly", "width", "word"] "poly_comes" st_poly_comes f 3 none m_poly_comes := by
  intro cdv A outer s H E hr
  have tk : L2N.Takes (cxD P w K mg base ["poly", "width", "word"] "poly_comes" st_poly_comes f cdv A outer s H E) (wE none E).w := L2N.takes_of rfl rfl rfl rfl
  have po : PassesOwn (model P w) (cxD P w K mg base ["poly", "width", "word"] "poly_comes" st_poly_comes f cdv A outer s H E).A (cxD P w K mg base ["poly", "width", "word"] "poly_comes" st_poly_comes f cdv A outer s H E).env (cxD P w K mg base ["poly", "width", "word"] "poly_comes" st_poly_comes f cdv A outer s H E).xe := passes_of rfl
  exact (dss_cons (ds_expr (de_callG c_need_poly tk (hr.mono (by decide)) (da_cons (de_var 0) da_nil) (lenac lena0))) (dss_cons (ds_expr (de_callG c_need_width tk (hr.mono (by decide)) (da_cons (de_var 1) (da_cons (de_globE rfl i_FAR_WIDTH) da_nil)) (lenac (lenac lena0)))) (dss_cons (ds_expr (de_callG c_need_word tk (hr.mono (by decide)) (da_cons (de_var 1) (da_cons (de_var 2) da_nil)) (lenac (lenac lena0)))) (dss_one (ds_ret (de_callG c_made_by tk (hr.mono (by decide)) (da_cons (de_var 0) (da_cons (de_var 1) (da_cons (de_var 2) da_nil))) (lenac (lenac (lenac lena0)))))))))
theorem ok_poly_comes (F : FnX K mg "poly_comes" st_poly_comes) (fr : ∀ x ∈ frees, mg x = none) (c_need_poly : GF P w K mg base 3 "need_poly" ["poly"] (spD K mg 1 g_need_poly)) (c_need_width : GF P w K mg base 2 "need_width" ["width", "most"] (spD K mg 2 g_need_width)) (c_need_word : GF P w K mg base 2 "need_word" ["width", "word"] (spD K mg 2 g_need_word)) (c_made_by : GF P w K mg base 1 "made_by" ["poly", "width", "word"] (spD K mg 3 g_made_by)) (i_FAR_WIDTH : ∃ t, mg "FAR_WIDTH" = some (.int 64 t)) : GF P w K mg base 4 "poly_comes" ["poly", "width", "word"] (spD K mg 3 g_poly_comes) := by
  obtain ⟨f, fd, hm, F⟩ := F
  exact ⟨f, fd, fn_D F sc_poly_comes (by decide) (body_poly_comes fr c_need_poly c_need_width c_need_word c_made_by i_FAR_WIDTH) (fun _ _ => .inr rfl), hm, F.kp, F.bindsN fun _ _ _ _ _ _ us hl => match us, hl with | [_, _, _], _ => rfl⟩
abbrev st_poly_one_to_one : Stmt := topS 29
theorem sc_poly_one_to_one : FnScope ["poly", "word"] ["poly"] (defScope st_poly_one_to_one) := ⟨rfl, rfl, rfl, by decide +kernel, rfl, by decide +kernel, by decide +kernel⟩
def m_poly_one_to_one : MS := mSeq (mDrop (mCall g_need_poly (mCons (mVar 0) (mR [])))) (mRet (mCmpV bEq (mFn dLenSet (mLst (mComp [1] (mRng1 (mC (.int 4))) (put 1) (mR true) (mCall g_made_by (mCons (mVar 0) (mCons (mC (.int 2)) (mCons (mVar 1) (mR [])))))))) (mC (.int 4))))
def g_poly_one_to_one (ds : List D) : R D := runD m_poly_one_to_one 2 ds
theorem body_poly_one_to_one {f : Addr} (fr : ∀ x ∈ frees, mg x = none) (c_need_poly : GF P w K mg base 3 "need_poly" ["poly"] (spD K mg 1 g_need_poly)) (c_made_by : GF P w K mg base 1 "made_by" ["poly", "width", "word"] (spD K mg 3 g_made_by)) : Body P w K mg base ["poly", "word"] "poly_one_to_one" st_poly_one_to_one f 3 none m_poly_one_to_one := by
  intro cdv A outer s H E hr
  have tk : L2N.Takes (cxD P w K mg base ["poly", "word"] "poly_one_to_one" st_poly_one_to_one f cdv A outer s H E) (wE none E).w := L2N.takes_of rfl rfl rfl rfl
  have po : PassesOwn (model P w) (cxD P w K mg base ["poly", "word"] "poly_one_to_one" st_poly_one_to_one f cdv A outer s H E).A (cxD P w K mg base ["poly", "word"] "poly_one_to_one" st_poly_one_to_one f cdv A outer s H E).env (cxD P w K mg base ["poly", "word"] "poly_one_to_one" st_poly_one_to_one f cdv A outer s H E).xe := passes_of rfl
  exact (dss_cons (ds_expr (de_callG c_need_poly tk (hr.mono (by decide)) (da_cons (de_var 0) da_nil) (lenac lena0))) (dss_one (ds_ret (de_cmp (o_eq hr.units) (dp_of (de_lenSet rfl rfl (fr "len" (by decide)) rfl (fr "set" (by decide)) (dp_of (de_of (df_comp1 [("word", 1)] 1 rfl sc_poly_one_to_one.nd (di_range1 rfl (fr "range" (by decide)) de_int) (blkOk_by (by rfl)) (fun s H C cl fp => pg_name sc_poly_one_to_one.nd rfl (by first | exact .inl rfl | exact .inr rfl) (by first | exact .inl rfl | exact .inr rfl)) (by decide) (fun s H C cl fp => dts_nil) (fun s H C cl fp => (de_callG c_made_by takes0N (hr.mono (by decide)) (da_cons (de_var 0) (da_cons de_int (da_cons (de_var 1) da_nil))) (lenac (lenac (lenac lena0)))))))))) (dp_of de_int)))))
theorem ok_poly_one_to_one (F : FnX K mg "poly_one_to_one" st_poly_one_to_one) (fr : ∀ x ∈ frees, mg x = none) (c_need_poly : GF P w K mg base 3 "need_poly" ["poly"] (spD K mg 1 g_need_poly)) (c_made_by : GF P w K mg base 1 "made_by" ["poly", "width", "word"] (spD K mg 3 g_made_by)) : GF P w K mg base 4 "poly_one_to_one" ["poly"] (spD K mg 1 g_poly_one_to_one) := by
  obtain ⟨f, fd, hm, F⟩ := F
  exact ⟨f, fd, fn_D F sc_poly_one_to_one (by decide) (body_poly_one_to_one fr c_need_poly c_made_by) (fun _ _ => .inr rfl), hm, F.kp, F.bindsN fun _ _ _ _ _ _ us hl => match us, hl with | [_], _ => rfl⟩
abbrev st_poly_all_words : Stmt := topS 30
theorem sc_poly_all_words : FnScope ["poly", "here", "met"] ["poly"] (defScope st_poly_all_words) := ⟨rfl, rfl, rfl, by decide +kernel, rfl, by decide +kernel, by decide +kernel⟩
def m_poly_all_words : MS := mSeq (mDrop (mCall g_need_poly (mCons (mVar 0) (mR [])))) (mSeq (mParO 1 2 (mC (.int 0)) (mR [])) (mSeq (mWh (fun _ => 20) (mCmp bNotIn (mPeek 1) (mPeek 2)) (mSeq (mApp 2 (mVar 1)) (mSet 1 (mCall g_made_by (mCons (mVar 0) (mCons (mC (.int 3)) (mCons (mVar 1) (mR [])))))))) (mRet (mCmpV bEq (mFn dLen (mPeek 2)) (mC (.int 8))))))
def g_poly_all_words (ds : List D) : R D := runD m_poly_all_words 3 ds
theorem body_poly_all_words {f : Addr} (fr : ∀ x ∈ frees, mg x = none) (c_need_poly : GF P w K mg base 3 "need_poly" ["poly"] (spD K mg 1 g_need_poly)) (c_made_by : GF P w K mg base 1 "made_by" ["poly", "width", "word"] (spD K mg 3 g_made_by)) : Body P w K mg base ["poly", "here", "met"] "poly_all_words" st_poly_all_words f 3 none m_poly_all_words := by
  intro cdv A outer s H E hr
  have tk : L2N.Takes (cxD P w K mg base ["poly", "here", "met"] "poly_all_words" st_poly_all_words f cdv A outer s H E) (wE none E).w := L2N.takes_of rfl rfl rfl rfl
  have po : PassesOwn (model P w) (cxD P w K mg base ["poly", "here", "met"] "poly_all_words" st_poly_all_words f cdv A outer s H E).A (cxD P w K mg base ["poly", "here", "met"] "poly_all_words" st_poly_all_words f cdv A outer s H E).env (cxD P w K mg base ["poly", "here", "met"] "poly_all_words" st_poly_all_words f cdv A outer s H E).xe := passes_of rfl
  exact (dss_cons (ds_expr (de_callG c_need_poly tk (hr.mono (by decide)) (da_cons (de_var 0) da_nil) (lenac lena0))) (dss_cons (ds_parO 1 2 rfl sc_poly_all_words.nd de_int (df_lst da_nil lena0)) (dss_cons (ds_while (fun _ => 20) po (dt_cmp o_notIn (dp_var 1) (dp_var 2)) (dss_cons (ds_append 2 (de_var 1)) (dss_one (ds_set 1 sc_poly_all_words.nd (de_callG c_made_by tk (hr.mono (by decide)) (da_cons (de_var 0) (da_cons de_int (da_cons (de_var 1) da_nil))) (lenac (lenac (lenac lena0)))))))) (dss_one (ds_ret (de_cmp (o_eq hr.units) (dp_of (de_b1 c_len rfl (fr "len" (by decide)) boot_len (dp_var 2))) (dp_of de_int)))))))
theorem ok_poly_all_words (F : FnX K mg "poly_all_words" st_poly_all_words) (fr : ∀ x ∈ frees, mg x = none) (c_need_poly : GF P w K mg base 3 "need_poly" ["poly"] (spD K mg 1 g_need_poly)) (c_made_by : GF P w K mg base 1 "made_by" ["poly", "width", "word"] (spD K mg 3 g_made_by)) : GF P w K mg base 4 "poly_all_words" ["poly"] (spD K mg 1 g_poly_all_words) := by
  obtain ⟨f, fd, hm, F⟩ := F
  exact ⟨f, fd, fn_D F sc_poly_all_words (by decide) (body_poly_all_words fr c_need_poly c_made_by) (fun _ _ => .inr rfl), hm, F.kp, F.bindsN fun _ _ _ _ _ _ us hl => match us, hl with | [_], _ => rfl⟩
abbrev st__law_vat : Stmt := topS 32
theorem sc__law_vat : FnScope ["script", "k", "cell"] ["script", "k"] (defScope st__law_vat) := ⟨rfl, rfl, rfl, by decide +kernel, rfl, by decide +kernel, by decide +kernel⟩
def m__law_vat : MS := mSeq (mSet 2 (mBin dAdd (mBin dMul (mC (.int 7919)) (mPeek 1)) (mC (.int 43)))) (mSeq (mIf (mCmp bLt (mPeek 1) (mFn dLen (mPeek 0))) (mSet 2 (mFn dAbs (mFn dInt (mBin dIx (mPeek 0) (mVar 1))))) (mNext)) (mRetF (mCons (mIfE (mCmp bGe (mPeek 2) (mBin dPow (mC (.int 10)) (mC (.int 18)))) (mVar 2) (mC (.int 0))) (mCons (mBin dAdd (mBin dMod (mFn dInt (mBin dAdd (mBin dAdd (mBin dMul (mVar 2) (mC (.int 131071))) (mBin dMul (mC (.int 8191)) (mPeek 1))) (mC (.int 5)))) (mC (.int 2147483629))) (mC (.int 1))) (mR [])))))
def g__law_vat (ds : List D) : R (List D) := runF m__law_vat 3 ds
theorem body__law_vat {f : Addr} (fr : ∀ x ∈ frees, mg x = none)  : Body P w K mg base ["script", "k", "cell"] "_law_vat" st__law_vat f 0 none m__law_vat := by
  intro cdv A outer s H E hr
  have tk : L2N.Takes (cxD P w K mg base ["script", "k", "cell"] "_law_vat" st__law_vat f cdv A outer s H E) (wE none E).w := L2N.takes_of rfl rfl rfl rfl
  have po : PassesOwn (model P w) (cxD P w K mg base ["script", "k", "cell"] "_law_vat" st__law_vat f cdv A outer s H E).A (cxD P w K mg base ["script", "k", "cell"] "_law_vat" st__law_vat f cdv A outer s H E).env (cxD P w K mg base ["script", "k", "cell"] "_law_vat" st__law_vat f cdv A outer s H E).xe := passes_of rfl
  exact (dss_cons (ds_set 2 sc__law_vat.nd (de_bin o_add (de_bin o_mul de_int (dp_var 1)) (dp_of de_int))) (dss_cons (ds_if (dt_cmp o_lt (dp_var 1) (dp_of (de_b1 c_len rfl (fr "len" (by decide)) boot_len (dp_var 0)))) (dss_one (ds_set 2 sc__law_vat.nd (de_b1 c_abs rfl (fr "abs" (by decide)) (by decide +kernel) (dp_of (de_t1 c_int rfl (fr "int" (by decide)) (by decide +kernel) (dp_of (de_ix (dp_var 0) (de_var 1)))))))) dss_nil) (dss_one (ds_retF (df_lst (da_cons (de_if (dt_cmp o_ge (dp_var 2) (dp_of (de_bin o_pow de_int (dp_of de_int)))) (de_var 2) de_int) (da_cons (de_bin o_add (de_bin o_mod (de_t1 c_int rfl (fr "int" (by decide)) (by decide +kernel) (dp_of (de_bin o_add (de_bin o_add (de_bin o_mul (de_var 2) (dp_of de_int)) (dp_of (de_bin o_mul de_int (dp_var 1)))) (dp_of de_int)))) (dp_of de_int)) (dp_of de_int)) da_nil)) (lenac (lenac lena0)))))))
theorem ok__law_vat (F : FnX K mg "_law_vat" st__law_vat) (fr : ∀ x ∈ frees, mg x = none)  : GF P w K mg base 1 "_law_vat" ["script", "k"] (spF K mg 2 g__law_vat) := by
  obtain ⟨f, fd, hm, F⟩ := F
  exact ⟨f, fd, fn_F F sc__law_vat (by decide) (body__law_vat fr ) (fun _ _ => .inr rfl), hm, F.kp, F.bindsN fun _ _ _ _ _ _ us hl => match us, hl with | [_, _], _ => rfl⟩
abbrev st__law_under : Stmt := topS 33
theorem sc__law_under : FnScope ["vat", "many", "found", "wide"] ["vat", "many"] (defScope st__law_under) := ⟨rfl, rfl, rfl, by decide +kernel, rfl, by decide +kernel, by decide +kernel⟩
def m__law_under : MS := mSeq (mIf (mCmp bGt (mBin dIx (mPeek 0) (mC (.int 0))) (mC (.int 0))) (mSeq (mSet 2 (mBin dMod (mFn dInt (mBin dIx (mPeek 0) (mC (.int 0)))) (mPeek 1))) (mSeq (mPutIx 0 (mBin dDiv (mBin dIx (mPeek 0) (mC (.int 0))) (mPeek 1)) (mC (.int 0))) (mRet (mVar 2)))) (mNext)) (mSeq (mPutIx 0 (mBin dMod (mFn dInt (mBin dAdd (mBin dMul (mBin dIx (mPeek 0) (mC (.int 1))) (mC (.int 39373))) (mC (.int 101)))) (mC (.int 2147483629))) (mC (.int 1))) (mSeq (mSet 3 (mBin dMod (mFn dInt (mBin dMul (mBin dIx (mPeek 0) (mC (.int 1))) (mBin dAdd (mBin dDiv (mBin dIx (mPeek 0) (mC (.int 1))) (mC (.int 5))) (mC (.int 9))))) (mC (.int 2147483587)))) (mRet (mBin dMod (mFn dInt (mBin dDiv (mVar 3) (mC (.int 32)))) (mPeek 1)))))
def g__law_under (as ds : List D) : R (D × List D) := runM m__law_under 4 as ds
theorem body__law_under {f : Addr} (fr : ∀ x ∈ frees, mg x = none)  : Body P w K mg base ["vat", "many", "found", "wide"] "_law_under" st__law_under f 0 none m__law_under := by
  intro cdv A outer s H E hr
  have tk : L2N.Takes (cxD P w K mg base ["vat", "many", "found", "wide"] "_law_under" st__law_under f cdv A outer s H E) (wE none E).w := L2N.takes_of rfl rfl rfl rfl
  have po : PassesOwn (model P w) (cxD P w K mg base ["vat", "many", "found", "wide"] "_law_under" st__law_under f cdv A outer s H E).A (cxD P w K mg base ["vat", "many", "found", "wide"] "_law_under" st__law_under f cdv A outer s H E).env (cxD P w K mg base ["vat", "many", "found", "wide"] "_law_under" st__law_under f cdv A outer s H E).xe := passes_of rfl
  exact (dss_cons (ds_if (dt_cmp o_gt (dp_of (de_ix (dp_var 0) de_int)) (dp_of de_int)) (dss_cons (ds_set 2 sc__law_under.nd (de_bin o_mod (de_t1 c_int rfl (fr "int" (by decide)) (by decide +kernel) (dp_of (de_ix (dp_var 0) de_int))) (dp_var 1))) (dss_cons (ds_putIx 0 (de_bin o_div (de_ix (dp_var 0) de_int) (dp_var 1)) de_int) (dss_one (ds_ret (de_var 2))))) dss_nil) (dss_cons (ds_putIx 0 (de_bin o_mod (de_t1 c_int rfl (fr "int" (by decide)) (by decide +kernel) (dp_of (de_bin o_add (de_bin o_mul (de_ix (dp_var 0) de_int) (dp_of de_int)) (dp_of de_int)))) (dp_of de_int)) de_int) (dss_cons (ds_set 3 sc__law_under.nd (de_bin o_mod (de_t1 c_int rfl (fr "int" (by decide)) (by decide +kernel) (dp_of (de_bin o_mul (de_ix (dp_var 0) de_int) (dp_of (de_bin o_add (de_bin o_div (de_ix (dp_var 0) de_int) (dp_of de_int)) (dp_of de_int)))))) (dp_of de_int))) (dss_one (ds_ret (de_bin o_mod (de_t1 c_int rfl (fr "int" (by decide)) (by decide +kernel) (dp_of (de_bin o_div (de_var 3) (dp_of de_int)))) (dp_var 1)))))))
theorem ok__law_under (F : FnX K mg "_law_under" st__law_under) (fr : ∀ x ∈ frees, mg x = none)  : GF P w K mg base 1 "_law_under" ["vat", "many"] (spM K mg 2 g__law_under) := by
  obtain ⟨f, fd, hm, F⟩ := F
  exact ⟨f, fd, fn_M F sc__law_under (by decide) (body__law_under fr ) (fun _ _ _ => .inr rfl), hm, F.kp, F.bindsN fun _ _ _ _ _ _ us hl => match us, hl with | [_, _], _ => rfl⟩
abbrev st__law_truly : Stmt := topS 34
theorem sc__law_truly : FnScope ["found", "due"] ["found", "due"] (defScope st__law_truly) := ⟨rfl, rfl, rfl, by decide +kernel, rfl, by decide +kernel, by decide +kernel⟩
def m__law_truly : MS := mRet (mAndV (mFn (dIsi "bool") (mPeek 0)) (mCmpV bEq (mPeek 0) (mPeek 1)))
def g__law_truly (ds : List D) : R D := runD m__law_truly 2 ds
theorem body__law_truly {f : Addr} (fr : ∀ x ∈ frees, mg x = none)  : Body P w K mg base ["found", "due"] "_law_truly" st__law_truly f 0 none m__law_truly := by
  intro cdv A outer s H E hr
  have tk : L2N.Takes (cxD P w K mg base ["found", "due"] "_law_truly" st__law_truly f cdv A outer s H E) (wE none E).w := L2N.takes_of rfl rfl rfl rfl
  have po : PassesOwn (model P w) (cxD P w K mg base ["found", "due"] "_law_truly" st__law_truly f cdv A outer s H E).A (cxD P w K mg base ["found", "due"] "_law_truly" st__law_truly f cdv A outer s H E).env (cxD P w K mg base ["found", "due"] "_law_truly" st__law_truly f cdv A outer s H E).xe := passes_of rfl
  exact (dss_one (ds_ret (de_and (de_isi rfl (fr "isinstance" (by decide)) rfl (fr "bool" (by decide)) (by decide +kernel) (dp_var 0)) (de_one (de_cmp (o_eq hr.units) (dp_var 0) (dp_var 1))))))
theorem ok__law_truly (F : FnX K mg "_law_truly" st__law_truly) (fr : ∀ x ∈ frees, mg x = none)  : GF P w K mg base 1 "_law_truly" ["found", "due"] (spD K mg 2 g__law_truly) := by
  obtain ⟨f, fd, hm, F⟩ := F
  exact ⟨f, fd, fn_D F sc__law_truly (by decide) (body__law_truly fr ) (fun _ _ => .inr rfl), hm, F.kp, F.bindsN fun _ _ _ _ _ _ us hl => match us, hl with | [_, _], _ => rfl⟩
abbrev st__law_bad_widths : Stmt := topS 38
theorem sc__law_bad_widths : FnScope ["most"] ["most"] (defScope st__law_bad_widths) := ⟨rfl, rfl, rfl, by decide +kernel, rfl, by decide +kernel, by decide +kernel⟩
def m__law_bad_widths : MS := mRetF (mCons (mUn (fun i => -i) (mC (.int 1))) (mCons (mBin dAdd (mVar 0) (mC (.int 1))) (mCons (mC .non) (mCons (mC (.bl true)) (mCons (mC (.str "3")) (mR []))))))
def g__law_bad_widths (ds : List D) : R (List D) := runF m__law_bad_widths 1 ds
theorem body__law_bad_widths {f : Addr} (fr : ∀ x ∈ frees, mg x = none)  : Body P w K mg base ["most"] "_law_bad_widths" st__law_bad_widths f 0 none m__law_bad_widths := by
  intro cdv A outer s H E hr
  have tk : L2N.Takes (cxD P w K mg base ["most"] "_law_bad_widths" st__law_bad_widths f cdv A outer s H E) (wE none E).w := L2N.takes_of rfl rfl rfl rfl
  have po : PassesOwn (model P w) (cxD P w K mg base ["most"] "_law_bad_widths" st__law_bad_widths f cdv A outer s H E).A (cxD P w K mg base ["most"] "_law_bad_widths" st__law_bad_widths f cdv A outer s H E).env (cxD P w K mg base ["most"] "_law_bad_widths" st__law_bad_widths f cdv A outer s H E).xe := passes_of rfl
  exact (dss_one (ds_retF (df_lst (da_cons (de_un un_neg de_int) (da_cons (de_bin o_add (de_var 0) (dp_of de_int)) (da_cons de_non (da_cons de_bl (da_cons de_str da_nil))))) (lenac (lenac (lenac (lenac (lenac lena0))))))))
theorem ok__law_bad_widths (F : FnX K mg "_law_bad_widths" st__law_bad_widths) (fr : ∀ x ∈ frees, mg x = none)  : GF P w K mg base 1 "_law_bad_widths" ["most"] (spF K mg 1 g__law_bad_widths) := by
  obtain ⟨f, fd, hm, F⟩ := F
  exact ⟨f, fd, fn_F F sc__law_bad_widths (by decide) (body__law_bad_widths fr ) (fun _ _ => .inr rfl), hm, F.kp, F.bindsN fun _ _ _ _ _ _ us hl => match us, hl with | [_], _ => rfl⟩
abbrev st__law_bad_words : Stmt := topS 39
theorem sc__law_bad_words : FnScope ["width"] ["width"] (defScope st__law_bad_words) := ⟨rfl, rfl, rfl, by decide +kernel, rfl, by decide +kernel, by decide +kernel⟩
def m__law_bad_words : MS := mRetF (mCons (mUn (fun i => -i) (mC (.int 1))) (mCons (mBin dShl (mC (.int 1)) (mPeek 0)) (mCons (mC .non) (mCons (mC (.bl true)) (mCons (mC (.str "0")) (mCons (mB (mCons (mC (.int 0)) (mR [])) (fun ds => mR (.tup ds))) (mR [])))))))
def g__law_bad_words (ds : List D) : R (List D) := runF m__law_bad_words 1 ds
theorem body__law_bad_words {f : Addr} (fr : ∀ x ∈ frees, mg x = none)  : Body P w K mg base ["width"] "_law_bad_words" st__law_bad_words f 0 none m__law_bad_words := by
  intro cdv A outer s H E hr
  have tk : L2N.Takes (cxD P w K mg base ["width"] "_law_bad_words" st__law_bad_words f cdv A outer s H E) (wE none E).w := L2N.takes_of rfl rfl rfl rfl
  have po : PassesOwn (model P w) (cxD P w K mg base ["width"] "_law_bad_words" st__law_bad_words f cdv A outer s H E).A (cxD P w K mg base ["width"] "_law_bad_words" st__law_bad_words f cdv A outer s H E).env (cxD P w K mg base ["width"] "_law_bad_words" st__law_bad_words f cdv A outer s H E).xe := passes_of rfl
  exact (dss_one (ds_retF (df_lst (da_cons (de_un un_neg de_int) (da_cons (de_bin o_shl de_int (dp_var 0)) (da_cons de_non (da_cons de_bl (da_cons de_str (da_cons (de_tup (da_cons de_int da_nil) (lenac lena0)) da_nil)))))) (lenac (lenac (lenac (lenac (lenac (lenac lena0)))))))))
theorem ok__law_bad_words (F : FnX K mg "_law_bad_words" st__law_bad_words) (fr : ∀ x ∈ frees, mg x = none)  : GF P w K mg base 1 "_law_bad_words" ["width"] (spF K mg 1 g__law_bad_words) := by
  obtain ⟨f, fd, hm, F⟩ := F
  exact ⟨f, fd, fn_F F sc__law_bad_words (by decide) (body__law_bad_words fr ) (fun _ _ => .inr rfl), hm, F.kp, F.bindsN fun _ _ _ _ _ _ us hl => match us, hl with | [_], _ => rfl⟩
abbrev st__law_poly : Stmt := topS 40
theorem sc__law_poly : FnScope ["vat", "way", "size", "row", "at"] ["vat"] (defScope st__law_poly) := ⟨rfl, rfl, rfl, by decide +kernel, rfl, by decide +kernel, by decide +kernel⟩
def m__law_poly : MS := mSeq (mPar 1 2 (mCallM g__law_under 0 (mCons (mC (.int 3)) (mR []))) (mBin dAdd (mC (.int 1)) (mCallM g__law_under 0 (mCons (mC (.int 6)) (mR []))))) (mSeq (mSetO 3 (mComp [4] (mRng1 (mVar 2)) (put 4) (mR true) (mBin dSub (mCallM g__law_under 0 (mCons (mC (.int 33)) (mR []))) (mC (.int 16))))) (mSeq (mIf (mCmp bGt (mPeek 1) (mC (.int 0))) (mSeq (mSetO 3 (mComp [4] (mRng1 (mVar 2)) (put 4) (mR true) (mBin dMul (mBin dIx (mPeek 3) (mVar 4)) (mIfE (mCmp bGt (mPeek 4) (mC (.int 1))) (mC (.int 2)) (mC (.int 1)))))) (mIf (mCmp bGt (mPeek 2) (mC (.int 1))) (mPutIx 3 (mBin dAdd (mBin dMul (mC (.int 2)) (mCallM g__law_under 0 (mCons (mC (.int 8)) (mR [])))) (mC (.int 1))) (mC (.int 1))) (mNext))) (mNext)) (mSeq (mIf (mCmp bEq (mPeek 1) (mC (.int 2))) (mSeq (mSetO 3 (mComp [4] (mRng1 (mVar 2)) (put 4) (mR true) (mBin dMul (mBin dIx (mPeek 3) (mVar 4)) (mIfE (mCmp bGt (mPeek 4) (mC (.int 1))) (mC (.int 2)) (mC (.int 1)))))) (mSeq (mPutIx 3 (mBin dAdd (mBin dMul (mC (.int 2)) (mCallM g__law_under 0 (mCons (mC (.int 8)) (mR [])))) (mC (.int 1))) (mC (.int 0))) (mIf (mCmp bGt (mPeek 2) (mC (.int 1))) (mPutIx 3 (mBin dAdd (mBin dMul (mC (.int 4)) (mCallM g__law_under 0 (mCons (mC (.int 8)) (mR [])))) (mC (.int 1))) (mC (.int 1))) (mNext)))) (mNext)) (mRet (mFn dTuple (mPeek 3))))))
def g__law_poly (as ds : List D) : R (D × List D) := runM m__law_poly 5 as ds
theorem body__law_poly {f : Addr} (fr : ∀ x ∈ frees, mg x = none) (c__law_under : GF P w K mg base 1 "_law_under" ["vat", "many"] (spM K mg 2 g__law_under)) : Body P w K mg base ["vat", "way", "size", "row", "at"] "_law_poly" st__law_poly f 1 none m__law_poly := by
  intro cdv A outer s H E hr
  have tk : L2N.Takes (cxD P w K mg base ["vat", "way", "size", "row", "at"] "_law_poly" st__law_poly f cdv A outer s H E) (wE none E).w := L2N.takes_of rfl rfl rfl rfl
  have po : PassesOwn (model P w) (cxD P w K mg base ["vat", "way", "size", "row", "at"] "_law_poly" st__law_poly f cdv A outer s H E).A (cxD P w K mg base ["vat", "way", "size", "row", "at"] "_law_poly" st__law_poly f cdv A outer s H E).env (cxD P w K mg base ["vat", "way", "size", "row", "at"] "_law_poly" st__law_poly f cdv A outer s H E).xe := passes_of rfl
  exact (dss_cons (ds_par 1 2 rfl sc__law_poly.nd (de_callMG 0 c__law_under tk (hr.mono (by decide)) (da_cons de_int da_nil) (lenac lena0)) (de_bin o_add de_int (dp_of (de_callMG 0 c__law_under tk (hr.mono (by decide)) (da_cons de_int da_nil) (lenac lena0))))) (dss_cons (ds_setO 3 sc__law_poly.nd (df_comp1 [("at", 4)] 4 rfl sc__law_poly.nd (di_range1 rfl (fr "range" (by decide)) (de_var 2)) (blkOk_by (by rfl)) (fun s H C cl fp => pg_name sc__law_poly.nd rfl (by first | exact .inl rfl | exact .inr rfl) (by first | exact .inl rfl | exact .inr rfl)) (by decide) (fun s H C cl fp => dts_nil) (fun s H C cl fp => (de_bin o_sub (de_callMG 0 c__law_under takes0N (hr.mono (by decide)) (da_cons de_int da_nil) (lenac lena0)) (dp_of de_int))))) (dss_cons (ds_if (dt_cmp o_gt (dp_var 1) (dp_of de_int)) (dss_cons (ds_setO 3 sc__law_poly.nd (df_comp1 [("at", 4)] 4 rfl sc__law_poly.nd (di_range1 rfl (fr "range" (by decide)) (de_var 2)) (blkOk_by (by rfl)) (fun s H C cl fp => pg_name sc__law_poly.nd rfl (by first | exact .inl rfl | exact .inr rfl) (by first | exact .inl rfl | exact .inr rfl)) (by decide) (fun s H C cl fp => dts_nil) (fun s H C cl fp => (de_bin o_mul (de_ix (dp_var 3) (de_var 4)) (dp_of (de_if (dt_cmp o_gt (dp_var 4) (dp_of de_int)) de_int de_int)))))) (dss_one (ds_if (dt_cmp o_gt (dp_var 2) (dp_of de_int)) (dss_one (ds_putIx 3 (de_bin o_add (de_bin o_mul de_int (dp_of (de_callMG 0 c__law_under tk (hr.mono (by decide)) (da_cons de_int da_nil) (lenac lena0)))) (dp_of de_int)) de_int)) dss_nil))) dss_nil) (dss_cons (ds_if (dt_cmp (o_eq hr.units) (dp_var 1) (dp_of de_int)) (dss_cons (ds_setO 3 sc__law_poly.nd (df_comp1 [("at", 4)] 4 rfl sc__law_poly.nd (di_range1 rfl (fr "range" (by decide)) (de_var 2)) (blkOk_by (by rfl)) (fun s H C cl fp => pg_name sc__law_poly.nd rfl (by first | exact .inl rfl | exact .inr rfl) (by first | exact .inl rfl | exact .inr rfl)) (by decide) (fun s H C cl fp => dts_nil) (fun s H C cl fp => (de_bin o_mul (de_ix (dp_var 3) (de_var 4)) (dp_of (de_if (dt_cmp o_gt (dp_var 4) (dp_of de_int)) de_int de_int)))))) (dss_cons (ds_putIx 3 (de_bin o_add (de_bin o_mul de_int (dp_of (de_callMG 0 c__law_under tk (hr.mono (by decide)) (da_cons de_int da_nil) (lenac lena0)))) (dp_of de_int)) de_int) (dss_one (ds_if (dt_cmp o_gt (dp_var 2) (dp_of de_int)) (dss_one (ds_putIx 3 (de_bin o_add (de_bin o_mul de_int (dp_of (de_callMG 0 c__law_under tk (hr.mono (by decide)) (da_cons de_int da_nil) (lenac lena0)))) (dp_of de_int)) de_int)) dss_nil)))) dss_nil) (dss_one (ds_ret (de_t1 c_tuple rfl (fr "tuple" (by decide)) (by decide +kernel) (dp_var 3))))))))
theorem ok__law_poly (F : FnX K mg "_law_poly" st__law_poly) (fr : ∀ x ∈ frees, mg x = none) (c__law_under : GF P w K mg base 1 "_law_under" ["vat", "many"] (spM K mg 2 g__law_under)) : GF P w K mg base 2 "_law_poly" ["vat"] (spM K mg 1 g__law_poly) := by
  obtain ⟨f, fd, hm, F⟩ := F
  exact ⟨f, fd, fn_M F sc__law_poly (by decide) (body__law_poly fr c__law_under) (fun _ _ _ => .inr rfl), hm, F.kp, F.bindsN fun _ _ _ _ _ _ us hl => match us, hl with | [_], _ => rfl⟩
abbrev st__law_made : Stmt := topS 41
theorem sc__law_made : FnScope ["poly_so", "width", "word", "total", "power", "part"] ["poly_so", "width", "word"] (defScope st__law_made) := ⟨rfl, rfl, rfl, by decide +kernel, rfl, by decide +kernel, by decide +kernel⟩
def m__law_made : MS := mSeq (mAsg (putTup 2 (putCons (put 3) (putCons (put 4) (putNil)))) (mB (mCons (mC (.int 0)) (mCons (mC (.int 1)) (mR []))) (fun ds => mR (.tup ds)))) (mSeq (mFor (mSrc (mVar 0)) (put 5) (mPar 3 4 (mBin dAdd (mVar 3) (mBin dMul (mVar 5) (mPeek 4))) (mBin dMul (mVar 4) (mPeek 2)))) (mRet (mBin dMod (mVar 3) (mBin dShl (mC (.int 1)) (mPeek 1)))))
def g__law_made (ds : List D) : R D := runD m__law_made 6 ds
theorem body__law_made {f : Addr} (fr : ∀ x ∈ frees, mg x = none)  : Body P w K mg base ["poly_so", "width", "word", "total", "power", "part"] "_law_made" st__law_made f 0 none m__law_made := by
  intro cdv A outer s H E hr
  have tk : L2N.Takes (cxD P w K mg base ["poly_so", "width", "word", "total", "power", "part"] "_law_made" st__law_made f cdv A outer s H E) (wE none E).w := L2N.takes_of rfl rfl rfl rfl
  have po : PassesOwn (model P w) (cxD P w K mg base ["poly_so", "width", "word", "total", "power", "part"] "_law_made" st__law_made f cdv A outer s H E).A (cxD P w K mg base ["poly_so", "width", "word", "total", "power", "part"] "_law_made" st__law_made f cdv A outer s H E).env (cxD P w K mg base ["poly_so", "width", "word", "total", "power", "part"] "_law_made" st__law_made f cdv A outer s H E).xe := passes_of rfl
  exact (dss_cons (ds_asg (dg_tup rfl (dgs_cons (dg_name 3 sc__law_made.nd) (dgs_cons (dg_name 4 sc__law_made.nd) dgs_nil))) (de_tup (da_cons de_int (da_cons de_int da_nil)) (lenac (lenac lena0)))) (dss_cons (ds_for po rfl (di_seq (de_var 0)) (dg_name 5 sc__law_made.nd) (dss_one (ds_par 3 4 rfl sc__law_made.nd (de_bin o_add (de_var 3) (dp_of (de_bin o_mul (de_var 5) (dp_var 4)))) (de_bin o_mul (de_var 4) (dp_var 2))))) (dss_one (ds_ret (de_bin o_mod (de_var 3) (dp_of (de_bin o_shl de_int (dp_var 1))))))))
theorem ok__law_made (F : FnX K mg "_law_made" st__law_made) (fr : ∀ x ∈ frees, mg x = none)  : GF P w K mg base 1 "_law_made" ["poly_so", "width", "word"] (spD K mg 3 g__law_made) := by
  obtain ⟨f, fd, hm, F⟩ := F
  exact ⟨f, fd, fn_D F sc__law_made (by decide) (body__law_made fr ) (fun _ _ => .inr rfl), hm, F.kp, F.bindsN fun _ _ _ _ _ _ us hl => match us, hl with | [_, _, _], _ => rfl⟩
abbrev st__law_right : Stmt := topS 42
theorem sc__law_right : FnScope ["vat", "poly_so", "goals", "here", "met", "width", "word"] ["vat", "poly_so"] (defScope st__law_right) := ⟨rfl, rfl, rfl, by decide +kernel, rfl, by decide +kernel, by decide +kernel⟩
def m__law_right : MS := mSeq (mSet 2 (mLst (mComp [6] (mRng1 (mC (.int 128))) (put 6) (mR true) (mCall g__law_made (mCons (mVar 1) (mCons (mC (.int 7)) (mCons (mVar 6) (mR [])))))))) (mSeq (mIf (mNotT (mTst (mCall g__law_truly (mCons (mCall g_poly_one_to_one (mCons (mVar 1) (mR []))) (mCons (mCmpV bEq (mFn dLenSet (mPeek 2)) (mC (.int 128))) (mR [])))))) (mRet (mC (.bl false))) (mNext)) (mSeq (mPar 3 4 (mBin dIx (mPeek 2) (mC (.int 0))) (mC (.int 1))) (mSeq (mWh (fun _ => 200) (mAndT (mCmp bNe (mPeek 3) (mC (.int 0))) (mCmp bLt (mPeek 4) (mC (.int 129)))) (mPar 3 4 (mBin dIx (mPeek 2) (mVar 3)) (mBin dAdd (mVar 4) (mC (.int 1))))) (mSeq (mIf (mNotT (mTst (mCall g__law_truly (mCons (mCall g_poly_all_words (mCons (mVar 1) (mR []))) (mCons (mAndV (mCmpV bEq (mPeek 4) (mC (.int 128))) (mCmpV bEq (mPeek 3) (mC (.int 0)))) (mR [])))))) (mRet (mC (.bl false))) (mNext)) (mSeq (mSet 5 (mCallM g__law_under 0 (mCons (mC (.int 65)) (mR [])))) (mSeq (mSet 6 (mBin dMod (mBin dMul (mCallM g__law_under 0 (mCons (mBin dPow (mC (.int 10)) (mC (.int 9))) (mR []))) (mCallM g__law_under 0 (mCons (mBin dPow (mC (.int 10)) (mC (.int 9))) (mR [])))) (mBin dShl (mC (.int 1)) (mPeek 5)))) (mRet (mAndV (mCmpV bIsC (mCall g_is_poly (mCons (mVar 1) (mR []))) (mC (.bl true))) (mCmpV bEq (mCall g_poly_comes (mCons (mVar 1) (mCons (mVar 5) (mCons (mVar 6) (mR []))))) (mCall g__law_made (mCons (mVar 1) (mCons (mVar 5) (mCons (mVar 6) (mR []))))))))))))))
def g__law_right (as ds : List D) : R (D × List D) := runM m__law_right 7 as ds
theorem body__law_right {f : Addr} (fr : ∀ x ∈ frees, mg x = none) (c__law_made : GF P w K mg base 1 "_law_made" ["poly_so", "width", "word"] (spD K mg 3 g__law_made)) (c__law_truly : GF P w K mg base 1 "_law_truly" ["found", "due"] (spD K mg 2 g__law_truly)) (c_poly_one_to_one : GF P w K mg base 4 "poly_one_to_one" ["poly"] (spD K mg 1 g_poly_one_to_one)) (c_poly_all_words : GF P w K mg base 4 "poly_all_words" ["poly"] (spD K mg 1 g_poly_all_words)) (c__law_under : GF P w K mg base 1 "_law_under" ["vat", "many"] (spM K mg 2 g__law_under)) (c_is_poly : GF P w K mg base 3 "is_poly" ["value"] (spD K mg 1 g_is_poly)) (c_poly_comes : GF P w K mg base 4 "poly_comes" ["poly", "width", "word"] (spD K mg 3 g_poly_comes)) : Body P w K mg base ["vat", "poly_so", "goals", "here", "met", "width", "word"] "_law_right" st__law_right f 4 none m__law_right := by
  intro cdv A outer s H E hr
  have tk : L2N.Takes (cxD P w K mg base ["vat", "poly_so", "goals", "here", "met", "width", "word"] "_law_right" st__law_right f cdv A outer s H E) (wE none E).w := L2N.takes_of rfl rfl rfl rfl
  have po : PassesOwn (model P w) (cxD P w K mg base ["vat", "poly_so", "goals", "here", "met", "width", "word"] "_law_right" st__law_right f cdv A outer s H E).A (cxD P w K mg base ["vat", "poly_so", "goals", "here", "met", "width", "word"] "_law_right" st__law_right f cdv A outer s H E).env (cxD P w K mg base ["vat", "poly_so", "goals", "here", "met", "width", "word"] "_law_right" st__law_right f cdv A outer s H E).xe := passes_of rfl
  exact (dss_cons (ds_setC1 2 [("word", 6)] 6 rfl sc__law_right.nd (di_range1 rfl (fr "range" (by decide)) de_int) (blkOk_by (by rfl)) (fun s H C cl fp => pg_name sc__law_right.nd rfl (by first | exact .inl rfl | exact .inr rfl) (by first | exact .inl rfl | exact .inr rfl)) (by decide) (fun s H C cl fp => dts_nil) (fun s H C cl fp => (de_callG c__law_made takes0N (hr.mono (by decide)) (da_cons (de_var 1) (da_cons de_int (da_cons (de_var 6) da_nil))) (lenac (lenac (lenac lena0)))))) (dss_cons (ds_if (dt_not (dt_val (de_callG c__law_truly tk (hr.mono (by decide)) (da_cons (de_callG c_poly_one_to_one tk (hr.mono (by decide)) (da_cons (de_var 1) da_nil) (lenac lena0)) (da_cons (de_cmp (o_eq hr.units) (dp_of (de_lenSet rfl rfl (fr "len" (by decide)) rfl (fr "set" (by decide)) (dp_var 2))) (dp_of de_int)) da_nil)) (lenac (lenac lena0))))) (dss_one (ds_ret de_bl)) dss_nil) (dss_cons (ds_par 3 4 rfl sc__law_right.nd (de_ix (dp_var 2) de_int) de_int) (dss_cons (ds_while (fun _ => 200) po (dt_of (dw_and (dt_cmp (o_ne hr.units) (dp_var 3) (dp_of de_int)) (dw_and1 (dt_cmp o_lt (dp_var 4) (dp_of de_int))))) (dss_one (ds_par 3 4 rfl sc__law_right.nd (de_ix (dp_var 2) (de_var 3)) (de_bin o_add (de_var 4) (dp_of de_int))))) (dss_cons (ds_if (dt_not (dt_val (de_callG c__law_truly tk (hr.mono (by decide)) (da_cons (de_callG c_poly_all_words tk (hr.mono (by decide)) (da_cons (de_var 1) da_nil) (lenac lena0)) (da_cons (de_and (de_cmp (o_eq hr.units) (dp_var 4) (dp_of de_int)) (de_one (de_cmp (o_eq hr.units) (dp_var 3) (dp_of de_int)))) da_nil)) (lenac (lenac lena0))))) (dss_one (ds_ret de_bl)) dss_nil) (dss_cons (ds_set 5 sc__law_right.nd (de_callMG 0 c__law_under tk (hr.mono (by decide)) (da_cons de_int da_nil) (lenac lena0))) (dss_cons (ds_set 6 sc__law_right.nd (de_bin o_mod (de_bin o_mul (de_callMG 0 c__law_under tk (hr.mono (by decide)) (da_cons (de_bin o_pow de_int (dp_of de_int)) da_nil) (lenac lena0)) (dp_of (de_callMG 0 c__law_under tk (hr.mono (by decide)) (da_cons (de_bin o_pow de_int (dp_of de_int)) da_nil) (lenac lena0)))) (dp_of (de_bin o_shl de_int (dp_var 5))))) (dss_one (ds_ret (de_and (de_cmp o_is (dp_of (de_callG c_is_poly tk (hr.mono (by decide)) (da_cons (de_var 1) da_nil) (lenac lena0))) (dp_of de_bl)) (de_one (de_cmp (o_eq hr.units) (dp_of (de_callG c_poly_comes tk (hr.mono (by decide)) (da_cons (de_var 1) (da_cons (de_var 5) (da_cons (de_var 6) da_nil))) (lenac (lenac (lenac lena0))))) (dp_of (de_callG c__law_made tk (hr.mono (by decide)) (da_cons (de_var 1) (da_cons (de_var 5) (da_cons (de_var 6) da_nil))) (lenac (lenac (lenac lena0)))))))))))))))))
theorem ok__law_right (F : FnX K mg "_law_right" st__law_right) (fr : ∀ x ∈ frees, mg x = none) (c__law_made : GF P w K mg base 1 "_law_made" ["poly_so", "width", "word"] (spD K mg 3 g__law_made)) (c__law_truly : GF P w K mg base 1 "_law_truly" ["found", "due"] (spD K mg 2 g__law_truly)) (c_poly_one_to_one : GF P w K mg base 4 "poly_one_to_one" ["poly"] (spD K mg 1 g_poly_one_to_one)) (c_poly_all_words : GF P w K mg base 4 "poly_all_words" ["poly"] (spD K mg 1 g_poly_all_words)) (c__law_under : GF P w K mg base 1 "_law_under" ["vat", "many"] (spM K mg 2 g__law_under)) (c_is_poly : GF P w K mg base 3 "is_poly" ["value"] (spD K mg 1 g_is_poly)) (c_poly_comes : GF P w K mg base 4 "poly_comes" ["poly", "width", "word"] (spD K mg 3 g_poly_comes)) : GF P w K mg base 5 "_law_right" ["vat", "poly_so"] (spM K mg 2 g__law_right) := by
  obtain ⟨f, fd, hm, F⟩ := F
  exact ⟨f, fd, fn_M F sc__law_right (by decide) (body__law_right fr c__law_made c__law_truly c_poly_one_to_one c_poly_all_words c__law_under c_is_poly c_poly_comes) (fun _ _ _ => .inr rfl), hm, F.kp, F.bindsN fun _ _ _ _ _ _ us hl => match us, hl with | [_, _], _ => rfl⟩
end
end HD

set_option Elab.async false
set_option linter.all false
set_option autoImplicit false
set_option maxRecDepth 100000
set_option maxHeartbeats 4000000
namespace HD
open PySem PySem.Spec PyProof.Rows L2
section
variable {P : Program} {w : World} {K : PySem.W.Frag} {mg : Str → Option Value} {base : Heap}
abbrev st__law_names : Stmt := topS 35
theorem sc__law_names : FnScope ["e", "some", "labels", "label", "good"] ["e"] (defScope st__law_names) := ⟨rfl, rfl, rfl, by decide +kernel, rfl, by decide +kernel, by decide +kernel⟩
def ownC : List Str := ["InvalidStep", "InvalidWidth", "InvalidWord", "InvalidNumber", "InvalidPoly", "InvalidMould", "InvalidFacts", "InvalidText", "InvalidBit", "Unlike", "NoWay", "NothingToUndo", "TooMany"]
def plainC : List Str := ["InvalidStep", "InvalidWidth", "InvalidWord", "InvalidNumber", "InvalidPoly", "InvalidMould", "InvalidFacts", "InvalidText", "InvalidBit", "Unlike", "NoWay", "NothingToUndo"]
def labelsC : Str := "step width word number poly mould facts text bit unlike noway undo many value"
def bsOf (c : Str) : List Bool := ownC.map (fun x => decide (c = x)) ++ [true]
theorem body__law_names {f D : Addr} (fr : ∀ x ∈ frees, mg x = none) (C : ExcC K D) {E0 : Addr} {b0 : Bool} (m0 : mg "InvalidStep" = some (.ref E0)) (k0 : PySem.W.kitOne K (.ref D) (.ref E0) = some b0) {E1 : Addr} {b1 : Bool} (m1 : mg "InvalidWidth" = some (.ref E1)) (k1 : PySem.W.kitOne K (.ref D) (.ref E1) = some b1) {E2 : Addr} {b2 : Bool} (m2 : mg "InvalidWord" = some (.ref E2)) (k2 : PySem.W.kitOne K (.ref D) (.ref E2) = some b2) {E3 : Addr} {b3 : Bool} (m3 : mg "InvalidNumber" = some (.ref E3)) (k3 : PySem.W.kitOne K (.ref D) (.ref E3) = some b3) {E4 : Addr} {b4 : Bool} (m4 : mg "InvalidPoly" = some (.ref E4)) (k4 : PySem.W.kitOne K (.ref D) (.ref E4) = some b4) {E5 : Addr} {b5 : Bool} (m5 : mg "InvalidMould" = some (.ref E5)) (k5 : PySem.W.kitOne K (.ref D) (.ref E5) = some b5) {E6 : Addr} {b6 : Bool} (m6 : mg "InvalidFacts" = some (.ref E6)) (k6 : PySem.W.kitOne K (.ref D) (.ref E6) = some b6) {E7 : Addr} {b7 : Bool} (m7 : mg "InvalidText" = some (.ref E7)) (k7 : PySem.W.kitOne K (.ref D) (.ref E7) = some b7) {E8 : Addr} {b8 : Bool} (m8 : mg "InvalidBit" = some (.ref E8)) (k8 : PySem.W.kitOne K (.ref D) (.ref E8) = some b8) {E9 : Addr} {b9 : Bool} (m9 : mg "Unlike" = some (.ref E9)) (k9 : PySem.W.kitOne K (.ref D) (.ref E9) = some b9) {E10 : Addr} {b10 : Bool} (m10 : mg "NoWay" = some (.ref E10)) (k10 : PySem.W.kitOne K (.ref D) (.ref E10) = some b10) {E11 : Addr} {b11 : Bool} (m11 : mg "NothingToUndo" = some (.ref E11)) (k11 : PySem.W.kitOne K (.ref D) (.ref E11) = some b11) {E12 : Addr} {b12 : Bool} (m12 : mg "TooMany" = some (.ref E12)) (k12 : PySem.W.kitOne K (.ref D) (.ref E12) = some b12) (kv : PySem.W.kitOne K (.ref D) (.type "ValueError") = some true) (cdv : Value) (A : Around) (outer : List Env) (s : Shared) (H : Hp) (E : XK) (p : Addr × Obj) (hot : L2H.Hot1 A p) (hz : Zc (.ref D) none p.2) (hf : ∃ vs, p.2.data = .fields vs) : PSs (L2H.cxH (L2N.CX P w) P w K mg base ["e", "some", "labels", "label", "good"] "_law_names" (defScope st__law_names) f cdv A outer s H E p) (defBody st__law_names) (tNames K p [b0, b1, b2, b3, b4, b5, b6, b7, b8, b9, b10, b11, b12, true] labelsC) := by
  have hp : p ∈ (L2H.cxH (L2N.CX P w) P w K mg base ["e", "some", "labels", "label", "good"] "_law_names" (defScope st__law_names) f cdv A outer s H E p).pn := List.mem_singleton_self p
  have hc : L2H.HotC (L2H.cxH (L2N.CX P w) P w K mg base ["e", "some", "labels", "label", "good"] "_law_names" (defScope st__law_names) f cdv A outer s H E p) := ⟨p, ⟨hot.1, hot.2⟩, hp⟩
  have cok : CellOk (L2H.cxH (L2N.CX P w) P w K mg base ["e", "some", "labels", "label", "good"] "_law_names" (defScope st__law_names) f cdv A outer s H E p) := cellOk_def fun _ => rfl
  exact pss_cons (ps_set (i := 1) sc__law_names.nd rfl (by first | exact .inl rfl | exact .inr rfl) (pe_lst (pa_cons (pe_isOwn C hp hz hf (fr "isinstance" (by decide)) m0 k0) (pa_cons (pe_isOwn C hp hz hf (fr "isinstance" (by decide)) m1 k1) (pa_cons (pe_isOwn C hp hz hf (fr "isinstance" (by decide)) m2 k2) (pa_cons (pe_isOwn C hp hz hf (fr "isinstance" (by decide)) m3 k3) (pa_cons (pe_isOwn C hp hz hf (fr "isinstance" (by decide)) m4 k4) (pa_cons (pe_isOwn C hp hz hf (fr "isinstance" (by decide)) m5 k5) (pa_cons (pe_isOwn C hp hz hf (fr "isinstance" (by decide)) m6 k6) (pa_cons (pe_isOwn C hp hz hf (fr "isinstance" (by decide)) m7 k7) (pa_cons (pe_isOwn C hp hz hf (fr "isinstance" (by decide)) m8 k8) (pa_cons (pe_isOwn C hp hz hf (fr "isinstance" (by decide)) m9 k9) (pa_cons (pe_isOwn C hp hz hf (fr "isinstance" (by decide)) m10 k10) (pa_cons (pe_isOwn C hp hz hf (fr "isinstance" (by decide)) m11 k11) (pa_cons (pe_isOwn C hp hz hf (fr "isinstance" (by decide)) m12 k12) (pa_cons (pe_isBlt C hp hz hf (fr "isinstance" (by decide)) (fr "ValueError" (by decide)) (by decide +kernel) kv) pa_nil)))))))))))))))) (pss_cons (ps_set (i := 2) sc__law_names.nd rfl (by first | exact .inl rfl | exact .inr rfl) pe_str) (pss_one (ps_ret (pe_join pe_str (pe_lcG (X := (L2H.cxH (L2N.CX P w) P w K mg base ["e", "some", "labels", "label", "good"] "_law_names" (defScope st__law_names) f cdv A outer s H E p)) (pq := [p]) (GY := L2H.HotC) (GH := okT) (own := [("label", 3), ("good", 4)]) (fun q hq => hq) (fun _ _ _ _ => ⟨p, ⟨hot.1, hot.2⟩, List.mem_singleton_self p⟩) sc__law_names.nd cok (pi_zipH rfl (fr "zip" (by decide)) (pa_cons (pe_split (pv 2) pe_str) (pa_cons (pv 1) pa_nil))) (blkOk_by (by rfl)) (fun s2 H2 C2 cl2 fp2 _ => pg_tupH ⟨p, ⟨hot.1, hot.2⟩, List.mem_singleton_self p⟩ (pgs_cons (pg_name (i := 3) sc__law_names.nd rfl (by first | exact .inl rfl | exact .inr rfl) (by first | exact .inl rfl | exact .inr rfl)) (pgs_cons (pg_name (i := 4) sc__law_names.nd rfl (by first | exact .inl rfl | exact .inr rfl) (by first | exact .inl rfl | exact .inr rfl)) pgs_nil))) (fun s2 H2 C2 cl2 fp2 _ => pts_one (pt_val (pv 4))) (fun s2 H2 C2 cl2 fp2 _ => pv 3))))))
/-- what the head tells of the classes -/
def ClsF (K : PySem.W.Frag) (mg : Str → Option Value) : Prop := ∀ c ∈ plainC, ∃ D, mg c = some (.ref D) ∧ ExcC K D ∧ (∀ x ∈ ownC, ∃ E, mg x = some (.ref E) ∧ PySem.W.kitOne K (.ref D) (.ref E) = some (decide (c = x))) ∧ PySem.W.kitOne K (.ref D) (.type "ValueError") = some true ∧ ∀ CB, mg "BitError" = some (.ref CB) → PySem.W.exmOne K (.ref D) (.ref CB) = some true
def namesC (c : Str) : Option Str := if c ∈ plainC then some (Txt.join " " (pick (Txt.split labelsC " ") (bsOf c))) else none
theorem ok__law_names (F : FnX K mg "_law_names" st__law_names) (fr : ∀ x ∈ frees, mg x = none) (fx : ClsF K mg) : NamesF P w K mg base "_law_names" 1 namesC := by
  obtain ⟨f, fd, hm, F⟩ := F
  refine ⟨f, hm, F.kp, fun c z D hc hD A outer s H Q E p hr hot hpin hz hf e0 q => ?_⟩
  unfold namesC at hc
  split at hc
  · rename_i hpl
    cases hc
    obtain ⟨D2, d1, d2, d3, d4, d5⟩ := fx c hpl
    rw [hD] at d1
    cases d1
    obtain ⟨E0, m0, k0⟩ := d3 "InvalidStep" (by decide)
    obtain ⟨E1, m1, k1⟩ := d3 "InvalidWidth" (by decide)
    obtain ⟨E2, m2, k2⟩ := d3 "InvalidWord" (by decide)
    obtain ⟨E3, m3, k3⟩ := d3 "InvalidNumber" (by decide)
    obtain ⟨E4, m4, k4⟩ := d3 "InvalidPoly" (by decide)
    obtain ⟨E5, m5, k5⟩ := d3 "InvalidMould" (by decide)
    obtain ⟨E6, m6, k6⟩ := d3 "InvalidFacts" (by decide)
    obtain ⟨E7, m7, k7⟩ := d3 "InvalidText" (by decide)
    obtain ⟨E8, m8, k8⟩ := d3 "InvalidBit" (by decide)
    obtain ⟨E9, m9, k9⟩ := d3 "Unlike" (by decide)
    obtain ⟨E10, m10, k10⟩ := d3 "NoWay" (by decide)
    obtain ⟨E11, m11, k11⟩ := d3 "NothingToUndo" (by decide)
    obtain ⟨E12, m12, k12⟩ := d3 "TooMany" (by decide)
    refine names_run (k := 0) (labels := labelsC) (bs := bsOf c) F sc__law_names rfl (F.bindsN fun _ _ _ _ _ _ us hl => match us, hl with | [_], _ => rfl) (fun cdv A outer s H E p h1 h2 h3 => body__law_names fr d2 m0 k0 m1 k1 m2 k2 m3 k3 m4 k4 m5 k5 m6 k6 m7 k7 m8 k8 m9 k9 m10 k10 m11 k11 m12 k12 d4 cdv A outer s H E p h1 h2 h3) (by rw [show (bsOf c).length = 14 from rfl]; decide +kernel) (by rw [show (bsOf c).length = 14 from rfl]; decide) (by decide +kernel) ?_ hr hot hpin hz hf e0 q
    rintro zs rfl
    have all : ∀ c ∈ plainC, ((pick (Txt.split labelsC " ") (bsOf c)).map (·.length)).sum + (pick (Txt.split labelsC " ") (bsOf c)).length * (" " : Str).length ≤ 16777216 := by decide +kernel
    exact all c hpl
  · cases hc
end
end HD

set_option Elab.async false
set_option linter.all false
set_option autoImplicit false
set_option maxRecDepth 100000
set_option maxHeartbeats 4000000
namespace HD
open PySem PySem.Spec PyProof.Rows L2
section
variable {P : Program} {w : World} {K : PySem.W.Frag} {mg : Str → Option Value} {base : Heap} {T : List (Addr × Str)}
abbrev st__law_all_refused : Stmt := topS 37
abbrev st_law : Stmt := topS 43
abbrev st__law_error : Stmt := topS 36
def lam0 : Lam := lamOf 0 (("_law_all_refused" : Str) ++ ".<locals>." ++ "<lambda>") ["call", "odd"] (xArg 0 (xL (xIf (xL (xRet (xS (defBody st__law_all_refused) 0))))))
theorem ls_lam0 : LamStat lam0 := ⟨by decide +kernel, by decide +kernel⟩
theorem lsc_lam0 : LamSc [] lam0 := ⟨rfl, rfl, rfl, by decide +kernel, by decide +kernel, by decide +kernel, by decide +kernel, by decide +kernel⟩
def lam1 : Lam := lamOf 1 (("law" : Str) ++ ".<locals>." ++ "<lambda>") [] (xArg 0 (xL (xTest (xS (xBody (xS (defBody st_law) 1)) 5))))
theorem ls_lam1 : LamStat lam1 := ⟨by decide +kernel, by decide +kernel⟩
theorem lsc_lam1 : LamSc ["odd"] lam1 := ⟨rfl, rfl, rfl, by decide +kernel, by decide +kernel, by decide +kernel, by decide +kernel, by decide +kernel⟩
def lam2 : Lam := lamOf 2 (("law" : Str) ++ ".<locals>." ++ "<lambda>") ["poly_so"] (xArg 0 (xL (xTest (xS (xBody (xS (defBody st_law) 1)) 6))))
theorem ls_lam2 : LamStat lam2 := ⟨by decide +kernel, by decide +kernel⟩
theorem lsc_lam2 : LamSc ["odd"] lam2 := ⟨rfl, rfl, rfl, by decide +kernel, by decide +kernel, by decide +kernel, by decide +kernel, by decide +kernel⟩
def lam3 : Lam := lamOf 3 (("law" : Str) ++ ".<locals>." ++ "<lambda>") ["poly_so"] (xArg 0 (xL (xTest (xS (xBody (xS (defBody st_law) 1)) 7))))
theorem ls_lam3 : LamStat lam3 := ⟨by decide +kernel, by decide +kernel⟩
theorem lsc_lam3 : LamSc ["odd"] lam3 := ⟨rfl, rfl, rfl, by decide +kernel, by decide +kernel, by decide +kernel, by decide +kernel, by decide +kernel⟩
def m_lam1 : ME := mCall g_poly_comes (mCons (mVar 0) (mCons (mC .non) (mCons (mC .non) (mR []))))
theorem body_lam1 (c_poly_comes : GF P w K mg base 4 "poly_comes" ["poly", "width", "word"] (spD K mg 3 g_poly_comes)) (f c' : Addr) (cl : List (Str × Addr)) (A : Around) (outer : List Env) (s : Shared) (H : Hp) (E : XK) (hr : Room 4 (A.deeper (lamE lam1 s.heap.objs.size f c' cl))) : PE (lamC P w K mg base ((["odd"] : List Str) ++ lam1.caps) lam1 f c' cl A outer s H E) lam1.body (tD (lamC P w K mg base ((["odd"] : List Str) ++ lam1.caps) lam1 f c' cl A outer s H E) (wE (some T) E) true m_lam1) := by
  have tk : L2N.Takes (lamC P w K mg base ((["odd"] : List Str) ++ lam1.caps) lam1 f c' cl A outer s H E) (wE (some T) E).w := L2N.takes_of rfl rfl rfl rfl
  exact (de_callG c_poly_comes tk (hr.mono (by decide)) (da_cons (de_var 0) (da_cons de_non (da_cons de_non da_nil))) (lenac (lenac (lenac lena0))))
def m_lam2 : ME := mCall g_poly_comes (mCons (mVar 1) (mCons (mVar 0) (mCons (mC .non) (mR []))))
theorem body_lam2 (c_poly_comes : GF P w K mg base 4 "poly_comes" ["poly", "width", "word"] (spD K mg 3 g_poly_comes)) (f c' : Addr) (cl : List (Str × Addr)) (A : Around) (outer : List Env) (s : Shared) (H : Hp) (E : XK) (hr : Room 4 (A.deeper (lamE lam2 s.heap.objs.size f c' cl))) : PE (lamC P w K mg base ((["odd"] : List Str) ++ lam2.caps) lam2 f c' cl A outer s H E) lam2.body (tD (lamC P w K mg base ((["odd"] : List Str) ++ lam2.caps) lam2 f c' cl A outer s H E) (wE (some T) E) true m_lam2) := by
  have tk : L2N.Takes (lamC P w K mg base ((["odd"] : List Str) ++ lam2.caps) lam2 f c' cl A outer s H E) (wE (some T) E).w := L2N.takes_of rfl rfl rfl rfl
  exact (de_callG c_poly_comes tk (hr.mono (by decide)) (da_cons (de_var 1) (da_cons (de_var 0) (da_cons de_non da_nil))) (lenac (lenac (lenac lena0))))
def m_lam3 : ME := mCall g_poly_comes (mCons (mVar 1) (mCons (mC (.int 4)) (mCons (mVar 0) (mR []))))
theorem body_lam3 (c_poly_comes : GF P w K mg base 4 "poly_comes" ["poly", "width", "word"] (spD K mg 3 g_poly_comes)) (f c' : Addr) (cl : List (Str × Addr)) (A : Around) (outer : List Env) (s : Shared) (H : Hp) (E : XK) (hr : Room 4 (A.deeper (lamE lam3 s.heap.objs.size f c' cl))) : PE (lamC P w K mg base ((["odd"] : List Str) ++ lam3.caps) lam3 f c' cl A outer s H E) lam3.body (tD (lamC P w K mg base ((["odd"] : List Str) ++ lam3.caps) lam3 f c' cl A outer s H E) (wE (some T) E) true m_lam3) := by
  have tk : L2N.Takes (lamC P w K mg base ((["odd"] : List Str) ++ lam3.caps) lam3 f c' cl A outer s H E) (wE (some T) E).w := L2N.takes_of rfl rfl rfl rfl
  exact (de_callG c_poly_comes tk (hr.mono (by decide)) (da_cons (de_var 1) (da_cons de_int (da_cons (de_var 0) da_nil))) (lenac (lenac (lenac lena0))))
open Classical in
noncomputable def app1 (d : D) (ds : List D) : R D := match d with
  | .glo x => if x = "poly_one_to_one" ∧ ds.length = 1 then g_poly_one_to_one ds else if x = "poly_all_words" ∧ ds.length = 1 then g_poly_all_words ds else .bad
  | .clo l cs => if noClos ds = true ∧ ds.length = 1 then (if l = lam1 then runL m_lam1 1 (ds ++ cs) else (if l = lam2 then runL m_lam2 2 (ds ++ cs) else (if l = lam3 then runL m_lam3 2 (ds ++ cs) else .bad))) else .bad
  | _ => .bad
def cal1 : D → Bool
  | .glo x => decide (x = "poly_one_to_one") || decide (x = "poly_all_words")
  | .clo _ _ => true
  | _ => false
theorem ok_app1 (c_poly_one_to_one : GF P w K mg base 4 "poly_one_to_one" ["poly"] (spD K mg 1 g_poly_one_to_one)) (c_poly_all_words : GF P w K mg base 4 "poly_all_words" ["poly"] (spD K mg 1 g_poly_all_words)) (c_poly_comes : GF P w K mg base 4 "poly_comes" ["poly", "width", "word"] (spD K mg 3 g_poly_comes)) : App P w K mg base T 5 cal1 app1 := by
  refine ⟨fun A outer s H us vs Q E v u d ds T0 hr e0 rv r rp rps t0 hT h => ?_, fun d hc => ?_⟩
  · unfold app1 at h
    cases d with
    | glo x =>
      simp only at h
      split at h
      · rename_i hx
        obtain ⟨rfl, hl⟩ := hx
        exact glo_run c_poly_one_to_one (hr.mono (by decide)) e0 rv r rp rps t0 hT hl rfl h
      · split at h
        · rename_i hx
          obtain ⟨rfl, hl⟩ := hx
          exact glo_run c_poly_all_words (hr.mono (by decide)) e0 rv r rp rps t0 hT hl rfl h
        · exact h.elim
    | clo l cs =>
      simp only at h
      split at h
      · rename_i hx
        split at h
        · rename_i hq
          subst hq
          exact clo_run (k := 4) lsc_lam1 (fun _ _ _ _ _ us hl => match us, hl with | [_], _ => rfl) (body_lam1 c_poly_comes) (hr.mono (by decide)) e0 rv r rp rps t0 hT hx.1 hx.2 h
        · skip
          split at h
          · rename_i hq
            subst hq
            exact clo_run (k := 4) lsc_lam2 (fun _ _ _ _ _ us hl => match us, hl with | [_], _ => rfl) (body_lam2 c_poly_comes) (hr.mono (by decide)) e0 rv r rp rps t0 hT hx.1 hx.2 h
          · skip
            split at h
            · rename_i hq
              subst hq
              exact clo_run (k := 4) lsc_lam3 (fun _ _ _ _ _ us hl => match us, hl with | [_], _ => rfl) (body_lam3 c_poly_comes) (hr.mono (by decide)) e0 rv r rp rps t0 hT hx.1 hx.2 h
            · exact h.elim
      · exact h.elim
    | _ => exact h.elim
  · cases d with
    | glo x =>
      left
      have hc : (decide (x = "poly_one_to_one") || decide (x = "poly_all_words")) = true := hc
      rw [Bool.or_eq_true, decide_eq_true_eq, decide_eq_true_eq] at hc
      rcases hc with rfl | rfl
      · obtain ⟨f, fd, h1, h2, h3, h4⟩ := c_poly_one_to_one.ex
        exact ⟨_, f, rfl, h2, h3⟩
      · obtain ⟨f, fd, h1, h2, h3, h4⟩ := c_poly_all_words.ex
        exact ⟨_, f, rfl, h2, h3⟩
    | clo l cs => exact .inr ⟨l, cs, rfl⟩
    | _ => cases hc
noncomputable def m_lam0 : ME := mCallV cal1 app1 0 (mCons (mVar 1) (mR []))
theorem body_lam0  (AP : App P w K mg base T 5 cal1 app1) (f c' : Addr) (cl : List (Str × Addr)) (A : Around) (outer : List Env) (s : Shared) (H : Hp) (E : XK) (hr : Room 5 (A.deeper (lamE lam0 s.heap.objs.size f c' cl))) : PE (lamC P w K mg base (([] : List Str) ++ lam0.caps) lam0 f c' cl A outer s H E) lam0.body (tD (lamC P w K mg base (([] : List Str) ++ lam0.caps) lam0 f c' cl A outer s H E) (wE (some T) E) false m_lam0) := by
  have tk : L2N.Takes (lamC P w K mg base (([] : List Str) ++ lam0.caps) lam0 f c' cl A outer s H E) (wE (some T) E).w := L2N.takes_of rfl rfl rfl rfl
  exact (de_callV1 0 AP rfl tk hr (da_cons (de_var 1) da_nil))
open Classical in
noncomputable def app2 (d : D) (ds : List D) : R D := match d, ds with
  | .clo l cs, [] => if l = lam0 then runL m_lam0 2 cs else .bad
  | _, _ => .bad
def cal2 : D → Bool
  | .clo _ _ => true
  | _ => false
theorem ok_app2 (AP : App P w K mg base T 5 cal1 app1) : App P w K mg base T 6 cal2 app2 := by
  refine ⟨fun A outer s H us vs Q E v u d ds T0 hr e0 rv r rp rps t0 hT h => ?_, fun d hc => ?_⟩
  · unfold app2 at h
    cases d with
    | clo l cs =>
      cases ds with
      | nil =>
        simp only at h
        split at h
        · rename_i hq
          subst hq
          exact clo_run (k := 5) (ps := []) lsc_lam0 (fun _ _ _ _ _ us hl => match us, hl with | [], _ => rfl) (body_lam0 AP) hr e0 rv r rp rps t0 hT rfl rfl h
        · exact h.elim
      | cons _ _ => exact h.elim
    | _ => cases ds <;> exact h.elim
  · cases d with
    | clo l cs => exact .inr ⟨l, cs, rfl⟩
    | _ => cases hc
noncomputable def g__law_error (ds : List D) : R D := gErr cal2 app2 namesC ds
theorem sc__law_error : FnScope ["call", "e"] ["call"] (defScope st__law_error) := ⟨rfl, rfl, rfl, by decide +kernel, rfl, by decide +kernel, by decide +kernel⟩
theorem NamesF.mono {nm : Str} {j k : Nat} {names : Str → Option Str} (F : NamesF P w K mg base nm j names) (h : j ≤ k) : NamesF P w K mg base nm k names := by
  obtain ⟨f, h1, h2, h3⟩ := F.ex
  exact ⟨f, h1, h2, fun c z D a b A outer s H Q E p hr => h3 c z D a b A outer s H Q E p (hr.mono h)⟩
theorem ok__law_error (F : FnX K mg "_law_error" st__law_error) (AP : App P w K mg base T 6 cal2 app2) (NF : NamesF P w K mg base "_law_names" 1 namesC) (fx : ClsF K mg) (hB : ∃ CB, mg "BitError" = some (.ref CB)) : GF P w K mg base 7 "_law_error" ["call"] (spT T K mg 1 g__law_error) := by
  obtain ⟨f, fd, hm, F⟩ := F
  obtain ⟨CB, hB⟩ := hB
  refine ⟨f, fd, fn_error F sc__law_error rfl rfl rfl rfl rfl hB (by decide) (by decide) AP (NF.mono (by decide)) (fun c z D hc hD => ?_), hm, F.kp, F.bindsN fun _ _ _ _ _ _ us hl => match us, hl with | [_], _ => rfl⟩
  unfold namesC at hc
  split at hc
  · rename_i hp
    obtain ⟨D2, d1, _, _, _, d5⟩ := fx c hp
    rw [hD] at d1
    cases d1
    exact d5 CB hB
  · cases hc
theorem sc__law_all_refused : FnScope ["call", "odds", "name", "odd"] ["call", "odds", "name"] (defScope st__law_all_refused) := ⟨rfl, rfl, rfl, by decide +kernel, rfl, by decide +kernel, by decide +kernel⟩
noncomputable def m__law_all_refused : MS := mRet (mCmpV bEq (mLst (mComp [3] (mSrc (mVar 1)) (put 3) (mCmp bNe (mCallLam g__law_error lam0 [0, 3] (mR [])) (mPeek 2)) (mVar 3))) (mLst (mR [])))
noncomputable def g__law_all_refused (ds : List D) : R D := runD m__law_all_refused 4 ds
theorem body__law_all_refused {f : Addr} (fr : ∀ x ∈ frees, mg x = none) (c__law_error : GF P w K mg base 7 "_law_error" ["call"] (spT T K mg 1 g__law_error)) {cc PT : Addr} (TB : LamX.TabB base mg cc PT) (hm : (PT, (("_law_all_refused" : Str) ++ ".<locals>." ++ "<lambda>")) ∈ T) (hu : ∀ p ∈ T, p.1 = PT → p.2 = (("_law_all_refused" : Str) ++ ".<locals>." ++ "<lambda>")) : BodyC P w K mg base ["call", "odds", "name", "odd"] "_law_all_refused" st__law_all_refused f 7 (some T) (.ref cc) m__law_all_refused := by
  intro A outer s H E hr
  have tk : L2N.Takes (cxD P w K mg base ["call", "odds", "name", "odd"] "_law_all_refused" st__law_all_refused f (.ref cc) A outer s H E) (wE (some T) E).w := L2N.takes_of rfl rfl rfl rfl
  have po : PassesOwn (model P w) (cxD P w K mg base ["call", "odds", "name", "odd"] "_law_all_refused" st__law_all_refused f (.ref cc) A outer s H E).A (cxD P w K mg base ["call", "odds", "name", "odd"] "_law_all_refused" st__law_all_refused f (.ref cc) A outer s H E).env (cxD P w K mg base ["call", "odds", "name", "odd"] "_law_all_refused" st__law_all_refused f (.ref cc) A outer s H E).xe := passes_of rfl
  exact (dss_one (ds_ret (de_cmp (o_eq hr.units) (dp_of (de_of (df_compC [("odd", 3)] 3 rfl sc__law_all_refused.nd (cellOk_def fun _ => rfl) (di_seq (de_var 1)) (blkOk_by (by rfl)) (fun s H C cl fp => pg_name sc__law_all_refused.nd rfl (by first | exact .inl rfl | exact .inr rfl) (by first | exact .inl rfl | exact .inr rfl)) (by decide) (fun s H C cl fp bc => (dts_one (dt_cmp (o_ne hr.units) (dp_of (de_lam lam0 [0, 3] c__law_error rfl takes0N (hr.mono (by decide)) TB ls_lam0 hm hu (cellOk_blk bc) ⟨⟨rfl, rfl, by first | exact .inl rfl | exact .inr rfl⟩, ⟨rfl, rfl, by first | exact .inl rfl | exact .inr rfl⟩, trivial⟩ (freeS_by (by rfl)) da_nil lena0)) (dp_var 2)))) (fun s H C cl fp bc => (de_var 3))))) (dp_of (de_of (df_lst da_nil lena0))))))
theorem ok__law_all_refused (c__law_error : GF P w K mg base 7 "_law_error" ["call"] (spT T K mg 1 g__law_error)) {cc PT : Addr} (TB : LamX.TabB base mg cc PT) (hm : (PT, (("_law_all_refused" : Str) ++ ".<locals>." ++ "<lambda>")) ∈ T) (hu : ∀ p ∈ T, p.1 = PT → p.2 = (("_law_all_refused" : Str) ++ ".<locals>." ++ "<lambda>")) (F : ∃ f fd, mg "_law_all_refused" = some (.ref f) ∧ FunD K "_law_all_refused" "_law_all_refused" (defArgs st__law_all_refused) (defBody st__law_all_refused) (defScope st__law_all_refused) [] [] f fd ∧ fd.code = .ref cc) (fr : ∀ x ∈ frees, mg x = none) : GF P w K mg base 8 "_law_all_refused" ["call", "odds", "name"] (spT T K mg 3 g__law_all_refused) := by
  obtain ⟨f, fd, hm2, F, hc⟩ := F
  exact ⟨f, fd, fn_TC F hc sc__law_all_refused (by decide) (body__law_all_refused fr c__law_error TB hm hu) (fun _ _ => .inr rfl), hm2, F.kp, F.bindsN fun _ _ _ _ _ _ us hl => match us, hl with | [_, _, _], _ => rfl⟩
theorem sc_law : FnScope ["script", "odds", "k", "vat", "turn", "poly_so", "far", "call", "at", "odd"] ["script"] (defScope st_law) := ⟨rfl, rfl, rfl, by decide +kernel, rfl, by decide +kernel, by decide +kernel⟩
noncomputable def m_law : MS := mSeq (mSet 1 (mLst (mCons (mC .non) (mCons (mB (mR []) (fun ds => mR (.tup ds))) (mCons (mLst (mCons (mC (.int 1)) (mCons (mC (.int 2)) (mR [])))) (mCons (mBin dMul (mB (mCons (mC (.int 1)) (mR [])) (fun ds => mR (.tup ds))) (mC (.int 7))) (mCons (mB (mCons (mC (.int 1)) (mCons (mC .non) (mR []))) (fun ds => mR (.tup ds))) (mCons (mB (mCons (mC (.bl true)) (mCons (mC (.int 1)) (mR []))) (fun ds => mR (.tup ds))) (mCons (mB (mCons (mBin dAdd (mBin dPow (mC (.int 10)) (mC (.int 6))) (mC (.int 1))) (mR [])) (fun ds => mR (.tup ds))) (mCons (mB (mCons (mC (.int 1)) (mCons (mBin dSub (mUn (fun i => -i) (mBin dPow (mC (.int 10)) (mC (.int 6)))) (mC (.int 1))) (mR []))) (fun ds => mR (.tup ds))) (mCons (mC (.str "12")) (mCons (mC (.int 5)) (mCons (mB (mCons (mC (.int 1)) (mCons (mC (.str "2")) (mR []))) (fun ds => mR (.tup ds))) (mR [])))))))))))))) (mSeq (mFor (mRng1 (mBin2 dMax (mC (.int 5)) (mBin2 dMin (mC (.int 11)) (mFn dLen (mPeek 0))))) (put 2) (mSeq (mSetO 3 (mCallF g__law_vat (mCons (mVar 0) (mCons (mVar 2) (mR []))))) (mSeq (mFor (mRng1 (mC (.int 5))) (put 4) (mSeq (mSet 5 (mCallM g__law_poly 3 (mR []))) (mIf (mNotT (mTst (mCallM g__law_right 3 (mCons (mVar 5) (mR []))))) (mRet (mC (.bl false))) (mNext)))) (mSeq (mSet 6 (mFn dTuple (mLst (mComp [8] (mRng1 (mC (.int 6))) (put 8) (mR true) (mBin dSub (mCallM g__law_under 3 (mCons (mBin dAdd (mBin dMul (mC (.int 2)) (mBin dPow (mC (.int 10)) (mC (.int 6)))) (mC (.int 1))) (mR []))) (mBin dPow (mC (.int 10)) (mC (.int 6)))))))) (mSeq (mIf (mNotT (mTst (mCallM g__law_right 3 (mCons (mVar 6) (mR []))))) (mRet (mC (.bl false))) (mNext)) (mSeq (mFor (mSrc (mB (mCons (mC (.glo "poly_one_to_one")) (mCons (mC (.glo "poly_all_words")) (mR []))) (fun ds => mR (.tup ds)))) (put 7) (mIf (mNotT (mTst (mCall g__law_all_refused (mCons (mVar 7) (mCons (mVar 1) (mCons (mC (.str "poly value")) (mR []))))))) (mRet (mC (.bl false))) (mNext))) (mSeq (mIf (mNotT (mTst (mCallLam g__law_all_refused lam1 [] (mCons (mVar 1) (mCons (mC (.str "poly value")) (mR [])))))) (mRet (mC (.bl false))) (mNext)) (mSeq (mIf (mNotT (mTst (mCallLam g__law_all_refused lam2 [5] (mCons (mLst (mCallF g__law_bad_widths (mCons (mC (.int 64)) (mR [])))) (mCons (mC (.str "width value")) (mR [])))))) (mRet (mC (.bl false))) (mNext)) (mIf (mNotT (mTst (mCallLam g__law_all_refused lam3 [5] (mCons (mLst (mCallF g__law_bad_words (mCons (mC (.int 4)) (mR [])))) (mCons (mC (.str "word value")) (mR [])))))) (mRet (mC (.bl false))) (mNext)))))))))) (mSeq (mIf (mOrT (mCmp bNe (mLst (mComp [9] (mSrc (mVar 1)) (put 9) (mCmp bIsNotC (mCall g_is_poly (mCons (mVar 9) (mR []))) (mC (.bl false))) (mVar 9))) (mLst (mR []))) (mCmp bIsNotC (mCall g_is_poly (mCons (mB (mCons (mC (.int 1)) (mCons (mC (.int 2)) (mR []))) (fun ds => mR (.tup ds))) (mR []))) (mC (.bl true)))) (mRet (mC (.bl false))) (mNext)) (mSeq (mIf (mOrT (mCmp bNe (mCall g_poly_comes (mCons (mB (mCons (mC (.int 1)) (mCons (mC (.int 0)) (mCons (mC (.int 2)) (mR [])))) (fun ds => mR (.tup ds))) (mCons (mC (.int 4)) (mCons (mC (.int 3)) (mR []))))) (mC (.int 3))) (mCmp bNe (mLst (mCons (mCall g_poly_one_to_one (mCons (mB (mCons (mC (.int 3)) (mCons (mC (.int 1)) (mCons (mC (.int 2)) (mR [])))) (fun ds => mR (.tup ds))) (mR []))) (mCons (mCall g_poly_one_to_one (mCons (mB (mCons (mC (.int 3)) (mCons (mC (.int 1)) (mCons (mC (.int 1)) (mR [])))) (fun ds => mR (.tup ds))) (mR []))) (mCons (mCall g_poly_one_to_one (mCons (mB (mCons (mC (.int 0)) (mCons (mC (.int 1)) (mCons (mC (.int 1)) (mCons (mC (.int 0)) (mCons (mC (.int 1)) (mR [])))))) (fun ds => mR (.tup ds))) (mR []))) (mR []))))) (mLst (mCons (mC (.bl true)) (mCons (mC (.bl false)) (mCons (mC (.bl true)) (mR []))))))) (mRet (mC (.bl false))) (mNext)) (mRet (mCmpV bEq (mLst (mCons (mCall g_poly_all_words (mCons (mB (mCons (mC (.int 1)) (mCons (mC (.int 1)) (mR []))) (fun ds => mR (.tup ds))) (mR []))) (mCons (mCall g_poly_all_words (mCons (mB (mCons (mC (.int 1)) (mCons (mC (.int 1)) (mCons (mC (.int 2)) (mR [])))) (fun ds => mR (.tup ds))) (mR []))) (mCons (mCall g_poly_all_words (mCons (mB (mCons (mC (.int 1)) (mCons (mC (.int 1)) (mCons (mC (.int 0)) (mCons (mC (.int 4)) (mR []))))) (fun ds => mR (.tup ds))) (mR []))) (mCons (mCall g_poly_all_words (mCons (mB (mCons (mC (.int 1)) (mCons (mC (.int 3)) (mR []))) (fun ds => mR (.tup ds))) (mR []))) (mCons (mCall g_poly_all_words (mCons (mB (mCons (mC (.int 7)) (mR [])) (fun ds => mR (.tup ds))) (mR []))) (mR []))))))) (mLst (mCons (mC (.bl true)) (mCons (mC (.bl false)) (mCons (mC (.bl true)) (mCons (mC (.bl false)) (mCons (mC (.bl false)) (mR []))))))))))))
noncomputable def g_law (ds : List D) : R D := runD m_law 10 ds
theorem body_law {f : Addr} (fr : ∀ x ∈ frees, mg x = none) (c__law_vat : GF P w K mg base 1 "_law_vat" ["script", "k"] (spF K mg 2 g__law_vat)) (c__law_poly : GF P w K mg base 2 "_law_poly" ["vat"] (spM K mg 1 g__law_poly)) (c__law_right : GF P w K mg base 5 "_law_right" ["vat", "poly_so"] (spM K mg 2 g__law_right)) (c__law_under : GF P w K mg base 1 "_law_under" ["vat", "many"] (spM K mg 2 g__law_under)) (c_poly_all_words : GF P w K mg base 4 "poly_all_words" ["poly"] (spD K mg 1 g_poly_all_words)) (c_poly_one_to_one : GF P w K mg base 4 "poly_one_to_one" ["poly"] (spD K mg 1 g_poly_one_to_one)) (c__law_all_refused : GF P w K mg base 8 "_law_all_refused" ["call", "odds", "name"] (spT T K mg 3 g__law_all_refused)) (c__law_bad_widths : GF P w K mg base 1 "_law_bad_widths" ["most"] (spF K mg 1 g__law_bad_widths)) (c__law_bad_words : GF P w K mg base 1 "_law_bad_words" ["width"] (spF K mg 1 g__law_bad_words)) (c_is_poly : GF P w K mg base 3 "is_poly" ["value"] (spD K mg 1 g_is_poly)) (c_poly_comes : GF P w K mg base 4 "poly_comes" ["poly", "width", "word"] (spD K mg 3 g_poly_comes)) {cc PT : Addr} (TB : LamX.TabB base mg cc PT) (hm : (PT, (("law" : Str) ++ ".<locals>." ++ "<lambda>")) ∈ T) (hu : ∀ p ∈ T, p.1 = PT → p.2 = (("law" : Str) ++ ".<locals>." ++ "<lambda>")) : BodyC P w K mg base ["script", "odds", "k", "vat", "turn", "poly_so", "far", "call", "at", "odd"] "law" st_law f 8 (some T) (.ref cc) m_law := by
  intro A outer s H E hr
  have tk : L2N.Takes (cxD P w K mg base ["script", "odds", "k", "vat", "turn", "poly_so", "far", "call", "at", "odd"] "law" st_law f (.ref cc) A outer s H E) (wE (some T) E).w := L2N.takes_of rfl rfl rfl rfl
  have po : PassesOwn (model P w) (cxD P w K mg base ["script", "odds", "k", "vat", "turn", "poly_so", "far", "call", "at", "odd"] "law" st_law f (.ref cc) A outer s H E).A (cxD P w K mg base ["script", "odds", "k", "vat", "turn", "poly_so", "far", "call", "at", "odd"] "law" st_law f (.ref cc) A outer s H E).env (cxD P w K mg base ["script", "odds", "k", "vat", "turn", "poly_so", "far", "call", "at", "odd"] "law" st_law f (.ref cc) A outer s H E).xe := passes_of rfl
  exact (dss_cons (ds_set 1 sc_law.nd (de_of (df_lst (da_cons de_non (da_cons (de_tup da_nil lena0) (da_cons (de_of (df_lst (da_cons de_int (da_cons de_int da_nil)) (lenac (lenac lena0)))) (da_cons (de_bin o_mul (de_tup (da_cons de_int da_nil) (lenac lena0)) (dp_of de_int)) (da_cons (de_tup (da_cons de_int (da_cons de_non da_nil)) (lenac (lenac lena0))) (da_cons (de_tup (da_cons de_bl (da_cons de_int da_nil)) (lenac (lenac lena0))) (da_cons (de_tup (da_cons (de_bin o_add (de_bin o_pow de_int (dp_of de_int)) (dp_of de_int)) da_nil) (lenac lena0)) (da_cons (de_tup (da_cons de_int (da_cons (de_bin o_sub (de_un un_neg (de_bin o_pow de_int (dp_of de_int))) (dp_of de_int)) da_nil)) (lenac (lenac lena0))) (da_cons de_str (da_cons de_int (da_cons (de_tup (da_cons de_int (da_cons de_str da_nil)) (lenac (lenac lena0))) da_nil))))))))))) (lenac (lenac (lenac (lenac (lenac (lenac (lenac (lenac (lenac (lenac (lenac lena0)))))))))))))) (dss_cons (ds_for po rfl (di_range1 rfl (fr "range" (by decide)) (de_max rfl rfl (fr "max" (by decide)) de_int (de_min rfl rfl (fr "min" (by decide)) de_int (de_b1 c_len rfl (fr "len" (by decide)) boot_len (dp_var 0))))) (dg_name 2 sc_law.nd) (dss_cons (ds_setO 3 sc_law.nd (df_callG c__law_vat tk (hr.mono (by decide)) (da_cons (de_var 0) (da_cons (de_var 2) da_nil)) (lenac (lenac lena0)))) (dss_cons (ds_for po rfl (di_range1 rfl (fr "range" (by decide)) de_int) (dg_name 4 sc_law.nd) (dss_cons (ds_set 5 sc_law.nd (de_callMG 3 c__law_poly tk (hr.mono (by decide)) da_nil lena0)) (dss_one (ds_if (dt_not (dt_val (de_callMG 3 c__law_right tk (hr.mono (by decide)) (da_cons (de_var 5) da_nil) (lenac lena0)))) (dss_one (ds_ret de_bl)) dss_nil)))) (dss_cons (ds_set 6 sc_law.nd (de_t1 c_tuple rfl (fr "tuple" (by decide)) (by decide +kernel) (dp_of (de_of (df_comp1 [("at", 8)] 8 rfl sc_law.nd (di_range1 rfl (fr "range" (by decide)) de_int) (blkOk_by (by rfl)) (fun s H C cl fp => pg_name sc_law.nd rfl (by first | exact .inl rfl | exact .inr rfl) (by first | exact .inl rfl | exact .inr rfl)) (by decide) (fun s H C cl fp => dts_nil) (fun s H C cl fp => (de_bin o_sub (de_callMG 3 c__law_under takes0N (hr.mono (by decide)) (da_cons (de_bin o_add (de_bin o_mul de_int (dp_of (de_bin o_pow de_int (dp_of de_int)))) (dp_of de_int)) da_nil) (lenac lena0)) (dp_of (de_bin o_pow de_int (dp_of de_int)))))))))) (dss_cons (ds_if (dt_not (dt_val (de_callMG 3 c__law_right tk (hr.mono (by decide)) (da_cons (de_var 6) da_nil) (lenac lena0)))) (dss_one (ds_ret de_bl)) dss_nil) (dss_cons (ds_for po rfl (di_seq (de_tup (da_cons (de_globG c_poly_one_to_one) (da_cons (de_globG c_poly_all_words) da_nil)) (lenac (lenac lena0)))) (dg_name 7 sc_law.nd) (dss_one (ds_if (dt_not (dt_val (de_callTG c__law_all_refused rfl tk (hr.mono (by decide)) (da_cons (de_var 7) (da_cons (de_var 1) (da_cons de_str da_nil))) (lenac (lenac (lenac lena0)))))) (dss_one (ds_ret de_bl)) dss_nil))) (dss_cons (ds_if (dt_not (dt_val (de_lam lam1 [] c__law_all_refused rfl tk (hr.mono (by decide)) TB ls_lam1 hm hu (cellOk_def fun _ => rfl) trivial (freeS_by (by rfl)) (da_cons (de_var 1) (da_cons de_str da_nil)) (lenac (lenac lena0))))) (dss_one (ds_ret de_bl)) dss_nil) (dss_cons (ds_if (dt_not (dt_val (de_lam lam2 [5] c__law_all_refused rfl tk (hr.mono (by decide)) TB ls_lam2 hm hu (cellOk_def fun _ => rfl) ⟨⟨rfl, rfl, by first | exact .inl rfl | exact .inr rfl⟩, trivial⟩ (freeS_by (by rfl)) (da_cons (de_of (df_callG c__law_bad_widths tk (hr.mono (by decide)) (da_cons de_int da_nil) (lenac lena0))) (da_cons de_str da_nil)) (lenac (lenac lena0))))) (dss_one (ds_ret de_bl)) dss_nil) (dss_one (ds_if (dt_not (dt_val (de_lam lam3 [5] c__law_all_refused rfl tk (hr.mono (by decide)) TB ls_lam3 hm hu (cellOk_def fun _ => rfl) ⟨⟨rfl, rfl, by first | exact .inl rfl | exact .inr rfl⟩, trivial⟩ (freeS_by (by rfl)) (da_cons (de_of (df_callG c__law_bad_words tk (hr.mono (by decide)) (da_cons de_int da_nil) (lenac lena0))) (da_cons de_str da_nil)) (lenac (lenac lena0))))) (dss_one (ds_ret de_bl)) dss_nil)))))))))) (dss_cons (ds_if (dt_of (dw_or (dt_cmp (o_ne hr.units) (dp_of (de_of (df_comp1 [("odd", 9)] 9 rfl sc_law.nd (di_seq (de_var 1)) (blkOk_by (by rfl)) (fun s H C cl fp => pg_name sc_law.nd rfl (by first | exact .inl rfl | exact .inr rfl) (by first | exact .inl rfl | exact .inr rfl)) (by decide) (fun s H C cl fp => (dts_one (dt_cmp o_isNot (dp_of (de_callG c_is_poly takes0N (hr.mono (by decide)) (da_cons (de_var 9) da_nil) (lenac lena0))) (dp_of de_bl)))) (fun s H C cl fp => (de_var 9))))) (dp_of (de_of (df_lst da_nil lena0)))) (dw_or1 (dt_cmp o_isNot (dp_of (de_callG c_is_poly tk (hr.mono (by decide)) (da_cons (de_tup (da_cons de_int (da_cons de_int da_nil)) (lenac (lenac lena0))) da_nil) (lenac lena0))) (dp_of de_bl))))) (dss_one (ds_ret de_bl)) dss_nil) (dss_cons (ds_if (dt_of (dw_or (dt_cmp (o_ne hr.units) (dp_of (de_callG c_poly_comes tk (hr.mono (by decide)) (da_cons (de_tup (da_cons de_int (da_cons de_int (da_cons de_int da_nil))) (lenac (lenac (lenac lena0)))) (da_cons de_int (da_cons de_int da_nil))) (lenac (lenac (lenac lena0))))) (dp_of de_int)) (dw_or1 (dt_cmp (o_ne hr.units) (dp_of (de_of (df_lst (da_cons (de_callG c_poly_one_to_one tk (hr.mono (by decide)) (da_cons (de_tup (da_cons de_int (da_cons de_int (da_cons de_int da_nil))) (lenac (lenac (lenac lena0)))) da_nil) (lenac lena0)) (da_cons (de_callG c_poly_one_to_one tk (hr.mono (by decide)) (da_cons (de_tup (da_cons de_int (da_cons de_int (da_cons de_int da_nil))) (lenac (lenac (lenac lena0)))) da_nil) (lenac lena0)) (da_cons (de_callG c_poly_one_to_one tk (hr.mono (by decide)) (da_cons (de_tup (da_cons de_int (da_cons de_int (da_cons de_int (da_cons de_int (da_cons de_int da_nil))))) (lenac (lenac (lenac (lenac (lenac lena0)))))) da_nil) (lenac lena0)) da_nil))) (lenac (lenac (lenac lena0)))))) (dp_of (de_of (df_lst (da_cons de_bl (da_cons de_bl (da_cons de_bl da_nil))) (lenac (lenac (lenac lena0)))))))))) (dss_one (ds_ret de_bl)) dss_nil) (dss_one (ds_ret (de_cmp (o_eq hr.units) (dp_of (de_of (df_lst (da_cons (de_callG c_poly_all_words tk (hr.mono (by decide)) (da_cons (de_tup (da_cons de_int (da_cons de_int da_nil)) (lenac (lenac lena0))) da_nil) (lenac lena0)) (da_cons (de_callG c_poly_all_words tk (hr.mono (by decide)) (da_cons (de_tup (da_cons de_int (da_cons de_int (da_cons de_int da_nil))) (lenac (lenac (lenac lena0)))) da_nil) (lenac lena0)) (da_cons (de_callG c_poly_all_words tk (hr.mono (by decide)) (da_cons (de_tup (da_cons de_int (da_cons de_int (da_cons de_int (da_cons de_int da_nil)))) (lenac (lenac (lenac (lenac lena0))))) da_nil) (lenac lena0)) (da_cons (de_callG c_poly_all_words tk (hr.mono (by decide)) (da_cons (de_tup (da_cons de_int (da_cons de_int da_nil)) (lenac (lenac lena0))) da_nil) (lenac lena0)) (da_cons (de_callG c_poly_all_words tk (hr.mono (by decide)) (da_cons (de_tup (da_cons de_int da_nil) (lenac lena0)) da_nil) (lenac lena0)) da_nil))))) (lenac (lenac (lenac (lenac (lenac lena0)))))))) (dp_of (de_of (df_lst (da_cons de_bl (da_cons de_bl (da_cons de_bl (da_cons de_bl (da_cons de_bl da_nil))))) (lenac (lenac (lenac (lenac (lenac lena0)))))))))))))))
theorem ok_law (c__law_vat : GF P w K mg base 1 "_law_vat" ["script", "k"] (spF K mg 2 g__law_vat)) (c__law_poly : GF P w K mg base 2 "_law_poly" ["vat"] (spM K mg 1 g__law_poly)) (c__law_right : GF P w K mg base 5 "_law_right" ["vat", "poly_so"] (spM K mg 2 g__law_right)) (c__law_under : GF P w K mg base 1 "_law_under" ["vat", "many"] (spM K mg 2 g__law_under)) (c_poly_all_words : GF P w K mg base 4 "poly_all_words" ["poly"] (spD K mg 1 g_poly_all_words)) (c_poly_one_to_one : GF P w K mg base 4 "poly_one_to_one" ["poly"] (spD K mg 1 g_poly_one_to_one)) (c__law_all_refused : GF P w K mg base 8 "_law_all_refused" ["call", "odds", "name"] (spT T K mg 3 g__law_all_refused)) (c__law_bad_widths : GF P w K mg base 1 "_law_bad_widths" ["most"] (spF K mg 1 g__law_bad_widths)) (c__law_bad_words : GF P w K mg base 1 "_law_bad_words" ["width"] (spF K mg 1 g__law_bad_words)) (c_is_poly : GF P w K mg base 3 "is_poly" ["value"] (spD K mg 1 g_is_poly)) (c_poly_comes : GF P w K mg base 4 "poly_comes" ["poly", "width", "word"] (spD K mg 3 g_poly_comes)) {cc PT : Addr} (TB : LamX.TabB base mg cc PT) (hm : (PT, (("law" : Str) ++ ".<locals>." ++ "<lambda>")) ∈ T) (hu : ∀ p ∈ T, p.1 = PT → p.2 = (("law" : Str) ++ ".<locals>." ++ "<lambda>")) (F : ∃ f fd, mg "law" = some (.ref f) ∧ FunD K "law" "law" (defArgs st_law) (defBody st_law) (defScope st_law) [] [] f fd ∧ fd.code = .ref cc) (fr : ∀ x ∈ frees, mg x = none) : GF P w K mg base 9 "law" ["script"] (spT T K mg 1 g_law) := by
  obtain ⟨f, fd, hm2, F, hc⟩ := F
  exact ⟨f, fd, fn_TC F hc sc_law (by decide) (body_law fr c__law_vat c__law_poly c__law_right c__law_under c_poly_all_words c_poly_one_to_one c__law_all_refused c__law_bad_widths c__law_bad_words c_is_poly c_poly_comes TB hm hu) (fun _ _ => .inr rfl), hm2, F.kp, F.bindsN fun _ _ _ _ _ _ us hl => match us, hl with | [_], _ => rfl⟩
end
end HD

set_option Elab.async false
set_option linter.all false
set_option autoImplicit false
set_option maxRecDepth 100000
set_option maxHeartbeats 0
namespace HD
open PySem PySem.Spec PyProof.Rows L2
def dOf (x : Str) (st : Stmt) : He.DefD := ⟨(x, none), x, x, defArgs st, defBody st, defScope st, [], []⟩
def hfn : List He.DefD := [dOf "is_whole" st_is_whole, dOf "need_width" st_need_width, dOf "need_word" st_need_word, dOf "is_good_poly" st_is_good_poly, dOf "need_poly" st_need_poly, dOf "made_by" st_made_by, dOf "is_poly" st_is_poly, dOf "poly_comes" st_poly_comes, dOf "poly_one_to_one" st_poly_one_to_one, dOf "poly_all_words" st_poly_all_words, dOf "_law_vat" st__law_vat, dOf "_law_under" st__law_under, dOf "_law_truly" st__law_truly, dOf "_law_bad_widths" st__law_bad_widths, dOf "_law_bad_words" st__law_bad_words, dOf "_law_poly" st__law_poly, dOf "_law_made" st__law_made, dOf "_law_right" st__law_right, dOf "_law_names" st__law_names, dOf "_law_error" st__law_error, dOf "_law_all_refused" st__law_all_refused, dOf "law" st_law]
def gloL : List Str := [("is_whole" : Str), ("need_width" : Str), ("need_word" : Str), ("is_good_poly" : Str), ("need_poly" : Str), ("made_by" : Str), ("is_poly" : Str), ("poly_comes" : Str), ("poly_one_to_one" : Str), ("poly_all_words" : Str), ("_law_vat" : Str), ("_law_under" : Str), ("_law_truly" : Str), ("_law_bad_widths" : Str), ("_law_bad_words" : Str), ("_law_poly" : Str), ("_law_made" : Str), ("_law_right" : Str), ("_law_names" : Str), ("_law_error" : Str), ("_law_all_refused" : Str), ("law" : Str), ("InvalidStep" : Str), ("InvalidWidth" : Str), ("InvalidWord" : Str), ("InvalidNumber" : Str), ("InvalidPoly" : Str), ("InvalidMould" : Str), ("InvalidFacts" : Str), ("InvalidText" : Str), ("InvalidBit" : Str), ("Unlike" : Str), ("NoWay" : Str), ("NothingToUndo" : Str), ("TooMany" : Str), ("BitError" : Str)]
def looseL : List Str := [("BitError" : Str), ("InvalidStep" : Str), ("InvalidWidth" : Str), ("InvalidWord" : Str), ("InvalidNumber" : Str), ("InvalidPoly" : Str), ("InvalidMould" : Str), ("InvalidFacts" : Str), ("InvalidText" : Str), ("InvalidBit" : Str), ("Unlike" : Str), ("NoWay" : Str), ("NothingToUndo" : Str), ("TooMany" : Str), ("is_whole" : Str), ("FAR_WIDTH" : Str), ("need_width" : Str), ("need_word" : Str), ("FAR" : Str), ("MOST_PARTS" : Str), ("is_good_poly" : Str), ("need_poly" : Str), ("made_by" : Str), ("is_poly" : Str), ("poly_comes" : Str), ("poly_one_to_one" : Str), ("poly_all_words" : Str), ("_law_vat" : Str), ("_law_under" : Str), ("_law_truly" : Str), ("_law_names" : Str), ("_law_error" : Str), ("_law_all_refused" : Str), ("_law_bad_widths" : Str), ("_law_bad_words" : Str), ("_law_poly" : Str), ("_law_made" : Str), ("_law_right" : Str)]
def intL : List (Str × Int) := [("FAR", 1000000), ("FAR_WIDTH", 64), ("MOST_PARTS", 6)]
def excL : List Str := ["InvalidWidth", "InvalidWord", "InvalidPoly"]
def hfa : List He.Fa := gloL.map He.Fa.glo ++ (frees.map He.Fa.free ++ (intL.map (fun p => He.Fa.int p.1 p.2) ++ excL.map He.Fa.exc))
theorem m_glo {x : Str} (h : x ∈ gloL) : He.Fa.glo x ∈ hfa := List.mem_append_left _ (List.mem_map.mpr ⟨x, h, rfl⟩)
theorem m_fre {x : Str} (h : x ∈ frees) : He.Fa.free x ∈ hfa := List.mem_append_right _ (List.mem_append_left _ (List.mem_map.mpr ⟨x, h, rfl⟩))
theorem m_int {x : Str} {i : Int} (h : (x, i) ∈ intL) : He.Fa.int x i ∈ hfa := List.mem_append_right _ (List.mem_append_right _ (List.mem_append_left _ (List.mem_map.mpr ⟨(x, i), h, rfl⟩)))
theorem m_exc {x : Str} (h : x ∈ excL) : He.Fa.exc x ∈ hfa := List.mem_append_right _ (List.mem_append_right _ (List.mem_append_right _ (List.mem_map.mpr ⟨x, h, rfl⟩)))
def htf : List He.Defn := [("_law_all_refused", none), ("law", none)]
def excCB (K : PySem.W.Frag) (D : Addr) : Bool := He.eqO (PySem.W.findIn K (.ref D) "__getattribute__") (some (some (.builtin "BaseException.__getattribute__"))) && (He.eqO (PySem.W.findIn K (.ref D) "__getattr__") (some none) && (decide (PySem.W.subIn K (.ref D) (.type "BaseException") = some true) && (PySem.W.hasDictIn K D &&
  (He.eqO (PySem.W.findIn K (.ref D) "__class__") (some (some (.builtin "object.__class__"))) && (He.eqO (PySem.W.specialIn K (.builtin "object.__class__") "__get__") (some (some (.builtin "getset_descriptor.__get__"))) && (decide (PySem.W.takesIn K (.builtin "object.__class__") = some true) && decide (PySem.W.mroIn K D (.type "object") = some true)))))))
theorem excC_by {K : PySem.W.Frag} {D : Addr} (h : excCB K D = true) : ExcC K D := by
  unfold excCB at h
  simp only [Bool.and_eq_true, decide_eq_true_eq] at h
  obtain ⟨h1, h2, h3, h4, h5, h6, h7, h8⟩ := h
  exact ⟨He.eqO_ok h1, He.eqO_ok h2, h3, h4, He.eqO_ok h5, He.eqO_ok h6, h7, h8⟩
def hex (K : PySem.W.Frag) : Bool := decide ((He.cT K ("_law_all_refused", none)).2 ≠ (He.cT K ("law", none)).2) && plainC.all fun c => excCB K (He.ga K c) && (ownC.all (fun x => decide (PySem.W.kitOne K (.ref (He.ga K c)) (.ref (He.ga K x)) = some (decide (c = x)))) &&
  (decide (PySem.W.kitOne K (.ref (He.ga K c)) (.type "ValueError") = some true) && decide (PySem.W.exmOne K (.ref (He.ga K c)) (.ref (He.ga K "BitError")) = some true)))
abbrev hrow : PySem.W.OpenRow := PySem.W.OpenLaw.row PySem.Challenge.rw_lowbitsalone_k05_whole_polynomials
abbrev hhk : PySem.W.Hook := He.hookX 4 hfa hfn [] htf hex
def hob (s : PySem.W.SharedT) : He.AlX := He.obsX 4 hfa hfn [] htf hex (HandSHeadRun.getT s)
theorem hob_eq (s : PySem.W.SharedT) : hob s = hhk.obs s.abs := He.obsX_eq (HandSHeadRun.getT_eq s)
theorem hrun0 (w : World) : HandSHeadRun.RunEq hrow (PySem.W.view hrow.prog [43]) (He.hookX 4 [] [] [] [] fun _ => true) (fun s => He.obsX 4 [] [] [] [] (fun _ => true) (HandSHeadRun.getT s)) 4000 looseL w := by
  intro os
  kernel_rfl
theorem hrun (w : World) : HandSHeadRun.RunEq hrow (PySem.W.view hrow.prog [43]) hhk hob 4000 looseL w := by
  intro os
  kernel_rfl
theorem free_all {K : PySem.W.Frag} {mg : Str → Option Value} {h : Heap} (X : K.In h) (G : h.Ns mainGlobals mg) (c : He.SaysD hfa hfn K) : ∀ x ∈ frees, mg x = none := fun x hx => He.free_ok X G (c.facts (m_fre hx))
theorem fnx {K : PySem.W.Frag} {mg : Str → Option Value} {h : Heap} (X : K.In h) (G : h.Ns mainGlobals mg) (c : He.SaysD hfa hfn K) {x : Str} {st : Stmt} (h1 : x ∈ gloL) (i : Nat) (h2 : hfn[i]? = some (dOf x st)) : FnX K mg x st := by
  obtain ⟨fd, F⟩ := c.def_ i h2
  exact ⟨_, fd, He.glo_ok X G (c.facts (m_glo h1)), F⟩
theorem fcode {K : PySem.W.Frag} {x : Str} {st : Stmt} {fd : FuncData} (F : FunD K x x (defArgs st) (defBody st) (defScope st) [] [] (He.ga K x) fd) : fd.code = .ref (He.cT K (x, none)).1 := by
  obtain ⟨oc, od, dV, kV, doc, pm, an, cdv, ct, osl, rfl, lk, hcd, _, _⟩ := F.ex
  obtain ⟨c0, hc0⟩ := He.codeIn_ref hcd
  show cdv = .ref (He.codeOf K (x, none))
  rw [He.codeOf_eq (p := (x, none)) lk (show (PySem.W.fnOf x x (defArgs st) (defBody st) (defScope st) dV kV doc pm an cdv ct).code = .ref c0 from hc0)]
  exact hc0
theorem fnc {K : PySem.W.Frag} {mg : Str → Option Value} {h : Heap} (X : K.In h) (G : h.Ns mainGlobals mg) (c : He.SaysD hfa hfn K) {x : Str} {st : Stmt} (h1 : x ∈ gloL) (i : Nat) (h2 : hfn[i]? = some (dOf x st)) : ∃ f fd, mg x = some (.ref f) ∧ FunD K x x (defArgs st) (defBody st) (defScope st) [] [] f fd ∧ fd.code = .ref (He.cT K (x, none)).1 := by
  obtain ⟨fd, F⟩ := c.def_ i h2
  have F : FunD K x x (defArgs st) (defBody st) (defScope st) [] [] (He.ga K x) fd := F
  refine ⟨_, fd, He.glo_ok X G (c.facts (m_glo h1)), F, ?_⟩
  obtain ⟨oc, od, dV, kV, doc, pm, an, cdv, ct, osl, rfl, lk, hcd, _, _⟩ := F.ex
  obtain ⟨c0, hc0⟩ := He.codeIn_ref hcd
  show cdv = .ref (He.codeOf K (x, none))
  rw [He.codeOf_eq (p := (x, none)) lk (show (PySem.W.fnOf x x (defArgs st) (defBody st) (defScope st) dV kV doc pm an cdv ct).code = .ref c0 from hc0)]
  exact hc0
theorem excK {K : PySem.W.Frag} {mg : Str → Option Value} {h : Heap} (X : K.In h) (G : h.Ns mainGlobals mg) (c : He.SaysD hfa hfn K) {x : Str} (h1 : x ∈ gloL) (h2 : x ∈ excL) : ∃ C, ExcK K mg x C := by
  have e : (He.Fa.exc x).ok K = true := c.facts (m_exc h2)
  obtain ⟨e1, e2⟩ := He.ba e
  obtain ⟨e2, e3⟩ := He.ba e2
  obtain ⟨e3, e4⟩ := He.ba e3
  exact ⟨_, He.glo_ok X G (c.facts (m_glo h1)), e1, e2, of_decide_eq_true e3, of_decide_eq_true e4⟩
theorem clsF {K : PySem.W.Frag} {mg : Str → Option Value} {h : Heap} (X : K.In h) (G : h.Ns mainGlobals mg) (c : He.SaysD hfa hfn K) (he : hex K = true) : ClsF K mg := fun x hx => by
  have gl : ∀ x ∈ ownC, x ∈ gloL := by decide +kernel
  have pl : ∀ x ∈ plainC, x ∈ ownC := by decide +kernel
  obtain ⟨_, e⟩ := He.ba he
  obtain ⟨e1, e2⟩ := He.ba (List.all_eq_true.mp e x hx)
  obtain ⟨e2, e3⟩ := He.ba e2
  obtain ⟨e3, e4⟩ := He.ba e3
  refine ⟨_, He.glo_ok X G (c.facts (m_glo (gl x (pl x hx)))), excC_by e1, fun y hy => ⟨_, He.glo_ok X G (c.facts (m_glo (gl y hy))), of_decide_eq_true (List.all_eq_true.mp e2 y hy)⟩, of_decide_eq_true e3, fun CB hB => ?_⟩
  have z := He.glo_ok X G (c.facts (m_glo (x := "BitError") (by decide +kernel)))
  rw [hB] at z
  cases z
  exact of_decide_eq_true e4
theorem facts {P : Program} {w : World} {K : PySem.W.Frag} {h : Heap} {mg : Str → Option Value} (X : K.In h) (G : h.Ns mainGlobals mg) (c : He.SaysX hfa hfn [] htf hex w h K) : ∀ base : Heap, K.In base → base.Ns mainGlobals mg → (∀ p ∈ htf.map (He.cT K), LamX.TabB base mg p.1 p.2) →
    ∀ fd, FunD K "law" "law" (defArgs st_law) (defBody st_law) (defScope st_law) [] [] (He.ga K "law") fd → FnOk P w K mg base (L2N.CX P w) 9 (He.ga K "law") fd ["script"] (spT [((He.cT K ("_law_all_refused", none)).2, (("_law_all_refused" : Str) ++ ".<locals>." ++ "<lambda>")), ((He.cT K ("law", none)).2, (("law" : Str) ++ ".<locals>." ++ "<lambda>"))] K mg 1 g_law) := by
  intro base _ _ TB
  have d : He.SaysD hfa hfn K := c.t.d
  have fr := free_all X G d
  obtain ⟨dis, _⟩ := He.ba c.more
  have dis : (He.cT K ("_law_all_refused", none)).2 ≠ (He.cT K ("law", none)).2 := of_decide_eq_true dis
  have fx := clsF X G d c.more
  have tb1 := TB (He.cT K ("_law_all_refused", none)) (by simp [htf])
  have tb2 := TB (He.cT K ("law", none)) (by simp [htf])
  have i_FAR := He.int_ok X G (d.facts (m_int (x := "FAR") (i := 1000000) (by decide +kernel)))
  have i_FAR_WIDTH := He.int_ok X G (d.facts (m_int (x := "FAR_WIDTH") (i := 64) (by decide +kernel)))
  have i_MOST_PARTS := He.int_ok X G (d.facts (m_int (x := "MOST_PARTS") (i := 6) (by decide +kernel)))
  have x_InvalidWidth := excK X G d (x := "InvalidWidth") (by decide +kernel) (by decide +kernel)
  have x_InvalidWord := excK X G d (x := "InvalidWord") (by decide +kernel) (by decide +kernel)
  have x_InvalidPoly := excK X G d (x := "InvalidPoly") (by decide +kernel) (by decide +kernel)
  have c_is_whole := ok_is_whole (P := P) (w := w) (base := base) (fnx X G d (by decide +kernel) 0 rfl) fr 
  have c_need_width := ok_need_width (P := P) (w := w) (base := base) (fnx X G d (by decide +kernel) 1 rfl) fr c_is_whole x_InvalidWidth
  have c_need_word := ok_need_word (P := P) (w := w) (base := base) (fnx X G d (by decide +kernel) 2 rfl) fr c_is_whole x_InvalidWord
  have c_is_good_poly := ok_is_good_poly (P := P) (w := w) (base := base) (fnx X G d (by decide +kernel) 3 rfl) fr c_is_whole i_MOST_PARTS i_FAR
  have c_need_poly := ok_need_poly (P := P) (w := w) (base := base) (fnx X G d (by decide +kernel) 4 rfl) fr c_is_good_poly x_InvalidPoly
  have c_made_by := ok_made_by (P := P) (w := w) (base := base) (fnx X G d (by decide +kernel) 5 rfl) fr 
  have c_is_poly := ok_is_poly (P := P) (w := w) (base := base) (fnx X G d (by decide +kernel) 6 rfl) fr c_is_good_poly
  have c_poly_comes := ok_poly_comes (P := P) (w := w) (base := base) (fnx X G d (by decide +kernel) 7 rfl) fr c_need_poly c_need_width c_need_word c_made_by i_FAR_WIDTH
  have c_poly_one_to_one := ok_poly_one_to_one (P := P) (w := w) (base := base) (fnx X G d (by decide +kernel) 8 rfl) fr c_need_poly c_made_by
  have c_poly_all_words := ok_poly_all_words (P := P) (w := w) (base := base) (fnx X G d (by decide +kernel) 9 rfl) fr c_need_poly c_made_by
  have c__law_vat := ok__law_vat (P := P) (w := w) (base := base) (fnx X G d (by decide +kernel) 10 rfl) fr 
  have c__law_under := ok__law_under (P := P) (w := w) (base := base) (fnx X G d (by decide +kernel) 11 rfl) fr 
  have c__law_truly := ok__law_truly (P := P) (w := w) (base := base) (fnx X G d (by decide +kernel) 12 rfl) fr 
  have c__law_bad_widths := ok__law_bad_widths (P := P) (w := w) (base := base) (fnx X G d (by decide +kernel) 13 rfl) fr 
  have c__law_bad_words := ok__law_bad_words (P := P) (w := w) (base := base) (fnx X G d (by decide +kernel) 14 rfl) fr 
  have c__law_poly := ok__law_poly (P := P) (w := w) (base := base) (fnx X G d (by decide +kernel) 15 rfl) fr c__law_under
  have c__law_made := ok__law_made (P := P) (w := w) (base := base) (fnx X G d (by decide +kernel) 16 rfl) fr 
  have c__law_right := ok__law_right (P := P) (w := w) (base := base) (fnx X G d (by decide +kernel) 17 rfl) fr c__law_made c__law_truly c_poly_one_to_one c_poly_all_words c__law_under c_is_poly c_poly_comes
  have nf := ok__law_names (P := P) (w := w) (base := base) (fnx X G d (by decide +kernel) 18 rfl) fr fx
  have ap1 := ok_app1 (T := [((He.cT K ("_law_all_refused", none)).2, (("_law_all_refused" : Str) ++ ".<locals>." ++ "<lambda>")), ((He.cT K ("law", none)).2, (("law" : Str) ++ ".<locals>." ++ "<lambda>"))]) c_poly_one_to_one c_poly_all_words c_poly_comes
  have c__law_error := ok__law_error (fnx X G d (by decide +kernel) 19 rfl) (ok_app2 ap1) nf fx ⟨_, He.glo_ok X G (d.facts (m_glo (x := "BitError") (by decide +kernel)))⟩
  have hu1 : ∀ p ∈ [((He.cT K ("_law_all_refused", none)).2, (("_law_all_refused" : Str) ++ ".<locals>." ++ "<lambda>")), ((He.cT K ("law", none)).2, (("law" : Str) ++ ".<locals>." ++ "<lambda>"))], p.1 = (He.cT K ("_law_all_refused", none)).2 → p.2 = (("_law_all_refused" : Str) ++ ".<locals>." ++ "<lambda>") := fun p hp e => by
    rcases List.mem_cons.mp hp with z | z
    · rw [z]
    · rw [List.mem_singleton.mp z] at e
      exact absurd e.symm dis
  have hu2 : ∀ p ∈ [((He.cT K ("_law_all_refused", none)).2, (("_law_all_refused" : Str) ++ ".<locals>." ++ "<lambda>")), ((He.cT K ("law", none)).2, (("law" : Str) ++ ".<locals>." ++ "<lambda>"))], p.1 = (He.cT K ("law", none)).2 → p.2 = (("law" : Str) ++ ".<locals>." ++ "<lambda>") := fun p hp e => by
    rcases List.mem_cons.mp hp with z | z
    · rw [z] at e
      exact absurd e dis
    · rw [List.mem_singleton.mp z]
  have c__law_all_refused := ok__law_all_refused c__law_error tb1 (List.mem_cons_self) hu1 (fnc X G d (by decide +kernel) 20 rfl) fr
  exact fun fd F => fn_TC F (fcode F) sc_law (by decide) (body_law fr c__law_vat c__law_poly c__law_right c__law_under c_poly_all_words c_poly_one_to_one c__law_all_refused c__law_bad_widths c__law_bad_words c_is_poly c_poly_comes tb2 (List.mem_cons_of_mem _ List.mem_cons_self) hu2) fun _ _ => .inr rfl
end HD

set_option Elab.async false
set_option linter.all false
set_option autoImplicit false
set_option maxRecDepth 100000
set_option maxHeartbeats 0
namespace HD
open PySem PySem.Spec PyProof.Rows L2
def LawTrue : Prop := ∀ ns : List Int, ns.length ≤ 63 → (∀ z ∈ ns, Builtin.Int.intBits z ≤ 1048576) → g_law [.lst (ns.map D.int)] = .ok (.bl true)
theorem hlaw (ht : LawTrue) : PySem.W.WalkO (PySem.W.view hrow.prog [43]) looseL (PySem.W.XL (PySem.W.view hrow.prog [43]) []) hhk.says hrow.toRowW (HandSHeadRun.topDef hrow.prog 43) [] (fun f vs => PySem.call f vs) := by
  refine LamX.walk_ofTsE (l := PySem.Challenge.rw_lowbitsalone_k05_whole_polynomials) (n := 63) (k := 9) (x := "script") (CX := fun w => L2N.CX (PySem.Challenge.rw_lowbitsalone_k05_whole_polynomials).prog w) rfl (by decide) (by kernel_rfl) ⟨rfl, by decide, by decide⟩ ?F ?C
  case C =>
    intro w H s e s' h
    obtain ⟨_, _, _, _, _, _, _, _, _, _, _, _, z⟩ := h
    exact z
  case F =>
    intro w mg fa h Y G hmg0
    obtain ⟨K, KX, c⟩ := Y
    have hmg : mg ("law" : PySem.Str) = some (.ref fa) := by
      have e : (HandSHeadRun.topDef hrow.prog 43).name = ("law" : PySem.Str) := by kernel_rfl
      rw [← e]
      exact hmg0
    have d : He.SaysD hfa hfn K := c.t.d
    have gl := He.glo_ok KX G (d.facts (m_glo (x := "law") (by decide +kernel)))
    rw [hmg] at gl
    have ef : fa = He.ga K "law" := by cases gl; rfl
    obtain ⟨fd, F⟩ := d.def_ 21 (d := dOf "law" st_law) rfl
    have F : FunD K "law" "law" (defArgs st_law) (defBody st_law) (defScope st_law) [] [] (He.ga K "law") fd := F
    have b := FunD.bindsA (ps := ["script"]) F fun _ _ _ _ _ _ us hl => match us, hl with | [_], _ => rfl
    subst ef
    refine ⟨K, KX, fd, htf.map (He.cT K), spT [((He.cT K ("_law_all_refused", none)).2, (("_law_all_refused" : Str) ++ ".<locals>." ++ "<lambda>")), ((He.cT K ("law", none)).2, (("law" : Str) ++ ".<locals>." ++ "<lambda>"))] K mg 1 g_law, fun p hp => ?_, fun p hp => ?_, fun p hp => ?_, fun s v => b s [v] rfl, fun H a ns hl hb hT hS => ?_, fun base kb gb TB => facts KX G c base kb gb TB fd F⟩
    · obtain ⟨q, hq, rfl⟩ := List.mem_map.mp hp
      exact c.empty q hq
    · obtain ⟨q, hq, rfl⟩ := List.mem_map.mp hp
      exact c.out q hq
    · obtain ⟨q, hq, rfl⟩ := List.mem_map.mp hp
      exact PySem.W.codeHd_of_K KX (c.hd q hq)
    · have t1 := hT (He.cT K ("_law_all_refused", none)) (by simp [htf])
      have t2 := hT (He.cT K ("law", none)) (by simp [htf])
      refine ⟨fun _ => False, [.lst (ns.map D.int)], rfl, fun p hp => ?_, fun _ z => z.elim, .cons ?_ .nil, ?_⟩
      · rcases List.mem_cons.mp hp with z | z
        · rw [z]; exact LamX.TabS.nil t1
        · rw [List.mem_singleton.mp z]; exact LamX.TabS.nil t2
      · rcases hS with hS | hS
        · exact .lst hS (fun z => z) (Rps.of_ints ns)
        · exact .lsk hS (Rps.of_ints ns)
      · rw [ht ns hl hb]
        exact fun v H' _ _ rv => by cases rv; rfl
end HD
open PySem PySem.W PySem.Calls PyProof.Rows
theorem k05_holds (ht : HD.LawTrue) : PySem.Challenge.rw_lowbitsalone_k05_whole_polynomials.Holds := by
  w_on; o_law
  refine HandSHeadRun.head_any (r := OpenLaw.row PySem.Challenge.rw_lowbitsalone_k05_whole_polynomials) (q := view (OpenLaw.row PySem.Challenge.rw_lowbitsalone_k05_whole_polynomials).prog [43]) (H := HD.hhk) (ob := HD.hob) (M := 4000) (loose := HD.looseL) (d := HandSHeadRun.topDef (OpenLaw.row PySem.Challenge.rw_lowbitsalone_k05_whole_polynomials).prog 43) (kwd := []) HD.hob_eq
    (by kernel_rfl) (fun s => by kernel_rfl) HD.hrun (by kernel_rfl) (by kernel_rfl) (by kernel_rfl) (by rfl) (by first | assumption | decide +kernel) (by decide +kernel) ⟨rfl, rfl, rfl, rfl, rfl, by decide +kernel⟩ ?hw (HD.hlaw ht)
  case hw => w_witness2

set_option Elab.async false
set_option linter.all false
set_option autoImplicit false
set_option maxRecDepth 100000
set_option maxHeartbeats 4000000
namespace HD
open PySem PySem.Spec PyProof.Rows L2
/-! ### the mirrors' parts, applied: by plain functions, never by a match in sight (the kernel unfolds a match at once and then evaluates) -/
/-- the ints below n -/
def upto (n : Nat) : List Int := (List.range n).map fun i : Nat => (i : Int)
theorem upto_D (n : Nat) : ((List.range n).map fun i => D.int (0 + (i : Nat))) = (upto n).map D.int := by
  simp [upto]
theorem upto_mem {n : Nat} {i : Int} (h : i ∈ upto n) : 0 ≤ i ∧ i < n := by
  obtain ⟨k, hk, rfl⟩ := List.mem_map.mp h
  have := List.mem_range.mp hk
  omega
theorem upto_len (n : Nat) : (upto n).length = n := by simp [upto]
def bR {α β : Type} (r : R (α × SD)) (k : α → SD → R (β × SD)) : R (β × SD) := match r with
  | .ok (a, s) => k a s
  | .exc c => .exc c
  | .bad => .bad
def bF {α : Type} (r : R (α × SD)) (k : α → SD → R Fl) : R Fl := match r with
  | .ok (a, s) => k a s
  | .exc c => .exc c
  | .bad => .bad
def oR {α : Type} (o : Option α) (sd : SD) : R (α × SD) := match o with
  | some a => .ok (a, sd)
  | none => .bad
def varR (o : Option (Option D)) (sd : SD) : R (D × SD) := match o with
  | some (some d) => if isOwn d = true then .bad else .ok (d, sd)
  | _ => .bad
def peekR (o : Option (Option D)) (sd : SD) : R (D × SD) := match o with
  | some (some d) => .ok (unOwn d, sd)
  | _ => .bad
def seqR (r : R Fl) (k : MS) : R Fl := match r with
  | .ok (.nx sd') => k sd'
  | r => r
def nxR (o : Option SD) : R Fl := match o with
  | some s => .ok (.nx s)
  | none => .bad
def tstK (d : D) : SD → R (Bool × SD) := match d with
  | .bl k => mR k
  | _ => fun _ => .bad
def andK (my : ME) (d : D) : ME := match d with
  | .bl true => my
  | .bl false => mR (.bl false)
  | _ => fun _ => .bad
def notK (d : D) : ME := match d with
  | .bl k => mR (.bl (!k))
  | _ => fun _ => .bad
def unK (g : Int → Int) (d : D) : ME := match d with
  | .int i => mR (.int (g i))
  | _ => fun _ => .bad
def appK (o : Option (List D)) (i : Nat) (d : D) (sd : SD) : R Fl := match o with
  | some ds => if ds.length < sizeLine then .ok (.nx (sd.set i (some (.own (ds ++ [d]))))) else .bad
  | none => .bad
def ifS {α : Type} (o : Option (List D)) (r : R α) : R α := match o with
  | some _ => r
  | none => .bad
def pixJ (o : Option Nat) (i : Nat) (ds : List D) (d : D) (sd : SD) : R Fl := match o with
  | some j => .ok (.nx (sd.set i (some (.own (ds.set j d)))))
  | none => .bad
def pixK (o : Option (List D)) (k : D) (i : Nat) (d : D) (sd : SD) : R Fl := match o, k with
  | some ds, .int k => pixJ (ixN ds.length k) i ds d sd
  | _, _ => .bad
def callR {α : Type} (r : R α) (sd : SD) : R (α × SD) := match r with
  | .ok d => .ok (d, sd)
  | .exc c => .exc c
  | .bad => .bad
def callM2 (r : R (D × List D)) (i : Nat) (sd : SD) : R (D × SD) := match r with
  | .ok (d, bs) => .ok (d, sd.set i (some (.own bs)))
  | _ => .bad
def callM1 (o : Option (List D)) (G : List D → List D → R (D × List D)) (ds : List D) (i : Nat) (sd : SD) : R (D × SD) := match o with
  | some as => callM2 (G as ds) i sd
  | none => .bad
def parK (o : Option SD) (f : SD → R Fl) : R Fl := match o with
  | some s => f s
  | none => .bad
def rngK (d : D) : SD → R (List D × SD) := match d with
  | .int n => if n < 2 ^ 62 ∧ -(2 ^ 62) ≤ n then mR ((upto n.toNat).map D.int) else fun _ => .bad
  | _ => fun _ => .bad
def revK (d : D) : SD → R (List D × SD) := match d with
  | .tup ds => mR ds.reverse
  | _ => fun _ => .bad
def revT (d : D) : ME := match d with
  | .tup ds => mR (.tup ds.reverse)
  | _ => fun _ => .bad
def compK (r : R (List D × SD)) (sd : SD) (vs : List Nat) : R (List D × SD) := match r with
  | .ok (out, sd') => .ok (out, backD sd sd' vs)
  | _ => .bad
def lamK2 (r : R D) (sd : SD) : R (D × SD) := match r with
  | .ok d => if noClo d = true then .ok (d, sd) else .bad
  | _ => .bad
def lamK (o : Option (List D)) (G : List D → R D) (l : Lam) (ds : List D) (sd : SD) : R (D × SD) := match o with
  | some cs => lamK2 (G (.clo l cs :: ds)) sd
  | none => .bad
def okSlot (o : Option (Option D)) : Bool := match o with
  | some (some d) => !isOwn d
  | _ => true
section
variable {α β : Type} {m : SD → R (α × SD)} {k : α → SD → R (β × SD)} {kf : α → SD → R Fl} {sd s : SD} {a : α} {c : Str} {me mx my mz : ME} {t u : SD → R (Bool × SD)} {s1 s2 : MS} {mf : MF} {i j : Nat} {d e : D} {ds es as bs : List D} {n : Int} {b : Bool} {x : Str}
theorem x_B : mB m k sd = bR (m sd) k := id rfl
theorem bR_ok : bR (.ok (a, s)) k = k a s := id rfl
theorem bR_exc : bR (.exc c) k = .exc c := id rfl
theorem bR_bad : bR .bad k = .bad := id rfl
theorem x_BS : mBS m kf sd = bF (m sd) kf := id rfl
theorem bF_ok : bF (.ok (a, s)) kf = kf a s := id rfl
theorem bF_exc : bF (.exc c) kf = .exc c := id rfl
theorem bF_bad : bF .bad kf = .bad := id rfl
theorem x_R : mR a sd = .ok (a, sd) := id rfl
theorem x_O (o : Option α) : mO o sd = oR o sd := id rfl
theorem oR_some : oR (some a) sd = .ok (a, sd) := id rfl
theorem oR_none : oR (none : Option α) sd = .bad := id rfl
theorem x_Var : mVar i sd = varR sd[i]? sd := id rfl
theorem varR_some : varR (some (some d)) sd = if isOwn d = true then .bad else .ok (d, sd) := id rfl
theorem x_Peek : mPeek i sd = peekR sd[i]? sd := id rfl
theorem peekR_some : peekR (some (some d)) sd = .ok (unOwn d, sd) := id rfl
theorem x_C : mC d sd = .ok (d, sd) := id rfl
theorem x_Lst : mLst mf sd = mB mf (fun ds => mR (.lst ds)) sd := id rfl
theorem x_Cons : mCons me mf sd = mB me (fun d => mB mf fun ds => mR (d :: ds)) sd := id rfl
theorem x_Seq : mSeq s1 s2 sd = seqR (s1 sd) s2 := id rfl
theorem seqR_nx : seqR (.ok (.nx s)) s2 = s2 s := id rfl
theorem seqR_rt : seqR (.ok (.rt d s)) s2 = .ok (.rt d s) := id rfl
theorem seqR_rf : seqR (.ok (.rf ds s)) s2 = .ok (.rf ds s) := id rfl
theorem seqR_exc : seqR (.exc c) s2 = .exc c := id rfl
theorem seqR_bad : seqR .bad s2 = .bad := id rfl
theorem x_Next : mNext sd = .ok (.nx sd) := id rfl
theorem x_Ret : mRet me sd = mBS me (fun d sd => .ok (.rt d sd)) sd := id rfl
theorem x_RetF : mRetF mf sd = mBS mf (fun d sd => .ok (.rf d sd)) sd := id rfl
theorem x_Drop : mDrop me sd = mBS me (fun _ sd => .ok (.nx sd)) sd := id rfl
theorem x_If : mIf t s1 s2 sd = mBS t (fun c sd => if c = true then s1 sd else s2 sd) sd := id rfl
theorem x_Set : mSet i me sd = mBS me (fun d sd => mPut i d sd) sd := id rfl
theorem x_Put : mPut i d sd = nxR (put i d sd) := id rfl
theorem nxR_some : nxR (some s) = .ok (.nx s) := id rfl
theorem nxR_none : nxR none = .bad := id rfl
theorem x_put : put i d sd = if (isOwn d = false ∧ free0 i sd = true ∧ i < sd.length) then some (sd.set i (some d)) else none := id rfl
theorem x_putO : putO i ds sd = if (free0 i sd = true ∧ i < sd.length) then some (sd.set i (some (.own ds))) else none := id rfl
theorem x_PutO : mPutO i ds sd = nxR (putO i ds sd) := id rfl
theorem x_SetO : mSetO i mf sd = mBS mf (fun ds sd => mPutO i ds sd) sd := id rfl
theorem x_Bin {f : D → D → Option D} : mBin f mx my sd = mB mx (fun x => mB my fun y => mO (f x y)) sd := id rfl
theorem x_BinF {f : D → D → Option (List D)} : mBinF f mx my sd = mB mx (fun x => mB my fun y => mO (f x y)) sd := id rfl
theorem x_Bin2 {f : D → D → Option D} : mBin2 f mx my sd = mB mx (fun x => mB my fun y => mO (f x y)) sd := id rfl
theorem x_Cmp {f : D → D → Option Bool} : mCmp f mx my sd = mB mx (fun x => mB my fun y => mO (f x y)) sd := id rfl
theorem x_CmpV {f : D → D → Option Bool} : mCmpV f mx my sd = mB mx (fun x => mB my fun y => mO ((f x y).map D.bl)) sd := id rfl
theorem x_Tst : mTst me sd = mB me tstK sd := id rfl
theorem tstK_bl : tstK (.bl b) sd = .ok (b, sd) := id rfl
theorem x_NotT : mNotT t sd = mB t (fun k => mR (!k)) sd := id rfl
theorem x_AndT : mAndT t u sd = mB t (fun k => if k = true then u else mR false) sd := id rfl
theorem x_OrT : mOrT t u sd = mB t (fun k => if k = true then mR true else u) sd := id rfl
theorem x_AndV : mAndV mx my sd = mB mx (andK my) sd := id rfl
theorem andK_t : andK my (.bl true) sd = my sd := id rfl
theorem andK_f : andK my (.bl false) sd = .ok (.bl false, sd) := id rfl
theorem x_NotV : mNotV mx sd = mB mx notK sd := id rfl
theorem notK_bl : notK (.bl b) sd = .ok (.bl (!b), sd) := id rfl
theorem x_IfE : mIfE t mx my sd = mB t (fun k => if k = true then mx else my) sd := id rfl
theorem x_Un {g : Int → Int} : mUn g mx sd = mB mx (unK g) sd := id rfl
theorem unK_int {g : Int → Int} : unK g (.int n) sd = .ok (.int (g n), sd) := id rfl
theorem x_Chain {f g : D → D → Option Bool} : mChain f g mx my mz sd = mB mx (fun x => mB my fun y => mB (mO (f x y)) fun k => if k = true then mB mz fun w => mO (g y w) else mR false) sd := id rfl
theorem x_ChainV {f g : D → D → Option Bool} : mChainV f g mx my mz sd = mB mx (fun x => mB my fun y => mB (mO (f x y)) fun k => if k = true then mB mz fun w => mO ((g y w).map D.bl) else mR (.bl false)) sd := id rfl
theorem x_Fn {g : D → Option D} : mFn g mx sd = mB mx (fun x => mO (g x)) sd := id rfl
theorem x_App : mApp i me sd = ifS (ownAt i sd) (mBS me (fun d sd => appK (ownAt i sd) i d sd) sd) := id rfl
theorem ifS_some {r : R α} : ifS (some ds) r = r := id rfl
theorem appK_some : appK (some ds) i d sd = if ds.length < sizeLine then .ok (.nx (sd.set i (some (.own (ds ++ [d]))))) else .bad := id rfl
theorem x_PutIx : mPutIx i mx my sd = mBS mx (fun d sd => ifS (ownAt i sd) (mBS my (fun k sd => pixK (ownAt i sd) k i d sd) sd)) sd := id rfl
theorem pixK_int : pixK (some ds) (.int n) i d sd = pixJ (ixN ds.length n) i ds d sd := id rfl
theorem pixJ_some : pixJ (some j) i ds d sd = .ok (.nx (sd.set i (some (.own (ds.set j d))))) := id rfl
theorem x_Call {G : List D → R D} : mCall G mf sd = mB mf (fun ds sd => callR (G ds) sd) sd := by
  unfold mCall
  congr 1
  funext ds sd
  cases G ds <;> rfl
theorem x_CallF {G : List D → R (List D)} : mCallF G mf sd = mB mf (fun ds sd => callR (G ds) sd) sd := by
  unfold mCallF
  congr 1
  funext ds sd
  cases G ds <;> rfl
theorem callR_ok : callR (.ok a) sd = .ok (a, sd) := id rfl
theorem callR_exc : callR (.exc c : R α) sd = .exc c := id rfl
theorem callR_bad : callR (.bad : R α) sd = .bad := id rfl
theorem x_CallM {G : List D → List D → R (D × List D)} : mCallM G i mf sd = ifS (ownAt i sd) (mB mf (fun ds sd => callM1 (ownAt i sd) G ds i sd) sd) := id rfl
theorem callM1_some {G : List D → List D → R (D × List D)} : callM1 (some as) G ds i sd = callM2 (G as ds) i sd := id rfl
theorem callM2_ok : callM2 (.ok (d, bs)) i sd = .ok (d, sd.set i (some (.own bs))) := id rfl
theorem x_Asg {asg : D → SD → Option SD} : mAsg asg me sd = mBS me (fun d sd => nxR (asg d sd)) sd := id rfl
theorem x_Par : mPar i j mx my sd = mBS mx (fun x => mBS my fun y sd => parK (put i x sd) (mPut j y)) sd := id rfl
theorem parK_some {f : SD → R Fl} : parK (some s) f = f s := id rfl
theorem x_ParO : mParO i j mx mf sd = mBS mx (fun x => mBS mf fun ys sd => parK (put i x sd) (mPutO j ys)) sd := id rfl
theorem x_Wh {fuel : SD → Nat} : mWh fuel t s1 sd = mWhile t s1 (fuel sd) sd := id rfl
theorem x_For {asg : D → SD → Option SD} : mFor mf asg s1 sd = mBS mf (fun ds sd => loopD asg s1 ds sd) sd := id rfl
theorem x_Src : mSrc me sd = mB me (fun d => mO (itemsD d)) sd := id rfl
theorem i_lst : itemsD (.lst ds) = some ds := id rfl
theorem i_tup : itemsD (.tup ds) = some ds := id rfl
theorem x_Rng1 : mRng1 me sd = mB me rngK sd := by
  unfold mRng1
  congr 1
  funext d sd
  cases d <;> first | rfl | (simp only [upto_D]; rfl)
theorem rngK_int (h : n < 2 ^ 62 ∧ -(2 ^ 62) ≤ n) : rngK (.int n) sd = .ok ((upto n.toNat).map D.int, sd) := by
  unfold rngK
  dsimp only
  rw [if_pos h]
  rfl
theorem rngK_nat {n : Nat} (h : n < 2 ^ 62) : rngK (.int (n : Int)) sd = .ok ((upto n).map D.int, sd) := rngK_int (n := (n : Int)) ⟨by exact_mod_cast h, by omega⟩
theorem x_RevT : mRevT me sd = mB me revT sd := id rfl
theorem revT_tup : revT (.tup ds) sd = .ok (.tup ds.reverse, sd) := id rfl
theorem x_Comp {vs : List Nat} {asg : D → SD → Option SD} : mComp vs mf asg t me sd = mB mf (fun ds sd => if noOwn sd vs = true then compK (compL asg t me vs ds (wipeD sd vs) []) sd vs else .bad) sd := id rfl
theorem compK_ok {vs : List Nat} : compK (.ok (ds, s)) sd vs = .ok (ds, backD sd s vs) := id rfl
theorem x_CallLam {G : List D → R D} {l : Lam} {is : List Nat} : mCallLam G l is mf sd = mB mf (fun ds sd => lamK (slotsD sd is) G l ds sd) sd := id rfl
theorem lamK_some {G : List D → R D} {l : Lam} : lamK (some es) G l ds sd = lamK2 (G (.clo l es :: ds)) sd := id rfl
theorem lamK2_ok : lamK2 (.ok d) sd = if noClo d = true then .ok (d, sd) else .bad := id rfl
theorem x_CallV {cal : D → Bool} {app : D → List D → R D} : mCallV cal app i mf sd = mB (mVar i) (fun d => if cal d = true then mB mf (fun ds sd => callR (app d ds) sd) else fun _ => .bad) sd := by
  unfold mCallV
  congr 1
  funext d sd
  split
  · congr 1
    funext ds sd
    cases app d ds <;> rfl
  · rfl
theorem o_int : isOwn (.int n) = false := id rfl
theorem o_bl : isOwn (.bl b) = false := id rfl
theorem o_non : isOwn .non = false := id rfl
theorem o_str : isOwn (.str x) = false := id rfl
theorem o_glo : isOwn (.glo x) = false := id rfl
theorem o_tup : isOwn (.tup ds) = false := id rfl
theorem o_lst : isOwn (.lst ds) = false := id rfl
theorem o_clo {l : Lam} : isOwn (.clo l ds) = false := id rfl
theorem o_own : isOwn (.own ds) = true := id rfl
theorem u_int : unOwn (.int n) = .int n := id rfl
theorem u_bl : unOwn (.bl b) = .bl b := id rfl
theorem u_non : unOwn .non = .non := id rfl
theorem u_str : unOwn (.str x) = .str x := id rfl
theorem u_glo : unOwn (.glo x) = .glo x := id rfl
theorem u_tup : unOwn (.tup ds) = .tup ds := id rfl
theorem u_lst : unOwn (.lst ds) = .lst ds := id rfl
theorem u_clo {l : Lam} : unOwn (.clo l ds) = .clo l ds := id rfl
theorem u_own : unOwn (.own ds) = .lst ds := id rfl
theorem unOwn_of (h : isOwn d = false) : unOwn d = d := by
  cases d <;> first | rfl | cases h
theorem own_at {n : Nat} (h : sd[i]? = some (some (.own ds))) : ownAt i sd = some ds := by
  unfold ownAt
  rw [h]
theorem own0 {l : SD} : ownAt 0 (some (.own ds) :: l) = some ds := id rfl
theorem ownS {o : Option D} {l : SD} : ownAt (i + 1) (o :: l) = ownAt i l := by
  unfold ownAt
  rw [List.getElem?_cons_succ]
theorem free_S : free0 (i + 1) sd = true := id rfl
theorem free_0 {l : SD} : free0 0 (some d :: l) = !isOwn d := id rfl
theorem free_n {l : SD} : free0 0 (none :: l) = true := id rfl
theorem dAdd_int {m : Int} : dAdd (.int n) (.int m) = some (.int (n + m)) := id rfl
theorem dSub_int {m : Int} : dSub (.int n) (.int m) = some (.int (n - m)) := id rfl
theorem bLt_int {m : Int} : bLt (.int n) (.int m) = some (decide (n < m)) := id rfl
theorem bLe_int {m : Int} : bLe (.int n) (.int m) = some (decide (n ≤ m)) := id rfl
theorem bGt_int {m : Int} : bGt (.int n) (.int m) = some (decide (m < n)) := id rfl
theorem bGe_int {m : Int} : bGe (.int n) (.int m) = some (decide (m ≤ n)) := id rfl
theorem bEq_int {m : Int} : bEq (.int n) (.int m) = some (decide (n = m)) := id rfl
theorem bEq_bl {c : Bool} : bEq (.bl b) (.bl c) = some (decide (b = c)) := id rfl
theorem bEq_str {y : Str} : bEq (.str x) (.str y) = some (decide (x = y)) := id rfl
theorem bNe_int {m : Int} : bNe (.int n) (.int m) = some (!decide (n = m)) := id rfl
theorem bNe_bl {c : Bool} : bNe (.bl b) (.bl c) = some (!decide (b = c)) := id rfl
theorem bNe_str {y : Str} : bNe (.str x) (.str y) = some (!decide (x = y)) := id rfl
theorem dLen_lst : dLen (.lst ds) = some (.int ds.length) := id rfl
theorem dLen_tup : dLen (.tup ds) = some (.int ds.length) := id rfl
theorem dTup_lst : dTuple (.lst ds) = some (.tup ds) := id rfl
theorem dTup_tup : dTuple (.tup ds) = some (.tup ds) := id rfl
theorem dIx_lst : dIx (.lst ds) (.int n) = atI ds n := id rfl
theorem dIx_tup : dIx (.tup ds) (.int n) = atI ds n := id rfl
theorem x_noOwn0 : noOwn sd [] = true := id rfl
theorem x_noOwn1 {is : List Nat} : noOwn sd (i :: is) = (okSlot sd[i]? && noOwn sd is) := by
  unfold noOwn
  rw [List.all_cons]
  congr 1
theorem okSlot_some : okSlot (some (some d)) = !isOwn d := id rfl
theorem okSlot_n : okSlot (some none) = true := id rfl
theorem okSlot_nn : okSlot none = true := id rfl
theorem putTup_tup {k : Nat} {r : List D → SD → Option SD} : putTup k r (.tup ds) sd = if ds.length = k then r ds sd else none := by
  first | exact id rfl | rfl
theorem if_t {sd1 : SD} (h : t sd = .ok (true, sd1)) : mIf t s1 s2 sd = s1 sd1 := by
  rw [x_If, x_BS, h, bF_ok]
  rfl
theorem if_f {sd1 : SD} (h : t sd = .ok (false, sd1)) : mIf t s1 s2 sd = s2 sd1 := by
  rw [x_If, x_BS, h, bF_ok]
  rfl
theorem seq_nx {sd1 : SD} (h : s1 sd = .ok (.nx sd1)) : mSeq s1 s2 sd = s2 sd1 := by
  rw [x_Seq, h, seqR_nx]
theorem while_stop {n : Nat} {sd1 : SD} (h : t sd = .ok (false, sd1)) : mWhile t s1 (n + 1) sd = .ok (.nx sd1) := by
  rw [mWhile, x_BS, h, bF_ok]
  rfl
theorem while_next {n : Nat} {sd1 sd2 : SD} (h : t sd = .ok (true, sd1)) (h2 : s1 sd1 = .ok (.nx sd2)) : mWhile t s1 (n + 1) sd = mWhile t s1 n sd2 := by
  rw [mWhile, x_BS, h, bF_ok]
  simp only [if_true, h2]
theorem loop_next {asg : D → SD → Option SD} {sd1 sd2 : SD} (h : asg d sd = some sd1) (h2 : s1 sd1 = .ok (.nx sd2)) : loopD asg s1 (d :: ds) sd = loopD asg s1 ds sd2 := by
  rw [loopD, h]
  simp only [h2]
end
end HD

set_option Elab.async false
set_option linter.all false
set_option autoImplicit false
set_option maxRecDepth 100000
set_option maxHeartbeats 4000000
namespace HD
open PySem PySem.Spec PyProof.Rows L2
/-! ### the plain law: the mirrors evaluated -/
theorem isi_int_int (n : Int) : dIsi "int" (.int n) = some (.bl true) := rfl
theorem isi_bool_int (n : Int) : dIsi "bool" (.int n) = some (.bl false) := rfl
theorem isi_int_bl (n : Bool) : dIsi "int" (.bl n) = some (.bl true) := rfl
theorem isi_bool_bl (n : Bool) : dIsi "bool" (.bl n) = some (.bl true) := rfl
theorem isi_int_non : dIsi "int" .non = some (.bl false) := rfl
theorem isi_int_str (x : Str) : dIsi "int" (.str x) = some (.bl false) := rfl
theorem isi_int_tup (x : List D) : dIsi "int" (.tup x) = some (.bl false) := rfl
theorem isi_tup_tup (x : List D) : dIsi "tuple" (.tup x) = some (.bl true) := rfl
theorem is_whole_int (n lo hi : Int) : g_is_whole [.int n, .int lo, .int hi] = .ok (.bl (decide (lo ≤ n) && decide (n ≤ hi))) := by
  by_cases h : lo ≤ n <;> simp [g_is_whole, runD, m_is_whole, startD, mRet, mBS, mAndV, mFn, mB, mPeek, mO, mNotV, mChainV, mVar, bLe, h, isOwn, mR, unOwn, f2B, isi_int_int, isi_bool_int]
theorem is_whole_bl (n : Bool) (lo hi : Int) : g_is_whole [.bl n, .int lo, .int hi] = .ok (.bl false) := rfl
theorem is_whole_non (lo hi : Int) : g_is_whole [.non, .int lo, .int hi] = .ok (.bl false) := rfl
theorem is_whole_str (x : Str) (lo hi : Int) : g_is_whole [.str x, .int lo, .int hi] = .ok (.bl false) := rfl
theorem is_whole_tup (x : List D) (lo hi : Int) : g_is_whole [.tup x, .int lo, .int hi] = .ok (.bl false) := rfl
theorem need_width_int (n : Int) (h1 : 0 ≤ n) (h2 : n ≤ 64) : g_need_width [.int n, .int 64] = .ok .non := by
  simp [g_need_width, m_need_width, runD, startD, mIf, mBS, mNotT, mTst, mCall, mB, mCons, mVar, mC, mR, isOwn, is_whole_int, h1, h2, mNext]
theorem dShl_one {n : Int} (h1 : 0 ≤ n) (h2 : n ≤ 64) : dShl (.int 1) (.int n) = some (.int (2 ^ n.toNat)) := by
  have e : (Builtin.Int.intBits 1 : Int) + n ≤ 134217728 := by
    have : Builtin.Int.intBits 1 = 1 := by decide +kernel
    rw [this]; omega
  show Option.map D.int (if 0 ≤ n ∧ (Builtin.Int.intBits 1 : Int) + n ≤ 134217728 then some (1 * 2 ^ n.toNat) else none) = _
  rw [if_pos ⟨h1, e⟩, Int.one_mul]
  rfl
theorem need_word_int (w n : Int) (h1 : 0 ≤ w) (h2 : w ≤ 64) (h3 : 0 ≤ n) (h4 : n < 2 ^ w.toNat) : g_need_word [.int w, .int n] = .ok .non := by
  have h5 : n ≤ 2 ^ w.toNat - 1 := by omega
  simp [g_need_word, m_need_word, runD, startD, mIf, mBS, mNotT, mTst, mCall, mB, mCons, mVar, mC, mR, isOwn, is_whole_int, h1, h2, mNext, mBin, mPeek, unOwn, mO, dShl_one h1 h2, dSub, f2I, h3, h5]
theorem isi_tup (d : D) (h : ∀ ds, d ≠ .tup ds) (e : (dIsi "tuple" d).isSome) : dIsi "tuple" d = some (.bl false) := by
  cases d <;> first | rfl | exact absurd rfl (h _) | cases e
end HD

set_option Elab.async false
set_option linter.all false
set_option autoImplicit false
set_option maxRecDepth 100000
set_option maxHeartbeats 4000000
namespace HD
open PySem PySem.Spec PyProof.Rows L2
theorem compL_map {asg : D → SD → Option SD} {mt : SD → R (Bool × SD)} {me : ME} {vs : List Nat} (f : D → D) (sd : SD) : ∀ (ds acc : List D),
    (∀ d ∈ ds, ∃ sd1, asg d sd = some sd1 ∧ mt sd1 = .ok (true, sd1) ∧ ∃ sd3, me sd1 = .ok (f d, sd3) ∧ noOwn sd3 vs = true ∧ wipeD sd3 vs = sd) → acc.length + ds.length ≤ sizeLine →
    compL asg mt me vs ds sd acc = .ok (acc ++ ds.map f, sd)
  | [], acc, _, _ => by simp [compL]
  | d :: ds, acc, h, hl => by
    obtain ⟨sd1, h1, h2, sd3, h3, h4, h5⟩ := h d (by simp)
    simp only [List.length_cons] at hl
    rw [compL, h1]
    simp only [h2, h3]
    rw [if_pos ⟨h4, by omega⟩, h5, compL_map f sd ds (acc ++ [f d]) (fun d hd => h d (by simp [hd])) (by simp; omega)]
    simp
theorem compL_inv {asg : D → SD → Option SD} {mt : SD → R (Bool × SD)} {me : ME} {vs : List Nat} (I : SD → Prop) (P : D → Prop) : ∀ (ds acc : List D) (sd : SD), I sd →
    (∀ d ∈ ds, ∀ sd, I sd → ∃ sd1, asg d sd = some sd1 ∧ mt sd1 = .ok (true, sd1) ∧ ∃ e sd3, me sd1 = .ok (e, sd3) ∧ P e ∧ noOwn sd3 vs = true ∧ I (wipeD sd3 vs)) → acc.length + ds.length ≤ sizeLine →
    ∃ es sd', compL asg mt me vs ds sd acc = .ok (acc ++ es, sd') ∧ es.length = ds.length ∧ (∀ e ∈ es, P e) ∧ I sd'
  | [], acc, sd, i, _, _ => ⟨[], sd, by simp [compL], rfl, by simp, i⟩
  | d :: ds, acc, sd, i, h, hl => by
    obtain ⟨sd1, h1, h2, e, sd3, h3, p, h4, h5⟩ := h d (by simp) sd i
    simp only [List.length_cons] at hl
    obtain ⟨es, sd', e1, e2, e3, e4⟩ := compL_inv I P ds (acc ++ [e]) _ h5 (fun d hd => h d (by simp [hd])) (by simp; omega)
    refine ⟨e :: es, sd', ?_, by simp [e2], ?_, e4⟩
    · rw [compL, h1]
      simp only [h2, h3]
      rw [if_pos ⟨h4, by omega⟩, e1]
      simp
    · intro x hx
      rcases List.mem_cons.mp hx with z | z
      · rw [z]; exact p
      · exact e3 x z
theorem loopD_inv {asg : D → SD → Option SD} {body : MS} (I : SD → Prop) : ∀ (ds : List D) (sd : SD), I sd → (∀ d ∈ ds, ∀ sd, I sd → ∃ sd1, asg d sd = some sd1 ∧ ∃ sd2, body sd1 = .ok (.nx sd2) ∧ I sd2) → ∃ sd', loopD asg body ds sd = .ok (.nx sd') ∧ I sd'
  | [], sd, i, _ => ⟨sd, rfl, i⟩
  | d :: ds, sd, i, h => by
    obtain ⟨sd1, h1, sd2, h2, i2⟩ := h d (by simp) sd i
    obtain ⟨sd', e, i'⟩ := loopD_inv I ds sd2 i2 fun d hd => h d (by simp [hd])
    refine ⟨sd', ?_, i'⟩
    rw [loopD, h1]
    simp only [h2]
    exact e
end HD

set_option Elab.async false
set_option linter.all false
set_option autoImplicit false
set_option maxRecDepth 100000
set_option maxHeartbeats 4000000
namespace HD
/-! ### the mathematics of the polynomials -/
theorem pig : ∀ (m : Nat) (ns : List Int), ns.Nodup → (∀ n ∈ ns, 0 ≤ n ∧ n < m) → ns.length ≤ m
  | 0, ns, _, h => by
    cases ns with
    | nil => simp
    | cons n ns => have := h n (by simp); omega
  | m + 1, ns, hn, h => by
    have a := pig m (ns.erase (m : Int)) (hn.erase _) (fun n hn' => by
      have z := (hn.mem_erase_iff).mp hn'
      have := h n z.2
      have := z.1
      omega)
    have b := List.length_erase (a := (m : Int)) (l := ns)
    split at b <;> omega
/-- the value of a polynomial -/
def hor (cs : List Int) (x : Int) : Int := cs.foldr (fun c a => a * x + c) 0
theorem hor_cons (c : Int) (cs : List Int) (x : Int) : hor (c :: cs) x = hor cs x * x + c := rfl
/-- its difference, divided -/
def quo : List Int → Int → Int → Int
  | [], _, _ => 0
  | _ :: cs, x, y => hor cs x + y * quo cs x y
theorem hor_quo (x y : Int) : ∀ cs, hor cs x - hor cs y = (x - y) * quo cs x y
  | [] => by simp [hor, quo]
  | c :: cs => by
    have ih := hor_quo x y cs
    rw [hor_cons, hor_cons, quo]
    grind
/-- equal but for a multiple -/
abbrev Cg (m a b : Int) : Prop := m ∣ a - b
theorem Cg.refl (m a : Int) : Cg m a a := ⟨0, by simp⟩
theorem Cg.symm {m a b : Int} (h : Cg m a b) : Cg m b a := by
  obtain ⟨k, e⟩ := h
  exact ⟨-k, by rw [Int.mul_neg, ← e]; omega⟩
theorem Cg.trans {m a b c : Int} (h : Cg m a b) (h' : Cg m b c) : Cg m a c := by
  obtain ⟨k, e⟩ := h
  obtain ⟨k', e'⟩ := h'
  exact ⟨k + k', by rw [Int.mul_add, ← e, ← e']; omega⟩
theorem Cg.add {m a b c d : Int} (h : Cg m a b) (h' : Cg m c d) : Cg m (a + c) (b + d) := by
  obtain ⟨k, e⟩ := h
  obtain ⟨k', e'⟩ := h'
  exact ⟨k + k', by rw [Int.mul_add, ← e, ← e']; omega⟩
theorem Cg.mul {m a b c d : Int} (h : Cg m a b) (h' : Cg m c d) : Cg m (a * c) (b * d) := by
  obtain ⟨k, e⟩ := h
  obtain ⟨k', e'⟩ := h'
  exact ⟨k * c + b * k', by grind⟩
theorem cg_hor {m x y : Int} (h : Cg m x y) (cs : List Int) : Cg m (hor cs x) (hor cs y) := by
  obtain ⟨k, e⟩ := h
  exact ⟨k * quo cs x y, by rw [hor_quo, e]; grind⟩
theorem cg_quo {m x y u v : Int} (h : Cg m x u) (h' : Cg m y v) : ∀ cs, Cg m (quo cs x y) (quo cs u v)
  | [] => Cg.refl m _
  | c :: cs => (cg_hor h cs).add (h'.mul (cg_quo h h' cs))
theorem quo_two (x : Int) : ∀ cs, Cg 4 (quo cs (x + 2) (x + 2)) (quo cs x x)
  | [] => Cg.refl 4 _
  | c :: cs => by
    have ih := quo_two x cs
    have q := hor_quo (x + 2) x cs
    have r : Cg 2 (quo cs (x + 2) x) (quo cs x x) := cg_quo ⟨1, by omega⟩ (Cg.refl 2 x) cs
    obtain ⟨k, e⟩ := ih
    obtain ⟨l, e'⟩ := r
    rw [quo, quo]
    refine ⟨l + (quo cs x x) + x * k + 2 * k, ?_⟩
    grind
theorem quo_even (x : Int) (cs : List Int) : ∀ k : Nat, Cg 4 (quo cs (x + 2 * k) (x + 2 * k)) (quo cs x x)
  | 0 => by simpa using Cg.refl 4 _
  | k + 1 => by
    have := quo_two (x + 2 * k) cs
    have e : x + 2 * ((k + 1 : Nat) : Int) = x + 2 * k + 2 := by omega
    rw [e]
    exact this.trans (quo_even x cs k)
theorem quo_par {x y : Int} (h : Cg 2 x y) (cs : List Int) : Cg 4 (quo cs x x) (quo cs y y) := by
  obtain ⟨k, e⟩ := h
  rcases Int.le_total 0 k with hk | hk
  · have := quo_even y cs k.toNat
    rw [show y + 2 * (k.toNat : Int) = x by omega] at this
    exact this
  · have := quo_even x cs (-k).toNat
    rw [show x + 2 * ((-k).toNat : Int) = y by omega] at this
    exact this.symm
end HD

set_option Elab.async false
set_option linter.all false
set_option autoImplicit false
set_option maxRecDepth 100000
set_option maxHeartbeats 4000000
namespace HD
theorem pigN (g : Nat → Int) (n m : Nat) (h : ∀ i, i < n → 0 ≤ g i ∧ g i < m) (hd : ∀ i j, i < j → j < n → g i ≠ g j) : n ≤ m := by
  have a := pig m ((List.range n).map g) (by
    unfold List.Nodup
    rw [List.pairwise_iff_getElem]
    intro i j hi hj hij
    simp at hi hj ⊢
    exact hd i j hij hj) (by
    intro x hx
    obtain ⟨i, hi, rfl⟩ := List.mem_map.mp hx
    exact h i (List.mem_range.mp hi))
  simpa using a
theorem odd_dvd (q : Int) (hq : ¬ 2 ∣ q) : ∀ (k : Nat) (a : Int), (2 : Int) ^ k ∣ a * q → (2 : Int) ^ k ∣ a
  | 0, a, _ => ⟨a, by simp⟩
  | k + 1, a, ⟨c, e⟩ => by
    obtain ⟨b, rfl⟩ : (2 : Int) ∣ a := by
      have e2 : (2 : Int) ∣ a * q := ⟨2 ^ k * c, by rw [e, Int.pow_succ]; grind⟩
      rcases Int.emod_two_eq a with ha | ha
      · exact Int.dvd_of_emod_eq_zero ha
      · exfalso
        have hq1 : q % 2 = 1 := by omega
        have : (a * q) % 2 = 1 := by rw [Int.mul_emod, ha, hq1]; rfl
        omega
    have h2 : (2 : Int) ^ k ∣ b * q := ⟨c, by
      have : 2 * (b * q) = 2 * (2 ^ k * c) := by rw [← Int.mul_assoc, e, Int.pow_succ]; grind
      omega⟩
    obtain ⟨d, e3⟩ := odd_dvd q hq k b h2
    exact ⟨d, by rw [e3, Int.pow_succ]; grind⟩
/-- no two words below 2 ^ w with one value -/
def Inj (cs : List Int) (w : Nat) : Prop := ∀ i j : Nat, i < j → j < 2 ^ w → ¬ Cg (2 ^ w) (hor cs i) (hor cs j)
theorem inj_up (cs : List Int) (h : Inj cs 2) : Inj cs 7 := by
  have h01 := h 0 1 (by decide) (by decide)
  have h02 := h 0 2 (by decide) (by decide)
  have h03 := h 0 3 (by decide) (by decide)
  have h12 := h 1 2 (by decide) (by decide)
  have h13 := h 1 3 (by decide) (by decide)
  have h23 := h 2 3 (by decide) (by decide)
  have c02 : Cg 2 (hor cs 0) (hor cs 2) := cg_hor ⟨-1, by decide⟩ cs
  have c13 : Cg 2 (hor cs 1) (hor cs 3) := cg_hor ⟨-1, by decide⟩ cs
  have q0 := hor_quo 2 0 cs
  have q1 := hor_quo 3 1 cs
  have r0 : Cg 2 (quo cs 2 0) (quo cs 0 0) := cg_quo ⟨1, by decide⟩ (Cg.refl 2 0) cs
  have r1 : Cg 2 (quo cs 3 1) (quo cs 1 1) := cg_quo ⟨1, by decide⟩ (Cg.refl 2 1) cs
  have hp : ¬ Cg 2 (hor cs 0) (hor cs 1) := by
    intro hc
    simp only [Cg] at *
    have := pigN (fun i => hor cs i % 4 / 2) 3 2 (fun i _ => by omega) (fun i j hij hj => by
      have : (i = 0 ∧ j = 1) ∨ (i = 0 ∧ j = 2) ∨ (i = 1 ∧ j = 2) := by omega
      rcases this with ⟨rfl, rfl⟩ | ⟨rfl, rfl⟩ | ⟨rfl, rfl⟩ <;> simp <;> simp at h01 h02 h12 <;> omega)
    omega
  have o0 : ¬ 2 ∣ quo cs 0 0 := by
    simp only [Cg] at *
    simp at h02
    omega
  have o1 : ¬ 2 ∣ quo cs 1 1 := by
    simp only [Cg] at *
    simp at h13
    omega
  intro i j hij hj hc
  by_cases hpar : Cg 2 (i : Int) (j : Int)
  · have e := hor_quo i j cs
    have r : Cg 2 (quo cs i j) (quo cs i i) := cg_quo (Cg.refl 2 _) hpar.symm cs
    have o : ¬ 2 ∣ quo cs i j := by
      rcases Nat.mod_two_eq_zero_or_one i with hi | hi
      · have := quo_par (x := i) (y := 0) (by simp only [Cg]; omega) cs
        simp only [Cg] at *
        omega
      · have := quo_par (x := i) (y := 1) (by simp only [Cg]; omega) cs
        simp only [Cg] at *
        omega
    have hc' : (2 : Int) ^ 7 ∣ ((i : Int) - j) * quo cs i j := by rw [← e]; exact hc
    have := odd_dvd _ o 7 _ hc'
    have h7 : (2 : Nat) ^ 7 = 128 := by decide
    have h7' : (2 : Int) ^ 7 = 128 := by decide
    rw [h7'] at this
    rw [h7] at hj
    omega
  · have hc2 : Cg 2 (hor cs i) (hor cs j) := by
      obtain ⟨k, e⟩ := hc
      exact ⟨64 * k, by rw [e, show (2 : Int) ^ 7 = 128 by decide]; omega⟩
    rcases Nat.mod_two_eq_zero_or_one i with hi | hi
    · have a := cg_hor (m := 2) (x := i) (y := 0) (by simp only [Cg]; omega) cs
      have b := cg_hor (m := 2) (x := j) (y := 1) (by simp only [Cg] at *; omega) cs
      exact hp (a.symm.trans (hc2.trans b))
    · have a := cg_hor (m := 2) (x := i) (y := 1) (by simp only [Cg]; omega) cs
      have b := cg_hor (m := 2) (x := j) (y := 0) (by simp only [Cg] at *; omega) cs
      exact hp (b.symm.trans (hc2.symm.trans a))
theorem inj_down (cs : List Int) (h : Inj cs 7) : Inj cs 2 := by
  intro i j hij hj hc
  have hj : j < 4 := hj
  have hc : Cg 4 (hor cs i) (hor cs j) := hc
  by_cases hpar : Cg 2 (i : Int) (j : Int)
  · have hj2 : j = i + 2 := by simp only [Cg] at hpar; omega
    subst hj2
    have e := hor_quo ((i + 2 : Nat) : Int) i cs
    have e64 := hor_quo ((i + 64 : Nat) : Int) i cs
    have r : Cg 2 (quo cs ((i + 64 : Nat) : Int) i) (quo cs ((i + 2 : Nat) : Int) i) := cg_quo ⟨31, by omega⟩ (Cg.refl 2 _) cs
    have n := h i (i + 64) (by omega) (by omega)
    have d1 : ((i + 2 : Nat) : Int) - i = 2 := by omega
    have d2 : ((i + 64 : Nat) : Int) - i = 64 := by omega
    rw [d1] at e
    rw [d2] at e64
    refine n ?_
    show (128 : Int) ∣ _
    simp only [Cg] at *
    omega
  · have all : ∀ k : Nat, Cg 2 (hor cs k) (hor cs i) := by
      intro k
      have hc2 : Cg 2 (hor cs i) (hor cs j) := by simp only [Cg] at *; omega
      by_cases hk : Cg 2 (k : Int) (i : Int)
      · exact cg_hor hk cs
      · have : Cg 2 (k : Int) (j : Int) := by simp only [Cg] at *; omega
        exact (cg_hor this cs).trans hc2.symm
    have := pigN (fun k => hor cs k % 128 / 2) 128 64 (fun k _ => by omega) (fun a b hab hb => by
      have n : ¬ (128 : Int) ∣ _ := h a b hab hb
      have pa := all a
      have pb := all b
      simp only [Cg] at *
      show ¬ hor cs a % 128 / 2 = hor cs b % 128 / 2
      omega)
    omega
end HD

set_option Elab.async false
set_option linter.all false
set_option autoImplicit false
set_option maxRecDepth 100000
set_option maxHeartbeats 4000000
namespace HD
/-- the polynomial again and again -/
def again (cs : List Int) : Nat → Int → Int
  | 0, x => x
  | k + 1, x => again cs k (hor cs x)
theorem again_add (cs : List Int) (b : Nat) : ∀ (a : Nat) (x : Int), again cs (a + b) x = again cs b (again cs a x)
  | 0, x => by rw [Nat.zero_add]; rfl
  | a + 1, x => by
    rw [show a + 1 + b = (a + b) + 1 by omega]
    exact again_add cs b a (hor cs x)
theorem again_succ (cs : List Int) (a : Nat) (x : Int) : again cs (a + 1) x = hor cs (again cs a x) := again_add cs 1 a x
theorem cg_again {m x y : Int} (cs : List Int) : ∀ (k : Nat), Cg m x y → Cg m (again cs k x) (again cs k y) := by
  intro k
  induction k generalizing x y with
  | zero => exact fun h => h
  | succ k ih => exact fun h => ih (cg_hor h cs)
/-- equal then, equal later -/
theorem cg_later {m : Int} (cs : List Int) {i j : Nat} (k : Nat) (h : Cg m (again cs i 0) (again cs j 0)) : Cg m (again cs (i + k) 0) (again cs (j + k) 0) := by
  rw [again_add, again_add]
  exact cg_again cs k h
theorem cg_times {m : Int} (cs : List Int) {k : Nat} (h : Cg m (again cs k 0) 0) : ∀ j : Nat, Cg m (again cs (k * j) 0) 0
  | 0 => Cg.refl m 0
  | j + 1 => by
    rw [Nat.mul_succ, again_add]
    exact (cg_again cs k (cg_times cs h j)).trans h
def Dist8 (cs : List Int) : Prop := ∀ i j : Nat, i < j → j < 8 → ¬ Cg 8 (again cs i 0) (again cs j 0)
def Full (cs : List Int) : Prop := Cg 128 (again cs 128 0) 0 ∧ ∀ k : Nat, 0 < k → k < 128 → ¬ Cg 128 (again cs k 0) 0
theorem full_down (cs : List Int) (h : Full cs) : Dist8 cs := by
  obtain ⟨h1, h2⟩ := h
  have dist : ∀ i j : Nat, i < j → j < 128 → ¬ Cg 128 (again cs i 0) (again cs j 0) := by
    intro i j hij hj hc
    have := cg_later cs (128 - j) hc
    rw [show j + (128 - j) = 128 by omega] at this
    exact h2 (i + (128 - j)) (by omega) (by omega) (this.trans h1)
  intro i j hij hj hc
  have z : Cg 8 (again cs 128 0) 0 := by simp only [Cg] at *; omega
  have a := cg_later cs (128 - i) hc
  rw [show i + (128 - i) = 128 by omega, show j + (128 - i) = 128 + (j - i) by omega, again_add] at a
  have b : Cg 8 (again cs (j - i) 0) 0 := (cg_again cs (j - i) z).symm.trans (a.symm.trans z)
  have c := cg_times cs b
  have := pigN (fun m => again cs ((j - i) * m) 0 % 128 / 8) 18 16 (fun m _ => by omega) (fun p q hpq hq => by
    have lt : (j - i) * p < (j - i) * q := Nat.mul_lt_mul_of_pos_left hpq (by omega)
    have le : (j - i) * q ≤ 7 * 17 := Nat.mul_le_mul (by omega) (by omega)
    have n := dist _ _ lt (by omega)
    have cp := c p
    have cq := c q
    simp only [Cg] at *
    show ¬ again cs ((j - i) * p) 0 % 128 / 8 = again cs ((j - i) * q) 0 % 128 / 8
    omega)
  omega
theorem sq_four {a b : Int} (ha : ¬ 2 ∣ a) (hb : ¬ 2 ∣ b) : Cg 4 (a * b * (a * b)) 1 := by
  obtain ⟨k, rfl⟩ : ∃ k, a = 2 * k + 1 := ⟨a / 2, by omega⟩
  obtain ⟨l, rfl⟩ : ∃ l, b = 2 * l + 1 := ⟨b / 2, by omega⟩
  exact ⟨(2 * k * l + k + l) * (2 * k * l + k + l) + (2 * k * l + k + l), by grind⟩
theorem reach : ∀ k : Nat, k < 128 → 0 < k → ∃ m, m < 128 ∧ ∃ j, j < 7 ∧ k * m % 128 = 2 ^ j := by decide +kernel
theorem full_up (cs : List Int) (h : Dist8 cs) : Full cs := by
  have s0 : again cs 0 0 = 0 := rfl
  have st : ∀ k, again cs (k + 1) 0 = hor cs (again cs k 0) := fun k => again_succ cs k 0
  -- the first word is odd
  have h1 : ¬ Cg 2 (again cs 1 0) 0 := by
    intro hc
    have c := cg_times cs hc
    have := pigN (fun m => again cs m 0 % 8 / 2) 5 4 (fun m _ => by omega) (fun p q hpq hq => by
      have n := h p q hpq (by omega)
      have cp := c p
      have cq := c q
      rw [Nat.one_mul] at cp cq
      simp only [Cg] at *
      show ¬ again cs p 0 % 8 / 2 = again cs q 0 % 8 / 2
      omega)
    omega
  have h2 : Cg 2 (again cs 2 0) 0 := by
    apply Classical.byContradiction
    intro hc
    have c : ∀ m : Nat, Cg 2 (again cs (m + 1) 0) 1 := by
      intro m
      induction m with
      | zero => simp only [Cg] at *; rw [Nat.zero_add]; omega
      | succ m ih =>
        have e : Cg 2 (again cs (m + 1) 0) (again cs 1 0) := ih.trans (by simp only [Cg] at *; omega)
        have := cg_hor e cs
        rw [← st, ← st] at this
        have hc' : Cg 2 (again cs (1 + 1) 0) 1 := by
          show Cg 2 (again cs 2 0) 1
          simp only [Cg] at hc ⊢
          omega
        exact this.trans hc'
    have := pigN (fun m => again cs (m + 1) 0 % 8 / 2) 5 4 (fun m _ => by omega) (fun p q hpq hq => by
      have n := h (p + 1) (q + 1) (by omega) (by omega)
      have cp := c p
      have cq := c q
      simp only [Cg] at *
      show ¬ again cs (p + 1) 0 % 8 / 2 = again cs (q + 1) 0 % 8 / 2
      omega)
    omega
  have e1 : again cs 1 0 = hor cs 0 := rfl
  have e2 : again cs 2 0 = hor cs (again cs 1 0) := st 1
  have swap : ∀ x, Cg 2 (hor cs x) (x + 1) := by
    intro x
    rcases Int.emod_two_eq x with hx | hx
    · have := cg_hor (m := 2) (x := x) (y := 0) (by simp only [Cg]; omega) cs
      rw [← e1] at this
      simp only [Cg] at *
      omega
    · have := cg_hor (m := 2) (x := x) (y := again cs 1 0) (by simp only [Cg] at *; omega) cs
      rw [← e2] at this
      simp only [Cg] at *
      omega
  have h4 : ¬ Cg 4 (again cs 2 0) 0 := by
    intro hc
    have c := cg_times cs hc
    have := pigN (fun m => again cs (2 * m) 0 % 8 / 4) 3 2 (fun m _ => by omega) (fun p q hpq hq => by
      have n := h (2 * p) (2 * q) (by omega) (by omega)
      have cp := c p
      have cq := c q
      simp only [Cg] at *
      show ¬ again cs (2 * p) 0 % 8 / 4 = again cs (2 * q) 0 % 8 / 4
      omega)
    omega
  have p3 : again cs 3 0 = hor cs (again cs 2 0) := st 2
  have p4 : again cs 4 0 = hor cs (again cs 3 0) := st 3
  have h4' : Cg 4 (again cs 4 0) 0 := by
    apply Classical.byContradiction
    intro hc
    have w2 := swap (again cs 2 0)
    have w3 := swap (again cs 3 0)
    rw [← p3] at w2
    rw [← p4] at w3
    have e24 : Cg 4 (again cs 2 0) (again cs 4 0) := by simp only [Cg] at *; omega
    have e46 := cg_later cs 2 e24
    have := pigN (fun m => again cs (2 * m + 2) 0 % 8 / 4) 3 2 (fun m _ => by omega) (fun p q hpq hq => by
      have n := h (2 * p + 2) (2 * q + 2) (by omega) (by omega)
      have : (p = 0 ∧ q = 1) ∨ (p = 0 ∧ q = 2) ∨ (p = 1 ∧ q = 2) := by omega
      rcases this with ⟨rfl, rfl⟩ | ⟨rfl, rfl⟩ | ⟨rfl, rfl⟩ <;> simp <;> simp only [Cg] at * <;> simp at n e24 e46 <;> omega)
    omega
  have n04 := h 0 4 (by decide) (by decide)
  -- the slopes are odd
  have q1 : again cs 1 0 - again cs 3 0 = (again cs 0 0 - again cs 2 0) * quo cs (again cs 0 0) (again cs 2 0) := by
    have := hor_quo (again cs 0 0) (again cs 2 0) cs
    rw [← st, ← st] at this
    exact this
  have q2 : again cs 2 0 - again cs 4 0 = (again cs 1 0 - again cs 3 0) * quo cs (again cs 1 0) (again cs 3 0) := by
    have := hor_quo (again cs 1 0) (again cs 3 0) cs
    rw [← st, ← st] at this
    exact this
  have n13 : ¬ Cg 4 (again cs 1 0) (again cs 3 0) := by
    intro hc
    have : Cg 4 (again cs 2 0) (again cs 4 0) := cg_later cs 1 hc
    simp only [Cg] at *
    omega
  have c13 : Cg 2 (again cs 1 0) (again cs 3 0) := by
    have w2 := swap (again cs 2 0)
    rw [← p3] at w2
    simp only [Cg] at *
    omega
  have o0 : ¬ 2 ∣ quo cs 0 0 := by
    intro hd
    have r : Cg 2 (quo cs (again cs 0 0) (again cs 2 0)) (quo cs 0 0) := cg_quo (Cg.refl 2 _) h2 cs
    obtain ⟨k, ek⟩ : (2 : Int) ∣ quo cs (again cs 0 0) (again cs 2 0) := by simp only [Cg] at *; omega
    obtain ⟨l, el⟩ := h2
    refine n13 ⟨-(l * k), ?_⟩
    rw [q1, ek, s0]
    grind
  have o1 : ¬ 2 ∣ quo cs (again cs 1 0) (again cs 1 0) := by
    intro hd
    have r : Cg 2 (quo cs (again cs 1 0) (again cs 3 0)) (quo cs (again cs 1 0) (again cs 1 0)) := cg_quo (Cg.refl 2 _) c13.symm cs
    obtain ⟨k, ek⟩ : (2 : Int) ∣ quo cs (again cs 1 0) (again cs 3 0) := by simp only [Cg] at *; omega
    obtain ⟨l, el⟩ := c13
    have : Cg 4 (again cs 2 0) (again cs 4 0) := ⟨l * k, by rw [q2, ek, el]; grind⟩
    simp only [Cg] at *
    omega
  have od : ∀ x, ¬ 2 ∣ quo cs x x := by
    intro x
    rcases Int.emod_two_eq x with hx | hx
    · have := quo_par (x := x) (y := 0) (by simp only [Cg]; omega) cs
      simp only [Cg] at *
      omega
    · have := quo_par (x := x) (y := again cs 1 0) (by simp only [Cg] at *; omega) cs
      simp only [Cg] at *
      omega
  have four : ∀ x y, Cg 4 x y → ∃ r, again cs 4 x - again cs 4 y = (x - y) * r ∧ Cg 4 r 1 := by
    intro x y hxy
    have hx : again cs 4 x = hor cs (hor cs (hor cs (hor cs x))) := rfl
    have hy : again cs 4 y = hor cs (hor cs (hor cs (hor cs y))) := rfl
    have c1 := cg_hor hxy cs
    have c2 := cg_hor c1 cs
    have c3 := cg_hor c2 cs
    refine ⟨quo cs x y * quo cs (hor cs x) (hor cs y) * (quo cs (hor cs (hor cs x)) (hor cs (hor cs y)) * quo cs (hor cs (hor cs (hor cs x))) (hor cs (hor cs (hor cs y)))), ?_, ?_⟩
    · rw [hx, hy, hor_quo _ _ cs, hor_quo (hor cs (hor cs x)) _ cs, hor_quo (hor cs x) _ cs, hor_quo x _ cs]
      grind
    · have d0 : Cg 4 (quo cs x y) (quo cs x x) := cg_quo (Cg.refl 4 _) hxy.symm cs
      have d1 : Cg 4 (quo cs (hor cs x) (hor cs y)) (quo cs (hor cs x) (hor cs x)) := cg_quo (Cg.refl 4 _) c1.symm cs
      have d2 : Cg 4 (quo cs (hor cs (hor cs x)) (hor cs (hor cs y))) (quo cs (hor cs (hor cs x)) (hor cs (hor cs x))) := cg_quo (Cg.refl 4 _) c2.symm cs
      have d3 : Cg 4 (quo cs (hor cs (hor cs (hor cs x))) (hor cs (hor cs (hor cs y)))) (quo cs (hor cs (hor cs (hor cs x))) (hor cs (hor cs (hor cs x)))) := cg_quo (Cg.refl 4 _) c3.symm cs
      have w0 := swap x
      have w1 := swap (hor cs x)
      have w2 := swap (hor cs (hor cs x))
      have g2 : Cg 4 (quo cs (hor cs (hor cs x)) (hor cs (hor cs x))) (quo cs x x) := quo_par (by simp only [Cg] at *; omega) cs
      have g3 : Cg 4 (quo cs (hor cs (hor cs (hor cs x))) (hor cs (hor cs (hor cs x)))) (quo cs (hor cs x) (hor cs x)) := quo_par (by simp only [Cg] at *; omega) cs
      exact ((d0.mul d1).mul ((d2.trans g2).mul (d3.trans g3))).trans (sq_four (od x) (od (hor cs x)))
  have many : ∀ (n : Nat) (x y : Int), Cg 4 x y → ∃ r, again cs (4 * n) x - again cs (4 * n) y = (x - y) * r ∧ Cg 4 r 1 := by
    intro n
    induction n with
    | zero => exact fun x y _ => ⟨1, by rw [Int.mul_one]; rfl, Cg.refl 4 1⟩
    | succ n ih =>
      intro x y hxy
      obtain ⟨r, e, hr⟩ := four x y hxy
      obtain ⟨r', e', hr'⟩ := ih _ _ (cg_again cs 4 hxy)
      refine ⟨r * r', ?_, (hr.mul hr').trans (by rw [Int.mul_one]; exact Cg.refl 4 1)⟩
      rw [show 4 * (n + 1) = 4 + 4 * n by omega, again_add, again_add, e', e, Int.mul_assoc]
  have two : ∀ n : Nat, ∃ u : Int, again cs (4 * 2 ^ n) 0 = 4 * 2 ^ n * u ∧ ¬ 2 ∣ u := by
    intro n
    induction n with
    | zero =>
      obtain ⟨u, e⟩ := h4'
      refine ⟨u, ?_, ?_⟩
      · show again cs 4 0 = _
        rw [Int.sub_zero] at e
        rw [e]; grind
      · intro hu
        simp only [Cg] at *
        rw [s0] at n04
        omega
    | succ n ih =>
      obtain ⟨u, e, hu⟩ := ih
      obtain ⟨r, e', hr⟩ := many (2 ^ n) (again cs (4 * 2 ^ n) 0) 0 ⟨2 ^ n * u, by rw [e]; grind⟩
      obtain ⟨k, ek⟩ := hr
      refine ⟨u * (1 + 2 * k), ?_, ?_⟩
      · rw [show 4 * 2 ^ (n + 1) = 4 * 2 ^ n + 4 * 2 ^ n by rw [Nat.pow_succ]; omega, again_add]
        have : again cs (4 * 2 ^ n) (again cs (4 * 2 ^ n) 0) = again cs (4 * 2 ^ n) 0 + (again cs (4 * 2 ^ n) 0) * r := by
          rw [Int.sub_zero] at e'
          omega
        rw [this, e, show r = 1 + 4 * k by omega, Int.pow_succ]
        grind
      · obtain ⟨v, rfl⟩ : ∃ v, u = 2 * v + 1 := ⟨u / 2, by omega⟩
        intro ⟨l, el⟩
        have : (2 * v + 1) * (1 + 2 * k) = 2 * (v + k + 2 * v * k) + 1 := by grind
        omega
  have z128 : Cg 128 (again cs 128 0) 0 := by
    obtain ⟨u, e, _⟩ := two 5
    exact ⟨u, by rw [Int.sub_zero]; exact e⟩
  have pows : ∀ j, j < 7 → ¬ Cg 128 (again cs (2 ^ j) 0) 0 := by
    intro j hj
    have h01 := h 0 1 (by decide) (by decide)
    have h02 := h 0 2 (by decide) (by decide)
    rw [s0] at h01 h02
    have : j = 0 ∨ j = 1 ∨ ∃ n, n < 5 ∧ j = n + 2 := by
      rcases j with _ | _ | n
      · exact .inl rfl
      · exact .inr (.inl rfl)
      · exact .inr (.inr ⟨n, by omega, rfl⟩)
    rcases this with rfl | rfl | ⟨n, hn, rfl⟩
    · show ¬ Cg 128 (again cs 1 0) 0
      simp only [Cg] at *
      omega
    · show ¬ Cg 128 (again cs 2 0) 0
      simp only [Cg] at *
      omega
    · obtain ⟨u, e, hu⟩ := two n
      rw [show 2 ^ (n + 2) = 4 * 2 ^ n by rw [Nat.pow_add]; omega, e]
      have : n = 0 ∨ n = 1 ∨ n = 2 ∨ n = 3 ∨ n = 4 := by omega
      rcases this with rfl | rfl | rfl | rfl | rfl <;> simp only [Cg] <;> omega
  refine ⟨z128, fun k hk hk2 hc => ?_⟩
  obtain ⟨m, _, j, hj, e⟩ := reach k hk2 hk
  have a := cg_times cs hc m
  have b := cg_times cs z128 (k * m / 128)
  have d : k * m = 128 * (k * m / 128) + 2 ^ j := by omega
  rw [d, again_add] at a
  exact pows j hj ((cg_again cs (2 ^ j) b).symm.trans a)
end HD

set_option Elab.async false
set_option linter.all false
set_option autoImplicit false
set_option maxRecDepth 100000
set_option maxHeartbeats 4000000
namespace HD
open PySem PySem.Spec PyProof.Rows L2 Builtin.Int
/-- the parts of a good polynomial -/
def GoodP (cs : List Int) : Prop := 1 ≤ cs.length ∧ cs.length ≤ 6 ∧ ∀ c ∈ cs, -1000000 ≤ c ∧ c ≤ 1000000
abbrev tI (cs : List Int) : D := .tup (cs.map D.int)
theorem allOf_bools (bs : List Bool) : allOf blOf (bs.map D.bl) = some bs := by
  induction bs with
  | nil => rfl
  | cons b bs ih => simp [allOf, ih, blOf]
theorem allOf_rep (n : Nat) : allOf blOf (List.replicate n (.bl true)) = some (List.replicate n true) := by
  have := allOf_bools (List.replicate n true)
  simpa using this
theorem is_good_poly_good (cs : List Int) (h : GoodP cs) : g_is_good_poly [tI cs] = .ok (.bl true) := by
  obtain ⟨h1, h2, h3⟩ := h
  have hc : compL (put 1) (mR true) (mCall g_is_whole (mCons (mVar 1) (mCons (mUn (fun i => -i) (mC (.int 1000000))) (mCons (mC (.int 1000000)) (mR []))))) [1] (cs.map D.int) [some (tI cs), none] [] = .ok ([] ++ (cs.map D.int).map fun _ => D.bl true, [some (tI cs), none]) := by
    refine compL_map (fun _ => D.bl true) _ _ _ (fun d hd => ?_) (by simp [sizeLine]; omega)
    obtain ⟨c, hc, rfl⟩ := List.mem_map.mp hd
    obtain ⟨a, b⟩ := h3 c hc
    refine ⟨[some (tI cs), some (.int c)], rfl, rfl, [some (tI cs), some (.int c)], ?_, rfl, rfl⟩
    simp [mCall, mCons, mVar, mB, mUn, mC, mR, isOwn, is_whole_int, a, b]
  have e1 : (1 : Int) ≤ cs.length := by omega
  have e2 : (cs.length : Int) ≤ 6 := by omega
  have e3 : (cs.map D.int).map (fun _ => D.bl true) = (List.replicate cs.length true).map D.bl := by
    simp [Function.comp_def, List.map_const']
  rw [e3] at hc
  simp [g_is_good_poly, m_is_good_poly, runD, startD, x_B, bR_ok, bR_exc, bR_bad, x_BS, bF_ok, bF_exc, bF_bad, x_R, x_O, oR_some, oR_none, x_Var, varR_some, x_Peek, peekR_some, x_C, x_Lst, x_Cons, x_Seq, seqR_nx, seqR_rt, seqR_rf, seqR_exc, seqR_bad, x_Next, x_Ret, x_RetF, x_Drop, x_If, x_Set, x_Put, nxR_some, nxR_none, x_put, x_putO, x_PutO, x_SetO, x_Bin, x_BinF, x_Bin2, x_Cmp, x_CmpV, x_Tst, tstK_bl, x_NotT, x_AndT, x_OrT, x_AndV, andK_t, andK_f, x_NotV, notK_bl, x_IfE, x_Un, unK_int, x_Chain, x_ChainV, x_Fn, x_App, ifS_some, appK_some, x_PutIx, pixK_int, pixJ_some, x_Call, x_CallF, callR_ok, callR_exc, callR_bad, x_CallM, callM1_some, callM2_ok, x_Asg, x_Par, parK_some, x_ParO, x_Wh, x_For, x_Src, i_lst, i_tup, x_Rng1, rngK_int, x_RevT, revT_tup, x_Comp, compK_ok, x_CallLam, lamK_some, lamK2_ok, x_CallV, o_int, o_bl, o_non, o_str, o_glo, o_tup, o_lst, o_clo, o_own, u_int, u_bl, u_non, u_str, u_glo, u_tup, u_lst, u_clo, u_own, own0, ownS, free_S, free_0, free_n, dAdd_int, dSub_int, bLt_int, bLe_int, bGt_int, bGe_int, bEq_int, bEq_bl, bEq_str, bNe_int, bNe_bl, bNe_str, dLen_lst, dLen_tup, dTup_lst, dTup_tup, x_noOwn0, x_noOwn1, okSlot_some, okSlot_n, okSlot_nn, putTup_tup, wipeD, backD, isi_tup_tup, bLe, f2B, dLen, e1, e2, hc, dAll, allOf_rep]
theorem need_poly_good (cs : List Int) (h : GoodP cs) : g_need_poly [tI cs] = .ok .non := by
  simp [g_need_poly, m_need_poly, runD, startD, mIf, mBS, mNotT, mTst, mCall, mB, mCons, mVar, mR, isOwn, is_good_poly_good cs h, mNext]
theorem is_poly_good (cs : List Int) (h : GoodP cs) : g_is_poly [tI cs] = .ok (.bl true) := by
  simp [g_is_poly, m_is_poly, runD, startD, mRet, mBS, mCall, mB, mCons, mVar, mR, isOwn, is_good_poly_good cs h]
theorem bits_of {n : Int} {k : Nat} (h1 : -(2 ^ k : Int) < n) (h2 : n < 2 ^ k) : intBits n ≤ k := by
  refine intBits_le_iff.mpr ?_
  have : ((2 ^ k : Nat) : Int) = 2 ^ k := by simp
  omega
theorem bits_coef {c : Int} (h : -1000000 ≤ c ∧ c ≤ 1000000) : intBits c ≤ 20 := bits_of (by omega) (by omega)
theorem hor_bits {x : Int} (hx : intBits x ≤ 64) : ∀ cs : List Int, (∀ c ∈ cs, -1000000 ≤ c ∧ c ≤ 1000000) → intBits (hor cs x) ≤ 21 + 66 * cs.length
  | [], _ => by simp [hor, intBits]
  | c :: cs, h => by
    have ih := hor_bits hx cs fun c hc => h c (by simp [hc])
    have a := intBits_add_le (intBits_mul_le ih hx) (bits_coef (h c (by simp)))
    show intBits (hor cs x * x + c) ≤ _
    simp only [List.length_cons]
    omega
theorem mulOk_of {a b : Int} {m n : Nat} (ha : intBits a ≤ m) (hb : intBits b ≤ n) (h : m + n ≤ 134217728) : mulOk a b = true := by
  unfold mulOk
  rw [decide_eq_true_iff]
  omega
theorem dMul_ok {a b : Int} (h : mulOk a b = true) : dMul (.int a) (.int b) = some (.int (a * b)) := by
  simp [dMul, dMulI, f2I, h]
theorem dMod_ok {a b : Int} (h : 0 < b) : dMod (.int a) (.int b) = some (.int (a % b)) := by
  simp [dMod, f2I, h]
theorem hor_loop (p : D) (w x : Int) (hx : intBits x ≤ 64) (rs : List Int) : ∀ (ls : List Int) (o : Option D), isOwn p = false → (∀ c ∈ rs, -1000000 ≤ c ∧ c ≤ 1000000) → (∀ c ∈ ls, -1000000 ≤ c ∧ c ≤ 1000000) → ls.length + rs.length ≤ 6 →
    ∃ o', loopD (put 4) (mSet 3 (mBin dAdd (mBin dMul (mVar 3) (mPeek 2)) (mPeek 4))) (ls.reverse.map D.int) [some p, some (.int w), some (.int x), some (.int (hor rs x)), o] = .ok (.nx [some p, some (.int w), some (.int x), some (.int (hor (ls ++ rs) x)), o']) := by
  intro ls
  generalize hn : ls.length = n
  induction n generalizing ls rs with
  | zero =>
    intro o _ _ _ _
    obtain rfl := List.length_eq_zero_iff.mp hn
    exact ⟨o, rfl⟩
  | succ n ih =>
    intro o hp h1 h2 hl
    obtain ⟨l, c, rfl⟩ : ∃ l c, ls = l ++ [c] := by
      rcases List.eq_nil_or_concat ls with rfl | ⟨l, c, e⟩
      · simp at hn
      · exact ⟨l, c, by simpa using e⟩
    simp only [List.length_append, List.length_cons, List.length_nil, Nat.zero_add, Nat.add_right_cancel_iff] at hn
    have b := hor_bits hx rs h1
    have m := mulOk_of b hx (by omega)
    obtain ⟨o', e⟩ := ih (c :: rs) l hn (some (.int c)) hp (fun d hd => by
      rcases List.mem_cons.mp hd with z | z
      · exact z ▸ h2 c (by simp)
      · exact h1 d z) (fun d hd => h2 d (by simp [hd])) (by simp; omega)
    refine ⟨o', ?_⟩
    rw [List.append_assoc]
    refine Eq.trans ?_ e
    simp [loopD, x_B, bR_ok, bR_exc, bR_bad, x_BS, bF_ok, bF_exc, bF_bad, x_R, x_O, oR_some, oR_none, x_Var, varR_some, x_Peek, peekR_some, x_C, x_Lst, x_Cons, x_Seq, seqR_nx, seqR_rt, seqR_rf, seqR_exc, seqR_bad, x_Next, x_Ret, x_RetF, x_Drop, x_If, x_Set, x_Put, nxR_some, nxR_none, x_put, x_putO, x_PutO, x_SetO, x_Bin, x_BinF, x_Bin2, x_Cmp, x_CmpV, x_Tst, tstK_bl, x_NotT, x_AndT, x_OrT, x_AndV, andK_t, andK_f, x_NotV, notK_bl, x_IfE, x_Un, unK_int, x_Chain, x_ChainV, x_Fn, x_App, ifS_some, appK_some, x_PutIx, pixK_int, pixJ_some, x_Call, x_CallF, callR_ok, callR_exc, callR_bad, x_CallM, callM1_some, callM2_ok, x_Asg, x_Par, parK_some, x_ParO, x_Wh, x_For, x_Src, i_lst, i_tup, x_Rng1, rngK_int, x_RevT, revT_tup, x_Comp, compK_ok, x_CallLam, lamK_some, lamK2_ok, x_CallV, o_int, o_bl, o_non, o_str, o_glo, o_tup, o_lst, o_clo, o_own, u_int, u_bl, u_non, u_str, u_glo, u_tup, u_lst, u_clo, u_own, own0, ownS, free_S, free_0, free_n, dAdd_int, dSub_int, bLt_int, bLe_int, bGt_int, bGe_int, bEq_int, bEq_bl, bEq_str, bNe_int, bNe_bl, bNe_str, dLen_lst, dLen_tup, dTup_lst, dTup_tup, x_noOwn0, x_noOwn1, okSlot_some, okSlot_n, okSlot_nn, putTup_tup, wipeD, backD, hp, dMul_ok m, dAdd, hor_cons]
theorem made_by_ok (cs : List Int) (w x : Int) (hg : ∀ c ∈ cs, -1000000 ≤ c ∧ c ≤ 1000000) (hl : cs.length ≤ 6) (h1 : 0 ≤ w) (h2 : w ≤ 64) (h3 : 0 ≤ x) (h4 : x < 2 ^ 64) : g_made_by [tI cs, .int w, .int x] = .ok (.int (hor cs x % 2 ^ w.toNat)) := by
  obtain ⟨o, e⟩ := hor_loop (tI cs) w x (bits_of (by omega) (by omega)) [] cs none rfl (by simp) hg (by simpa using hl)
  have p : (0 : Int) < 2 ^ w.toNat := Int.pow_pos (by decide)
  simp only [List.append_nil] at e
  have z : hor [] x = 0 := rfl
  rw [z] at e
  simp [g_made_by, m_made_by, runD, startD, x_B, bR_ok, bR_exc, bR_bad, x_BS, bF_ok, bF_exc, bF_bad, x_R, x_O, oR_some, oR_none, x_Var, varR_some, x_Peek, peekR_some, x_C, x_Lst, x_Cons, x_Seq, seqR_nx, seqR_rt, seqR_rf, seqR_exc, seqR_bad, x_Next, x_Ret, x_RetF, x_Drop, x_If, x_Set, x_Put, nxR_some, nxR_none, x_put, x_putO, x_PutO, x_SetO, x_Bin, x_BinF, x_Bin2, x_Cmp, x_CmpV, x_Tst, tstK_bl, x_NotT, x_AndT, x_OrT, x_AndV, andK_t, andK_f, x_NotV, notK_bl, x_IfE, x_Un, unK_int, x_Chain, x_ChainV, x_Fn, x_App, ifS_some, appK_some, x_PutIx, pixK_int, pixJ_some, x_Call, x_CallF, callR_ok, callR_exc, callR_bad, x_CallM, callM1_some, callM2_ok, x_Asg, x_Par, parK_some, x_ParO, x_Wh, x_For, x_Src, i_lst, i_tup, x_Rng1, rngK_int, x_RevT, revT_tup, x_Comp, compK_ok, x_CallLam, lamK_some, lamK2_ok, x_CallV, o_int, o_bl, o_non, o_str, o_glo, o_tup, o_lst, o_clo, o_own, u_int, u_bl, u_non, u_str, u_glo, u_tup, u_lst, u_clo, u_own, own0, ownS, free_S, free_0, free_n, dAdd_int, dSub_int, bLt_int, bLe_int, bGt_int, bGe_int, bEq_int, bEq_bl, bEq_str, bNe_int, bNe_bl, bNe_str, dLen_lst, dLen_tup, dTup_lst, dTup_tup, x_noOwn0, x_noOwn1, okSlot_some, okSlot_n, okSlot_nn, putTup_tup, wipeD, backD, ← List.map_reverse, e, dShl_one h1 h2, dMod_ok p]
theorem poly_comes_ok (cs : List Int) (w x : Int) (hg : GoodP cs) (h1 : 0 ≤ w) (h2 : w ≤ 64) (h3 : 0 ≤ x) (h4 : x < 2 ^ w.toNat) : g_poly_comes [tI cs, .int w, .int x] = .ok (.int (hor cs x % 2 ^ w.toNat)) := by
  have h5 : x < 2 ^ 64 := by
    have : (2 : Int) ^ w.toNat ≤ 2 ^ 64 := by
      have := Nat.pow_le_pow_right (n := 2) (by decide) (show w.toNat ≤ 64 by omega)
      exact_mod_cast this
    omega
  simp [g_poly_comes, m_poly_comes, runD, startD, mSeq, mDrop, mBS, mCall, mB, mCons, mVar, mR, isOwn, need_poly_good cs hg, mC, need_width_int w h1 h2, need_word_int w x h1 h2 h3 h4, mRet, made_by_ok cs w x hg.2.2 hg.2.1 h1 h2 h3 h5]
end HD

set_option Elab.async false
set_option linter.all false
set_option autoImplicit false
set_option maxRecDepth 100000
set_option maxHeartbeats 4000000
namespace HD
open PySem PySem.Spec PyProof.Rows L2 Builtin.Int
theorem compL_int {asg : D → SD → Option SD} {mt : SD → R (Bool × SD)} {me : ME} {vs : List Nat} (f : Int → D) (sd : SD) (is : List Int)
    (h : ∀ i ∈ is, ∃ sd1, asg (.int i) sd = some sd1 ∧ mt sd1 = .ok (true, sd1) ∧ ∃ sd3, me sd1 = .ok (f i, sd3) ∧ noOwn sd3 vs = true ∧ wipeD sd3 vs = sd) (hl : is.length ≤ sizeLine) :
    compL asg mt me vs (is.map D.int) sd [] = .ok (is.map f, sd) := by
  have := compL_map (asg := asg) (mt := mt) (me := me) (vs := vs) (fun d => match d with
    | .int i => f i
    | _ => .non) sd (is.map D.int) [] (fun d hd => by
      obtain ⟨i, hi, rfl⟩ := List.mem_map.mp hd
      exact h i hi) (by simpa using hl)
  rw [this]
  simp
/-- a polynomial's values -/
def vals (cs : List Int) (w n : Nat) : List Int := (upto n).map fun i => hor cs i % 2 ^ w
def oneTo (cs : List Int) (w n : Nat) : Bool := decide ((((vals cs w n).foldl step_dedup ([] : List Int)).length : Int) = n)
theorem dLenSet_ints (ns : List Int) (h : ns.length ≤ 4000) : dLenSet (.lst (ns.map D.int)) = some (.int (ns.foldl step_dedup ([] : List Int)).length) := by
  simp [dLenSet, allOf_ints, h]
theorem one_to_one_ok (cs : List Int) (hg : GoodP cs) : g_poly_one_to_one [tI cs] = .ok (.bl (oneTo cs 2 4)) := by
  have hc : compL (put 1) (mR true) (mCall g_made_by (mCons (mVar 0) (mCons (mC (.int 2)) (mCons (mVar 1) (mR []))))) [1] ((upto 4).map D.int) [some (tI cs), none] [] = .ok ((upto 4).map (fun i => D.int (hor cs i % 2 ^ 2)), [some (tI cs), none]) := by
    refine compL_int _ _ _ (fun i hi => ?_) (by rw [upto_len]; decide)
    have b := upto_mem hi
    refine ⟨[some (tI cs), some (.int i)], rfl, rfl, [some (tI cs), some (.int i)], ?_, rfl, rfl⟩
    simp [x_B, bR_ok, bR_exc, bR_bad, x_BS, bF_ok, bF_exc, bF_bad, x_R, x_O, oR_some, oR_none, x_Var, varR_some, x_Peek, peekR_some, x_C, x_Lst, x_Cons, x_Seq, seqR_nx, seqR_rt, seqR_rf, seqR_exc, seqR_bad, x_Next, x_Ret, x_RetF, x_Drop, x_If, x_Set, x_Put, nxR_some, nxR_none, x_put, x_putO, x_PutO, x_SetO, x_Bin, x_BinF, x_Bin2, x_Cmp, x_CmpV, x_Tst, tstK_bl, x_NotT, x_AndT, x_OrT, x_AndV, andK_t, andK_f, x_NotV, notK_bl, x_IfE, x_Un, unK_int, x_Chain, x_ChainV, x_Fn, x_App, ifS_some, appK_some, x_PutIx, pixK_int, pixJ_some, x_Call, x_CallF, callR_ok, callR_exc, callR_bad, x_CallM, callM1_some, callM2_ok, x_Asg, x_Par, parK_some, x_ParO, x_Wh, x_For, x_Src, i_lst, i_tup, x_Rng1, rngK_int, x_RevT, revT_tup, x_Comp, compK_ok, x_CallLam, lamK_some, lamK2_ok, x_CallV, o_int, o_bl, o_non, o_str, o_glo, o_tup, o_lst, o_clo, o_own, u_int, u_bl, u_non, u_str, u_glo, u_tup, u_lst, u_clo, u_own, own0, ownS, free_S, free_0, free_n, dAdd_int, dSub_int, bLt_int, bLe_int, bGt_int, bGe_int, bEq_int, bEq_bl, bEq_str, bNe_int, bNe_bl, bNe_str, dLen_lst, dLen_tup, dTup_lst, dTup_tup, x_noOwn0, x_noOwn1, okSlot_some, okSlot_n, okSlot_nn, putTup_tup, wipeD, backD, made_by_ok cs 2 i hg.2.2 hg.2.1 (by decide) (by decide) b.1 (by omega)]
  have e : (upto 4).map (fun i => D.int (hor cs i % 2 ^ 2)) = (vals cs 2 4).map D.int := by simp [vals]
  rw [e] at hc
  have l := dLenSet_ints (vals cs 2 4) (by simp [vals, upto_len])
  simp [g_poly_one_to_one, m_poly_one_to_one, runD, startD, x_B, bR_ok, bR_exc, bR_bad, x_BS, bF_ok, bF_exc, bF_bad, x_R, x_O, oR_some, oR_none, x_Var, varR_some, x_Peek, peekR_some, x_C, x_Lst, x_Cons, x_Seq, seqR_nx, seqR_rt, seqR_rf, seqR_exc, seqR_bad, x_Next, x_Ret, x_RetF, x_Drop, x_If, x_Set, x_Put, nxR_some, nxR_none, x_put, x_putO, x_PutO, x_SetO, x_Bin, x_BinF, x_Bin2, x_Cmp, x_CmpV, x_Tst, tstK_bl, x_NotT, x_AndT, x_OrT, x_AndV, andK_t, andK_f, x_NotV, notK_bl, x_IfE, x_Un, unK_int, x_Chain, x_ChainV, x_Fn, x_App, ifS_some, appK_some, x_PutIx, pixK_int, pixJ_some, x_Call, x_CallF, callR_ok, callR_exc, callR_bad, x_CallM, callM1_some, callM2_ok, x_Asg, x_Par, parK_some, x_ParO, x_Wh, x_For, x_Src, i_lst, i_tup, x_Rng1, rngK_int, x_RevT, revT_tup, x_Comp, compK_ok, x_CallLam, lamK_some, lamK2_ok, x_CallV, o_int, o_bl, o_non, o_str, o_glo, o_tup, o_lst, o_clo, o_own, u_int, u_bl, u_non, u_str, u_glo, u_tup, u_lst, u_clo, u_own, own0, ownS, free_S, free_0, free_n, dAdd_int, dSub_int, bLt_int, bLe_int, bGt_int, bGe_int, bEq_int, bEq_bl, bEq_str, bNe_int, bNe_bl, bNe_str, dLen_lst, dLen_tup, dTup_lst, dTup_tup, x_noOwn0, x_noOwn1, okSlot_some, okSlot_n, okSlot_nn, putTup_tup, wipeD, backD, need_poly_good cs hg, hc, l, bEq, oneTo]
end HD

set_option Elab.async false
set_option linter.all false
set_option autoImplicit false
set_option maxRecDepth 100000
set_option maxHeartbeats 4000000
namespace HD
open PySem PySem.Spec PyProof.Rows L2 Builtin.Int
theorem dedup_step (ks : List Int) (a : Int) : step_dedup ks a = if a ∈ ks then ks else ks ++ [a] := by
  unfold step_dedup
  have : (ks.any (· == a)) = decide (a ∈ ks) := by
    rw [Bool.eq_iff_iff]
    simp
  rw [this]
  simp
theorem dedup_le : ∀ (l ks : List Int), (l.foldl step_dedup ks).length ≤ ks.length + l.length
  | [], ks => by simp
  | a :: l, ks => by
    rw [List.foldl_cons]
    have := dedup_le l (step_dedup ks a)
    rw [dedup_step] at this ⊢
    simp only [List.length_cons]
    split at this <;> rename_i h <;> simp only [h, if_true, if_false] <;> simp at this ⊢ <;> omega
theorem dedup_len : ∀ (l ks : List Int), (l.foldl step_dedup ks).length = ks.length + l.length ↔ l.Nodup ∧ ∀ x ∈ l, x ∉ ks
  | [], ks => by simp
  | a :: l, ks => by
    rw [List.foldl_cons, dedup_step, List.nodup_cons, List.length_cons]
    by_cases h : a ∈ ks
    · rw [if_pos h]
      have := dedup_le l ks
      constructor
      · intro e; omega
      · intro ⟨_, e⟩; exact absurd h (e a (by simp))
    · rw [if_neg h]
      have ih := dedup_len l (ks ++ [a])
      rw [show (ks ++ [a]).length = ks.length + 1 by simp] at ih
      rw [show ks.length + (l.length + 1) = ks.length + 1 + l.length by omega, ih]
      constructor
      · intro ⟨h1, h2⟩
        refine ⟨⟨fun z => h2 a z (by simp), h1⟩, fun x hx => ?_⟩
        rcases List.mem_cons.mp hx with z | z
        · rw [z]; exact h
        · exact fun y => h2 x z (by simp [y])
      · intro ⟨⟨h1, h2⟩, h3⟩
        refine ⟨h2, fun x hx => ?_⟩
        simp only [List.mem_append, List.mem_singleton, not_or]
        exact ⟨h3 x (by simp [hx]), fun z => h1 (z ▸ hx)⟩
theorem emod_cg {m a b : Int} : a % m = b % m ↔ Cg m a b := Int.emod_eq_emod_iff_emod_sub_eq_zero.trans ⟨Int.dvd_of_emod_eq_zero, Int.emod_eq_zero_of_dvd⟩
theorem vals_nodup (cs : List Int) (w : Nat) : (vals cs w (2 ^ w)).Nodup ↔ Inj cs w := by
  unfold vals upto
  rw [List.map_map]
  unfold List.Nodup
  rw [List.pairwise_iff_getElem]
  constructor
  · intro h i j hij hj hc
    have := h i j (by simp; omega) (by simp; omega) hij
    simp at this
    exact this (emod_cg.mpr hc)
  · intro h i j hi hj hij
    simp at hi hj ⊢
    exact fun e => h i j hij hj (emod_cg.mp e)
theorem oneTo_iff (cs : List Int) (w : Nat) : oneTo cs w (2 ^ w) = true ↔ Inj cs w := by
  rw [← vals_nodup]
  unfold oneTo
  rw [decide_eq_true_iff]
  have := dedup_len (vals cs w (2 ^ w)) []
  have l : (vals cs w (2 ^ w)).length = 2 ^ w := by simp [vals, upto_len]
  rw [l] at this
  simp only [List.length_nil, Nat.zero_add, List.not_mem_nil, not_false_eq_true, implies_true, and_true] at this
  rw [← this]
  omega
theorem one_law (cs : List Int) : oneTo cs 2 4 = oneTo cs 7 128 := by
  rw [Bool.eq_iff_iff]
  exact (oneTo_iff cs 2).trans (Iff.trans ⟨inj_up cs, inj_down cs⟩ (oneTo_iff cs 7).symm)
theorem truly_ok (a b : Bool) : g__law_truly [.bl a, .bl b] = .ok (.bl (decide (a = b))) := by
  simp [g__law_truly, m__law_truly, runD, startD, x_B, bR_ok, bR_exc, bR_bad, x_BS, bF_ok, bF_exc, bF_bad, x_R, x_O, oR_some, oR_none, x_Var, varR_some, x_Peek, peekR_some, x_C, x_Lst, x_Cons, x_Seq, seqR_nx, seqR_rt, seqR_rf, seqR_exc, seqR_bad, x_Next, x_Ret, x_RetF, x_Drop, x_If, x_Set, x_Put, nxR_some, nxR_none, x_put, x_putO, x_PutO, x_SetO, x_Bin, x_BinF, x_Bin2, x_Cmp, x_CmpV, x_Tst, tstK_bl, x_NotT, x_AndT, x_OrT, x_AndV, andK_t, andK_f, x_NotV, notK_bl, x_IfE, x_Un, unK_int, x_Chain, x_ChainV, x_Fn, x_App, ifS_some, appK_some, x_PutIx, pixK_int, pixJ_some, x_Call, x_CallF, callR_ok, callR_exc, callR_bad, x_CallM, callM1_some, callM2_ok, x_Asg, x_Par, parK_some, x_ParO, x_Wh, x_For, x_Src, i_lst, i_tup, x_Rng1, rngK_int, x_RevT, revT_tup, x_Comp, compK_ok, x_CallLam, lamK_some, lamK2_ok, x_CallV, o_int, o_bl, o_non, o_str, o_glo, o_tup, o_lst, o_clo, o_own, u_int, u_bl, u_non, u_str, u_glo, u_tup, u_lst, u_clo, u_own, own0, ownS, free_S, free_0, free_n, dAdd_int, dSub_int, bLt_int, bLe_int, bGt_int, bGe_int, bEq_int, bEq_bl, bEq_str, bNe_int, bNe_bl, bNe_str, dLen_lst, dLen_tup, dTup_lst, dTup_tup, x_noOwn0, x_noOwn1, okSlot_some, okSlot_n, okSlot_nn, putTup_tup, wipeD, backD, isi_bool_bl, bEq]
/-! ### _law_made -/
theorem made_loop (p : D) (w x : Int) (hp : isOwn p = false) (hx : intBits x ≤ 64) : ∀ (cs : List Int) (o : Option D) (t q : Int) (k : Nat), (∀ c ∈ cs, -1000000 ≤ c ∧ c ≤ 1000000) → intBits q ≤ k → k + 64 * cs.length ≤ 1000 →
    ∃ o' q', loopD (put 5) (mPar 3 4 (mBin dAdd (mVar 3) (mBin dMul (mVar 5) (mPeek 4))) (mBin dMul (mVar 4) (mPeek 2))) (cs.map D.int) [some p, some (.int w), some (.int x), some (.int t), some (.int q), o] = .ok (.nx [some p, some (.int w), some (.int x), some (.int (t + q * hor cs x)), some (.int q'), o'])
  | [], o, t, q, k, _, _, _ => ⟨o, q, by simp [loopD, hor]⟩
  | c :: cs, o, t, q, k, h, hq, hk => by
    simp only [List.length_cons] at hk
    have hc := h c (by simp)
    obtain ⟨o', q', e⟩ := made_loop p w x hp hx cs (some (.int c)) (t + c * q) (q * x) (k + 64) (fun d hd => h d (by simp [hd])) (Nat.le_trans (intBits_mul_le hq hx) (by omega)) (by omega)
    refine ⟨o', q', ?_⟩
    have m1 := mulOk_of (bits_coef hc) hq (by omega)
    have m2 := mulOk_of hq hx (by omega)
    rw [show t + q * hor (c :: cs) x = t + c * q + q * x * hor cs x by rw [hor_cons]; grind]
    refine Eq.trans ?_ e
    simp [loopD, x_B, bR_ok, bR_exc, bR_bad, x_BS, bF_ok, bF_exc, bF_bad, x_R, x_O, oR_some, oR_none, x_Var, varR_some, x_Peek, peekR_some, x_C, x_Lst, x_Cons, x_Seq, seqR_nx, seqR_rt, seqR_rf, seqR_exc, seqR_bad, x_Next, x_Ret, x_RetF, x_Drop, x_If, x_Set, x_Put, nxR_some, nxR_none, x_put, x_putO, x_PutO, x_SetO, x_Bin, x_BinF, x_Bin2, x_Cmp, x_CmpV, x_Tst, tstK_bl, x_NotT, x_AndT, x_OrT, x_AndV, andK_t, andK_f, x_NotV, notK_bl, x_IfE, x_Un, unK_int, x_Chain, x_ChainV, x_Fn, x_App, ifS_some, appK_some, x_PutIx, pixK_int, pixJ_some, x_Call, x_CallF, callR_ok, callR_exc, callR_bad, x_CallM, callM1_some, callM2_ok, x_Asg, x_Par, parK_some, x_ParO, x_Wh, x_For, x_Src, i_lst, i_tup, x_Rng1, rngK_int, x_RevT, revT_tup, x_Comp, compK_ok, x_CallLam, lamK_some, lamK2_ok, x_CallV, o_int, o_bl, o_non, o_str, o_glo, o_tup, o_lst, o_clo, o_own, u_int, u_bl, u_non, u_str, u_glo, u_tup, u_lst, u_clo, u_own, own0, ownS, free_S, free_0, free_n, dAdd_int, dSub_int, bLt_int, bLe_int, bGt_int, bGe_int, bEq_int, bEq_bl, bEq_str, bNe_int, bNe_bl, bNe_str, dLen_lst, dLen_tup, dTup_lst, dTup_tup, x_noOwn0, x_noOwn1, okSlot_some, okSlot_n, okSlot_nn, putTup_tup, wipeD, backD, hp, dMul_ok m1, dMul_ok m2, dAdd]
theorem law_made_ok (cs : List Int) (w x : Int) (hg : ∀ c ∈ cs, -1000000 ≤ c ∧ c ≤ 1000000) (hl : cs.length ≤ 6) (h1 : 0 ≤ w) (h2 : w ≤ 64) (h3 : 0 ≤ x) (h4 : x < 2 ^ 64) : g__law_made [tI cs, .int w, .int x] = .ok (.int (hor cs x % 2 ^ w.toNat)) := by
  obtain ⟨o, q, e⟩ := made_loop (tI cs) w x rfl (bits_of (by omega) (by omega)) cs none 0 1 1 hg (by decide) (by omega)
  have p : (0 : Int) < 2 ^ w.toNat := Int.pow_pos (by decide)
  rw [Int.zero_add, Int.one_mul] at e
  simp [g__law_made, m__law_made, runD, startD, x_B, bR_ok, bR_exc, bR_bad, x_BS, bF_ok, bF_exc, bF_bad, x_R, x_O, oR_some, oR_none, x_Var, varR_some, x_Peek, peekR_some, x_C, x_Lst, x_Cons, x_Seq, seqR_nx, seqR_rt, seqR_rf, seqR_exc, seqR_bad, x_Next, x_Ret, x_RetF, x_Drop, x_If, x_Set, x_Put, nxR_some, nxR_none, x_put, x_putO, x_PutO, x_SetO, x_Bin, x_BinF, x_Bin2, x_Cmp, x_CmpV, x_Tst, tstK_bl, x_NotT, x_AndT, x_OrT, x_AndV, andK_t, andK_f, x_NotV, notK_bl, x_IfE, x_Un, unK_int, x_Chain, x_ChainV, x_Fn, x_App, ifS_some, appK_some, x_PutIx, pixK_int, pixJ_some, x_Call, x_CallF, callR_ok, callR_exc, callR_bad, x_CallM, callM1_some, callM2_ok, x_Asg, x_Par, parK_some, x_ParO, x_Wh, x_For, x_Src, i_lst, i_tup, x_Rng1, rngK_int, x_RevT, revT_tup, x_Comp, compK_ok, x_CallLam, lamK_some, lamK2_ok, x_CallV, o_int, o_bl, o_non, o_str, o_glo, o_tup, o_lst, o_clo, o_own, u_int, u_bl, u_non, u_str, u_glo, u_tup, u_lst, u_clo, u_own, own0, ownS, free_S, free_0, free_n, dAdd_int, dSub_int, bLt_int, bLe_int, bGt_int, bGe_int, bEq_int, bEq_bl, bEq_str, bNe_int, bNe_bl, bNe_str, dLen_lst, dLen_tup, dTup_lst, dTup_tup, x_noOwn0, x_noOwn1, okSlot_some, okSlot_n, okSlot_nn, putTup_tup, wipeD, backD, putTup, putCons, putNil, e, dShl_one h1 h2, dMod_ok p]
end HD

set_option Elab.async false
set_option linter.all false
set_option autoImplicit false
set_option maxRecDepth 100000
set_option maxHeartbeats 4000000
namespace HD
open PySem PySem.Spec PyProof.Rows L2 Builtin.Int
theorem dDiv_ok {a b : Int} (h : 0 < b) (hb : b ≤ 2 ^ 64) : dDiv (.int a) (.int b) = some (.int (a / b)) := by
  have : b.natAbs.log2 < 9000 := by
    refine (Nat.log2_lt (by omega)).mpr ?_
    have : (2 : Nat) ^ 64 ≤ 2 ^ 9000 := Nat.pow_le_pow_right (by decide) (by decide)
    omega
  simp [dDiv, f2I, h, this]
theorem int_ok (a : Int) : dInt (.int a) = some (.int a) := rfl
/-- where the draws stand -/
def VatOk (as : List D) : Prop := ∃ a b : Int, as = [.int a, .int b] ∧ 0 ≤ a ∧ 0 ≤ b ∧ b ≤ 2147483629
theorem under_ok (as : List D) (h : VatOk as) (many : Int) (h1 : 0 < many) (h2 : many ≤ 2 ^ 64) : ∃ v as', g__law_under as [.int many] = .ok (.int v, as') ∧ 0 ≤ v ∧ v < many ∧ VatOk as' := by
  obtain ⟨a, b, rfl, ha, hb, hb'⟩ := h
  by_cases hp : 0 < a
  · refine ⟨a % many, [.int (a / many), .int b], ?_, Int.emod_nonneg _ (by omega), Int.emod_lt_of_pos _ h1, a / many, b, rfl, Int.ediv_nonneg ha (by omega), hb, hb'⟩
    simp [g__law_under, m__law_under, runM, startM, x_B, bR_ok, bR_exc, bR_bad, x_BS, bF_ok, bF_exc, bF_bad, x_R, x_O, oR_some, oR_none, x_Var, varR_some, x_Peek, peekR_some, x_C, x_Lst, x_Cons, x_Seq, seqR_nx, seqR_rt, seqR_rf, seqR_exc, seqR_bad, x_Next, x_Ret, x_RetF, x_Drop, x_If, x_Set, x_Put, nxR_some, nxR_none, x_put, x_putO, x_PutO, x_SetO, x_Bin, x_BinF, x_Bin2, x_Cmp, x_CmpV, x_Tst, tstK_bl, x_NotT, x_AndT, x_OrT, x_AndV, andK_t, andK_f, x_NotV, notK_bl, x_IfE, x_Un, unK_int, x_Chain, x_ChainV, x_Fn, x_App, ifS_some, appK_some, x_PutIx, pixK_int, pixJ_some, x_Call, x_CallF, callR_ok, callR_exc, callR_bad, x_CallM, callM1_some, callM2_ok, x_Asg, x_Par, parK_some, x_ParO, x_Wh, x_For, x_Src, i_lst, i_tup, x_Rng1, rngK_int, x_RevT, revT_tup, x_Comp, compK_ok, x_CallLam, lamK_some, lamK2_ok, x_CallV, o_int, o_bl, o_non, o_str, o_glo, o_tup, o_lst, o_clo, o_own, u_int, u_bl, u_non, u_str, u_glo, u_tup, u_lst, u_clo, u_own, own0, ownS, free_S, free_0, free_n, dAdd_int, dSub_int, bLt_int, bLe_int, bGt_int, bGe_int, bEq_int, bEq_bl, bEq_str, bNe_int, bNe_bl, bNe_str, dLen_lst, dLen_tup, dTup_lst, dTup_tup, x_noOwn0, x_noOwn1, okSlot_some, okSlot_n, okSlot_nn, putTup_tup, wipeD, backD, dIx, atI, ixN, bGt, f2B, hp, int_ok, dMod_ok h1, dDiv_ok h1 h2]
  · have m1 : mulOk b 39373 = true := mulOk_of (m := 32) (n := 32) (bits_of (by omega) (by omega)) (bits_of (by omega) (by omega)) (by omega)
    have k1 := Int.emod_nonneg (b * 39373 + 101) (b := 2147483629) (by omega)
    have k2 := Int.emod_lt_of_pos (b * 39373 + 101) (b := 2147483629) (by omega)
    generalize hc : (b * 39373 + 101) % 2147483629 = c at k1 k2
    have k3 : 0 ≤ c / 5 := by omega
    have m2 : mulOk c (c / 5 + 9) = true := mulOk_of (m := 32) (n := 32) (bits_of (by omega) (by omega)) (bits_of (by omega) (by omega)) (by omega)
    refine ⟨(c * (c / 5 + 9)) % 2147483587 / 32 % many, [.int a, .int c], ?_, Int.emod_nonneg _ (by omega), Int.emod_lt_of_pos _ h1, a, c, rfl, ha, k1, by omega⟩
    have key : m__law_under [some (.own [.int a, .int b]), some (.int many), none, none] = .ok (.rt (.int ((c * (c / 5 + 9)) % 2147483587 / 32 % many)) [some (.own [.int a, .int c]), some (.int many), none, some (.int ((c * (c / 5 + 9)) % 2147483587))]) := by
      unfold m__law_under
      refine (seq_nx (sd1 := [some (.own [.int a, .int b]), some (.int many), none, none]) ?_).trans ((seq_nx (sd1 := [some (.own [.int a, .int c]), some (.int many), none, none]) ?_).trans ((seq_nx (sd1 := [some (.own [.int a, .int c]), some (.int many), none, some (.int ((c * (c / 5 + 9)) % 2147483587))]) ?_).trans ?_))
      · simp [x_B, bR_ok, bR_exc, bR_bad, x_BS, bF_ok, bF_exc, bF_bad, x_R, x_O, oR_some, oR_none, x_Var, varR_some, x_Peek, peekR_some, x_C, x_Lst, x_Cons, x_Seq, seqR_nx, seqR_rt, seqR_rf, seqR_exc, seqR_bad, x_Next, x_Ret, x_RetF, x_Drop, x_If, x_Set, x_Put, nxR_some, nxR_none, x_put, x_putO, x_PutO, x_SetO, x_Bin, x_BinF, x_Bin2, x_Cmp, x_CmpV, x_Tst, tstK_bl, x_NotT, x_AndT, x_OrT, x_AndV, andK_t, andK_f, x_NotV, notK_bl, x_IfE, x_Un, unK_int, x_Chain, x_ChainV, x_Fn, x_App, ifS_some, appK_some, x_PutIx, pixK_int, pixJ_some, x_Call, x_CallF, callR_ok, callR_exc, callR_bad, x_CallM, callM1_some, callM2_ok, x_Asg, x_Par, parK_some, x_ParO, x_Wh, x_For, x_Src, i_lst, i_tup, x_Rng1, rngK_int, x_RevT, revT_tup, x_Comp, compK_ok, x_CallLam, lamK_some, lamK2_ok, x_CallV, o_int, o_bl, o_non, o_str, o_glo, o_tup, o_lst, o_clo, o_own, u_int, u_bl, u_non, u_str, u_glo, u_tup, u_lst, u_clo, u_own, own0, ownS, free_S, free_0, free_n, dAdd_int, dSub_int, bLt_int, bLe_int, bGt_int, bGe_int, bEq_int, bEq_bl, bEq_str, bNe_int, bNe_bl, bNe_str, dLen_lst, dLen_tup, dTup_lst, dTup_tup, x_noOwn0, x_noOwn1, okSlot_some, okSlot_n, okSlot_nn, putTup_tup, wipeD, backD, dIx, atI, ixN, bGt, f2B, hp]
      · have d := dMod_ok (a := b * 39373 + 101) (b := 2147483629) (by omega)
        rw [hc] at d
        simp [x_B, bR_ok, bR_exc, bR_bad, x_BS, bF_ok, bF_exc, bF_bad, x_R, x_O, oR_some, oR_none, x_Var, varR_some, x_Peek, peekR_some, x_C, x_Lst, x_Cons, x_Seq, seqR_nx, seqR_rt, seqR_rf, seqR_exc, seqR_bad, x_Next, x_Ret, x_RetF, x_Drop, x_If, x_Set, x_Put, nxR_some, nxR_none, x_put, x_putO, x_PutO, x_SetO, x_Bin, x_BinF, x_Bin2, x_Cmp, x_CmpV, x_Tst, tstK_bl, x_NotT, x_AndT, x_OrT, x_AndV, andK_t, andK_f, x_NotV, notK_bl, x_IfE, x_Un, unK_int, x_Chain, x_ChainV, x_Fn, x_App, ifS_some, appK_some, x_PutIx, pixK_int, pixJ_some, x_Call, x_CallF, callR_ok, callR_exc, callR_bad, x_CallM, callM1_some, callM2_ok, x_Asg, x_Par, parK_some, x_ParO, x_Wh, x_For, x_Src, i_lst, i_tup, x_Rng1, rngK_int, x_RevT, revT_tup, x_Comp, compK_ok, x_CallLam, lamK_some, lamK2_ok, x_CallV, o_int, o_bl, o_non, o_str, o_glo, o_tup, o_lst, o_clo, o_own, u_int, u_bl, u_non, u_str, u_glo, u_tup, u_lst, u_clo, u_own, own0, ownS, free_S, free_0, free_n, dAdd_int, dSub_int, bLt_int, bLe_int, bGt_int, bGe_int, bEq_int, bEq_bl, bEq_str, bNe_int, bNe_bl, bNe_str, dLen_lst, dLen_tup, dTup_lst, dTup_tup, x_noOwn0, x_noOwn1, okSlot_some, okSlot_n, okSlot_nn, putTup_tup, wipeD, backD, dIx, atI, ixN, int_ok, dMul_ok m1, dAdd, d]
      · simp [x_B, bR_ok, bR_exc, bR_bad, x_BS, bF_ok, bF_exc, bF_bad, x_R, x_O, oR_some, oR_none, x_Var, varR_some, x_Peek, peekR_some, x_C, x_Lst, x_Cons, x_Seq, seqR_nx, seqR_rt, seqR_rf, seqR_exc, seqR_bad, x_Next, x_Ret, x_RetF, x_Drop, x_If, x_Set, x_Put, nxR_some, nxR_none, x_put, x_putO, x_PutO, x_SetO, x_Bin, x_BinF, x_Bin2, x_Cmp, x_CmpV, x_Tst, tstK_bl, x_NotT, x_AndT, x_OrT, x_AndV, andK_t, andK_f, x_NotV, notK_bl, x_IfE, x_Un, unK_int, x_Chain, x_ChainV, x_Fn, x_App, ifS_some, appK_some, x_PutIx, pixK_int, pixJ_some, x_Call, x_CallF, callR_ok, callR_exc, callR_bad, x_CallM, callM1_some, callM2_ok, x_Asg, x_Par, parK_some, x_ParO, x_Wh, x_For, x_Src, i_lst, i_tup, x_Rng1, rngK_int, x_RevT, revT_tup, x_Comp, compK_ok, x_CallLam, lamK_some, lamK2_ok, x_CallV, o_int, o_bl, o_non, o_str, o_glo, o_tup, o_lst, o_clo, o_own, u_int, u_bl, u_non, u_str, u_glo, u_tup, u_lst, u_clo, u_own, own0, ownS, free_S, free_0, free_n, dAdd_int, dSub_int, bLt_int, bLe_int, bGt_int, bGe_int, bEq_int, bEq_bl, bEq_str, bNe_int, bNe_bl, bNe_str, dLen_lst, dLen_tup, dTup_lst, dTup_tup, x_noOwn0, x_noOwn1, okSlot_some, okSlot_n, okSlot_nn, putTup_tup, wipeD, backD, dIx, atI, ixN, int_ok, dMul_ok m2, dAdd, dMod_ok (show (0 : Int) < 2147483587 by omega), dDiv_ok (show (0 : Int) < 5 by omega) (by omega)]
      · simp [x_B, bR_ok, bR_exc, bR_bad, x_BS, bF_ok, bF_exc, bF_bad, x_R, x_O, oR_some, oR_none, x_Var, varR_some, x_Peek, peekR_some, x_C, x_Lst, x_Cons, x_Seq, seqR_nx, seqR_rt, seqR_rf, seqR_exc, seqR_bad, x_Next, x_Ret, x_RetF, x_Drop, x_If, x_Set, x_Put, nxR_some, nxR_none, x_put, x_putO, x_PutO, x_SetO, x_Bin, x_BinF, x_Bin2, x_Cmp, x_CmpV, x_Tst, tstK_bl, x_NotT, x_AndT, x_OrT, x_AndV, andK_t, andK_f, x_NotV, notK_bl, x_IfE, x_Un, unK_int, x_Chain, x_ChainV, x_Fn, x_App, ifS_some, appK_some, x_PutIx, pixK_int, pixJ_some, x_Call, x_CallF, callR_ok, callR_exc, callR_bad, x_CallM, callM1_some, callM2_ok, x_Asg, x_Par, parK_some, x_ParO, x_Wh, x_For, x_Src, i_lst, i_tup, x_Rng1, rngK_int, x_RevT, revT_tup, x_Comp, compK_ok, x_CallLam, lamK_some, lamK2_ok, x_CallV, o_int, o_bl, o_non, o_str, o_glo, o_tup, o_lst, o_clo, o_own, u_int, u_bl, u_non, u_str, u_glo, u_tup, u_lst, u_clo, u_own, own0, ownS, free_S, free_0, free_n, dAdd_int, dSub_int, bLt_int, bLe_int, bGt_int, bGe_int, bEq_int, bEq_bl, bEq_str, bNe_int, bNe_bl, bNe_str, dLen_lst, dLen_tup, dTup_lst, dTup_tup, x_noOwn0, x_noOwn1, okSlot_some, okSlot_n, okSlot_nn, putTup_tup, wipeD, backD, int_ok, dMod_ok h1, dDiv_ok (show (0 : Int) < 32 by omega) (by omega)]
    show runM m__law_under 4 _ _ = _
    have st : startM 4 [.int a, .int b] [.int many] = [some (.own [.int a, .int b]), some (.int many), none, none] := rfl
    rw [runM, st, key]
    rfl
theorem pow_ok (a b c : Int) (h : dPow (.int a) (.int b) = some (.int c)) : dPow (.int a) (.int b) = some (.int c) := h
theorem pow18 : dPow (.int 10) (.int 18) = some (.int 1000000000000000000) := by rfl
theorem pow9 : dPow (.int 10) (.int 9) = some (.int 1000000000) := by rfl
theorem pow6 : dPow (.int 10) (.int 6) = some (.int 1000000) := by rfl
theorem vat_ok (ns : List Int) (k : Int) (hk : 0 ≤ k) (hk2 : k < 100) (hb : ∀ z ∈ ns, intBits z ≤ 1048576) : ∃ as, g__law_vat [.lst (ns.map D.int), .int k] = .ok as ∧ VatOk as := by
  have core : ∀ cell : Int, 0 ≤ cell → intBits cell ≤ 1048576 → mulOk cell 131071 = true ∧ VatOk [.int (if 1000000000000000000 ≤ cell then cell else 0), .int ((cell * 131071 + 8191 * k + 5) % 2147483629 + 1)] := by
    intro cell h0 h1
    refine ⟨mulOk_of (n := 32) h1 (bits_of (by omega) (by omega)) (by omega), _, _, rfl, ?_, ?_, ?_⟩
    · split <;> omega
    · have := Int.emod_nonneg (cell * 131071 + 8191 * k + 5) (b := 2147483629) (by omega); omega
    · have := Int.emod_lt_of_pos (cell * 131071 + 8191 * k + 5) (b := 2147483629) (by omega); omega
  have m1 : mulOk 7919 k = true := mulOk_of (m := 32) (n := 32) (bits_of (by omega) (by omega)) (bits_of (by omega) (by omega)) (by omega)
  have m2 : mulOk 8191 k = true := mulOk_of (m := 32) (n := 32) (bits_of (by omega) (by omega)) (bits_of (by omega) (by omega)) (by omega)
  by_cases hl : k < ns.length
  · obtain ⟨i, rfl⟩ : ∃ i : Nat, k = i := ⟨k.toNat, by omega⟩
    have hi : i < ns.length := by omega
    have hz := hb ns[i] (List.getElem_mem hi)
    have hz' : intBits (if ns[i] < 0 then -ns[i] else ns[i]) ≤ 1048576 := by
      split
      · exact intBits_neg_le hz
      · exact hz
    obtain ⟨c1, c2⟩ := core (if ns[i] < 0 then -ns[i] else ns[i]) (by split <;> omega) hz'
    refine ⟨_, ?_, c2⟩
    generalize hq : (if ns[i] < 0 then -ns[i] else ns[i]) = q at *
    have ab : dAbs (.int ns[i]) = some (.int q) := by rw [← hq]; rfl
    have key : m__law_vat [some (.lst (ns.map D.int)), some (.int (i : Int)), none] = .ok (.rf [.int (if 1000000000000000000 ≤ q then q else 0), .int ((q * 131071 + 8191 * i + 5) % 2147483629 + 1)] [some (.lst (ns.map D.int)), some (.int (i : Int)), some (.int q)]) := by
      unfold m__law_vat
      refine (seq_nx (sd1 := [some (.lst (ns.map D.int)), some (.int (i : Int)), some (.int (7919 * i + 43))]) ?_).trans ((seq_nx (sd1 := [some (.lst (ns.map D.int)), some (.int (i : Int)), some (.int q)]) ?_).trans ?_)
      · simp [x_B, bR_ok, bR_exc, bR_bad, x_BS, bF_ok, bF_exc, bF_bad, x_R, x_O, oR_some, oR_none, x_Var, varR_some, x_Peek, peekR_some, x_C, x_Lst, x_Cons, x_Seq, seqR_nx, seqR_rt, seqR_rf, seqR_exc, seqR_bad, x_Next, x_Ret, x_RetF, x_Drop, x_If, x_Set, x_Put, nxR_some, nxR_none, x_put, x_putO, x_PutO, x_SetO, x_Bin, x_BinF, x_Bin2, x_Cmp, x_CmpV, x_Tst, tstK_bl, x_NotT, x_AndT, x_OrT, x_AndV, andK_t, andK_f, x_NotV, notK_bl, x_IfE, x_Un, unK_int, x_Chain, x_ChainV, x_Fn, x_App, ifS_some, appK_some, x_PutIx, pixK_int, pixJ_some, x_Call, x_CallF, callR_ok, callR_exc, callR_bad, x_CallM, callM1_some, callM2_ok, x_Asg, x_Par, parK_some, x_ParO, x_Wh, x_For, x_Src, i_lst, i_tup, x_Rng1, rngK_int, x_RevT, revT_tup, x_Comp, compK_ok, x_CallLam, lamK_some, lamK2_ok, x_CallV, o_int, o_bl, o_non, o_str, o_glo, o_tup, o_lst, o_clo, o_own, u_int, u_bl, u_non, u_str, u_glo, u_tup, u_lst, u_clo, u_own, own0, ownS, free_S, free_0, free_n, dAdd_int, dSub_int, bLt_int, bLe_int, bGt_int, bGe_int, bEq_int, bEq_bl, bEq_str, bNe_int, bNe_bl, bNe_str, dLen_lst, dLen_tup, dTup_lst, dTup_tup, x_noOwn0, x_noOwn1, okSlot_some, okSlot_n, okSlot_nn, putTup_tup, wipeD, backD, dMul_ok m1, dAdd]
      · simp [x_B, bR_ok, bR_exc, bR_bad, x_BS, bF_ok, bF_exc, bF_bad, x_R, x_O, oR_some, oR_none, x_Var, varR_some, x_Peek, peekR_some, x_C, x_Lst, x_Cons, x_Seq, seqR_nx, seqR_rt, seqR_rf, seqR_exc, seqR_bad, x_Next, x_Ret, x_RetF, x_Drop, x_If, x_Set, x_Put, nxR_some, nxR_none, x_put, x_putO, x_PutO, x_SetO, x_Bin, x_BinF, x_Bin2, x_Cmp, x_CmpV, x_Tst, tstK_bl, x_NotT, x_AndT, x_OrT, x_AndV, andK_t, andK_f, x_NotV, notK_bl, x_IfE, x_Un, unK_int, x_Chain, x_ChainV, x_Fn, x_App, ifS_some, appK_some, x_PutIx, pixK_int, pixJ_some, x_Call, x_CallF, callR_ok, callR_exc, callR_bad, x_CallM, callM1_some, callM2_ok, x_Asg, x_Par, parK_some, x_ParO, x_Wh, x_For, x_Src, i_lst, i_tup, x_Rng1, rngK_int, x_RevT, revT_tup, x_Comp, compK_ok, x_CallLam, lamK_some, lamK2_ok, x_CallV, o_int, o_bl, o_non, o_str, o_glo, o_tup, o_lst, o_clo, o_own, u_int, u_bl, u_non, u_str, u_glo, u_tup, u_lst, u_clo, u_own, own0, ownS, free_S, free_0, free_n, dAdd_int, dSub_int, bLt_int, bLe_int, bGt_int, bGe_int, bEq_int, bEq_bl, bEq_str, bNe_int, bNe_bl, bNe_str, dLen_lst, dLen_tup, dTup_lst, dTup_tup, x_noOwn0, x_noOwn1, okSlot_some, okSlot_n, okSlot_nn, putTup_tup, wipeD, backD, bLt, f2B, dLen, hl, hi, dIx, atI, ixN, int_ok, ab]
      · have d := dMod_ok (a := q * 131071 + 8191 * (i : Int) + 5) (b := 2147483629) (by omega)
        generalize (q * 131071 + 8191 * (i : Int) + 5) % 2147483629 = r at d ⊢
        by_cases hg : 1000000000000000000 ≤ q <;> simp [x_B, bR_ok, bR_exc, bR_bad, x_BS, bF_ok, bF_exc, bF_bad, x_R, x_O, oR_some, oR_none, x_Var, varR_some, x_Peek, peekR_some, x_C, x_Lst, x_Cons, x_Seq, seqR_nx, seqR_rt, seqR_rf, seqR_exc, seqR_bad, x_Next, x_Ret, x_RetF, x_Drop, x_If, x_Set, x_Put, nxR_some, nxR_none, x_put, x_putO, x_PutO, x_SetO, x_Bin, x_BinF, x_Bin2, x_Cmp, x_CmpV, x_Tst, tstK_bl, x_NotT, x_AndT, x_OrT, x_AndV, andK_t, andK_f, x_NotV, notK_bl, x_IfE, x_Un, unK_int, x_Chain, x_ChainV, x_Fn, x_App, ifS_some, appK_some, x_PutIx, pixK_int, pixJ_some, x_Call, x_CallF, callR_ok, callR_exc, callR_bad, x_CallM, callM1_some, callM2_ok, x_Asg, x_Par, parK_some, x_ParO, x_Wh, x_For, x_Src, i_lst, i_tup, x_Rng1, rngK_int, x_RevT, revT_tup, x_Comp, compK_ok, x_CallLam, lamK_some, lamK2_ok, x_CallV, o_int, o_bl, o_non, o_str, o_glo, o_tup, o_lst, o_clo, o_own, u_int, u_bl, u_non, u_str, u_glo, u_tup, u_lst, u_clo, u_own, own0, ownS, free_S, free_0, free_n, dAdd_int, dSub_int, bLt_int, bLe_int, bGt_int, bGe_int, bEq_int, bEq_bl, bEq_str, bNe_int, bNe_bl, bNe_str, dLen_lst, dLen_tup, dTup_lst, dTup_tup, x_noOwn0, x_noOwn1, okSlot_some, okSlot_n, okSlot_nn, putTup_tup, wipeD, backD, bGe, f2B, pow18, hg, dMul_ok c1, dMul_ok m2, dAdd, int_ok, d]
    show runF m__law_vat 3 _ = _
    have st : startD 3 [.lst (ns.map D.int), .int (i : Int)] = [some (.lst (ns.map D.int)), some (.int (i : Int)), none] := rfl
    rw [runF, st, key]
  · obtain ⟨c1, c2⟩ := core (7919 * k + 43) (by omega) (Nat.le_trans (bits_of (k := 32) (by omega) (by omega)) (by omega))
    refine ⟨_, ?_, c2⟩
    have key : m__law_vat [some (.lst (ns.map D.int)), some (.int k), none] = .ok (.rf [.int (if 1000000000000000000 ≤ 7919 * k + 43 then 7919 * k + 43 else 0), .int (((7919 * k + 43) * 131071 + 8191 * k + 5) % 2147483629 + 1)] [some (.lst (ns.map D.int)), some (.int k), some (.int (7919 * k + 43))]) := by
      unfold m__law_vat
      refine (seq_nx (sd1 := [some (.lst (ns.map D.int)), some (.int k), some (.int (7919 * k + 43))]) ?_).trans ((seq_nx (sd1 := [some (.lst (ns.map D.int)), some (.int k), some (.int (7919 * k + 43))]) ?_).trans ?_)
      · simp [x_B, bR_ok, bR_exc, bR_bad, x_BS, bF_ok, bF_exc, bF_bad, x_R, x_O, oR_some, oR_none, x_Var, varR_some, x_Peek, peekR_some, x_C, x_Lst, x_Cons, x_Seq, seqR_nx, seqR_rt, seqR_rf, seqR_exc, seqR_bad, x_Next, x_Ret, x_RetF, x_Drop, x_If, x_Set, x_Put, nxR_some, nxR_none, x_put, x_putO, x_PutO, x_SetO, x_Bin, x_BinF, x_Bin2, x_Cmp, x_CmpV, x_Tst, tstK_bl, x_NotT, x_AndT, x_OrT, x_AndV, andK_t, andK_f, x_NotV, notK_bl, x_IfE, x_Un, unK_int, x_Chain, x_ChainV, x_Fn, x_App, ifS_some, appK_some, x_PutIx, pixK_int, pixJ_some, x_Call, x_CallF, callR_ok, callR_exc, callR_bad, x_CallM, callM1_some, callM2_ok, x_Asg, x_Par, parK_some, x_ParO, x_Wh, x_For, x_Src, i_lst, i_tup, x_Rng1, rngK_int, x_RevT, revT_tup, x_Comp, compK_ok, x_CallLam, lamK_some, lamK2_ok, x_CallV, o_int, o_bl, o_non, o_str, o_glo, o_tup, o_lst, o_clo, o_own, u_int, u_bl, u_non, u_str, u_glo, u_tup, u_lst, u_clo, u_own, own0, ownS, free_S, free_0, free_n, dAdd_int, dSub_int, bLt_int, bLe_int, bGt_int, bGe_int, bEq_int, bEq_bl, bEq_str, bNe_int, bNe_bl, bNe_str, dLen_lst, dLen_tup, dTup_lst, dTup_tup, x_noOwn0, x_noOwn1, okSlot_some, okSlot_n, okSlot_nn, putTup_tup, wipeD, backD, dMul_ok m1, dAdd]
      · simp [x_B, bR_ok, bR_exc, bR_bad, x_BS, bF_ok, bF_exc, bF_bad, x_R, x_O, oR_some, oR_none, x_Var, varR_some, x_Peek, peekR_some, x_C, x_Lst, x_Cons, x_Seq, seqR_nx, seqR_rt, seqR_rf, seqR_exc, seqR_bad, x_Next, x_Ret, x_RetF, x_Drop, x_If, x_Set, x_Put, nxR_some, nxR_none, x_put, x_putO, x_PutO, x_SetO, x_Bin, x_BinF, x_Bin2, x_Cmp, x_CmpV, x_Tst, tstK_bl, x_NotT, x_AndT, x_OrT, x_AndV, andK_t, andK_f, x_NotV, notK_bl, x_IfE, x_Un, unK_int, x_Chain, x_ChainV, x_Fn, x_App, ifS_some, appK_some, x_PutIx, pixK_int, pixJ_some, x_Call, x_CallF, callR_ok, callR_exc, callR_bad, x_CallM, callM1_some, callM2_ok, x_Asg, x_Par, parK_some, x_ParO, x_Wh, x_For, x_Src, i_lst, i_tup, x_Rng1, rngK_int, x_RevT, revT_tup, x_Comp, compK_ok, x_CallLam, lamK_some, lamK2_ok, x_CallV, o_int, o_bl, o_non, o_str, o_glo, o_tup, o_lst, o_clo, o_own, u_int, u_bl, u_non, u_str, u_glo, u_tup, u_lst, u_clo, u_own, own0, ownS, free_S, free_0, free_n, dAdd_int, dSub_int, bLt_int, bLe_int, bGt_int, bGe_int, bEq_int, bEq_bl, bEq_str, bNe_int, bNe_bl, bNe_str, dLen_lst, dLen_tup, dTup_lst, dTup_tup, x_noOwn0, x_noOwn1, okSlot_some, okSlot_n, okSlot_nn, putTup_tup, wipeD, backD, bLt, f2B, dLen, hl]
      · generalize 7919 * k + 43 = q at c1 ⊢
        have d := dMod_ok (a := q * 131071 + 8191 * k + 5) (b := 2147483629) (by omega)
        generalize (q * 131071 + 8191 * k + 5) % 2147483629 = r at d ⊢
        by_cases hg : 1000000000000000000 ≤ q <;> simp [x_B, bR_ok, bR_exc, bR_bad, x_BS, bF_ok, bF_exc, bF_bad, x_R, x_O, oR_some, oR_none, x_Var, varR_some, x_Peek, peekR_some, x_C, x_Lst, x_Cons, x_Seq, seqR_nx, seqR_rt, seqR_rf, seqR_exc, seqR_bad, x_Next, x_Ret, x_RetF, x_Drop, x_If, x_Set, x_Put, nxR_some, nxR_none, x_put, x_putO, x_PutO, x_SetO, x_Bin, x_BinF, x_Bin2, x_Cmp, x_CmpV, x_Tst, tstK_bl, x_NotT, x_AndT, x_OrT, x_AndV, andK_t, andK_f, x_NotV, notK_bl, x_IfE, x_Un, unK_int, x_Chain, x_ChainV, x_Fn, x_App, ifS_some, appK_some, x_PutIx, pixK_int, pixJ_some, x_Call, x_CallF, callR_ok, callR_exc, callR_bad, x_CallM, callM1_some, callM2_ok, x_Asg, x_Par, parK_some, x_ParO, x_Wh, x_For, x_Src, i_lst, i_tup, x_Rng1, rngK_int, x_RevT, revT_tup, x_Comp, compK_ok, x_CallLam, lamK_some, lamK2_ok, x_CallV, o_int, o_bl, o_non, o_str, o_glo, o_tup, o_lst, o_clo, o_own, u_int, u_bl, u_non, u_str, u_glo, u_tup, u_lst, u_clo, u_own, own0, ownS, free_S, free_0, free_n, dAdd_int, dSub_int, bLt_int, bLe_int, bGt_int, bGe_int, bEq_int, bEq_bl, bEq_str, bNe_int, bNe_bl, bNe_str, dLen_lst, dLen_tup, dTup_lst, dTup_tup, x_noOwn0, x_noOwn1, okSlot_some, okSlot_n, okSlot_nn, putTup_tup, wipeD, backD, bGe, f2B, pow18, hg, dMul_ok c1, dMul_ok m2, dAdd, int_ok, d]
    show runF m__law_vat 3 _ = _
    have st : startD 3 [.lst (ns.map D.int), .int k] = [some (.lst (ns.map D.int)), some (.int k), none] := rfl
    rw [runF, st, key]
end HD

set_option Elab.async false
set_option linter.all false
set_option autoImplicit false
set_option maxRecDepth 100000
set_option maxHeartbeats 4000000
namespace HD
open PySem PySem.Spec PyProof.Rows L2 Builtin.Int
theorem allSc_ints (ns : List Int) : allOf scV (ns.map D.int) = some (ns.map V.int) := by
  induction ns with
  | nil => rfl
  | cons n ns ih => simp [allOf, ih, scV]
theorem bIn_ints (x : Int) (ns : List Int) : bIn (.int x) (.lst (ns.map D.int)) = some (decide (x ∈ ns)) := by
  have e : inV (.int x) (ns.map V.int) = decide (x ∈ ns) := by
    unfold inV
    rw [Bool.eq_iff_iff, List.any_eq_true, decide_eq_true_iff]
    constructor
    · rintro ⟨v, hv, e⟩
      obtain ⟨n, hn, rfl⟩ := List.mem_map.mp hv
      have : (n == x) = true := e
      rw [beq_iff_eq] at this
      exact this ▸ hn
    · intro h
      exact ⟨.int x, List.mem_map.mpr ⟨x, h, rfl⟩, by show (x == x) = true; simp⟩
  show (match (some (V.int x)), (some (ns.map D.int)).bind (allOf scV) with
    | some v, some vs => some (inV v vs)
    | _, _ => none) = _
  rw [Option.bind_some, allSc_ints]
  show some (inV _ _) = _
  rw [e]
/-- the words met, by three bits -/
def met8 (cs : List Int) (k : Nat) : List Int := (List.range k).map fun i => again cs i 0 % 8
theorem met8_succ (cs : List Int) (k : Nat) : met8 cs (k + 1) = met8 cs k ++ [again cs k 0 % 8] := by
  unfold met8
  rw [List.range_succ, List.map_append]
  rfl
theorem all_loop (cs : List Int) (hg : GoodP cs) : ∀ (n k : Nat), n + k = 9 → (∀ i j, i < j → j < k → ¬ Cg 8 (again cs i 0) (again cs j 0)) → ∀ f, n < f → ∃ k', k' ≤ 8 ∧ (k' = 8 ↔ Dist8 cs) ∧ ∃ x : Int,
    mWhile (mCmp bNotIn (mPeek 1) (mPeek 2)) (mSeq (mApp 2 (mVar 1)) (mSet 1 (mCall g_made_by (mCons (mVar 0) (mCons (mC (.int 3)) (mCons (mVar 1) (mR []))))))) f [some (tI cs), some (.int (again cs k 0 % 8)), some (.own ((met8 cs k).map D.int))] =
      .ok (.nx [some (tI cs), some (.int x), some (.own ((met8 cs k').map D.int))]) := by
  intro n
  induction n with
  | zero =>
    intro k hk hd f hf
    have := pigN (fun i => again cs i 0 % 8) k 8 (fun i _ => by omega) (fun i j hij hj => by
      have := hd i j hij hj
      simp only [Cg] at this
      show ¬ again cs i 0 % 8 = again cs j 0 % 8
      omega)
    omega
  | succ n ih =>
    intro k hk hd f hf
    obtain ⟨f, rfl⟩ : ∃ g, f = g + 1 := ⟨f - 1, by omega⟩
    have ht : mCmp bNotIn (mPeek 1) (mPeek 2) [some (tI cs), some (.int (again cs k 0 % 8)), some (.own ((met8 cs k).map D.int))] = .ok (!decide (again cs k 0 % 8 ∈ met8 cs k), [some (tI cs), some (.int (again cs k 0 % 8)), some (.own ((met8 cs k).map D.int))]) := by
      have e := bIn_ints (again cs k 0 % 8) (met8 cs k)
      simp [x_B, bR_ok, bR_exc, bR_bad, x_BS, bF_ok, bF_exc, bF_bad, x_R, x_O, oR_some, oR_none, x_Var, varR_some, x_Peek, peekR_some, x_C, x_Lst, x_Cons, x_Seq, seqR_nx, seqR_rt, seqR_rf, seqR_exc, seqR_bad, x_Next, x_Ret, x_RetF, x_Drop, x_If, x_Set, x_Put, nxR_some, nxR_none, x_put, x_putO, x_PutO, x_SetO, x_Bin, x_BinF, x_Bin2, x_Cmp, x_CmpV, x_Tst, tstK_bl, x_NotT, x_AndT, x_OrT, x_AndV, andK_t, andK_f, x_NotV, notK_bl, x_IfE, x_Un, unK_int, x_Chain, x_ChainV, x_Fn, x_App, ifS_some, appK_some, x_PutIx, pixK_int, pixJ_some, x_Call, x_CallF, callR_ok, callR_exc, callR_bad, x_CallM, callM1_some, callM2_ok, x_Asg, x_Par, parK_some, x_ParO, x_Wh, x_For, x_Src, i_lst, i_tup, x_Rng1, rngK_int, x_RevT, revT_tup, x_Comp, compK_ok, x_CallLam, lamK_some, lamK2_ok, x_CallV, o_int, o_bl, o_non, o_str, o_glo, o_tup, o_lst, o_clo, o_own, u_int, u_bl, u_non, u_str, u_glo, u_tup, u_lst, u_clo, u_own, own0, ownS, free_S, free_0, free_n, dAdd_int, dSub_int, bLt_int, bLe_int, bGt_int, bGe_int, bEq_int, bEq_bl, bEq_str, bNe_int, bNe_bl, bNe_str, dLen_lst, dLen_tup, dTup_lst, dTup_tup, x_noOwn0, x_noOwn1, okSlot_some, okSlot_n, okSlot_nn, putTup_tup, wipeD, backD, bNotIn, e]
    by_cases hm : again cs k 0 % 8 ∈ met8 cs k
    · obtain ⟨i, hi, e⟩ := List.mem_map.mp hm
      have hi := List.mem_range.mp hi
      refine ⟨k, by omega, ⟨fun h => ?_, fun h => ?_⟩, again cs k 0 % 8, ?_⟩
      · subst h; exact hd
      · rcases Nat.lt_trichotomy k 8 with z | z | z
        · exact absurd (emod_cg.mp e) (h i k hi z)
        · exact z
        · omega
      · simp only [hm, decide_true, Bool.not_true] at ht
        exact while_stop ht
    · have hk8 : k ≤ 8 := by omega
      have hd' : ∀ i j, i < j → j < k + 1 → ¬ Cg 8 (again cs i 0) (again cs j 0) := by
        intro i j hij hj hc
        rcases Nat.lt_or_ge j k with z | z
        · exact hd i j hij z hc
        · obtain rfl : j = k := by omega
          exact hm (List.mem_map.mpr ⟨i, List.mem_range.mpr hij, emod_cg.mpr hc⟩)
      obtain ⟨k', h1, h2, x, h3⟩ := ih (k + 1) (by omega) hd' f (by omega)
      refine ⟨k', h1, h2, x, ?_⟩
      have hb := made_by_ok cs 3 (again cs k 0 % 8) hg.2.2 hg.2.1 (by decide) (by decide) (by omega) (by omega)
      have e8 : hor cs (again cs k 0 % 8) % 2 ^ (3 : Int).toNat = again cs (k + 1) 0 % 8 := by
        rw [again_succ]
        show _ % 8 = _ % 8
        exact emod_cg.mpr (cg_hor (by simp only [Cg]; omega) cs)
      rw [e8] at hb
      have hlen : (met8 cs k).length = k := by simp [met8]
      have hl : (met8 cs k).length < sizeLine := by rw [hlen]; exact Nat.lt_of_le_of_lt hk8 (by decide)
      have body : mSeq (mApp 2 (mVar 1)) (mSet 1 (mCall g_made_by (mCons (mVar 0) (mCons (mC (.int 3)) (mCons (mVar 1) (mR [])))))) [some (tI cs), some (.int (again cs k 0 % 8)), some (.own ((met8 cs k).map D.int))] =
          .ok (.nx [some (tI cs), some (.int (again cs (k + 1) 0 % 8)), some (.own ((met8 cs (k + 1)).map D.int))]) := by
        rw [met8_succ]
        simp [x_B, bR_ok, bR_exc, bR_bad, x_BS, bF_ok, bF_exc, bF_bad, x_R, x_O, oR_some, oR_none, x_Var, varR_some, x_Peek, peekR_some, x_C, x_Lst, x_Cons, x_Seq, seqR_nx, seqR_rt, seqR_rf, seqR_exc, seqR_bad, x_Next, x_Ret, x_RetF, x_Drop, x_If, x_Set, x_Put, nxR_some, nxR_none, x_put, x_putO, x_PutO, x_SetO, x_Bin, x_BinF, x_Bin2, x_Cmp, x_CmpV, x_Tst, tstK_bl, x_NotT, x_AndT, x_OrT, x_AndV, andK_t, andK_f, x_NotV, notK_bl, x_IfE, x_Un, unK_int, x_Chain, x_ChainV, x_Fn, x_App, ifS_some, appK_some, x_PutIx, pixK_int, pixJ_some, x_Call, x_CallF, callR_ok, callR_exc, callR_bad, x_CallM, callM1_some, callM2_ok, x_Asg, x_Par, parK_some, x_ParO, x_Wh, x_For, x_Src, i_lst, i_tup, x_Rng1, rngK_int, x_RevT, revT_tup, x_Comp, compK_ok, x_CallLam, lamK_some, lamK2_ok, x_CallV, o_int, o_bl, o_non, o_str, o_glo, o_tup, o_lst, o_clo, o_own, u_int, u_bl, u_non, u_str, u_glo, u_tup, u_lst, u_clo, u_own, own0, ownS, free_S, free_0, free_n, dAdd_int, dSub_int, bLt_int, bLe_int, bGt_int, bGe_int, bEq_int, bEq_bl, bEq_str, bNe_int, bNe_bl, bNe_str, dLen_lst, dLen_tup, dTup_lst, dTup_tup, x_noOwn0, x_noOwn1, okSlot_some, okSlot_n, okSlot_nn, putTup_tup, wipeD, backD, hl, hb]
      simp only [hm, decide_false, Bool.not_false] at ht
      exact (while_next ht body).trans h3
open Classical in
theorem all_words_ok (cs : List Int) (hg : GoodP cs) : g_poly_all_words [tI cs] = .ok (.bl (decide (Dist8 cs))) := by
  obtain ⟨k', h1, h2, x, h3⟩ := all_loop cs hg 9 0 rfl (fun i j _ hj => absurd hj (Nat.not_lt_zero _)) 20 (by decide)
  have hlen : (met8 cs k').length = k' := by simp [met8]
  have e0 : (again cs 0 0 % 8) = 0 := rfl
  have m0 : (met8 cs 0).map D.int = [] := rfl
  rw [e0, m0] at h3
  have hk : ((k' : Int) = 8) = Dist8 cs := by
    rw [← propext h2]
    exact propext ⟨fun h => by omega, fun h => by omega⟩
  show runD m_poly_all_words 3 [tI cs] = _
  have key : m_poly_all_words [some (tI cs), none, none] = .ok (.rt (.bl (decide (Dist8 cs))) [some (tI cs), some (.int x), some (.own ((met8 cs k').map D.int))]) := by
    unfold m_poly_all_words
    refine (seq_nx (sd1 := [some (tI cs), none, none]) ?_).trans ((seq_nx (sd1 := [some (tI cs), some (.int 0), some (.own [])]) ?_).trans ((seq_nx (sd1 := [some (tI cs), some (.int x), some (.own ((met8 cs k').map D.int))]) ?_).trans ?_))
    · simp [x_B, bR_ok, bR_exc, bR_bad, x_BS, bF_ok, bF_exc, bF_bad, x_R, x_O, oR_some, oR_none, x_Var, varR_some, x_Peek, peekR_some, x_C, x_Lst, x_Cons, x_Seq, seqR_nx, seqR_rt, seqR_rf, seqR_exc, seqR_bad, x_Next, x_Ret, x_RetF, x_Drop, x_If, x_Set, x_Put, nxR_some, nxR_none, x_put, x_putO, x_PutO, x_SetO, x_Bin, x_BinF, x_Bin2, x_Cmp, x_CmpV, x_Tst, tstK_bl, x_NotT, x_AndT, x_OrT, x_AndV, andK_t, andK_f, x_NotV, notK_bl, x_IfE, x_Un, unK_int, x_Chain, x_ChainV, x_Fn, x_App, ifS_some, appK_some, x_PutIx, pixK_int, pixJ_some, x_Call, x_CallF, callR_ok, callR_exc, callR_bad, x_CallM, callM1_some, callM2_ok, x_Asg, x_Par, parK_some, x_ParO, x_Wh, x_For, x_Src, i_lst, i_tup, x_Rng1, rngK_int, x_RevT, revT_tup, x_Comp, compK_ok, x_CallLam, lamK_some, lamK2_ok, x_CallV, o_int, o_bl, o_non, o_str, o_glo, o_tup, o_lst, o_clo, o_own, u_int, u_bl, u_non, u_str, u_glo, u_tup, u_lst, u_clo, u_own, own0, ownS, free_S, free_0, free_n, dAdd_int, dSub_int, bLt_int, bLe_int, bGt_int, bGe_int, bEq_int, bEq_bl, bEq_str, bNe_int, bNe_bl, bNe_str, dLen_lst, dLen_tup, dTup_lst, dTup_tup, x_noOwn0, x_noOwn1, okSlot_some, okSlot_n, okSlot_nn, putTup_tup, wipeD, backD, need_poly_good cs hg]
    · simp [x_B, bR_ok, bR_exc, bR_bad, x_BS, bF_ok, bF_exc, bF_bad, x_R, x_O, oR_some, oR_none, x_Var, varR_some, x_Peek, peekR_some, x_C, x_Lst, x_Cons, x_Seq, seqR_nx, seqR_rt, seqR_rf, seqR_exc, seqR_bad, x_Next, x_Ret, x_RetF, x_Drop, x_If, x_Set, x_Put, nxR_some, nxR_none, x_put, x_putO, x_PutO, x_SetO, x_Bin, x_BinF, x_Bin2, x_Cmp, x_CmpV, x_Tst, tstK_bl, x_NotT, x_AndT, x_OrT, x_AndV, andK_t, andK_f, x_NotV, notK_bl, x_IfE, x_Un, unK_int, x_Chain, x_ChainV, x_Fn, x_App, ifS_some, appK_some, x_PutIx, pixK_int, pixJ_some, x_Call, x_CallF, callR_ok, callR_exc, callR_bad, x_CallM, callM1_some, callM2_ok, x_Asg, x_Par, parK_some, x_ParO, x_Wh, x_For, x_Src, i_lst, i_tup, x_Rng1, rngK_int, x_RevT, revT_tup, x_Comp, compK_ok, x_CallLam, lamK_some, lamK2_ok, x_CallV, o_int, o_bl, o_non, o_str, o_glo, o_tup, o_lst, o_clo, o_own, u_int, u_bl, u_non, u_str, u_glo, u_tup, u_lst, u_clo, u_own, own0, ownS, free_S, free_0, free_n, dAdd_int, dSub_int, bLt_int, bLe_int, bGt_int, bGe_int, bEq_int, bEq_bl, bEq_str, bNe_int, bNe_bl, bNe_str, dLen_lst, dLen_tup, dTup_lst, dTup_tup, x_noOwn0, x_noOwn1, okSlot_some, okSlot_n, okSlot_nn, putTup_tup, wipeD, backD]
    · exact h3
    · simp [x_B, bR_ok, bR_exc, bR_bad, x_BS, bF_ok, bF_exc, bF_bad, x_R, x_O, oR_some, oR_none, x_Var, varR_some, x_Peek, peekR_some, x_C, x_Lst, x_Cons, x_Seq, seqR_nx, seqR_rt, seqR_rf, seqR_exc, seqR_bad, x_Next, x_Ret, x_RetF, x_Drop, x_If, x_Set, x_Put, nxR_some, nxR_none, x_put, x_putO, x_PutO, x_SetO, x_Bin, x_BinF, x_Bin2, x_Cmp, x_CmpV, x_Tst, tstK_bl, x_NotT, x_AndT, x_OrT, x_AndV, andK_t, andK_f, x_NotV, notK_bl, x_IfE, x_Un, unK_int, x_Chain, x_ChainV, x_Fn, x_App, ifS_some, appK_some, x_PutIx, pixK_int, pixJ_some, x_Call, x_CallF, callR_ok, callR_exc, callR_bad, x_CallM, callM1_some, callM2_ok, x_Asg, x_Par, parK_some, x_ParO, x_Wh, x_For, x_Src, i_lst, i_tup, x_Rng1, rngK_int, x_RevT, revT_tup, x_Comp, compK_ok, x_CallLam, lamK_some, lamK2_ok, x_CallV, o_int, o_bl, o_non, o_str, o_glo, o_tup, o_lst, o_clo, o_own, u_int, u_bl, u_non, u_str, u_glo, u_tup, u_lst, u_clo, u_own, own0, ownS, free_S, free_0, free_n, dAdd_int, dSub_int, bLt_int, bLe_int, bGt_int, bGe_int, bEq_int, bEq_bl, bEq_str, bNe_int, bNe_bl, bNe_str, dLen_lst, dLen_tup, dTup_lst, dTup_tup, x_noOwn0, x_noOwn1, okSlot_some, okSlot_n, okSlot_nn, putTup_tup, wipeD, backD, dLen, bEq, hlen, hk]
  rw [runD, show startD 3 [tI cs] = [some (tI cs), none, none] from rfl, key]
end HD

set_option Elab.async false
set_option linter.all false
set_option autoImplicit false
set_option maxRecDepth 100000
set_option maxHeartbeats 4000000
namespace HD
open PySem PySem.Spec PyProof.Rows L2 Builtin.Int
theorem ixN_ok (n j : Nat) (h : j < n) : ixN n (j : Int) = some j := by
  simp [ixN, h]
/-- the words, by seven bits -/
abbrev w7 (cs : List Int) (k : Nat) : Int := again cs k 0 % 128
abbrev goals (cs : List Int) : List D := (vals cs 7 128).map D.int
theorem goals_get (cs : List Int) (x : Int) (h0 : 0 ≤ x) (h1 : x < 128) : dIx (.lst (goals cs)) (.int x) = some (.int (hor cs x % 128)) := by
  obtain ⟨n, rfl⟩ : ∃ n : Nat, x = n := ⟨x.toNat, by omega⟩
  have hn : n < 128 := by omega
  have hl : (goals cs).length = 128 := by simp [goals, vals, upto_len]
  have hi : (vals cs 7 128)[n]? = some (hor cs n % 128) := by
    simp [vals, upto, hn]
  show atI (goals cs) (n : Int) = _
  have : (goals cs)[n]? = some (.int (hor cs n % 128)) := by
    simp only [goals, List.getElem?_map, hi]
    rfl
  show (ixN (goals cs).length (n : Int)).bind (fun j => (goals cs)[j]?) = _
  rw [hl, ixN_ok 128 n hn]
  exact this
theorem w7_succ (cs : List Int) (k : Nat) : hor cs (w7 cs k) % 128 = w7 cs (k + 1) := by
  show _ = again cs (k + 1) 0 % 128
  rw [again_succ]
  exact emod_cg.mpr (cg_hor (by simp only [Cg, w7]; omega) cs)
theorem w7_zero (cs : List Int) (k : Nat) : w7 cs k = 0 ↔ Cg 128 (again cs k 0) 0 := by
  simp only [Cg, w7]; omega
theorem right_loop (cs : List Int) (as : List D) (a b : Option D) : ∀ (n k : Nat), 1 ≤ k → n + k = 129 → (∀ j, 1 ≤ j → j < k → w7 cs j ≠ 0) → ∀ f, n < f → ∃ k', 1 ≤ k' ∧ (∀ j, 1 ≤ j → j < k' → w7 cs j ≠ 0) ∧ (w7 cs k' = 0 ∨ k' = 129) ∧
    mWhile (mAndT (mCmp bNe (mPeek 3) (mC (.int 0))) (mCmp bLt (mPeek 4) (mC (.int 129)))) (mPar 3 4 (mBin dIx (mPeek 2) (mVar 3)) (mBin dAdd (mVar 4) (mC (.int 1)))) f [some (.own as), some (tI cs), some (.lst (goals cs)), some (.int (w7 cs k)), some (.int k), a, b] =
      .ok (.nx [some (.own as), some (tI cs), some (.lst (goals cs)), some (.int (w7 cs k')), some (.int k'), a, b]) := by
  intro n
  induction n with
  | zero =>
    intro k h1 hk hj f hf
    obtain ⟨f, rfl⟩ : ∃ g, f = g + 1 := ⟨f - 1, by omega⟩
    obtain rfl : k = 129 := by omega
    refine ⟨129, h1, hj, .inr rfl, ?_⟩
    have ht : mAndT (mCmp bNe (mPeek 3) (mC (.int 0))) (mCmp bLt (mPeek 4) (mC (.int 129))) [some (.own as), some (tI cs), some (.lst (goals cs)), some (.int (w7 cs 129)), some (.int (129 : Nat)), a, b] = .ok (false, [some (.own as), some (tI cs), some (.lst (goals cs)), some (.int (w7 cs 129)), some (.int (129 : Nat)), a, b]) := by
      generalize w7 cs 129 = x
      by_cases hx : x = 0 <;> simp [x_B, bR_ok, bR_exc, bR_bad, x_BS, bF_ok, bF_exc, bF_bad, x_R, x_O, oR_some, oR_none, x_Var, varR_some, x_Peek, peekR_some, x_C, x_Lst, x_Cons, x_Seq, seqR_nx, seqR_rt, seqR_rf, seqR_exc, seqR_bad, x_Next, x_Ret, x_RetF, x_Drop, x_If, x_Set, x_Put, nxR_some, nxR_none, x_put, x_putO, x_PutO, x_SetO, x_Bin, x_BinF, x_Bin2, x_Cmp, x_CmpV, x_Tst, tstK_bl, x_NotT, x_AndT, x_OrT, x_AndV, andK_t, andK_f, x_NotV, notK_bl, x_IfE, x_Un, unK_int, x_Chain, x_ChainV, x_Fn, x_App, ifS_some, appK_some, x_PutIx, pixK_int, pixJ_some, x_Call, x_CallF, callR_ok, callR_exc, callR_bad, x_CallM, callM1_some, callM2_ok, x_Asg, x_Par, parK_some, x_ParO, x_Wh, x_For, x_Src, i_lst, i_tup, x_Rng1, rngK_int, x_RevT, revT_tup, x_Comp, compK_ok, x_CallLam, lamK_some, lamK2_ok, x_CallV, o_int, o_bl, o_non, o_str, o_glo, o_tup, o_lst, o_clo, o_own, u_int, u_bl, u_non, u_str, u_glo, u_tup, u_lst, u_clo, u_own, own0, ownS, free_S, free_0, free_n, dAdd_int, dSub_int, bLt_int, bLe_int, bGt_int, bGe_int, bEq_int, bEq_bl, bEq_str, bNe_int, bNe_bl, bNe_str, dLen_lst, dLen_tup, dTup_lst, dTup_tup, x_noOwn0, x_noOwn1, okSlot_some, okSlot_n, okSlot_nn, putTup_tup, wipeD, backD, bNe, bEq, bLt, f2B, hx]
    exact while_stop ht
  | succ n ih =>
    intro k h1 hk hj f hf
    obtain ⟨f, rfl⟩ : ∃ g, f = g + 1 := ⟨f - 1, by omega⟩
    have hlt : (k : Int) < 129 := by omega
    have ht : mAndT (mCmp bNe (mPeek 3) (mC (.int 0))) (mCmp bLt (mPeek 4) (mC (.int 129))) [some (.own as), some (tI cs), some (.lst (goals cs)), some (.int (w7 cs k)), some (.int k), a, b] = .ok (!decide (w7 cs k = 0), [some (.own as), some (tI cs), some (.lst (goals cs)), some (.int (w7 cs k)), some (.int k), a, b]) := by
      generalize w7 cs k = x
      by_cases hx : x = 0 <;> simp [x_B, bR_ok, bR_exc, bR_bad, x_BS, bF_ok, bF_exc, bF_bad, x_R, x_O, oR_some, oR_none, x_Var, varR_some, x_Peek, peekR_some, x_C, x_Lst, x_Cons, x_Seq, seqR_nx, seqR_rt, seqR_rf, seqR_exc, seqR_bad, x_Next, x_Ret, x_RetF, x_Drop, x_If, x_Set, x_Put, nxR_some, nxR_none, x_put, x_putO, x_PutO, x_SetO, x_Bin, x_BinF, x_Bin2, x_Cmp, x_CmpV, x_Tst, tstK_bl, x_NotT, x_AndT, x_OrT, x_AndV, andK_t, andK_f, x_NotV, notK_bl, x_IfE, x_Un, unK_int, x_Chain, x_ChainV, x_Fn, x_App, ifS_some, appK_some, x_PutIx, pixK_int, pixJ_some, x_Call, x_CallF, callR_ok, callR_exc, callR_bad, x_CallM, callM1_some, callM2_ok, x_Asg, x_Par, parK_some, x_ParO, x_Wh, x_For, x_Src, i_lst, i_tup, x_Rng1, rngK_int, x_RevT, revT_tup, x_Comp, compK_ok, x_CallLam, lamK_some, lamK2_ok, x_CallV, o_int, o_bl, o_non, o_str, o_glo, o_tup, o_lst, o_clo, o_own, u_int, u_bl, u_non, u_str, u_glo, u_tup, u_lst, u_clo, u_own, own0, ownS, free_S, free_0, free_n, dAdd_int, dSub_int, bLt_int, bLe_int, bGt_int, bGe_int, bEq_int, bEq_bl, bEq_str, bNe_int, bNe_bl, bNe_str, dLen_lst, dLen_tup, dTup_lst, dTup_tup, x_noOwn0, x_noOwn1, okSlot_some, okSlot_n, okSlot_nn, putTup_tup, wipeD, backD, bNe, bEq, bLt, f2B, hx, hlt]
    by_cases hz : w7 cs k = 0
    · refine ⟨k, h1, hj, .inl hz, ?_⟩
      simp only [hz, decide_true, Bool.not_true] at ht ⊢
      exact while_stop ht
    · obtain ⟨k', e1, e2, e3, e4⟩ := ih (k + 1) (by omega) (by omega) (fun j a b => by
        rcases Nat.lt_or_ge j k with z | z
        · exact hj j a z
        · obtain rfl : j = k := by omega
          exact hz) f (by omega)
      refine ⟨k', e1, e2, e3, ?_⟩
      have g := goals_get cs (w7 cs k) (by show 0 ≤ again cs k 0 % 128; omega) (by show again cs k 0 % 128 < 128; omega)
      rw [w7_succ] at g
      have body : mPar 3 4 (mBin dIx (mPeek 2) (mVar 3)) (mBin dAdd (mVar 4) (mC (.int 1))) [some (.own as), some (tI cs), some (.lst (goals cs)), some (.int (w7 cs k)), some (.int k), a, b] = .ok (.nx [some (.own as), some (tI cs), some (.lst (goals cs)), some (.int (w7 cs (k + 1))), some (.int ((k + 1 : Nat) : Int)), a, b]) := by
        generalize w7 cs k = x at g
        generalize w7 cs (k + 1) = y at g
        simp [x_B, bR_ok, bR_exc, bR_bad, x_BS, bF_ok, bF_exc, bF_bad, x_R, x_O, oR_some, oR_none, x_Var, varR_some, x_Peek, peekR_some, x_C, x_Lst, x_Cons, x_Seq, seqR_nx, seqR_rt, seqR_rf, seqR_exc, seqR_bad, x_Next, x_Ret, x_RetF, x_Drop, x_If, x_Set, x_Put, nxR_some, nxR_none, x_put, x_putO, x_PutO, x_SetO, x_Bin, x_BinF, x_Bin2, x_Cmp, x_CmpV, x_Tst, tstK_bl, x_NotT, x_AndT, x_OrT, x_AndV, andK_t, andK_f, x_NotV, notK_bl, x_IfE, x_Un, unK_int, x_Chain, x_ChainV, x_Fn, x_App, ifS_some, appK_some, x_PutIx, pixK_int, pixJ_some, x_Call, x_CallF, callR_ok, callR_exc, callR_bad, x_CallM, callM1_some, callM2_ok, x_Asg, x_Par, parK_some, x_ParO, x_Wh, x_For, x_Src, i_lst, i_tup, x_Rng1, rngK_int, x_RevT, revT_tup, x_Comp, compK_ok, x_CallLam, lamK_some, lamK2_ok, x_CallV, o_int, o_bl, o_non, o_str, o_glo, o_tup, o_lst, o_clo, o_own, u_int, u_bl, u_non, u_str, u_glo, u_tup, u_lst, u_clo, u_own, own0, ownS, free_S, free_0, free_n, dAdd_int, dSub_int, bLt_int, bLe_int, bGt_int, bGe_int, bEq_int, bEq_bl, bEq_str, bNe_int, bNe_bl, bNe_str, dLen_lst, dLen_tup, dTup_lst, dTup_tup, x_noOwn0, x_noOwn1, okSlot_some, okSlot_n, okSlot_nn, putTup_tup, wipeD, backD, g, dAdd]
      simp only [hz, decide_false, Bool.not_false] at ht
      exact (while_next ht body).trans e4
theorem full_iff (cs : List Int) (k : Nat) (h1 : 1 ≤ k) (h2 : ∀ j, 1 ≤ j → j < k → w7 cs j ≠ 0) (h3 : w7 cs k = 0 ∨ k = 129) : (k = 128 ∧ w7 cs k = 0) ↔ Full cs := by
  constructor
  · rintro ⟨rfl, hz⟩
    exact ⟨(w7_zero cs 128).mp hz, fun j a b c => h2 j a b ((w7_zero cs j).mpr c)⟩
  · rintro ⟨f1, f2⟩
    have z := (w7_zero cs 128).mpr f1
    rcases Nat.lt_trichotomy k 128 with c | c | c
    · rcases h3 with h3 | h3
      · exact absurd ((w7_zero cs k).mp h3) (f2 k h1 c)
      · omega
    · subst c; exact ⟨rfl, z⟩
    · exact absurd z (h2 128 (by decide) c)
open Classical in
theorem full_law (cs : List Int) (hg : GoodP cs) : g_poly_all_words [tI cs] = .ok (.bl (decide (Full cs))) := by
  rw [all_words_ok cs hg]
  congr 2
  exact decide_eq_decide.mpr ⟨full_up cs, full_down cs⟩
open Classical in
theorem law_right_ok (as : List D) (hv : VatOk as) (cs : List Int) (hg : GoodP cs) : ∃ as', g__law_right as [tI cs] = .ok (.bl true, as') ∧ VatOk as' := by
  have hc : compL (put 6) (mR true) (mCall g__law_made (mCons (mVar 1) (mCons (mC (.int 7)) (mCons (mVar 6) (mR []))))) [6] ((upto 128).map D.int) [some (.own as), some (tI cs), none, none, none, none, none] [] = .ok ((upto 128).map (fun i => D.int (hor cs i % 2 ^ 7)), [some (.own as), some (tI cs), none, none, none, none, none]) := by
    refine compL_int _ _ _ (fun i hi => ?_) (by rw [upto_len]; decide)
    have b := upto_mem hi
    refine ⟨[some (.own as), some (tI cs), none, none, none, none, some (.int i)], rfl, rfl, [some (.own as), some (tI cs), none, none, none, none, some (.int i)], ?_, rfl, rfl⟩
    have e := law_made_ok cs 7 i hg.2.2 hg.2.1 (by decide) (by decide) b.1 (by omega)
    simp [x_B, bR_ok, bR_exc, bR_bad, x_BS, bF_ok, bF_exc, bF_bad, x_R, x_O, oR_some, oR_none, x_Var, varR_some, x_Peek, peekR_some, x_C, x_Lst, x_Cons, x_Seq, seqR_nx, seqR_rt, seqR_rf, seqR_exc, seqR_bad, x_Next, x_Ret, x_RetF, x_Drop, x_If, x_Set, x_Put, nxR_some, nxR_none, x_put, x_putO, x_PutO, x_SetO, x_Bin, x_BinF, x_Bin2, x_Cmp, x_CmpV, x_Tst, tstK_bl, x_NotT, x_AndT, x_OrT, x_AndV, andK_t, andK_f, x_NotV, notK_bl, x_IfE, x_Un, unK_int, x_Chain, x_ChainV, x_Fn, x_App, ifS_some, appK_some, x_PutIx, pixK_int, pixJ_some, x_Call, x_CallF, callR_ok, callR_exc, callR_bad, x_CallM, callM1_some, callM2_ok, x_Asg, x_Par, parK_some, x_ParO, x_Wh, x_For, x_Src, i_lst, i_tup, x_Rng1, rngK_int, x_RevT, revT_tup, x_Comp, compK_ok, x_CallLam, lamK_some, lamK2_ok, x_CallV, o_int, o_bl, o_non, o_str, o_glo, o_tup, o_lst, o_clo, o_own, u_int, u_bl, u_non, u_str, u_glo, u_tup, u_lst, u_clo, u_own, own0, ownS, free_S, free_0, free_n, dAdd_int, dSub_int, bLt_int, bLe_int, bGt_int, bGe_int, bEq_int, bEq_bl, bEq_str, bNe_int, bNe_bl, bNe_str, dLen_lst, dLen_tup, dTup_lst, dTup_tup, x_noOwn0, x_noOwn1, okSlot_some, okSlot_n, okSlot_nn, putTup_tup, wipeD, backD, e]
  have e : (upto 128).map (fun i => D.int (hor cs i % 2 ^ 7)) = goals cs := by simp [goals, vals]
  rw [e] at hc
  have l : dLenSet (.lst (goals cs)) = _ := dLenSet_ints (vals cs 7 128) (by simp [vals, upto_len])
  have o := one_to_one_ok cs hg
  rw [one_law cs] at o
  have o2 : decide ((((vals cs 7 128).foldl step_dedup ([] : List Int)).length : Int) = 128) = oneTo cs 7 128 := rfl
  obtain ⟨k, k1, k2, k3, k4⟩ := right_loop cs as none none 128 1 (by decide) rfl (fun j a b => by omega) 200 (by decide)
  have fi := full_iff cs k k1 k2 k3
  have g0 := goals_get cs 0 (by decide) (by decide)
  have e1 : hor cs 0 % 128 = w7 cs 1 := rfl
  rw [e1] at g0
  have fl := full_law cs hg
  have fb : (decide ((k : Int) = 128) && decide (w7 cs k = 0)) = decide (Full cs) := by
    rw [Bool.eq_iff_iff, Bool.and_eq_true, decide_eq_true_iff, decide_eq_true_iff, decide_eq_true_iff, ← fi]
    exact ⟨fun ⟨a, b⟩ => ⟨by omega, b⟩, fun ⟨a, b⟩ => ⟨by omega, b⟩⟩
  obtain ⟨wd, a1, u1, u2, u3, v1⟩ := under_ok as hv 65 (by decide) (by decide)
  obtain ⟨p, a2, p1, p2, p3, v2⟩ := under_ok a1 v1 1000000000 (by decide) (by decide)
  obtain ⟨q, a3, q1, q2, q3, v3⟩ := under_ok a2 v2 1000000000 (by decide) (by decide)
  refine ⟨a3, ?_, v3⟩
  have sh := dShl_one (n := wd) u2 (by omega)
  have pos : (0 : Int) < 2 ^ wd.toNat := Int.pow_pos (by decide)
  have mo : mulOk p q = true := mulOk_of (m := 32) (n := 32) (bits_of (by omega) (by omega)) (bits_of (by omega) (by omega)) (by omega)
  have r0 := Int.emod_nonneg (p * q) (b := 2 ^ wd.toNat) (by omega)
  have r1 := Int.emod_lt_of_pos (p * q) pos
  have dm := dMod_ok (a := p * q) pos
  generalize hr : p * q % 2 ^ wd.toNat = r at r0 r1 dm
  have r2 : r < 2 ^ 64 := by
    have : (2 : Int) ^ wd.toNat ≤ 2 ^ 64 := by
      have := Nat.pow_le_pow_right (n := 2) (by decide) (show wd.toNat ≤ 64 by omega)
      exact_mod_cast this
    omega
  have pc := poly_comes_ok cs wd r hg u2 (by omega) r0 r1
  have lm := law_made_ok cs wd r hg.2.2 hg.2.1 u2 (by omega) r0 r2
  have ip := is_poly_good cs hg
  have key : m__law_right [some (.own as), some (tI cs), none, none, none, none, none] = .ok (.rt (.bl true) [some (.own a3), some (tI cs), some (.lst (goals cs)), some (.int (w7 cs k)), some (.int k), some (.int wd), some (.int r)]) := by
    unfold m__law_right
    refine (seq_nx (sd1 := [some (.own as), some (tI cs), some (.lst (goals cs)), none, none, none, none]) ?_).trans ((seq_nx (sd1 := [some (.own as), some (tI cs), some (.lst (goals cs)), none, none, none, none]) ?_).trans ((seq_nx (sd1 := [some (.own as), some (tI cs), some (.lst (goals cs)), some (.int (w7 cs 1)), some (.int (1 : Nat)), none, none]) ?_).trans ((seq_nx (sd1 := [some (.own as), some (tI cs), some (.lst (goals cs)), some (.int (w7 cs k)), some (.int k), none, none]) ?_).trans ((seq_nx (sd1 := [some (.own as), some (tI cs), some (.lst (goals cs)), some (.int (w7 cs k)), some (.int k), none, none]) ?_).trans ((seq_nx (sd1 := [some (.own a1), some (tI cs), some (.lst (goals cs)), some (.int (w7 cs k)), some (.int k), some (.int wd), none]) ?_).trans ((seq_nx (sd1 := [some (.own a3), some (tI cs), some (.lst (goals cs)), some (.int (w7 cs k)), some (.int k), some (.int wd), some (.int r)]) ?_).trans ?_))))))
    · simp [x_B, bR_ok, bR_exc, bR_bad, x_BS, bF_ok, bF_exc, bF_bad, x_R, x_O, oR_some, oR_none, x_Var, varR_some, x_Peek, peekR_some, x_C, x_Lst, x_Cons, x_Seq, seqR_nx, seqR_rt, seqR_rf, seqR_exc, seqR_bad, x_Next, x_Ret, x_RetF, x_Drop, x_If, x_Set, x_Put, nxR_some, nxR_none, x_put, x_putO, x_PutO, x_SetO, x_Bin, x_BinF, x_Bin2, x_Cmp, x_CmpV, x_Tst, tstK_bl, x_NotT, x_AndT, x_OrT, x_AndV, andK_t, andK_f, x_NotV, notK_bl, x_IfE, x_Un, unK_int, x_Chain, x_ChainV, x_Fn, x_App, ifS_some, appK_some, x_PutIx, pixK_int, pixJ_some, x_Call, x_CallF, callR_ok, callR_exc, callR_bad, x_CallM, callM1_some, callM2_ok, x_Asg, x_Par, parK_some, x_ParO, x_Wh, x_For, x_Src, i_lst, i_tup, x_Rng1, rngK_int, x_RevT, revT_tup, x_Comp, compK_ok, x_CallLam, lamK_some, lamK2_ok, x_CallV, o_int, o_bl, o_non, o_str, o_glo, o_tup, o_lst, o_clo, o_own, u_int, u_bl, u_non, u_str, u_glo, u_tup, u_lst, u_clo, u_own, own0, ownS, free_S, free_0, free_n, dAdd_int, dSub_int, bLt_int, bLe_int, bGt_int, bGe_int, bEq_int, bEq_bl, bEq_str, bNe_int, bNe_bl, bNe_str, dLen_lst, dLen_tup, dTup_lst, dTup_tup, x_noOwn0, x_noOwn1, okSlot_some, okSlot_n, okSlot_nn, putTup_tup, wipeD, backD, hc]
    · generalize goals cs = gs at *
      simp [x_B, bR_ok, bR_exc, bR_bad, x_BS, bF_ok, bF_exc, bF_bad, x_R, x_O, oR_some, oR_none, x_Var, varR_some, x_Peek, peekR_some, x_C, x_Lst, x_Cons, x_Seq, seqR_nx, seqR_rt, seqR_rf, seqR_exc, seqR_bad, x_Next, x_Ret, x_RetF, x_Drop, x_If, x_Set, x_Put, nxR_some, nxR_none, x_put, x_putO, x_PutO, x_SetO, x_Bin, x_BinF, x_Bin2, x_Cmp, x_CmpV, x_Tst, tstK_bl, x_NotT, x_AndT, x_OrT, x_AndV, andK_t, andK_f, x_NotV, notK_bl, x_IfE, x_Un, unK_int, x_Chain, x_ChainV, x_Fn, x_App, ifS_some, appK_some, x_PutIx, pixK_int, pixJ_some, x_Call, x_CallF, callR_ok, callR_exc, callR_bad, x_CallM, callM1_some, callM2_ok, x_Asg, x_Par, parK_some, x_ParO, x_Wh, x_For, x_Src, i_lst, i_tup, x_Rng1, rngK_int, x_RevT, revT_tup, x_Comp, compK_ok, x_CallLam, lamK_some, lamK2_ok, x_CallV, o_int, o_bl, o_non, o_str, o_glo, o_tup, o_lst, o_clo, o_own, u_int, u_bl, u_non, u_str, u_glo, u_tup, u_lst, u_clo, u_own, own0, ownS, free_S, free_0, free_n, dAdd_int, dSub_int, bLt_int, bLe_int, bGt_int, bGe_int, bEq_int, bEq_bl, bEq_str, bNe_int, bNe_bl, bNe_str, dLen_lst, dLen_tup, dTup_lst, dTup_tup, x_noOwn0, x_noOwn1, okSlot_some, okSlot_n, okSlot_nn, putTup_tup, wipeD, backD, o, l, bEq, o2, truly_ok]
    · generalize goals cs = gs at *
      generalize w7 cs 1 = x at *
      simp [x_B, bR_ok, bR_exc, bR_bad, x_BS, bF_ok, bF_exc, bF_bad, x_R, x_O, oR_some, oR_none, x_Var, varR_some, x_Peek, peekR_some, x_C, x_Lst, x_Cons, x_Seq, seqR_nx, seqR_rt, seqR_rf, seqR_exc, seqR_bad, x_Next, x_Ret, x_RetF, x_Drop, x_If, x_Set, x_Put, nxR_some, nxR_none, x_put, x_putO, x_PutO, x_SetO, x_Bin, x_BinF, x_Bin2, x_Cmp, x_CmpV, x_Tst, tstK_bl, x_NotT, x_AndT, x_OrT, x_AndV, andK_t, andK_f, x_NotV, notK_bl, x_IfE, x_Un, unK_int, x_Chain, x_ChainV, x_Fn, x_App, ifS_some, appK_some, x_PutIx, pixK_int, pixJ_some, x_Call, x_CallF, callR_ok, callR_exc, callR_bad, x_CallM, callM1_some, callM2_ok, x_Asg, x_Par, parK_some, x_ParO, x_Wh, x_For, x_Src, i_lst, i_tup, x_Rng1, rngK_int, x_RevT, revT_tup, x_Comp, compK_ok, x_CallLam, lamK_some, lamK2_ok, x_CallV, o_int, o_bl, o_non, o_str, o_glo, o_tup, o_lst, o_clo, o_own, u_int, u_bl, u_non, u_str, u_glo, u_tup, u_lst, u_clo, u_own, own0, ownS, free_S, free_0, free_n, dAdd_int, dSub_int, bLt_int, bLe_int, bGt_int, bGe_int, bEq_int, bEq_bl, bEq_str, bNe_int, bNe_bl, bNe_str, dLen_lst, dLen_tup, dTup_lst, dTup_tup, x_noOwn0, x_noOwn1, okSlot_some, okSlot_n, okSlot_nn, putTup_tup, wipeD, backD, g0]
    · exact k4
    · generalize goals cs = gs at *
      generalize w7 cs k = x at *
      by_cases hk : (k : Int) = 128
      · have fb : decide (x = 0) = decide (Full cs) := by simpa [hk] using fb
        simp [x_B, bR_ok, bR_exc, bR_bad, x_BS, bF_ok, bF_exc, bF_bad, x_R, x_O, oR_some, oR_none, x_Var, varR_some, x_Peek, peekR_some, x_C, x_Lst, x_Cons, x_Seq, seqR_nx, seqR_rt, seqR_rf, seqR_exc, seqR_bad, x_Next, x_Ret, x_RetF, x_Drop, x_If, x_Set, x_Put, nxR_some, nxR_none, x_put, x_putO, x_PutO, x_SetO, x_Bin, x_BinF, x_Bin2, x_Cmp, x_CmpV, x_Tst, tstK_bl, x_NotT, x_AndT, x_OrT, x_AndV, andK_t, andK_f, x_NotV, notK_bl, x_IfE, x_Un, unK_int, x_Chain, x_ChainV, x_Fn, x_App, ifS_some, appK_some, x_PutIx, pixK_int, pixJ_some, x_Call, x_CallF, callR_ok, callR_exc, callR_bad, x_CallM, callM1_some, callM2_ok, x_Asg, x_Par, parK_some, x_ParO, x_Wh, x_For, x_Src, i_lst, i_tup, x_Rng1, rngK_int, x_RevT, revT_tup, x_Comp, compK_ok, x_CallLam, lamK_some, lamK2_ok, x_CallV, o_int, o_bl, o_non, o_str, o_glo, o_tup, o_lst, o_clo, o_own, u_int, u_bl, u_non, u_str, u_glo, u_tup, u_lst, u_clo, u_own, own0, ownS, free_S, free_0, free_n, dAdd_int, dSub_int, bLt_int, bLe_int, bGt_int, bGe_int, bEq_int, bEq_bl, bEq_str, bNe_int, bNe_bl, bNe_str, dLen_lst, dLen_tup, dTup_lst, dTup_tup, x_noOwn0, x_noOwn1, okSlot_some, okSlot_n, okSlot_nn, putTup_tup, wipeD, backD, fl, bEq, hk, fb, truly_ok]
      · have fb : false = decide (Full cs) := by simpa [hk] using fb
        simp [x_B, bR_ok, bR_exc, bR_bad, x_BS, bF_ok, bF_exc, bF_bad, x_R, x_O, oR_some, oR_none, x_Var, varR_some, x_Peek, peekR_some, x_C, x_Lst, x_Cons, x_Seq, seqR_nx, seqR_rt, seqR_rf, seqR_exc, seqR_bad, x_Next, x_Ret, x_RetF, x_Drop, x_If, x_Set, x_Put, nxR_some, nxR_none, x_put, x_putO, x_PutO, x_SetO, x_Bin, x_BinF, x_Bin2, x_Cmp, x_CmpV, x_Tst, tstK_bl, x_NotT, x_AndT, x_OrT, x_AndV, andK_t, andK_f, x_NotV, notK_bl, x_IfE, x_Un, unK_int, x_Chain, x_ChainV, x_Fn, x_App, ifS_some, appK_some, x_PutIx, pixK_int, pixJ_some, x_Call, x_CallF, callR_ok, callR_exc, callR_bad, x_CallM, callM1_some, callM2_ok, x_Asg, x_Par, parK_some, x_ParO, x_Wh, x_For, x_Src, i_lst, i_tup, x_Rng1, rngK_int, x_RevT, revT_tup, x_Comp, compK_ok, x_CallLam, lamK_some, lamK2_ok, x_CallV, o_int, o_bl, o_non, o_str, o_glo, o_tup, o_lst, o_clo, o_own, u_int, u_bl, u_non, u_str, u_glo, u_tup, u_lst, u_clo, u_own, own0, ownS, free_S, free_0, free_n, dAdd_int, dSub_int, bLt_int, bLe_int, bGt_int, bGe_int, bEq_int, bEq_bl, bEq_str, bNe_int, bNe_bl, bNe_str, dLen_lst, dLen_tup, dTup_lst, dTup_tup, x_noOwn0, x_noOwn1, okSlot_some, okSlot_n, okSlot_nn, putTup_tup, wipeD, backD, fl, bEq, hk, ← fb, truly_ok]
    · generalize goals cs = gs at *
      simp [x_B, bR_ok, bR_exc, bR_bad, x_BS, bF_ok, bF_exc, bF_bad, x_R, x_O, oR_some, oR_none, x_Var, varR_some, x_Peek, peekR_some, x_C, x_Lst, x_Cons, x_Seq, seqR_nx, seqR_rt, seqR_rf, seqR_exc, seqR_bad, x_Next, x_Ret, x_RetF, x_Drop, x_If, x_Set, x_Put, nxR_some, nxR_none, x_put, x_putO, x_PutO, x_SetO, x_Bin, x_BinF, x_Bin2, x_Cmp, x_CmpV, x_Tst, tstK_bl, x_NotT, x_AndT, x_OrT, x_AndV, andK_t, andK_f, x_NotV, notK_bl, x_IfE, x_Un, unK_int, x_Chain, x_ChainV, x_Fn, x_App, ifS_some, appK_some, x_PutIx, pixK_int, pixJ_some, x_Call, x_CallF, callR_ok, callR_exc, callR_bad, x_CallM, callM1_some, callM2_ok, x_Asg, x_Par, parK_some, x_ParO, x_Wh, x_For, x_Src, i_lst, i_tup, x_Rng1, rngK_int, x_RevT, revT_tup, x_Comp, compK_ok, x_CallLam, lamK_some, lamK2_ok, x_CallV, o_int, o_bl, o_non, o_str, o_glo, o_tup, o_lst, o_clo, o_own, u_int, u_bl, u_non, u_str, u_glo, u_tup, u_lst, u_clo, u_own, own0, ownS, free_S, free_0, free_n, dAdd_int, dSub_int, bLt_int, bLe_int, bGt_int, bGe_int, bEq_int, bEq_bl, bEq_str, bNe_int, bNe_bl, bNe_str, dLen_lst, dLen_tup, dTup_lst, dTup_tup, x_noOwn0, x_noOwn1, okSlot_some, okSlot_n, okSlot_nn, putTup_tup, wipeD, backD, u1]
    · generalize goals cs = gs at *
      simp [x_B, bR_ok, bR_exc, bR_bad, x_BS, bF_ok, bF_exc, bF_bad, x_R, x_O, oR_some, oR_none, x_Var, varR_some, x_Peek, peekR_some, x_C, x_Lst, x_Cons, x_Seq, seqR_nx, seqR_rt, seqR_rf, seqR_exc, seqR_bad, x_Next, x_Ret, x_RetF, x_Drop, x_If, x_Set, x_Put, nxR_some, nxR_none, x_put, x_putO, x_PutO, x_SetO, x_Bin, x_BinF, x_Bin2, x_Cmp, x_CmpV, x_Tst, tstK_bl, x_NotT, x_AndT, x_OrT, x_AndV, andK_t, andK_f, x_NotV, notK_bl, x_IfE, x_Un, unK_int, x_Chain, x_ChainV, x_Fn, x_App, ifS_some, appK_some, x_PutIx, pixK_int, pixJ_some, x_Call, x_CallF, callR_ok, callR_exc, callR_bad, x_CallM, callM1_some, callM2_ok, x_Asg, x_Par, parK_some, x_ParO, x_Wh, x_For, x_Src, i_lst, i_tup, x_Rng1, rngK_int, x_RevT, revT_tup, x_Comp, compK_ok, x_CallLam, lamK_some, lamK2_ok, x_CallV, o_int, o_bl, o_non, o_str, o_glo, o_tup, o_lst, o_clo, o_own, u_int, u_bl, u_non, u_str, u_glo, u_tup, u_lst, u_clo, u_own, own0, ownS, free_S, free_0, free_n, dAdd_int, dSub_int, bLt_int, bLe_int, bGt_int, bGe_int, bEq_int, bEq_bl, bEq_str, bNe_int, bNe_bl, bNe_str, dLen_lst, dLen_tup, dTup_lst, dTup_tup, x_noOwn0, x_noOwn1, okSlot_some, okSlot_n, okSlot_nn, putTup_tup, wipeD, backD, pow9, p1, q1, dMul_ok mo, sh, dm]
    · generalize goals cs = gs at *
      simp [x_B, bR_ok, bR_exc, bR_bad, x_BS, bF_ok, bF_exc, bF_bad, x_R, x_O, oR_some, oR_none, x_Var, varR_some, x_Peek, peekR_some, x_C, x_Lst, x_Cons, x_Seq, seqR_nx, seqR_rt, seqR_rf, seqR_exc, seqR_bad, x_Next, x_Ret, x_RetF, x_Drop, x_If, x_Set, x_Put, nxR_some, nxR_none, x_put, x_putO, x_PutO, x_SetO, x_Bin, x_BinF, x_Bin2, x_Cmp, x_CmpV, x_Tst, tstK_bl, x_NotT, x_AndT, x_OrT, x_AndV, andK_t, andK_f, x_NotV, notK_bl, x_IfE, x_Un, unK_int, x_Chain, x_ChainV, x_Fn, x_App, ifS_some, appK_some, x_PutIx, pixK_int, pixJ_some, x_Call, x_CallF, callR_ok, callR_exc, callR_bad, x_CallM, callM1_some, callM2_ok, x_Asg, x_Par, parK_some, x_ParO, x_Wh, x_For, x_Src, i_lst, i_tup, x_Rng1, rngK_int, x_RevT, revT_tup, x_Comp, compK_ok, x_CallLam, lamK_some, lamK2_ok, x_CallV, o_int, o_bl, o_non, o_str, o_glo, o_tup, o_lst, o_clo, o_own, u_int, u_bl, u_non, u_str, u_glo, u_tup, u_lst, u_clo, u_own, own0, ownS, free_S, free_0, free_n, dAdd_int, dSub_int, bLt_int, bLe_int, bGt_int, bGe_int, bEq_int, bEq_bl, bEq_str, bNe_int, bNe_bl, bNe_str, dLen_lst, dLen_tup, dTup_lst, dTup_tup, x_noOwn0, x_noOwn1, okSlot_some, okSlot_n, okSlot_nn, putTup_tup, wipeD, backD, ip, bIsC, bIsN, pc, lm, bEq]
  show runM m__law_right 7 _ _ = _
  have st : startM 7 as [tI cs] = [some (.own as), some (tI cs), none, none, none, none, none] := rfl
  rw [runM, st, key]
  rfl
end HD

set_option Elab.async false
set_option linter.all false
set_option autoImplicit false
set_option maxRecDepth 100000
set_option maxHeartbeats 4000000
namespace HD
open PySem PySem.Spec PyProof.Rows L2 Builtin.Int
/-- ints between bounds -/
def Within (b : Int) (rs : List Int) : Prop := ∀ c ∈ rs, -b ≤ c ∧ c ≤ b
theorem ints_of (b : Int) : ∀ es : List D, (∀ e ∈ es, ∃ c : Int, e = .int c ∧ -b ≤ c ∧ c ≤ b) → ∃ rs : List Int, es = rs.map D.int ∧ Within b rs
  | [], _ => ⟨[], rfl, by simp [Within]⟩
  | e :: es, h => by
    obtain ⟨c, rfl, hc⟩ := h e (by simp)
    obtain ⟨rs, rfl, hr⟩ := ints_of b es fun e he => h e (by simp [he])
    refine ⟨c :: rs, rfl, fun d hd => ?_⟩
    rcases List.mem_cons.mp hd with z | z
    · rw [z]; exact hc
    · exact hr d z
theorem within_set {b v : Int} {rs : List Int} (h : Within b rs) (hv : -b ≤ v ∧ v ≤ b) (j : Nat) : Within b (rs.set j v) := fun c hc => by
  rcases List.mem_or_eq_of_mem_set hc with z | z
  · exact h c z
  · rw [z]; exact hv
theorem map_set (rs : List Int) (j : Nat) (v : Int) : (rs.map D.int).set j (.int v) = (rs.set j v).map D.int := by
  rw [List.map_set]
theorem ix_ints (rs : List Int) (n : Nat) (h : n < rs.length) : dIx (.lst (rs.map D.int)) (.int (n : Int)) = some (.int rs[n]) := by
  show atI (rs.map D.int) (n : Int) = _
  simp [atI, ixN, h]
theorem scale_ok (as : List D) (w : Int) (rs : List Int) (b : Int) (hb : Within b rs) (hB : 0 ≤ b) (hB2 : b ≤ 100000) (hl : rs.length ≤ 6) : ∃ rs', rs'.length = rs.length ∧ Within (2 * b) rs' ∧
    mSetO 3 (mComp [4] (mRng1 (mVar 2)) (put 4) (mR true) (mBin dMul (mBin dIx (mPeek 3) (mVar 4)) (mIfE (mCmp bGt (mPeek 4) (mC (.int 1))) (mC (.int 2)) (mC (.int 1))))) [some (.own as), some (.int w), some (.int rs.length), some (.own (rs.map D.int)), none] =
      .ok (.nx [some (.own as), some (.int w), some (.int rs.length), some (.own (rs'.map D.int)), none]) := by
  obtain ⟨es, sd', e1, e2, e3, e4⟩ := compL_inv (asg := put 4) (mt := mR true) (me := mBin dMul (mBin dIx (mPeek 3) (mVar 4)) (mIfE (mCmp bGt (mPeek 4) (mC (.int 1))) (mC (.int 2)) (mC (.int 1)))) (vs := [4])
    (fun sd => sd = [some (.own as), some (.int w), some (.int rs.length), some (.own (rs.map D.int)), none]) (fun e => ∃ c : Int, e = .int c ∧ -(2 * b) ≤ c ∧ c ≤ 2 * b) ((upto rs.length).map D.int) [] _ rfl (fun d hd sd hs => by
      subst hs
      obtain ⟨i, hi, rfl⟩ := List.mem_map.mp hd
      obtain ⟨i0, i1⟩ := upto_mem hi
      obtain ⟨n, rfl⟩ : ∃ n : Nat, i = n := ⟨i.toNat, by omega⟩
      have hn : n < rs.length := by omega
      have c := hb rs[n] (List.getElem_mem hn)
      have ix := ix_ints rs n hn
      refine ⟨[some (.own as), some (.int w), some (.int rs.length), some (.own (rs.map D.int)), some (.int n)], rfl, rfl, ?_⟩
      by_cases h1 : (1 : Int) < n
      · have m := mulOk_of (a := rs[n]) (b := 2) (m := 32) (n := 32) (bits_of (by omega) (by omega)) (bits_of (by omega) (by omega)) (by omega)
        refine ⟨.int (rs[n] * 2), [some (.own as), some (.int w), some (.int rs.length), some (.own (rs.map D.int)), some (.int n)], ?_, ⟨_, rfl, by omega, by omega⟩, rfl, rfl⟩
        simp [x_B, bR_ok, bR_exc, bR_bad, x_BS, bF_ok, bF_exc, bF_bad, x_R, x_O, oR_some, oR_none, x_Var, varR_some, x_Peek, peekR_some, x_C, x_Lst, x_Cons, x_Seq, seqR_nx, seqR_rt, seqR_rf, seqR_exc, seqR_bad, x_Next, x_Ret, x_RetF, x_Drop, x_If, x_Set, x_Put, nxR_some, nxR_none, x_put, x_putO, x_PutO, x_SetO, x_Bin, x_BinF, x_Bin2, x_Cmp, x_CmpV, x_Tst, tstK_bl, x_NotT, x_AndT, x_OrT, x_AndV, andK_t, andK_f, x_NotV, notK_bl, x_IfE, x_Un, unK_int, x_Chain, x_ChainV, x_Fn, x_App, ifS_some, appK_some, x_PutIx, pixK_int, pixJ_some, x_Call, x_CallF, callR_ok, callR_exc, callR_bad, x_CallM, callM1_some, callM2_ok, x_Asg, x_Par, parK_some, x_ParO, x_Wh, x_For, x_Src, i_lst, i_tup, x_Rng1, rngK_int, x_RevT, revT_tup, x_Comp, compK_ok, x_CallLam, lamK_some, lamK2_ok, x_CallV, o_int, o_bl, o_non, o_str, o_glo, o_tup, o_lst, o_clo, o_own, u_int, u_bl, u_non, u_str, u_glo, u_tup, u_lst, u_clo, u_own, own0, ownS, free_S, free_0, free_n, dAdd_int, dSub_int, bLt_int, bLe_int, bGt_int, bGe_int, bEq_int, bEq_bl, bEq_str, bNe_int, bNe_bl, bNe_str, dLen_lst, dLen_tup, dTup_lst, dTup_tup, x_noOwn0, x_noOwn1, okSlot_some, okSlot_n, okSlot_nn, putTup_tup, wipeD, backD, ix, bGt, f2B, h1, dMul_ok m]
      · have m := mulOk_of (a := rs[n]) (b := 1) (m := 32) (n := 32) (bits_of (by omega) (by omega)) (bits_of (by omega) (by omega)) (by omega)
        refine ⟨.int (rs[n] * 1), [some (.own as), some (.int w), some (.int rs.length), some (.own (rs.map D.int)), some (.int n)], ?_, ⟨_, rfl, by omega, by omega⟩, rfl, rfl⟩
        simp only [x_B, bR_ok, bR_exc, bR_bad, x_BS, bF_ok, bF_exc, bF_bad, x_R, x_O, oR_some, oR_none, x_Var, varR_some, x_Peek, peekR_some, x_C, x_Lst, x_Cons, x_Seq, seqR_nx, seqR_rt, seqR_rf, seqR_exc, seqR_bad, x_Next, x_Ret, x_RetF, x_Drop, x_If, x_Set, x_Put, nxR_some, nxR_none, x_put, x_putO, x_PutO, x_SetO, x_Bin, x_BinF, x_Bin2, x_Cmp, x_CmpV, x_Tst, tstK_bl, x_NotT, x_AndT, x_OrT, x_AndV, andK_t, andK_f, x_NotV, notK_bl, x_IfE, x_Un, unK_int, x_Chain, x_ChainV, x_Fn, x_App, ifS_some, appK_some, x_PutIx, pixK_int, pixJ_some, x_Call, x_CallF, callR_ok, callR_exc, callR_bad, x_CallM, callM1_some, callM2_ok, x_Asg, x_Par, parK_some, x_ParO, x_Wh, x_For, x_Src, i_lst, i_tup, x_Rng1, rngK_int, x_RevT, revT_tup, x_Comp, compK_ok, x_CallLam, lamK_some, lamK2_ok, x_CallV, o_int, o_bl, o_non, o_str, o_glo, o_tup, o_lst, o_clo, o_own, u_int, u_bl, u_non, u_str, u_glo, u_tup, u_lst, u_clo, u_own, own0, ownS, free_S, free_0, free_n, dAdd_int, dSub_int, bLt_int, bLe_int, bGt_int, bGe_int, bEq_int, bEq_bl, bEq_str, bNe_int, bNe_bl, bNe_str, dLen_lst, dLen_tup, dTup_lst, dTup_tup, x_noOwn0, x_noOwn1, okSlot_some, okSlot_n, okSlot_nn, putTup_tup, wipeD, backD, ix, bGt, f2B, h1, dMul_ok m]
        simp [x_B, bR_ok, bR_exc, bR_bad, x_BS, bF_ok, bF_exc, bF_bad, x_R, x_O, oR_some, oR_none, x_Var, varR_some, x_Peek, peekR_some, x_C, x_Lst, x_Cons, x_Seq, seqR_nx, seqR_rt, seqR_rf, seqR_exc, seqR_bad, x_Next, x_Ret, x_RetF, x_Drop, x_If, x_Set, x_Put, nxR_some, nxR_none, x_put, x_putO, x_PutO, x_SetO, x_Bin, x_BinF, x_Bin2, x_Cmp, x_CmpV, x_Tst, tstK_bl, x_NotT, x_AndT, x_OrT, x_AndV, andK_t, andK_f, x_NotV, notK_bl, x_IfE, x_Un, unK_int, x_Chain, x_ChainV, x_Fn, x_App, ifS_some, appK_some, x_PutIx, pixK_int, pixJ_some, x_Call, x_CallF, callR_ok, callR_exc, callR_bad, x_CallM, callM1_some, callM2_ok, x_Asg, x_Par, parK_some, x_ParO, x_Wh, x_For, x_Src, i_lst, i_tup, x_Rng1, rngK_int, x_RevT, revT_tup, x_Comp, compK_ok, x_CallLam, lamK_some, lamK2_ok, x_CallV, o_int, o_bl, o_non, o_str, o_glo, o_tup, o_lst, o_clo, o_own, u_int, u_bl, u_non, u_str, u_glo, u_tup, u_lst, u_clo, u_own, own0, ownS, free_S, free_0, free_n, dAdd_int, dSub_int, bLt_int, bLe_int, bGt_int, bGe_int, bEq_int, bEq_bl, bEq_str, bNe_int, bNe_bl, bNe_str, dLen_lst, dLen_tup, dTup_lst, dTup_tup, x_noOwn0, x_noOwn1, okSlot_some, okSlot_n, okSlot_nn, putTup_tup, wipeD, backD, ix, bGt, f2B, h1, dMul_ok m]) (by simp [upto_len]; exact Nat.le_trans hl (by decide))
  obtain ⟨rs', rfl, hr⟩ := ints_of (2 * b) es e3
  refine ⟨rs', by simpa [upto_len] using e2, hr, ?_⟩
  subst e4
  have hrn : ∀ sd, rngK (.int (rs.length : Int)) sd = .ok ((upto rs.length).map D.int, sd) := fun sd => rngK_nat (by omega)
  have e1 : compL (put 4) (mR true) (mBin dMul (mBin dIx (mPeek 3) (mVar 4)) (mIfE (mCmp bGt (mPeek 4) (mC (.int 1))) (mC (.int 2)) (mC (.int 1)))) [4] ((upto rs.length).map D.int) [some (.own as), some (.int w), some (.int rs.length), some (.own (rs.map D.int)), none] [] = .ok (rs'.map D.int, [some (.own as), some (.int w), some (.int rs.length), some (.own (rs.map D.int)), none]) := by simpa using e1
  generalize rs.map D.int = q at *
  generalize rs'.map D.int = q' at *
  simp [x_B, bR_ok, bR_exc, bR_bad, x_BS, bF_ok, bF_exc, bF_bad, x_R, x_O, oR_some, oR_none, x_Var, varR_some, x_Peek, peekR_some, x_C, x_Lst, x_Cons, x_Seq, seqR_nx, seqR_rt, seqR_rf, seqR_exc, seqR_bad, x_Next, x_Ret, x_RetF, x_Drop, x_If, x_Set, x_Put, nxR_some, nxR_none, x_put, x_putO, x_PutO, x_SetO, x_Bin, x_BinF, x_Bin2, x_Cmp, x_CmpV, x_Tst, tstK_bl, x_NotT, x_AndT, x_OrT, x_AndV, andK_t, andK_f, x_NotV, notK_bl, x_IfE, x_Un, unK_int, x_Chain, x_ChainV, x_Fn, x_App, ifS_some, appK_some, x_PutIx, pixK_int, pixJ_some, x_Call, x_CallF, callR_ok, callR_exc, callR_bad, x_CallM, callM1_some, callM2_ok, x_Asg, x_Par, parK_some, x_ParO, x_Wh, x_For, x_Src, i_lst, i_tup, x_Rng1, rngK_int, x_RevT, revT_tup, x_Comp, compK_ok, x_CallLam, lamK_some, lamK2_ok, x_CallV, o_int, o_bl, o_non, o_str, o_glo, o_tup, o_lst, o_clo, o_own, u_int, u_bl, u_non, u_str, u_glo, u_tup, u_lst, u_clo, u_own, own0, ownS, free_S, free_0, free_n, dAdd_int, dSub_int, bLt_int, bLe_int, bGt_int, bGe_int, bEq_int, bEq_bl, bEq_str, bNe_int, bNe_bl, bNe_str, dLen_lst, dLen_tup, dTup_lst, dTup_tup, x_noOwn0, x_noOwn1, okSlot_some, okSlot_n, okSlot_nn, putTup_tup, wipeD, backD, hrn, e1]
theorem put_odd (as : List D) (hv : VatOk as) (w : Int) (rs : List Int) (b m : Int) (j : Nat) (hm : m = 2 ∨ m = 4) (hb : Within b rs) (hB : 32 ≤ b) (hl : rs.length ≤ 6) (hj : j < rs.length) : ∃ as' rs', VatOk as' ∧ rs'.length = rs.length ∧ Within b rs' ∧
    mPutIx 3 (mBin dAdd (mBin dMul (mC (.int m)) (mCallM g__law_under 0 (mCons (mC (.int 8)) (mR [])))) (mC (.int 1))) (mC (.int j)) [some (.own as), some (.int w), some (.int rs.length), some (.own (rs.map D.int)), none] =
      .ok (.nx [some (.own as'), some (.int w), some (.int rs.length), some (.own (rs'.map D.int)), none]) := by
  obtain ⟨v, a1, u1, u2, u3, v1⟩ := under_ok as hv 8 (by decide) (by decide)
  have mo : mulOk m v = true := mulOk_of (m := 32) (n := 32) (bits_of (by omega) (by omega)) (bits_of (by omega) (by omega)) (by omega)
  have hq : -b ≤ m * v + 1 ∧ m * v + 1 ≤ b := by rcases hm with rfl | rfl <;> omega
  refine ⟨a1, rs.set j (m * v + 1), v1, by simp, within_set hb hq j, ?_⟩
  have hx := ixN_ok rs.length j hj
  have hx2 : ixN (rs.map D.int).length (j : Int) = some j := by simpa using hx
  have hs := map_set rs j (m * v + 1)
  generalize rs.map D.int = q at *
  generalize (rs.set j (m * v + 1)).map D.int = q' at *
  generalize rs.length = n at *
  simp [x_B, bR_ok, bR_exc, bR_bad, x_BS, bF_ok, bF_exc, bF_bad, x_R, x_O, oR_some, oR_none, x_Var, varR_some, x_Peek, peekR_some, x_C, x_Lst, x_Cons, x_Seq, seqR_nx, seqR_rt, seqR_rf, seqR_exc, seqR_bad, x_Next, x_Ret, x_RetF, x_Drop, x_If, x_Set, x_Put, nxR_some, nxR_none, x_put, x_putO, x_PutO, x_SetO, x_Bin, x_BinF, x_Bin2, x_Cmp, x_CmpV, x_Tst, tstK_bl, x_NotT, x_AndT, x_OrT, x_AndV, andK_t, andK_f, x_NotV, notK_bl, x_IfE, x_Un, unK_int, x_Chain, x_ChainV, x_Fn, x_App, ifS_some, appK_some, x_PutIx, pixK_int, pixJ_some, x_Call, x_CallF, callR_ok, callR_exc, callR_bad, x_CallM, callM1_some, callM2_ok, x_Asg, x_Par, parK_some, x_ParO, x_Wh, x_For, x_Src, i_lst, i_tup, x_Rng1, rngK_int, x_RevT, revT_tup, x_Comp, compK_ok, x_CallLam, lamK_some, lamK2_ok, x_CallV, o_int, o_bl, o_non, o_str, o_glo, o_tup, o_lst, o_clo, o_own, u_int, u_bl, u_non, u_str, u_glo, u_tup, u_lst, u_clo, u_own, own0, ownS, free_S, free_0, free_n, dAdd_int, dSub_int, bLt_int, bLe_int, bGt_int, bGe_int, bEq_int, bEq_bl, bEq_str, bNe_int, bNe_bl, bNe_str, dLen_lst, dLen_tup, dTup_lst, dTup_tup, x_noOwn0, x_noOwn1, okSlot_some, okSlot_n, okSlot_nn, putTup_tup, wipeD, backD, u1, dMul_ok mo, dAdd, hx2, hs]
theorem law_poly_ok (as : List D) (hv : VatOk as) : ∃ cs as', g__law_poly as [] = .ok (tI cs, as') ∧ GoodP cs ∧ VatOk as' := by
  obtain ⟨w, a1, u1, u2, u3, v1⟩ := under_ok as hv 3 (by decide) (by decide)
  obtain ⟨z, a2, y1, y2, y3, v2⟩ := under_ok a1 v1 6 (by decide) (by decide)
  obtain ⟨n, hn⟩ : ∃ n : Nat, 1 + z = n := ⟨(1 + z).toNat, by omega⟩
  have n1 : 1 ≤ n := by omega
  have n6 : n ≤ 6 := by omega
  obtain ⟨es, sd', e1, e2, e3, e4⟩ := compL_inv (asg := put 4) (mt := mR true) (me := mBin dSub (mCallM g__law_under 0 (mCons (mC (.int 33)) (mR []))) (mC (.int 16))) (vs := [4])
    (fun sd => ∃ bs, VatOk bs ∧ sd = [some (.own bs), some (.int w), some (.int n), none, none]) (fun e => ∃ c : Int, e = .int c ∧ -32 ≤ c ∧ c ≤ 32) ((upto n).map D.int) [] _ ⟨a2, v2, rfl⟩ (fun d hd sd ⟨bs, hb, hs⟩ => by
      subst hs
      obtain ⟨i, hi, rfl⟩ := List.mem_map.mp hd
      obtain ⟨v, b1, t1, t2, t3, w1⟩ := under_ok bs hb 33 (by decide) (by decide)
      refine ⟨[some (.own bs), some (.int w), some (.int n), none, some (.int i)], rfl, rfl, .int (v - 16), [some (.own b1), some (.int w), some (.int n), none, some (.int i)], ?_, ⟨_, rfl, by omega, by omega⟩, rfl, b1, w1, rfl⟩
      simp [x_B, bR_ok, bR_exc, bR_bad, x_BS, bF_ok, bF_exc, bF_bad, x_R, x_O, oR_some, oR_none, x_Var, varR_some, x_Peek, peekR_some, x_C, x_Lst, x_Cons, x_Seq, seqR_nx, seqR_rt, seqR_rf, seqR_exc, seqR_bad, x_Next, x_Ret, x_RetF, x_Drop, x_If, x_Set, x_Put, nxR_some, nxR_none, x_put, x_putO, x_PutO, x_SetO, x_Bin, x_BinF, x_Bin2, x_Cmp, x_CmpV, x_Tst, tstK_bl, x_NotT, x_AndT, x_OrT, x_AndV, andK_t, andK_f, x_NotV, notK_bl, x_IfE, x_Un, unK_int, x_Chain, x_ChainV, x_Fn, x_App, ifS_some, appK_some, x_PutIx, pixK_int, pixJ_some, x_Call, x_CallF, callR_ok, callR_exc, callR_bad, x_CallM, callM1_some, callM2_ok, x_Asg, x_Par, parK_some, x_ParO, x_Wh, x_For, x_Src, i_lst, i_tup, x_Rng1, rngK_int, x_RevT, revT_tup, x_Comp, compK_ok, x_CallLam, lamK_some, lamK2_ok, x_CallV, o_int, o_bl, o_non, o_str, o_glo, o_tup, o_lst, o_clo, o_own, u_int, u_bl, u_non, u_str, u_glo, u_tup, u_lst, u_clo, u_own, own0, ownS, free_S, free_0, free_n, dAdd_int, dSub_int, bLt_int, bLe_int, bGt_int, bGe_int, bEq_int, bEq_bl, bEq_str, bNe_int, bNe_bl, bNe_str, dLen_lst, dLen_tup, dTup_lst, dTup_tup, x_noOwn0, x_noOwn1, okSlot_some, okSlot_n, okSlot_nn, putTup_tup, wipeD, backD, t1, dSub, f2I]) (by simp [upto_len]; exact Nat.le_trans n6 (by decide))
  obtain ⟨rs, rfl, hr⟩ := ints_of 32 es e3
  obtain ⟨a3, v3, rfl⟩ := e4
  obtain rfl : rs.length = n := by simpa [upto_len] using e2
  have e1 : compL (put 4) (mR true) (mBin dSub (mCallM g__law_under 0 (mCons (mC (.int 33)) (mR []))) (mC (.int 16))) [4] ((upto rs.length).map D.int) [some (.own a2), some (.int w), some (.int rs.length), none, none] [] = .ok (rs.map D.int, [some (.own a3), some (.int w), some (.int rs.length), none, none]) := by simpa using e1
  have hrn : ∀ sd, rngK (.int (rs.length : Int)) sd = .ok ((upto rs.length).map D.int, sd) := fun sd => rngK_nat (by omega)
  -- the first turn
  obtain ⟨a4, r4, v4, l4, b4, s4⟩ : ∃ a4 r4, VatOk a4 ∧ r4.length = rs.length ∧ Within 64 r4 ∧ mIf (mCmp bGt (mPeek 1) (mC (.int 0))) (mSeq (mSetO 3 (mComp [4] (mRng1 (mVar 2)) (put 4) (mR true) (mBin dMul (mBin dIx (mPeek 3) (mVar 4)) (mIfE (mCmp bGt (mPeek 4) (mC (.int 1))) (mC (.int 2)) (mC (.int 1)))))) (mIf (mCmp bGt (mPeek 2) (mC (.int 1))) (mPutIx 3 (mBin dAdd (mBin dMul (mC (.int 2)) (mCallM g__law_under 0 (mCons (mC (.int 8)) (mR [])))) (mC (.int 1))) (mC (.int 1))) (mNext))) (mNext)
      [some (.own a3), some (.int w), some (.int rs.length), some (.own (rs.map D.int)), none] = .ok (.nx [some (.own a4), some (.int w), some (.int rs.length), some (.own (r4.map D.int)), none]) := by
    by_cases hw : 0 < w
    · obtain ⟨r', l', b', s'⟩ := scale_ok a3 w rs 32 hr (by decide) (by decide) n6
      by_cases h1 : 1 < rs.length
      · obtain ⟨a5, r5, v5, l5, b5, s5⟩ := put_odd a3 v3 w r' 64 2 1 (.inl rfl) b' (by decide) (by omega) (by omega)
        refine ⟨a5, r5, v5, by omega, b5, ?_⟩
        rw [l'] at s5
        have h1' : (1 : Int) < rs.length := by omega
        refine (if_t (sd1 := [some (.own a3), some (.int w), some (.int rs.length), some (.own (rs.map D.int)), none]) (by simp [x_B, bR_ok, bR_exc, bR_bad, x_BS, bF_ok, bF_exc, bF_bad, x_R, x_O, oR_some, oR_none, x_Var, varR_some, x_Peek, peekR_some, x_C, x_Lst, x_Cons, x_Seq, seqR_nx, seqR_rt, seqR_rf, seqR_exc, seqR_bad, x_Next, x_Ret, x_RetF, x_Drop, x_If, x_Set, x_Put, nxR_some, nxR_none, x_put, x_putO, x_PutO, x_SetO, x_Bin, x_BinF, x_Bin2, x_Cmp, x_CmpV, x_Tst, tstK_bl, x_NotT, x_AndT, x_OrT, x_AndV, andK_t, andK_f, x_NotV, notK_bl, x_IfE, x_Un, unK_int, x_Chain, x_ChainV, x_Fn, x_App, ifS_some, appK_some, x_PutIx, pixK_int, pixJ_some, x_Call, x_CallF, callR_ok, callR_exc, callR_bad, x_CallM, callM1_some, callM2_ok, x_Asg, x_Par, parK_some, x_ParO, x_Wh, x_For, x_Src, i_lst, i_tup, x_Rng1, rngK_int, x_RevT, revT_tup, x_Comp, compK_ok, x_CallLam, lamK_some, lamK2_ok, x_CallV, o_int, o_bl, o_non, o_str, o_glo, o_tup, o_lst, o_clo, o_own, u_int, u_bl, u_non, u_str, u_glo, u_tup, u_lst, u_clo, u_own, own0, ownS, free_S, free_0, free_n, dAdd_int, dSub_int, bLt_int, bLe_int, bGt_int, bGe_int, bEq_int, bEq_bl, bEq_str, bNe_int, bNe_bl, bNe_str, dLen_lst, dLen_tup, dTup_lst, dTup_tup, x_noOwn0, x_noOwn1, okSlot_some, okSlot_n, okSlot_nn, putTup_tup, wipeD, backD, bGt, f2B, hw])).trans ?_
        refine (seq_nx s').trans ?_
        refine (if_t (sd1 := [some (.own a3), some (.int w), some (.int rs.length), some (.own (r'.map D.int)), none]) (by simp [x_B, bR_ok, bR_exc, bR_bad, x_BS, bF_ok, bF_exc, bF_bad, x_R, x_O, oR_some, oR_none, x_Var, varR_some, x_Peek, peekR_some, x_C, x_Lst, x_Cons, x_Seq, seqR_nx, seqR_rt, seqR_rf, seqR_exc, seqR_bad, x_Next, x_Ret, x_RetF, x_Drop, x_If, x_Set, x_Put, nxR_some, nxR_none, x_put, x_putO, x_PutO, x_SetO, x_Bin, x_BinF, x_Bin2, x_Cmp, x_CmpV, x_Tst, tstK_bl, x_NotT, x_AndT, x_OrT, x_AndV, andK_t, andK_f, x_NotV, notK_bl, x_IfE, x_Un, unK_int, x_Chain, x_ChainV, x_Fn, x_App, ifS_some, appK_some, x_PutIx, pixK_int, pixJ_some, x_Call, x_CallF, callR_ok, callR_exc, callR_bad, x_CallM, callM1_some, callM2_ok, x_Asg, x_Par, parK_some, x_ParO, x_Wh, x_For, x_Src, i_lst, i_tup, x_Rng1, rngK_int, x_RevT, revT_tup, x_Comp, compK_ok, x_CallLam, lamK_some, lamK2_ok, x_CallV, o_int, o_bl, o_non, o_str, o_glo, o_tup, o_lst, o_clo, o_own, u_int, u_bl, u_non, u_str, u_glo, u_tup, u_lst, u_clo, u_own, own0, ownS, free_S, free_0, free_n, dAdd_int, dSub_int, bLt_int, bLe_int, bGt_int, bGe_int, bEq_int, bEq_bl, bEq_str, bNe_int, bNe_bl, bNe_str, dLen_lst, dLen_tup, dTup_lst, dTup_tup, x_noOwn0, x_noOwn1, okSlot_some, okSlot_n, okSlot_nn, putTup_tup, wipeD, backD, bGt, f2B, h1, h1'])).trans ?_
        exact s5
      · refine ⟨a3, r', v3, l', b', ?_⟩
        have h1' : ¬ (1 : Int) < rs.length := by omega
        refine (if_t (sd1 := [some (.own a3), some (.int w), some (.int rs.length), some (.own (rs.map D.int)), none]) (by simp [x_B, bR_ok, bR_exc, bR_bad, x_BS, bF_ok, bF_exc, bF_bad, x_R, x_O, oR_some, oR_none, x_Var, varR_some, x_Peek, peekR_some, x_C, x_Lst, x_Cons, x_Seq, seqR_nx, seqR_rt, seqR_rf, seqR_exc, seqR_bad, x_Next, x_Ret, x_RetF, x_Drop, x_If, x_Set, x_Put, nxR_some, nxR_none, x_put, x_putO, x_PutO, x_SetO, x_Bin, x_BinF, x_Bin2, x_Cmp, x_CmpV, x_Tst, tstK_bl, x_NotT, x_AndT, x_OrT, x_AndV, andK_t, andK_f, x_NotV, notK_bl, x_IfE, x_Un, unK_int, x_Chain, x_ChainV, x_Fn, x_App, ifS_some, appK_some, x_PutIx, pixK_int, pixJ_some, x_Call, x_CallF, callR_ok, callR_exc, callR_bad, x_CallM, callM1_some, callM2_ok, x_Asg, x_Par, parK_some, x_ParO, x_Wh, x_For, x_Src, i_lst, i_tup, x_Rng1, rngK_int, x_RevT, revT_tup, x_Comp, compK_ok, x_CallLam, lamK_some, lamK2_ok, x_CallV, o_int, o_bl, o_non, o_str, o_glo, o_tup, o_lst, o_clo, o_own, u_int, u_bl, u_non, u_str, u_glo, u_tup, u_lst, u_clo, u_own, own0, ownS, free_S, free_0, free_n, dAdd_int, dSub_int, bLt_int, bLe_int, bGt_int, bGe_int, bEq_int, bEq_bl, bEq_str, bNe_int, bNe_bl, bNe_str, dLen_lst, dLen_tup, dTup_lst, dTup_tup, x_noOwn0, x_noOwn1, okSlot_some, okSlot_n, okSlot_nn, putTup_tup, wipeD, backD, bGt, f2B, hw])).trans ?_
        refine (seq_nx s').trans ?_
        refine (if_f (sd1 := [some (.own a3), some (.int w), some (.int rs.length), some (.own (r'.map D.int)), none]) (by simp [x_B, bR_ok, bR_exc, bR_bad, x_BS, bF_ok, bF_exc, bF_bad, x_R, x_O, oR_some, oR_none, x_Var, varR_some, x_Peek, peekR_some, x_C, x_Lst, x_Cons, x_Seq, seqR_nx, seqR_rt, seqR_rf, seqR_exc, seqR_bad, x_Next, x_Ret, x_RetF, x_Drop, x_If, x_Set, x_Put, nxR_some, nxR_none, x_put, x_putO, x_PutO, x_SetO, x_Bin, x_BinF, x_Bin2, x_Cmp, x_CmpV, x_Tst, tstK_bl, x_NotT, x_AndT, x_OrT, x_AndV, andK_t, andK_f, x_NotV, notK_bl, x_IfE, x_Un, unK_int, x_Chain, x_ChainV, x_Fn, x_App, ifS_some, appK_some, x_PutIx, pixK_int, pixJ_some, x_Call, x_CallF, callR_ok, callR_exc, callR_bad, x_CallM, callM1_some, callM2_ok, x_Asg, x_Par, parK_some, x_ParO, x_Wh, x_For, x_Src, i_lst, i_tup, x_Rng1, rngK_int, x_RevT, revT_tup, x_Comp, compK_ok, x_CallLam, lamK_some, lamK2_ok, x_CallV, o_int, o_bl, o_non, o_str, o_glo, o_tup, o_lst, o_clo, o_own, u_int, u_bl, u_non, u_str, u_glo, u_tup, u_lst, u_clo, u_own, own0, ownS, free_S, free_0, free_n, dAdd_int, dSub_int, bLt_int, bLe_int, bGt_int, bGe_int, bEq_int, bEq_bl, bEq_str, bNe_int, bNe_bl, bNe_str, dLen_lst, dLen_tup, dTup_lst, dTup_tup, x_noOwn0, x_noOwn1, okSlot_some, okSlot_n, okSlot_nn, putTup_tup, wipeD, backD, bGt, f2B, h1, h1'])).trans ?_
        rfl
    · refine ⟨a3, rs, v3, rfl, fun c hc => ?_, ?_⟩
      · have := hr c hc; omega
      · refine (if_f (sd1 := [some (.own a3), some (.int w), some (.int rs.length), some (.own (rs.map D.int)), none]) (by simp [x_B, bR_ok, bR_exc, bR_bad, x_BS, bF_ok, bF_exc, bF_bad, x_R, x_O, oR_some, oR_none, x_Var, varR_some, x_Peek, peekR_some, x_C, x_Lst, x_Cons, x_Seq, seqR_nx, seqR_rt, seqR_rf, seqR_exc, seqR_bad, x_Next, x_Ret, x_RetF, x_Drop, x_If, x_Set, x_Put, nxR_some, nxR_none, x_put, x_putO, x_PutO, x_SetO, x_Bin, x_BinF, x_Bin2, x_Cmp, x_CmpV, x_Tst, tstK_bl, x_NotT, x_AndT, x_OrT, x_AndV, andK_t, andK_f, x_NotV, notK_bl, x_IfE, x_Un, unK_int, x_Chain, x_ChainV, x_Fn, x_App, ifS_some, appK_some, x_PutIx, pixK_int, pixJ_some, x_Call, x_CallF, callR_ok, callR_exc, callR_bad, x_CallM, callM1_some, callM2_ok, x_Asg, x_Par, parK_some, x_ParO, x_Wh, x_For, x_Src, i_lst, i_tup, x_Rng1, rngK_int, x_RevT, revT_tup, x_Comp, compK_ok, x_CallLam, lamK_some, lamK2_ok, x_CallV, o_int, o_bl, o_non, o_str, o_glo, o_tup, o_lst, o_clo, o_own, u_int, u_bl, u_non, u_str, u_glo, u_tup, u_lst, u_clo, u_own, own0, ownS, free_S, free_0, free_n, dAdd_int, dSub_int, bLt_int, bLe_int, bGt_int, bGe_int, bEq_int, bEq_bl, bEq_str, bNe_int, bNe_bl, bNe_str, dLen_lst, dLen_tup, dTup_lst, dTup_tup, x_noOwn0, x_noOwn1, okSlot_some, okSlot_n, okSlot_nn, putTup_tup, wipeD, backD, bGt, f2B, hw])).trans ?_
        rfl
  obtain ⟨a6, r6, v6, l6, b6, s6⟩ : ∃ a6 r6, VatOk a6 ∧ r6.length = rs.length ∧ Within 128 r6 ∧ mIf (mCmp bEq (mPeek 1) (mC (.int 2))) (mSeq (mSetO 3 (mComp [4] (mRng1 (mVar 2)) (put 4) (mR true) (mBin dMul (mBin dIx (mPeek 3) (mVar 4)) (mIfE (mCmp bGt (mPeek 4) (mC (.int 1))) (mC (.int 2)) (mC (.int 1)))))) (mSeq (mPutIx 3 (mBin dAdd (mBin dMul (mC (.int 2)) (mCallM g__law_under 0 (mCons (mC (.int 8)) (mR [])))) (mC (.int 1))) (mC (.int 0))) (mIf (mCmp bGt (mPeek 2) (mC (.int 1))) (mPutIx 3 (mBin dAdd (mBin dMul (mC (.int 4)) (mCallM g__law_under 0 (mCons (mC (.int 8)) (mR [])))) (mC (.int 1))) (mC (.int 1))) (mNext)))) (mNext)
      [some (.own a4), some (.int w), some (.int rs.length), some (.own (r4.map D.int)), none] = .ok (.nx [some (.own a6), some (.int w), some (.int rs.length), some (.own (r6.map D.int)), none]) := by
    by_cases hw : w = 2
    · obtain ⟨r', l', b', s'⟩ := scale_ok a4 w r4 64 b4 (by decide) (by decide) (by omega)
      obtain ⟨a5, r5, v5, l5, b5, s5⟩ := put_odd a4 v4 w r' 128 2 0 (.inl rfl) b' (by decide) (by omega) (by omega)
      rw [l4] at s'
      rw [l', l4] at s5
      by_cases h1 : 1 < rs.length
      · obtain ⟨a7, r7, v7, l7, b7, s7⟩ := put_odd a5 v5 w r5 128 4 1 (.inr rfl) b5 (by decide) (by omega) (by omega)
        refine ⟨a7, r7, v7, by omega, b7, ?_⟩
        rw [l5, l', l4] at s7
        have h1' : (1 : Int) < rs.length := by omega
        refine (if_t (sd1 := [some (.own a4), some (.int w), some (.int rs.length), some (.own (r4.map D.int)), none]) (by simp [x_B, bR_ok, bR_exc, bR_bad, x_BS, bF_ok, bF_exc, bF_bad, x_R, x_O, oR_some, oR_none, x_Var, varR_some, x_Peek, peekR_some, x_C, x_Lst, x_Cons, x_Seq, seqR_nx, seqR_rt, seqR_rf, seqR_exc, seqR_bad, x_Next, x_Ret, x_RetF, x_Drop, x_If, x_Set, x_Put, nxR_some, nxR_none, x_put, x_putO, x_PutO, x_SetO, x_Bin, x_BinF, x_Bin2, x_Cmp, x_CmpV, x_Tst, tstK_bl, x_NotT, x_AndT, x_OrT, x_AndV, andK_t, andK_f, x_NotV, notK_bl, x_IfE, x_Un, unK_int, x_Chain, x_ChainV, x_Fn, x_App, ifS_some, appK_some, x_PutIx, pixK_int, pixJ_some, x_Call, x_CallF, callR_ok, callR_exc, callR_bad, x_CallM, callM1_some, callM2_ok, x_Asg, x_Par, parK_some, x_ParO, x_Wh, x_For, x_Src, i_lst, i_tup, x_Rng1, rngK_int, x_RevT, revT_tup, x_Comp, compK_ok, x_CallLam, lamK_some, lamK2_ok, x_CallV, o_int, o_bl, o_non, o_str, o_glo, o_tup, o_lst, o_clo, o_own, u_int, u_bl, u_non, u_str, u_glo, u_tup, u_lst, u_clo, u_own, own0, ownS, free_S, free_0, free_n, dAdd_int, dSub_int, bLt_int, bLe_int, bGt_int, bGe_int, bEq_int, bEq_bl, bEq_str, bNe_int, bNe_bl, bNe_str, dLen_lst, dLen_tup, dTup_lst, dTup_tup, x_noOwn0, x_noOwn1, okSlot_some, okSlot_n, okSlot_nn, putTup_tup, wipeD, backD, bEq, hw])).trans ?_
        refine (seq_nx s').trans ((seq_nx s5).trans ?_)
        refine (if_t (sd1 := [some (.own a5), some (.int w), some (.int rs.length), some (.own (r5.map D.int)), none]) (by simp [x_B, bR_ok, bR_exc, bR_bad, x_BS, bF_ok, bF_exc, bF_bad, x_R, x_O, oR_some, oR_none, x_Var, varR_some, x_Peek, peekR_some, x_C, x_Lst, x_Cons, x_Seq, seqR_nx, seqR_rt, seqR_rf, seqR_exc, seqR_bad, x_Next, x_Ret, x_RetF, x_Drop, x_If, x_Set, x_Put, nxR_some, nxR_none, x_put, x_putO, x_PutO, x_SetO, x_Bin, x_BinF, x_Bin2, x_Cmp, x_CmpV, x_Tst, tstK_bl, x_NotT, x_AndT, x_OrT, x_AndV, andK_t, andK_f, x_NotV, notK_bl, x_IfE, x_Un, unK_int, x_Chain, x_ChainV, x_Fn, x_App, ifS_some, appK_some, x_PutIx, pixK_int, pixJ_some, x_Call, x_CallF, callR_ok, callR_exc, callR_bad, x_CallM, callM1_some, callM2_ok, x_Asg, x_Par, parK_some, x_ParO, x_Wh, x_For, x_Src, i_lst, i_tup, x_Rng1, rngK_int, x_RevT, revT_tup, x_Comp, compK_ok, x_CallLam, lamK_some, lamK2_ok, x_CallV, o_int, o_bl, o_non, o_str, o_glo, o_tup, o_lst, o_clo, o_own, u_int, u_bl, u_non, u_str, u_glo, u_tup, u_lst, u_clo, u_own, own0, ownS, free_S, free_0, free_n, dAdd_int, dSub_int, bLt_int, bLe_int, bGt_int, bGe_int, bEq_int, bEq_bl, bEq_str, bNe_int, bNe_bl, bNe_str, dLen_lst, dLen_tup, dTup_lst, dTup_tup, x_noOwn0, x_noOwn1, okSlot_some, okSlot_n, okSlot_nn, putTup_tup, wipeD, backD, bGt, f2B, h1, h1'])).trans ?_
        exact s7
      · refine ⟨a5, r5, v5, by omega, b5, ?_⟩
        have h1' : ¬ (1 : Int) < rs.length := by omega
        refine (if_t (sd1 := [some (.own a4), some (.int w), some (.int rs.length), some (.own (r4.map D.int)), none]) (by simp [x_B, bR_ok, bR_exc, bR_bad, x_BS, bF_ok, bF_exc, bF_bad, x_R, x_O, oR_some, oR_none, x_Var, varR_some, x_Peek, peekR_some, x_C, x_Lst, x_Cons, x_Seq, seqR_nx, seqR_rt, seqR_rf, seqR_exc, seqR_bad, x_Next, x_Ret, x_RetF, x_Drop, x_If, x_Set, x_Put, nxR_some, nxR_none, x_put, x_putO, x_PutO, x_SetO, x_Bin, x_BinF, x_Bin2, x_Cmp, x_CmpV, x_Tst, tstK_bl, x_NotT, x_AndT, x_OrT, x_AndV, andK_t, andK_f, x_NotV, notK_bl, x_IfE, x_Un, unK_int, x_Chain, x_ChainV, x_Fn, x_App, ifS_some, appK_some, x_PutIx, pixK_int, pixJ_some, x_Call, x_CallF, callR_ok, callR_exc, callR_bad, x_CallM, callM1_some, callM2_ok, x_Asg, x_Par, parK_some, x_ParO, x_Wh, x_For, x_Src, i_lst, i_tup, x_Rng1, rngK_int, x_RevT, revT_tup, x_Comp, compK_ok, x_CallLam, lamK_some, lamK2_ok, x_CallV, o_int, o_bl, o_non, o_str, o_glo, o_tup, o_lst, o_clo, o_own, u_int, u_bl, u_non, u_str, u_glo, u_tup, u_lst, u_clo, u_own, own0, ownS, free_S, free_0, free_n, dAdd_int, dSub_int, bLt_int, bLe_int, bGt_int, bGe_int, bEq_int, bEq_bl, bEq_str, bNe_int, bNe_bl, bNe_str, dLen_lst, dLen_tup, dTup_lst, dTup_tup, x_noOwn0, x_noOwn1, okSlot_some, okSlot_n, okSlot_nn, putTup_tup, wipeD, backD, bEq, hw])).trans ?_
        refine (seq_nx s').trans ((seq_nx s5).trans ?_)
        refine (if_f (sd1 := [some (.own a5), some (.int w), some (.int rs.length), some (.own (r5.map D.int)), none]) (by simp [x_B, bR_ok, bR_exc, bR_bad, x_BS, bF_ok, bF_exc, bF_bad, x_R, x_O, oR_some, oR_none, x_Var, varR_some, x_Peek, peekR_some, x_C, x_Lst, x_Cons, x_Seq, seqR_nx, seqR_rt, seqR_rf, seqR_exc, seqR_bad, x_Next, x_Ret, x_RetF, x_Drop, x_If, x_Set, x_Put, nxR_some, nxR_none, x_put, x_putO, x_PutO, x_SetO, x_Bin, x_BinF, x_Bin2, x_Cmp, x_CmpV, x_Tst, tstK_bl, x_NotT, x_AndT, x_OrT, x_AndV, andK_t, andK_f, x_NotV, notK_bl, x_IfE, x_Un, unK_int, x_Chain, x_ChainV, x_Fn, x_App, ifS_some, appK_some, x_PutIx, pixK_int, pixJ_some, x_Call, x_CallF, callR_ok, callR_exc, callR_bad, x_CallM, callM1_some, callM2_ok, x_Asg, x_Par, parK_some, x_ParO, x_Wh, x_For, x_Src, i_lst, i_tup, x_Rng1, rngK_int, x_RevT, revT_tup, x_Comp, compK_ok, x_CallLam, lamK_some, lamK2_ok, x_CallV, o_int, o_bl, o_non, o_str, o_glo, o_tup, o_lst, o_clo, o_own, u_int, u_bl, u_non, u_str, u_glo, u_tup, u_lst, u_clo, u_own, own0, ownS, free_S, free_0, free_n, dAdd_int, dSub_int, bLt_int, bLe_int, bGt_int, bGe_int, bEq_int, bEq_bl, bEq_str, bNe_int, bNe_bl, bNe_str, dLen_lst, dLen_tup, dTup_lst, dTup_tup, x_noOwn0, x_noOwn1, okSlot_some, okSlot_n, okSlot_nn, putTup_tup, wipeD, backD, bGt, f2B, h1, h1'])).trans ?_
        rfl
    · refine ⟨a4, r4, v4, l4, fun c hc => ?_, ?_⟩
      · have := b4 c hc; omega
      · refine (if_f (sd1 := [some (.own a4), some (.int w), some (.int rs.length), some (.own (r4.map D.int)), none]) (by simp [x_B, bR_ok, bR_exc, bR_bad, x_BS, bF_ok, bF_exc, bF_bad, x_R, x_O, oR_some, oR_none, x_Var, varR_some, x_Peek, peekR_some, x_C, x_Lst, x_Cons, x_Seq, seqR_nx, seqR_rt, seqR_rf, seqR_exc, seqR_bad, x_Next, x_Ret, x_RetF, x_Drop, x_If, x_Set, x_Put, nxR_some, nxR_none, x_put, x_putO, x_PutO, x_SetO, x_Bin, x_BinF, x_Bin2, x_Cmp, x_CmpV, x_Tst, tstK_bl, x_NotT, x_AndT, x_OrT, x_AndV, andK_t, andK_f, x_NotV, notK_bl, x_IfE, x_Un, unK_int, x_Chain, x_ChainV, x_Fn, x_App, ifS_some, appK_some, x_PutIx, pixK_int, pixJ_some, x_Call, x_CallF, callR_ok, callR_exc, callR_bad, x_CallM, callM1_some, callM2_ok, x_Asg, x_Par, parK_some, x_ParO, x_Wh, x_For, x_Src, i_lst, i_tup, x_Rng1, rngK_int, x_RevT, revT_tup, x_Comp, compK_ok, x_CallLam, lamK_some, lamK2_ok, x_CallV, o_int, o_bl, o_non, o_str, o_glo, o_tup, o_lst, o_clo, o_own, u_int, u_bl, u_non, u_str, u_glo, u_tup, u_lst, u_clo, u_own, own0, ownS, free_S, free_0, free_n, dAdd_int, dSub_int, bLt_int, bLe_int, bGt_int, bGe_int, bEq_int, bEq_bl, bEq_str, bNe_int, bNe_bl, bNe_str, dLen_lst, dLen_tup, dTup_lst, dTup_tup, x_noOwn0, x_noOwn1, okSlot_some, okSlot_n, okSlot_nn, putTup_tup, wipeD, backD, bEq, hw])).trans ?_
        rfl
  refine ⟨r6, a6, ?_, ⟨by omega, by omega, fun c hc => ?_⟩, v6⟩
  · have key : m__law_poly [some (.own as), none, none, none, none] = .ok (.rt (tI r6) [some (.own a6), some (.int w), some (.int rs.length), some (.own (r6.map D.int)), none]) := by
      unfold m__law_poly
      refine (seq_nx (sd1 := [some (.own a2), some (.int w), some (.int rs.length), none, none]) ?_).trans ((seq_nx (sd1 := [some (.own a3), some (.int w), some (.int rs.length), some (.own (rs.map D.int)), none]) ?_).trans ((seq_nx s4).trans ((seq_nx s6).trans ?_)))
      · simp [x_B, bR_ok, bR_exc, bR_bad, x_BS, bF_ok, bF_exc, bF_bad, x_R, x_O, oR_some, oR_none, x_Var, varR_some, x_Peek, peekR_some, x_C, x_Lst, x_Cons, x_Seq, seqR_nx, seqR_rt, seqR_rf, seqR_exc, seqR_bad, x_Next, x_Ret, x_RetF, x_Drop, x_If, x_Set, x_Put, nxR_some, nxR_none, x_put, x_putO, x_PutO, x_SetO, x_Bin, x_BinF, x_Bin2, x_Cmp, x_CmpV, x_Tst, tstK_bl, x_NotT, x_AndT, x_OrT, x_AndV, andK_t, andK_f, x_NotV, notK_bl, x_IfE, x_Un, unK_int, x_Chain, x_ChainV, x_Fn, x_App, ifS_some, appK_some, x_PutIx, pixK_int, pixJ_some, x_Call, x_CallF, callR_ok, callR_exc, callR_bad, x_CallM, callM1_some, callM2_ok, x_Asg, x_Par, parK_some, x_ParO, x_Wh, x_For, x_Src, i_lst, i_tup, x_Rng1, rngK_int, x_RevT, revT_tup, x_Comp, compK_ok, x_CallLam, lamK_some, lamK2_ok, x_CallV, o_int, o_bl, o_non, o_str, o_glo, o_tup, o_lst, o_clo, o_own, u_int, u_bl, u_non, u_str, u_glo, u_tup, u_lst, u_clo, u_own, own0, ownS, free_S, free_0, free_n, dAdd_int, dSub_int, bLt_int, bLe_int, bGt_int, bGe_int, bEq_int, bEq_bl, bEq_str, bNe_int, bNe_bl, bNe_str, dLen_lst, dLen_tup, dTup_lst, dTup_tup, x_noOwn0, x_noOwn1, okSlot_some, okSlot_n, okSlot_nn, putTup_tup, wipeD, backD, u1, y1, dAdd, hn]
      · generalize rs.map D.int = q at *
        simp [x_B, bR_ok, bR_exc, bR_bad, x_BS, bF_ok, bF_exc, bF_bad, x_R, x_O, oR_some, oR_none, x_Var, varR_some, x_Peek, peekR_some, x_C, x_Lst, x_Cons, x_Seq, seqR_nx, seqR_rt, seqR_rf, seqR_exc, seqR_bad, x_Next, x_Ret, x_RetF, x_Drop, x_If, x_Set, x_Put, nxR_some, nxR_none, x_put, x_putO, x_PutO, x_SetO, x_Bin, x_BinF, x_Bin2, x_Cmp, x_CmpV, x_Tst, tstK_bl, x_NotT, x_AndT, x_OrT, x_AndV, andK_t, andK_f, x_NotV, notK_bl, x_IfE, x_Un, unK_int, x_Chain, x_ChainV, x_Fn, x_App, ifS_some, appK_some, x_PutIx, pixK_int, pixJ_some, x_Call, x_CallF, callR_ok, callR_exc, callR_bad, x_CallM, callM1_some, callM2_ok, x_Asg, x_Par, parK_some, x_ParO, x_Wh, x_For, x_Src, i_lst, i_tup, x_Rng1, rngK_int, x_RevT, revT_tup, x_Comp, compK_ok, x_CallLam, lamK_some, lamK2_ok, x_CallV, o_int, o_bl, o_non, o_str, o_glo, o_tup, o_lst, o_clo, o_own, u_int, u_bl, u_non, u_str, u_glo, u_tup, u_lst, u_clo, u_own, own0, ownS, free_S, free_0, free_n, dAdd_int, dSub_int, bLt_int, bLe_int, bGt_int, bGe_int, bEq_int, bEq_bl, bEq_str, bNe_int, bNe_bl, bNe_str, dLen_lst, dLen_tup, dTup_lst, dTup_tup, x_noOwn0, x_noOwn1, okSlot_some, okSlot_n, okSlot_nn, putTup_tup, wipeD, backD, hrn, e1]
      · simp [x_B, bR_ok, bR_exc, bR_bad, x_BS, bF_ok, bF_exc, bF_bad, x_R, x_O, oR_some, oR_none, x_Var, varR_some, x_Peek, peekR_some, x_C, x_Lst, x_Cons, x_Seq, seqR_nx, seqR_rt, seqR_rf, seqR_exc, seqR_bad, x_Next, x_Ret, x_RetF, x_Drop, x_If, x_Set, x_Put, nxR_some, nxR_none, x_put, x_putO, x_PutO, x_SetO, x_Bin, x_BinF, x_Bin2, x_Cmp, x_CmpV, x_Tst, tstK_bl, x_NotT, x_AndT, x_OrT, x_AndV, andK_t, andK_f, x_NotV, notK_bl, x_IfE, x_Un, unK_int, x_Chain, x_ChainV, x_Fn, x_App, ifS_some, appK_some, x_PutIx, pixK_int, pixJ_some, x_Call, x_CallF, callR_ok, callR_exc, callR_bad, x_CallM, callM1_some, callM2_ok, x_Asg, x_Par, parK_some, x_ParO, x_Wh, x_For, x_Src, i_lst, i_tup, x_Rng1, rngK_int, x_RevT, revT_tup, x_Comp, compK_ok, x_CallLam, lamK_some, lamK2_ok, x_CallV, o_int, o_bl, o_non, o_str, o_glo, o_tup, o_lst, o_clo, o_own, u_int, u_bl, u_non, u_str, u_glo, u_tup, u_lst, u_clo, u_own, own0, ownS, free_S, free_0, free_n, dAdd_int, dSub_int, bLt_int, bLe_int, bGt_int, bGe_int, bEq_int, bEq_bl, bEq_str, bNe_int, bNe_bl, bNe_str, dLen_lst, dLen_tup, dTup_lst, dTup_tup, x_noOwn0, x_noOwn1, okSlot_some, okSlot_n, okSlot_nn, putTup_tup, wipeD, backD, dTuple]
    show runM m__law_poly 5 _ _ = _
    have st : startM 5 as [] = [some (.own as), none, none, none, none] := rfl
    rw [runM, st, key]
    rfl
  · have := b6 c hc; omega
end HD

set_option Elab.async false
set_option linter.all false
set_option autoImplicit false
set_option maxRecDepth 100000
set_option maxHeartbeats 4000000
namespace HD
open PySem PySem.Spec PyProof.Rows L2 Builtin.Int
theorem compL_none {asg : D → SD → Option SD} {mt : SD → R (Bool × SD)} {me : ME} {vs : List Nat} (sd : SD) : ∀ (ds acc : List D),
    (∀ d ∈ ds, ∃ sd1 sd2, asg d sd = some sd1 ∧ mt sd1 = .ok (false, sd2) ∧ noOwn sd2 vs = true ∧ wipeD sd2 vs = sd) →
    compL asg mt me vs ds sd acc = .ok (acc, sd)
  | [], acc, _ => rfl
  | d :: ds, acc, h => by
    obtain ⟨sd1, sd2, h1, h2, h3, h4⟩ := h d (by simp)
    rw [compL, h1]
    simp only [h2, h3, if_true]
    rw [h4]
    exact compL_none sd ds acc fun d hd => h d (by simp [hd])
theorem lam0_run (c d : D) (hc : isOwn c = false) (hd : isOwn d = false) (hcal : cal1 c = true) (cls nm : Str) (ha : app1 c [d] = .exc cls) (hn : namesC cls = some nm) : g__law_error [.clo lam0 [c, d]] = .ok (.str nm) := by
  have e : app2 (.clo lam0 [c, d]) [] = .exc cls := by
    unfold app2
    simp only [if_true]
    have st : startD 2 [c, d] = [some c, some d] := rfl
    have k : m_lam0 [some c, some d] = .exc cls := by
      unfold m_lam0
      simp [x_B, bR_ok, bR_exc, bR_bad, x_BS, bF_ok, bF_exc, bF_bad, x_R, x_O, oR_some, oR_none, x_Var, varR_some, x_Peek, peekR_some, x_C, x_Lst, x_Cons, x_Seq, seqR_nx, seqR_rt, seqR_rf, seqR_exc, seqR_bad, x_Next, x_Ret, x_RetF, x_Drop, x_If, x_Set, x_Put, nxR_some, nxR_none, x_put, x_putO, x_PutO, x_SetO, x_Bin, x_BinF, x_Bin2, x_Cmp, x_CmpV, x_Tst, tstK_bl, x_NotT, x_AndT, x_OrT, x_AndV, andK_t, andK_f, x_NotV, notK_bl, x_IfE, x_Un, unK_int, x_Chain, x_ChainV, x_Fn, x_App, ifS_some, appK_some, x_PutIx, pixK_int, pixJ_some, x_Call, x_CallF, callR_ok, callR_exc, callR_bad, x_CallM, callM1_some, callM2_ok, x_Asg, x_Par, parK_some, x_ParO, x_Wh, x_For, x_Src, i_lst, i_tup, x_Rng1, rngK_int, x_RevT, revT_tup, x_Comp, compK_ok, x_CallLam, lamK_some, lamK2_ok, x_CallV, o_int, o_bl, o_non, o_str, o_glo, o_tup, o_lst, o_clo, o_own, u_int, u_bl, u_non, u_str, u_glo, u_tup, u_lst, u_clo, u_own, own0, ownS, free_S, free_0, free_n, dAdd_int, dSub_int, bLt_int, bLe_int, bGt_int, bGe_int, bEq_int, bEq_bl, bEq_str, bNe_int, bNe_bl, bNe_str, dLen_lst, dLen_tup, dTup_lst, dTup_tup, x_noOwn0, x_noOwn1, okSlot_some, okSlot_n, okSlot_nn, putTup_tup, wipeD, backD, hc, hd, hcal, ha]
    rw [runL, st, k]
  show gErr cal2 app2 namesC [.clo lam0 [c, d]] = _
  unfold gErr
  simp only [show cal2 (.clo lam0 [c, d]) = true from rfl, if_true, e, hn]
theorem refused_ok (c : D) (odds : List D) (nm : Str) (hc : isOwn c = false) (hcal : cal1 c = true) (h : ∀ d ∈ odds, isOwn d = false ∧ ∃ cls, app1 c [d] = .exc cls ∧ namesC cls = some nm) : g__law_all_refused [c, .lst odds, .str nm] = .ok (.bl true) := by
  have e := compL_none (asg := put 3) (mt := mCmp bNe (mCallLam g__law_error lam0 [0, 3] (mR [])) (mPeek 2)) (me := mVar 3) (vs := [3]) [some c, some (.lst odds), some (.str nm), none] odds [] (fun d hd => by
    obtain ⟨hd, cls, a1, a2⟩ := h d hd
    have l := lam0_run c d hc hd hcal cls nm a1 a2
    refine ⟨[some c, some (.lst odds), some (.str nm), some d], [some c, some (.lst odds), some (.str nm), some d], ?_, ?_, ?_, ?_⟩
    · simp [x_B, bR_ok, bR_exc, bR_bad, x_BS, bF_ok, bF_exc, bF_bad, x_R, x_O, oR_some, oR_none, x_Var, varR_some, x_Peek, peekR_some, x_C, x_Lst, x_Cons, x_Seq, seqR_nx, seqR_rt, seqR_rf, seqR_exc, seqR_bad, x_Next, x_Ret, x_RetF, x_Drop, x_If, x_Set, x_Put, nxR_some, nxR_none, x_put, x_putO, x_PutO, x_SetO, x_Bin, x_BinF, x_Bin2, x_Cmp, x_CmpV, x_Tst, tstK_bl, x_NotT, x_AndT, x_OrT, x_AndV, andK_t, andK_f, x_NotV, notK_bl, x_IfE, x_Un, unK_int, x_Chain, x_ChainV, x_Fn, x_App, ifS_some, appK_some, x_PutIx, pixK_int, pixJ_some, x_Call, x_CallF, callR_ok, callR_exc, callR_bad, x_CallM, callM1_some, callM2_ok, x_Asg, x_Par, parK_some, x_ParO, x_Wh, x_For, x_Src, i_lst, i_tup, x_Rng1, rngK_int, x_RevT, revT_tup, x_Comp, compK_ok, x_CallLam, lamK_some, lamK2_ok, x_CallV, o_int, o_bl, o_non, o_str, o_glo, o_tup, o_lst, o_clo, o_own, u_int, u_bl, u_non, u_str, u_glo, u_tup, u_lst, u_clo, u_own, own0, ownS, free_S, free_0, free_n, dAdd_int, dSub_int, bLt_int, bLe_int, bGt_int, bGe_int, bEq_int, bEq_bl, bEq_str, bNe_int, bNe_bl, bNe_str, dLen_lst, dLen_tup, dTup_lst, dTup_tup, x_noOwn0, x_noOwn1, okSlot_some, okSlot_n, okSlot_nn, putTup_tup, wipeD, backD, hd]
    · have s : slotsD [some c, some (.lst odds), some (.str nm), some d] [0, 3] = some [c, d] := by simp [slotsD, hc, hd]
      simp [x_B, bR_ok, bR_exc, bR_bad, x_BS, bF_ok, bF_exc, bF_bad, x_R, x_O, oR_some, oR_none, x_Var, varR_some, x_Peek, peekR_some, x_C, x_Lst, x_Cons, x_Seq, seqR_nx, seqR_rt, seqR_rf, seqR_exc, seqR_bad, x_Next, x_Ret, x_RetF, x_Drop, x_If, x_Set, x_Put, nxR_some, nxR_none, x_put, x_putO, x_PutO, x_SetO, x_Bin, x_BinF, x_Bin2, x_Cmp, x_CmpV, x_Tst, tstK_bl, x_NotT, x_AndT, x_OrT, x_AndV, andK_t, andK_f, x_NotV, notK_bl, x_IfE, x_Un, unK_int, x_Chain, x_ChainV, x_Fn, x_App, ifS_some, appK_some, x_PutIx, pixK_int, pixJ_some, x_Call, x_CallF, callR_ok, callR_exc, callR_bad, x_CallM, callM1_some, callM2_ok, x_Asg, x_Par, parK_some, x_ParO, x_Wh, x_For, x_Src, i_lst, i_tup, x_Rng1, rngK_int, x_RevT, revT_tup, x_Comp, compK_ok, x_CallLam, lamK_some, lamK2_ok, x_CallV, o_int, o_bl, o_non, o_str, o_glo, o_tup, o_lst, o_clo, o_own, u_int, u_bl, u_non, u_str, u_glo, u_tup, u_lst, u_clo, u_own, own0, ownS, free_S, free_0, free_n, dAdd_int, dSub_int, bLt_int, bLe_int, bGt_int, bGe_int, bEq_int, bEq_bl, bEq_str, bNe_int, bNe_bl, bNe_str, dLen_lst, dLen_tup, dTup_lst, dTup_tup, x_noOwn0, x_noOwn1, okSlot_some, okSlot_n, okSlot_nn, putTup_tup, wipeD, backD, s, l, noClo, bNe, bEq]
    · simp [x_B, bR_ok, bR_exc, bR_bad, x_BS, bF_ok, bF_exc, bF_bad, x_R, x_O, oR_some, oR_none, x_Var, varR_some, x_Peek, peekR_some, x_C, x_Lst, x_Cons, x_Seq, seqR_nx, seqR_rt, seqR_rf, seqR_exc, seqR_bad, x_Next, x_Ret, x_RetF, x_Drop, x_If, x_Set, x_Put, nxR_some, nxR_none, x_put, x_putO, x_PutO, x_SetO, x_Bin, x_BinF, x_Bin2, x_Cmp, x_CmpV, x_Tst, tstK_bl, x_NotT, x_AndT, x_OrT, x_AndV, andK_t, andK_f, x_NotV, notK_bl, x_IfE, x_Un, unK_int, x_Chain, x_ChainV, x_Fn, x_App, ifS_some, appK_some, x_PutIx, pixK_int, pixJ_some, x_Call, x_CallF, callR_ok, callR_exc, callR_bad, x_CallM, callM1_some, callM2_ok, x_Asg, x_Par, parK_some, x_ParO, x_Wh, x_For, x_Src, i_lst, i_tup, x_Rng1, rngK_int, x_RevT, revT_tup, x_Comp, compK_ok, x_CallLam, lamK_some, lamK2_ok, x_CallV, o_int, o_bl, o_non, o_str, o_glo, o_tup, o_lst, o_clo, o_own, u_int, u_bl, u_non, u_str, u_glo, u_tup, u_lst, u_clo, u_own, own0, ownS, free_S, free_0, free_n, dAdd_int, dSub_int, bLt_int, bLe_int, bGt_int, bGe_int, bEq_int, bEq_bl, bEq_str, bNe_int, bNe_bl, bNe_str, dLen_lst, dLen_tup, dTup_lst, dTup_tup, x_noOwn0, x_noOwn1, okSlot_some, okSlot_n, okSlot_nn, putTup_tup, wipeD, backD, hd]
    · simp [x_B, bR_ok, bR_exc, bR_bad, x_BS, bF_ok, bF_exc, bF_bad, x_R, x_O, oR_some, oR_none, x_Var, varR_some, x_Peek, peekR_some, x_C, x_Lst, x_Cons, x_Seq, seqR_nx, seqR_rt, seqR_rf, seqR_exc, seqR_bad, x_Next, x_Ret, x_RetF, x_Drop, x_If, x_Set, x_Put, nxR_some, nxR_none, x_put, x_putO, x_PutO, x_SetO, x_Bin, x_BinF, x_Bin2, x_Cmp, x_CmpV, x_Tst, tstK_bl, x_NotT, x_AndT, x_OrT, x_AndV, andK_t, andK_f, x_NotV, notK_bl, x_IfE, x_Un, unK_int, x_Chain, x_ChainV, x_Fn, x_App, ifS_some, appK_some, x_PutIx, pixK_int, pixJ_some, x_Call, x_CallF, callR_ok, callR_exc, callR_bad, x_CallM, callM1_some, callM2_ok, x_Asg, x_Par, parK_some, x_ParO, x_Wh, x_For, x_Src, i_lst, i_tup, x_Rng1, rngK_int, x_RevT, revT_tup, x_Comp, compK_ok, x_CallLam, lamK_some, lamK2_ok, x_CallV, o_int, o_bl, o_non, o_str, o_glo, o_tup, o_lst, o_clo, o_own, u_int, u_bl, u_non, u_str, u_glo, u_tup, u_lst, u_clo, u_own, own0, ownS, free_S, free_0, free_n, dAdd_int, dSub_int, bLt_int, bLe_int, bGt_int, bGe_int, bEq_int, bEq_bl, bEq_str, bNe_int, bNe_bl, bNe_str, dLen_lst, dLen_tup, dTup_lst, dTup_tup, x_noOwn0, x_noOwn1, okSlot_some, okSlot_n, okSlot_nn, putTup_tup, wipeD, backD])
  have b0 : bEq (.lst []) (.lst []) = some true := by rfl
  have key : m__law_all_refused [some c, some (.lst odds), some (.str nm), none] = .ok (.rt (.bl true) [some c, some (.lst odds), some (.str nm), none]) := by
    unfold m__law_all_refused
    simp [x_B, bR_ok, bR_exc, bR_bad, x_BS, bF_ok, bF_exc, bF_bad, x_R, x_O, oR_some, oR_none, x_Var, varR_some, x_Peek, peekR_some, x_C, x_Lst, x_Cons, x_Seq, seqR_nx, seqR_rt, seqR_rf, seqR_exc, seqR_bad, x_Next, x_Ret, x_RetF, x_Drop, x_If, x_Set, x_Put, nxR_some, nxR_none, x_put, x_putO, x_PutO, x_SetO, x_Bin, x_BinF, x_Bin2, x_Cmp, x_CmpV, x_Tst, tstK_bl, x_NotT, x_AndT, x_OrT, x_AndV, andK_t, andK_f, x_NotV, notK_bl, x_IfE, x_Un, unK_int, x_Chain, x_ChainV, x_Fn, x_App, ifS_some, appK_some, x_PutIx, pixK_int, pixJ_some, x_Call, x_CallF, callR_ok, callR_exc, callR_bad, x_CallM, callM1_some, callM2_ok, x_Asg, x_Par, parK_some, x_ParO, x_Wh, x_For, x_Src, i_lst, i_tup, x_Rng1, rngK_int, x_RevT, revT_tup, x_Comp, compK_ok, x_CallLam, lamK_some, lamK2_ok, x_CallV, o_int, o_bl, o_non, o_str, o_glo, o_tup, o_lst, o_clo, o_own, u_int, u_bl, u_non, u_str, u_glo, u_tup, u_lst, u_clo, u_own, own0, ownS, free_S, free_0, free_n, dAdd_int, dSub_int, bLt_int, bLe_int, bGt_int, bGe_int, bEq_int, bEq_bl, bEq_str, bNe_int, bNe_bl, bNe_str, dLen_lst, dLen_tup, dTup_lst, dTup_tup, x_noOwn0, x_noOwn1, okSlot_some, okSlot_n, okSlot_nn, putTup_tup, wipeD, backD, e, b0]
  show runD m__law_all_refused 4 _ = _
  rw [runD, show startD 4 [c, .lst odds, .str nm] = [some c, some (.lst odds), some (.str nm), none] from rfl, key]
theorem names_poly : namesC "InvalidPoly" = some "poly value" := by decide +kernel
theorem names_width : namesC "InvalidWidth" = some "width value" := by decide +kernel
theorem names_word : namesC "InvalidWord" = some "word value" := by decide +kernel
/-- what is no polynomial -/
def oddP : List D := [.non, .tup [], .lst [.int 1, .int 2], .tup [.int 1, .int 1, .int 1, .int 1, .int 1, .int 1, .int 1], .tup [.int 1, .non], .tup [.bl true, .int 1], .tup [.int 1000001], .tup [.int 1, .int (-1000001)], .str "12", .int 5, .tup [.int 1, .str "2"]]
theorem bad_poly : ∀ d ∈ oddP, isOwn d = false ∧ g_is_good_poly [d] = .ok (.bl false) := by
  intro d hd
  simp only [oddP, List.mem_cons, List.not_mem_nil, or_false] at hd
  rcases hd with rfl | rfl | rfl | rfl | rfl | rfl | rfl | rfl | rfl | rfl | rfl <;> exact ⟨rfl, by kernel_rfl⟩
theorem bad_need {d : D} (h : isOwn d = false ∧ g_is_good_poly [d] = .ok (.bl false)) : g_need_poly [d] = .exc "InvalidPoly" := by
  simp [g_need_poly, m_need_poly, runD, startD, x_B, bR_ok, bR_exc, bR_bad, x_BS, bF_ok, bF_exc, bF_bad, x_R, x_O, oR_some, oR_none, x_Var, varR_some, x_Peek, peekR_some, x_C, x_Lst, x_Cons, x_Seq, seqR_nx, seqR_rt, seqR_rf, seqR_exc, seqR_bad, x_Next, x_Ret, x_RetF, x_Drop, x_If, x_Set, x_Put, nxR_some, nxR_none, x_put, x_putO, x_PutO, x_SetO, x_Bin, x_BinF, x_Bin2, x_Cmp, x_CmpV, x_Tst, tstK_bl, x_NotT, x_AndT, x_OrT, x_AndV, andK_t, andK_f, x_NotV, notK_bl, x_IfE, x_Un, unK_int, x_Chain, x_ChainV, x_Fn, x_App, ifS_some, appK_some, x_PutIx, pixK_int, pixJ_some, x_Call, x_CallF, callR_ok, callR_exc, callR_bad, x_CallM, callM1_some, callM2_ok, x_Asg, x_Par, parK_some, x_ParO, x_Wh, x_For, x_Src, i_lst, i_tup, x_Rng1, rngK_int, x_RevT, revT_tup, x_Comp, compK_ok, x_CallLam, lamK_some, lamK2_ok, x_CallV, o_int, o_bl, o_non, o_str, o_glo, o_tup, o_lst, o_clo, o_own, u_int, u_bl, u_non, u_str, u_glo, u_tup, u_lst, u_clo, u_own, own0, ownS, free_S, free_0, free_n, dAdd_int, dSub_int, bLt_int, bLe_int, bGt_int, bGe_int, bEq_int, bEq_bl, bEq_str, bNe_int, bNe_bl, bNe_str, dLen_lst, dLen_tup, dTup_lst, dTup_tup, x_noOwn0, x_noOwn1, okSlot_some, okSlot_n, okSlot_nn, putTup_tup, wipeD, backD, h.1, h.2, mRaise]
theorem bad_one {d : D} (h : isOwn d = false ∧ g_is_good_poly [d] = .ok (.bl false)) : g_poly_one_to_one [d] = .exc "InvalidPoly" := by
  have e := bad_need h
  simp [g_poly_one_to_one, m_poly_one_to_one, runD, startD, x_B, bR_ok, bR_exc, bR_bad, x_BS, bF_ok, bF_exc, bF_bad, x_R, x_O, oR_some, oR_none, x_Var, varR_some, x_Peek, peekR_some, x_C, x_Lst, x_Cons, x_Seq, seqR_nx, seqR_rt, seqR_rf, seqR_exc, seqR_bad, x_Next, x_Ret, x_RetF, x_Drop, x_If, x_Set, x_Put, nxR_some, nxR_none, x_put, x_putO, x_PutO, x_SetO, x_Bin, x_BinF, x_Bin2, x_Cmp, x_CmpV, x_Tst, tstK_bl, x_NotT, x_AndT, x_OrT, x_AndV, andK_t, andK_f, x_NotV, notK_bl, x_IfE, x_Un, unK_int, x_Chain, x_ChainV, x_Fn, x_App, ifS_some, appK_some, x_PutIx, pixK_int, pixJ_some, x_Call, x_CallF, callR_ok, callR_exc, callR_bad, x_CallM, callM1_some, callM2_ok, x_Asg, x_Par, parK_some, x_ParO, x_Wh, x_For, x_Src, i_lst, i_tup, x_Rng1, rngK_int, x_RevT, revT_tup, x_Comp, compK_ok, x_CallLam, lamK_some, lamK2_ok, x_CallV, o_int, o_bl, o_non, o_str, o_glo, o_tup, o_lst, o_clo, o_own, u_int, u_bl, u_non, u_str, u_glo, u_tup, u_lst, u_clo, u_own, own0, ownS, free_S, free_0, free_n, dAdd_int, dSub_int, bLt_int, bLe_int, bGt_int, bGe_int, bEq_int, bEq_bl, bEq_str, bNe_int, bNe_bl, bNe_str, dLen_lst, dLen_tup, dTup_lst, dTup_tup, x_noOwn0, x_noOwn1, okSlot_some, okSlot_n, okSlot_nn, putTup_tup, wipeD, backD, h.1, e]
theorem bad_all {d : D} (h : isOwn d = false ∧ g_is_good_poly [d] = .ok (.bl false)) : g_poly_all_words [d] = .exc "InvalidPoly" := by
  have e := bad_need h
  simp [g_poly_all_words, m_poly_all_words, runD, startD, x_B, bR_ok, bR_exc, bR_bad, x_BS, bF_ok, bF_exc, bF_bad, x_R, x_O, oR_some, oR_none, x_Var, varR_some, x_Peek, peekR_some, x_C, x_Lst, x_Cons, x_Seq, seqR_nx, seqR_rt, seqR_rf, seqR_exc, seqR_bad, x_Next, x_Ret, x_RetF, x_Drop, x_If, x_Set, x_Put, nxR_some, nxR_none, x_put, x_putO, x_PutO, x_SetO, x_Bin, x_BinF, x_Bin2, x_Cmp, x_CmpV, x_Tst, tstK_bl, x_NotT, x_AndT, x_OrT, x_AndV, andK_t, andK_f, x_NotV, notK_bl, x_IfE, x_Un, unK_int, x_Chain, x_ChainV, x_Fn, x_App, ifS_some, appK_some, x_PutIx, pixK_int, pixJ_some, x_Call, x_CallF, callR_ok, callR_exc, callR_bad, x_CallM, callM1_some, callM2_ok, x_Asg, x_Par, parK_some, x_ParO, x_Wh, x_For, x_Src, i_lst, i_tup, x_Rng1, rngK_int, x_RevT, revT_tup, x_Comp, compK_ok, x_CallLam, lamK_some, lamK2_ok, x_CallV, o_int, o_bl, o_non, o_str, o_glo, o_tup, o_lst, o_clo, o_own, u_int, u_bl, u_non, u_str, u_glo, u_tup, u_lst, u_clo, u_own, own0, ownS, free_S, free_0, free_n, dAdd_int, dSub_int, bLt_int, bLe_int, bGt_int, bGe_int, bEq_int, bEq_bl, bEq_str, bNe_int, bNe_bl, bNe_str, dLen_lst, dLen_tup, dTup_lst, dTup_tup, x_noOwn0, x_noOwn1, okSlot_some, okSlot_n, okSlot_nn, putTup_tup, wipeD, backD, h.1, e]
theorem bad_comes {d a b : D} (h : isOwn d = false ∧ g_is_good_poly [d] = .ok (.bl false)) : g_poly_comes [d, a, b] = .exc "InvalidPoly" := by
  have e := bad_need h
  simp [g_poly_comes, m_poly_comes, runD, startD, x_B, bR_ok, bR_exc, bR_bad, x_BS, bF_ok, bF_exc, bF_bad, x_R, x_O, oR_some, oR_none, x_Var, varR_some, x_Peek, peekR_some, x_C, x_Lst, x_Cons, x_Seq, seqR_nx, seqR_rt, seqR_rf, seqR_exc, seqR_bad, x_Next, x_Ret, x_RetF, x_Drop, x_If, x_Set, x_Put, nxR_some, nxR_none, x_put, x_putO, x_PutO, x_SetO, x_Bin, x_BinF, x_Bin2, x_Cmp, x_CmpV, x_Tst, tstK_bl, x_NotT, x_AndT, x_OrT, x_AndV, andK_t, andK_f, x_NotV, notK_bl, x_IfE, x_Un, unK_int, x_Chain, x_ChainV, x_Fn, x_App, ifS_some, appK_some, x_PutIx, pixK_int, pixJ_some, x_Call, x_CallF, callR_ok, callR_exc, callR_bad, x_CallM, callM1_some, callM2_ok, x_Asg, x_Par, parK_some, x_ParO, x_Wh, x_For, x_Src, i_lst, i_tup, x_Rng1, rngK_int, x_RevT, revT_tup, x_Comp, compK_ok, x_CallLam, lamK_some, lamK2_ok, x_CallV, o_int, o_bl, o_non, o_str, o_glo, o_tup, o_lst, o_clo, o_own, u_int, u_bl, u_non, u_str, u_glo, u_tup, u_lst, u_clo, u_own, own0, ownS, free_S, free_0, free_n, dAdd_int, dSub_int, bLt_int, bLe_int, bGt_int, bGe_int, bEq_int, bEq_bl, bEq_str, bNe_int, bNe_bl, bNe_str, dLen_lst, dLen_tup, dTup_lst, dTup_tup, x_noOwn0, x_noOwn1, okSlot_some, okSlot_n, okSlot_nn, putTup_tup, wipeD, backD, h.1, e]
theorem app1_one (d : D) : app1 (.glo "poly_one_to_one") [d] = g_poly_one_to_one [d] := by
  unfold app1
  simp
theorem app1_all (d : D) : app1 (.glo "poly_all_words") [d] = g_poly_all_words [d] := by
  have n : ¬ (("poly_all_words" : Str) = "poly_one_to_one") := by decide
  unfold app1
  simp [n]
theorem ne_21 : ¬ lam2 = lam1 := fun h => absurd (congrArg Lam.id h) (by decide)
theorem ne_31 : ¬ lam3 = lam1 := fun h => absurd (congrArg Lam.id h) (by decide)
theorem ne_32 : ¬ lam3 = lam2 := fun h => absurd (congrArg Lam.id h) (by decide)
theorem app1_l1 (d : D) (h : noClo d = true) : app1 (.clo lam1 []) [d] = runL m_lam1 1 [d] := by
  unfold app1
  simp [noClos, h]
theorem app1_l2 (d p : D) (h : noClo d = true) : app1 (.clo lam2 [p]) [d] = runL m_lam2 2 [d, p] := by
  unfold app1
  simp [noClos, h, ne_21]
theorem app1_l3 (d p : D) (h : noClo d = true) : app1 (.clo lam3 [p]) [d] = runL m_lam3 2 [d, p] := by
  unfold app1
  simp [noClos, h, ne_31, ne_32]
theorem oddP_noClo : ∀ d ∈ oddP, noClo d = true := by
  intro d hd
  simp only [oddP, List.mem_cons, List.not_mem_nil, or_false] at hd
  rcases hd with rfl | rfl | rfl | rfl | rfl | rfl | rfl | rfl | rfl | rfl | rfl <;> rfl
theorem refused_one : g__law_all_refused [.glo "poly_one_to_one", .lst oddP, .str "poly value"] = .ok (.bl true) :=
  refused_ok _ _ _ rfl (by decide) fun d hd => ⟨(bad_poly d hd).1, _, (app1_one d).trans (bad_one (bad_poly d hd)), names_poly⟩
theorem refused_all : g__law_all_refused [.glo "poly_all_words", .lst oddP, .str "poly value"] = .ok (.bl true) :=
  refused_ok _ _ _ rfl (by decide) fun d hd => ⟨(bad_poly d hd).1, _, (app1_all d).trans (bad_all (bad_poly d hd)), names_poly⟩
theorem refused_l1 : g__law_all_refused [.clo lam1 [], .lst oddP, .str "poly value"] = .ok (.bl true) :=
  refused_ok _ _ _ rfl rfl fun d hd => ⟨(bad_poly d hd).1, _, (app1_l1 d (oddP_noClo d hd)).trans (by
    have e := bad_comes (a := .non) (b := .non) (bad_poly d hd)
    have o := (bad_poly d hd).1
    have k : m_lam1 [some d] = .exc "InvalidPoly" := by
      unfold m_lam1
      simp [x_B, bR_ok, bR_exc, bR_bad, x_BS, bF_ok, bF_exc, bF_bad, x_R, x_O, oR_some, oR_none, x_Var, varR_some, x_Peek, peekR_some, x_C, x_Lst, x_Cons, x_Seq, seqR_nx, seqR_rt, seqR_rf, seqR_exc, seqR_bad, x_Next, x_Ret, x_RetF, x_Drop, x_If, x_Set, x_Put, nxR_some, nxR_none, x_put, x_putO, x_PutO, x_SetO, x_Bin, x_BinF, x_Bin2, x_Cmp, x_CmpV, x_Tst, tstK_bl, x_NotT, x_AndT, x_OrT, x_AndV, andK_t, andK_f, x_NotV, notK_bl, x_IfE, x_Un, unK_int, x_Chain, x_ChainV, x_Fn, x_App, ifS_some, appK_some, x_PutIx, pixK_int, pixJ_some, x_Call, x_CallF, callR_ok, callR_exc, callR_bad, x_CallM, callM1_some, callM2_ok, x_Asg, x_Par, parK_some, x_ParO, x_Wh, x_For, x_Src, i_lst, i_tup, x_Rng1, rngK_int, x_RevT, revT_tup, x_Comp, compK_ok, x_CallLam, lamK_some, lamK2_ok, x_CallV, o_int, o_bl, o_non, o_str, o_glo, o_tup, o_lst, o_clo, o_own, u_int, u_bl, u_non, u_str, u_glo, u_tup, u_lst, u_clo, u_own, own0, ownS, free_S, free_0, free_n, dAdd_int, dSub_int, bLt_int, bLe_int, bGt_int, bGe_int, bEq_int, bEq_bl, bEq_str, bNe_int, bNe_bl, bNe_str, dLen_lst, dLen_tup, dTup_lst, dTup_tup, x_noOwn0, x_noOwn1, okSlot_some, okSlot_n, okSlot_nn, putTup_tup, wipeD, backD, o, e]
    rw [runL, show startD 1 [d] = [some d] from rfl, k]), names_poly⟩
def oddW : List D := [.int (-1), .int 65, .non, .bl true, .str "3"]
def oddV : List D := [.int (-1), .int 16, .non, .bl true, .str "0", .tup [.int 0]]
theorem bad_width : ∀ d ∈ oddW, isOwn d = false ∧ noClo d = true ∧ g_need_width [d, .int 64] = .exc "InvalidWidth" := by
  intro d hd
  simp only [oddW, List.mem_cons, List.not_mem_nil, or_false] at hd
  rcases hd with rfl | rfl | rfl | rfl | rfl <;> exact ⟨rfl, rfl, by kernel_rfl⟩
theorem bad_word : ∀ d ∈ oddV, isOwn d = false ∧ noClo d = true ∧ g_need_word [.int 4, d] = .exc "InvalidWord" := by
  intro d hd
  simp only [oddV, List.mem_cons, List.not_mem_nil, or_false] at hd
  rcases hd with rfl | rfl | rfl | rfl | rfl | rfl <;> exact ⟨rfl, rfl, by kernel_rfl⟩
theorem refused_l2 (cs : List Int) (hg : GoodP cs) : g__law_all_refused [.clo lam2 [tI cs], .lst oddW, .str "width value"] = .ok (.bl true) :=
  refused_ok _ _ _ rfl rfl fun d hd => ⟨(bad_width d hd).1, _, (app1_l2 d _ (bad_width d hd).2.1).trans (by
    obtain ⟨o, _, b⟩ := bad_width d hd
    have n := need_poly_good cs hg
    have e : g_poly_comes [tI cs, d, .non] = .exc "InvalidWidth" := by
      simp [g_poly_comes, m_poly_comes, runD, startD, x_B, bR_ok, bR_exc, bR_bad, x_BS, bF_ok, bF_exc, bF_bad, x_R, x_O, oR_some, oR_none, x_Var, varR_some, x_Peek, peekR_some, x_C, x_Lst, x_Cons, x_Seq, seqR_nx, seqR_rt, seqR_rf, seqR_exc, seqR_bad, x_Next, x_Ret, x_RetF, x_Drop, x_If, x_Set, x_Put, nxR_some, nxR_none, x_put, x_putO, x_PutO, x_SetO, x_Bin, x_BinF, x_Bin2, x_Cmp, x_CmpV, x_Tst, tstK_bl, x_NotT, x_AndT, x_OrT, x_AndV, andK_t, andK_f, x_NotV, notK_bl, x_IfE, x_Un, unK_int, x_Chain, x_ChainV, x_Fn, x_App, ifS_some, appK_some, x_PutIx, pixK_int, pixJ_some, x_Call, x_CallF, callR_ok, callR_exc, callR_bad, x_CallM, callM1_some, callM2_ok, x_Asg, x_Par, parK_some, x_ParO, x_Wh, x_For, x_Src, i_lst, i_tup, x_Rng1, rngK_int, x_RevT, revT_tup, x_Comp, compK_ok, x_CallLam, lamK_some, lamK2_ok, x_CallV, o_int, o_bl, o_non, o_str, o_glo, o_tup, o_lst, o_clo, o_own, u_int, u_bl, u_non, u_str, u_glo, u_tup, u_lst, u_clo, u_own, own0, ownS, free_S, free_0, free_n, dAdd_int, dSub_int, bLt_int, bLe_int, bGt_int, bGe_int, bEq_int, bEq_bl, bEq_str, bNe_int, bNe_bl, bNe_str, dLen_lst, dLen_tup, dTup_lst, dTup_tup, x_noOwn0, x_noOwn1, okSlot_some, okSlot_n, okSlot_nn, putTup_tup, wipeD, backD, o, n, b]
    have k : m_lam2 [some d, some (tI cs)] = .exc "InvalidWidth" := by
      unfold m_lam2
      simp [x_B, bR_ok, bR_exc, bR_bad, x_BS, bF_ok, bF_exc, bF_bad, x_R, x_O, oR_some, oR_none, x_Var, varR_some, x_Peek, peekR_some, x_C, x_Lst, x_Cons, x_Seq, seqR_nx, seqR_rt, seqR_rf, seqR_exc, seqR_bad, x_Next, x_Ret, x_RetF, x_Drop, x_If, x_Set, x_Put, nxR_some, nxR_none, x_put, x_putO, x_PutO, x_SetO, x_Bin, x_BinF, x_Bin2, x_Cmp, x_CmpV, x_Tst, tstK_bl, x_NotT, x_AndT, x_OrT, x_AndV, andK_t, andK_f, x_NotV, notK_bl, x_IfE, x_Un, unK_int, x_Chain, x_ChainV, x_Fn, x_App, ifS_some, appK_some, x_PutIx, pixK_int, pixJ_some, x_Call, x_CallF, callR_ok, callR_exc, callR_bad, x_CallM, callM1_some, callM2_ok, x_Asg, x_Par, parK_some, x_ParO, x_Wh, x_For, x_Src, i_lst, i_tup, x_Rng1, rngK_int, x_RevT, revT_tup, x_Comp, compK_ok, x_CallLam, lamK_some, lamK2_ok, x_CallV, o_int, o_bl, o_non, o_str, o_glo, o_tup, o_lst, o_clo, o_own, u_int, u_bl, u_non, u_str, u_glo, u_tup, u_lst, u_clo, u_own, own0, ownS, free_S, free_0, free_n, dAdd_int, dSub_int, bLt_int, bLe_int, bGt_int, bGe_int, bEq_int, bEq_bl, bEq_str, bNe_int, bNe_bl, bNe_str, dLen_lst, dLen_tup, dTup_lst, dTup_tup, x_noOwn0, x_noOwn1, okSlot_some, okSlot_n, okSlot_nn, putTup_tup, wipeD, backD, o, e]
    rw [runL, show startD 2 [d, tI cs] = [some d, some (tI cs)] from rfl, k]), names_width⟩
theorem refused_l3 (cs : List Int) (hg : GoodP cs) : g__law_all_refused [.clo lam3 [tI cs], .lst oddV, .str "word value"] = .ok (.bl true) :=
  refused_ok _ _ _ rfl rfl fun d hd => ⟨(bad_word d hd).1, _, (app1_l3 d _ (bad_word d hd).2.1).trans (by
    obtain ⟨o, _, b⟩ := bad_word d hd
    have n := need_poly_good cs hg
    have nw := need_width_int 4 (by decide) (by decide)
    have e : g_poly_comes [tI cs, .int 4, d] = .exc "InvalidWord" := by
      simp [g_poly_comes, m_poly_comes, runD, startD, x_B, bR_ok, bR_exc, bR_bad, x_BS, bF_ok, bF_exc, bF_bad, x_R, x_O, oR_some, oR_none, x_Var, varR_some, x_Peek, peekR_some, x_C, x_Lst, x_Cons, x_Seq, seqR_nx, seqR_rt, seqR_rf, seqR_exc, seqR_bad, x_Next, x_Ret, x_RetF, x_Drop, x_If, x_Set, x_Put, nxR_some, nxR_none, x_put, x_putO, x_PutO, x_SetO, x_Bin, x_BinF, x_Bin2, x_Cmp, x_CmpV, x_Tst, tstK_bl, x_NotT, x_AndT, x_OrT, x_AndV, andK_t, andK_f, x_NotV, notK_bl, x_IfE, x_Un, unK_int, x_Chain, x_ChainV, x_Fn, x_App, ifS_some, appK_some, x_PutIx, pixK_int, pixJ_some, x_Call, x_CallF, callR_ok, callR_exc, callR_bad, x_CallM, callM1_some, callM2_ok, x_Asg, x_Par, parK_some, x_ParO, x_Wh, x_For, x_Src, i_lst, i_tup, x_Rng1, rngK_int, x_RevT, revT_tup, x_Comp, compK_ok, x_CallLam, lamK_some, lamK2_ok, x_CallV, o_int, o_bl, o_non, o_str, o_glo, o_tup, o_lst, o_clo, o_own, u_int, u_bl, u_non, u_str, u_glo, u_tup, u_lst, u_clo, u_own, own0, ownS, free_S, free_0, free_n, dAdd_int, dSub_int, bLt_int, bLe_int, bGt_int, bGe_int, bEq_int, bEq_bl, bEq_str, bNe_int, bNe_bl, bNe_str, dLen_lst, dLen_tup, dTup_lst, dTup_tup, x_noOwn0, x_noOwn1, okSlot_some, okSlot_n, okSlot_nn, putTup_tup, wipeD, backD, o, n, b, nw]
    have k : m_lam3 [some d, some (tI cs)] = .exc "InvalidWord" := by
      unfold m_lam3
      simp [x_B, bR_ok, bR_exc, bR_bad, x_BS, bF_ok, bF_exc, bF_bad, x_R, x_O, oR_some, oR_none, x_Var, varR_some, x_Peek, peekR_some, x_C, x_Lst, x_Cons, x_Seq, seqR_nx, seqR_rt, seqR_rf, seqR_exc, seqR_bad, x_Next, x_Ret, x_RetF, x_Drop, x_If, x_Set, x_Put, nxR_some, nxR_none, x_put, x_putO, x_PutO, x_SetO, x_Bin, x_BinF, x_Bin2, x_Cmp, x_CmpV, x_Tst, tstK_bl, x_NotT, x_AndT, x_OrT, x_AndV, andK_t, andK_f, x_NotV, notK_bl, x_IfE, x_Un, unK_int, x_Chain, x_ChainV, x_Fn, x_App, ifS_some, appK_some, x_PutIx, pixK_int, pixJ_some, x_Call, x_CallF, callR_ok, callR_exc, callR_bad, x_CallM, callM1_some, callM2_ok, x_Asg, x_Par, parK_some, x_ParO, x_Wh, x_For, x_Src, i_lst, i_tup, x_Rng1, rngK_int, x_RevT, revT_tup, x_Comp, compK_ok, x_CallLam, lamK_some, lamK2_ok, x_CallV, o_int, o_bl, o_non, o_str, o_glo, o_tup, o_lst, o_clo, o_own, u_int, u_bl, u_non, u_str, u_glo, u_tup, u_lst, u_clo, u_own, own0, ownS, free_S, free_0, free_n, dAdd_int, dSub_int, bLt_int, bLe_int, bGt_int, bGe_int, bEq_int, bEq_bl, bEq_str, bNe_int, bNe_bl, bNe_str, dLen_lst, dLen_tup, dTup_lst, dTup_tup, x_noOwn0, x_noOwn1, okSlot_some, okSlot_n, okSlot_nn, putTup_tup, wipeD, backD, o, e]
    rw [runL, show startD 2 [d, tI cs] = [some d, some (tI cs)] from rfl, k]), names_word⟩
end HD

set_option Elab.async false
set_option linter.all false
set_option autoImplicit false
set_option maxRecDepth 100000
set_option maxHeartbeats 4000000
namespace HD
open PySem PySem.Spec PyProof.Rows L2 Builtin.Int
/-- goes on, with I -/
def Goes (r : R Fl) (I : SD → Prop) : Prop := ∃ sd', r = .ok (.nx sd') ∧ I sd'
def Rets (r : R Fl) (d : D) : Prop := ∃ sd', r = .ok (.rt d sd')
section
variable {s1 s2 : MS} {sd sd1 : SD} {I J : SD → Prop} {d : D} {ds : List D} {mf : MF} {asg : D → SD → Option SD} {t : SD → R (Bool × SD)}
theorem Goes.seq (h : Goes (s1 sd) I) (k : ∀ sd', I sd' → Goes (s2 sd') J) : Goes (mSeq s1 s2 sd) J := by
  obtain ⟨sd', e, i⟩ := h
  rw [seq_nx e]
  exact k sd' i
theorem Rets.seq (h : Goes (s1 sd) I) (k : ∀ sd', I sd' → Rets (s2 sd') d) : Rets (mSeq s1 s2 sd) d := by
  obtain ⟨sd', e, i⟩ := h
  rw [seq_nx e]
  exact k sd' i
theorem Goes.of {r : R Fl} (sd' : SD) (e : r = .ok (.nx sd')) (i : I sd') : Goes r I := ⟨sd', e, i⟩
theorem Goes.for_ (h : mf sd = .ok (ds, sd1)) (k : Goes (loopD asg s1 ds sd1) I) : Goes (mFor mf asg s1 sd) I := by
  rw [x_For, x_BS, h, bF_ok]
  exact k
theorem Goes.cons {sd2 : SD} (h : asg d sd = some sd2) (h2 : Goes (s1 sd2) J) (k : ∀ sd', J sd' → Goes (loopD asg s1 ds sd') I) : Goes (loopD asg s1 (d :: ds) sd) I := by
  obtain ⟨sd', e, j⟩ := h2
  rw [loopD, h]
  simp only [e]
  exact k sd' j
theorem Goes.inv (i : I sd) (h : ∀ d ∈ ds, ∀ sd, I sd → ∃ sd1, asg d sd = some sd1 ∧ Goes (s1 sd1) I) : Goes (loopD asg s1 ds sd) I := loopD_inv I ds sd i h
theorem Goes.nil (i : I sd) : Goes (loopD asg s1 [] sd) I := ⟨sd, rfl, i⟩
/-- if not True: return .. -/
theorem Goes.ifF (h : t sd = .ok (false, sd1)) (i : I sd1) : Goes (mIf t s1 mNext sd) I := by
  rw [x_If, x_BS, h, bF_ok]
  exact ⟨sd1, rfl, i⟩
end
theorem upto_max (n : Int) (m : Nat) (h : n = m) : (List.range n.toNat).map (fun i => D.int (0 + (i : Nat))) = (upto m).map D.int := by
  subst h
  exact upto_D m
/-- the polynomial of the turn -/
def PolyAt (o : Option D) : Prop := ∃ cs, o = some (tI cs) ∧ GoodP cs
section
variable (script : D)
abbrev S10 (o2 o3 o4 o5 o6 o7 : Option D) : SD := [some script, some (.lst oddP), o2, o3, o4, o5, o6, o7, none, none]
end
theorem poly_turn (script : D) (o2 o6 o7 : Option D) (i : Int) (as : List D) (hv : VatOk as) (o4 o5 : Option D) :
    Goes (mSeq (mSet 5 (mCallM g__law_poly 3 (mR []))) (mIf (mNotT (mTst (mCallM g__law_right 3 (mCons (mVar 5) (mR []))))) (mRet (mC (.bl false))) (mNext)) (S10 script o2 (some (.own as)) (some (.int i)) o5 o6 o7))
      (fun sd => ∃ as' o4' cs, VatOk as' ∧ GoodP cs ∧ sd = S10 script o2 (some (.own as')) o4' (some (tI cs)) o6 o7) := by
  obtain ⟨cs, a1, p1, hg, v1⟩ := law_poly_ok as hv
  obtain ⟨a2, p2, v2⟩ := law_right_ok a1 v1 cs hg
  refine Goes.seq (I := fun sd => sd = S10 script o2 (some (.own a1)) (some (.int i)) (some (tI cs)) o6 o7) (Goes.of _ ?_ rfl) fun sd' e => ?_
  · simp [x_B, bR_ok, bR_exc, bR_bad, x_BS, bF_ok, bF_exc, bF_bad, x_R, x_O, oR_some, oR_none, x_Var, varR_some, x_Peek, peekR_some, x_C, x_Lst, x_Cons, x_Seq, seqR_nx, seqR_rt, seqR_rf, seqR_exc, seqR_bad, x_Next, x_Ret, x_RetF, x_Drop, x_If, x_Set, x_Put, nxR_some, nxR_none, x_put, x_putO, x_PutO, x_SetO, x_Bin, x_BinF, x_Bin2, x_Cmp, x_CmpV, x_Tst, tstK_bl, x_NotT, x_AndT, x_OrT, x_AndV, andK_t, andK_f, x_NotV, notK_bl, x_IfE, x_Un, unK_int, x_Chain, x_ChainV, x_Fn, x_App, ifS_some, appK_some, x_PutIx, pixK_int, pixJ_some, x_Call, x_CallF, callR_ok, callR_exc, callR_bad, x_CallM, callM1_some, callM2_ok, x_Asg, x_Par, parK_some, x_ParO, x_Wh, x_For, x_Src, i_lst, i_tup, x_Rng1, rngK_int, x_RevT, revT_tup, x_Comp, compK_ok, x_CallLam, lamK_some, lamK2_ok, x_CallV, o_int, o_bl, o_non, o_str, o_glo, o_tup, o_lst, o_clo, o_own, u_int, u_bl, u_non, u_str, u_glo, u_tup, u_lst, u_clo, u_own, own0, ownS, free_S, free_0, free_n, dAdd_int, dSub_int, bLt_int, bLe_int, bGt_int, bGe_int, bEq_int, bEq_bl, bEq_str, bNe_int, bNe_bl, bNe_str, dLen_lst, dLen_tup, dTup_lst, dTup_tup, x_noOwn0, x_noOwn1, okSlot_some, okSlot_n, okSlot_nn, putTup_tup, wipeD, backD, p1]
  · subst e
    refine Goes.ifF (sd1 := S10 script o2 (some (.own a2)) (some (.int i)) (some (tI cs)) o6 o7) ?_ ⟨a2, _, cs, v2, hg, rfl⟩
    simp [x_B, bR_ok, bR_exc, bR_bad, x_BS, bF_ok, bF_exc, bF_bad, x_R, x_O, oR_some, oR_none, x_Var, varR_some, x_Peek, peekR_some, x_C, x_Lst, x_Cons, x_Seq, seqR_nx, seqR_rt, seqR_rf, seqR_exc, seqR_bad, x_Next, x_Ret, x_RetF, x_Drop, x_If, x_Set, x_Put, nxR_some, nxR_none, x_put, x_putO, x_PutO, x_SetO, x_Bin, x_BinF, x_Bin2, x_Cmp, x_CmpV, x_Tst, tstK_bl, x_NotT, x_AndT, x_OrT, x_AndV, andK_t, andK_f, x_NotV, notK_bl, x_IfE, x_Un, unK_int, x_Chain, x_ChainV, x_Fn, x_App, ifS_some, appK_some, x_PutIx, pixK_int, pixJ_some, x_Call, x_CallF, callR_ok, callR_exc, callR_bad, x_CallM, callM1_some, callM2_ok, x_Asg, x_Par, parK_some, x_ParO, x_Wh, x_For, x_Src, i_lst, i_tup, x_Rng1, rngK_int, x_RevT, revT_tup, x_Comp, compK_ok, x_CallLam, lamK_some, lamK2_ok, x_CallV, o_int, o_bl, o_non, o_str, o_glo, o_tup, o_lst, o_clo, o_own, u_int, u_bl, u_non, u_str, u_glo, u_tup, u_lst, u_clo, u_own, own0, ownS, free_S, free_0, free_n, dAdd_int, dSub_int, bLt_int, bLe_int, bGt_int, bGe_int, bEq_int, bEq_bl, bEq_str, bNe_int, bNe_bl, bNe_str, dLen_lst, dLen_tup, dTup_lst, dTup_tup, x_noOwn0, x_noOwn1, okSlot_some, okSlot_n, okSlot_nn, putTup_tup, wipeD, backD, p2]
theorem far_ok (script : D) (o2 o4 o5 o6 o7 : Option D) (as : List D) (hv : VatOk as) :
    Goes (mSet 6 (mFn dTuple (mLst (mComp [8] (mRng1 (mC (.int 6))) (put 8) (mR true) (mBin dSub (mCallM g__law_under 3 (mCons (mBin dAdd (mBin dMul (mC (.int 2)) (mBin dPow (mC (.int 10)) (mC (.int 6)))) (mC (.int 1))) (mR []))) (mBin dPow (mC (.int 10)) (mC (.int 6))))))) (S10 script o2 (some (.own as)) o4 o5 o6 o7))
      (fun sd => ∃ as' cs, VatOk as' ∧ GoodP cs ∧ sd = S10 script o2 (some (.own as')) o4 o5 (some (tI cs)) o7) := by
  have m2 : dMul (.int 2) (.int 1000000) = some (.int 2000000) := by rfl
  obtain ⟨es, sd', e1, e2, e3, e4⟩ := compL_inv (asg := put 8) (mt := mR true) (me := mBin dSub (mCallM g__law_under 3 (mCons (mBin dAdd (mBin dMul (mC (.int 2)) (mBin dPow (mC (.int 10)) (mC (.int 6)))) (mC (.int 1))) (mR []))) (mBin dPow (mC (.int 10)) (mC (.int 6)))) (vs := [8])
    (fun sd => ∃ bs, VatOk bs ∧ sd = S10 script o2 (some (.own bs)) o4 o5 o6 o7) (fun e => ∃ c : Int, e = .int c ∧ -1000000 ≤ c ∧ c ≤ 1000000) ((upto 6).map D.int) [] _ ⟨as, hv, rfl⟩ (fun d hd sd ⟨bs, hb, hs⟩ => by
      subst hs
      obtain ⟨i, hi, rfl⟩ := List.mem_map.mp hd
      obtain ⟨v, b1, t1, t2, t3, w1⟩ := under_ok bs hb 2000001 (by decide) (by decide)
      refine ⟨[some script, some (.lst oddP), o2, some (.own bs), o4, o5, o6, o7, some (.int i), none], by simp [x_B, bR_ok, bR_exc, bR_bad, x_BS, bF_ok, bF_exc, bF_bad, x_R, x_O, oR_some, oR_none, x_Var, varR_some, x_Peek, peekR_some, x_C, x_Lst, x_Cons, x_Seq, seqR_nx, seqR_rt, seqR_rf, seqR_exc, seqR_bad, x_Next, x_Ret, x_RetF, x_Drop, x_If, x_Set, x_Put, nxR_some, nxR_none, x_put, x_putO, x_PutO, x_SetO, x_Bin, x_BinF, x_Bin2, x_Cmp, x_CmpV, x_Tst, tstK_bl, x_NotT, x_AndT, x_OrT, x_AndV, andK_t, andK_f, x_NotV, notK_bl, x_IfE, x_Un, unK_int, x_Chain, x_ChainV, x_Fn, x_App, ifS_some, appK_some, x_PutIx, pixK_int, pixJ_some, x_Call, x_CallF, callR_ok, callR_exc, callR_bad, x_CallM, callM1_some, callM2_ok, x_Asg, x_Par, parK_some, x_ParO, x_Wh, x_For, x_Src, i_lst, i_tup, x_Rng1, rngK_int, x_RevT, revT_tup, x_Comp, compK_ok, x_CallLam, lamK_some, lamK2_ok, x_CallV, o_int, o_bl, o_non, o_str, o_glo, o_tup, o_lst, o_clo, o_own, u_int, u_bl, u_non, u_str, u_glo, u_tup, u_lst, u_clo, u_own, own0, ownS, free_S, free_0, free_n, dAdd_int, dSub_int, bLt_int, bLe_int, bGt_int, bGe_int, bEq_int, bEq_bl, bEq_str, bNe_int, bNe_bl, bNe_str, dLen_lst, dLen_tup, dTup_lst, dTup_tup, x_noOwn0, x_noOwn1, okSlot_some, okSlot_n, okSlot_nn, putTup_tup, wipeD, backD], rfl, .int (v - 1000000), [some script, some (.lst oddP), o2, some (.own b1), o4, o5, o6, o7, some (.int i), none], ?_, ⟨_, rfl, by omega, by omega⟩, rfl, b1, w1, rfl⟩
      simp [x_B, bR_ok, bR_exc, bR_bad, x_BS, bF_ok, bF_exc, bF_bad, x_R, x_O, oR_some, oR_none, x_Var, varR_some, x_Peek, peekR_some, x_C, x_Lst, x_Cons, x_Seq, seqR_nx, seqR_rt, seqR_rf, seqR_exc, seqR_bad, x_Next, x_Ret, x_RetF, x_Drop, x_If, x_Set, x_Put, nxR_some, nxR_none, x_put, x_putO, x_PutO, x_SetO, x_Bin, x_BinF, x_Bin2, x_Cmp, x_CmpV, x_Tst, tstK_bl, x_NotT, x_AndT, x_OrT, x_AndV, andK_t, andK_f, x_NotV, notK_bl, x_IfE, x_Un, unK_int, x_Chain, x_ChainV, x_Fn, x_App, ifS_some, appK_some, x_PutIx, pixK_int, pixJ_some, x_Call, x_CallF, callR_ok, callR_exc, callR_bad, x_CallM, callM1_some, callM2_ok, x_Asg, x_Par, parK_some, x_ParO, x_Wh, x_For, x_Src, i_lst, i_tup, x_Rng1, rngK_int, x_RevT, revT_tup, x_Comp, compK_ok, x_CallLam, lamK_some, lamK2_ok, x_CallV, o_int, o_bl, o_non, o_str, o_glo, o_tup, o_lst, o_clo, o_own, u_int, u_bl, u_non, u_str, u_glo, u_tup, u_lst, u_clo, u_own, own0, ownS, free_S, free_0, free_n, dAdd_int, dSub_int, bLt_int, bLe_int, bGt_int, bGe_int, bEq_int, bEq_bl, bEq_str, bNe_int, bNe_bl, bNe_str, dLen_lst, dLen_tup, dTup_lst, dTup_tup, x_noOwn0, x_noOwn1, okSlot_some, okSlot_n, okSlot_nn, putTup_tup, wipeD, backD, pow6, m2, dAdd, t1, dSub, f2I]) (by simp [upto_len]; decide)
  obtain ⟨rs, rfl, hr⟩ := ints_of 1000000 es e3
  obtain ⟨a3, v3, rfl⟩ := e4
  have hl : rs.length = 6 := by simpa [upto_len] using e2
  refine Goes.of (S10 script o2 (some (.own a3)) o4 o5 (some (tI rs)) o7) ?_ ⟨a3, rs, v3, ⟨by omega, by omega, fun c hc => hr c hc⟩, rfl⟩
  have e1 : compL (put 8) (mR true) (mBin dSub (mCallM g__law_under 3 (mCons (mBin dAdd (mBin dMul (mC (.int 2)) (mBin dPow (mC (.int 10)) (mC (.int 6)))) (mC (.int 1))) (mR []))) (mBin dPow (mC (.int 10)) (mC (.int 6)))) [8] ((upto 6).map D.int) [some script, some (.lst oddP), o2, some (.own as), o4, o5, o6, o7, none, none] [] = .ok (rs.map D.int, [some script, some (.lst oddP), o2, some (.own a3), o4, o5, o6, o7, none, none]) := by simpa using e1
  simp [x_B, bR_ok, bR_exc, bR_bad, x_BS, bF_ok, bF_exc, bF_bad, x_R, x_O, oR_some, oR_none, x_Var, varR_some, x_Peek, peekR_some, x_C, x_Lst, x_Cons, x_Seq, seqR_nx, seqR_rt, seqR_rf, seqR_exc, seqR_bad, x_Next, x_Ret, x_RetF, x_Drop, x_If, x_Set, x_Put, nxR_some, nxR_none, x_put, x_putO, x_PutO, x_SetO, x_Bin, x_BinF, x_Bin2, x_Cmp, x_CmpV, x_Tst, tstK_bl, x_NotT, x_AndT, x_OrT, x_AndV, andK_t, andK_f, x_NotV, notK_bl, x_IfE, x_Un, unK_int, x_Chain, x_ChainV, x_Fn, x_App, ifS_some, appK_some, x_PutIx, pixK_int, pixJ_some, x_Call, x_CallF, callR_ok, callR_exc, callR_bad, x_CallM, callM1_some, callM2_ok, x_Asg, x_Par, parK_some, x_ParO, x_Wh, x_For, x_Src, i_lst, i_tup, x_Rng1, rngK_int, x_RevT, revT_tup, x_Comp, compK_ok, x_CallLam, lamK_some, lamK2_ok, x_CallV, o_int, o_bl, o_non, o_str, o_glo, o_tup, o_lst, o_clo, o_own, u_int, u_bl, u_non, u_str, u_glo, u_tup, u_lst, u_clo, u_own, own0, ownS, free_S, free_0, free_n, dAdd_int, dSub_int, bLt_int, bLe_int, bGt_int, bGe_int, bEq_int, bEq_bl, bEq_str, bNe_int, bNe_bl, bNe_str, dLen_lst, dLen_tup, dTup_lst, dTup_tup, x_noOwn0, x_noOwn1, okSlot_some, okSlot_n, okSlot_nn, putTup_tup, wipeD, backD, e1, dTuple]
theorem law_true : LawTrue := by
  intro ns hl hb
  have hsc : isOwn (.lst (ns.map D.int)) = false := rfl
  generalize hs : D.lst (ns.map D.int) = script at hsc
  have fin : Rets (m_law [some script, none, none, none, none, none, none, none, none, none]) (.bl true) := by
    unfold m_law
    refine Rets.seq (I := fun sd => sd = S10 script none none none none none none) (Goes.of _ ?_ rfl) fun sd0 e0 => ?_
    · have r7 : dMul (.tup [.int 1]) (.int 7) = some (.tup [.int 1, .int 1, .int 1, .int 1, .int 1, .int 1, .int 1]) := by rfl
      simp [x_B, bR_ok, bR_exc, bR_bad, x_BS, bF_ok, bF_exc, bF_bad, x_R, x_O, oR_some, oR_none, x_Var, varR_some, x_Peek, peekR_some, x_C, x_Lst, x_Cons, x_Seq, seqR_nx, seqR_rt, seqR_rf, seqR_exc, seqR_bad, x_Next, x_Ret, x_RetF, x_Drop, x_If, x_Set, x_Put, nxR_some, nxR_none, x_put, x_putO, x_PutO, x_SetO, x_Bin, x_BinF, x_Bin2, x_Cmp, x_CmpV, x_Tst, tstK_bl, x_NotT, x_AndT, x_OrT, x_AndV, andK_t, andK_f, x_NotV, notK_bl, x_IfE, x_Un, unK_int, x_Chain, x_ChainV, x_Fn, x_App, ifS_some, appK_some, x_PutIx, pixK_int, pixJ_some, x_Call, x_CallF, callR_ok, callR_exc, callR_bad, x_CallM, callM1_some, callM2_ok, x_Asg, x_Par, parK_some, x_ParO, x_Wh, x_For, x_Src, i_lst, i_tup, x_Rng1, rngK_int, x_RevT, revT_tup, x_Comp, compK_ok, x_CallLam, lamK_some, lamK2_ok, x_CallV, o_int, o_bl, o_non, o_str, o_glo, o_tup, o_lst, o_clo, o_own, u_int, u_bl, u_non, u_str, u_glo, u_tup, u_lst, u_clo, u_own, own0, ownS, free_S, free_0, free_n, dAdd_int, dSub_int, bLt_int, bLe_int, bGt_int, bGe_int, bEq_int, bEq_bl, bEq_str, bNe_int, bNe_bl, bNe_str, dLen_lst, dLen_tup, dTup_lst, dTup_tup, x_noOwn0, x_noOwn1, okSlot_some, okSlot_n, okSlot_nn, putTup_tup, wipeD, backD, r7, pow6, dAdd, dSub, f2I, oddP]
    subst e0
    obtain ⟨m, hm, hm2⟩ : ∃ m : Nat, m ≤ 11 ∧ mRng1 (mBin2 dMax (mC (.int 5)) (mBin2 dMin (mC (.int 11)) (mFn dLen (mPeek 0)))) (S10 script none none none none none none) = .ok ((upto m).map D.int, S10 script none none none none none none) := by
      subst hs
      obtain ⟨m, e, h⟩ : ∃ m : Nat, m ≤ 11 ∧ (if (if (ns.length : Int) < 11 then (ns.length : Int) else 11) > 5 then (if (ns.length : Int) < 11 then (ns.length : Int) else 11) else 5) = (m : Int) := by
        refine ⟨(if (if (ns.length : Int) < 11 then (ns.length : Int) else 11) > 5 then (if (ns.length : Int) < 11 then (ns.length : Int) else 11) else 5).toNat, ?_, ?_⟩ <;> split <;> split <;> omega
      refine ⟨m, e, ?_⟩
      have b : ∀ sd, rngK (.int (m : Int)) sd = .ok ((upto m).map D.int, sd) := fun sd => rngK_nat (by omega)
      simp only [gt_iff_lt] at h
      simp [x_B, bR_ok, bR_exc, bR_bad, x_BS, bF_ok, bF_exc, bF_bad, x_R, x_O, oR_some, oR_none, x_Var, varR_some, x_Peek, peekR_some, x_C, x_Lst, x_Cons, x_Seq, seqR_nx, seqR_rt, seqR_rf, seqR_exc, seqR_bad, x_Next, x_Ret, x_RetF, x_Drop, x_If, x_Set, x_Put, nxR_some, nxR_none, x_put, x_putO, x_PutO, x_SetO, x_Bin, x_BinF, x_Bin2, x_Cmp, x_CmpV, x_Tst, tstK_bl, x_NotT, x_AndT, x_OrT, x_AndV, andK_t, andK_f, x_NotV, notK_bl, x_IfE, x_Un, unK_int, x_Chain, x_ChainV, x_Fn, x_App, ifS_some, appK_some, x_PutIx, pixK_int, pixJ_some, x_Call, x_CallF, callR_ok, callR_exc, callR_bad, x_CallM, callM1_some, callM2_ok, x_Asg, x_Par, parK_some, x_ParO, x_Wh, x_For, x_Src, i_lst, i_tup, x_Rng1, rngK_int, x_RevT, revT_tup, x_Comp, compK_ok, x_CallLam, lamK_some, lamK2_ok, x_CallV, o_int, o_bl, o_non, o_str, o_glo, o_tup, o_lst, o_clo, o_own, u_int, u_bl, u_non, u_str, u_glo, u_tup, u_lst, u_clo, u_own, own0, ownS, free_S, free_0, free_n, dAdd_int, dSub_int, bLt_int, bLe_int, bGt_int, bGe_int, bEq_int, bEq_bl, bEq_str, bNe_int, bNe_bl, bNe_str, dLen_lst, dLen_tup, dTup_lst, dTup_tup, x_noOwn0, x_noOwn1, okSlot_some, okSlot_n, okSlot_nn, putTup_tup, wipeD, backD, dLen, dMax, dMin, f2I, h, b]
    refine Rets.seq (I := fun sd => ∃ o2 o3 o4 o5 o6 o7, sd = S10 script o2 o3 o4 o5 o6 o7) (Goes.for_ hm2 (Goes.inv ⟨_, _, _, _, _, _, rfl⟩ fun d hd sd ⟨o2, o3, o4, o5, o6, o7, e⟩ => ?_)) fun sd1 ⟨o2, o3, o4, o5, o6, o7, e1⟩ => ?_
    · subst e
      obtain ⟨k, hk, rfl⟩ := List.mem_map.mp hd
      obtain ⟨k0, k1⟩ := upto_mem hk
      refine ⟨S10 script (some (.int k)) o3 o4 o5 o6 o7, by simp [x_B, bR_ok, bR_exc, bR_bad, x_BS, bF_ok, bF_exc, bF_bad, x_R, x_O, oR_some, oR_none, x_Var, varR_some, x_Peek, peekR_some, x_C, x_Lst, x_Cons, x_Seq, seqR_nx, seqR_rt, seqR_rf, seqR_exc, seqR_bad, x_Next, x_Ret, x_RetF, x_Drop, x_If, x_Set, x_Put, nxR_some, nxR_none, x_put, x_putO, x_PutO, x_SetO, x_Bin, x_BinF, x_Bin2, x_Cmp, x_CmpV, x_Tst, tstK_bl, x_NotT, x_AndT, x_OrT, x_AndV, andK_t, andK_f, x_NotV, notK_bl, x_IfE, x_Un, unK_int, x_Chain, x_ChainV, x_Fn, x_App, ifS_some, appK_some, x_PutIx, pixK_int, pixJ_some, x_Call, x_CallF, callR_ok, callR_exc, callR_bad, x_CallM, callM1_some, callM2_ok, x_Asg, x_Par, parK_some, x_ParO, x_Wh, x_For, x_Src, i_lst, i_tup, x_Rng1, rngK_int, x_RevT, revT_tup, x_Comp, compK_ok, x_CallLam, lamK_some, lamK2_ok, x_CallV, o_int, o_bl, o_non, o_str, o_glo, o_tup, o_lst, o_clo, o_own, u_int, u_bl, u_non, u_str, u_glo, u_tup, u_lst, u_clo, u_own, own0, ownS, free_S, free_0, free_n, dAdd_int, dSub_int, bLt_int, bLe_int, bGt_int, bGe_int, bEq_int, bEq_bl, bEq_str, bNe_int, bNe_bl, bNe_str, dLen_lst, dLen_tup, dTup_lst, dTup_tup, x_noOwn0, x_noOwn1, okSlot_some, okSlot_n, okSlot_nn, putTup_tup, wipeD, backD], ?_⟩
      obtain ⟨as, va, hv⟩ := vat_ok ns k k0 (by omega) hb
      rw [hs] at va
      refine Goes.seq (I := fun sd => sd = S10 script (some (.int k)) (some (.own as)) o4 o5 o6 o7) (Goes.of _ ?_ rfl) fun sd e => ?_
      · simp [x_B, bR_ok, bR_exc, bR_bad, x_BS, bF_ok, bF_exc, bF_bad, x_R, x_O, oR_some, oR_none, x_Var, varR_some, x_Peek, peekR_some, x_C, x_Lst, x_Cons, x_Seq, seqR_nx, seqR_rt, seqR_rf, seqR_exc, seqR_bad, x_Next, x_Ret, x_RetF, x_Drop, x_If, x_Set, x_Put, nxR_some, nxR_none, x_put, x_putO, x_PutO, x_SetO, x_Bin, x_BinF, x_Bin2, x_Cmp, x_CmpV, x_Tst, tstK_bl, x_NotT, x_AndT, x_OrT, x_AndV, andK_t, andK_f, x_NotV, notK_bl, x_IfE, x_Un, unK_int, x_Chain, x_ChainV, x_Fn, x_App, ifS_some, appK_some, x_PutIx, pixK_int, pixJ_some, x_Call, x_CallF, callR_ok, callR_exc, callR_bad, x_CallM, callM1_some, callM2_ok, x_Asg, x_Par, parK_some, x_ParO, x_Wh, x_For, x_Src, i_lst, i_tup, x_Rng1, rngK_int, x_RevT, revT_tup, x_Comp, compK_ok, x_CallLam, lamK_some, lamK2_ok, x_CallV, o_int, o_bl, o_non, o_str, o_glo, o_tup, o_lst, o_clo, o_own, u_int, u_bl, u_non, u_str, u_glo, u_tup, u_lst, u_clo, u_own, own0, ownS, free_S, free_0, free_n, dAdd_int, dSub_int, bLt_int, bLe_int, bGt_int, bGe_int, bEq_int, bEq_bl, bEq_str, bNe_int, bNe_bl, bNe_str, dLen_lst, dLen_tup, dTup_lst, dTup_tup, x_noOwn0, x_noOwn1, okSlot_some, okSlot_n, okSlot_nn, putTup_tup, wipeD, backD, hsc, va]
      subst e
      refine Goes.seq (I := fun sd => ∃ as' o4' cs, VatOk as' ∧ GoodP cs ∧ sd = S10 script (some (.int k)) (some (.own as')) o4' (some (tI cs)) o6 o7) ?_ fun sd e => ?_
      · have h5 : mRng1 (mC (.int 5)) (S10 script (some (.int k)) (some (.own as)) o4 o5 o6 o7) = .ok ((upto 5).map D.int, S10 script (some (.int k)) (some (.own as)) o4 o5 o6 o7) := by simp [x_B, bR_ok, bR_exc, bR_bad, x_BS, bF_ok, bF_exc, bF_bad, x_R, x_O, oR_some, oR_none, x_Var, varR_some, x_Peek, peekR_some, x_C, x_Lst, x_Cons, x_Seq, seqR_nx, seqR_rt, seqR_rf, seqR_exc, seqR_bad, x_Next, x_Ret, x_RetF, x_Drop, x_If, x_Set, x_Put, nxR_some, nxR_none, x_put, x_putO, x_PutO, x_SetO, x_Bin, x_BinF, x_Bin2, x_Cmp, x_CmpV, x_Tst, tstK_bl, x_NotT, x_AndT, x_OrT, x_AndV, andK_t, andK_f, x_NotV, notK_bl, x_IfE, x_Un, unK_int, x_Chain, x_ChainV, x_Fn, x_App, ifS_some, appK_some, x_PutIx, pixK_int, pixJ_some, x_Call, x_CallF, callR_ok, callR_exc, callR_bad, x_CallM, callM1_some, callM2_ok, x_Asg, x_Par, parK_some, x_ParO, x_Wh, x_For, x_Src, i_lst, i_tup, x_Rng1, rngK_int, x_RevT, revT_tup, x_Comp, compK_ok, x_CallLam, lamK_some, lamK2_ok, x_CallV, o_int, o_bl, o_non, o_str, o_glo, o_tup, o_lst, o_clo, o_own, u_int, u_bl, u_non, u_str, u_glo, u_tup, u_lst, u_clo, u_own, own0, ownS, free_S, free_0, free_n, dAdd_int, dSub_int, bLt_int, bLe_int, bGt_int, bGe_int, bEq_int, bEq_bl, bEq_str, bNe_int, bNe_bl, bNe_str, dLen_lst, dLen_tup, dTup_lst, dTup_tup, x_noOwn0, x_noOwn1, okSlot_some, okSlot_n, okSlot_nn, putTup_tup, wipeD, backD]
        refine Goes.for_ h5 ?_
        have u5 : (upto 5).map D.int = .int 0 :: [.int 1, .int 2, .int 3, .int 4] := rfl
        rw [u5]
        refine Goes.cons (sd2 := S10 script (some (.int k)) (some (.own as)) (some (.int 0)) o5 o6 o7) (by simp [x_B, bR_ok, bR_exc, bR_bad, x_BS, bF_ok, bF_exc, bF_bad, x_R, x_O, oR_some, oR_none, x_Var, varR_some, x_Peek, peekR_some, x_C, x_Lst, x_Cons, x_Seq, seqR_nx, seqR_rt, seqR_rf, seqR_exc, seqR_bad, x_Next, x_Ret, x_RetF, x_Drop, x_If, x_Set, x_Put, nxR_some, nxR_none, x_put, x_putO, x_PutO, x_SetO, x_Bin, x_BinF, x_Bin2, x_Cmp, x_CmpV, x_Tst, tstK_bl, x_NotT, x_AndT, x_OrT, x_AndV, andK_t, andK_f, x_NotV, notK_bl, x_IfE, x_Un, unK_int, x_Chain, x_ChainV, x_Fn, x_App, ifS_some, appK_some, x_PutIx, pixK_int, pixJ_some, x_Call, x_CallF, callR_ok, callR_exc, callR_bad, x_CallM, callM1_some, callM2_ok, x_Asg, x_Par, parK_some, x_ParO, x_Wh, x_For, x_Src, i_lst, i_tup, x_Rng1, rngK_int, x_RevT, revT_tup, x_Comp, compK_ok, x_CallLam, lamK_some, lamK2_ok, x_CallV, o_int, o_bl, o_non, o_str, o_glo, o_tup, o_lst, o_clo, o_own, u_int, u_bl, u_non, u_str, u_glo, u_tup, u_lst, u_clo, u_own, own0, ownS, free_S, free_0, free_n, dAdd_int, dSub_int, bLt_int, bLe_int, bGt_int, bGe_int, bEq_int, bEq_bl, bEq_str, bNe_int, bNe_bl, bNe_str, dLen_lst, dLen_tup, dTup_lst, dTup_tup, x_noOwn0, x_noOwn1, okSlot_some, okSlot_n, okSlot_nn, putTup_tup, wipeD, backD]) (poly_turn script _ _ _ _ as hv o4 o5) fun sd e => Goes.inv e fun d hd sd ⟨a', o4', cs, v', g', e⟩ => ?_
        subst e
        obtain ⟨i, rfl⟩ : ∃ i, d = .int i := by
          simp only [List.mem_cons, List.not_mem_nil, or_false] at hd
          rcases hd with rfl | rfl | rfl | rfl <;> exact ⟨_, rfl⟩
        exact ⟨S10 script (some (.int k)) (some (.own a')) (some (.int i)) (some (tI cs)) o6 o7, by simp [x_B, bR_ok, bR_exc, bR_bad, x_BS, bF_ok, bF_exc, bF_bad, x_R, x_O, oR_some, oR_none, x_Var, varR_some, x_Peek, peekR_some, x_C, x_Lst, x_Cons, x_Seq, seqR_nx, seqR_rt, seqR_rf, seqR_exc, seqR_bad, x_Next, x_Ret, x_RetF, x_Drop, x_If, x_Set, x_Put, nxR_some, nxR_none, x_put, x_putO, x_PutO, x_SetO, x_Bin, x_BinF, x_Bin2, x_Cmp, x_CmpV, x_Tst, tstK_bl, x_NotT, x_AndT, x_OrT, x_AndV, andK_t, andK_f, x_NotV, notK_bl, x_IfE, x_Un, unK_int, x_Chain, x_ChainV, x_Fn, x_App, ifS_some, appK_some, x_PutIx, pixK_int, pixJ_some, x_Call, x_CallF, callR_ok, callR_exc, callR_bad, x_CallM, callM1_some, callM2_ok, x_Asg, x_Par, parK_some, x_ParO, x_Wh, x_For, x_Src, i_lst, i_tup, x_Rng1, rngK_int, x_RevT, revT_tup, x_Comp, compK_ok, x_CallLam, lamK_some, lamK2_ok, x_CallV, o_int, o_bl, o_non, o_str, o_glo, o_tup, o_lst, o_clo, o_own, u_int, u_bl, u_non, u_str, u_glo, u_tup, u_lst, u_clo, u_own, own0, ownS, free_S, free_0, free_n, dAdd_int, dSub_int, bLt_int, bLe_int, bGt_int, bGe_int, bEq_int, bEq_bl, bEq_str, bNe_int, bNe_bl, bNe_str, dLen_lst, dLen_tup, dTup_lst, dTup_tup, x_noOwn0, x_noOwn1, okSlot_some, okSlot_n, okSlot_nn, putTup_tup, wipeD, backD], poly_turn script _ _ _ _ a' v' o4' _⟩
      obtain ⟨a1, p4, cs, v1, hg, rfl⟩ := e
      refine Goes.seq (far_ok script _ _ _ _ _ a1 v1) fun sd ⟨a2, fs, v2, hf, e⟩ => ?_
      subst e
      obtain ⟨a3, p3, v3⟩ := law_right_ok a2 v2 fs hf
      refine Goes.seq (I := fun sd => sd = S10 script (some (.int k)) (some (.own a3)) p4 (some (tI cs)) (some (tI fs)) o7) (Goes.ifF (sd1 := S10 script (some (.int k)) (some (.own a3)) p4 (some (tI cs)) (some (tI fs)) o7) ?_ rfl) fun sd e => ?_
      · simp [x_B, bR_ok, bR_exc, bR_bad, x_BS, bF_ok, bF_exc, bF_bad, x_R, x_O, oR_some, oR_none, x_Var, varR_some, x_Peek, peekR_some, x_C, x_Lst, x_Cons, x_Seq, seqR_nx, seqR_rt, seqR_rf, seqR_exc, seqR_bad, x_Next, x_Ret, x_RetF, x_Drop, x_If, x_Set, x_Put, nxR_some, nxR_none, x_put, x_putO, x_PutO, x_SetO, x_Bin, x_BinF, x_Bin2, x_Cmp, x_CmpV, x_Tst, tstK_bl, x_NotT, x_AndT, x_OrT, x_AndV, andK_t, andK_f, x_NotV, notK_bl, x_IfE, x_Un, unK_int, x_Chain, x_ChainV, x_Fn, x_App, ifS_some, appK_some, x_PutIx, pixK_int, pixJ_some, x_Call, x_CallF, callR_ok, callR_exc, callR_bad, x_CallM, callM1_some, callM2_ok, x_Asg, x_Par, parK_some, x_ParO, x_Wh, x_For, x_Src, i_lst, i_tup, x_Rng1, rngK_int, x_RevT, revT_tup, x_Comp, compK_ok, x_CallLam, lamK_some, lamK2_ok, x_CallV, o_int, o_bl, o_non, o_str, o_glo, o_tup, o_lst, o_clo, o_own, u_int, u_bl, u_non, u_str, u_glo, u_tup, u_lst, u_clo, u_own, own0, ownS, free_S, free_0, free_n, dAdd_int, dSub_int, bLt_int, bLe_int, bGt_int, bGe_int, bEq_int, bEq_bl, bEq_str, bNe_int, bNe_bl, bNe_str, dLen_lst, dLen_tup, dTup_lst, dTup_tup, x_noOwn0, x_noOwn1, okSlot_some, okSlot_n, okSlot_nn, putTup_tup, wipeD, backD, p3]
      subst e
      refine Goes.seq (I := fun sd => sd = S10 script (some (.int k)) (some (.own a3)) p4 (some (tI cs)) (some (tI fs)) (some (.glo "poly_all_words"))) ?_ fun sd e => ?_
      · refine Goes.for_ (ds := [.glo "poly_one_to_one", .glo "poly_all_words"]) (sd1 := S10 script (some (.int k)) (some (.own a3)) p4 (some (tI cs)) (some (tI fs)) o7) (by simp [x_B, bR_ok, bR_exc, bR_bad, x_BS, bF_ok, bF_exc, bF_bad, x_R, x_O, oR_some, oR_none, x_Var, varR_some, x_Peek, peekR_some, x_C, x_Lst, x_Cons, x_Seq, seqR_nx, seqR_rt, seqR_rf, seqR_exc, seqR_bad, x_Next, x_Ret, x_RetF, x_Drop, x_If, x_Set, x_Put, nxR_some, nxR_none, x_put, x_putO, x_PutO, x_SetO, x_Bin, x_BinF, x_Bin2, x_Cmp, x_CmpV, x_Tst, tstK_bl, x_NotT, x_AndT, x_OrT, x_AndV, andK_t, andK_f, x_NotV, notK_bl, x_IfE, x_Un, unK_int, x_Chain, x_ChainV, x_Fn, x_App, ifS_some, appK_some, x_PutIx, pixK_int, pixJ_some, x_Call, x_CallF, callR_ok, callR_exc, callR_bad, x_CallM, callM1_some, callM2_ok, x_Asg, x_Par, parK_some, x_ParO, x_Wh, x_For, x_Src, i_lst, i_tup, x_Rng1, rngK_int, x_RevT, revT_tup, x_Comp, compK_ok, x_CallLam, lamK_some, lamK2_ok, x_CallV, o_int, o_bl, o_non, o_str, o_glo, o_tup, o_lst, o_clo, o_own, u_int, u_bl, u_non, u_str, u_glo, u_tup, u_lst, u_clo, u_own, own0, ownS, free_S, free_0, free_n, dAdd_int, dSub_int, bLt_int, bLe_int, bGt_int, bGe_int, bEq_int, bEq_bl, bEq_str, bNe_int, bNe_bl, bNe_str, dLen_lst, dLen_tup, dTup_lst, dTup_tup, x_noOwn0, x_noOwn1, okSlot_some, okSlot_n, okSlot_nn, putTup_tup, wipeD, backD]) ?_
        refine Goes.cons (sd2 := S10 script (some (.int k)) (some (.own a3)) p4 (some (tI cs)) (some (tI fs)) (some (.glo "poly_one_to_one"))) (by simp [x_B, bR_ok, bR_exc, bR_bad, x_BS, bF_ok, bF_exc, bF_bad, x_R, x_O, oR_some, oR_none, x_Var, varR_some, x_Peek, peekR_some, x_C, x_Lst, x_Cons, x_Seq, seqR_nx, seqR_rt, seqR_rf, seqR_exc, seqR_bad, x_Next, x_Ret, x_RetF, x_Drop, x_If, x_Set, x_Put, nxR_some, nxR_none, x_put, x_putO, x_PutO, x_SetO, x_Bin, x_BinF, x_Bin2, x_Cmp, x_CmpV, x_Tst, tstK_bl, x_NotT, x_AndT, x_OrT, x_AndV, andK_t, andK_f, x_NotV, notK_bl, x_IfE, x_Un, unK_int, x_Chain, x_ChainV, x_Fn, x_App, ifS_some, appK_some, x_PutIx, pixK_int, pixJ_some, x_Call, x_CallF, callR_ok, callR_exc, callR_bad, x_CallM, callM1_some, callM2_ok, x_Asg, x_Par, parK_some, x_ParO, x_Wh, x_For, x_Src, i_lst, i_tup, x_Rng1, rngK_int, x_RevT, revT_tup, x_Comp, compK_ok, x_CallLam, lamK_some, lamK2_ok, x_CallV, o_int, o_bl, o_non, o_str, o_glo, o_tup, o_lst, o_clo, o_own, u_int, u_bl, u_non, u_str, u_glo, u_tup, u_lst, u_clo, u_own, own0, ownS, free_S, free_0, free_n, dAdd_int, dSub_int, bLt_int, bLe_int, bGt_int, bGe_int, bEq_int, bEq_bl, bEq_str, bNe_int, bNe_bl, bNe_str, dLen_lst, dLen_tup, dTup_lst, dTup_tup, x_noOwn0, x_noOwn1, okSlot_some, okSlot_n, okSlot_nn, putTup_tup, wipeD, backD]) (Goes.ifF (I := fun sd => sd = S10 script (some (.int k)) (some (.own a3)) p4 (some (tI cs)) (some (tI fs)) (some (.glo "poly_one_to_one"))) (sd1 := S10 script (some (.int k)) (some (.own a3)) p4 (some (tI cs)) (some (tI fs)) (some (.glo "poly_one_to_one"))) ?_ rfl) fun sd e => ?_
        · have r := refused_one
          simp [x_B, bR_ok, bR_exc, bR_bad, x_BS, bF_ok, bF_exc, bF_bad, x_R, x_O, oR_some, oR_none, x_Var, varR_some, x_Peek, peekR_some, x_C, x_Lst, x_Cons, x_Seq, seqR_nx, seqR_rt, seqR_rf, seqR_exc, seqR_bad, x_Next, x_Ret, x_RetF, x_Drop, x_If, x_Set, x_Put, nxR_some, nxR_none, x_put, x_putO, x_PutO, x_SetO, x_Bin, x_BinF, x_Bin2, x_Cmp, x_CmpV, x_Tst, tstK_bl, x_NotT, x_AndT, x_OrT, x_AndV, andK_t, andK_f, x_NotV, notK_bl, x_IfE, x_Un, unK_int, x_Chain, x_ChainV, x_Fn, x_App, ifS_some, appK_some, x_PutIx, pixK_int, pixJ_some, x_Call, x_CallF, callR_ok, callR_exc, callR_bad, x_CallM, callM1_some, callM2_ok, x_Asg, x_Par, parK_some, x_ParO, x_Wh, x_For, x_Src, i_lst, i_tup, x_Rng1, rngK_int, x_RevT, revT_tup, x_Comp, compK_ok, x_CallLam, lamK_some, lamK2_ok, x_CallV, o_int, o_bl, o_non, o_str, o_glo, o_tup, o_lst, o_clo, o_own, u_int, u_bl, u_non, u_str, u_glo, u_tup, u_lst, u_clo, u_own, own0, ownS, free_S, free_0, free_n, dAdd_int, dSub_int, bLt_int, bLe_int, bGt_int, bGe_int, bEq_int, bEq_bl, bEq_str, bNe_int, bNe_bl, bNe_str, dLen_lst, dLen_tup, dTup_lst, dTup_tup, x_noOwn0, x_noOwn1, okSlot_some, okSlot_n, okSlot_nn, putTup_tup, wipeD, backD, r]
        subst e
        refine Goes.cons (sd2 := S10 script (some (.int k)) (some (.own a3)) p4 (some (tI cs)) (some (tI fs)) (some (.glo "poly_all_words"))) (by simp [x_B, bR_ok, bR_exc, bR_bad, x_BS, bF_ok, bF_exc, bF_bad, x_R, x_O, oR_some, oR_none, x_Var, varR_some, x_Peek, peekR_some, x_C, x_Lst, x_Cons, x_Seq, seqR_nx, seqR_rt, seqR_rf, seqR_exc, seqR_bad, x_Next, x_Ret, x_RetF, x_Drop, x_If, x_Set, x_Put, nxR_some, nxR_none, x_put, x_putO, x_PutO, x_SetO, x_Bin, x_BinF, x_Bin2, x_Cmp, x_CmpV, x_Tst, tstK_bl, x_NotT, x_AndT, x_OrT, x_AndV, andK_t, andK_f, x_NotV, notK_bl, x_IfE, x_Un, unK_int, x_Chain, x_ChainV, x_Fn, x_App, ifS_some, appK_some, x_PutIx, pixK_int, pixJ_some, x_Call, x_CallF, callR_ok, callR_exc, callR_bad, x_CallM, callM1_some, callM2_ok, x_Asg, x_Par, parK_some, x_ParO, x_Wh, x_For, x_Src, i_lst, i_tup, x_Rng1, rngK_int, x_RevT, revT_tup, x_Comp, compK_ok, x_CallLam, lamK_some, lamK2_ok, x_CallV, o_int, o_bl, o_non, o_str, o_glo, o_tup, o_lst, o_clo, o_own, u_int, u_bl, u_non, u_str, u_glo, u_tup, u_lst, u_clo, u_own, own0, ownS, free_S, free_0, free_n, dAdd_int, dSub_int, bLt_int, bLe_int, bGt_int, bGe_int, bEq_int, bEq_bl, bEq_str, bNe_int, bNe_bl, bNe_str, dLen_lst, dLen_tup, dTup_lst, dTup_tup, x_noOwn0, x_noOwn1, okSlot_some, okSlot_n, okSlot_nn, putTup_tup, wipeD, backD]) (Goes.ifF (I := fun sd => sd = S10 script (some (.int k)) (some (.own a3)) p4 (some (tI cs)) (some (tI fs)) (some (.glo "poly_all_words"))) (sd1 := S10 script (some (.int k)) (some (.own a3)) p4 (some (tI cs)) (some (tI fs)) (some (.glo "poly_all_words"))) ?_ rfl) fun sd e => Goes.nil e
        have r := refused_all
        simp [x_B, bR_ok, bR_exc, bR_bad, x_BS, bF_ok, bF_exc, bF_bad, x_R, x_O, oR_some, oR_none, x_Var, varR_some, x_Peek, peekR_some, x_C, x_Lst, x_Cons, x_Seq, seqR_nx, seqR_rt, seqR_rf, seqR_exc, seqR_bad, x_Next, x_Ret, x_RetF, x_Drop, x_If, x_Set, x_Put, nxR_some, nxR_none, x_put, x_putO, x_PutO, x_SetO, x_Bin, x_BinF, x_Bin2, x_Cmp, x_CmpV, x_Tst, tstK_bl, x_NotT, x_AndT, x_OrT, x_AndV, andK_t, andK_f, x_NotV, notK_bl, x_IfE, x_Un, unK_int, x_Chain, x_ChainV, x_Fn, x_App, ifS_some, appK_some, x_PutIx, pixK_int, pixJ_some, x_Call, x_CallF, callR_ok, callR_exc, callR_bad, x_CallM, callM1_some, callM2_ok, x_Asg, x_Par, parK_some, x_ParO, x_Wh, x_For, x_Src, i_lst, i_tup, x_Rng1, rngK_int, x_RevT, revT_tup, x_Comp, compK_ok, x_CallLam, lamK_some, lamK2_ok, x_CallV, o_int, o_bl, o_non, o_str, o_glo, o_tup, o_lst, o_clo, o_own, u_int, u_bl, u_non, u_str, u_glo, u_tup, u_lst, u_clo, u_own, own0, ownS, free_S, free_0, free_n, dAdd_int, dSub_int, bLt_int, bLe_int, bGt_int, bGe_int, bEq_int, bEq_bl, bEq_str, bNe_int, bNe_bl, bNe_str, dLen_lst, dLen_tup, dTup_lst, dTup_tup, x_noOwn0, x_noOwn1, okSlot_some, okSlot_n, okSlot_nn, putTup_tup, wipeD, backD, r]
      subst e
      refine Goes.seq (I := fun sd => sd = S10 script (some (.int k)) (some (.own a3)) p4 (some (tI cs)) (some (tI fs)) (some (.glo "poly_all_words"))) (Goes.ifF (sd1 := S10 script (some (.int k)) (some (.own a3)) p4 (some (tI cs)) (some (tI fs)) (some (.glo "poly_all_words"))) ?_ rfl) fun sd e => ?_
      · have r := refused_l1
        simp [x_B, bR_ok, bR_exc, bR_bad, x_BS, bF_ok, bF_exc, bF_bad, x_R, x_O, oR_some, oR_none, x_Var, varR_some, x_Peek, peekR_some, x_C, x_Lst, x_Cons, x_Seq, seqR_nx, seqR_rt, seqR_rf, seqR_exc, seqR_bad, x_Next, x_Ret, x_RetF, x_Drop, x_If, x_Set, x_Put, nxR_some, nxR_none, x_put, x_putO, x_PutO, x_SetO, x_Bin, x_BinF, x_Bin2, x_Cmp, x_CmpV, x_Tst, tstK_bl, x_NotT, x_AndT, x_OrT, x_AndV, andK_t, andK_f, x_NotV, notK_bl, x_IfE, x_Un, unK_int, x_Chain, x_ChainV, x_Fn, x_App, ifS_some, appK_some, x_PutIx, pixK_int, pixJ_some, x_Call, x_CallF, callR_ok, callR_exc, callR_bad, x_CallM, callM1_some, callM2_ok, x_Asg, x_Par, parK_some, x_ParO, x_Wh, x_For, x_Src, i_lst, i_tup, x_Rng1, rngK_int, x_RevT, revT_tup, x_Comp, compK_ok, x_CallLam, lamK_some, lamK2_ok, x_CallV, o_int, o_bl, o_non, o_str, o_glo, o_tup, o_lst, o_clo, o_own, u_int, u_bl, u_non, u_str, u_glo, u_tup, u_lst, u_clo, u_own, own0, ownS, free_S, free_0, free_n, dAdd_int, dSub_int, bLt_int, bLe_int, bGt_int, bGe_int, bEq_int, bEq_bl, bEq_str, bNe_int, bNe_bl, bNe_str, dLen_lst, dLen_tup, dTup_lst, dTup_tup, x_noOwn0, x_noOwn1, okSlot_some, okSlot_n, okSlot_nn, putTup_tup, wipeD, backD, slotsD, r, noClo]
      subst e
      refine Goes.seq (I := fun sd => sd = S10 script (some (.int k)) (some (.own a3)) p4 (some (tI cs)) (some (tI fs)) (some (.glo "poly_all_words"))) (Goes.ifF (sd1 := S10 script (some (.int k)) (some (.own a3)) p4 (some (tI cs)) (some (tI fs)) (some (.glo "poly_all_words"))) ?_ rfl) fun sd e => ?_
      · have r := refused_l2 cs hg
        have w : g__law_bad_widths [.int 64] = .ok oddW := by kernel_rfl
        simp [x_B, bR_ok, bR_exc, bR_bad, x_BS, bF_ok, bF_exc, bF_bad, x_R, x_O, oR_some, oR_none, x_Var, varR_some, x_Peek, peekR_some, x_C, x_Lst, x_Cons, x_Seq, seqR_nx, seqR_rt, seqR_rf, seqR_exc, seqR_bad, x_Next, x_Ret, x_RetF, x_Drop, x_If, x_Set, x_Put, nxR_some, nxR_none, x_put, x_putO, x_PutO, x_SetO, x_Bin, x_BinF, x_Bin2, x_Cmp, x_CmpV, x_Tst, tstK_bl, x_NotT, x_AndT, x_OrT, x_AndV, andK_t, andK_f, x_NotV, notK_bl, x_IfE, x_Un, unK_int, x_Chain, x_ChainV, x_Fn, x_App, ifS_some, appK_some, x_PutIx, pixK_int, pixJ_some, x_Call, x_CallF, callR_ok, callR_exc, callR_bad, x_CallM, callM1_some, callM2_ok, x_Asg, x_Par, parK_some, x_ParO, x_Wh, x_For, x_Src, i_lst, i_tup, x_Rng1, rngK_int, x_RevT, revT_tup, x_Comp, compK_ok, x_CallLam, lamK_some, lamK2_ok, x_CallV, o_int, o_bl, o_non, o_str, o_glo, o_tup, o_lst, o_clo, o_own, u_int, u_bl, u_non, u_str, u_glo, u_tup, u_lst, u_clo, u_own, own0, ownS, free_S, free_0, free_n, dAdd_int, dSub_int, bLt_int, bLe_int, bGt_int, bGe_int, bEq_int, bEq_bl, bEq_str, bNe_int, bNe_bl, bNe_str, dLen_lst, dLen_tup, dTup_lst, dTup_tup, x_noOwn0, x_noOwn1, okSlot_some, okSlot_n, okSlot_nn, putTup_tup, wipeD, backD, slotsD, r, w, noClo]
      subst e
      refine Goes.ifF (sd1 := S10 script (some (.int k)) (some (.own a3)) p4 (some (tI cs)) (some (tI fs)) (some (.glo "poly_all_words"))) ?_ ⟨_, _, _, _, _, _, rfl⟩
      have r := refused_l3 cs hg
      have w : g__law_bad_words [.int 4] = .ok oddV := by kernel_rfl
      simp [x_B, bR_ok, bR_exc, bR_bad, x_BS, bF_ok, bF_exc, bF_bad, x_R, x_O, oR_some, oR_none, x_Var, varR_some, x_Peek, peekR_some, x_C, x_Lst, x_Cons, x_Seq, seqR_nx, seqR_rt, seqR_rf, seqR_exc, seqR_bad, x_Next, x_Ret, x_RetF, x_Drop, x_If, x_Set, x_Put, nxR_some, nxR_none, x_put, x_putO, x_PutO, x_SetO, x_Bin, x_BinF, x_Bin2, x_Cmp, x_CmpV, x_Tst, tstK_bl, x_NotT, x_AndT, x_OrT, x_AndV, andK_t, andK_f, x_NotV, notK_bl, x_IfE, x_Un, unK_int, x_Chain, x_ChainV, x_Fn, x_App, ifS_some, appK_some, x_PutIx, pixK_int, pixJ_some, x_Call, x_CallF, callR_ok, callR_exc, callR_bad, x_CallM, callM1_some, callM2_ok, x_Asg, x_Par, parK_some, x_ParO, x_Wh, x_For, x_Src, i_lst, i_tup, x_Rng1, rngK_int, x_RevT, revT_tup, x_Comp, compK_ok, x_CallLam, lamK_some, lamK2_ok, x_CallV, o_int, o_bl, o_non, o_str, o_glo, o_tup, o_lst, o_clo, o_own, u_int, u_bl, u_non, u_str, u_glo, u_tup, u_lst, u_clo, u_own, own0, ownS, free_S, free_0, free_n, dAdd_int, dSub_int, bLt_int, bLe_int, bGt_int, bGe_int, bEq_int, bEq_bl, bEq_str, bNe_int, bNe_bl, bNe_str, dLen_lst, dLen_tup, dTup_lst, dTup_tup, x_noOwn0, x_noOwn1, okSlot_some, okSlot_n, okSlot_nn, putTup_tup, wipeD, backD, slotsD, r, w, noClo]
    subst e1
    refine Rets.seq (I := fun sd => sd = S10 script o2 o3 o4 o5 o6 o7) (Goes.ifF (sd1 := S10 script o2 o3 o4 o5 o6 o7) ?_ rfl) fun sd e => ?_
    · have c := compL_none (asg := put 9) (mt := mCmp bIsNotC (mCall g_is_poly (mCons (mVar 9) (mR []))) (mC (.bl false))) (me := mVar 9) (vs := [9]) (S10 script o2 o3 o4 o5 o6 o7) oddP [] (fun d hd => by
        obtain ⟨o, b⟩ := bad_poly d hd
        have e : g_is_poly [d] = .ok (.bl false) := by
          simp [g_is_poly, m_is_poly, runD, startD, x_B, bR_ok, bR_exc, bR_bad, x_BS, bF_ok, bF_exc, bF_bad, x_R, x_O, oR_some, oR_none, x_Var, varR_some, x_Peek, peekR_some, x_C, x_Lst, x_Cons, x_Seq, seqR_nx, seqR_rt, seqR_rf, seqR_exc, seqR_bad, x_Next, x_Ret, x_RetF, x_Drop, x_If, x_Set, x_Put, nxR_some, nxR_none, x_put, x_putO, x_PutO, x_SetO, x_Bin, x_BinF, x_Bin2, x_Cmp, x_CmpV, x_Tst, tstK_bl, x_NotT, x_AndT, x_OrT, x_AndV, andK_t, andK_f, x_NotV, notK_bl, x_IfE, x_Un, unK_int, x_Chain, x_ChainV, x_Fn, x_App, ifS_some, appK_some, x_PutIx, pixK_int, pixJ_some, x_Call, x_CallF, callR_ok, callR_exc, callR_bad, x_CallM, callM1_some, callM2_ok, x_Asg, x_Par, parK_some, x_ParO, x_Wh, x_For, x_Src, i_lst, i_tup, x_Rng1, rngK_int, x_RevT, revT_tup, x_Comp, compK_ok, x_CallLam, lamK_some, lamK2_ok, x_CallV, o_int, o_bl, o_non, o_str, o_glo, o_tup, o_lst, o_clo, o_own, u_int, u_bl, u_non, u_str, u_glo, u_tup, u_lst, u_clo, u_own, own0, ownS, free_S, free_0, free_n, dAdd_int, dSub_int, bLt_int, bLe_int, bGt_int, bGe_int, bEq_int, bEq_bl, bEq_str, bNe_int, bNe_bl, bNe_str, dLen_lst, dLen_tup, dTup_lst, dTup_tup, x_noOwn0, x_noOwn1, okSlot_some, okSlot_n, okSlot_nn, putTup_tup, wipeD, backD, o, b]
        refine ⟨[some script, some (.lst oddP), o2, o3, o4, o5, o6, o7, none, some d], [some script, some (.lst oddP), o2, o3, o4, o5, o6, o7, none, some d], by simp [x_B, bR_ok, bR_exc, bR_bad, x_BS, bF_ok, bF_exc, bF_bad, x_R, x_O, oR_some, oR_none, x_Var, varR_some, x_Peek, peekR_some, x_C, x_Lst, x_Cons, x_Seq, seqR_nx, seqR_rt, seqR_rf, seqR_exc, seqR_bad, x_Next, x_Ret, x_RetF, x_Drop, x_If, x_Set, x_Put, nxR_some, nxR_none, x_put, x_putO, x_PutO, x_SetO, x_Bin, x_BinF, x_Bin2, x_Cmp, x_CmpV, x_Tst, tstK_bl, x_NotT, x_AndT, x_OrT, x_AndV, andK_t, andK_f, x_NotV, notK_bl, x_IfE, x_Un, unK_int, x_Chain, x_ChainV, x_Fn, x_App, ifS_some, appK_some, x_PutIx, pixK_int, pixJ_some, x_Call, x_CallF, callR_ok, callR_exc, callR_bad, x_CallM, callM1_some, callM2_ok, x_Asg, x_Par, parK_some, x_ParO, x_Wh, x_For, x_Src, i_lst, i_tup, x_Rng1, rngK_int, x_RevT, revT_tup, x_Comp, compK_ok, x_CallLam, lamK_some, lamK2_ok, x_CallV, o_int, o_bl, o_non, o_str, o_glo, o_tup, o_lst, o_clo, o_own, u_int, u_bl, u_non, u_str, u_glo, u_tup, u_lst, u_clo, u_own, own0, ownS, free_S, free_0, free_n, dAdd_int, dSub_int, bLt_int, bLe_int, bGt_int, bGe_int, bEq_int, bEq_bl, bEq_str, bNe_int, bNe_bl, bNe_str, dLen_lst, dLen_tup, dTup_lst, dTup_tup, x_noOwn0, x_noOwn1, okSlot_some, okSlot_n, okSlot_nn, putTup_tup, wipeD, backD, o], by simp [x_B, bR_ok, bR_exc, bR_bad, x_BS, bF_ok, bF_exc, bF_bad, x_R, x_O, oR_some, oR_none, x_Var, varR_some, x_Peek, peekR_some, x_C, x_Lst, x_Cons, x_Seq, seqR_nx, seqR_rt, seqR_rf, seqR_exc, seqR_bad, x_Next, x_Ret, x_RetF, x_Drop, x_If, x_Set, x_Put, nxR_some, nxR_none, x_put, x_putO, x_PutO, x_SetO, x_Bin, x_BinF, x_Bin2, x_Cmp, x_CmpV, x_Tst, tstK_bl, x_NotT, x_AndT, x_OrT, x_AndV, andK_t, andK_f, x_NotV, notK_bl, x_IfE, x_Un, unK_int, x_Chain, x_ChainV, x_Fn, x_App, ifS_some, appK_some, x_PutIx, pixK_int, pixJ_some, x_Call, x_CallF, callR_ok, callR_exc, callR_bad, x_CallM, callM1_some, callM2_ok, x_Asg, x_Par, parK_some, x_ParO, x_Wh, x_For, x_Src, i_lst, i_tup, x_Rng1, rngK_int, x_RevT, revT_tup, x_Comp, compK_ok, x_CallLam, lamK_some, lamK2_ok, x_CallV, o_int, o_bl, o_non, o_str, o_glo, o_tup, o_lst, o_clo, o_own, u_int, u_bl, u_non, u_str, u_glo, u_tup, u_lst, u_clo, u_own, own0, ownS, free_S, free_0, free_n, dAdd_int, dSub_int, bLt_int, bLe_int, bGt_int, bGe_int, bEq_int, bEq_bl, bEq_str, bNe_int, bNe_bl, bNe_str, dLen_lst, dLen_tup, dTup_lst, dTup_tup, x_noOwn0, x_noOwn1, okSlot_some, okSlot_n, okSlot_nn, putTup_tup, wipeD, backD, o, e, bIsNotC, bIsC, bIsN], by simp [x_B, bR_ok, bR_exc, bR_bad, x_BS, bF_ok, bF_exc, bF_bad, x_R, x_O, oR_some, oR_none, x_Var, varR_some, x_Peek, peekR_some, x_C, x_Lst, x_Cons, x_Seq, seqR_nx, seqR_rt, seqR_rf, seqR_exc, seqR_bad, x_Next, x_Ret, x_RetF, x_Drop, x_If, x_Set, x_Put, nxR_some, nxR_none, x_put, x_putO, x_PutO, x_SetO, x_Bin, x_BinF, x_Bin2, x_Cmp, x_CmpV, x_Tst, tstK_bl, x_NotT, x_AndT, x_OrT, x_AndV, andK_t, andK_f, x_NotV, notK_bl, x_IfE, x_Un, unK_int, x_Chain, x_ChainV, x_Fn, x_App, ifS_some, appK_some, x_PutIx, pixK_int, pixJ_some, x_Call, x_CallF, callR_ok, callR_exc, callR_bad, x_CallM, callM1_some, callM2_ok, x_Asg, x_Par, parK_some, x_ParO, x_Wh, x_For, x_Src, i_lst, i_tup, x_Rng1, rngK_int, x_RevT, revT_tup, x_Comp, compK_ok, x_CallLam, lamK_some, lamK2_ok, x_CallV, o_int, o_bl, o_non, o_str, o_glo, o_tup, o_lst, o_clo, o_own, u_int, u_bl, u_non, u_str, u_glo, u_tup, u_lst, u_clo, u_own, own0, ownS, free_S, free_0, free_n, dAdd_int, dSub_int, bLt_int, bLe_int, bGt_int, bGe_int, bEq_int, bEq_bl, bEq_str, bNe_int, bNe_bl, bNe_str, dLen_lst, dLen_tup, dTup_lst, dTup_tup, x_noOwn0, x_noOwn1, okSlot_some, okSlot_n, okSlot_nn, putTup_tup, wipeD, backD, o], by simp [x_B, bR_ok, bR_exc, bR_bad, x_BS, bF_ok, bF_exc, bF_bad, x_R, x_O, oR_some, oR_none, x_Var, varR_some, x_Peek, peekR_some, x_C, x_Lst, x_Cons, x_Seq, seqR_nx, seqR_rt, seqR_rf, seqR_exc, seqR_bad, x_Next, x_Ret, x_RetF, x_Drop, x_If, x_Set, x_Put, nxR_some, nxR_none, x_put, x_putO, x_PutO, x_SetO, x_Bin, x_BinF, x_Bin2, x_Cmp, x_CmpV, x_Tst, tstK_bl, x_NotT, x_AndT, x_OrT, x_AndV, andK_t, andK_f, x_NotV, notK_bl, x_IfE, x_Un, unK_int, x_Chain, x_ChainV, x_Fn, x_App, ifS_some, appK_some, x_PutIx, pixK_int, pixJ_some, x_Call, x_CallF, callR_ok, callR_exc, callR_bad, x_CallM, callM1_some, callM2_ok, x_Asg, x_Par, parK_some, x_ParO, x_Wh, x_For, x_Src, i_lst, i_tup, x_Rng1, rngK_int, x_RevT, revT_tup, x_Comp, compK_ok, x_CallLam, lamK_some, lamK2_ok, x_CallV, o_int, o_bl, o_non, o_str, o_glo, o_tup, o_lst, o_clo, o_own, u_int, u_bl, u_non, u_str, u_glo, u_tup, u_lst, u_clo, u_own, own0, ownS, free_S, free_0, free_n, dAdd_int, dSub_int, bLt_int, bLe_int, bGt_int, bGe_int, bEq_int, bEq_bl, bEq_str, bNe_int, bNe_bl, bNe_str, dLen_lst, dLen_tup, dTup_lst, dTup_tup, x_noOwn0, x_noOwn1, okSlot_some, okSlot_n, okSlot_nn, putTup_tup, wipeD, backD]⟩)
      have b0 : bNe (.lst []) (.lst []) = some false := by rfl
      have p : g_is_poly [.tup [.int 1, .int 2]] = .ok (.bl true) := by kernel_rfl
      simp [x_B, bR_ok, bR_exc, bR_bad, x_BS, bF_ok, bF_exc, bF_bad, x_R, x_O, oR_some, oR_none, x_Var, varR_some, x_Peek, peekR_some, x_C, x_Lst, x_Cons, x_Seq, seqR_nx, seqR_rt, seqR_rf, seqR_exc, seqR_bad, x_Next, x_Ret, x_RetF, x_Drop, x_If, x_Set, x_Put, nxR_some, nxR_none, x_put, x_putO, x_PutO, x_SetO, x_Bin, x_BinF, x_Bin2, x_Cmp, x_CmpV, x_Tst, tstK_bl, x_NotT, x_AndT, x_OrT, x_AndV, andK_t, andK_f, x_NotV, notK_bl, x_IfE, x_Un, unK_int, x_Chain, x_ChainV, x_Fn, x_App, ifS_some, appK_some, x_PutIx, pixK_int, pixJ_some, x_Call, x_CallF, callR_ok, callR_exc, callR_bad, x_CallM, callM1_some, callM2_ok, x_Asg, x_Par, parK_some, x_ParO, x_Wh, x_For, x_Src, i_lst, i_tup, x_Rng1, rngK_int, x_RevT, revT_tup, x_Comp, compK_ok, x_CallLam, lamK_some, lamK2_ok, x_CallV, o_int, o_bl, o_non, o_str, o_glo, o_tup, o_lst, o_clo, o_own, u_int, u_bl, u_non, u_str, u_glo, u_tup, u_lst, u_clo, u_own, own0, ownS, free_S, free_0, free_n, dAdd_int, dSub_int, bLt_int, bLe_int, bGt_int, bGe_int, bEq_int, bEq_bl, bEq_str, bNe_int, bNe_bl, bNe_str, dLen_lst, dLen_tup, dTup_lst, dTup_tup, x_noOwn0, x_noOwn1, okSlot_some, okSlot_n, okSlot_nn, putTup_tup, wipeD, backD, c, b0, p, bIsNotC, bIsC, bIsN]
    subst e
    refine Rets.seq (I := fun sd => sd = S10 script o2 o3 o4 o5 o6 o7) (Goes.ifF (sd1 := S10 script o2 o3 o4 o5 o6 o7) ?_ rfl) fun sd e => ?_
    · have c1 : g_poly_comes [.tup [.int 1, .int 0, .int 2], .int 4, .int 3] = .ok (.int 3) := by kernel_rfl
      have c2 : g_poly_one_to_one [.tup [.int 3, .int 1, .int 2]] = .ok (.bl true) := by kernel_rfl
      have c3 : g_poly_one_to_one [.tup [.int 3, .int 1, .int 1]] = .ok (.bl false) := by kernel_rfl
      have c4 : g_poly_one_to_one [.tup [.int 0, .int 1, .int 1, .int 0, .int 1]] = .ok (.bl true) := by kernel_rfl
      have n1 : bNe (.int 3) (.int 3) = some false := by rfl
      have n2 : bNe (.lst [.bl true, .bl false, .bl true]) (.lst [.bl true, .bl false, .bl true]) = some false := by kernel_rfl
      simp [x_B, bR_ok, bR_exc, bR_bad, x_BS, bF_ok, bF_exc, bF_bad, x_R, x_O, oR_some, oR_none, x_Var, varR_some, x_Peek, peekR_some, x_C, x_Lst, x_Cons, x_Seq, seqR_nx, seqR_rt, seqR_rf, seqR_exc, seqR_bad, x_Next, x_Ret, x_RetF, x_Drop, x_If, x_Set, x_Put, nxR_some, nxR_none, x_put, x_putO, x_PutO, x_SetO, x_Bin, x_BinF, x_Bin2, x_Cmp, x_CmpV, x_Tst, tstK_bl, x_NotT, x_AndT, x_OrT, x_AndV, andK_t, andK_f, x_NotV, notK_bl, x_IfE, x_Un, unK_int, x_Chain, x_ChainV, x_Fn, x_App, ifS_some, appK_some, x_PutIx, pixK_int, pixJ_some, x_Call, x_CallF, callR_ok, callR_exc, callR_bad, x_CallM, callM1_some, callM2_ok, x_Asg, x_Par, parK_some, x_ParO, x_Wh, x_For, x_Src, i_lst, i_tup, x_Rng1, rngK_int, x_RevT, revT_tup, x_Comp, compK_ok, x_CallLam, lamK_some, lamK2_ok, x_CallV, o_int, o_bl, o_non, o_str, o_glo, o_tup, o_lst, o_clo, o_own, u_int, u_bl, u_non, u_str, u_glo, u_tup, u_lst, u_clo, u_own, own0, ownS, free_S, free_0, free_n, dAdd_int, dSub_int, bLt_int, bLe_int, bGt_int, bGe_int, bEq_int, bEq_bl, bEq_str, bNe_int, bNe_bl, bNe_str, dLen_lst, dLen_tup, dTup_lst, dTup_tup, x_noOwn0, x_noOwn1, okSlot_some, okSlot_n, okSlot_nn, putTup_tup, wipeD, backD, c1, c2, c3, c4, n1, n2]
    subst e
    have c1 : g_poly_all_words [.tup [.int 1, .int 1]] = .ok (.bl true) := by kernel_rfl
    have c2 : g_poly_all_words [.tup [.int 1, .int 1, .int 2]] = .ok (.bl false) := by kernel_rfl
    have c3 : g_poly_all_words [.tup [.int 1, .int 1, .int 0, .int 4]] = .ok (.bl true) := by kernel_rfl
    have c4 : g_poly_all_words [.tup [.int 1, .int 3]] = .ok (.bl false) := by kernel_rfl
    have c5 : g_poly_all_words [.tup [.int 7]] = .ok (.bl false) := by kernel_rfl
    have n2 : bEq (.lst [.bl true, .bl false, .bl true, .bl false, .bl false]) (.lst [.bl true, .bl false, .bl true, .bl false, .bl false]) = some true := by kernel_rfl
    refine ⟨S10 script o2 o3 o4 o5 o6 o7, ?_⟩
    simp [x_B, bR_ok, bR_exc, bR_bad, x_BS, bF_ok, bF_exc, bF_bad, x_R, x_O, oR_some, oR_none, x_Var, varR_some, x_Peek, peekR_some, x_C, x_Lst, x_Cons, x_Seq, seqR_nx, seqR_rt, seqR_rf, seqR_exc, seqR_bad, x_Next, x_Ret, x_RetF, x_Drop, x_If, x_Set, x_Put, nxR_some, nxR_none, x_put, x_putO, x_PutO, x_SetO, x_Bin, x_BinF, x_Bin2, x_Cmp, x_CmpV, x_Tst, tstK_bl, x_NotT, x_AndT, x_OrT, x_AndV, andK_t, andK_f, x_NotV, notK_bl, x_IfE, x_Un, unK_int, x_Chain, x_ChainV, x_Fn, x_App, ifS_some, appK_some, x_PutIx, pixK_int, pixJ_some, x_Call, x_CallF, callR_ok, callR_exc, callR_bad, x_CallM, callM1_some, callM2_ok, x_Asg, x_Par, parK_some, x_ParO, x_Wh, x_For, x_Src, i_lst, i_tup, x_Rng1, rngK_int, x_RevT, revT_tup, x_Comp, compK_ok, x_CallLam, lamK_some, lamK2_ok, x_CallV, o_int, o_bl, o_non, o_str, o_glo, o_tup, o_lst, o_clo, o_own, u_int, u_bl, u_non, u_str, u_glo, u_tup, u_lst, u_clo, u_own, own0, ownS, free_S, free_0, free_n, dAdd_int, dSub_int, bLt_int, bLe_int, bGt_int, bGe_int, bEq_int, bEq_bl, bEq_str, bNe_int, bNe_bl, bNe_str, dLen_lst, dLen_tup, dTup_lst, dTup_tup, x_noOwn0, x_noOwn1, okSlot_some, okSlot_n, okSlot_nn, putTup_tup, wipeD, backD, c1, c2, c3, c4, c5, n2]
  obtain ⟨sd', e⟩ := fin
  show runD m_law 10 [script] = _
  rw [runD, show startD 10 [script] = [some script, none, none, none, none, none, none, none, none, none] from rfl, e]
end HD

set_option maxRecDepth 100000 in
set_option maxHeartbeats 8000000 in
theorem PySem.Challenge.cw_lowbitsalone_k05_whole_polynomials_holds : PySem.Challenge.rw_lowbitsalone_k05_whole_polynomials.Holds := by
  exact k05_holds HD.law_true
