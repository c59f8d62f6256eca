import PyProof.Rows.All
import HandS.ForMost
import HandS.Conv
import HandS.Zip
import HandS.Rev
import HandS.IsInst
import HandS.Style
import HandS.SortInts
import HandS.DictComp
import HandS.TupAny
import HandS.TupMul
import HandS.Defaults
import HandS.MakeKwOnly
import KE.GoesZip
import KE.GoesEnum
import KE.GoesMore
import HandS.Ends
import PySem.Challenge.RW_liarsandall_k13_whole_what_an_eye_has_se
set_option Elab.async false
set_option linter.all false
set_option maxRecDepth 100000
set_option maxHeartbeats 4000000
set_option maxRecDepth 100000
/-! ML0: data, slots, store; what they stand for. -/
namespace ML
open PySem PySem.Spec PyProof.Rows L2
abbrev D := PyData
/-- what a slot holds: a value; a list that is only read here; the n-th object of the def's own store -/
inductive E where
  | val (d : D)
  | bor (d : D)
  | loc (n : Nat)
/-- an object of the store -/
inductive O where
  | lst (ds : List D)
  | dic (kvs : List (Key × D))
  | mat (dss : List (List D))
abbrev Env := List (Option E)
abbrev Sto := List O
/-- the addresses of an object of the store: its own, those of its rows -/
abbrev Fp := Addr × List Addr
def Fp.all (p : Fp) : List Addr := p.1 :: p.2
def alls : List Fp → List Addr
  | [] => []
  | p :: r => p.1 :: (p.2 ++ alls r)
/-- addresses that no value here stands at: lists in the making, and those of the callers -/
abbrev Hid := List Addr × List Addr
abbrev Hid.all (η : Hid) : List Addr := η.1 ++ η.2
abbrev hid (a : Addr) (η : Hid) : Hid := (a :: η.1, η.2)
mutual
/-- v stands for d; no list in it stands at B -/
inductive Rp (K : PySem.W.Frag) (B : List Addr) (H : Hp) : V → D → Prop
  | non : Rp K B H .non .none
  | bl (b : Bool) : Rp K B H (.bl b) (.bool b)
  | int (i : Int) : Rp K B H (.int i) (.int i)
  | str (x : Str) : Rp K B H (.str x) (.str x)
  | lst {a : Addr} {xs : List V} {ds : List D} : H a = some (.lst xs) → a ∉ B → RpAll K B H xs ds → Rp K B H (.ref a) (.list ds)
  | tup {a : Addr} {xs : List V} {ds : List D} : SqT K H a xs → RpAll K B H xs ds → Rp K B H (.ref a) (.tuple ds)
inductive RpAll (K : PySem.W.Frag) (B : List Addr) (H : Hp) : List V → List D → Prop
  | nil : RpAll K B H [] []
  | cons {v : V} {vs : List V} {d : D} {ds : List D} : Rp K B H v d → RpAll K B H vs ds → RpAll K B H (v :: vs) (d :: ds)
end
/-- from H to H' nothing that is tracked changes but what stands at B, no tuple ever -/
structure Fr (B : List Addr) (H H' : Hp) : Prop where
  same : ∀ b o, H b = some o → b ∉ B → H' b = some o
  tup : ∀ b xs, H b = some (.tup xs) → H' b = some (.tup xs)
  frz : ∀ b o u, H b = some (.frz o u) → H' b = some (.frz o u)
theorem Fr.refl {B : List Addr} {H : Hp} : Fr B H H := ⟨fun _ _ h _ => h, fun _ _ h => h, fun _ _ _ h => h⟩
theorem Fr.of_same {B : List Addr} {H H' : Hp} (h : Same H H') : Fr B H H' := ⟨fun b o e _ => h b o e, fun b xs e => h _ _ e, fun b o u e => h _ _ e⟩
theorem Fr.trans {B : List Addr} {H H1 H2 : Hp} (a : Fr B H H1) (b : Fr B H1 H2) : Fr B H H2 :=
  ⟨fun c o h n => b.same c o (a.same c o h n) n, fun c xs h => b.tup c xs (a.tup c xs h), fun c o u h => b.frz c o u (a.frz c o u h)⟩
theorem Fr.sqT {K : PySem.W.Frag} {B : List Addr} {H H' : Hp} (f : Fr B H H') {a : Addr} {xs : List V} (h : SqT K H a xs) : SqT K H' a xs := by
  rcases h with (h | ⟨o, h⟩) | h
  · exact .inl (.inl (f.tup _ _ h))
  · exact .inl (.inr ⟨o, f.frz _ _ _ h⟩)
  · exact .inr h
mutual
theorem Rp.mono {K : PySem.W.Frag} {B B' : List Addr} {H H' : Hp} {C : List Addr} (f : Fr C H H') (hB : ∀ a xs, H a = some (.lst xs) → a ∉ B → a ∉ C ∧ a ∉ B') : ∀ {v : V} {d : D}, Rp K B H v d → Rp K B' H' v d
  | _, _, .non => .non
  | _, _, .bl b => .bl b
  | _, _, .int i => .int i
  | _, _, .str x => .str x
  | _, _, .lst e n r => .lst (f.same _ _ e (hB _ _ e n).1) (hB _ _ e n).2 (RpAll.mono f hB r)
  | _, _, .tup e r => .tup (f.sqT e) (RpAll.mono f hB r)
theorem RpAll.mono {K : PySem.W.Frag} {B B' : List Addr} {H H' : Hp} {C : List Addr} (f : Fr C H H') (hB : ∀ a xs, H a = some (.lst xs) → a ∉ B → a ∉ C ∧ a ∉ B') : ∀ {vs : List V} {ds : List D}, RpAll K B H vs ds → RpAll K B' H' vs ds
  | _, _, .nil => .nil
  | _, _, .cons r t => .cons (Rp.mono f hB r) (RpAll.mono f hB t)
end
mutual
theorem Rp.dp {K : PySem.W.Frag} {B : List Addr} {H : Hp} : ∀ {v : V} {d : D}, Rp K B H v d → Dp K H v d
  | _, _, .non => .non
  | _, _, .bl b => .bl b
  | _, _, .int i => .int i
  | _, _, .str x => .str x
  | _, _, .lst e n r => .lst (.inl (.inl e)) (RpAll.dp r)
  | _, _, .tup e r => .tup e (RpAll.dp r)
theorem RpAll.dp {K : PySem.W.Frag} {B : List Addr} {H : Hp} : ∀ {vs : List V} {ds : List D}, RpAll K B H vs ds → DpAll K H vs ds
  | _, _, .nil => .nil
  | _, _, .cons r t => .cons (Rp.dp r) (RpAll.dp t)
end
theorem RpAll.length {K : PySem.W.Frag} {B : List Addr} {H : Hp} : ∀ {vs : List V} {ds : List D}, RpAll K B H vs ds → vs.length = ds.length
  | _, _, .nil => rfl
  | _, _, .cons _ t => congrArg (· + 1) (RpAll.length t)
theorem RpAll.get {K : PySem.W.Frag} {B : List Addr} {H : Hp} : ∀ {vs : List V} {ds : List D} {i : Nat} {d : D}, RpAll K B H vs ds → ds[i]? = some d → ∃ v, vs[i]? = some v ∧ Rp K B H v d
  | _, _, _, _, .nil, e => by simp at e
  | _, _, 0, _, .cons r _, e => by simp at e; subst e; exact ⟨_, rfl, r⟩
  | _, _, i + 1, d, .cons _ t, e => by
    obtain ⟨v, h1, h2⟩ := RpAll.get (i := i) (d := d) t (by simpa using e)
    exact ⟨v, by simpa using h1, h2⟩
theorem RpAll.append {K : PySem.W.Frag} {B : List Addr} {H : Hp} : ∀ {vs ws : List V} {ds es : List D}, RpAll K B H vs ds → RpAll K B H ws es → RpAll K B H (vs ++ ws) (ds ++ es)
  | _, _, _, _, .nil, s => s
  | _, _, _, _, .cons r t, s => .cons r (RpAll.append t s)
theorem RpAll.set {K : PySem.W.Frag} {B : List Addr} {H : Hp} {v : V} {d : D} (q : Rp K B H v d) : ∀ {vs : List V} {ds : List D} (i : Nat), RpAll K B H vs ds → RpAll K B H (vs.set i v) (ds.set i d)
  | _, _, _, .nil => .nil
  | _, _, 0, .cons _ t => .cons q t
  | _, _, i + 1, .cons r t => .cons r (RpAll.set q i t)
theorem RpAll.take {K : PySem.W.Frag} {B : List Addr} {H : Hp} : ∀ {vs : List V} {ds : List D} (n : Nat), RpAll K B H vs ds → RpAll K B H (vs.take n) (ds.take n)
  | _, _, 0, _ => .nil
  | _, _, _ + 1, .nil => .nil
  | _, _, n + 1, .cons r t => .cons r (RpAll.take n t)
theorem RpAll.drop {K : PySem.W.Frag} {B : List Addr} {H : Hp} : ∀ {vs : List V} {ds : List D} (n : Nat), RpAll K B H vs ds → RpAll K B H (vs.drop n) (ds.drop n)
  | _, _, 0, r => r
  | _, _, _ + 1, .nil => .nil
  | _, _, n + 1, .cons _ t => RpAll.drop n t
theorem RpAll.eraseIdx {K : PySem.W.Frag} {B : List Addr} {H : Hp} : ∀ {vs : List V} {ds : List D} (i : Nat), RpAll K B H vs ds → RpAll K B H (vs.eraseIdx i) (ds.eraseIdx i)
  | _, _, _, .nil => .nil
  | _, _, 0, .cons _ t => t
  | _, _, i + 1, .cons r t => .cons r (RpAll.eraseIdx i t)
theorem RpAll.reverse {K : PySem.W.Frag} {B : List Addr} {H : Hp} : ∀ {vs : List V} {ds : List D}, RpAll K B H vs ds → RpAll K B H vs.reverse ds.reverse
  | _, _, .nil => .nil
  | _, _, .cons r t => by
    rw [List.reverse_cons, List.reverse_cons]
    exact RpAll.append (RpAll.reverse t) (.cons r .nil)
theorem RpAll.flat {K : PySem.W.Frag} {B : List Addr} {H : Hp} {vs : List V} {ds : List D} (h : RpAll K B H vs ds) : ∀ k : Nat, RpAll K B H (List.replicate k vs).flatten (List.replicate k ds).flatten
  | 0 => .nil
  | k + 1 => by
    rw [List.replicate_succ, List.replicate_succ, List.flatten_cons, List.flatten_cons]
    exact h.append (RpAll.flat h k)
/-- ints -/
theorem RpAll.ints {K : PySem.W.Frag} {B : List Addr} {H : Hp} : ∀ {vs : List V} {ns : List Int}, RpAll K B H vs (ns.map PyData.int) → vs = ns.map V.int
  | _, [], .nil => rfl
  | _, n :: ns, .cons r t => by
    cases r
    rw [List.map_cons, RpAll.ints t]
theorem RpAll.of_ints {K : PySem.W.Frag} {B : List Addr} {H : Hp} : ∀ (ns : List Int), RpAll K B H (ns.map V.int) (ns.map PyData.int)
  | [] => .nil
  | n :: ns => .cons (.int n) (RpAll.of_ints ns)
/-- a list of the module -/
def KL (K : PySem.W.Frag) (a : Addr) (xs : List V) : Prop :=
  ∃ (o : Obj) (its : Array Value) (n : Nat), K.lookup a = some o ∧ o.cls = .type "list" ∧ o.dict = none ∧ o.data = .seq its n ∧ its.size ≤ sizeLine ∧ Vals xs its.toList
/-- what a slot's value stands for -/
inductive RE (K : PySem.W.Frag) (κ : List Fp) (η : Hid) (H : Hp) : V → E → Prop
  | val {v : V} {d : D} : Rp K (alls κ ++ η.all) H v d → RE K κ η H v (.val d)
  | bor {a : Addr} {xs : List V} {ds : List D} : Rd H a (.lst xs) → a ∉ alls κ ++ η.1 → RpAll K (alls κ ++ η.all) H xs ds → RE K κ η H (.ref a) (.bor (.list ds))
  | mdl {a : Addr} {xs : List V} {ds : List D} : KL K a xs → RpAll K (alls κ ++ η.all) H xs ds → RE K κ η H (.ref a) (.bor (.list ds))
  | loc {n : Nat} {p : Fp} : κ[n]? = some p → RE K κ η H (.ref p.1) (.loc n)
/-- an object of the store -/
inductive RO (K : PySem.W.Frag) (B : List Addr) (H : Hp) : Fp → O → Prop
  | lst {a : Addr} {xs : List V} {ds : List D} : H a = some (.lst xs) → RpAll K B H xs ds → RO K B H (a, []) (.lst ds)
  | dic {a : Addr} {kvs : List (Key × V)} {ds : List (Key × D)} : H a = some (.dK kvs) → Paired (fun p q => p.1 = q.1 ∧ Rp K B H p.2 q.2) kvs ds → RO K B H (a, []) (.dic ds)
  | mat {a : Addr} {as : List Addr} {dss : List (List D)} : H a = some (.lst (as.map V.ref)) → Paired (fun b ds => ∃ xs, H b = some (.lst xs) ∧ RpAll K B H xs ds) as dss → RO K B H (a, as) (.mat dss)
/-- the state -/
structure Rep (K : PySem.W.Frag) (κ : List Fp) (η : Hid) (H : Hp) (σ : L2.St) (env : Env) (st : Sto) : Prop where
  nd : (alls κ).Nodup
  dj : ∀ a ∈ alls κ, a ∉ η.all
  en : η.all.Nodup
  hn : ∀ a ∈ η.all, H a ≠ none
  len : env.length = σ.length
  env : ∀ (i : Nat) (e : E), env[i]? = some (some e) → ∃ v, σ[i]? = some (some v) ∧ RE K κ η H v e
  sto : Paired (RO K (alls κ ++ η.all) H) κ st
end ML
set_option maxRecDepth 100000
/-! ML1: how a state goes on; readings of expressions, tests, arguments. -/
namespace ML
open PySem PySem.Spec PyProof.Rows L2
theorem mem_alls {κ : List Fp} {b : Addr} : b ∈ alls κ ↔ ∃ p ∈ κ, b = p.1 ∨ b ∈ p.2 := by
  induction κ with
  | nil => simp [alls]
  | cons p r ih =>
    simp only [alls, List.mem_cons, List.mem_append, ih]
    constructor
    · rintro (h | h | ⟨q, hq, h⟩)
      · exact ⟨p, .inl rfl, .inl h⟩
      · exact ⟨p, .inl rfl, .inr h⟩
      · exact ⟨q, .inr hq, h⟩
    · rintro ⟨q, rfl | hq, h⟩
      · rcases h with h | h
        · exact .inl h
        · exact .inr (.inl h)
      · exact .inr (.inr ⟨q, hq, h⟩)
theorem alls_append (a b : List Fp) : alls (a ++ b) = alls a ++ alls b := by
  induction a with
  | nil => rfl
  | cons p r ih => simp [alls, ih, List.append_assoc]
/-- one object's addresses and those it has later -/
def FpLe (p q : Fp) : Prop := p.1 = q.1 ∧ ∃ t, q.2 = p.2 ++ t
/-- the store's addresses go on: the old ones stay at their places, new ones are new -/
structure Ext (κ : List Fp) (H : Hp) (κ' : List Fp) (H' : Hp) : Prop where
  pre : ∃ κ1 new, κ' = κ1 ++ new ∧ Paired FpLe κ κ1
  new : ∀ b ∈ alls κ', b ∉ alls κ → H b = none
  fr : Fr (alls κ) H H'
theorem paired_refl {α : Type} {R : α → α → Prop} (h : ∀ a, R a a) : ∀ l : List α, Paired R l l
  | [] => .nil
  | a :: r => .cons (h a) (paired_refl h r)
theorem FpLe.refl (p : Fp) : FpLe p p := ⟨rfl, [], by simp⟩
theorem FpLe.trans {p q r : Fp} (a : FpLe p q) (b : FpLe q r) : FpLe p r := by
  obtain ⟨t, h⟩ := a.2
  obtain ⟨u, k⟩ := b.2
  exact ⟨a.1.trans b.1, t ++ u, by rw [k, h, List.append_assoc]⟩
theorem Ext.refl {κ : List Fp} {H : Hp} : Ext κ H κ H := ⟨⟨κ, [], by simp, paired_refl FpLe.refl κ⟩, fun b h n => absurd h n, Fr.refl⟩
theorem Ext.of_same {κ : List Fp} {H H' : Hp} (h : Same H H') : Ext κ H κ H' := ⟨⟨κ, [], by simp, paired_refl FpLe.refl κ⟩, fun b h n => absurd h n, Fr.of_same h⟩
theorem paired_mem {α β : Type} {R : α → β → Prop} : ∀ {l : List α} {m : List β}, Paired R l m → ∀ a ∈ l, ∃ b ∈ m, R a b
  | _, _, .nil, _, h => by cases h
  | _, _, .cons r t, a, h => by
    rcases List.mem_cons.mp h with rfl | h
    · exact ⟨_, List.mem_cons_self, r⟩
    · obtain ⟨b, hb, q⟩ := paired_mem t a h
      exact ⟨b, List.mem_cons_of_mem _ hb, q⟩
theorem Ext.sub {κ κ' : List Fp} {H H' : Hp} (e : Ext κ H κ' H') : ∀ b ∈ alls κ, b ∈ alls κ' := fun b hb => by
  obtain ⟨κ1, new, rfl, pr⟩ := e.pre
  obtain ⟨p, hp, h⟩ := mem_alls.mp hb
  obtain ⟨q, hq, l1, t, l2⟩ := paired_mem pr p hp
  refine mem_alls.mpr ⟨q, List.mem_append_left _ hq, ?_⟩
  rcases h with h | h
  · exact .inl (h.trans l1)
  · exact .inr (by rw [l2]; exact List.mem_append_left _ h)
theorem paired_trans {α : Type} {R : α → α → Prop} (ht : ∀ a b c, R a b → R b c → R a c) : ∀ {l m n : List α}, Paired R l m → Paired R m n → Paired R l n
  | _, _, _, .nil, .nil => .nil
  | _, _, _, .cons r t, .cons q u => .cons (ht _ _ _ r q) (paired_trans ht t u)
theorem paired_split {α β : Type} {R : α → β → Prop} : ∀ {a b : List α} {m : List β}, Paired R (a ++ b) m → ∃ m1 m2, m = m1 ++ m2 ∧ Paired R a m1 ∧ Paired R b m2
  | [], b, m, h => ⟨[], m, rfl, .nil, h⟩
  | x :: a, b, _, .cons r t => by
    obtain ⟨m1, m2, rfl, h1, h2⟩ := paired_split (a := a) t
    exact ⟨_ :: m1, m2, rfl, .cons r h1, h2⟩
theorem Ext.trans {κ κ1 κ2 : List Fp} {H H1 H2 : Hp} (a : Ext κ H κ1 H1) (b : Ext κ1 H1 κ2 H2) : Ext κ H κ2 H2 where
  pre := by
    obtain ⟨k1, n1, rfl, p1⟩ := a.pre
    obtain ⟨k2, n2, rfl, p2⟩ := b.pre
    obtain ⟨m1, m2, rfl, q1, q2⟩ := paired_split p2
    exact ⟨m1, m2 ++ n2, by simp [List.append_assoc], paired_trans (R := FpLe) (fun _ _ _ h1 h2 => h1.trans h2) p1 q1⟩
  new := fun c hc n => by
    by_cases h : c ∈ alls κ1
    · exact a.new c h n
    · cases q : H c with
      | none => rfl
      | some o =>
        have := a.fr.same c o q n
        rw [b.new c hc h] at this
        cases this
  fr := ⟨fun c o h n => by
      have h1 := a.fr.same c o h n
      refine b.fr.same c o h1 fun z => ?_
      have := a.new c z n
      rw [h] at this
      exact (nomatch this), fun c xs h => b.fr.tup c xs (a.fr.tup c xs h), fun c o u h => b.fr.frz c o u (a.fr.frz c o u h)⟩
theorem paired_getR {α β : Type} {R : α → β → Prop} : ∀ {l : List α} {m : List β}, Paired R l m → ∀ {i : Nat} {a : α}, l[i]? = some a → ∃ b, m[i]? = some b ∧ R a b
  | _, _, .nil, _, _, h => by simp at h
  | _, _, .cons r _, 0, _, h => by simp at h; subst h; exact ⟨_, rfl, r⟩
  | _, _, .cons _ t, i + 1, _, h => by
    obtain ⟨b, h1, h2⟩ := paired_getR t (i := i) (by simpa using h)
    exact ⟨b, by simpa using h1, h2⟩
theorem paired_getL {α β : Type} {R : α → β → Prop} : ∀ {l : List α} {m : List β}, Paired R l m → ∀ {i : Nat} {b : β}, m[i]? = some b → ∃ a, l[i]? = some a ∧ R a b
  | _, _, .nil, _, _, h => by simp at h
  | _, _, .cons r _, 0, _, h => by simp at h; subst h; exact ⟨_, rfl, r⟩
  | _, _, .cons _ t, i + 1, _, h => by
    obtain ⟨b, h1, h2⟩ := paired_getL t (i := i) (by simpa using h)
    exact ⟨b, by simpa using h1, h2⟩
theorem Ext.at {κ κ' : List Fp} {H H' : Hp} (e : Ext κ H κ' H') {n : Nat} {p : Fp} (h : κ[n]? = some p) : ∃ q, κ'[n]? = some q ∧ FpLe p q := by
  obtain ⟨κ1, new, rfl, pr⟩ := e.pre
  obtain ⟨q, hq, l⟩ := paired_getR pr h
  refine ⟨q, ?_, l⟩
  rw [List.getElem?_append_left (List.getElem?_eq_some_iff.mp hq).1]
  exact hq
section
variable {K : PySem.W.Frag} {κ κ' : List Fp} {η : Hid} {H H' : Hp} {σ : L2.St} {env : Env} {st : Sto}
theorem Ext.apart (e : Ext κ H κ' H') : ∀ a xs, H a = some (.lst xs) → a ∉ alls κ ++ η.all → a ∉ alls κ ∧ a ∉ alls κ' ++ η.all := fun a xs h n => by
  have n1 : a ∉ alls κ := fun z => n (List.mem_append_left _ z)
  refine ⟨n1, fun z => ?_⟩
  rcases List.mem_append.mp z with z | z
  · have := e.new a z n1
    rw [h] at this
    cases this
  · exact n (List.mem_append_right _ z)
theorem Ext.rp (e : Ext κ H κ' H') {v : V} {d : D} (r : Rp K (alls κ ++ η.all) H v d) : Rp K (alls κ' ++ η.all) H' v d := r.mono e.fr e.apart
theorem Ext.rps (e : Ext κ H κ' H') {v : List V} {d : List D} (r : RpAll K (alls κ ++ η.all) H v d) : RpAll K (alls κ' ++ η.all) H' v d := r.mono e.fr e.apart
theorem Ext.re (x : Ext κ H κ' H') {v : V} {e : E} (r : RE K κ η H v e) : RE K κ' η H' v e := by
  cases r with
  | val r => exact .val (x.rp r)
  | mdl k q => exact .mdl k (x.rps q)
  | bor h n q =>
    rename_i a xs ds
    have hn : H a ≠ none := by
      rcases h with h | ⟨o, h⟩ <;> (rw [h]; exact Option.some_ne_none _)
    have n1 : a ∉ alls κ := fun z => n (List.mem_append_left _ z)
    refine .bor ?_ (fun z => ?_) (x.rps q)
    · rcases h with h | ⟨o, h⟩
      · exact .inl (x.fr.same _ _ h n1)
      · exact .inr ⟨o, x.fr.frz _ _ _ h⟩
    · rcases List.mem_append.mp z with z | z
      · exact hn (x.new _ z n1)
      · exact n (List.mem_append_right _ z)
  | loc h =>
    obtain ⟨q, hq, l, _⟩ := x.at h
    rw [l]
    exact .loc hq
/-- fewer things known -/
theorem Rep.forget (R : Rep K κ η H σ env st) : Rep K κ η H [] [] st := ⟨R.nd, R.dj, R.en, R.hn, rfl, fun i e h => by simp at h, R.sto⟩
theorem Same.ro (h : Same H H') {B : List Addr} {p : Fp} {o : O} (hB : ∀ a xs, H a = some (.lst xs) → a ∉ B → a ∉ ([] : List Addr) ∧ a ∉ B) (r : RO K B H p o) : RO K B H' p o := by
  have f : Fr [] H H' := Fr.of_same h
  cases r with
  | lst e r => exact .lst (h _ _ e) (r.mono f hB)
  | dic e r => exact .dic (h _ _ e) (Paired.mapP r fun p q z => ⟨z.1, z.2.mono f hB⟩)
  | mat e r => exact .mat (h _ _ e) (Paired.mapP r fun b ds ⟨xs, z1, z2⟩ => ⟨xs, h _ _ z1, z2.mono f hB⟩)
theorem Rep.same (R : Rep K κ η H σ env st) (h : Same H H') : Rep K κ η H' σ env st :=
  ⟨R.nd, R.dj, R.en, fun a ha => by
      cases q : H a with
      | none => exact absurd q (R.hn a ha)
      | some o =>
        rw [h _ _ q]
        exact Option.some_ne_none _, R.len, fun i e z =>
      let ⟨v, h1, h2⟩ := R.env i e z
      ⟨v, h1, (Ext.of_same h).re h2⟩, Paired.mapP R.sto fun p o r => Same.ro h (fun a xs _ n => ⟨by simp, n⟩) r⟩
end
/-- a small whole number -/
def small (i : Int) : Bool := decide (-(2 ^ 62) ≤ i) && decide (i < 2 ^ 62)
theorem small_of {i : Int} (h : small i = true) : -(2 ^ 62) ≤ i ∧ i < 2 ^ 62 := by
  unfold small at h
  simpa using h
/-! ### readings -/
abbrev M (α : Type) := Env → Sto → Option (α × Sto)
/-- an operand: a value, or a slot that is read when it is used -/
inductive Opd where
  | v (d : D)
  | s (i : Nat)
  | r (i k : Nat)
def res (env : Env) (st : Sto) : Opd → Option D
  | .v d => some d
  | .s i => match env[i]? with
    | some (some (.val d)) => some d
    | some (some (.bor d)) => some d
    | some (some (.loc n)) => match st[n]? with
      | some (.lst ds) => some (.list ds)
      | _ => none
    | _ => none
  | .r i k => match env[i]? with
    | some (some (.loc n)) => match st[n]? with
      | some (.mat dss) => (dss[k]?).map .list
      | _ => none
    | _ => none
/-- it can be read as d -/
inductive Sh (K : PySem.W.Frag) (B : List Addr) (H : Hp) : V → D → Prop
  | rp {v : V} {d : D} : Rp K B H v d → Sh K B H v d
  | lst {a : Addr} {xs : List V} {ds : List D} : SqL K H a xs → RpAll K B H xs ds → Sh K B H (.ref a) (.list ds)
def OV (K : PySem.W.Frag) (κ : List Fp) (η : Hid) (H : Hp) (σ : L2.St) (env : Env) (v : V) : Opd → Prop
  | .v d => Rp K (alls κ ++ η.all) H v d
  | .s i => σ[i]? = some (some v)
  | .r i k => ∃ n p b, env[i]? = some (some (.loc n)) ∧ κ[n]? = some p ∧ p.2[k]? = some b ∧ v = .ref b
section
variable {K : PySem.W.Frag} {κ κ' : List Fp} {η : Hid} {H H' : Hp} {σ : L2.St} {env : Env} {st : Sto} {v : V} {o : Opd} {d : D}
theorem OV.ext (e : Ext κ H κ' H') (h : OV K κ η H σ env v o) : OV K κ' η H' σ env v o := by
  cases o with
  | v d => exact e.rp (show Rp K (alls κ ++ η.all) H v d from h)
  | s i => exact h
  | r i k =>
    obtain ⟨n, p, b, h1, h2, h3, rfl⟩ := (show ∃ n p b, env[i]? = some (some (.loc n)) ∧ κ[n]? = some p ∧ p.2[k]? = some b ∧ v = .ref b from h)
    obtain ⟨q, hq, _, t, l⟩ := e.at h2
    exact ⟨n, q, b, h1, hq, by rw [l, List.getElem?_append_left (List.getElem?_eq_some_iff.mp h3).1]; exact h3, rfl⟩
theorem OV.res (R : Rep K κ η H σ env st) (h : OV K κ η H σ env v o) (e : res env st o = some d) : Sh K (alls κ ++ η.all) H v d := by
  cases o with
  | v d' =>
    have : d' = d := Option.some.inj e
    subst this
    exact .rp h
  | s i =>
    have h : σ[i]? = some (some v) := h
    unfold ML.res at e
    dsimp only at e
    cases q : env[i]? with
    | none => rw [q] at e; cases e
    | some x =>
      cases x with
      | none => rw [q] at e; cases e
      | some y =>
        obtain ⟨v', h1, h2⟩ := R.env i y q
        rw [h] at h1
        have hv : v = v' := by simpa using h1
        subst hv
        rw [q] at e
        cases h2 with
        | val r =>
          have := Option.some.inj e
          subst this
          exact .rp r
        | mdl k q2 =>
          have := Option.some.inj e
          subst this
          exact .lst (.inr k) q2
        | bor a b c =>
          have := Option.some.inj e
          subst this
          exact .lst (.inl a) c
        | loc hp =>
          dsimp only at e
          obtain ⟨o, ho, ro⟩ := paired_getR R.sto hp
          rw [ho] at e
          cases ro with
          | lst a b =>
            have := Option.some.inj e
            subst this
            exact .lst (.inl (.inl a)) b
          | dic a b => cases e
          | mat a b => cases e
  | r i k =>
    obtain ⟨n, p, b, h1, h2, h3, rfl⟩ := (show ∃ n p b, env[i]? = some (some (.loc n)) ∧ κ[n]? = some p ∧ p.2[k]? = some b ∧ v = .ref b from h)
    unfold ML.res at e
    dsimp only at e
    rw [h1] at e
    dsimp only at e
    obtain ⟨o, ho, ro⟩ := paired_getR R.sto h2
    rw [ho] at e
    cases ro with
    | lst a b => cases e
    | dic a b => cases e
    | mat a q =>
      dsimp only at e
      obtain ⟨ds, hd, xs, z1, z2⟩ := paired_getR q h3
      rw [hd] at e
      have := Option.some.inj e
      subst this
      exact .lst (.inl (.inl z1)) z2
end
section
variable (K : PySem.W.Frag)
/-- a value -/
def tE (m : M D) : TE := fun σ H Q => ∃ κ η env st d st', Rep K κ η H σ env st ∧ m env st = some (d, st') ∧
  ∀ v κ' H', Rep K κ' η H' σ env st' → Ext κ H κ' H' → Rp K (alls κ' ++ η.all) H' v d → Q v H'
/-- an operand -/
def tO (m : M Opd) : TE := fun σ H Q => ∃ κ η env st o st', Rep K κ η H σ env st ∧ m env st = some (o, st') ∧
  ∀ v κ' H', Rep K κ' η H' σ env st' → Ext κ H κ' H' → OV K κ' η H' σ env v o → Q v H'
/-- a new list -/
def tN (m : M (List D)) : TE := fun σ H Q => ∃ κ η env st ds st', Rep K κ η H σ env st ∧ m env st = some (ds, st') ∧
  ∀ a xs κ' H', Rep K κ' (hid a η) H' σ env st' → Ext κ H κ' H' → H a = none → H' a = some (.lst xs) → RpAll K (alls κ' ++ a :: η.all) H' xs ds → Q (.ref a) H'
/-- a test -/
def tT (m : M Bool) : TT := fun σ H Q => ∃ κ η env st b st', Rep K κ η H σ env st ∧ m env st = some (b, st') ∧
  ∀ κ' H', Rep K κ' η H' σ env st' → Ext κ H κ' H' → Q b H'
/-- arguments -/
def tAs (m : M (List Opd)) : TA := fun σ H Q => ∃ κ η env st os st', Rep K κ η H σ env st ∧ m env st = some (os, st') ∧
  ∀ vs κ' H', Rep K κ' η H' σ env st' → Ext κ H κ' H' → Paired (OV K κ' η H' σ env) vs os → Q vs H'
end
abbrev SE (X : Cx) (e : Expr) (m : M D) : Prop := PE X e (tE X.K m)
abbrev SO (X : Cx) (e : Expr) (m : M Opd) : Prop := PE X e (tO X.K m)
abbrev SN (X : Cx) (e : Expr) (m : M (List D)) : Prop := PE X e (tN X.K m)
abbrev ST (X : Cx) (e : Expr) (m : M Bool) : Prop := PT X e (tT X.K m)
abbrev SA (X : Cx) (es : List Expr) (m : M (List Opd)) : Prop := PA X es (tAs X.K m)
theorem PE.imp {X : Cx} {e : Expr} {t t' : TE} (h : PE X e t) (i : ∀ σ H Q, t' σ H Q → t σ H Q) : PE X e t' := ⟨fun pins s σ H Q I q => h.run pins s σ H Q I (i σ H Q q)⟩
theorem PT.imp {X : Cx} {e : Expr} {t t' : TT} (h : PT X e t) (i : ∀ σ H Q, t' σ H Q → t σ H Q) : PT X e t' := ⟨fun pins s σ H Q I q => h.run pins s σ H Q I (i σ H Q q)⟩
theorem PW.imp {X : Cx} {e : Expr} {t t' : TT} (h : PW X e t) (i : ∀ σ H Q, t' σ H Q → t σ H Q) : PW X e t' := ⟨fun w pins s σ H Q I q => h.run w pins s σ H Q I (i σ H Q q)⟩
theorem PA.imp {X : Cx} {e : List Expr} {t t' : TA} (h : PA X e t) (i : ∀ σ H Q, t' σ H Q → t σ H Q) : PA X e t' := ⟨fun pos pins s σ H Q I q => h.run pos pins s σ H Q I (i σ H Q q)⟩
theorem PS.imp {X : Cx} {e : Stmt} {t t' : TS} (h : PS X e t) (i : ∀ Dn σ H, t' Dn σ H → t Dn σ H) : PS X e t' := ⟨fun pins s σ H Dn I q => h.run pins s σ H Dn I (i Dn σ H q)⟩
theorem PSs.imp {X : Cx} {e : List Stmt} {t t' : TS} (h : PSs X e t) (i : ∀ Dn σ H, t' Dn σ H → t Dn σ H) : PSs X e t' := ⟨fun pins s σ H Dn I q => h.run pins s σ H Dn I (i Dn σ H q)⟩
/-! ### the mirror's words: expressions -/
def mD (d : D) : M D := fun _ st => some (d, st)
def mV (i : Nat) : M D := fun env st => match env[i]? with
  | some (some (.val d)) => some (d, st)
  | _ => none
def oV (m : M D) : M Opd := fun env st => match m env st with
  | some (d, s) => some (.v d, s)
  | none => none
def oS (i : Nat) : M Opd := fun env st => match env[i]? with
  | some (some _) => some (.s i, st)
  | _ => none
def mL (m : M (List D)) : M D := fun env st => match m env st with
  | some (ds, s) => some (.list ds, s)
  | none => none
section
variable {X : Cx} {e : Expr}
theorem so_e {m : M D} (h : SE X e m) : SO X e (oV m) := PE.imp h fun σ H Q ⟨κ, η, env, st, o, st', R, em, q⟩ => by
  unfold oV at em
  cases hm : m env st with
  | none => rw [hm] at em; cases em
  | some p =>
    obtain ⟨d, s⟩ := p
    rw [hm] at em
    have := Option.some.inj em
    cases this
    exact ⟨κ, η, env, st, d, st', R, hm, fun v κ' H' R' x r => q v κ' H' R' x r⟩
theorem Rep.less {K : PySem.W.Frag} {κ : List Fp} {η : Hid} {a : Addr} {H : Hp} {σ : L2.St} {env : Env} {st : Sto} (R : Rep K κ (hid a η) H σ env st) : Rep K κ η H σ env st := by
  have hB : ∀ b xs, H b = some (HO.lst xs) → b ∉ alls κ ++ a :: η.all → b ∉ ([] : List Addr) ∧ b ∉ alls κ ++ η.all := fun b xs _ n => ⟨by simp, fun z => n (by
    rcases List.mem_append.mp z with z | z
    · exact List.mem_append_left _ z
    · exact List.mem_append_right _ (List.mem_cons_of_mem _ z))⟩
  have f : Fr [] H H := Fr.refl
  refine ⟨R.nd, fun b hb z => R.dj b hb (List.mem_cons_of_mem _ z), (List.nodup_cons.mp R.en).2, fun b hb => R.hn b (List.mem_cons_of_mem _ hb), R.len, fun i e h => ?_, Paired.mapP R.sto fun p o r => ?_⟩
  · obtain ⟨v, h1, h2⟩ := R.env i e h
    refine ⟨v, h1, ?_⟩
    cases h2 with
    | val r => exact .val (r.mono f hB)
    | mdl k q => exact .mdl k (q.mono f hB)
    | bor h3 n q => exact .bor h3 (fun z => n (by
        rcases List.mem_append.mp z with z | z
        · exact List.mem_append_left _ z
        · exact List.mem_append_right _ (List.mem_cons_of_mem _ z))) (q.mono f hB)
    | loc h3 => exact .loc h3
  · cases r with
    | lst e r => exact .lst e (r.mono f hB)
    | dic e r => exact .dic e (Paired.mapP r fun p q z => ⟨z.1, z.2.mono f hB⟩)
    | mat e r => exact .mat e (Paired.mapP r fun b ds ⟨xs, z1, z2⟩ => ⟨xs, z1, z2.mono f hB⟩)
theorem rps_less {K : PySem.W.Frag} {κ : List Fp} {η : Hid} {a : Addr} {H : Hp} {vs : List V} {ds : List D} (r : RpAll K (alls κ ++ a :: η.all) H vs ds) : RpAll K (alls κ ++ η.all) H vs ds :=
  r.mono (Fr.refl (B := [])) fun b xs _ n => ⟨by simp, fun z => n (by
    rcases List.mem_append.mp z with z | z
    · exact List.mem_append_left _ z
    · exact List.mem_append_right _ (List.mem_cons_of_mem _ z))⟩
theorem se_n {m : M (List D)} (h : SN X e m) : SE X e (mL m) := PE.imp h fun σ H Q ⟨κ, η, env, st, o, st', R, em, q⟩ => by
  unfold mL at em
  cases hm : m env st with
  | none => rw [hm] at em; cases em
  | some p =>
    obtain ⟨d, s⟩ := p
    rw [hm] at em
    have := Option.some.inj em
    cases this
    refine ⟨κ, η, env, st, d, st', R, hm, fun a xs κ' H' R' x h0 h1 r => q _ κ' H' R'.less x (.lst h1 (fun z => ?_) (rps_less r))⟩
    rcases List.mem_append.mp z with z | z
    · exact R'.dj a z List.mem_cons_self
    · exact absurd h0 (R.hn a z)
theorem so_s (i : Nat) {x : Str} {pos : Pos} (h : PE X (.Name x pos) (tVar i)) : SO X (.Name x pos) (oS i) := PE.imp h fun σ H Q ⟨κ, η, env, st, o, st', R, em, q⟩ => by
  unfold oS at em
  split at em
  · rename_i y hy
    cases em
    obtain ⟨v, h1, _⟩ := R.env i y hy
    exact ⟨v, h1, q v κ H R Ext.refl h1⟩
  · cases em
theorem se_v (i : Nat) {x : Str} {pos : Pos} (h : PE X (.Name x pos) (tVar i)) : SE X (.Name x pos) (mV i) := PE.imp h fun σ H Q ⟨κ, η, env, st, d, st', R, em, q⟩ => by
  unfold mV at em
  split at em
  · rename_i d' hd
    cases em
    obtain ⟨v, h1, h2⟩ := R.env i _ hd
    cases h2 with
    | val r => exact ⟨v, h1, q v κ H R Ext.refl r⟩
  · cases em
theorem se_d {d : D} {v : V} (h : PE X e (tC v)) (r : ∀ B H, Rp X.K B H v d) : SE X e (mD d) := PE.imp h fun σ H Q ⟨κ, η, env, st, d', st', R, em, q⟩ => by
  cases em
  exact q v κ H R Ext.refl (r _ _)
end
end ML
set_option maxRecDepth 100000
/-! ML2: operations. -/
namespace ML
open PySem PySem.Spec PyProof.Rows L2
section
variable {X : Cx} {a b c : Expr} {pos : Pos}
def OpS (X : Cx) (r : R2) (g : D → D → Option D) : Prop := ∀ (κ : List Fp) (η : Hid) (H : Hp) (x y : V) (dx dy d : D) (Q : VK), 
  Sh X.K (alls κ ++ η.all) H x dx → Sh X.K (alls κ ++ η.all) H y dy → g dx dy = some d → (∀ v H', Same H H' → Rp X.K (alls κ ++ η.all) H' v d → Q v H') → r x y H Q
def mBin (g : D → D → Option D) (ma mb : M Opd) : M D := fun env st => (ma env st).bind fun p => (mb env p.2).bind fun q => (res env q.2 p.1).bind fun x => (res env q.2 q.1).bind fun y => (g x y).map fun d => (d, q.2)
theorem bin_some {g : D → D → Option D} {ma mb : M Opd} {env : Env} {st st' : Sto} {d : D} (h : mBin g ma mb env st = some (d, st')) :
    ∃ oa s1 ob x y, ma env st = some (oa, s1) ∧ mb env s1 = some (ob, st') ∧ res env st' oa = some x ∧ res env st' ob = some y ∧ g x y = some d := by
  unfold mBin at h
  simp only [Option.bind_eq_some_iff, Option.map_eq_some_iff] at h
  obtain ⟨⟨oa, s1⟩, h1, ⟨ob, s2⟩, h2, x, h3, y, h4, d', h5, e⟩ := h
  cases e
  exact ⟨oa, s1, ob, x, y, h1, h2, h3, h4, h5⟩
theorem bin_t {r : R2} {g : D → D → Option D} (hs : OpS X r g) {ma mb : M Opd} {σ : L2.St} {H : Hp} {Q : VK} (h : tE X.K (mBin g ma mb) σ H Q) : tOp r (tO X.K ma) (tO X.K mb) σ H Q := by
  obtain ⟨κ, η, env, st, d, st', R, em, q⟩ := h
  obtain ⟨oa, s1, ob, x, y, h1, h2, h3, h4, h5⟩ := bin_some em
  refine ⟨κ, η, env, st, oa, s1, R, h1, fun vx κ1 H1 R1 e1 v1 => ⟨κ1, η, env, s1, ob, st', R1, h2, fun vy κ2 H2 R2 e2 v2 => ?_⟩⟩
  exact hs κ2 η H2 vx vy x y d Q ((v1.ext e2).res R2 h3) (v2.res R2 h4) h5 fun v H' sm rp => q v κ2 H' (R2.same sm) ((e1.trans e2).trans (Ext.of_same sm)) rp
theorem se_bin {op : Operator} {r : R2} {g : D → D → Option D} (ho : OpR X (binaryOp op) r) (hs : OpS X r g) {ma mb : M Opd} (ha : SO X a ma) (hb : SO X b mb) : SE X (.BinOp a op b pos) (mBin g ma mb) :=
  PE.imp (pe_op ho ha hb) fun σ H Q h => bin_t hs h
theorem se_cmp {op : CmpOp} {r : R2} {g : D → D → Option D} (ho : OpR X (compareOp op) r) (hs : OpS X r g) {ma mb : M Opd} (ha : SO X a ma) (hb : SO X b mb) (hm : behindInMarks op b = false) : SE X (.Compare a [op] [b] pos) (mBin g ma mb) :=
  PE.imp (pe_cmpR ho ha hb hm) fun σ H Q h => bin_t hs h
/-- a value that is a bool -/
def asB (d : D) : Option Bool := match d with
  | .bool b => some b
  | _ => none
def mB (m : M D) : M Bool := fun env st => (m env st).bind fun p => (asB p.1).map fun b => (b, p.2)
theorem mB_some {m : M D} {env : Env} {st st' : Sto} {b : Bool} (h : mB m env st = some (b, st')) : m env st = some (.bool b, st') := by
  unfold mB at h
  simp only [Option.bind_eq_some_iff, Option.map_eq_some_iff] at h
  obtain ⟨⟨d, s⟩, h1, b', h2, e⟩ := h
  cases e
  cases d <;> first | cases h2 | skip
  exact h1
theorem test_t {m : M D} {σ : L2.St} {H : Hp} {Q : Bool → Hp → Prop} {K : PySem.W.Frag} {t : TE} (i : ∀ Q', tE K m σ H Q' → t σ H Q') (h : tT K (mB m) σ H Q) : t σ H fun x H' => ∃ k, x = .bl k ∧ Q k H' := by
  obtain ⟨κ, η, env, st, b, st', R, em, q⟩ := h
  refine i _ ⟨κ, η, env, st, .bool b, st', R, mB_some em, fun v κ' H' R' e rv => ?_⟩
  cases rv
  exact ⟨b, rfl, q κ' H' R' e⟩
theorem st_cmp {op : CmpOp} {r : R2} {g : D → D → Option D} (ho : OpR X (compareOp op) r) (hs : OpS X r g) {ma mb : M Opd} (ha : SO X a ma) (hb : SO X b mb) (hm : behindInMarks op b = false) : ST X (.Compare a [op] [b] pos) (mB (mBin g ma mb)) :=
  PT.imp (pt_cmpR ho ha hb hm) fun σ H Q h => test_t (fun Q' h' => bin_t hs h') h
theorem st_val {m : M D} (h : SE X a m) (he : ∀ whole, isTrue a X.env whole = (do let v ← whole; standAt a.pos; holding [v] (truthy v)) := by intro _; rfl) : ST X a (mB m) :=
  PT.imp (pt_val h he) fun σ H Q h => test_t (t := tE X.K m) (fun Q' h' => h') h
/-! and, or, not -/
def mAnd (s t : M Bool) : M Bool := fun env st => (s env st).bind fun p => if p.1 = true then t env p.2 else some (false, p.2)
def mOr (s t : M Bool) : M Bool := fun env st => (s env st).bind fun p => if p.1 = true then some (true, p.2) else t env p.2
def mNot (s : M Bool) : M Bool := fun env st => (s env st).map fun p => (!p.1, p.2)
theorem and_t {s t : M Bool} {K : PySem.W.Frag} {σ : L2.St} {H : Hp} {Q : Bool → Hp → Prop} (h : tT K (mAnd s t) σ H Q) : tAnd (tT K s) (tT K t) σ H Q := by
  obtain ⟨κ, η, env, st, b, st', R, em, q⟩ := h
  unfold mAnd at em
  simp only [Option.bind_eq_some_iff] at em
  obtain ⟨⟨c, s1⟩, h1, h2⟩ := em
  refine ⟨κ, η, env, st, c, s1, R, h1, fun κ1 H1 R1 e1 => ?_⟩
  cases c with
  | true => exact ⟨κ1, η, env, s1, b, st', R1, by simpa using h2, fun κ2 H2 R2 e2 => q κ2 H2 R2 (e1.trans e2)⟩
  | false =>
    have : some (false, s1) = some (b, st') := by simpa using h2
    cases this
    exact q κ1 H1 R1 e1
theorem or_t {s t : M Bool} {K : PySem.W.Frag} {σ : L2.St} {H : Hp} {Q : Bool → Hp → Prop} (h : tT K (mOr s t) σ H Q) : tOr (tT K s) (tT K t) σ H Q := by
  obtain ⟨κ, η, env, st, b, st', R, em, q⟩ := h
  unfold mOr at em
  simp only [Option.bind_eq_some_iff] at em
  obtain ⟨⟨c, s1⟩, h1, h2⟩ := em
  refine ⟨κ, η, env, st, c, s1, R, h1, fun κ1 H1 R1 e1 => ?_⟩
  cases c with
  | false => exact ⟨κ1, η, env, s1, b, st', R1, by simpa using h2, fun κ2 H2 R2 e2 => q κ2 H2 R2 (e1.trans e2)⟩
  | true =>
    have : some (true, s1) = some (b, st') := by simpa using h2
    cases this
    exact q κ1 H1 R1 e1
theorem st_not {t : M Bool} (h : ST X a t) : ST X (.UnaryOp .Not a pos) (mNot t) := PT.imp (pt_not h) fun σ H Q ⟨κ, η, env, st, b, st', R, em, q⟩ => by
  unfold mNot at em
  simp only [Option.map_eq_some_iff] at em
  obtain ⟨⟨c, s1⟩, h1, h2⟩ := em
  cases h2
  exact ⟨κ, η, env, st, c, _, R, h1, fun κ1 H1 R1 e1 => q κ1 H1 R1 e1⟩
abbrev SW (X : Cx) (e : Expr) (m : M Bool) : Prop := PW X e (tT X.K m)
variable {rest : List Expr}
theorem sw_and1 {s : M Bool} (ha : ST X a s) : SW X (.BoolOp .And [a] pos) s := pw_and1 ha
theorem sw_or1 {s : M Bool} (ha : ST X a s) : SW X (.BoolOp .Or [a] pos) s := pw_or1 ha
theorem sw_and {s t : M Bool} (ha : ST X a s) (hb : SW X (.BoolOp .And (b :: rest) pos) t) : SW X (.BoolOp .And (a :: b :: rest) pos) (mAnd s t) := PW.imp (pw_and ha hb) fun σ H Q h => and_t h
theorem sw_or {s t : M Bool} (ha : ST X a s) (hb : SW X (.BoolOp .Or (b :: rest) pos) t) : SW X (.BoolOp .Or (a :: b :: rest) pos) (mOr s t) := PW.imp (pw_or ha hb) fun σ H Q h => or_t h
theorem st_w {s : M Bool} (h : SW X a s) : ST X a s := h.pt
/-- as values -/
def mOfB (m : M Bool) : M D := fun env st => (m env st).map fun p => (.bool p.1, p.2)
def mAndV (s t : M D) : M D := fun env st => (s env st).bind fun p => (asB p.1).bind fun c => if c = true then t env p.2 else some (.bool false, p.2)
def mOrV (s t : M D) : M D := fun env st => (s env st).bind fun p => (asB p.1).bind fun c => if c = true then some (.bool true, p.2) else t env p.2
def mNotV (s : M D) : M D := fun env st => (s env st).bind fun p => (asB p.1).map fun c => (.bool (!c), p.2)
theorem asB_some {d : D} {c : Bool} (h : asB d = some c) : d = .bool c := by
  cases d <;> first | cases h | skip
  rfl
theorem se_one {op} {m : M D} (h : SE X a m) : SE X (.BoolOp op [a] pos) m := pe_one h
theorem se_and {s t : M D} (ha : SE X a s) (hb : SE X (.BoolOp .And (b :: rest) pos) t) : SE X (.BoolOp .And (a :: b :: rest) pos) (mAndV s t) := PE.imp (pe_and ha hb) fun σ H Q ⟨κ, η, env, st, d, st', R, em, q⟩ => by
  unfold mAndV at em
  simp only [Option.bind_eq_some_iff] at em
  obtain ⟨⟨c, s1⟩, h1, k, h2, h3⟩ := em
  have := asB_some h2
  dsimp only at this
  subst this
  refine ⟨κ, η, env, st, _, s1, R, h1, fun v κ1 H1 R1 e1 rv => ?_⟩
  cases rv
  refine ⟨k, rfl, ?_⟩
  cases k with
  | true => exact ⟨κ1, η, env, s1, d, st', R1, by simpa using h3, fun v κ2 H2 R2 e2 r2 => q v κ2 H2 R2 (e1.trans e2) r2⟩
  | false =>
    have : some (PyData.bool false, s1) = some (d, st') := by simpa using h3
    cases this
    exact q _ κ1 H1 R1 e1 (.bl false)
theorem se_or {s t : M D} (ha : SE X a s) (hb : SE X (.BoolOp .Or (b :: rest) pos) t) : SE X (.BoolOp .Or (a :: b :: rest) pos) (mOrV s t) := PE.imp (pe_or ha hb) fun σ H Q ⟨κ, η, env, st, d, st', R, em, q⟩ => by
  unfold mOrV at em
  simp only [Option.bind_eq_some_iff] at em
  obtain ⟨⟨c, s1⟩, h1, k, h2, h3⟩ := em
  have := asB_some h2
  dsimp only at this
  subst this
  refine ⟨κ, η, env, st, _, s1, R, h1, fun v κ1 H1 R1 e1 rv => ?_⟩
  cases rv
  refine ⟨k, rfl, ?_⟩
  cases k with
  | false => exact ⟨κ1, η, env, s1, d, st', R1, by simpa using h3, fun v κ2 H2 R2 e2 r2 => q v κ2 H2 R2 (e1.trans e2) r2⟩
  | true =>
    have : some (PyData.bool true, s1) = some (d, st') := by simpa using h3
    cases this
    exact q _ κ1 H1 R1 e1 (.bl true)
theorem se_not {s : M D} (ha : SE X a s) : SE X (.UnaryOp .Not a pos) (mNotV s) := PE.imp (pe_not ha) fun σ H Q ⟨κ, η, env, st, d, st', R, em, q⟩ => by
  unfold mNotV at em
  simp only [Option.bind_eq_some_iff, Option.map_eq_some_iff] at em
  obtain ⟨⟨c, s1⟩, h1, k, h2, h3⟩ := em
  have := asB_some h2
  dsimp only at this
  subst this
  cases h3
  refine ⟨κ, η, env, st, _, _, R, h1, fun v κ1 H1 R1 e1 rv => ?_⟩
  cases rv
  exact ⟨k, rfl, q _ κ1 H1 R1 e1 (.bl _)⟩
def mIf (t : M Bool) (x y : M D) : M D := fun env st => (t env st).bind fun p => if p.1 = true then x env p.2 else y env p.2
theorem se_if {t : M Bool} {x y : M D} (hc : ST X c t) (ha : SE X a x) (hb : SE X b y) : SE X (.IfExp c a b pos) (mIf t x y) := PE.imp (pe_ifExp hc ha hb) fun σ H Q ⟨κ, η, env, st, d, st', R, em, q⟩ => by
  unfold mIf at em
  simp only [Option.bind_eq_some_iff] at em
  obtain ⟨⟨k, s1⟩, h1, h3⟩ := em
  refine ⟨κ, η, env, st, k, s1, R, h1, fun κ1 H1 R1 e1 => ?_⟩
  cases k with
  | false => exact ⟨κ1, η, env, s1, d, st', R1, by simpa using h3, fun v κ2 H2 R2 e2 r2 => q v κ2 H2 R2 (e1.trans e2) r2⟩
  | true => exact ⟨κ1, η, env, s1, d, st', R1, by simpa using h3, fun v κ2 H2 R2 e2 r2 => q v κ2 H2 R2 (e1.trans e2) r2⟩
/-! is None -/
def isN (d : D) : Bool := match d with
  | .none => true
  | _ => false
def mIsN (m : M Opd) : M D := fun env st => (m env st).bind fun p => (res env p.2 p.1).map fun d => (.bool (isN d), p.2)
def mNotN (m : M Opd) : M D := fun env st => (m env st).bind fun p => (res env p.2 p.1).map fun d => (.bool (!isN d), p.2)
theorem sh_isN {K : PySem.W.Frag} {B : List Addr} {H : Hp} {v : V} {d : D} (h : Sh K B H v d) : decide (v = .non) = isN d := by
  cases h with
  | rp h => cases h <;> rfl
  | lst => rfl
theorem isN_t {m : M Opd} {σ : L2.St} {H : Hp} {Q : VK} (h : tE X.K (mIsN m) σ H Q) : tIsN (tO X.K m) σ H Q := by
  obtain ⟨κ, η, env, st, d, st', R, em, q⟩ := h
  unfold mIsN at em
  simp only [Option.bind_eq_some_iff, Option.map_eq_some_iff] at em
  obtain ⟨⟨o, s1⟩, h1, x, h2, h3⟩ := em
  cases h3
  exact ⟨κ, η, env, st, o, _, R, h1, fun v κ1 H1 R1 e1 v1 => q _ κ1 H1 R1 e1 (by rw [sh_isN (v1.res R1 h2)]; exact .bl _)⟩
theorem notN_t {m : M Opd} {σ : L2.St} {H : Hp} {Q : VK} (h : tE X.K (mNotN m) σ H Q) : tNotN (tO X.K m) σ H Q := by
  obtain ⟨κ, η, env, st, d, st', R, em, q⟩ := h
  unfold mNotN at em
  simp only [Option.bind_eq_some_iff, Option.map_eq_some_iff] at em
  obtain ⟨⟨o, s1⟩, h1, x, h2, h3⟩ := em
  cases h3
  exact ⟨κ, η, env, st, o, _, R, h1, fun v κ1 H1 R1 e1 v1 => q _ κ1 H1 R1 e1 (by rw [sh_isN (v1.res R1 h2)]; exact .bl _)⟩
theorem se_isN {m : M Opd} {j pos'} (h : SO X a m) : SE X (.Compare a [.Is] [.Constant .none j pos'] pos) (mIsN m) := PE.imp (pe_cmp (pc_isN h)) fun σ H Q h => isN_t h
theorem st_isN {m : M Opd} {j pos'} (h : SO X a m) : ST X (.Compare a [.Is] [.Constant .none j pos'] pos) (mB (mIsN m)) := PT.imp (pt_cmp (pc_isN h)) fun σ H Q h => test_t (t := tIsN (tO X.K m)) (fun Q' h' => isN_t h') h
theorem se_notN {m : M Opd} {j pos'} (h : SO X a m) : SE X (.Compare a [.IsNot] [.Constant .none j pos'] pos) (mNotN m) := PE.imp (pe_cmp (pc_notN h)) fun σ H Q h => notN_t h
theorem st_notN {m : M Opd} {j pos'} (h : SO X a m) : ST X (.Compare a [.IsNot] [.Constant .none j pos'] pos) (mB (mNotN m)) := PT.imp (pt_cmp (pc_notN h)) fun σ H Q h => test_t (t := tNotN (tO X.K m)) (fun Q' h' => notN_t h') h
end
end ML
set_option maxRecDepth 100000
/-! ML3: operators on data, arguments, builtins, subscripts, displays. -/
namespace ML
open PySem PySem.Spec PyProof.Rows L2
section
variable {X : Cx} {a b c : Expr} {pos : Pos}
theorem sh_int {K : PySem.W.Frag} {B : List Addr} {H : Hp} {v : V} {i : Int} (h : Sh K B H v (.int i)) : v = .int i := by
  cases h with
  | rp h => cases h; rfl
theorem sh_bool {K : PySem.W.Frag} {B : List Addr} {H : Hp} {v : V} {i : Bool} (h : Sh K B H v (.bool i)) : v = .bl i := by
  cases h with
  | rp h => cases h; rfl
theorem sh_tup {K : PySem.W.Frag} {B : List Addr} {H : Hp} {v : V} {ds : List D} (h : Sh K B H v (.tuple ds)) : ∃ a xs, v = .ref a ∧ SqT K H a xs ∧ RpAll K B H xs ds := by
  cases h with
  | rp h => cases h with | tup e r => exact ⟨_, _, rfl, e, r⟩
theorem sh_lst {K : PySem.W.Frag} {B : List Addr} {H : Hp} {v : V} {ds : List D} (h : Sh K B H v (.list ds)) : ∃ a xs, v = .ref a ∧ SqL K H a xs ∧ RpAll K B H xs ds := by
  cases h with
  | rp h => cases h with | lst e n r => exact ⟨_, _, rfl, .inl (.inl e), r⟩
  | lst e r => exact ⟨_, _, rfl, e, r⟩
theorem Sh.dp {K : PySem.W.Frag} {B : List Addr} {H : Hp} {v : V} {d : D} (h : Sh K B H v d) : Dp K H v d := by
  cases h with
  | rp h => exact h.dp
  | lst e r => exact .lst e r.dp
/-! two ints -/
def gI (f : Int → Int → Option Int) (x y : D) : Option D := match x, y with
  | .int i, .int j => (f i j).map .int
  | _, _ => none
def gIB (f : Int → Int → Bool) (x y : D) : Option D := match x, y with
  | .int i, .int j => some (.bool (f i j))
  | _, _ => none
theorem gI_some {f : Int → Int → Option Int} {x y d : D} (h : gI f x y = some d) : ∃ i j k, x = .int i ∧ y = .int j ∧ f i j = some k ∧ d = .int k := by
  unfold gI at h
  split at h
  · obtain ⟨k, h1, h2⟩ := Option.map_eq_some_iff.mp h
    exact ⟨_, _, k, rfl, rfl, h1, h2.symm⟩
  · cases h
theorem gIB_some {f : Int → Int → Bool} {x y d : D} (h : gIB f x y = some d) : ∃ i j, x = .int i ∧ y = .int j ∧ d = .bool (f i j) := by
  unfold gIB at h
  split at h
  · cases h; exact ⟨_, _, rfl, rfl, rfl⟩
  · cases h
theorem os_I {C : Int → Int → Prop} {g : Int → Int → Int} {f : Int → Int → Option Int} (hf : ∀ i j k, f i j = some k → C i j ∧ k = g i j) : OpS X (rI C fun i j => .int (g i j)) (gI f) := by
  intro κ η H x y dx dy d Q hx hy hg q
  obtain ⟨i, j, k, rfl, rfl, h, rfl⟩ := gI_some hg
  obtain ⟨hc, rfl⟩ := hf i j k h
  exact ⟨i, j, sh_int hx, sh_int hy, hc, q _ H (Same.refl H) (.int _)⟩
theorem os_I0 {g : Int → Int → Int} : OpS X (rI0 fun i j => .int (g i j)) (gI fun i j => some (g i j)) := by
  intro κ η H x y dx dy d Q hx hy hg q
  obtain ⟨i, j, k, rfl, rfl, h, rfl⟩ := gI_some hg
  cases h
  exact ⟨i, j, sh_int hx, sh_int hy, q _ H (Same.refl H) (.int _)⟩
theorem os_IB {g : Int → Int → Bool} : OpS X (rI0 fun i j => .bl (g i j)) (gIB g) := by
  intro κ η H x y dx dy d Q hx hy hg q
  obtain ⟨i, j, rfl, rfl, rfl⟩ := gIB_some hg
  exact ⟨i, j, sh_int hx, sh_int hy, q _ H (Same.refl H) (.bl _)⟩
theorem OpS.or {r r' : R2} {g g' : D → D → Option D} (h : OpS X r g) (h' : OpS X r' g') : OpS X (fun x y H Q => r x y H Q ∨ r' x y H Q) (fun x y => (g x y).or (g' x y)) := by
  intro κ η H x y dx dy d Q hx hy hg q
  replace hg : (g dx dy).or (g' dx dy) = some d := hg
  cases e : g dx dy with
  | some d' =>
    rw [e] at hg
    cases hg
    exact .inl (h κ η H x y dx dy d Q hx hy e q)
  | none =>
    rw [e] at hg
    exact .inr (h' κ η H x y dx dy d Q hx hy hg q)
/-- new things that are tracked -/
theorem same_new {H : Hp} {p : Addr} {o : HO} (h : H p = none) : Same H (upd H p o) := fun b u e => by
  rw [upd_ne (ne_of_none e h)]
  exact e
theorem rps_same {K : PySem.W.Frag} {B : List Addr} {H H' : Hp} (s : Same H H') {vs : List V} {ds : List D} (r : RpAll K B H vs ds) : RpAll K B H' vs ds := r.mono (Fr.of_same (B := []) s) fun _ _ _ n => ⟨by simp, n⟩
theorem rp_same {K : PySem.W.Frag} {B : List Addr} {H H' : Hp} (s : Same H H') {vs : V} {ds : D} (r : Rp K B H vs ds) : Rp K B H' vs ds := r.mono (Fr.of_same (B := []) s) fun _ _ _ n => ⟨by simp, n⟩
theorem rp_newT {K : PySem.W.Frag} {B : List Addr} {H : Hp} {p : Addr} {vs : List V} {ds : List D} (h : H p = none) (r : RpAll K B H vs ds) : Rp K B (upd H p (.tup vs)) (.ref p) (.tuple ds) :=
  .tup (.inl (.inl upd_same)) (rps_same (same_new h) r)
/-- tuple + tuple -/
def gCatT (x y : D) : Option D := match x, y with
  | .tuple xs, .tuple ys => if xs.length + ys.length ≤ 1000000 then some (.tuple (xs ++ ys)) else none
  | _, _ => none
theorem million : 1000000 ≤ sizeLine := by rw [sizeLine_eq]; decide
theorem rps_nil {K : PySem.W.Frag} {B : List Addr} {H : Hp} {vs : List V} {ds : List D} (r : RpAll K B H vs ds) : vs = [] ↔ ds = [] := by
  cases r <;> simp
theorem os_catT : OpS X (rCatA X.K) gCatT := by
  intro κ η H x y dx dy d Q hx hy hg q
  unfold gCatT at hg
  split at hg
  · rename_i xs ys
    split at hg
    · rename_i hz
      cases hg
      obtain ⟨a, vs, rfl, ha, ra⟩ := sh_tup hx
      obtain ⟨b, ws, rfl, hb, rb⟩ := sh_tup hy
      refine ⟨a, b, vs, ws, rfl, rfl, ha, hb, by rw [ra.length, rb.length]; exact Nat.le_trans hz million, fun e => ?_, fun e e2 => ?_, fun e e2 p hp => ?_⟩
      · rw [(rps_nil ra).mp e, List.nil_append] at q
        exact q _ H (Same.refl H) (.tup hb rb)
      · rw [(rps_nil rb).mp e2, List.append_nil] at q
        exact q _ H (Same.refl H) (.tup ha ra)
      · exact q _ _ (same_new hp) (rp_newT hp (ra.append rb))
    · cases hg
  · cases hg
def gPow (i j : Int) : Option Int := if 0 ≤ j ∧ j ≤ 1000 ∧ i.natAbs < 2 ^ 64 then some (i ^ j.toNat) else none
def gMul (i j : Int) : Option Int := if (-(2 ^ 64) < i ∧ i < 2 ^ 64) ∨ (-(2 ^ 64) < j ∧ j < 2 ^ 64) then some (i * j) else none
def gDiv (i j : Int) : Option Int := if 0 < j ∧ j < 1073741824 then some (i / j) else none
def gMod (i j : Int) : Option Int := if 0 < j then some (i % j) else none
theorem os_pow : OpS X (rI CPow fun i j => .int (i ^ j.toNat)) (gI gPow) := os_I fun i j k h => by
  unfold gPow at h
  split at h
  · rename_i hc
    cases h
    exact ⟨⟨hc.1, by omega, hc.2.2⟩, rfl⟩
  · cases h
theorem os_mul : OpS X (rI CMul fun i j => .int (i * j)) (gI gMul) := os_I fun i j k h => by
  unfold gMul at h
  split at h
  · rename_i hc
    cases h
    exact ⟨hc, rfl⟩
  · cases h
theorem os_div : OpS X (rI CDiv fun i j => .int (i / j)) (gI gDiv) := os_I fun i j k h => by
  unfold gDiv at h
  split at h
  · rename_i hc
    cases h
    exact ⟨hc, rfl⟩
  · cases h
theorem os_mod : OpS X (rI (fun _ j => 0 < j) fun i j => .int (i % j)) (gI gMod) := os_I fun i j k h => by
  unfold gMod at h
  split at h
  · rename_i hc
    cases h
    exact ⟨hc, rfl⟩
  · cases h
/-- a + b: ints, tuples -/
def gAdd (x y : D) : Option D := (gI (fun i j => some (i + j)) x y).or (gCatT x y)
def mAdd := mBin gAdd
theorem se_add {ma mb : M Opd} (ha : SO X a ma) (hb : SO X b mb) : SE X (.BinOp a .Add b pos) (mAdd ma mb) := se_bin (op_add.or op_catA) (os_I0.or os_catT) ha hb
def mSub := mBin (gI fun i j => some (i - j))
theorem se_sub {ma mb : M Opd} (ha : SO X a ma) (hb : SO X b mb) : SE X (.BinOp a .Sub b pos) (mSub ma mb) := se_bin op_sub os_I0 ha hb
/-- tuple * int -/
def gRepT (x y : D) : Option D := match x, y with
  | .tuple xs, .int k => if xs ≠ [] ∧ 2 ≤ k ∧ k ≤ 1000 ∧ xs.length ≤ 1000 then some (.tuple (List.replicate k.toNat xs).flatten) else none
  | _, _ => none
theorem os_repT : OpS X (rRepT X.K) gRepT := by
  intro κ η H x y dx dy d Q hx hy hg q
  unfold gRepT at hg
  split at hg
  · rename_i xs k
    split at hg
    · rename_i hz
      cases hg
      obtain ⟨a, vs, rfl, ha, ra⟩ := sh_tup hx
      refine ⟨a, k, vs, rfl, sh_int hy, ha, fun e => hz.1 ((rps_nil ra).mp e), hz.2.1, hz.2.2.1, by rw [ra.length]; exact hz.2.2.2, fun p hp => ?_⟩
      exact q _ _ (same_new hp) (rp_newT hp (ra.flat _))
    · cases hg
  · cases hg
def gMulA (x y : D) : Option D := (gI gMul x y).or (gRepT x y)
def mMul := mBin gMulA
theorem se_mul {ma mb : M Opd} (ha : SO X a ma) (hb : SO X b mb) : SE X (.BinOp a .Mult b pos) (mMul ma mb) := se_bin (op_mul.or op_repT) (os_mul.or os_repT) ha hb
def mDiv := mBin (gI gDiv)
theorem se_div {ma mb : M Opd} (ha : SO X a ma) (hb : SO X b mb) : SE X (.BinOp a .FloorDiv b pos) (mDiv ma mb) := se_bin op_fdiv os_div ha hb
def mMod := mBin (gI gMod)
theorem se_mod {ma mb : M Opd} (ha : SO X a ma) (hb : SO X b mb) : SE X (.BinOp a .Mod b pos) (mMod ma mb) := se_bin op_mod os_mod ha hb
def mPow := mBin (gI gPow)
theorem se_pow {ma mb : M Opd} (ha : SO X a ma) (hb : SO X b mb) : SE X (.BinOp a .Pow b pos) (mPow ma mb) := se_bin op_pow os_pow ha hb
/-! comparisons -/
def mLt := mBin (gIB fun i j => decide (i < j))
def mLe := mBin (gIB fun i j => decide (i ≤ j))
def mGt := mBin (gIB fun i j => decide (j < i))
def mGe := mBin (gIB fun i j => decide (j ≤ i))
theorem se_lt {ma mb : M Opd} (ha : SO X a ma) (hb : SO X b mb) : SE X (.Compare a [.Lt] [b] pos) (mLt ma mb) := se_cmp op_lt os_IB ha hb (nomark _)
theorem se_le {ma mb : M Opd} (ha : SO X a ma) (hb : SO X b mb) : SE X (.Compare a [.LtE] [b] pos) (mLe ma mb) := se_cmp op_le os_IB ha hb (nomark _)
theorem se_gt {ma mb : M Opd} (ha : SO X a ma) (hb : SO X b mb) : SE X (.Compare a [.Gt] [b] pos) (mGt ma mb) := se_cmp op_gt os_IB ha hb (nomark _)
theorem se_ge {ma mb : M Opd} (ha : SO X a ma) (hb : SO X b mb) : SE X (.Compare a [.GtE] [b] pos) (mGe ma mb) := se_cmp op_ge os_IB ha hb (nomark _)
theorem st_lt {ma mb : M Opd} (ha : SO X a ma) (hb : SO X b mb) : ST X (.Compare a [.Lt] [b] pos) (mB (mLt ma mb)) := st_cmp op_lt os_IB ha hb (nomark _)
theorem st_le {ma mb : M Opd} (ha : SO X a ma) (hb : SO X b mb) : ST X (.Compare a [.LtE] [b] pos) (mB (mLe ma mb)) := st_cmp op_le os_IB ha hb (nomark _)
theorem st_gt {ma mb : M Opd} (ha : SO X a ma) (hb : SO X b mb) : ST X (.Compare a [.Gt] [b] pos) (mB (mGt ma mb)) := st_cmp op_gt os_IB ha hb (nomark _)
theorem st_ge {ma mb : M Opd} (ha : SO X a ma) (hb : SO X b mb) : ST X (.Compare a [.GtE] [b] pos) (mB (mGe ma mb)) := st_cmp op_ge os_IB ha hb (nomark _)
def gEq (x y : D) : Option D := if SeqAt.shaped x = true ∧ SeqAt.shaped y = true then some (.bool (PyData.eqv x y)) else none
def gNe (x y : D) : Option D := if SeqAt.shaped x = true ∧ SeqAt.shaped y = true then some (.bool (!PyData.eqv x y)) else none
theorem os_eq : OpS X (rEqD X.K) gEq := by
  intro κ η H x y dx dy d Q hx hy hg q
  unfold gEq at hg
  split at hg
  · rename_i h
    cases hg
    exact ⟨dx, dy, hx.dp, hy.dp, h.1, h.2, q _ H (Same.refl H) (.bl _)⟩
  · cases hg
theorem os_ne : OpS X (rNeD X.K) gNe := by
  intro κ η H x y dx dy d Q hx hy hg q
  unfold gNe at hg
  split at hg
  · rename_i h
    cases hg
    exact ⟨dx, dy, hx.dp, hy.dp, h.1, h.2, q _ H (Same.refl H) (.bl _)⟩
  · cases hg
def mEq := mBin gEq
def mNe := mBin gNe
theorem se_eq {ma mb : M Opd} (hu : X.A.units + 64 < cLine) (ha : SO X a ma) (hb : SO X b mb) : SE X (.Compare a [.Eq] [b] pos) (mEq ma mb) := se_cmp (op_eqD hu) os_eq ha hb (nomark _)
theorem se_ne {ma mb : M Opd} (hu : X.A.units + 64 < cLine) (ha : SO X a ma) (hb : SO X b mb) : SE X (.Compare a [.NotEq] [b] pos) (mNe ma mb) := se_cmp (op_neD hu) os_ne ha hb (nomark _)
theorem st_eq {ma mb : M Opd} (hu : X.A.units + 64 < cLine) (ha : SO X a ma) (hb : SO X b mb) : ST X (.Compare a [.Eq] [b] pos) (mB (mEq ma mb)) := st_cmp (op_eqD hu) os_eq ha hb (nomark _)
theorem st_ne {ma mb : M Opd} (hu : X.A.units + 64 < cLine) (ha : SO X a ma) (hb : SO X b mb) : ST X (.Compare a [.NotEq] [b] pos) (mB (mNe ma mb)) := st_cmp (op_neD hu) os_ne ha hb (nomark _)
/-- x in xs, ints -/
def isI (i : Int) (d : D) : Bool := match d with
  | .int j => j == i
  | _ => false
def anI (d : D) : Bool := match d with
  | .int _ => true
  | _ => false
def gIn (x y : D) : Option D := match x, y with
  | .int i, .list ds => if ds.all anI = true then some (.bool (ds.any (isI i))) else none
  | .int i, .tuple ds => if ds.all anI = true then some (.bool (ds.any (isI i))) else none
  | _, _ => none
theorem rps_anI {K : PySem.W.Frag} {B : List Addr} {H : Hp} : ∀ {vs : List V} {ds : List D}, RpAll K B H vs ds → ds.all anI = true → vs.all flatV = true ∧ ∀ i, inV (.int i) vs = ds.any (isI i)
  | _, _, .nil, _ => ⟨rfl, fun _ => rfl⟩
  | _, _, .cons (d := d) r t, h => by
    rw [List.all_cons, Bool.and_eq_true] at h
    obtain ⟨h1, h2⟩ := rps_anI t h.2
    obtain ⟨j, rfl⟩ : ∃ j, d = .int j := by
      cases d <;> first | exact ⟨_, rfl⟩ | exact absurd h.1 Bool.false_ne_true
    cases r
    refine ⟨by rw [List.all_cons, h1]; rfl, fun i => ?_⟩
    have := h2 i
    unfold inV at this ⊢
    rw [List.any_cons, List.any_cons, this]
    rfl
theorem os_in : OpS X (rIn X.K false) gIn := by
  intro κ η H x y dx dy d Q hx hy hg q
  unfold gIn at hg
  split at hg
  · rename_i i ds
    split at hg
    · rename_i h
      cases hg
      obtain ⟨a, xs, rfl, ha, ra⟩ := sh_lst hy
      obtain ⟨h1, h2⟩ := rps_anI ra h
      have e := sh_int hx
      subst e
      refine ⟨a, xs, rfl, .inl ha, rfl, h1, ?_⟩
      rw [if_neg Bool.false_ne_true, h2]
      exact q _ H (Same.refl H) (.bl _)
    · cases hg
  · rename_i i ds
    split at hg
    · rename_i h
      cases hg
      obtain ⟨a, xs, rfl, ha, ra⟩ := sh_tup hy
      obtain ⟨h1, h2⟩ := rps_anI ra h
      have e := sh_int hx
      subst e
      refine ⟨a, xs, rfl, .inr ha, rfl, h1, ?_⟩
      rw [if_neg Bool.false_ne_true, h2]
      exact q _ H (Same.refl H) (.bl _)
    · cases hg
  · cases hg
def gNotIn (x y : D) : Option D := (gIn x y).bind fun d => (asB d).map fun b => .bool (!b)
theorem os_notIn : OpS X (rIn X.K true) gNotIn := by
  intro κ η H x y dx dy d Q hx hy hg q
  unfold gNotIn at hg
  obtain ⟨d', h1, h2⟩ := Option.bind_eq_some_iff.mp hg
  obtain ⟨b, h3, h4⟩ := Option.map_eq_some_iff.mp h2
  have e := asB_some h3
  subst e h4
  unfold gIn at h1
  split at h1
  · rename_i i ds
    split at h1
    · rename_i h
      cases h1
      obtain ⟨a, xs, rfl, ha, ra⟩ := sh_lst hy
      obtain ⟨h1, h2⟩ := rps_anI ra h
      have e := sh_int hx
      subst e
      refine ⟨a, xs, rfl, .inl ha, rfl, h1, ?_⟩
      rw [if_pos rfl, h2]
      exact q _ H (Same.refl H) (.bl _)
    · cases h1
  · rename_i i ds
    split at h1
    · rename_i h
      cases h1
      obtain ⟨a, xs, rfl, ha, ra⟩ := sh_tup hy
      obtain ⟨h1, h2⟩ := rps_anI ra h
      have e := sh_int hx
      subst e
      refine ⟨a, xs, rfl, .inr ha, rfl, h1, ?_⟩
      rw [if_pos rfl, h2]
      exact q _ H (Same.refl H) (.bl _)
    · cases h1
  · cases h1
def mIn := mBin gIn
def mNotIn := mBin gNotIn
theorem se_in {ma mb : M Opd} (ha : SO X a ma) (hb : SO X b mb) (hm : behindInMarks .In b = false := by with_unfolding_all rfl) : SE X (.Compare a [.In] [b] pos) (mIn ma mb) := se_cmp op_in_seq os_in ha hb hm
theorem st_in {ma mb : M Opd} (ha : SO X a ma) (hb : SO X b mb) (hm : behindInMarks .In b = false := by with_unfolding_all rfl) : ST X (.Compare a [.In] [b] pos) (mB (mIn ma mb)) := st_cmp op_in_seq os_in ha hb hm
theorem se_notIn {ma mb : M Opd} (ha : SO X a ma) (hb : SO X b mb) (hm : behindInMarks .NotIn b = false := by with_unfolding_all rfl) : SE X (.Compare a [.NotIn] [b] pos) (mNotIn ma mb) := se_cmp op_notIn_seq os_notIn ha hb hm
theorem st_notIn {ma mb : M Opd} (ha : SO X a ma) (hb : SO X b mb) (hm : behindInMarks .NotIn b = false := by with_unfolding_all rfl) : ST X (.Compare a [.NotIn] [b] pos) (mB (mNotIn ma mb)) := st_cmp op_notIn_seq os_notIn ha hb hm
/-- a op b op' c -/
def mChain (g g' : D → D → Option D) (ma mb mc : M Opd) : M D := fun env st => (ma env st).bind fun p => (mb env p.2).bind fun q => (res env q.2 p.1).bind fun x => (res env q.2 q.1).bind fun y => (g x y).bind fun d => (asB d).bind fun k =>
  if k = true then (mc env q.2).bind fun r => (res env r.2 q.1).bind fun y => (res env r.2 r.1).bind fun z => (g' y z).map fun d => (d, r.2) else some (.bool false, q.2)
theorem chain_t {r r' : R2} {g g' : D → D → Option D} (hs : OpS X r g) (hs' : OpS X r' g') {ma mb mc : M Opd} {σ : L2.St} {H : Hp} {Q : VK} (h : tE X.K (mChain g g' ma mb mc) σ H Q) : tChain r r' (tO X.K ma) (tO X.K mb) (tO X.K mc) σ H Q := by
  obtain ⟨κ, η, env, st, d, st', R, em, q⟩ := h
  unfold mChain at em
  simp only [Option.bind_eq_some_iff] at em
  obtain ⟨⟨oa, s1⟩, h1, ⟨ob, s2⟩, h2, x, h3, y, h4, d1, h5, k, h6, h7⟩ := em
  have e := asB_some h6
  subst e
  refine ⟨κ, η, env, st, oa, s1, R, h1, fun vx κ1 H1 R1 e1 v1 => ⟨κ1, η, env, s1, ob, s2, R1, h2, fun vy κ2 H2 R2 e2 v2 => ?_⟩⟩
  refine hs κ2 η H2 vx vy x y _ _ ((v1.ext e2).res R2 h3) (v2.res R2 h4) h5 fun v H3 sm rp => ?_
  cases rp
  refine ⟨k, rfl, ?_⟩
  have e3 : Ext κ H κ2 H3 := (e1.trans e2).trans (Ext.of_same sm)
  cases k with
  | false =>
    have : some (PyData.bool false, s2) = some (d, st') := by simpa using h7
    cases this
    exact q _ κ2 H3 (R2.same sm) e3 (.bl _)
  | true =>
    simp only [if_true, Option.bind_eq_some_iff, Option.map_eq_some_iff] at h7
    obtain ⟨⟨oc, s3⟩, k1, y', k2, z, k3, d', k4, k5⟩ := h7
    cases k5
    refine ⟨κ2, η, env, s2, oc, s3, R2.same sm, k1, fun vz κ4 H4 R4 e4 v4 => ?_⟩
    exact hs' κ4 η H4 vy vz y' z _ Q (((v2.ext (Ext.of_same sm)).ext e4).res R4 k2) (v4.res R4 k3) k4 fun v H5 sm5 rp5 => q v κ4 H5 (R4.same sm5) ((e3.trans e4).trans (Ext.of_same sm5)) rp5
theorem se_chain {op op' : CmpOp} {r r' : R2} {g g' : D → D → Option D} (ho : OpR X (compareOp op) r) (ho' : OpR X (compareOp op') r') (hs : OpS X r g) (hs' : OpS X r' g') {ma mb mc : M Opd} (ha : SO X a ma) (hb : SO X b mb) (hc : SO X c mc)
    (hm : lastMarks [op, op'] [b, c] = false := by with_unfolding_all rfl) : SE X (.Compare a [op, op'] [b, c] pos) (mChain g g' ma mb mc) := PE.imp (pe_chain ho ho' ha hb hc hm) fun σ H Q h => chain_t hs hs' h
theorem st_chain {op op' : CmpOp} {r r' : R2} {g g' : D → D → Option D} (ho : OpR X (compareOp op) r) (ho' : OpR X (compareOp op') r') (hs : OpS X r g) (hs' : OpS X r' g') {ma mb mc : M Opd} (ha : SO X a ma) (hb : SO X b mb) (hc : SO X c mc)
    (hm : lastMarks [op, op'] [b, c] = false := by with_unfolding_all rfl) : ST X (.Compare a [op, op'] [b, c] pos) (mB (mChain g g' ma mb mc)) := PT.imp (pt_chain ho ho' ha hb hc hm) fun σ H Q h => test_t (fun Q' h' => chain_t hs hs' h') h
/-- - a -/
def mNeg (m : M D) : M D := fun env st => (m env st).bind fun p => match p.1 with
  | .int i => some (.int (-i), p.2)
  | _ => none
theorem se_neg {m : M D} (h : SE X a m) : SE X (.UnaryOp .USub a pos) (mNeg m) := PE.imp (pe_un un_neg h) fun σ H Q ⟨κ, η, env, st, d, st', R, em, q⟩ => by
  unfold mNeg at em
  simp only [Option.bind_eq_some_iff] at em
  obtain ⟨⟨x, s1⟩, h1, h2⟩ := em
  dsimp only at h2
  split at h2
  · cases h2
    refine ⟨κ, η, env, st, _, _, R, h1, fun v κ1 H1 R1 e1 rv => ?_⟩
    cases rv
    exact ⟨_, rfl, q _ κ1 H1 R1 e1 (.int _)⟩
  · cases h2
/-! subscripts -/
def gIx (x y : D) : Option D := match x, y with
  | .list ds, .int i => atI ds i
  | .tuple ds, .int i => atI ds i
  | _, _ => none
theorem rps_at {K : PySem.W.Frag} {B : List Addr} {H : Hp} {vs : List V} {ds : List D} {i : Int} {d : D} (r : RpAll K B H vs ds) (h : atI ds i = some d) : ∃ v, atI vs i = some v ∧ Rp K B H v d := by
  unfold atI at h ⊢
  rw [r.length]
  obtain ⟨j, h1, h2⟩ := Option.bind_eq_some_iff.mp h
  obtain ⟨v, h3, h4⟩ := r.get h2
  exact ⟨v, by rw [h1]; exact h3, h4⟩
theorem os_ix : OpS X (rIx X.K) gIx := by
  intro κ η H x y dx dy d Q hx hy hg q
  unfold gIx at hg
  split at hg
  · obtain ⟨a, xs, rfl, ha, ra⟩ := sh_lst hx
    obtain ⟨v, h1, h2⟩ := rps_at ra hg
    exact .inl ⟨a, xs, _, v, rfl, sh_int hy, ha, h1, q v H (Same.refl H) h2⟩
  · obtain ⟨a, xs, rfl, ha, ra⟩ := sh_tup hx
    obtain ⟨v, h1, h2⟩ := rps_at ra hg
    exact .inr (.inl ⟨a, xs, _, v, rfl, sh_int hy, ha, h1, q v H (Same.refl H) h2⟩)
  · cases hg
def mIx := mBin gIx
theorem se_ix {ma mb : M Opd} (ha : SO X a ma) (hb : SO X b mb) (hs : PlainIx b := by exact fun _ _ => rfl) : SE X (.Subscript a b pos) (mIx ma mb) := PE.imp (pe_ix ix_seq ha hb hs) fun σ H Q h => bin_t os_ix h
/-! arguments -/
def aNil : M (List Opd) := fun _ st => some ([], st)
def aCons (m : M Opd) (r : M (List Opd)) : M (List Opd) := fun env st => (m env st).bind fun p => (r env p.2).map fun q => (p.1 :: q.1, q.2)
theorem sa_nil : SA X [] aNil := PA.imp pa_nil fun σ H Q ⟨κ, η, env, st, os, st', R, em, q⟩ => by
  cases em
  exact q [] κ H R Ext.refl .nil
theorem paired_ext {K : PySem.W.Frag} {κ κ' : List Fp} {η : Hid} {H H' : Hp} {σ : L2.St} {env : Env} (e : Ext κ H κ' H') : ∀ {vs : List V} {os : List Opd}, Paired (OV K κ η H σ env) vs os → Paired (OV K κ' η H' σ env) vs os
  | _, _, .nil => .nil
  | _, _, .cons r t => .cons (r.ext e) (paired_ext e t)
variable {e : Expr} {es : List Expr}
theorem sa_cons {m : M Opd} {r : M (List Opd)} (ha : SO X e m) (hr : SA X es r) (hs : starEach (e :: es) X.env = (false, eval e X.env) :: starEach es X.env := by rfl) : SA X (e :: es) (aCons m r) := PA.imp (pa_cons ha hr hs) fun σ H Q ⟨κ, η, env, st, os, st', R, em, q⟩ => by
  unfold aCons at em
  simp only [Option.bind_eq_some_iff, Option.map_eq_some_iff] at em
  obtain ⟨⟨o, s1⟩, h1, ⟨ps, s2⟩, h2, h3⟩ := em
  cases h3
  exact ⟨κ, η, env, st, o, s1, R, h1, fun v κ1 H1 R1 e1 v1 => ⟨κ1, η, env, s1, ps, _, R1, h2, fun vs κ2 H2 R2 e2 v2 => q _ κ2 H2 R2 (e1.trans e2) (.cons (v1.ext e2) v2)⟩⟩
/-- values alone -/
def vres (env : Env) : Opd → Option D
  | .v d => some d
  | .s i => match env[i]? with
    | some (some (.val d)) => some d
    | _ => none
  | .r _ _ => none
def vress (env : Env) : List Opd → Option (List D)
  | [] => some []
  | o :: os => (vres env o).bind fun d => (vress env os).map fun ds => d :: ds
def ress (env : Env) (st : Sto) : List Opd → Option (List D)
  | [] => some []
  | o :: os => (res env st o).bind fun d => (ress env st os).map fun ds => d :: ds
theorem OV.vres {K : PySem.W.Frag} {κ : List Fp} {η : Hid} {H : Hp} {σ : L2.St} {env : Env} {st : Sto} {v : V} {o : Opd} {d : D} (R : Rep K κ η H σ env st) (h : OV K κ η H σ env v o) (e : vres env o = some d) : Rp K (alls κ ++ η.all) H v d := by
  cases o with
  | v d' => cases e; exact h
  | r i k => cases e
  | s i =>
    unfold ML.vres at e
    dsimp only at e
    split at e
    · rename_i d' hd
      cases e
      obtain ⟨v', h1, h2⟩ := R.env i _ hd
      have h : σ[i]? = some (some v) := h
      rw [h] at h1
      have hv : v = v' := by simpa using h1
      subst hv
      cases h2 with
      | val r => exact r
    · cases e
theorem ovs_vres {K : PySem.W.Frag} {κ : List Fp} {η : Hid} {H : Hp} {σ : L2.St} {env : Env} {st : Sto} (R : Rep K κ η H σ env st) : ∀ {vs : List V} {os : List Opd} {ds : List D}, Paired (OV K κ η H σ env) vs os → vress env os = some ds → RpAll K (alls κ ++ η.all) H vs ds
  | _, _, _, .nil, e => by cases e; exact .nil
  | _, _, _, .cons r t, e => by
    unfold vress at e
    simp only [Option.bind_eq_some_iff, Option.map_eq_some_iff] at e
    obtain ⟨d, h1, ds, h2, h3⟩ := e
    cases h3
    exact .cons (r.vres R h1) (ovs_vres R t h2)
theorem ovs_res {K : PySem.W.Frag} {κ : List Fp} {η : Hid} {H : Hp} {σ : L2.St} {env : Env} {st : Sto} (R : Rep K κ η H σ env st) : ∀ {vs : List V} {os : List Opd} {ds : List D}, Paired (OV K κ η H σ env) vs os → ress env st os = some ds → Paired (Sh K (alls κ ++ η.all) H) vs ds
  | _, _, _, .nil, e => by cases e; exact .nil
  | _, _, _, .cons r t, e => by
    unfold ress at e
    simp only [Option.bind_eq_some_iff, Option.map_eq_some_iff] at e
    obtain ⟨d, h1, ds, h2, h3⟩ := e
    cases h3
    exact .cons (r.res R h1) (ovs_res R t h2)
/-- a tuple display -/
def mTup (m : M (List Opd)) : M D := fun env st => (m env st).bind fun p => (vress env p.1).bind fun ds => if ds.length ≤ 1000000 then some (.tuple ds, p.2) else none
theorem se_tup {x1} {m : M (List Opd)} (h : SA X es m) : SE X (.Tuple es x1 pos) (mTup m) := PE.imp (pe_tup h) fun σ H Q ⟨κ, η, env, st, d, st', R, em, q⟩ => by
  unfold mTup at em
  simp only [Option.bind_eq_some_iff] at em
  obtain ⟨⟨os, s1⟩, h1, ds, h2, h3⟩ := em
  split at h3
  · rename_i hz
    cases h3
    refine ⟨κ, η, env, st, os, _, R, h1, fun vs κ1 H1 R1 e1 v1 => ?_⟩
    have r := ovs_vres R1 v1 h2
    refine ⟨by rw [r.length]; exact Nat.le_trans hz million, fun p hp => ?_⟩
    exact q _ κ1 _ (R1.same (same_new hp)) (e1.trans (Ext.of_same (same_new hp))) (rp_newT hp r)
  · cases h3
/-- a list display -/
def nLst (m : M (List Opd)) : M (List D) := fun env st => (m env st).bind fun p => (vress env p.1).bind fun ds => if ds.length ≤ 1000000 then some (ds, p.2) else none
theorem Rep.hide {K : PySem.W.Frag} {κ : List Fp} {η : Hid} {H : Hp} {σ : L2.St} {env : Env} {st : Sto} (R : Rep K κ η H σ env st) {p : Addr} {o : HO} (hp : H p = none) : Rep K κ (hid p η) (upd H p o) σ env st := by
  have s : Same H (upd H p o) := same_new hp
  have f : Fr [] H (upd H p o) := Fr.of_same s
  have hB : ∀ b xs, H b = some (HO.lst xs) → b ∉ alls κ ++ η.all → b ∉ ([] : List Addr) ∧ b ∉ alls κ ++ p :: η.all := fun b xs e n => ⟨by simp, fun z => n (by
    rcases List.mem_append.mp z with z | z
    · exact List.mem_append_left _ z
    · rcases List.mem_cons.mp z with z | z
      · rw [z, hp] at e; cases e
      · exact List.mem_append_right _ z)⟩
  have ht : ∀ a ∈ alls κ, H a ≠ none := fun a ha => by
    obtain ⟨q, hq, h⟩ := mem_alls.mp ha
    obtain ⟨u, _, ro⟩ := paired_mem R.sto q hq
    cases ro with
    | lst e r =>
      rcases h with h | h
      · rw [h, e]; exact Option.some_ne_none _
      · cases h
    | dic e r =>
      rcases h with h | h
      · rw [h, e]; exact Option.some_ne_none _
      · cases h
    | mat e r =>
      rcases h with h | h
      · rw [h, e]; exact Option.some_ne_none _
      · obtain ⟨ds, _, xs, z, _⟩ := paired_mem r a h
        rw [z]; exact Option.some_ne_none _
  refine ⟨R.nd, fun a ha z => ?_, List.nodup_cons.mpr ⟨fun z => R.hn _ z hp, R.en⟩, fun a ha => ?_, R.len, fun i e h => ?_, Paired.mapP R.sto fun p o r => ?_⟩
  · rcases List.mem_cons.mp z with z | z
    · exact ht a ha (by rw [z]; exact hp)
    · exact R.dj a ha z
  · rcases List.mem_cons.mp ha with z | z
    · rw [z, upd_same]; exact Option.some_ne_none _
    · cases q : H a with
      | none => exact absurd q (R.hn a z)
      | some o => rw [s _ _ q]; exact Option.some_ne_none _
  · obtain ⟨v, h1, h2⟩ := R.env i e h
    refine ⟨v, h1, ?_⟩
    cases h2 with
    | val r => exact .val (r.mono f hB)
    | mdl k q => exact .mdl k (q.mono f hB)
    | bor h3 n q =>
      rename_i b xs ds
      have hb : b ≠ p := by
        rintro rfl
        rcases h3 with h3 | ⟨o, h3⟩ <;> (rw [hp] at h3; cases h3)
      refine .bor ?_ (fun z => ?_) (q.mono f hB)
      · rcases h3 with h3 | ⟨o, h3⟩
        · exact .inl (s _ _ h3)
        · exact .inr ⟨o, s _ _ h3⟩
      · rcases List.mem_append.mp z with z | z
        · exact n (List.mem_append_left _ z)
        · rcases List.mem_cons.mp z with z | z
          · exact hb z
          · exact n (List.mem_append_right _ z)
    | loc h3 => exact .loc h3
  · cases r with
    | lst e r => exact .lst (s _ _ e) (r.mono f hB)
    | dic e r => exact .dic (s _ _ e) (Paired.mapP r fun p q z => ⟨z.1, z.2.mono f hB⟩)
    | mat e r => exact .mat (s _ _ e) (Paired.mapP r fun b ds ⟨xs, z1, z2⟩ => ⟨xs, s _ _ z1, z2.mono f hB⟩)
theorem rps_hide {K : PySem.W.Frag} {κ : List Fp} {η : Hid} {H : Hp} {p : Addr} {o : HO} (hp : H p = none) {vs : List V} {ds : List D} (r : RpAll K (alls κ ++ η.all) H vs ds) : RpAll K (alls κ ++ p :: η.all) (upd H p o) vs ds :=
  r.mono (Fr.of_same (B := []) (same_new hp)) fun b xs e n => ⟨by simp, fun z => n (by
    rcases List.mem_append.mp z with z | z
    · exact List.mem_append_left _ z
    · rcases List.mem_cons.mp z with z | z
      · rw [z, hp] at e; cases e
      · exact List.mem_append_right _ z)⟩
theorem Ext.none {κ κ' : List Fp} {H H' : Hp} (e : Ext κ H κ' H') {p : Addr} (h : H' p = none) (ht : ∀ a ∈ alls κ', H' a ≠ none) : H p = none := by
  cases q : H p with
  | none => rfl
  | some o =>
    by_cases hm : p ∈ alls κ
    · exact absurd h (ht p (e.sub p hm))
    · rw [e.fr.same p o q hm] at h
      cases h
theorem Rep.tracked {K : PySem.W.Frag} {κ : List Fp} {η : Hid} {H : Hp} {σ : L2.St} {env : Env} {st : Sto} (R : Rep K κ η H σ env st) : ∀ a ∈ alls κ, H a ≠ none := fun a ha => by
  obtain ⟨q, hq, h⟩ := mem_alls.mp ha
  obtain ⟨u, _, ro⟩ := paired_mem R.sto q hq
  cases ro with
  | lst e r =>
    rcases h with h | h
    · rw [h, e]; exact Option.some_ne_none _
    · cases h
  | dic e r =>
    rcases h with h | h
    · rw [h, e]; exact Option.some_ne_none _
    · cases h
  | mat e r =>
    rcases h with h | h
    · rw [h, e]; exact Option.some_ne_none _
    · obtain ⟨ds, _, xs, z, _⟩ := paired_mem r a h
      rw [z]; exact Option.some_ne_none _
/-- the end of every rule that makes a new list -/
theorem new_end {K : PySem.W.Frag} {κ κ1 : List Fp} {η : Hid} {H H1 : Hp} {σ : L2.St} {env : Env} {st' : Sto} {ds : List D} {vs : List V} {Q : VK}
    (q : ∀ a xs κ' H', Rep K κ' (hid a η) H' σ env st' → Ext κ H κ' H' → H a = Option.none → H' a = some (.lst xs) → RpAll K (alls κ' ++ a :: η.all) H' xs ds → Q (.ref a) H')
    (R1 : Rep K κ1 η H1 σ env st') (e1 : Ext κ H κ1 H1) (r : RpAll K (alls κ1 ++ η.all) H1 vs ds) : ∀ p, H1 p = Option.none → Q (.ref p) (upd H1 p (.lst vs)) := fun p hp =>
  q p vs κ1 _ (R1.hide hp) (e1.trans (Ext.of_same (same_new hp))) (e1.none hp R1.tracked) upd_same (rps_hide hp r)
theorem sn_lst {m : M (List Opd)} (h : SA X es m) : SN X (.List es pos) (nLst m) := PE.imp (pe_lst h) fun σ H Q ⟨κ, η, env, st, d, st', R, em, q⟩ => by
  unfold nLst at em
  simp only [Option.bind_eq_some_iff] at em
  obtain ⟨⟨os, s1⟩, h1, ds, h2, h3⟩ := em
  split at h3
  · rename_i hz
    cases h3
    refine ⟨κ, η, env, st, os, _, R, h1, fun vs κ1 H1 R1 e1 v1 => ?_⟩
    have r := ovs_vres R1 v1 h2
    exact ⟨by rw [r.length]; exact Nat.le_trans hz million, new_end q R1 e1 r⟩
  · cases h3
/-! builtins -/
def CallS (X : Cx) (r : List V → Hp → VK → Prop) (g : List D → Option D) : Prop := ∀ (κ : List Fp) (η : Hid) (H : Hp) (xs : List V) (ds : List D) (d : D) (Q : VK),
  Paired (Sh X.K (alls κ ++ η.all) H) xs ds → g ds = some d → (∀ v H', Same H H' → Rp X.K (alls κ ++ η.all) H' v d → Q v H') → r xs H Q
def CallN (X : Cx) (r : List V → Hp → VK → Prop) (g : List D → Option (List D)) : Prop := ∀ (κ : List Fp) (η : Hid) (H : Hp) (xs : List V) (ds es : List D) (Q : VK),
  Paired (Sh X.K (alls κ ++ η.all) H) xs ds → g ds = some es → (∀ vs, RpAll X.K (alls κ ++ η.all) H vs es → ∀ p, H p = none → Q (.ref p) (upd H p (.lst vs))) → r xs H Q
def mCall (g : List D → Option D) (m : M (List Opd)) : M D := fun env st => (m env st).bind fun p => (ress env p.2 p.1).bind fun ds => (g ds).map fun d => (d, p.2)
def nCall (g : List D → Option (List D)) (m : M (List Opd)) : M (List D) := fun env st => (m env st).bind fun p => (ress env p.2 p.1).bind fun ds => (g ds).map fun d => (d, p.2)
theorem callB_t {r : List V → Hp → VK → Prop} {g : List D → Option D} (hs : CallS X r g) {m : M (List Opd)} {σ : L2.St} {H : Hp} {Q : VK} (h : tE X.K (mCall g m) σ H Q) : tCB r (tAs X.K m) σ H Q := by
  obtain ⟨κ, η, env, st, d, st', R, em, q⟩ := h
  unfold mCall at em
  simp only [Option.bind_eq_some_iff, Option.map_eq_some_iff] at em
  obtain ⟨⟨os, s1⟩, h1, ds, h2, d', h3, h4⟩ := em
  cases h4
  exact ⟨κ, η, env, st, os, _, R, h1, fun vs κ1 H1 R1 e1 v1 => hs κ1 η H1 vs ds _ Q (ovs_res R1 v1 h2) h3 fun v H' sm rp => q v κ1 H' (R1.same sm) (e1.trans (Ext.of_same sm)) rp⟩
theorem callN_t {r : List V → Hp → VK → Prop} {g : List D → Option (List D)} (hs : CallN X r g) {m : M (List Opd)} {σ : L2.St} {H : Hp} {Q : VK} (h : tN X.K (nCall g m) σ H Q) : tCB r (tAs X.K m) σ H Q := by
  obtain ⟨κ, η, env, st, d, st', R, em, q⟩ := h
  unfold nCall at em
  simp only [Option.bind_eq_some_iff, Option.map_eq_some_iff] at em
  obtain ⟨⟨os, s1⟩, h1, ds, h2, d', h3, h4⟩ := em
  cases h4
  exact ⟨κ, η, env, st, os, _, R, h1, fun vs κ1 H1 R1 e1 v1 => hs κ1 η H1 vs ds _ Q (ovs_res R1 v1 h2) h3 fun ws r p hp => new_end q R1 e1 r p hp⟩
variable {x : Str} {p : Pos} {id T : String}
theorem se_callB {r : List V → Hp → VK → Prop} {g : List D → Option D} {m : M (List Opd)} (hc : CallR X (.builtin id) r) (hs : CallS X r g) (hg : Gl X x) (hm : X.mg x = none) (hv : bootBuiltins x = some (.builtin id)) (ha : SA X (e :: es) m) (hn : x ≠ "__name__" := by decide) (hdb : (x == ("__debug__" : Str)) = false := by decide)
    (he : starEach (e :: es) X.env = (false, eval e X.env) :: starEach es X.env := by rfl) (hpl : (backTo pos (starEach es X.env)).any (·.1) = false := by rfl) : SE X (.Call (.Name x p) (e :: es) [] pos) (mCall g m) :=
  PE.imp (pe_callB hc hg hm hv ha hn hdb he hpl) fun σ H Q h => callB_t hs h
theorem se_callT {r : List V → Hp → VK → Prop} {g : List D → Option D} {m : M (List Opd)} (hc : CallR X (.type T) r) (hs : CallS X r g) (hg : Gl X x) (hm : X.mg x = none) (hv : bootBuiltins x = some (.type T)) (ha : SA X (e :: es) m) (hn : x ≠ "__name__" := by decide) (hdb : (x == ("__debug__" : Str)) = false := by decide)
    (he : starEach (e :: es) X.env = (false, eval e X.env) :: starEach es X.env := by rfl) (hpl : (backTo pos (starEach es X.env)).any (·.1) = false := by rfl) : SE X (.Call (.Name x p) (e :: es) [] pos) (mCall g m) :=
  PE.imp (pe_callTy hc hg hm hv ha hn hdb he hpl) fun σ H Q h => callB_t hs h
theorem sn_callB {r : List V → Hp → VK → Prop} {g : List D → Option (List D)} {m : M (List Opd)} (hc : CallR X (.builtin id) r) (hs : CallN X r g) (hg : Gl X x) (hm : X.mg x = none) (hv : bootBuiltins x = some (.builtin id)) (ha : SA X (e :: es) m) (hn : x ≠ "__name__" := by decide) (hdb : (x == ("__debug__" : Str)) = false := by decide)
    (he : starEach (e :: es) X.env = (false, eval e X.env) :: starEach es X.env := by rfl) (hpl : (backTo pos (starEach es X.env)).any (·.1) = false := by rfl) : SN X (.Call (.Name x p) (e :: es) [] pos) (nCall g m) :=
  PE.imp (pe_callB hc hg hm hv ha hn hdb he hpl) fun σ H Q h => callN_t hs h
theorem sn_callT {r : List V → Hp → VK → Prop} {g : List D → Option (List D)} {m : M (List Opd)} (hc : CallR X (.type T) r) (hs : CallN X r g) (hg : Gl X x) (hm : X.mg x = none) (hv : bootBuiltins x = some (.type T)) (ha : SA X (e :: es) m) (hn : x ≠ "__name__" := by decide) (hdb : (x == ("__debug__" : Str)) = false := by decide)
    (he : starEach (e :: es) X.env = (false, eval e X.env) :: starEach es X.env := by rfl) (hpl : (backTo pos (starEach es X.env)).any (·.1) = false := by rfl) : SN X (.Call (.Name x p) (e :: es) [] pos) (nCall g m) :=
  PE.imp (pe_callTy hc hg hm hv ha hn hdb he hpl) fun σ H Q h => callN_t hs h
end
end ML
set_option maxRecDepth 100000
/-! ML4: builtins by name, lists made new, slices. -/
namespace ML
open PySem PySem.Spec PyProof.Rows L2
theorem b_len : bootBuiltins "len" = some (.builtin "len") := by decide +kernel
theorem b_abs : bootBuiltins "abs" = some (.builtin "abs") := by decide +kernel
theorem b_min : bootBuiltins "min" = some (.builtin "min") := by decide +kernel
theorem b_max : bootBuiltins "max" = some (.builtin "max") := by decide +kernel
theorem b_sorted : bootBuiltins "sorted" = some (.builtin "sorted") := by decide +kernel
theorem b_isinstance : bootBuiltins "isinstance" = some (.builtin "isinstance") := by decide +kernel
theorem b_int : bootBuiltins "int" = some (.type "int") := by decide +kernel
theorem b_bool : bootBuiltins "bool" = some (.type "bool") := by decide +kernel
theorem b_str : bootBuiltins "str" = some (.type "str") := by decide +kernel
theorem b_list : bootBuiltins "list" = some (.type "list") := by decide +kernel
theorem b_tuple : bootBuiltins "tuple" = some (.type "tuple") := by decide +kernel
section
variable {X : Cx} {a b c e : Expr} {es : List Expr} {pos p p2 : Pos}
theorem sh1 {K : PySem.W.Frag} {B : List Addr} {H : Hp} {xs : List V} {d : D} (h : Paired (Sh K B H) xs [d]) : ∃ v, xs = [v] ∧ Sh K B H v d := by
  cases h with
  | cons r t => cases t; exact ⟨_, rfl, r⟩
theorem sh2 {K : PySem.W.Frag} {B : List Addr} {H : Hp} {xs : List V} {d d' : D} (h : Paired (Sh K B H) xs [d, d']) : ∃ v w, xs = [v, w] ∧ Sh K B H v d ∧ Sh K B H w d' := by
  cases h with
  | cons r t =>
    obtain ⟨w, rfl, q⟩ := sh1 t
    exact ⟨_, w, rfl, r, q⟩
/-- len -/
def gLen (ds : List D) : Option D := match ds with
  | [.list xs] => some (.int xs.length)
  | [.tuple xs] => some (.int xs.length)
  | _ => none
theorem cs_len : CallS X (fun xs H Q => ∃ p ys, xs = [.ref p] ∧ (SqL X.K H p ys ∨ SqT X.K H p ys) ∧ Q (.int ys.length) H) gLen := by
  intro κ η H xs ds d Q hp hg q
  unfold gLen at hg
  split at hg
  · cases hg
    obtain ⟨v, rfl, s⟩ := sh1 hp
    obtain ⟨a, ys, rfl, h, r⟩ := sh_lst s
    refine ⟨a, ys, rfl, .inl h, ?_⟩
    rw [r.length]
    exact q _ H (Same.refl H) (.int _)
  · cases hg
    obtain ⟨v, rfl, s⟩ := sh1 hp
    obtain ⟨a, ys, rfl, h, r⟩ := sh_tup s
    refine ⟨a, ys, rfl, .inr h, ?_⟩
    rw [r.length]
    exact q _ H (Same.refl H) (.int _)
  · cases hg
def mLen (m : M Opd) : M D := mCall gLen (aCons m aNil)
theorem se_len {m : M Opd} (hg : Gl X "len") (hm : X.mg "len" = none) (ha : SO X a m) (he : starEach [a] X.env = (false, eval a X.env) :: starEach [] X.env := by rfl) : SE X (.Call (.Name "len" p) [a] [] pos) (mLen m) :=
  se_callB call_len_seq cs_len hg hm b_len (sa_cons ha sa_nil he) (by decide) (by decide) he rfl
/-- int(n), abs(n), min(a, b), max(a, b) -/
def gInt (ds : List D) : Option D := match ds with
  | [.int i] => some (.int i)
  | _ => none
theorem cs_int : CallS X (fun xs H Q => (∃ i, xs = [.int i] ∧ Q (.int i) H) ∨ ∃ k, xs = [.bl k] ∧ Q (.int (if k then 1 else 0)) H) gInt := by
  intro κ η H xs ds d Q hp hg q
  unfold gInt at hg
  split at hg
  · cases hg
    obtain ⟨v, rfl, s⟩ := sh1 hp
    rw [sh_int s]
    exact .inl ⟨_, rfl, q _ H (Same.refl H) (.int _)⟩
  · cases hg
def mInt (m : M Opd) : M D := mCall gInt (aCons m aNil)
theorem se_int {m : M Opd} (hg : Gl X "int") (hm : X.mg "int" = none) (ha : SO X a m) (he : starEach [a] X.env = (false, eval a X.env) :: starEach [] X.env := by rfl) : SE X (.Call (.Name "int" p) [a] [] pos) (mInt m) :=
  se_callT call_int1 cs_int hg hm b_int (sa_cons ha sa_nil he) (by decide) (by decide) he rfl
def gAbs (ds : List D) : Option D := match ds with
  | [.int i] => some (.int (if i < 0 then -i else i))
  | _ => none
theorem cs_abs : CallS X (fun xs H Q => ∃ i, xs = [.int i] ∧ Q (.int (if i < 0 then -i else i)) H) gAbs := by
  intro κ η H xs ds d Q hp hg q
  unfold gAbs at hg
  split at hg
  · cases hg
    obtain ⟨v, rfl, s⟩ := sh1 hp
    rw [sh_int s]
    exact ⟨_, rfl, q _ H (Same.refl H) (.int _)⟩
  · cases hg
def mAbs (m : M Opd) : M D := mCall gAbs (aCons m aNil)
theorem se_abs {m : M Opd} (hg : Gl X "abs") (hm : X.mg "abs" = none) (ha : SO X a m) (he : starEach [a] X.env = (false, eval a X.env) :: starEach [] X.env := by rfl) : SE X (.Call (.Name "abs" p) [a] [] pos) (mAbs m) :=
  se_callB call_abs cs_abs hg hm b_abs (sa_cons ha sa_nil he) (by decide) (by decide) he rfl
def gMin2 (ds : List D) : Option D := match ds with
  | [.int i, .int j] => some (.int (if j < i then j else i))
  | _ => none
def gMax2 (ds : List D) : Option D := match ds with
  | [.int i, .int j] => some (.int (if j > i then j else i))
  | _ => none
theorem cs_min2 : CallS X (fun xs H Q => ∃ i j, xs = [.int i, .int j] ∧ Q (.int (if j < i then j else i)) H) gMin2 := by
  intro κ η H xs ds d Q hp hg q
  unfold gMin2 at hg
  split at hg
  · cases hg
    obtain ⟨v, w, rfl, s, s'⟩ := sh2 hp
    rw [sh_int s, sh_int s']
    exact ⟨_, _, rfl, q _ H (Same.refl H) (.int _)⟩
  · cases hg
theorem cs_max2 : CallS X (fun xs H Q => ∃ i j, xs = [.int i, .int j] ∧ Q (.int (if j > i then j else i)) H) gMax2 := by
  intro κ η H xs ds d Q hp hg q
  unfold gMax2 at hg
  split at hg
  · cases hg
    obtain ⟨v, w, rfl, s, s'⟩ := sh2 hp
    rw [sh_int s, sh_int s']
    exact ⟨_, _, rfl, q _ H (Same.refl H) (.int _)⟩
  · cases hg
def mMin2 (m n : M Opd) : M D := mCall gMin2 (aCons m (aCons n aNil))
def mMax2 (m n : M Opd) : M D := mCall gMax2 (aCons m (aCons n aNil))
theorem se_min2 {m n : M Opd} (hc : X.calm = true) (hg : Gl X "min") (hm : X.mg "min" = none) (ha : SO X a m) (hb : SO X b n) (he : starEach [a, b] X.env = (false, eval a X.env) :: starEach [b] X.env := by rfl) (he2 : starEach [b] X.env = (false, eval b X.env) :: starEach [] X.env := by rfl)
    (hpl : (backTo pos (starEach [b] X.env)).any (·.1) = false := by rfl) : SE X (.Call (.Name "min" p) [a, b] [] pos) (mMin2 m n) :=
  se_callB (call_min2 hc) cs_min2 hg hm b_min (sa_cons ha (sa_cons hb sa_nil he2) he) (by decide) (by decide) he hpl
theorem se_max2 {m n : M Opd} (hc : X.calm = true) (hg : Gl X "max") (hm : X.mg "max" = none) (ha : SO X a m) (hb : SO X b n) (he : starEach [a, b] X.env = (false, eval a X.env) :: starEach [b] X.env := by rfl) (he2 : starEach [b] X.env = (false, eval b X.env) :: starEach [] X.env := by rfl)
    (hpl : (backTo pos (starEach [b] X.env)).any (·.1) = false := by rfl) : SE X (.Call (.Name "max" p) [a, b] [] pos) (mMax2 m n) :=
  se_callB (call_max2 hc) cs_max2 hg hm b_max (sa_cons ha (sa_cons hb sa_nil he2) he) (by decide) (by decide) he hpl
/-- tuple(xs), list(xs) -/
def gTuple (ds : List D) : Option D := match ds with
  | [.list xs] => some (.tuple xs)
  | [.tuple xs] => some (.tuple xs)
  | _ => none
theorem cs_tuple : CallS X (fun xs H Q => ∃ p ys, xs = [.ref p] ∧ ((SqL X.K H p ys ∧ ∀ l, H l = none → Q (.ref l) (upd H l (.tup ys))) ∨ (SqT X.K H p ys ∧ Q (.ref p) H))) gTuple := by
  intro κ η H xs ds d Q hp hg q
  unfold gTuple at hg
  split at hg
  · cases hg
    obtain ⟨v, rfl, s⟩ := sh1 hp
    obtain ⟨a, ys, rfl, h, r⟩ := sh_lst s
    exact ⟨a, ys, rfl, .inl ⟨h, fun l hl => q _ _ (same_new hl) (rp_newT hl r)⟩⟩
  · cases hg
    obtain ⟨v, rfl, s⟩ := sh1 hp
    obtain ⟨a, ys, rfl, h, r⟩ := sh_tup s
    exact ⟨a, ys, rfl, .inr ⟨h, q _ H (Same.refl H) (.tup h r)⟩⟩
  · cases hg
def mTuple (m : M Opd) : M D := mCall gTuple (aCons m aNil)
theorem se_tuple {m : M Opd} (hg : Gl X "tuple") (hm : X.mg "tuple" = none) (ha : SO X a m) (he : starEach [a] X.env = (false, eval a X.env) :: starEach [] X.env := by rfl) : SE X (.Call (.Name "tuple" p) [a] [] pos) (mTuple m) :=
  se_callT call_tuple_of cs_tuple hg hm b_tuple (sa_cons ha sa_nil he) (by decide) (by decide) he rfl
def gList (ds : List D) : Option (List D) := match ds with
  | [.list xs] => some xs
  | [.tuple xs] => some xs
  | _ => none
theorem cn_list : CallN X (fun xs H Q => ∃ p ys, xs = [.ref p] ∧ (SqL X.K H p ys ∨ SqT X.K H p ys) ∧ ∀ l, H l = none → Q (.ref l) (upd H l (.lst ys))) gList := by
  intro κ η H xs ds d Q hp hg q
  unfold gList at hg
  split at hg
  · cases hg
    obtain ⟨v, rfl, s⟩ := sh1 hp
    obtain ⟨a, ys, rfl, h, r⟩ := sh_lst s
    exact ⟨a, ys, rfl, .inl h, q ys r⟩
  · cases hg
    obtain ⟨v, rfl, s⟩ := sh1 hp
    obtain ⟨a, ys, rfl, h, r⟩ := sh_tup s
    exact ⟨a, ys, rfl, .inr h, q ys r⟩
  · cases hg
def nList (m : M Opd) : M (List D) := nCall gList (aCons m aNil)
theorem sn_list {m : M Opd} (hg : Gl X "list") (hm : X.mg "list" = none) (ha : SO X a m) (he : starEach [a] X.env = (false, eval a X.env) :: starEach [] X.env := by rfl) : SN X (.Call (.Name "list" p) [a] [] pos) (nList m) :=
  sn_callT call_list_of cn_list hg hm b_list (sa_cons ha sa_nil he) (by decide) (by decide) he rfl
/-- sorted, ints -/
def insI (n : Int) : List Int → List Int
  | [] => [n]
  | m :: r => if n ≤ m then n :: m :: r else m :: insI n r
def sortI : List Int → List Int
  | [] => []
  | n :: r => insI n (sortI r)
theorem insI_perm (n : Int) : ∀ l, (insI n l).Perm (n :: l)
  | [] => .refl _
  | m :: r => by
    unfold insI
    split
    · exact .refl _
    · exact ((insI_perm n r).cons m).trans (.swap n m r)
theorem sortI_perm : ∀ l, (sortI l).Perm l
  | [] => .refl _
  | n :: r => (insI_perm n _).trans ((sortI_perm r).cons n)
theorem insI_pw (n : Int) : ∀ l : List Int, l.Pairwise (· ≤ ·) → (insI n l).Pairwise (· ≤ ·)
  | [], _ => by simp [insI]
  | m :: r, h => by
    unfold insI
    obtain ⟨h1, h2⟩ := List.pairwise_cons.mp h
    split
    · rename_i hn
      refine List.pairwise_cons.mpr ⟨fun x hx => ?_, h⟩
      rcases List.mem_cons.mp hx with rfl | hx
      · exact hn
      · exact Int.le_trans hn (h1 x hx)
    · rename_i hn
      refine List.pairwise_cons.mpr ⟨fun x hx => ?_, insI_pw n r h2⟩
      rcases List.mem_cons.mp ((insI_perm n r).mem_iff.mp hx) with rfl | hx
      · omega
      · exact h1 x hx
theorem sortI_pw : ∀ l : List Int, (sortI l).Pairwise (· ≤ ·)
  | [] => .nil
  | n :: r => insI_pw n _ (sortI_pw r)
theorem sorted_eq : ∀ {l m : List Int}, l.Perm m → l.Pairwise (· ≤ ·) → m.Pairwise (· ≤ ·) → l = m
  | [], m, h, _, _ => (List.nil_perm.mp h).symm
  | x :: l, [], h, _, _ => absurd h.length_eq (by simp)
  | x :: l, y :: m, h, h1, h2 => by
    obtain ⟨a1, a2⟩ := List.pairwise_cons.mp h1
    obtain ⟨b1, b2⟩ := List.pairwise_cons.mp h2
    have e : x = y := by
      have hx : x ∈ y :: m := h.mem_iff.mp List.mem_cons_self
      have hy : y ∈ x :: l := h.mem_iff.mpr List.mem_cons_self
      rcases List.mem_cons.mp hx with e | hx
      · exact e
      · rcases List.mem_cons.mp hy with e | hy
        · exact e.symm
        · have := a1 y hy
          have := b1 x hx
          omega
    subst e
    rw [sorted_eq (List.Perm.cons_inv h) a2 b2]
def ints? : List D → Option (List Int)
  | [] => some []
  | .int i :: r => (ints? r).map (i :: ·)
  | _ => none
theorem ints?_some : ∀ {ds : List D} {ns : List Int}, ints? ds = some ns → ds = ns.map PyData.int
  | [], _, h => by cases h; rfl
  | d :: ds, ns, h => by
    cases d <;> first | cases h | skip
    unfold ints? at h
    obtain ⟨ms, h1, h2⟩ := Option.map_eq_some_iff.mp h
    subst h2
    rw [ints?_some h1]
    rfl
theorem ints?_map : ∀ ns : List Int, ints? (ns.map PyData.int) = some ns
  | [] => rfl
  | n :: ns => by rw [List.map_cons, ints?, ints?_map ns]; rfl
def gSorted (ds : List D) : Option (List D) := match ds with
  | [.list xs] => (ints? xs).map fun ns => (sortI ns).map PyData.int
  | _ => none
theorem cn_sorted : CallN X (rSortedI X.K) gSorted := by
  intro κ η H xs ds d Q hp hg q
  unfold gSorted at hg
  split at hg
  · obtain ⟨ns, h1, h2⟩ := Option.map_eq_some_iff.mp hg
    have e := ints?_some h1
    subst e h2
    obtain ⟨v, rfl, s⟩ := sh1 hp
    obtain ⟨a, ys, rfl, h, r⟩ := sh_lst s
    have e := r.ints
    subst e
    refine ⟨a, ns, rfl, h, fun ns' p hp1 hp2 hp3 => ?_⟩
    have : ns' = sortI ns := sorted_eq (hp1.trans (sortI_perm ns).symm) hp2 (sortI_pw ns)
    subst this
    exact q _ (.of_ints _) p hp3
  · cases hg
def nSorted (m : M Opd) : M (List D) := nCall gSorted (aCons m aNil)
theorem sn_sorted {m : M Opd} (hg : Gl X "sorted") (hm : X.mg "sorted" = none) (ha : SO X a m) (he : starEach [a] X.env = (false, eval a X.env) :: starEach [] X.env := by rfl) : SN X (.Call (.Name "sorted" p) [a] [] pos) (nSorted m) :=
  sn_callB cr_sortedI cn_sorted hg hm b_sorted (sa_cons ha sa_nil he) (by decide) (by decide) he rfl
/-- isinstance(x, T), T int, bool, str, tuple or list -/
def tyD : D → String
  | .none => "NoneType"
  | .bool _ => "bool"
  | .int _ => "int"
  | .str _ => "str"
  | .list _ => "list"
  | .tuple _ => "tuple"
  | .dict _ => "dict"
def isT (T : String) (d : D) : Bool := tyD d == T || (T == "int" && tyD d == "bool")
def okT (T : String) : Prop := T = "int" ∨ T = "bool" ∨ T = "str" ∨ T = "tuple" ∨ T = "list"
theorem kit_all : ∀ a ∈ ["NoneType", "bool", "int", "str", "list", "tuple"], ∀ b ∈ ["int", "bool", "str", "tuple", "list"], kitB a b = some (a == b || (b == "int" && a == "bool")) := by decide +kernel
theorem sh_ty {K : PySem.W.Frag} {B : List Addr} {H : Hp} {v : V} {d : D} (h : Sh K B H v d) : TyX K H v (.type (tyD d)) ∧ tyD d ∈ ["NoneType", "bool", "int", "str", "list", "tuple"] := by
  cases h with
  | rp h =>
    cases h with
    | non => exact ⟨.base .non, by decide⟩
    | bl b => exact ⟨.base (.bl b), by simp [tyD]⟩
    | int b => exact ⟨.base (.int b), by simp [tyD]⟩
    | str b => exact ⟨.base (.str b), by simp [tyD]⟩
    | lst e n r => exact ⟨.base (.lst e), by simp [tyD]⟩
    | tup e r =>
      refine ⟨?_, by simp [tyD]⟩
      rcases e with (e | ⟨o, e⟩) | ⟨o, its, n, h1, h2, _⟩
      · exact .base (.tup e)
      · exact .fTuple e
      · exact .kTuple h1 h2
  | lst e r =>
    refine ⟨?_, by simp [tyD]⟩
    rcases e with (e | ⟨o, e⟩) | ⟨o, its, n, h1, h2, _⟩
    · exact .base (.lst e)
    · exact .base (.frz e)
    · exact .kList h1 h2
def mIsi (T : String) (m : M Opd) : M D := fun env st => (m env st).bind fun p => (res env p.2 p.1).map fun d => (.bool (isT T d), p.2)
theorem se_isi {T : String} {x : Str} {m : M Opd} (hT : T ∈ ["int", "bool", "str", "tuple", "list"]) (hg : Gl X "isinstance") (hm : X.mg "isinstance" = none) (ha : SO X a m) (hgT : Gl X x) (hmT : X.mg x = none) (hv : bootBuiltins x = some (.type T)) (hn : x ≠ "__name__" := by decide) (hdb : (x == ("__debug__" : Str)) = false := by decide)
    (he : starEach [a, .Name x p2] X.env = (false, eval a X.env) :: starEach [.Name x p2] X.env := by rfl) (he2 : starEach [.Name x p2] X.env = (false, eval (.Name x p2) X.env) :: starEach [] X.env := by rfl)
    (hpl : (backTo pos (starEach [.Name x p2] X.env)).any (·.1) = false := by rfl) : SE X (.Call (.Name "isinstance" p) [a, .Name x p2] [] pos) (mIsi T m) :=
  PE.imp (pe_callB call_isi hg hm b_isinstance (pa_cons ha (pa_cons (pe_bltn hgT hmT hv (show RelV (.ty T) (.type T) from rfl) hn hdb) pa_nil he2) he) (by decide) (by decide) he hpl) fun σ H Q ⟨κ, η, env, st, d, st', R, em, q⟩ => by
    unfold mIsi at em
    simp only [Option.bind_eq_some_iff, Option.map_eq_some_iff] at em
    obtain ⟨⟨o, s1⟩, h1, d', h2, h3⟩ := em
    cases h3
    refine ⟨κ, η, env, st, o, _, R, h1, fun v κ1 H1 R1 e1 v1 => ?_⟩
    obtain ⟨t1, t2⟩ := sh_ty (v1.res R1 h2)
    exact ⟨v, .ty T, _, _, _, rfl, .ty T, t1, kit_ty (kit_all _ t2 _ hT), q _ κ1 H1 R1 e1 (.bl _)⟩
/-! list + list, list * int -/
def nBin (g : D → D → Option (List D)) (ma mb : M Opd) : M (List D) := fun env st => (ma env st).bind fun p => (mb env p.2).bind fun q => (res env q.2 p.1).bind fun x => (res env q.2 q.1).bind fun y => (g x y).map fun d => (d, q.2)
def OpN (X : Cx) (r : R2) (g : D → D → Option (List D)) : Prop := ∀ (κ : List Fp) (η : Hid) (H : Hp) (x y : V) (dx dy : D) (es : List D) (Q : VK),
  Sh X.K (alls κ ++ η.all) H x dx → Sh X.K (alls κ ++ η.all) H y dy → g dx dy = some es → (∀ vs, RpAll X.K (alls κ ++ η.all) H vs es → ∀ p, H p = none → Q (.ref p) (upd H p (.lst vs))) → r x y H Q
theorem nbin_t {r : R2} {g : D → D → Option (List D)} (hs : OpN X r g) {ma mb : M Opd} {σ : L2.St} {H : Hp} {Q : VK} (h : tN X.K (nBin g ma mb) σ H Q) : tOp r (tO X.K ma) (tO X.K mb) σ H Q := by
  obtain ⟨κ, η, env, st, d, st', R, em, q⟩ := h
  unfold nBin at em
  simp only [Option.bind_eq_some_iff, Option.map_eq_some_iff] at em
  obtain ⟨⟨oa, s1⟩, h1, ⟨ob, s2⟩, h2, x, h3, y, h4, d', h5, e⟩ := em
  cases e
  refine ⟨κ, η, env, st, oa, s1, R, h1, fun vx κ1 H1 R1 e1 v1 => ⟨κ1, η, env, s1, ob, _, R1, h2, fun vy κ2 H2 R2 e2 v2 => ?_⟩⟩
  exact hs κ2 η H2 vx vy x y d Q ((v1.ext e2).res R2 h3) (v2.res R2 h4) h5 fun ws r p hp => new_end q R2 (e1.trans e2) r p hp
/-- the list itself is tracked -/
theorem rd_lst {K : PySem.W.Frag} {B : List Addr} {H : Hp} {v : V} {ds : List D} (h : Rp K B H v (.list ds)) : ∃ a xs, v = .ref a ∧ H a = some (.lst xs) ∧ RpAll K B H xs ds := by
  cases h with | lst e n r => exact ⟨_, _, rfl, e, r⟩
/-- operands that are values or objects of the store: their lists are tracked -/
inductive Sm (K : PySem.W.Frag) (B : List Addr) (H : Hp) : V → D → Prop
  | rp {v : V} {d : D} : Rp K B H v d → Sm K B H v d
  | lst {a : Addr} {xs : List V} {ds : List D} : H a = some (.lst xs) → RpAll K B H xs ds → Sm K B H (.ref a) (.list ds)
def sres (env : Env) (st : Sto) : Opd → Option D
  | .v d => some d
  | .s i => match env[i]? with
    | some (some (.val d)) => some d
    | some (some (.loc n)) => match st[n]? with
      | some (.lst ds) => some (.list ds)
      | _ => none
    | _ => none
  | .r _ _ => none
theorem OV.sres {K : PySem.W.Frag} {κ : List Fp} {η : Hid} {H : Hp} {σ : L2.St} {env : Env} {st : Sto} {v : V} {o : Opd} {d : D} (R : Rep K κ η H σ env st) (h : OV K κ η H σ env v o) (e : sres env st o = some d) : Sm K (alls κ ++ η.all) H v d := by
  cases o with
  | v d' => cases e; exact .rp h
  | r i k => cases e
  | s i =>
    have h : σ[i]? = some (some v) := h
    unfold ML.sres at e
    dsimp only at e
    cases q : env[i]? with
    | none => rw [q] at e; cases e
    | some x =>
      cases x with
      | none => rw [q] at e; cases e
      | some y =>
        obtain ⟨v', h1, h2⟩ := R.env i y q
        rw [h] at h1
        have hv : v = v' := by simpa using h1
        subst hv
        rw [q] at e
        cases h2 with
        | val r => cases e; exact .rp r
        | mdl k q => cases e
        | bor a b c => cases e
        | loc hp =>
          dsimp only at e
          obtain ⟨o, ho, ro⟩ := paired_getR R.sto hp
          rw [ho] at e
          cases ro with
          | lst a b => cases e; exact .lst a b
          | dic a b => cases e
          | mat a b => cases e
theorem sm_lst {K : PySem.W.Frag} {B : List Addr} {H : Hp} {v : V} {ds : List D} (h : Sm K B H v (.list ds)) : ∃ a xs, v = .ref a ∧ H a = some (.lst xs) ∧ RpAll K B H xs ds := by
  cases h with
  | rp h => exact rd_lst h
  | lst e r => exact ⟨_, _, rfl, e, r⟩
theorem sm_int {K : PySem.W.Frag} {B : List Addr} {H : Hp} {v : V} {i : Int} (h : Sm K B H v (.int i)) : v = .int i := by
  cases h with
  | rp h => cases h; rfl
def nCat (ma mb : M Opd) : M (List D) := fun env st => (ma env st).bind fun p => (mb env p.2).bind fun q => (sres env q.2 p.1).bind fun x => (sres env q.2 q.1).bind fun y => match x, y with
  | .list xs, .list ys => if xs.length + ys.length ≤ 1000000 then some (xs ++ ys, q.2) else none
  | _, _ => none
theorem sn_cat {ma mb : M Opd} (ha : SO X a ma) (hb : SO X b mb) : SN X (.BinOp a .Add b pos) (nCat ma mb) := PE.imp (pe_op op_cat ha hb) fun σ H Q ⟨κ, η, env, st, d, st', R, em, q⟩ => by
  unfold nCat at em
  simp only [Option.bind_eq_some_iff] at em
  obtain ⟨⟨oa, s1⟩, h1, ⟨ob, s2⟩, h2, x, h3, y, h4, h5⟩ := em
  split at h5
  · split at h5
    · rename_i hz
      cases h5
      refine ⟨κ, η, env, st, oa, s1, R, h1, fun vx κ1 H1 R1 e1 v1 => ⟨κ1, η, env, s1, ob, _, R1, h2, fun vy κ2 H2 R2 e2 v2 => ?_⟩⟩
      obtain ⟨l, ls, rfl, hl, rl⟩ := sm_lst ((v1.ext e2).sres R2 h3)
      obtain ⟨k, ks, rfl, hk, rk⟩ := sm_lst (v2.sres R2 h4)
      exact ⟨l, k, ls, ks, rfl, rfl, hl, hk, by rw [rl.length, rk.length]; exact Nat.le_trans hz million, new_end q R2 (e1.trans e2) (rl.append rk)⟩
    · cases h5
  · cases h5
def nRep (ma mb : M Opd) : M (List D) := fun env st => (ma env st).bind fun p => (mb env p.2).bind fun q => (sres env q.2 p.1).bind fun x => (sres env q.2 q.1).bind fun y => match x, y with
  | .list xs, .int k => if small k = true ∧ xs.length * k.toNat ≤ 1000000 then some ((List.replicate k.toNat xs).flatten, q.2) else none
  | _, _ => none
theorem sn_rep {ma mb : M Opd} (ha : SO X a ma) (hb : SO X b mb) : SN X (.BinOp a .Mult b pos) (nRep ma mb) := PE.imp (pe_op op_rep ha hb) fun σ H Q ⟨κ, η, env, st, d, st', R, em, q⟩ => by
  unfold nRep at em
  simp only [Option.bind_eq_some_iff] at em
  obtain ⟨⟨oa, s1⟩, h1, ⟨ob, s2⟩, h2, x, h3, y, h4, h5⟩ := em
  split at h5
  · split at h5
    · rename_i hz
      cases h5
      refine ⟨κ, η, env, st, oa, s1, R, h1, fun vx κ1 H1 R1 e1 v1 => ⟨κ1, η, env, s1, ob, _, R1, h2, fun vy κ2 H2 R2 e2 v2 => ?_⟩⟩
      obtain ⟨l, ls, rfl, hl, rl⟩ := sm_lst ((v1.ext e2).sres R2 h3)
      exact ⟨l, _, ls, rfl, sm_int (v2.sres R2 h4), hl, by have := small_of hz.1; omega, by have := small_of hz.1; omega, by rw [rl.length]; exact Nat.le_trans hz.2 million, new_end q R2 (e1.trans e2) (rl.flat _)⟩
    · cases h5
  · cases h5
/-! slices -/
abbrev MO (α : Type) := Env → Sto → Option (α × Sto)
def tP (K : PySem.W.Frag) (m : M (Option Int)) : TO := fun σ H Q => ∃ κ η env st o st', Rep K κ η H σ env st ∧ m env st = some (o, st') ∧ ∀ κ' H', Rep K κ' η H' σ env st' → Ext κ H κ' H' → Q o H'
abbrev SPt (X : Cx) (e : Option Expr) (m : M (Option Int)) : Prop := PO X e (tP X.K m)
theorem PO.imp {X : Cx} {e : Option Expr} {t t' : TO} (h : PO X e t) (i : ∀ σ H Q, t' σ H Q → t σ H Q) : PO X e t' := ⟨fun pins s σ H Q I q => h.run pins s σ H Q I (i σ H Q q)⟩
def pNone : M (Option Int) := fun _ st => some (none, st)
def pSome (m : M D) : M (Option Int) := fun env st => (m env st).bind fun p => match p.1 with
  | .int i => some (some i, p.2)
  | _ => none
theorem sp_none : SPt X none pNone := PO.imp po_none fun σ H Q ⟨κ, η, env, st, o, st', R, em, q⟩ => by
  cases em
  exact q κ H R Ext.refl
theorem sp_some {m : M D} (h : SE X a m) : SPt X (some a) (pSome m) := PO.imp (po_some h) fun σ H Q ⟨κ, η, env, st, o, st', R, em, q⟩ => by
  unfold pSome at em
  simp only [Option.bind_eq_some_iff] at em
  obtain ⟨⟨d, s1⟩, h1, h2⟩ := em
  dsimp only at h2
  split at h2
  · cases h2
    refine ⟨κ, η, env, st, _, _, R, h1, fun v κ1 H1 R1 e1 rv => ?_⟩
    cases rv
    exact ⟨_, rfl, q κ1 H1 R1 e1⟩
  · cases h2
def cutD (xs : List D) (lo hi : Option Int) : List D := (xs.drop (HT.sIx xs.length 0 lo)).take (HT.sIx xs.length xs.length hi - HT.sIx xs.length 0 lo)
theorem rps_cut {K : PySem.W.Frag} {B : List Addr} {H : Hp} {vs : List V} {ds : List D} (r : RpAll K B H vs ds) (lo hi : Option Int) : RpAll K B H (cutV vs lo hi) (cutD ds lo hi) := by
  unfold cutV cutD
  rw [r.length]
  exact (r.drop _).take _
variable {lo hi : Option Expr}
def nCut (m : M Opd) (l u : M (Option Int)) : M (List D) := fun env st => (m env st).bind fun p => (l env p.2).bind fun q => (u env q.2).bind fun r => (res env r.2 p.1).bind fun x => match x with
  | .list xs => some (cutD xs q.1 r.1, r.2)
  | _ => none
theorem sn_cut {m : M Opd} {l u : M (Option Int)} (h : SO X a m) (hl : SPt X lo l) (hu : SPt X hi u) : SN X (.Subscript a (.Slice lo hi none p2) pos) (nCut m l u) := PE.imp (pe_slice sl_list h hl hu) fun σ H Q ⟨κ, η, env, st, d, st', R, em, q⟩ => by
  unfold nCut at em
  simp only [Option.bind_eq_some_iff] at em
  obtain ⟨⟨o, s1⟩, h1, ⟨l', s2⟩, h2, ⟨u', s3⟩, h3, x, h4, h5⟩ := em
  split at h5
  · cases h5
    refine ⟨κ, η, env, st, o, s1, R, h1, fun v κ1 H1 R1 e1 v1 => ⟨κ1, η, env, s1, l', s2, R1, h2, fun κ2 H2 R2 e2 => ⟨κ2, η, env, s2, u', _, R2, h3, fun κ3 H3 R3 e3 => ?_⟩⟩⟩
    obtain ⟨b, ys, rfl, hb, rb⟩ := sh_lst (((v1.ext e2).ext e3).res R3 h4)
    exact ⟨b, ys, rfl, hb, new_end q R3 ((e1.trans e2).trans e3) (rps_cut rb _ _)⟩
  · cases h5
def mCut (m : M Opd) (l u : M (Option Int)) : M D := fun env st => (m env st).bind fun p => (l env p.2).bind fun q => (u env q.2).bind fun r => (res env r.2 p.1).bind fun x => match x with
  | .tuple xs => some (.tuple (cutD xs q.1 r.1), r.2)
  | _ => none
theorem sIx_bounds (n d : Nat) (o : Option Int) (hd : d ≤ n) : HT.sIx n d o ≤ n := HT.sIx_le n d hd o
theorem se_cut {m : M Opd} {l u : M (Option Int)} (h : SO X a m) (hl : SPt X lo l) (hu : SPt X hi u) : SE X (.Subscript a (.Slice lo hi none p2) pos) (mCut m l u) := PE.imp (pe_slice sl_tupA h hl hu) fun σ H Q ⟨κ, η, env, st, d, st', R, em, q⟩ => by
  unfold mCut at em
  simp only [Option.bind_eq_some_iff] at em
  obtain ⟨⟨o, s1⟩, h1, ⟨l', s2⟩, h2, ⟨u', s3⟩, h3, x, h4, h5⟩ := em
  split at h5
  · rename_i xs
    cases h5
    refine ⟨κ, η, env, st, o, s1, R, h1, fun v κ1 H1 R1 e1 v1 => ⟨κ1, η, env, s1, l', s2, R1, h2, fun κ2 H2 R2 e2 => ⟨κ2, η, env, s2, u', _, R2, h3, fun κ3 H3 R3 e3 => ?_⟩⟩⟩
    obtain ⟨b, ys, rfl, hb, rb⟩ := sh_tup (((v1.ext e2).ext e3).res R3 h4)
    refine ⟨b, ys, rfl, hb, fun hw => ?_, fun hw p hp => ?_⟩
    · refine q _ κ3 H3 R3 ((e1.trans e2).trans e3) ?_
      have e0 : cutD xs l' u' = xs := by
        unfold cutD
        rw [rb.length] at hw
        rw [hw.1, hw.2]
        simp
      rw [e0]
      exact .tup hb rb
    · exact q _ κ3 _ (R3.same (same_new hp)) (((e1.trans e2).trans e3).trans (Ext.of_same (same_new hp))) (rp_newT hp (rps_cut rb _ _))
  · cases h5
/-- xs[::-1], a list -/
def nRev (m : M Opd) : M (List D) := fun env st => (m env st).bind fun p => (res env p.2 p.1).bind fun x => match x with
  | .list xs => some (xs.reverse, p.2)
  | _ => none
theorem sn_rev {k : Nat} {p1 p2 p3 : Pos} {m : M Opd} (h : SO X a m) : SN X (.Subscript a (.Slice none none (some (.UnaryOp .USub (.Constant (.int 1) k p1) p2)) p3) pos) (nRev m) := PE.imp (pe_revL h) fun σ H Q ⟨κ, η, env, st, d, st', R, em, q⟩ => by
  unfold nRev at em
  simp only [Option.bind_eq_some_iff] at em
  obtain ⟨⟨o, s1⟩, h1, x, h4, h5⟩ := em
  split at h5
  · cases h5
    refine ⟨κ, η, env, st, o, _, R, h1, fun v κ1 H1 R1 e1 v1 => ?_⟩
    obtain ⟨b, ys, rfl, hb, rb⟩ := sh_lst (v1.res R1 h4)
    exact ⟨b, ys, rfl, hb, new_end q R1 e1 rb.reverse⟩
  · cases h5
/-- list(range(n)) -/
def rgD (lo : Int) (n : Nat) : List D := (List.range n).map fun i => .int (lo + (i : Nat))
theorem rps_rg {K : PySem.W.Frag} {B : List Addr} {H : Hp} (a b : Int) : RpAll K B H (rgV a b) (rgD a (b - a).toNat) := by
  have h := RpAll.of_ints (K := K) (B := B) (H := H) ((List.range (b - a).toNat).map fun i => a + (i : Nat))
  rw [List.map_map, List.map_map] at h
  exact h
def nRange (m : M D) : M (List D) := fun env st => (m env st).bind fun p => match p.1 with
  | .int n => if n ≤ 1000000 ∧ -1000000 ≤ n then some (rgD 0 n.toNat, p.2) else none
  | _ => none
theorem sn_listRg {m : M D} (hc : X.calm = true) (hg : Gl X "list") (hm : X.mg "list" = none) (hg2 : Gl X "range") (hm2 : X.mg "range" = none) (h : SE X a m) (na : starEach [a] X.env = (false, eval a X.env) :: starEach [] X.env := by rfl)
    (na2 : starEach [.Call (.Name "range" p2) [a] [] pos] X.env = (false, eval (.Call (.Name "range" p2) [a] [] pos) X.env) :: starEach [] X.env := by rfl) {pos2 : Pos} : SN X (.Call (.Name "list" p) [.Call (.Name "range" p2) [a] [] pos] [] pos2) (nRange m) :=
  PE.imp (pe_listRg hc hg hm (prg_1 hg2 hm2 h na) na2) fun σ H Q ⟨κ, η, env, st, d, st', R, em, q⟩ => by
    unfold nRange at em
    simp only [Option.bind_eq_some_iff] at em
    obtain ⟨⟨o, s1⟩, h1, h5⟩ := em
    dsimp only at h5
    split at h5
    · rename_i n
      split at h5
      · rename_i hz
        cases h5
        refine ⟨κ, η, env, st, _, _, R, h1, fun v κ1 H1 R1 e1 v1 => ?_⟩
        cases v1
        refine ⟨n, rfl, ⟨by omega, by omega, by omega, by omega, by omega⟩, ?_⟩
        have := rps_rg (K := X.K) (B := alls κ1 ++ η.all) (H := H1) 0 n
        rw [Int.sub_zero] at this
        exact new_end q R1 e1 this
      · cases h5
    · cases h5
end
end ML
set_option maxRecDepth 100000
/-! ML5: statements. -/
namespace ML
open PySem PySem.Spec PyProof.Rows L2
/-- how a statement ends; of a value handed back: it stands without the store's objects from the k-th on -/
inductive F where
  | nx | brk | cnt
  | ret (d : D) (k : Option Nat)
  | retN (ds : List D) (k : Option Nat)
abbrev S := Env → Sto → Option (F × Env × Sto)
def tk {α : Type} (k : Option Nat) (l : List α) : List α := match k with
  | none => l
  | some n => l.take n
def FE (K : PySem.W.Frag) (H : Hp) (κ' : List Fp) (η : Hid) (H' : Hp) (st' : Sto) (Dn : Ends) (σ' : L2.St) : F → Prop
  | .nx => Dn.nx σ' H'
  | .brk => Dn.bk σ' H'
  | .cnt => Dn.ct σ' H'
  | .ret d k => ∀ v, Rp K (alls (tk k κ') ++ η.all) H' v d → Dn.rt v H'
  | .retN ds k => ∀ a xs, Rep K (tk k κ') (hid a η) H' [] [] (tk k st') → (H a = none ∨ ∃ n p, k = some n ∧ κ'[n]? = some p ∧ p.1 = a) → H' a = some (.lst xs) → RpAll K (alls (tk k κ') ++ a :: η.all) H' xs ds → Dn.rt (.ref a) H'
def tS (K : PySem.W.Frag) (m : S) : TS := fun Dn σ H => ∃ κ η env st f env' st', Rep K κ η H σ env st ∧ m env st = some (f, env', st') ∧
  ∀ κ' σ' H', Rep K κ' η H' σ' env' st' → Ext κ H κ' H' → FE K H κ' η H' st' Dn σ' f
abbrev SS (X : Cx) (s : Stmt) (m : S) : Prop := PS X s (tS X.K m)
abbrev SSs (X : Cx) (s : List Stmt) (m : S) : Prop := PSs X s (tS X.K m)
section
variable {X : Cx} {s : Stmt} {rest : List Stmt} {e : Expr} {pos : Pos} {K : PySem.W.Frag}
theorem FE.back {κ κ1 κ' : List Fp} {η : Hid} {H H1 H' : Hp} {σ : L2.St} {env : Env} {st st' : Sto} {Dn : Ends} {σ' : L2.St} {f : F} (R1 : Rep K κ1 η H1 σ env st) (e : Ext κ H κ1 H1) (h : FE K H κ' η H' st' Dn σ' f) : FE K H1 κ' η H' st' Dn σ' f := by
  cases f with
  | retN ds k =>
    intro a xs r hn h1 h2
    refine h a xs r ?_ h1 h2
    rcases hn with hn | hn
    · exact .inl (e.none hn R1.tracked)
    · exact .inr hn
  | _ => exact h
def mNil : S := fun env st => some (.nx, env, st)
def mSeq (a b : S) : S := fun env st => (a env st).bind fun p => match p.1 with
  | .nx => b p.2.1 p.2.2
  | f => some (f, p.2.1, p.2.2)
theorem ss_nil : SSs X [] mNil := PSs.imp pss_nil fun Dn σ H ⟨κ, η, env, st, f, env', st', R, em, q⟩ => by
  cases em
  exact q κ σ H R Ext.refl
theorem ss_cons {a b : S} (h1 : SS X s a) (h2 : SSs X rest b) : SSs X (s :: rest) (mSeq a b) := PSs.imp (pss_cons h1 h2) fun Dn σ H ⟨κ, η, env, st, f, env', st', R, em, q⟩ => by
  unfold mSeq at em
  simp only [Option.bind_eq_some_iff] at em
  obtain ⟨⟨f1, env1, st1⟩, h1, h2⟩ := em
  dsimp only at h2
  refine ⟨κ, η, env, st, f1, env1, st1, R, h1, fun κ1 σ1 H1 R1 e1 => ?_⟩
  cases f1 with
  | nx => exact ⟨κ1, η, env1, st1, f, env', st', R1, h2, fun κ2 σ2 H2 R2 e2 => (q κ2 σ2 H2 R2 (e1.trans e2)).back R1 e1⟩
  | brk => cases h2; exact q κ1 σ1 H1 R1 e1
  | cnt => cases h2; exact q κ1 σ1 H1 R1 e1
  | ret d k => cases h2; exact q κ1 σ1 H1 R1 e1
  | retN d k => cases h2; exact q κ1 σ1 H1 R1 e1
theorem ss_one {a : S} (h1 : SS X s a) : SSs X [s] a := PSs.imp (pss_one h1) fun Dn σ H h => h
def mBrk : S := fun env st => some (.brk, env, st)
def mCnt : S := fun env st => some (.cnt, env, st)
theorem ss_break : SS X (.Break pos) mBrk := PS.imp ps_break fun Dn σ H ⟨κ, η, env, st, f, env', st', R, em, q⟩ => by
  cases em
  exact q κ σ H R Ext.refl
theorem ss_continue : SS X (.Continue pos) mCnt := PS.imp ps_continue fun Dn σ H ⟨κ, η, env, st, f, env', st', R, em, q⟩ => by
  cases em
  exact q κ σ H R Ext.refl
theorem ss_pass : SS X (.Pass pos) mNil := PS.imp ps_pass fun Dn σ H ⟨κ, η, env, st, f, env', st', R, em, q⟩ => by
  cases em
  exact q κ σ H R Ext.refl
def mIfS (t : M Bool) (a b : S) : S := fun env st => (t env st).bind fun p => if p.1 = true then a env p.2 else b env p.2
theorem ss_if {c : Expr} {a b : List Stmt} {t : M Bool} {x y : S} (hc : ST X c t) (ha : SSs X a x) (hb : SSs X b y) : SS X (.If c a b pos) (mIfS t x y) := PS.imp (ps_if hc ha hb) fun Dn σ H ⟨κ, η, env, st, f, env', st', R, em, q⟩ => by
  unfold mIfS at em
  simp only [Option.bind_eq_some_iff] at em
  obtain ⟨⟨k, s1⟩, h1, h3⟩ := em
  refine ⟨κ, η, env, st, k, s1, R, h1, fun κ1 H1 R1 e1 => ?_⟩
  cases k with
  | false => exact ⟨κ1, η, env, s1, f, env', st', R1, by simpa using h3, fun κ2 σ2 H2 R2 e2 => (q κ2 σ2 H2 R2 (e1.trans e2)).back R1 e1⟩
  | true => exact ⟨κ1, η, env, s1, f, env', st', R1, by simpa using h3, fun κ2 σ2 H2 R2 e2 => (q κ2 σ2 H2 R2 (e1.trans e2)).back R1 e1⟩
/-! handing back -/
def mRet (m : M D) : S := fun env st => (m env st).map fun p => (.ret p.1 none, env, p.2)
theorem ss_ret {m : M D} (h : SE X e m) : SS X (.Return (some e) pos) (mRet m) := PS.imp (ps_ret h) fun Dn σ H ⟨κ, η, env, st, f, env', st', R, em, q⟩ => by
  unfold mRet at em
  simp only [Option.map_eq_some_iff] at em
  obtain ⟨⟨d, s1⟩, h1, h2⟩ := em
  cases h2
  exact ⟨κ, η, env, st, d, _, R, h1, fun v κ1 H1 R1 e1 rv => q κ1 σ H1 R1 e1 v rv⟩
def mRetNone : S := fun env st => some (.ret .none none, env, st)
theorem ss_retNone : SS X (.Return none pos) mRetNone := PS.imp ps_retN fun Dn σ H ⟨κ, η, env, st, f, env', st', R, em, q⟩ => by
  cases em
  exact q κ σ H R Ext.refl _ .non
def mRetL (m : M (List D)) : S := fun env st => (m env st).map fun p => (.retN p.1 none, env, p.2)
theorem Rep.dropEnv {κ : List Fp} {η : Hid} {H : Hp} {σ : L2.St} {env : Env} {st : Sto} (R : Rep K κ η H σ env st) : Rep K κ η H [] [] st := R.forget
theorem ss_retL {m : M (List D)} (h : SN X e m) : SS X (.Return (some e) pos) (mRetL m) := PS.imp (ps_ret h) fun Dn σ H ⟨κ, η, env, st, f, env', st', R, em, q⟩ => by
  unfold mRetL at em
  simp only [Option.map_eq_some_iff] at em
  obtain ⟨⟨d, s1⟩, h1, h2⟩ := em
  cases h2
  exact ⟨κ, η, env, st, d, _, R, h1, fun a xs κ1 H1 R1 e1 hn hl rs => q κ1 σ H1 R1.less e1 a xs R1.forget (.inl hn) hl rs⟩
/-- the first n objects -/
theorem alls_take_sub {κ : List Fp} {n : Nat} {b : Addr} (h : b ∈ alls (κ.take n)) : b ∈ alls κ := by
  obtain ⟨p, hp, h⟩ := mem_alls.mp h
  exact mem_alls.mpr ⟨p, List.mem_of_mem_take hp, h⟩
theorem nd_take {κ : List Fp} (n : Nat) (h : (alls κ).Nodup) : (alls (κ.take n)).Nodup := by
  have e : alls κ = alls (κ.take n) ++ alls (κ.drop n) := by rw [← alls_append, List.take_append_drop]
  rw [e] at h
  exact (List.nodup_append.mp h).1
theorem paired_take {α β : Type} {R : α → β → Prop} : ∀ {l : List α} {m : List β} (n : Nat), Paired R l m → Paired R (l.take n) (m.take n)
  | _, _, 0, _ => .nil
  | _, _, _ + 1, .nil => .nil
  | _, _, n + 1, .cons r t => .cons r (paired_take n t)
theorem main_take {κ : List Fp} (nd : (alls κ).Nodup) {n : Nat} {p : Fp} (h : κ[n]? = some p) : ∀ b ∈ p.all, b ∉ alls (κ.take n) := by
  intro b hb z
  have e : alls κ = alls (κ.take n) ++ alls (κ.drop n) := by rw [← alls_append, List.take_append_drop]
  rw [e] at nd
  have hd : b ∈ alls (κ.drop n) := by
    refine mem_alls.mpr ⟨p, ?_, ?_⟩
    · rw [List.mem_iff_getElem?]
      exact ⟨0, by rw [List.getElem?_drop]; exact h⟩
    · unfold Fp.all at hb
      exact List.mem_cons.mp hb
  exact (List.nodup_append.mp nd).2.2 b z b hd rfl
theorem rps_take {κ : List Fp} {η : Hid} {H : Hp} {vs : List V} {ds : List D} (n : Nat) (r : RpAll K (alls κ ++ η.all) H vs ds) : RpAll K (alls (κ.take n) ++ η.all) H vs ds :=
  r.mono (Fr.refl (B := [])) fun b xs _ h => ⟨by simp, fun z => h (by
    rcases List.mem_append.mp z with z | z
    · exact List.mem_append_left _ (alls_take_sub z)
    · exact List.mem_append_right _ z)⟩
theorem rp_take {κ : List Fp} {η : Hid} {H : Hp} {vs : V} {ds : D} (n : Nat) (r : Rp K (alls κ ++ η.all) H vs ds) : Rp K (alls (κ.take n) ++ η.all) H vs ds :=
  r.mono (Fr.refl (B := [])) fun b xs _ h => ⟨by simp, fun z => h (by
    rcases List.mem_append.mp z with z | z
    · exact List.mem_append_left _ (alls_take_sub z)
    · exact List.mem_append_right _ z)⟩
theorem ro_mono {B B' : List Addr} {H : Hp} {p : Fp} {o : O} (hB : ∀ a xs, H a = some (HO.lst xs) → a ∉ B → a ∉ ([] : List Addr) ∧ a ∉ B') (r : RO K B H p o) : RO K B' H p o := by
  have f : Fr [] H H := Fr.refl
  cases r with
  | lst e r => exact .lst e (r.mono f hB)
  | dic e r => exact .dic e (Paired.mapP r fun p q z => ⟨z.1, z.2.mono f hB⟩)
  | mat e r => exact .mat e (Paired.mapP r fun b ds ⟨xs, z1, z2⟩ => ⟨xs, z1, z2.mono f hB⟩)
theorem Rep.takeN {κ : List Fp} {η : Hid} {H : Hp} {σ : L2.St} {env : Env} {st : Sto} (R : Rep K κ η H σ env st) (n : Nat) : Rep K (κ.take n) η H [] [] (st.take n) :=
  ⟨nd_take n R.nd, fun a ha => R.dj a (alls_take_sub ha), R.en, R.hn, rfl, fun i e h => by simp at h, Paired.mapP (paired_take n R.sto) fun p o r => ro_mono (fun a xs _ h => ⟨by simp, fun z => h (by
    rcases List.mem_append.mp z with z | z
    · exact List.mem_append_left _ (alls_take_sub z)
    · exact List.mem_append_right _ z)⟩) r⟩
theorem rows_rp {B B' : List Addr} {H : Hp} (hB : ∀ vs ds, RpAll K B H vs ds → RpAll K B' H vs ds) : ∀ {as : List Addr} {dss : List (List D)}, (∀ b ∈ as, b ∉ B') → Paired (fun b ds => ∃ xs, H b = some (HO.lst xs) ∧ RpAll K B H xs ds) as dss → RpAll K B' H (as.map V.ref) (dss.map .list)
  | _, _, _, .nil => .nil
  | _, _, n, .cons ⟨_, z1, z2⟩ t => .cons (.lst z1 (n _ List.mem_cons_self) (hB _ _ z2)) (rows_rp hB (fun b hb => n b (List.mem_cons_of_mem _ hb)) t)
/-- a list of the store, handed back -/
def mRetS (i : Nat) : S := fun env st => match env[i]? with
  | some (some (.val d)) => some (.ret d none, env, st)
  | some (some (.loc n)) => match st[n]? with
    | some (.lst ds) => some (.ret (.list ds) (some n), env, st)
    | some (.mat dss) => some (.ret (.list (dss.map .list)) (some n), env, st)
    | _ => none
  | _ => none
theorem ss_retS (i : Nat) {x : Str} {p : Pos} (h : PE X (.Name x p) (tVar i)) : SS X (.Return (some (.Name x p)) pos) (mRetS i) := PS.imp (ps_ret h) fun Dn σ H ⟨κ, η, env, st, f, env', st', R, em, q⟩ => by
  unfold mRetS at em
  split at em
  · rename_i d hd
    cases em
    obtain ⟨v, h1, h2⟩ := R.env i _ hd
    cases h2 with
    | val r => exact ⟨v, h1, q κ σ H R Ext.refl v r⟩
  · rename_i n hd
    obtain ⟨v, h1, h2⟩ := R.env i _ hd
    cases h2 with
    | loc hp =>
      rename_i p
      obtain ⟨o, ho, ro⟩ := paired_getR R.sto hp
      rw [ho] at em
      refine ⟨_, h1, ?_⟩
      have ap : ∀ b ∈ p.all, b ∉ alls (κ.take n) ++ η.all := fun b hb z => by
        rcases List.mem_append.mp z with z | z
        · exact main_take R.nd hp b hb z
        · refine R.dj b (mem_alls.mpr ⟨p, List.mem_of_getElem? hp, ?_⟩) z
          unfold Fp.all at hb
          exact List.mem_cons.mp hb
      cases ro with
      | lst a r =>
        cases em
        exact q κ σ H R Ext.refl _ (.lst a (ap _ (by simp [Fp.all])) (rps_take n r))
      | dic a r => cases em
      | mat a r =>
        cases em
        refine q κ σ H R Ext.refl _ (.lst a (ap _ (by simp [Fp.all])) ?_)
        exact rows_rp (fun vs ds r => rps_take n r) (fun b hb => ap b (by simp only [Fp.all]; exact List.mem_cons_of_mem _ hb)) r
  · cases em
end
end ML
set_option maxRecDepth 100000
/-! ML6: stores. -/
namespace ML
open PySem PySem.Spec PyProof.Rows L2
theorem paired_app {α β : Type} {R : α → β → Prop} : ∀ {a b : List α} {c d : List β}, Paired R a c → Paired R b d → Paired R (a ++ b) (c ++ d)
  | _, _, _, _, .nil, h => h
  | _, _, _, _, .cons r t, h => .cons r (paired_app t h)
theorem paired_set {α β : Type} {R : α → β → Prop} {a : α} {b : β} (q : R a b) : ∀ {l : List α} {m : List β} (n : Nat), Paired R l m → Paired R (l.set n a) (m.set n b)
  | _, _, _, .nil => .nil
  | _, _, 0, .cons _ t => .cons q t
  | _, _, n + 1, .cons r t => .cons r (paired_set q n t)
section
variable {K : PySem.W.Frag} {κ κ' : List Fp} {η : Hid} {H H' : Hp} {σ : L2.St} {env : Env} {st : Sto}
theorem Rep.setE (R : Rep K κ η H σ env st) (i : Nat) {v : V} {e : E} (r : RE K κ η H v e) : Rep K κ η H (σ.set i (some v)) (env.set i (some e)) st :=
  ⟨R.nd, R.dj, R.en, R.hn, by rw [List.length_set, List.length_set]; exact R.len, fun j x h => by
    by_cases hj : i = j
    · subst hj
      have hl : i < env.length := by
        have := (List.getElem?_eq_some_iff.mp h).1
        rwa [List.length_set] at this
      rw [List.getElem?_set_self hl] at h
      cases h
      exact ⟨v, List.getElem?_set_self (by rw [← R.len]; exact hl), r⟩
    · rw [List.getElem?_set_ne hj] at h
      obtain ⟨w, h1, h2⟩ := R.env j x h
      exact ⟨w, by rw [List.getElem?_set_ne hj]; exact h1, h2⟩, R.sto⟩
theorem Rep.lenS (R : Rep K κ η H σ env st) : κ.length = st.length := Paired.length R.sto
theorem alls_snoc (κ : List Fp) (p : Fp) : alls (κ ++ [p]) = alls κ ++ p.all := by
  rw [alls_append]
  show alls κ ++ (p.1 :: (p.2 ++ [])) = alls κ ++ p.1 :: p.2
  rw [List.append_nil]
/-- a hidden list becomes an object of the store -/
theorem Rep.adopt {a : Addr} {o : O} (R : Rep K κ (hid a η) H σ env st) (r : RO K (alls κ ++ a :: η.all) H (a, []) o) : Rep K (κ ++ [(a, [])]) η H σ env (st ++ [o]) := by
  have e : alls (κ ++ [(a, [])]) = alls κ ++ [a] := alls_snoc κ (a, [])
  have hB : ∀ b xs, H b = some (HO.lst xs) → b ∉ alls κ ++ a :: η.all → b ∉ ([] : List Addr) ∧ b ∉ alls (κ ++ [(a, [])]) ++ η.all := fun b xs _ n => ⟨by simp, fun z => n (by
    rw [e, List.append_assoc] at z
    exact z)⟩
  have f : Fr [] H H := Fr.refl
  have en := List.nodup_cons.mp R.en
  refine ⟨?_, fun b hb => ?_, en.2, fun b hb => R.hn b (List.mem_cons_of_mem _ hb), R.len, fun i x h => ?_, ?_⟩
  · rw [e]
    refine List.nodup_append.mpr ⟨R.nd, by simp, fun x hx y hy => ?_⟩
    rw [List.mem_singleton.mp hy]
    rintro rfl
    exact R.dj _ hx List.mem_cons_self
  · rw [e] at hb
    rcases List.mem_append.mp hb with hb | hb
    · exact fun z => R.dj b hb (List.mem_cons_of_mem _ z)
    · rw [List.mem_singleton.mp hb]
      exact en.1
  · obtain ⟨v, h1, h2⟩ := R.env i x h
    refine ⟨v, h1, ?_⟩
    cases h2 with
    | val r => exact .val (r.mono f hB)
    | mdl k q => exact .mdl k (q.mono f hB)
    | bor h3 n q =>
      refine .bor h3 (fun z => n ?_) (q.mono f hB)
      rw [e, List.append_assoc] at z
      exact z
    | loc h3 => exact .loc (by rw [List.getElem?_append_left (List.getElem?_eq_some_iff.mp h3).1]; exact h3)
  · exact paired_app (Paired.mapP R.sto fun p o r => ro_mono hB r) (.cons (ro_mono hB r) .nil)
theorem Ext.snoc {a : Addr} (e : Ext κ H κ' H') (h : H a = Option.none) : Ext κ H (κ' ++ [(a, [])]) H' := by
  obtain ⟨κ1, new, rfl, pr⟩ := e.pre
  refine ⟨⟨κ1, new ++ [(a, [])], by simp [List.append_assoc], pr⟩, fun b hb n => ?_, e.fr⟩
  rw [alls_snoc] at hb
  rcases List.mem_append.mp hb with hb | hb
  · exact e.new b hb n
  · have : b = a := by simpa [Fp.all] using hb
    rw [this]
    exact h
theorem paired_of {α β : Type} {R : α → β → Prop} : ∀ {l : List α} {m : List β}, l.length = m.length → (∀ (i : Nat) a b, l[i]? = some a → m[i]? = some b → R a b) → Paired R l m
  | [], [], _, _ => .nil
  | a :: l, b :: m, h, f => .cons (f 0 a b rfl rfl) (paired_of (by simpa using h) fun i x y h1 h2 => f (i + 1) x y (by simpa using h1) (by simpa using h2))
theorem paired_both {α β : Type} {R : α → β → Prop} {l : List α} {m : List β} (h : Paired R l m) {i : Nat} {a : α} {b : β} (h1 : l[i]? = some a) (h2 : m[i]? = some b) : R a b := by
  obtain ⟨c, k1, k2⟩ := paired_getR h h1
  rw [h2] at k1
  cases k1
  exact k2
theorem alls_apart : ∀ {κ : List Fp}, (alls κ).Nodup → ∀ {i j : Nat} {p q : Fp}, κ[i]? = some p → κ[j]? = some q → i ≠ j → ∀ b ∈ p.all, b ∉ q.all
  | [], _, _, _, _, _, h, _, _ => by simp at h
  | x :: κ, nd, i, j, p, q, h1, h2, hn => by
    have nd' : (x.all ++ alls κ).Nodup := nd
    obtain ⟨n1, n2, n3⟩ := List.nodup_append.mp nd'
    have sub : ∀ {k : Nat} {y : Fp}, κ[k]? = some y → ∀ b ∈ y.all, b ∈ alls κ := fun {k y} hk b hb => mem_alls.mpr ⟨y, List.mem_of_getElem? hk, List.mem_cons.mp hb⟩
    intro b hb hb2
    cases i with
    | zero =>
      have e : x = p := by simpa using h1
      subst e
      cases j with
      | zero => exact hn rfl
      | succ j => exact n3 b hb b (sub (by simpa using h2) b hb2) rfl
    | succ i =>
      cases j with
      | zero =>
        have e : x = q := by simpa using h2
        subst e
        exact n3 b hb2 b (sub (by simpa using h1) b hb) rfl
      | succ j => exact alls_apart n2 (by simpa using h1) (by simpa using h2) (fun z => hn (by rw [z])) b hb hb2
/-- the n-th object is written -/
theorem Ext.upd {n : Nat} {p : Fp} {o : HO} {b : Addr} (h : κ[n]? = some p) (hb : b ∈ p.all) (hm : ∀ xs, H b ≠ some (.tup xs)) (hf : ∀ o u, H b ≠ some (.frz o u)) : Ext κ H κ (upd H b o) := by
  have hk : b ∈ alls κ := mem_alls.mpr ⟨p, List.mem_of_getElem? h, List.mem_cons.mp hb⟩
  refine ⟨⟨κ, [], by simp, paired_refl FpLe.refl κ⟩, fun c hc n => absurd hc n, ⟨fun c u e n => ?_, fun c xs e => ?_, fun c o u e => ?_⟩⟩
  · have : c ≠ b := fun z => n (by rw [z]; exact hk)
    rw [upd_ne this]; exact e
  · have : c ≠ b := fun z => hm xs (by rw [← z]; exact e)
    rw [upd_ne this]; exact e
  · have : c ≠ b := fun z => hf o u (by rw [← z]; exact e)
    rw [upd_ne this]; exact e
theorem ro_upd {B : List Addr} {p : Fp} {o : O} {b : Addr} {u : HO} (hB : ∀ {vs : List V} {ds : List D}, RpAll K B H vs ds → RpAll K B (upd H b u) vs ds) (hb : b ∉ p.all) (r : RO K B H p o) : RO K B (upd H b u) p o := by
  have ne : ∀ c ∈ p.all, c ≠ b := fun c hc z => hb (z ▸ hc)
  have one : ∀ {v : V} {d : D}, Rp K B H v d → Rp K B (upd H b u) v d := fun {v d} r => by
    cases hB (.cons r .nil) with
    | cons r _ => exact r
  cases r with
  | lst z r => exact .lst (by rw [upd_ne (ne _ (by simp [Fp.all]))]; exact z) (hB r)
  | dic z r => exact .dic (by rw [upd_ne (ne _ (by simp [Fp.all]))]; exact z) (Paired.mapP r fun p q z => ⟨z.1, one z.2⟩)
  | mat z r =>
    rename_i a as dss
    refine .mat (by rw [upd_ne (ne _ (by simp [Fp.all]))]; exact z) ?_
    refine paired_of (Paired.length r) fun i c ds h1 h2 => ?_
    obtain ⟨xs, k1, k2⟩ := paired_both r h1 h2
    exact ⟨xs, by rw [upd_ne (ne c (by simp only [Fp.all]; exact List.mem_cons_of_mem _ (List.mem_of_getElem? h1)))]; exact k1, hB k2⟩
theorem Rep.write {n : Nat} {p : Fp} {b : Addr} {u : HO} {o : O} (R : Rep K κ η H σ env st) (h : κ[n]? = some p) (hb : b ∈ p.all) (hm : ∀ xs, H b ≠ some (.tup xs)) (hf : ∀ o u, H b ≠ some (.frz o u))
    (r : Ext κ H κ (L2.upd H b u) → RO K (alls κ ++ η.all) (L2.upd H b u) p o) : Rep K κ η (L2.upd H b u) σ env (st.set n o) ∧ Ext κ H κ (L2.upd H b u) := by
  have e : Ext κ H κ (L2.upd H b u) := Ext.upd h hb hm hf
  have hk : b ∈ alls κ := mem_alls.mpr ⟨p, List.mem_of_getElem? h, List.mem_cons.mp hb⟩
  refine ⟨⟨R.nd, R.dj, R.en, fun c hc => ?_, R.len, fun i x z => ?_, ?_⟩, e⟩
  · have : c ≠ b := fun z => R.dj b hk (by rw [← z]; exact hc)
    rw [upd_ne this]; exact R.hn c hc
  · obtain ⟨v, h1, h2⟩ := R.env i x z
    exact ⟨v, h1, e.re h2⟩
  · refine paired_of (by rw [List.length_set]; exact R.lenS) fun i q x h1 h2 => ?_
    by_cases hi : n = i
    · subst hi
      rw [h] at h1
      cases h1
      have hl : n < st.length := by
        have := (List.getElem?_eq_some_iff.mp h).1
        rwa [R.lenS] at this
      rw [List.getElem?_set_self hl] at h2
      cases h2
      exact r e
    · rw [List.getElem?_set_ne hi] at h2
      exact ro_upd (fun r => e.rps r) (fun z => alls_apart R.nd h h1 hi b hb z) (paired_both R.sto h1 h2)
theorem Rep.writeL {n : Nat} {a : Addr} {xs ys : List V} {ds : List D} (R : Rep K κ η H σ env st) (h : κ[n]? = some (a, [])) (ha : H a = some (.lst xs)) (r : RpAll K (alls κ ++ η.all) H ys ds) :
    Rep K κ η (L2.upd H a (.lst ys)) σ env (st.set n (.lst ds)) ∧ Ext κ H κ (L2.upd H a (.lst ys)) :=
  R.write h (by simp [Fp.all]) (fun xs z => by rw [ha] at z; cases z) (fun o u z => by rw [ha] at z; cases z) fun e => .lst upd_same (e.rps r)
theorem Rep.writeD {n : Nat} {a : Addr} {ks ls : List (Key × V)} {ds : List (Key × D)} (R : Rep K κ η H σ env st) (h : κ[n]? = some (a, [])) (ha : H a = some (.dK ks)) (r : Paired (fun p q => p.1 = q.1 ∧ Rp K (alls κ ++ η.all) H p.2 q.2) ls ds) :
    Rep K κ η (L2.upd H a (.dK ls)) σ env (st.set n (.dic ds)) ∧ Ext κ H κ (L2.upd H a (.dK ls)) :=
  R.write h (by simp [Fp.all]) (fun xs z => by rw [ha] at z; cases z) (fun o u z => by rw [ha] at z; cases z) fun e => .dic upd_same (Paired.mapP r fun p q z => ⟨z.1, e.rp z.2⟩)
theorem Rep.writeR {n k : Nat} {a b : Addr} {as : List Addr} {xs ys : List V} {ds : List D} {dss : List (List D)} (R : Rep K κ η H σ env st) (h : κ[n]? = some (a, as)) (ho : st[n]? = some (.mat dss)) (hk : as[k]? = some b) (hb : H b = some (.lst xs)) (r : RpAll K (alls κ ++ η.all) H ys ds) :
    Rep K κ η (L2.upd H b (.lst ys)) σ env (st.set n (.mat (dss.set k ds))) ∧ Ext κ H κ (L2.upd H b (.lst ys)) := by
  have hm : b ∈ as := List.mem_of_getElem? hk
  refine R.write h (by simp only [Fp.all]; exact List.mem_cons_of_mem _ hm) (fun xs z => by rw [hb] at z; cases z) (fun o u z => by rw [hb] at z; cases z) fun e => ?_
  have ro := paired_both R.sto h ho
  cases ro with
  | mat z rr =>
    have nd : (a :: as).Nodup := by
      have : ∀ {κ : List Fp} {n : Nat} {p : Fp}, (alls κ).Nodup → κ[n]? = some p → p.all.Nodup := by
        intro κ
        induction κ with
        | nil => intro n p _ h; simp at h
        | cons q κ ih =>
          intro n p nd h
          have nd' : (q.all ++ alls κ).Nodup := nd
          obtain ⟨n1, n2, _⟩ := List.nodup_append.mp nd'
          cases n with
          | zero =>
            have e : q = p := by simpa using h
            subst e; exact n1
          | succ n => exact ih n2 (by simpa using h)
      exact this R.nd h
    obtain ⟨na, ns⟩ := List.nodup_cons.mp nd
    refine .mat (by rw [upd_ne (fun z => na (by rw [z]; exact hm))]; exact z) (paired_of (by rw [List.length_set]; exact Paired.length rr) fun i c es h1 h2 => ?_)
    by_cases hi : k = i
    · subst hi
      rw [hk] at h1
      cases h1
      have hl : k < dss.length := by
        have := (List.getElem?_eq_some_iff.mp hk).1
        rwa [Paired.length rr] at this
      rw [List.getElem?_set_self hl] at h2
      cases h2
      exact ⟨ys, upd_same, e.rps r⟩
    · rw [List.getElem?_set_ne hi] at h2
      obtain ⟨zs, k1, k2⟩ := paired_both rr h1 h2
      have : c ≠ b := fun z => hi (nd_ix ns hk (by rw [← z]; exact h1))
      exact ⟨zs, by rw [upd_ne this]; exact k1, e.rps k2⟩
/-- the slot of an object of the store -/
theorem Rep.slot (R : Rep K κ η H σ env st) {i n : Nat} (h : env[i]? = some (some (.loc n))) {v : V} (hv : σ[i]? = some (some v)) {o : O} (ho : st[n]? = some o) : ∃ p, κ[n]? = some p ∧ v = .ref p.1 ∧ RO K (alls κ ++ η.all) H p o := by
  obtain ⟨w, h1, h2⟩ := R.env i _ h
  rw [hv] at h1
  have e : v = w := by simpa using h1
  subst e
  cases h2 with
  | loc hp =>
    rename_i p
    exact ⟨p, hp, rfl, paired_both R.sto hp ho⟩
end
/-- the slot's object: its number, its items -/
def slotL (env : Env) (st : Sto) (i : Nat) : Option (Nat × List D) := match env[i]? with
  | some (some (.loc n)) => match st[n]? with
    | some (.lst ds) => some (n, ds)
    | _ => none
  | _ => none
def slotD (env : Env) (st : Sto) (i : Nat) : Option (Nat × List (Key × D)) := match env[i]? with
  | some (some (.loc n)) => match st[n]? with
    | some (.dic ds) => some (n, ds)
    | _ => none
  | _ => none
def slotM (env : Env) (st : Sto) (i : Nat) : Option (Nat × List (List D)) := match env[i]? with
  | some (some (.loc n)) => match st[n]? with
    | some (.mat ds) => some (n, ds)
    | _ => none
  | _ => none
section
variable {K : PySem.W.Frag} {κ κ' : List Fp} {η : Hid} {H H' : Hp} {σ : L2.St} {env : Env} {st : Sto} {i n : Nat}
theorem slotL_some {ds : List D} (h : slotL env st i = some (n, ds)) : env[i]? = some (some (.loc n)) ∧ st[n]? = some (.lst ds) := by
  unfold slotL at h
  split at h
  · rename_i m hm
    split at h
    · rename_i es he
      cases h
      exact ⟨hm, he⟩
    · cases h
  · cases h
theorem slotD_some {ds : List (Key × D)} (h : slotD env st i = some (n, ds)) : env[i]? = some (some (.loc n)) ∧ st[n]? = some (.dic ds) := by
  unfold slotD at h
  split at h
  · rename_i m hm
    split at h
    · rename_i es he
      cases h
      exact ⟨hm, he⟩
    · cases h
  · cases h
theorem slotM_some {ds : List (List D)} (h : slotM env st i = some (n, ds)) : env[i]? = some (some (.loc n)) ∧ st[n]? = some (.mat ds) := by
  unfold slotM at h
  split at h
  · rename_i m hm
    split at h
    · rename_i es he
      cases h
      exact ⟨hm, he⟩
    · cases h
  · cases h
theorem Rep.slotL (R : Rep K κ η H σ env st) {ds : List D} (h : ML.slotL env st i = some (n, ds)) {v : V} (hv : σ[i]? = some (some v)) : ∃ a xs, κ[n]? = some (a, []) ∧ v = .ref a ∧ H a = some (.lst xs) ∧ RpAll K (alls κ ++ η.all) H xs ds := by
  obtain ⟨h1, h2⟩ := slotL_some h
  obtain ⟨p, k1, k2, k3⟩ := R.slot h1 hv h2
  cases k3 with
  | lst e r => exact ⟨_, _, k1, k2, e, r⟩
theorem Rep.slotD (R : Rep K κ η H σ env st) {ds : List (Key × D)} (h : ML.slotD env st i = some (n, ds)) {v : V} (hv : σ[i]? = some (some v)) : ∃ a xs, κ[n]? = some (a, []) ∧ v = .ref a ∧ H a = some (.dK xs) ∧ Paired (fun p q => p.1 = q.1 ∧ Rp K (alls κ ++ η.all) H p.2 q.2) xs ds := by
  obtain ⟨h1, h2⟩ := slotD_some h
  obtain ⟨p, k1, k2, k3⟩ := R.slot h1 hv h2
  cases k3 with
  | dic e r => exact ⟨_, _, k1, k2, e, r⟩
theorem Rep.slotM (R : Rep K κ η H σ env st) {ds : List (List D)} (h : ML.slotM env st i = some (n, ds)) {v : V} (hv : σ[i]? = some (some v)) : ∃ a as, κ[n]? = some (a, as) ∧ v = .ref a ∧ H a = some (.lst (as.map V.ref)) ∧ Paired (fun b ds => ∃ xs, H b = some (.lst xs) ∧ RpAll K (alls κ ++ η.all) H xs ds) as ds := by
  obtain ⟨h1, h2⟩ := slotM_some h
  obtain ⟨p, k1, k2, k3⟩ := R.slot h1 hv h2
  cases k3 with
  | mat e r => exact ⟨_, _, k1, k2, e, r⟩
end
end ML
set_option maxRecDepth 100000
/-! ML7: assignments, methods that write, dicts. -/
namespace ML
open PySem PySem.Spec PyProof.Rows L2
section
variable {X : Cx} {e a b : Expr} {pos pos' p : Pos}
/-! name = value -/
def mSet (i : Nat) (m : M D) : S := fun env st => (m env st).map fun p => (.nx, env.set i (some (.val p.1)), p.2)
theorem set_t {i : Nat} {m : M D} {Dn : Ends} {σ : L2.St} {H : Hp} (h : tS X.K (mSet i m) Dn σ H) : tAsg (tE X.K m) (gName i) Dn σ H := by
  obtain ⟨κ, η, env, st, f, env', st', R, em, q⟩ := h
  unfold mSet at em
  simp only [Option.map_eq_some_iff] at em
  obtain ⟨⟨d, s1⟩, h1, h2⟩ := em
  cases h2
  exact ⟨κ, η, env, st, d, _, R, h1, fun v κ1 H1 R1 e1 rv => q κ1 _ H1 (R1.setE i (.val rv)) e1⟩
def mOwn (i : Nat) (m : M (List D)) : S := fun env st => (m env st).map fun p => (.nx, env.set i (some (.loc p.2.length)), p.2 ++ [.lst p.1])
theorem own_t {i : Nat} {m : M (List D)} {Dn : Ends} {σ : L2.St} {H : Hp} (h : tS X.K (mOwn i m) Dn σ H) : tAsg (tN X.K m) (gName i) Dn σ H := by
  obtain ⟨κ, η, env, st, f, env', st', R, em, q⟩ := h
  unfold mOwn at em
  simp only [Option.map_eq_some_iff] at em
  obtain ⟨⟨d, s1⟩, h1, h2⟩ := em
  cases h2
  refine ⟨κ, η, env, st, d, _, R, h1, fun v xs κ1 H1 R1 e1 hn hl rs => ?_⟩
  have R2 := R1.adopt (.lst hl rs)
  refine q _ _ H1 (R2.setE i (v := .ref v) (.loc (p := (v, [])) ?_)) (e1.snoc hn)
  have : κ1.length = s1.length := R1.lenS
  rw [← this]
  simp
variable {i : Nat} {x : Str}
theorem ss_set {m : M D} (hN : X.N.Nodup) (hi : X.N[i]? = some x) (hx : Loc X.env.scope x) (he : SE X e m) (hs : swapsWith e (some (.Name x pos')) pos.line X.env = pure false := by rfl) (hf : X.fn x = true ∨ X.env.scope.names.lookup x = some .local := by first | exact .inl rfl | exact .inr rfl | assumption) :
    SS X (.Assign [.Name x pos'] e pos) (mSet i m) := PS.imp (ps_set hN hi hx he hs hf) fun Dn σ H h => set_t h
theorem ss_own {m : M (List D)} (hN : X.N.Nodup) (hi : X.N[i]? = some x) (hx : Loc X.env.scope x) (he : SN X e m) (hs : swapsWith e (some (.Name x pos')) pos.line X.env = pure false := by rfl) (hf : X.fn x = true ∨ X.env.scope.names.lookup x = some .local := by first | exact .inl rfl | exact .inr rfl | assumption) :
    SS X (.Assign [.Name x pos'] e pos) (mOwn i m) := PS.imp (ps_set hN hi hx he hs hf) fun Dn σ H h => own_t h
/-- name = name -/
def mAlias (i j : Nat) : S := fun env st => match env[j]? with
  | some (some y) => some (.nx, env.set i (some y), st)
  | _ => none
theorem ss_alias (j : Nat) {y : Str} {py : Pos} (hN : X.N.Nodup) (hi : X.N[i]? = some x) (hx : Loc X.env.scope x) (he : PE X (.Name y py) (tVar j)) (hs : swapsWith (.Name y py) (some (.Name x pos')) pos.line X.env = pure false := by rfl) (hf : X.fn x = true ∨ X.env.scope.names.lookup x = some .local := by first | exact .inl rfl | exact .inr rfl | assumption) :
    SS X (.Assign [.Name x pos'] (.Name y py) pos) (mAlias i j) := PS.imp (ps_set hN hi hx he hs hf) fun Dn σ H ⟨κ, η, env, st, f, env', st', R, em, q⟩ => by
  unfold mAlias at em
  split at em
  · rename_i z hz
    cases em
    obtain ⟨v, h1, h2⟩ := R.env j _ hz
    exact ⟨v, h1, q κ _ H (R.setE i h2) Ext.refl⟩
  · cases em
/-- name = {} -/
def mDict (i : Nat) : S := fun env st => some (.nx, env.set i (some (.loc st.length)), st ++ [.dic []])
theorem ss_dict {pd : Pos} (hN : X.N.Nodup) (hi : X.N[i]? = some x) (hx : Loc X.env.scope x) (hs : swapsWith (.Dict [] [] pd) (some (.Name x pos')) pos.line X.env = pure false := by rfl) (hf : X.fn x = true ∨ X.env.scope.names.lookup x = some .local := by first | exact .inl rfl | exact .inr rfl | assumption) :
    SS X (.Assign [.Name x pos'] (.Dict [] [] pd) pos) (mDict i) := PS.imp (ps_set hN hi hx pe_dnewK hs hf) fun Dn σ H ⟨κ, η, env, st, f, env', st', R, em, q⟩ => by
  cases em
  intro v hv
  have R2 := (R.hide (o := .dK []) hv).adopt (.dic upd_same .nil)
  refine q _ _ _ (R2.setE i (v := .ref v) (.loc (p := (v, [])) ?_)) ((Ext.of_same (same_new hv)).snoc hv)
  have : κ.length = st.length := R.lenS
  rw [← this]
  simp
/-! targets -/
abbrev Bd := D → Env → Option Env
def bName (i : Nat) : Bd := fun d env => some (env.set i (some (.val d)))
def bAll : List Bd → List D → Env → Option Env
  | [], [], env => some env
  | b :: bs, d :: ds, env => (b d env).bind fun env1 => bAll bs ds env1
  | _, _, _ => none
def bTup (bs : List Bd) : Bd := fun d env => match d with
  | .tuple ds => bAll bs ds env
  | _ => none
def tG (K : PySem.W.Frag) (W : List Nat) (bd : Bd) : TG := fun v σ H Q => ∃ κ η env st d env', Rep K κ η H σ env st ∧ Rp K (alls κ ++ η.all) H v d ∧ bd d env = some env' ∧
  ∀ σ', Rep K κ η H σ' env' st → σ'.length = σ.length → (∀ j, j ∉ W → σ'[j]? = σ[j]?) → Q σ' H
def tGs (K : PySem.W.Frag) (W : List Nat) (bs : List Bd) : TGs := fun vs σ H Q => ∃ κ η env st ds env', Rep K κ η H σ env st ∧ RpAll K (alls κ ++ η.all) H vs ds ∧ bAll bs ds env = some env' ∧
  ∀ σ', Rep K κ η H σ' env' st → σ'.length = σ.length → (∀ j, j ∉ W → σ'[j]? = σ[j]?) → Q σ' H
abbrev SG (X : Cx) (t : Expr) (W : List Nat) (bd : Bd) : Prop := PG X t (tG X.K W bd)
abbrev SGs (X : Cx) (t : List Expr) (W : List Nat) (bs : List Bd) : Prop := PGs X t (tGs X.K W bs)
theorem PG.imp {X : Cx} {e : Expr} {t t' : TG} (h : PG X e t) (i : ∀ v σ H Q, t' v σ H Q → t v σ H Q) : PG X e t' := ⟨fun pins s σ H v u Q I r q => h.run pins s σ H v u Q I r (i v σ H Q q)⟩
theorem PGs.imp {X : Cx} {e : List Expr} {t t' : TGs} (h : PGs X e t) (i : ∀ v σ H Q, t' v σ H Q → t v σ H Q) : PGs X e t' := ⟨fun pins s σ H v u Q I r q => h.run pins s σ H v u Q I r (i v σ H Q q)⟩
theorem sg_name (hN : X.N.Nodup) (hi : X.N[i]? = some x) (hx : Loc X.env.scope x) (hf : X.fn x = true ∨ X.env.scope.names.lookup x = some .local := by first | exact .inl rfl | exact .inr rfl | assumption) : SG X (.Name x pos) [i] (bName i) := PG.imp (pg_name hN hi hx hf) fun v σ H Q ⟨κ, η, env, st, d, env', R, r, em, q⟩ => by
  cases em
  refine q _ (R.setE i (.val r)) (by rw [List.length_set]) fun j hj => ?_
  rw [List.getElem?_set_ne]
  intro z
  exact hj (by rw [z]; simp)
theorem sgs_nil : SGs X [] [] [] := PGs.imp pgs_nil fun vs σ H Q ⟨κ, η, env, st, ds, env', R, r, em, q⟩ => by
  cases r with
  | nil =>
    cases em
    exact ⟨rfl, q σ R rfl fun _ _ => rfl⟩
  | cons _ _ => cases em
theorem sgs_cons {es : List Expr} {W W' : List Nat} {bd : Bd} {bs : List Bd} (h1 : SG X e W bd) (h2 : SGs X es W' bs) (hs : (assignEach (e :: es) X.env).map (·.2) = assign e X.env :: (assignEach es X.env).map (·.2) := by rfl) : SGs X (e :: es) (W ++ W') (bd :: bs) :=
  PGs.imp (pgs_cons h1 h2 hs) fun vs σ H Q ⟨κ, η, env, st, ds, env', R, r, em, q⟩ => by
    cases r with
    | nil => cases em
    | cons r t =>
      unfold bAll at em
      obtain ⟨env1, k1, k2⟩ := Option.bind_eq_some_iff.mp em
      refine ⟨_, _, rfl, κ, η, env, st, _, env1, R, r, k1, fun σ1 R1 l1 w1 => ⟨κ, η, env1, st, _, env', R1, t, k2, fun σ2 R2 l2 w2 => ?_⟩⟩
      exact q σ2 R2 (l2.trans l1) fun j hj => (w2 j fun z => hj (List.mem_append_right _ z)).trans (w1 j fun z => hj (List.mem_append_left _ z))
theorem sg_tup {es : List Expr} {k : Nat} {W : List Nat} {bs : List Bd} (hc : X.calm = true) (h : SGs X es W bs) (hn : (assignEach es X.env).length = bs.length := by rfl) (hst : (assignEach es X.env).findIdx? (·.1) = none := by rfl) : SG X (.Tuple es k pos) W (bTup bs) :=
  PG.imp (pg_tup hc h hn hst) fun v σ H Q ⟨κ, η, env, st, d, env', R, r, em, q⟩ => by
    unfold bTup at em
    split at em
    · cases r with
      | tup er rr =>
        refine ⟨_, _, rfl, er, ?_, κ, η, env, st, _, env', R, rr, em, q⟩
        have : ∀ (bs : List Bd) (ds : List D) (env : Env) env', bAll bs ds env = some env' → ds.length = bs.length := by
          intro bs
          induction bs with
          | nil => intro ds env env' h; cases ds with
            | nil => rfl
            | cons d ds => cases h
          | cons b bs ih => intro ds env env' h; cases ds with
            | nil => cases h
            | cons d ds =>
              unfold bAll at h
              obtain ⟨e1, _, k2⟩ := Option.bind_eq_some_iff.mp h
              rw [List.length_cons, List.length_cons, ih ds e1 env' k2]
        rw [rr.length]
        exact this _ _ _ _ em
    · cases em
/-- target = value -/
def mAsg (bd : Bd) (m : M D) : S := fun env st => (m env st).bind fun p => (bd p.1 env).map fun env' => (.nx, env', p.2)
theorem ss_asg {tg : Expr} {W : List Nat} {bd : Bd} {m : M D} (he : SE X e m) (hg : SG X tg W bd) (hs : swapsWithSole [tg] e pos.line X.env = pure false := by rfl) (hw : swappedStores [tg] e X.env = pure none := by rfl)
    (h1 : (assignEach [tg] X.env).map (·.2) = [assign tg X.env] := by rfl) : SS X (.Assign [tg] e pos) (mAsg bd m) := PS.imp (ps_asg he hg hs hw h1) fun Dn σ H ⟨κ, η, env, st, f, env', st', R, em, q⟩ => by
  unfold mAsg at em
  simp only [Option.bind_eq_some_iff, Option.map_eq_some_iff] at em
  obtain ⟨⟨d, s1⟩, h1, env1, h2, h3⟩ := em
  cases h3
  exact ⟨κ, η, env, st, d, _, R, h1, fun v κ1 H1 R1 e1 rv => ⟨κ1, η, env, _, d, _, R1, rv, h2, fun σ' R' _ _ => q κ1 σ' H1 R' e1⟩⟩
/-- a, b = x, y -/
def mPar (i j : Nat) (m : M (List Opd)) : S := fun env st => (m env st).bind fun p => match p.1 with
  | [o, o'] => (vres env o).bind fun d => (vres env o').map fun d' => (.nx, (env.set i (some (.val d))).set j (some (.val d')), p.2)
  | _ => none
theorem ss_par {j : Nat} {y : Str} {px py pt : Pos} {kt k2 pt2} {m : M (List Opd)} (hc : X.calm = true) (hN : X.N.Nodup) (hi : X.N[i]? = some x) (hj : X.N[j]? = some y) (hij : i ≠ j)
    (hx : X.env.scope.names.lookup x = some .local) (hy : X.env.scope.names.lookup y = some .local) (ha : SA X [a, b] m)
    (hw : swappedStores [.Tuple [.Name x px, .Name y py] kt pt] (.Tuple [a, b] k2 pt2) X.env = pure (some [x, y]))
    (hs : swapsWithSole [.Tuple [.Name x px, .Name y py] kt pt] (.Tuple [a, b] k2 pt2) pos.line X.env = pure false := by rfl) :
    SS X (.Assign [.Tuple [.Name x px, .Name y py] kt pt] (.Tuple [a, b] k2 pt2) pos) (mPar i j m) := PS.imp (ps_par hc hN hi hj hij hx hy ha hw hs) fun Dn σ H ⟨κ, η, env, st, f, env', st', R, em, q⟩ => by
  unfold mPar at em
  simp only [Option.bind_eq_some_iff] at em
  obtain ⟨⟨os, s1⟩, h1, h2⟩ := em
  dsimp only at h2
  split at h2
  · simp only [Option.bind_eq_some_iff, Option.map_eq_some_iff] at h2
    obtain ⟨d, k1, d', k2, k3⟩ := h2
    cases k3
    refine ⟨κ, η, env, st, _, _, R, h1, fun vs κ1 H1 R1 e1 v1 => ?_⟩
    cases v1 with
    | cons r1 t1 =>
      cases t1 with
      | cons r2 t2 =>
        cases t2
        exact ⟨_, _, rfl, q κ1 _ H1 ((R1.setE i (.val (r1.vres R1 k1))).setE j (.val (r2.vres R1 k2))) e1⟩
  · cases h2
/-! x[i] = v, a list of the store -/
def mSetIx (i : Nat) (mi m : M D) : S := fun env st => (m env st).bind fun p => (mi env p.2).bind fun q => (slotL env q.2 i).bind fun r => match q.1 with
  | .int k => (ixN r.2.length k).map fun j => (.nx, env, q.2.set r.1 (.lst (r.2.set j p.1)))
  | _ => none
theorem ss_setIx (i : Nat) {ix : Expr} {mi m : M D} {p2 : Pos} (he : SE X e m) (ho : PE X (.Name x p) (tVar i)) (hi : SE X ix mi) (hs : swapsWithSole [.Subscript (.Name x p) ix p2] e pos.line X.env = pure false := by rfl) (hw : swappedStores [.Subscript (.Name x p) ix p2] e X.env = pure none := by rfl)
    (h1 : (assignEach [.Subscript (.Name x p) ix p2] X.env).map (·.2) = [assign (.Subscript (.Name x p) ix p2) X.env] := by rfl)
    (ha : ∀ v, assign (.Subscript (.Name x p) ix p2) X.env v = (do
      let ov ← holding [v] (eval (.Name x p) X.env)
      let iv ← holding [v, ov] (eval ix X.env)
      standAt p2
      holding [v, ov, iv] (setItem ov iv v)
      release [v, ov, iv] []) := by intro _; rfl) : SS X (.Assign [.Subscript (.Name x p) ix p2] e pos) (mSetIx i mi m) := PS.imp (ps_asg he (pg_sub ho hi set_list ha) hs hw h1) fun Dn σ H ⟨κ, η, env, st, f, env', st', R, em, q⟩ => by
  unfold mSetIx at em
  simp only [Option.bind_eq_some_iff] at em
  obtain ⟨⟨d, s1⟩, h1, ⟨di, s2⟩, h2, ⟨n, ds⟩, h3, h4⟩ := em
  dsimp only at h4
  split at h4
  · rename_i k
    obtain ⟨j, k1, k2⟩ := Option.map_eq_some_iff.mp h4
    cases k2
    refine ⟨κ, η, env, st, d, s1, R, h1, fun v κ1 H1 R1 e1 rv => ?_⟩
    obtain ⟨w, hw1, _⟩ := R1.env i _ (slotL_some h3).1
    refine ⟨w, hw1, κ1, η, env, s1, _, s2, R1, h2, fun vi κ2 H2 R2 e2 ri => ?_⟩
    cases ri
    obtain ⟨b, xs, z1, z2, z3, z4⟩ := R2.slotL h3 hw1
    refine ⟨b, xs, k, j, z2, rfl, z3, by rw [z4.length]; exact k1, ?_⟩
    obtain ⟨R3, e3⟩ := R2.writeL (ys := xs.set j v) (ds := ds.set j d) z1 z3 (z4.set (e2.rp rv) j)
    exact q κ2 σ _ R3 ((e1.trans e2).trans e3)
  · cases h4
/-- x[i] += e, ints -/
def mAugIx (i : Nat) (mi m : M D) : S := fun env st => (mi env st).bind fun q => match q.1 with
  | .int k => (slotL env q.2 i).bind fun r => (atI r.2 k).bind fun x => (m env q.2).bind fun p => (slotL env p.2 i).bind fun r2 => (ixN r2.2.length k).bind fun j => match x, p.1 with
    | .int a, .int b => some (.nx, env, p.2.set r2.1 (.lst (r2.2.set j (.int (a + b)))))
    | _, _ => none
  | _ => none
theorem get_list : PGet X (fun o i H Q => ∃ p xs k v, o = .ref p ∧ i = .int k ∧ SqL X.K H p xs ∧ atI xs k = some v ∧ Q v H) := by
  intro pins s σ H o i ov iv Q I ro ri h
  obtain ⟨p, xs, k, v, rfl, rfl, hq, he, q⟩ := h
  cases ro
  obtain ⟨t, rfl⟩ := ri
  obtain ⟨its, r, pl, hz⟩ := I.list hq
  obtain ⟨j, h1, h2, h3, h4, h5⟩ := atI_get he
  obtain ⟨w, ew, rw'⟩ := r.get h2
  have hl := r.length
  have hn := line63
  have fin : EP X pins σ Q w s := ⟨v, H, I, rw', q⟩
  by_cases h0 : 0 ≤ k
  · have hj : k.toNat = j := by
      rw [seqIndex_of h0 h5] at h1
      exact Option.some.inj h1
    exact wpAny_getItem_list pl.isList h0 (by omega) (by rw [hj]; simpa using ew) fin
  · have hj : (k + (its.toArray.size : Int)).toNat = j := by
      rw [seqIndex_neg (by omega) h4] at h1
      rw [List.size_toArray, ← hl]
      exact Option.some.inj h1
    exact wpAny_getItem_list_neg pl.isList (by omega) (by rw [List.size_toArray] <;> omega) (by omega) (by rw [hj]; simpa using ew) fin
theorem ss_augIx (i : Nat) {ix : Expr} {mi m : M D} {p2 : Pos} (ho : PE X (.Name x p) (tVar i)) (hi : SE X ix mi) (he : SE X e m)
    (ha : ∀ ov iv new, augStore ix ov iv new = (do holding [new, ov, iv] (setItem ov iv new); release [new, ov, iv] []; pure .next) := by intros; rfl) : SS X (.AugAssign (.Subscript (.Name x p) ix p2) .Add e pos) (mAugIx i mi m) :=
  PS.imp (ps_augS ho hi get_list he ip_add set_list ha) fun Dn σ H ⟨κ, η, env, st, f, env', st', R, em, q⟩ => by
    unfold mAugIx at em
    simp only [Option.bind_eq_some_iff] at em
    obtain ⟨⟨di, s1⟩, h1, h2⟩ := em
    dsimp only at h2
    split at h2
    · rename_i k
      simp only [Option.bind_eq_some_iff] at h2
      obtain ⟨⟨n, ds⟩, k1, dx, k2, ⟨d, s2⟩, k3, ⟨n2, ds2⟩, k4, j, k5, k6⟩ := h2
      dsimp only at k6
      split at k6
      · rename_i ia ib
        cases k6
        obtain ⟨w, hw1, _⟩ := R.env i _ (slotL_some k1).1
        refine ⟨w, hw1, κ, η, env, st, _, s1, R, h1, fun vi κ1 H1 R1 e1 ri => ?_⟩
        cases ri
        obtain ⟨b, xs, z1, z2, z3, z4⟩ := R1.slotL k1 hw1
        obtain ⟨vx, y1, y2⟩ := rps_at z4 k2
        cases y2
        refine ⟨b, xs, k, _, z2, rfl, .inl (.inl z3), y1, κ1, η, env, s1, _, s2, R1, k3, fun vd κ2 H2 R2 e2 rd => ?_⟩
        cases rd
        refine ⟨ia, ib, rfl, rfl, ?_⟩
        obtain ⟨b', xs', z1', z2', z3', z4'⟩ := R2.slotL k4 hw1
        refine ⟨b', xs', k, j, z2', rfl, z3', by rw [z4'.length]; exact k5, ?_⟩
        obtain ⟨R3, e3⟩ := R2.writeL (ys := xs'.set j (.int (ia + ib))) (ds := ds2.set j (.int (ia + ib))) z1' z3' (z4'.set (.int _) j)
        exact q κ2 σ _ R3 ((e1.trans e2).trans e3)
      · cases k6
    · cases h2
/-- x += e, ints -/
def mAug (i : Nat) (m : M D) : S := fun env st => match env[i]? with
  | some (some (.val (.int a))) => (m env st).bind fun p => match p.1 with
    | .int b => some (.nx, env.set i (some (.val (.int (a + b)))), p.2)
    | _ => none
  | _ => none
theorem ss_aug (hN : X.N.Nodup) (hi : X.N[i]? = some x) (hx : Loc X.env.scope x) {m : M D} (he : SE X e m) (hf : X.fn x = true ∨ X.env.scope.names.lookup x = some .local := by first | exact .inl rfl | exact .inr rfl | assumption) :
    SS X (.AugAssign (.Name x p) .Add e pos) (mAug i m) := PS.imp (ps_aug hN hi hx he ip_add hf) fun Dn σ H ⟨κ, η, env, st, f, env', st', R, em, q⟩ => by
  unfold mAug at em
  split at em
  · rename_i a ha
    obtain ⟨⟨d, s1⟩, h1, h2⟩ := Option.bind_eq_some_iff.mp em
    dsimp only at h2
    split at h2
    · cases h2
      obtain ⟨v, z1, z2⟩ := R.env i _ ha
      cases z2 with
      | val r =>
        cases r
        refine ⟨_, z1, κ, η, env, st, _, _, R, h1, fun vd κ1 H1 R1 e1 rd => ?_⟩
        cases rd
        exact ⟨_, _, rfl, rfl, q κ1 _ H1 (R1.setE i (.val (.int _))) e1⟩
    · cases h2
  · cases em
def mAugSub (i : Nat) (m : M D) : S := fun env st => match env[i]? with
  | some (some (.val (.int a))) => (m env st).bind fun p => match p.1 with
    | .int b => some (.nx, env.set i (some (.val (.int (a - b)))), p.2)
    | _ => none
  | _ => none
theorem ss_augSub (hN : X.N.Nodup) (hi : X.N[i]? = some x) (hx : Loc X.env.scope x) {m : M D} (he : SE X e m) (hf : X.fn x = true ∨ X.env.scope.names.lookup x = some .local := by first | exact .inl rfl | exact .inr rfl | assumption) :
    SS X (.AugAssign (.Name x p) .Sub e pos) (mAugSub i m) := PS.imp (ps_aug hN hi hx he ip_sub hf) fun Dn σ H ⟨κ, η, env, st, f, env', st', R, em, q⟩ => by
  unfold mAugSub at em
  split at em
  · rename_i a ha
    obtain ⟨⟨d, s1⟩, h1, h2⟩ := Option.bind_eq_some_iff.mp em
    dsimp only at h2
    split at h2
    · cases h2
      obtain ⟨v, z1, z2⟩ := R.env i _ ha
      cases z2 with
      | val r =>
        cases r
        refine ⟨_, z1, κ, η, env, st, _, _, R, h1, fun vd κ1 H1 R1 e1 rd => ?_⟩
        cases rd
        exact ⟨_, _, rfl, rfl, q κ1 _ H1 (R1.setE i (.val (.int _))) e1⟩
    · cases h2
  · cases em
/-! methods of a list of the store -/
/-- a row of a list of lists -/
def oRow (i : Nat) (mi : M D) : M Opd := fun env st => (mi env st).bind fun q => match q.1 with
  | .int k => (slotM env q.2 i).bind fun r => (ixN r.2.length k).map fun j => (.r i j, q.2)
  | _ => none
theorem so_row (i : Nat) {ix : Expr} {mi : M D} (ho : PE X (.Name x p) (tVar i)) (hi : SE X ix mi) (hs : PlainIx ix := by exact fun _ _ => rfl) : SO X (.Subscript (.Name x p) ix pos) (oRow i mi) :=
  PE.imp (pe_ix ix_list ho hi hs) fun σ H Q ⟨κ, η, env, st, o, st', R, em, q⟩ => by
    unfold oRow at em
    obtain ⟨⟨d, s1⟩, h1, h2⟩ := Option.bind_eq_some_iff.mp em
    dsimp only at h2
    split at h2
    · rename_i k
      obtain ⟨⟨n, dss⟩, k1, k2⟩ := Option.bind_eq_some_iff.mp h2
      obtain ⟨j, k3, k4⟩ := Option.map_eq_some_iff.mp k2
      cases k4
      obtain ⟨w, hw1, _⟩ := R.env i _ (slotM_some k1).1
      refine ⟨w, hw1, κ, η, env, st, _, _, R, h1, fun vi κ1 H1 R1 e1 ri => ?_⟩
      cases ri
      obtain ⟨a, as, z1, z2, z3, z4⟩ := R1.slotM k1 hw1
      have hlen : as.length = dss.length := Paired.length z4
      have hj : j < as.length := by
        obtain ⟨_, hj, _⟩ := ixN_seq k3
        dsimp only at hj
        omega
      have e1' : (as.map V.ref)[j]? = some (.ref as[j]) := by rw [List.getElem?_map, List.getElem?_eq_getElem hj]; rfl
      refine ⟨a, as.map V.ref, k, .ref as[j], z2, rfl, .inl (.inl z3), ?_, q _ κ1 H1 R1 e1 ⟨n, (a, as), as[j], (slotM_some k1).1, z1, List.getElem?_eq_getElem hj, rfl⟩⟩
      unfold atI
      rw [List.length_map, hlen, k3]
      exact e1'
    · cases h2
variable {apos cpos : Pos}
/-- x.append(e) -/
def mAppend (i : Nat) (m : M D) : S := fun env st => (slotL env st i).bind fun _ => (m env st).bind fun p => (slotL env p.2 i).bind fun r => if r.2.length < 1000000 then some (.nx, env, p.2.set r.1 (.lst (r.2 ++ [p.1]))) else none
theorem ss_append (i : Nat) {m : M D} (ho : PE X (.Name x p) (tVar i)) (he : SE X e m)
    (hbase : attributeBase (.Name x p) "append" X.env (eval (.Name x p) X.env) = eval (.Name x p) X.env := by rfl)
    (hfew : ((backTo cpos (starEach [e] X.env)).all (fun x => !x.1) && (backToKw cpos (keywordEach [] X.env)).all (fun x => x.1.isSome)
      && decide ([e].length + ([] : List Keyword).length + (if ([] : List Keyword).isEmpty then 0 else 1) < 30)) = true := by rfl)
    (hline : (apos.endLine == cpos.line) = true := by rfl) (hs : starEach [e] X.env = (false, eval e X.env) :: starEach [] X.env := by rfl)
    (hsw : swapsWith (.Call (.Attribute (.Name x p) "append" apos) [e] [] cpos) none pos.line X.env = pure false := by rfl) :
    SS X (.Expr (.Call (.Attribute (.Name x p) "append" apos) [e] [] cpos) pos) (mAppend i m) :=
  PS.imp (ps_expr (pe_bm PySem.F.plainAttrs_list PySem.F.slot_list_append PySem.F.type_list_append mt_append ho (pa_cons he pa_nil hs) hbase hfew hline hs rfl) hsw) fun Dn σ H ⟨κ, η, env, st, f, env', st', R, em, q⟩ => by
    unfold mAppend at em
    simp only [Option.bind_eq_some_iff] at em
    obtain ⟨⟨n0, ds0⟩, h0, ⟨d, s1⟩, h1, ⟨n, ds⟩, h2, h3⟩ := em
    split at h3
    · rename_i hz
      cases h3
      obtain ⟨w, hw1, hw2⟩ := R.env i _ (slotL_some h2).1
      refine ⟨w, hw1, ?_, κ, η, env, st, d, s1, R, h1, fun v κ1 H1 R1 e1 rv => ?_⟩
      · obtain ⟨a, xs, z1, rfl, z3, z4⟩ := R.slotL h0 hw1
        exact .inl ⟨rfl, _, .inl (.inl z3)⟩
      · obtain ⟨a, xs, z1, z2, z3, z4⟩ := R1.slotL h2 hw1
        refine ⟨a, xs, v, z2, rfl, z3, by rw [z4.length]; exact Nat.lt_of_lt_of_le hz million, ?_⟩
        obtain ⟨R3, e3⟩ := R1.writeL (ys := xs ++ [v]) (ds := ds ++ [d]) z1 z3 (z4.append (.cons rv .nil))
        exact q κ1 σ _ R3 (e1.trans e3)
    · cases h3
/-- x[i].append(e) -/
def mAppendR (mo : M Opd) (m : M D) : S := fun env st => (mo env st).bind fun q => match q.1 with
  | .r i j => (res env q.2 (.r i j)).bind fun _ => (m env q.2).bind fun p => (slotM env p.2 i).bind fun r => (r.2[j]?).bind fun ds => if ds.length < 1000000 then some (.nx, env, p.2.set r.1 (.mat (r.2.set j (ds ++ [p.1])))) else none
  | _ => none
theorem ss_appendR {o : Expr} {mo : M Opd} {m : M D} (ho : SO X o mo) (he : SE X e m)
    (hbase : attributeBase o "append" X.env (eval o X.env) = eval o X.env := by rfl)
    (hfew : ((backTo cpos (starEach [e] X.env)).all (fun x => !x.1) && (backToKw cpos (keywordEach [] X.env)).all (fun x => x.1.isSome)
      && decide ([e].length + ([] : List Keyword).length + (if ([] : List Keyword).isEmpty then 0 else 1) < 30)) = true := by rfl)
    (hline : (apos.endLine == cpos.line) = true := by rfl) (hs : starEach [e] X.env = (false, eval e X.env) :: starEach [] X.env := by rfl)
    (hsw : swapsWith (.Call (.Attribute o "append" apos) [e] [] cpos) none pos.line X.env = pure false := by rfl) :
    SS X (.Expr (.Call (.Attribute o "append" apos) [e] [] cpos) pos) (mAppendR mo m) :=
  PS.imp (ps_expr (pe_bm PySem.F.plainAttrs_list PySem.F.slot_list_append PySem.F.type_list_append mt_append ho (pa_cons he pa_nil hs) hbase hfew hline hs rfl) hsw) fun Dn σ H ⟨κ, η, env, st, f, env', st', R, em, q⟩ => by
    unfold mAppendR at em
    obtain ⟨⟨od, s0⟩, h0, em⟩ := Option.bind_eq_some_iff.mp em
    dsimp only at em
    split at em
    · rename_i i j
      simp only [Option.bind_eq_some_iff] at em
      obtain ⟨d0, h00, ⟨d, s1⟩, h1, ⟨n, dss⟩, h2, ds, h3, h4⟩ := em
      split at h4
      · rename_i hz
        cases h4
        refine ⟨κ, η, env, st, _, s0, R, h0, fun w κ0 H0 R0 e0 v0 => ⟨?_, κ0, η, env, s0, d, s1, R0, h1, fun v κ1 H1 R1 e1 rv => ?_⟩⟩
        · have sh := v0.res R0 h00
          obtain ⟨n', p', b, y1, y2, y3, rfl⟩ := (show ∃ n p b, env[i]? = some (some (.loc n)) ∧ κ0[n]? = some p ∧ p.2[j]? = some b ∧ w = .ref b from v0)
          have : ∃ ds', d0 = .list ds' := by
            unfold res at h00
            dsimp only at h00
            rw [y1] at h00
            dsimp only at h00
            split at h00
            · obtain ⟨q, _, q2⟩ := Option.map_eq_some_iff.mp h00
              exact ⟨q, q2.symm⟩
            · cases h00
          obtain ⟨ds', rfl⟩ := this
          obtain ⟨a, xs, ea, rd, _⟩ := sh_lst sh
          cases ea
          exact .inl ⟨rfl, xs, rd⟩
        · have v1 := v0.ext e1
          obtain ⟨n', p', b, y1, y2, y3, rfl⟩ := (show ∃ n p b, env[i]? = some (some (.loc n)) ∧ κ1[n]? = some p ∧ p.2[j]? = some b ∧ w = .ref b from v1)
          obtain ⟨s1', s2'⟩ := slotM_some h2
          rw [s1'] at y1
          cases y1
          obtain ⟨w2, hw1, _⟩ := R1.env i _ s1'
          obtain ⟨a, as, z1, z2, z3, z4⟩ := R1.slotM h2 hw1
          rw [z1] at y2
          cases y2
          obtain ⟨xs, k1, k2⟩ := paired_both z4 y3 h3
          refine ⟨b, xs, v, rfl, rfl, k1, by rw [k2.length]; exact Nat.lt_of_lt_of_le hz million, ?_⟩
          obtain ⟨R3, e3⟩ := R1.writeR (ys := xs ++ [v]) (ds := ds ++ [d]) z1 s2' y3 k1 (k2.append (.cons rv .nil))
          exact q κ1 σ _ R3 ((e0.trans e1).trans e3)
      · cases h4
    · cases em
/-- x.reverse() -/
def mReverse (i : Nat) : S := fun env st => (slotL env st i).map fun r => (.nx, env, st.set r.1 (.lst r.2.reverse))
theorem ss_reverse (i : Nat) (ho : PE X (.Name x p) (tVar i))
    (hbase : attributeBase (.Name x p) "reverse" X.env (eval (.Name x p) X.env) = eval (.Name x p) X.env := by rfl)
    (hline : (apos.endLine == cpos.line) = true := by rfl)
    (hsw : swapsWith (.Call (.Attribute (.Name x p) "reverse" apos) [] [] cpos) none pos.line X.env = pure false := by rfl) :
    SS X (.Expr (.Call (.Attribute (.Name x p) "reverse" apos) [] [] cpos) pos) (mReverse i) :=
  PS.imp (ps_expr (pe_bm0 PySem.F.plainAttrs_list PySem.F.slot_list_reverse PySem.F.type_list_reverse mt_reverse ho hbase hline) hsw) fun Dn σ H ⟨κ, η, env, st, f, env', st', R, em, q⟩ => by
    unfold mReverse at em
    obtain ⟨⟨n, ds⟩, h0, h1⟩ := Option.map_eq_some_iff.mp em
    cases h1
    obtain ⟨w, hw1, hw2⟩ := R.env i _ (slotL_some h0).1
    obtain ⟨a, xs, z1, rfl, z3, z4⟩ := R.slotL h0 hw1
    refine ⟨_, hw1, .inl ⟨rfl, _, .inl (.inl z3)⟩, a, xs, rfl, rfl, z3, ?_⟩
    obtain ⟨R3, e3⟩ := R.writeL (ys := xs.reverse) (ds := ds.reverse) z1 z3 z4.reverse
    exact q κ σ _ R3 e3
/-- x.pop(), x.pop(e) -/
def mPop (i : Nat) : M D := fun env st => (slotL env st i).bind fun r => (r.2[r.2.length - 1]?).map fun d => (d, st.set r.1 (.lst r.2.dropLast))
theorem rps_dropLast {K : PySem.W.Frag} {B : List Addr} {H : Hp} {vs : List V} {ds : List D} (r : RpAll K B H vs ds) : RpAll K B H vs.dropLast ds.dropLast := by
  rw [List.dropLast_eq_take, List.dropLast_eq_take, r.length]
  exact r.take _
theorem se_pop (i : Nat) (ho : PE X (.Name x p) (tVar i))
    (hbase : attributeBase (.Name x p) "pop" X.env (eval (.Name x p) X.env) = eval (.Name x p) X.env := by rfl)
    (hline : (apos.endLine == cpos.line) = true := by rfl) : SE X (.Call (.Attribute (.Name x p) "pop" apos) [] [] cpos) (mPop i) :=
  PE.imp (pe_bm0 PySem.F.plainAttrs_list PySem.F.slot_list_pop PySem.F.type_list_pop mt_pop ho hbase hline) fun σ H Q ⟨κ, η, env, st, d, st', R, em, q⟩ => by
    unfold mPop at em
    obtain ⟨⟨n, ds⟩, h0, h1⟩ := Option.bind_eq_some_iff.mp em
    obtain ⟨d', h2, h3⟩ := Option.map_eq_some_iff.mp h1
    cases h3
    obtain ⟨w, hw1, hw2⟩ := R.env i _ (slotL_some h0).1
    obtain ⟨a, xs, z1, rfl, z3, z4⟩ := R.slotL h0 hw1
    obtain ⟨v, k1, k2⟩ := z4.get h2
    refine ⟨_, hw1, .inl ⟨rfl, _, .inl (.inl z3)⟩, a, xs, v, rfl, rfl, z3, by rw [z4.length]; exact k1, ?_⟩
    obtain ⟨R3, e3⟩ := R.writeL (ys := xs.dropLast) (ds := ds.dropLast) z1 z3 (rps_dropLast z4)
    exact q v κ _ R3 e3 (e3.rp k2)
def mPopAt (i : Nat) (m : M D) : M D := fun env st => (slotL env st i).bind fun _ => (m env st).bind fun p => (slotL env p.2 i).bind fun r => match p.1 with
  | .int k => if small k = true then (seqIndex? k r.2.length).bind fun j => (r.2[j]?).map fun d => (d, p.2.set r.1 (.lst (r.2.eraseIdx j))) else none
  | _ => none
theorem se_popAt (i : Nat) {m : M D} (ho : PE X (.Name x p) (tVar i)) (he : SE X e m)
    (hbase : attributeBase (.Name x p) "pop" X.env (eval (.Name x p) X.env) = eval (.Name x p) X.env := by rfl)
    (hfew : ((backTo cpos (starEach [e] X.env)).all (fun x => !x.1) && (backToKw cpos (keywordEach [] X.env)).all (fun x => x.1.isSome)
      && decide ([e].length + ([] : List Keyword).length + (if ([] : List Keyword).isEmpty then 0 else 1) < 30)) = true := by rfl)
    (hline : (apos.endLine == cpos.line) = true := by rfl) (hs : starEach [e] X.env = (false, eval e X.env) :: starEach [] X.env := by rfl) :
    SE X (.Call (.Attribute (.Name x p) "pop" apos) [e] [] cpos) (mPopAt i m) :=
  PE.imp (pe_bm PySem.F.plainAttrs_list PySem.F.slot_list_pop PySem.F.type_list_pop mt_popAt ho (pa_cons he pa_nil hs) hbase hfew hline hs rfl) fun σ H Q ⟨κ, η, env, st, d, st', R, em, q⟩ => by
    unfold mPopAt at em
    simp only [Option.bind_eq_some_iff] at em
    obtain ⟨⟨n0, ds0⟩, h0, ⟨d1, s1⟩, h1, ⟨n, ds⟩, h2, h3⟩ := em
    dsimp only at h3
    split at h3
    · rename_i k
      split at h3
      · rename_i hk
        obtain ⟨j, k1, k2⟩ := Option.bind_eq_some_iff.mp h3
        obtain ⟨d', k3, k4⟩ := Option.map_eq_some_iff.mp k2
        cases k4
        obtain ⟨w, hw1, hw2⟩ := R.env i _ (slotL_some h2).1
        refine ⟨w, hw1, ?_, κ, η, env, st, _, s1, R, h1, fun v κ1 H1 R1 e1 rv => ?_⟩
        · obtain ⟨a, xs, z1, rfl, z3, z4⟩ := R.slotL h0 hw1
          exact .inl ⟨rfl, _, .inl (.inl z3)⟩
        · cases rv
          obtain ⟨a, xs, z1, z2, z3, z4⟩ := R1.slotL h2 hw1
          obtain ⟨v, y1, y2⟩ := z4.get k3
          refine ⟨a, xs, k, j, v, z2, rfl, z3, (by have := small_of hk; omega), (by have := small_of hk; omega), by rw [z4.length]; exact k1, y1, ?_⟩
          obtain ⟨R3, e3⟩ := R1.writeL (ys := xs.eraseIdx j) (ds := ds.eraseIdx j) z1 z3 (z4.eraseIdx j)
          exact q v κ1 _ R3 (e1.trans e3) (e3.rp y2)
      · cases h3
    · cases h3
/-! dicts of the store -/
def keyD (d : D) : Option Key := match d with
  | .int i => some (.inl i)
  | .str x => some (.inr x)
  | _ => none
theorem keyD_rp {K : PySem.W.Frag} {B : List Addr} {H : Hp} {v : V} {d : D} {k : Key} (h : keyD d = some k) (r : Rp K B H v d) : v = kV k := by
  cases d <;> first | cases h | skip
  all_goals (cases r; rfl)
def dGet (kvs : List (Key × D)) (k : Key) : Option D := (kvs.find? fun kv => decide (kv.1 = k)).map (·.2)
def dPut (kvs : List (Key × D)) (k : Key) (d : D) : List (Key × D) := if (kvs.any fun kv => decide (kv.1 = k)) = true then kvs.map (fun kv => if kv.1 = k then (kv.1, d) else kv) else kvs ++ [(k, d)]
section
variable {K : PySem.W.Frag} {B : List Addr} {H : Hp}
abbrev RD (K : PySem.W.Frag) (B : List Addr) (H : Hp) : Key × V → Key × D → Prop := fun p q => p.1 = q.1 ∧ Rp K B H p.2 q.2
theorem rd_get {k : Key} : ∀ {vs : List (Key × V)} {ds : List (Key × D)}, Paired (RD K B H) vs ds → (∀ d, dGet ds k = some d → ∃ v, valV vs k = some v ∧ Rp K B H v d) ∧ (valV vs k).isSome = (dGet ds k).isSome
  | _, _, .nil => ⟨fun d h => by simp [dGet] at h, rfl⟩
  | _, _, .cons (a := p) (b := q) r t => by
    obtain ⟨ih1, ih2⟩ := rd_get (k := k) t
    obtain ⟨r1, r2⟩ := r
    unfold dGet at ih1 ih2 ⊢
    by_cases h : p.1 = k
    · have h' : q.1 = k := by rw [← r1]; exact h
      rw [valV_pos h]
      rw [List.find?_cons, decide_eq_true h']
      exact ⟨fun d e => ⟨p.2, rfl, by cases e; exact r2⟩, rfl⟩
    · have h' : ¬ q.1 = k := by rw [← r1]; exact h
      rw [valV_neg h]
      rw [List.find?_cons, decide_eq_false h']
      exact ⟨ih1, ih2⟩
theorem rd_any {k : Key} : ∀ {vs : List (Key × V)} {ds : List (Key × D)}, Paired (RD K B H) vs ds → (vs.any fun kv => decide (kv.1 = k)) = (ds.any fun kv => decide (kv.1 = k))
  | _, _, .nil => rfl
  | _, _, .cons r t => by rw [List.any_cons, List.any_cons, rd_any t, r.1]
theorem rd_map {k : Key} {v : V} {d : D} (q : Rp K B H v d) : ∀ {vs : List (Key × V)} {ds : List (Key × D)}, Paired (RD K B H) vs ds → Paired (RD K B H) (vs.map fun kv => if kv.1 = k then (kv.1, v) else kv) (ds.map fun kv => if kv.1 = k then (kv.1, d) else kv)
  | _, _, .nil => .nil
  | _, _, .cons (a := x) (b := y) r t => by
    rw [List.map_cons, List.map_cons]
    refine .cons ?_ (rd_map q t)
    by_cases h : x.1 = k
    · rw [if_pos h, if_pos (by rw [← r.1]; exact h)]; exact ⟨r.1, q⟩
    · rw [if_neg h, if_neg (by rw [← r.1]; exact h)]; exact r
theorem rd_put {k : Key} {v : V} {d : D} (q : Rp K B H v d) {vs : List (Key × V)} {ds : List (Key × D)} (r : Paired (RD K B H) vs ds) : Paired (RD K B H) (putK vs k v) (dPut ds k d) := by
  unfold putK dPut
  rw [rd_any r]
  split
  · exact rd_map q r
  · exact paired_app r (.cons ⟨rfl, q⟩ .nil)
end
/-- k in d, k not in d -/
def mDIn (m : M D) (i : Nat) : M D := fun env st => (m env st).bind fun p => (slotD env p.2 i).bind fun r => (keyD p.1).map fun k => (.bool (dGet r.2 k).isSome, p.2)
def mDNotIn (m : M D) (i : Nat) : M D := fun env st => (m env st).bind fun p => (slotD env p.2 i).bind fun r => (keyD p.1).map fun k => (.bool (!(dGet r.2 k).isSome), p.2)
theorem din_t {i : Nat} {m : M D} {σ : L2.St} {H : Hp} {Q : VK} (h : tE X.K (mDIn m i) σ H Q) : tDIn (tE X.K m) (tVar i) σ H Q := by
  obtain ⟨κ, η, env, st, d, st', R, em, q⟩ := h
  unfold mDIn at em
  simp only [Option.bind_eq_some_iff, Option.map_eq_some_iff] at em
  obtain ⟨⟨d1, s1⟩, h1, ⟨n, ds⟩, h2, k, h3, h4⟩ := em
  cases h4
  refine ⟨κ, η, env, st, d1, _, R, h1, fun v κ1 H1 R1 e1 rv => ?_⟩
  obtain ⟨w, hw1, _⟩ := R1.env i _ (slotD_some h2).1
  obtain ⟨a, xs, z1, z2, z3, z4⟩ := R1.slotD h2 hw1
  refine ⟨w, hw1, a, valV xs k, z2, .inl ⟨xs, k, .inl z3, keyD_rp h3 rv, rfl⟩, ?_⟩
  rw [(rd_get (k := k) z4).2]
  exact q _ κ1 H1 R1 e1 (.bl _)
theorem dnotin_t {i : Nat} {m : M D} {σ : L2.St} {H : Hp} {Q : VK} (h : tE X.K (mDNotIn m i) σ H Q) : tDNotIn (tE X.K m) (tVar i) σ H Q := by
  obtain ⟨κ, η, env, st, d, st', R, em, q⟩ := h
  unfold mDNotIn at em
  simp only [Option.bind_eq_some_iff, Option.map_eq_some_iff] at em
  obtain ⟨⟨d1, s1⟩, h1, ⟨n, ds⟩, h2, k, h3, h4⟩ := em
  cases h4
  refine ⟨κ, η, env, st, d1, _, R, h1, fun v κ1 H1 R1 e1 rv => ?_⟩
  obtain ⟨w, hw1, _⟩ := R1.env i _ (slotD_some h2).1
  obtain ⟨a, xs, z1, z2, z3, z4⟩ := R1.slotD h2 hw1
  refine ⟨w, hw1, a, valV xs k, z2, .inl ⟨xs, k, .inl z3, keyD_rp h3 rv, rfl⟩, ?_⟩
  rw [(rd_get (k := k) z4).2]
  exact q _ κ1 H1 R1 e1 (.bl _)
theorem se_din (i : Nat) {m : M D} (hu : X.A.units + 64 < cLine) (he : SE X e m) (ho : PE X (.Name x p) (tVar i)) (h1 : behindInMarks .In (.Name x p) = false := by rfl) : SE X (.Compare e [.In] [.Name x p] pos) (mDIn m i) :=
  PE.imp (pe_cmp (pc_din (Nat.lt_of_le_of_lt (Nat.add_le_add_left (by decide : 1 ≤ 64) _) hu) he ho) h1) fun σ H Q h => din_t h
theorem st_din (i : Nat) {m : M D} (hu : X.A.units + 64 < cLine) (he : SE X e m) (ho : PE X (.Name x p) (tVar i)) (h1 : behindInMarks .In (.Name x p) = false := by rfl) : ST X (.Compare e [.In] [.Name x p] pos) (mB (mDIn m i)) :=
  PT.imp (pt_cmp (pc_din (Nat.lt_of_le_of_lt (Nat.add_le_add_left (by decide : 1 ≤ 64) _) hu) he ho) h1) fun σ H Q h => test_t (t := tDIn (tE X.K m) (tVar i)) (fun Q' h' => din_t h') h
theorem se_dnotin (i : Nat) {m : M D} (hu : X.A.units + 64 < cLine) (he : SE X e m) (ho : PE X (.Name x p) (tVar i)) (h1 : behindInMarks .NotIn (.Name x p) = false := by rfl) : SE X (.Compare e [.NotIn] [.Name x p] pos) (mDNotIn m i) :=
  PE.imp (pe_cmp (pc_dnotin (Nat.lt_of_le_of_lt (Nat.add_le_add_left (by decide : 1 ≤ 64) _) hu) he ho) h1) fun σ H Q h => dnotin_t h
theorem st_dnotin (i : Nat) {m : M D} (hu : X.A.units + 64 < cLine) (he : SE X e m) (ho : PE X (.Name x p) (tVar i)) (h1 : behindInMarks .NotIn (.Name x p) = false := by rfl) : ST X (.Compare e [.NotIn] [.Name x p] pos) (mB (mDNotIn m i)) :=
  PT.imp (pt_cmp (pc_dnotin (Nat.lt_of_le_of_lt (Nat.add_le_add_left (by decide : 1 ≤ 64) _) hu) he ho) h1) fun σ H Q h => test_t (t := tDNotIn (tE X.K m) (tVar i)) (fun Q' h' => dnotin_t h') h
/-- d[k] -/
def mDGet (i : Nat) (m : M D) : M D := fun env st => (m env st).bind fun p => (slotD env p.2 i).bind fun r => (keyD p.1).bind fun k => (dGet r.2 k).map fun d => (d, p.2)
theorem se_dget (i : Nat) {m : M D} (hu : X.A.units + 64 < cLine) (ho : PE X (.Name x p) (tVar i)) (he : SE X e m) (hs : NoSl e := by exact fun _ _ => rfl) : SE X (.Subscript (.Name x p) e pos) (mDGet i m) :=
  PE.imp (pe_dget (Nat.lt_of_le_of_lt (Nat.add_le_add_left (by decide : 1 ≤ 64) _) hu) ho he hs) fun σ H Q ⟨κ, η, env, st, d, st', R, em, q⟩ => by
    unfold mDGet at em
    simp only [Option.bind_eq_some_iff, Option.map_eq_some_iff] at em
    obtain ⟨⟨d1, s1⟩, h1, ⟨n, ds⟩, h2, k, h3, d', h4, h5⟩ := em
    cases h5
    obtain ⟨w, hw1, _⟩ := R.env i _ (slotD_some h2).1
    refine ⟨w, hw1, κ, η, env, st, d1, _, R, h1, fun v κ1 H1 R1 e1 rv => ?_⟩
    obtain ⟨a, xs, z1, z2, z3, z4⟩ := R1.slotD h2 hw1
    obtain ⟨u, k1, k2⟩ := (rd_get (k := k) z4).1 _ h4
    exact ⟨a, u, z2, .inl ⟨xs, k, .inl z3, keyD_rp h3 rv, k1.symm⟩, q u κ1 H1 R1 e1 k2⟩
/-- d[k] = v -/
def mDPut (i : Nat) (mk m : M D) : S := fun env st => (m env st).bind fun p => (mk env p.2).bind fun r => (slotD env r.2 i).bind fun q => (keyD r.1).bind fun k => if q.2.length < 1000000 then some (.nx, env, r.2.set q.1 (.dic (dPut q.2 k p.1))) else none
theorem ss_dput (i : Nat) {k : Expr} {mk m : M D} {p2 : Pos} (hu : X.A.units + 64 < cLine) (ho : PE X (.Name x p) (tVar i)) (hk : SE X k mk) (he : SE X e m) (hs : swapsWith e (some (.Subscript (.Name x p) k p2)) pos.line X.env = pure false := by rfl) :
    SS X (.Assign [.Subscript (.Name x p) k p2] e pos) (mDPut i mk m) := PS.imp (ps_dput (Nat.lt_of_le_of_lt (Nat.add_le_add_left (by decide : 1 ≤ 64) _) hu) ho hk he hs) fun Dn σ H ⟨κ, η, env, st, f, env', st', R, em, q⟩ => by
  unfold mDPut at em
  simp only [Option.bind_eq_some_iff] at em
  obtain ⟨⟨d, s1⟩, h1, ⟨dk, s2⟩, h2, ⟨n, ds⟩, h3, kk, h4, h5⟩ := em
  split at h5
  · rename_i hz
    cases h5
    refine ⟨κ, η, env, st, d, s1, R, h1, fun v κ1 H1 R1 e1 rv => ?_⟩
    obtain ⟨w, hw1, _⟩ := R1.env i _ (slotD_some h3).1
    refine ⟨w, hw1, κ1, η, env, s1, dk, s2, R1, h2, fun vk κ2 H2 R2 e2 rk => ?_⟩
    obtain ⟨a, xs, z1, z2, z3, z4⟩ := R2.slotD h3 hw1
    obtain ⟨R3, e3⟩ := R2.writeD (ls := putK xs kk v) (ds := dPut ds kk d) z1 z3 (rd_put (e2.rp rv) z4)
    exact ⟨a, _, z2, .inl ⟨xs, kk, z3, keyD_rp h4 rk, by rw [Paired.length z4]; exact Nat.lt_of_lt_of_le hz million, rfl⟩, q κ2 σ _ R3 ((e1.trans e2).trans e3)⟩
  · cases h5
/-- len(d) -/
def mDLen (i : Nat) : M D := fun env st => (slotD env st i).map fun r => (.int r.2.length, st)
theorem se_dlen (i : Nat) {p2 : Pos} (hg : Gl X "len") (hm : X.mg "len" = none) (ho : PE X (.Name x p2) (tVar i)) (he : starEach [.Name x p2] X.env = (false, eval (.Name x p2) X.env) :: starEach [] X.env := by rfl) : SE X (.Call (.Name "len" p) [.Name x p2] [] pos) (mDLen i) :=
  PE.imp (pe_callB call_lenD hg hm b_len (pa_cons ho pa_nil he) (by decide) (by decide) he rfl) fun σ H Q ⟨κ, η, env, st, d, st', R, em, q⟩ => by
    unfold mDLen at em
    obtain ⟨⟨n, ds⟩, h0, h1⟩ := Option.map_eq_some_iff.mp em
    cases h1
    obtain ⟨w, hw1, _⟩ := R.env i _ (slotD_some h0).1
    obtain ⟨a, xs, z1, rfl, z3, z4⟩ := R.slotD h0 hw1
    refine ⟨_, hw1, a, xs, rfl, z3, ?_⟩
    rw [Paired.length z4]
    exact q _ κ H R Ext.refl (.int _)
end
end ML
set_option maxRecDepth 100000
/-! ML8: what is walked; loops. -/
namespace ML
open PySem PySem.Spec PyProof.Rows L2
/-- an object of the store (or a row of one) that a loop walks: it is to stay as it is -/
abbrev Gd := Nat × Option Nat × List D
def gOne (st : Sto) : Gd → Prop
  | (n, Option.none, ds) => st[n]? = some (.lst ds)
  | (n, some k, ds) => ∃ dss, st[n]? = some (.mat dss) ∧ dss[k]? = some ds
def gOk : List Gd → Sto → Prop
  | [], _ => True
  | x :: r, st => gOne st x ∧ gOk r st
theorem gOk.app {st : Sto} : ∀ {a b : List Gd}, gOk a st → gOk b st → gOk (a ++ b) st
  | [], _, _, h => h
  | _ :: _, _, h, k => ⟨h.1, gOk.app h.2 k⟩
theorem gOk.left {st : Sto} : ∀ {a b : List Gd}, gOk (a ++ b) st → gOk a st
  | [], _, _ => trivial
  | _ :: _, _, h => ⟨h.1, gOk.left h.2⟩
theorem gOk.right {st : Sto} : ∀ {a b : List Gd}, gOk (a ++ b) st → gOk b st
  | [], _, h => h
  | _ :: _, _, h => gOk.right (a := _) h.2
/-- the hidden ones later: those of the start, or new since -/
def HidLe (η : Hid) (H0 : Hp) (η2 : Hid) : Prop := ∀ b ∈ η2.all, b ∈ η.all ∨ H0 b = Option.none
/-- what is known of the thing that is walked -/
structure Wk (K : PySem.W.Frag) (κ0 : List Fp) (η : Hid) (H0 : Hp) (J : It) (ds : List D) (g : List Gd) : Prop where
  go : ∀ κ η2 H σ env st, Rep K κ η2 H σ env st → Ext κ0 H0 κ H → HidLe η H0 η2 → gOk g st → ∀ i,
    (i = ds.length → J.stop i H) ∧ ∀ d, ds[i]? = some d → J.go i H ∧ ∀ x H', J.yld i H x H' → Same H H' ∧ Rp K (alls κ ++ η2.all) H' x d
section
variable {K : PySem.W.Frag} {κ κ0 κ' : List Fp} {η η2 : Hid} {H H0 H' : Hp} {σ σ0 : L2.St} {env env0 : Env} {st st0 : Sto}
theorem Ext.apart2 (e : Ext κ0 H0 κ H) (hl : HidLe η H0 η2) : ∀ a xs, H0 a = some (HO.lst xs) → a ∉ alls κ0 ++ η.all → a ∉ alls κ0 ∧ a ∉ alls κ ++ η2.all := fun a xs h n => by
  have n1 : a ∉ alls κ0 := fun z => n (List.mem_append_left _ z)
  refine ⟨n1, fun z => ?_⟩
  rcases List.mem_append.mp z with z | z
  · have := e.new a z n1
    rw [h] at this; cases this
  · rcases hl a z with z | z
    · exact n (List.mem_append_right _ z)
    · rw [h] at z; cases z
theorem Ext.rp2 (e : Ext κ0 H0 κ H) (hl : HidLe η H0 η2) {v : V} {d : D} (r : Rp K (alls κ0 ++ η.all) H0 v d) : Rp K (alls κ ++ η2.all) H v d := r.mono e.fr (e.apart2 hl)
theorem Ext.rps2 (e : Ext κ0 H0 κ H) (hl : HidLe η H0 η2) {v : List V} {d : List D} (r : RpAll K (alls κ0 ++ η.all) H0 v d) : RpAll K (alls κ ++ η2.all) H v d := r.mono e.fr (e.apart2 hl)
theorem Ext.sqT (e : Ext κ0 H0 κ H) {a : Addr} {xs : List V} (h : SqT K H0 a xs) : SqT K H a xs := e.fr.sqT h
/-- what stands behind an operand for later -/
def gOf (env : Env) (st : Sto) : Opd → List Gd
  | .v _ => []
  | .s i => match env[i]? with
    | some (some (.loc n)) => match st[n]? with
      | some (.lst ds) => [(n, Option.none, ds)]
      | _ => []
    | _ => []
  | .r i k => match env[i]? with
    | some (some (.loc n)) => match st[n]? with
      | some (.mat dss) => match dss[k]? with
        | some ds => [(n, some k, ds)]
        | _ => []
      | _ => []
    | _ => []
theorem gOf_ok (o : Opd) : gOk (gOf env st o) st := by
  unfold gOf
  cases o with
  | v d => exact trivial
  | s i =>
    dsimp only
    split
    · rename_i n hn
      split
      · rename_i ds hd
        exact ⟨hd, trivial⟩
      · exact trivial
    · exact trivial
  | r i k =>
    dsimp only
    split
    · rename_i n hn
      split
      · rename_i dss hd
        split
        · rename_i ds hk
          exact ⟨⟨dss, hd, hk⟩, trivial⟩
        · exact trivial
      · exact trivial
    · exact trivial
/-- the operand is read later as now -/
theorem OV.later {v : V} {o : Opd} {d : D} (R0 : Rep K κ0 η H0 σ0 env0 st0) (h : OV K κ0 η H0 σ0 env0 v o) (hr : ML.res env0 st0 o = some d)
    (R : Rep K κ η2 H σ env st) (e : Ext κ0 H0 κ H) (hl : HidLe η H0 η2) (hg : gOk (gOf env0 st0 o) st) : Sh K (alls κ ++ η2.all) H v d := by
  cases o with
  | v d' =>
    cases hr
    exact .rp (e.rp2 hl h)
  | s i =>
    have h : σ0[i]? = some (some v) := h
    unfold ML.res at hr
    unfold gOf at hg
    dsimp only at hr hg
    split at hr
    · rename_i d' hd
      cases hr
      obtain ⟨w, h1, h2⟩ := R0.env i _ hd
      rw [h] at h1
      cases h1
      cases h2 with
      | val r => exact .rp (e.rp2 hl r)
    · rename_i d' hd
      cases hr
      obtain ⟨w, h1, h2⟩ := R0.env i _ hd
      rw [h] at h1
      cases h1
      cases h2 with
      | mdl k q => exact Sh.lst (.inr k) (e.rps2 hl q)
      | bor h3 n q =>
        rename_i a _ _ _
        have n1 : a ∉ alls κ0 := fun z => n (List.mem_append_left _ z)
        refine .lst (.inl ?_) (e.rps2 hl q)
        rcases h3 with h3 | ⟨o, h3⟩
        · exact .inl (e.fr.same _ _ h3 n1)
        · exact .inr ⟨o, e.fr.frz _ _ _ h3⟩
    · rename_i n hn
      rw [hn] at hg
      dsimp only at hg
      split at hr
      · rename_i ds hd
        cases hr
        rw [hd] at hg
        have hg1 : st[n]? = some (.lst ds) := hg.1
        obtain ⟨w, h1, h2⟩ := R0.env i _ hn
        rw [h] at h1
        cases h1
        cases h2 with
        | loc hp =>
          obtain ⟨q, hq, l, _⟩ := e.at hp
          rw [l]
          have := paired_both R.sto hq hg1
          cases this with
          | lst z r => exact Sh.lst (.inl (.inl z)) r
      · cases hr
    · cases hr
  | r i k =>
    obtain ⟨n, p, b, h1, h2, h3, rfl⟩ := (show ∃ n p b, env0[i]? = some (some (.loc n)) ∧ κ0[n]? = some p ∧ p.2[k]? = some b ∧ v = .ref b from h)
    unfold ML.res at hr
    unfold gOf at hg
    dsimp only at hr hg
    rw [h1] at hr hg
    dsimp only at hr hg
    split at hr
    · rename_i dss hd
      rw [hd] at hg
      dsimp only at hg
      obtain ⟨ds, k1, k2⟩ := Option.map_eq_some_iff.mp hr
      subst k2
      rw [k1] at hg
      obtain ⟨dss2, m1, m2⟩ : ∃ dss2, st[n]? = some (.mat dss2) ∧ dss2[k]? = some ds := hg.1
      obtain ⟨q, hq, _, t, l⟩ := e.at h2
      have := paired_both R.sto hq m1
      cases this with
      | mat z r =>
        have hb : (p.2 ++ t)[k]? = some b := by
          rw [List.getElem?_append_left (List.getElem?_eq_some_iff.mp h3).1]; exact h3
        have l' : _ = p.2 ++ t := l
        rw [← l'] at hb
        obtain ⟨xs, z1, z2⟩ : ∃ xs, H b = some (.lst xs) ∧ RpAll K (alls κ ++ η2.all) H xs ds := paired_both r hb m2
        exact .lst (.inl (.inl z1)) z2
    · cases hr
end
/-! ### readings of what is walked -/
def tI (K : PySem.W.Frag) (m : M (List D × List Gd)) : TI := fun σ H R => ∃ κ η env st p st', Rep K κ η H σ env st ∧ m env st = some (p, st') ∧
  ∀ J κ' H', Rep K κ' η H' σ env st' → Ext κ H κ' H' → Wk K κ' η H' J p.1 p.2 → R J H'
abbrev SI (X : Cx) (tg e : Expr) (m : M (List D × List Gd)) : Prop := PI X tg e (tI X.K m)
theorem PI.imp {X : Cx} {tg e : Expr} {t t' : TI} (h : PI X tg e t) (i : ∀ σ H Q, t' σ H Q → t σ H Q) : PI X tg e t' := ⟨fun pins s σ H Q I q => h.run pins s σ H Q I (i σ H Q q)⟩
/-- a list or a tuple -/
def itemsOf : D → Option (List D)
  | .list ds => some ds
  | .tuple ds => some ds
  | _ => Option.none
def iSeq (m : M Opd) : M (List D × List Gd) := fun env st => (m env st).bind fun p => (res env p.2 p.1).bind fun d => (itemsOf d).map fun ds => ((ds, gOf env p.2 p.1), p.2)
theorem iSeq_some {m : M Opd} {env : Env} {st st' : Sto} {p : List D × List Gd} (h : iSeq m env st = some (p, st')) : ∃ o d, m env st = some (o, st') ∧ res env st' o = some d ∧ itemsOf d = some p.1 ∧ p.2 = gOf env st' o := by
  unfold iSeq at h
  simp only [Option.bind_eq_some_iff, Option.map_eq_some_iff] at h
  obtain ⟨⟨o, s⟩, h1, d, h2, ds, h3, h4⟩ := h
  cases h4
  exact ⟨o, d, h1, h2, h3, rfl⟩
/-- a walk of a sequence by L (of lists) or T (of tuples) -/
theorem sh_seq {K : PySem.W.Frag} {B : List Addr} {H : Hp} {v : V} {d : D} {ds : List D} (h : Sh K B H v d) (hi : itemsOf d = some ds) : ∃ a xs, v = .ref a ∧ RpAll K B H xs ds ∧ ((∃ es, d = .list es) ∧ SqL K H a xs ∨ (∃ es, d = .tuple es) ∧ SqT K H a xs) := by
  cases h with
  | rp r =>
    cases r with
    | lst e n r => cases hi; exact ⟨_, _, rfl, r, .inl ⟨⟨_, rfl⟩, .inl (.inl e)⟩⟩
    | tup e r => cases hi; exact ⟨_, _, rfl, r, .inr ⟨⟨_, rfl⟩, e⟩⟩
    | _ => cases hi
  | lst e r => cases hi; exact ⟨_, _, rfl, r, .inl ⟨⟨_, rfl⟩, e⟩⟩
section
variable {X : Cx} {tg e : Expr}
def iBoth (K : PySem.W.Frag) (tl : TE) (L T : Addr → Nat → It) : TI := fun σ H R => tl σ H fun x H1 => ∃ a xs, x = .ref a ∧ ((SqL K H1 a xs ∧ R (L a xs.length) H1) ∨ (SqT K H1 a xs ∧ R (T a xs.length) H1))
theorem pi_seq {tl : TE} (hl : PE X e tl) : PI X tg e (iBoth X.K tl (fun a _ => Itl X.K a) (fun a _ => Itt X.K a)) := by
  refine ⟨fun pins s σ H R I h => ?_⟩
  refine thn (hl.run pins s σ H _ I h) fun v s1 ⟨x, H1, I1, r1, q1⟩ => ?_
  obtain ⟨a, xs, e1, q⟩ := q1
  subst e1
  cases r1
  rcases q with ⟨hq, q⟩ | ⟨hq, q⟩
  · obtain ⟨its, rv, p, hz⟩ := I1.list hq
    exact wpAny_pyIter_list p.isList (pi_one (tk := s1.toks) I1 _ (turn_list a _) ⟨_, Heap.get?_push_size _ rfl, rfl, rfl⟩ q)
  · obtain ⟨its, rv, p, hz⟩ := I1.tuple hq
    exact wpAny_pyIter_tuple (show s1.heap.IsTuple a its.toArray from p) (pi_one (tk := s1.toks) I1 _ (turn_tuple a _) ⟨_, Heap.get?_push_size _ rfl, rfl, rfl⟩ q)
/-- the walk of an operand -/
theorem both_t {K : PySem.W.Frag} {m : M Opd} {L T : Addr → Nat → It} (f : List D → List D) {σ : L2.St} {H : Hp} {R : It → Hp → Prop}
    (hw : ∀ (J : It) (H : Hp) (B : List Addr) (a : Addr) (xs : List V) (ds : List D), ((J = L a ds.length ∧ SqL K H a xs) ∨ (J = T a ds.length ∧ SqT K H a xs)) → RpAll K B H xs ds → ∀ i,
      (i = (f ds).length → J.stop i H) ∧ ∀ d, (f ds)[i]? = some d → J.go i H ∧ ∀ x H', J.yld i H x H' → Same H H' ∧ Rp K B H' x d)
    (h : tI K (fun env st => (iSeq m env st).map fun p => ((f p.1.1, p.1.2), p.2)) σ H R) : 
    tO K m σ H fun x H1 => ∃ a xs, x = .ref a ∧ ((SqL K H1 a xs ∧ R (L a xs.length) H1) ∨ (SqT K H1 a xs ∧ R (T a xs.length) H1)) := by
  obtain ⟨κ, η, env, st, p, st', R0, em, q⟩ := h
  obtain ⟨⟨p0, s0⟩, em0, ep⟩ := Option.map_eq_some_iff.mp em
  cases ep
  obtain ⟨o, d, h1, h2, h3, h4⟩ := iSeq_some em0
  refine ⟨κ, η, env, st, o, _, R0, h1, fun v κ1 H1 R1 e1 v1 => ?_⟩
  obtain ⟨a, xs, rfl, r, hs⟩ := sh_seq (v1.res R1 h2) h3
  refine ⟨a, xs, rfl, ?_⟩
  rw [r.length]
  rcases hs with ⟨⟨es, hd⟩, hs⟩ | ⟨⟨es, hd⟩, hs⟩
  · refine .inl ⟨hs, q _ κ1 H1 R1 e1 ⟨fun κ2 η2 H2 σ2 env2 st2 R2 e2 hl hg => ?_⟩⟩
    have sh := v1.later R1 h2 R2 e2 hl (by rw [← h4]; exact hg)
    obtain ⟨a', ys, ea, r', hs'⟩ := sh_seq sh h3
    cases ea
    rcases hs' with ⟨_, hs'⟩ | ⟨⟨es', hd'⟩, hs'⟩
    · exact hw _ _ _ _ _ _ (.inl ⟨rfl, hs'⟩) r'
    · rw [hd] at hd'; cases hd'
  · refine .inr ⟨hs, q _ κ1 H1 R1 e1 ⟨fun κ2 η2 H2 σ2 env2 st2 R2 e2 hl hg => ?_⟩⟩
    have sh := v1.later R1 h2 R2 e2 hl (by rw [← h4]; exact hg)
    obtain ⟨a', ys, ea, r', hs'⟩ := sh_seq sh h3
    cases ea
    rcases hs' with ⟨⟨es', hd'⟩, hs'⟩ | ⟨_, hs'⟩
    · rw [hd] at hd'; cases hd'
    · exact hw _ _ _ _ _ _ (.inr ⟨rfl, hs'⟩) r'
theorem si_seq {m : M Opd} (hl : SO X e m) : SI X tg e (iSeq m) := PI.imp (pi_seq hl) fun σ H R h => by
  refine both_t (L := fun a _ => Itl X.K a) (T := fun a _ => Itt X.K a) (fun ds => ds) (fun J H B a xs ds hj r i => ?_) ?_
  · rcases hj with ⟨rfl, hs⟩ | ⟨rfl, hs⟩
    · refine ⟨fun hi => ⟨xs, hs, by rw [r.length]; exact Nat.le_of_eq hi.symm⟩, fun d hd => ?_⟩
      obtain ⟨v, h1, h2⟩ := r.get hd
      refine ⟨⟨xs, v, hs, h1⟩, fun x H' y => ?_⟩
      obtain ⟨rfl, y⟩ := y
      have := y xs hs
      rw [h1] at this
      cases this
      exact ⟨Same.refl _, h2⟩
    · refine ⟨fun hi => ⟨xs, hs, by rw [r.length]; exact Nat.le_of_eq hi.symm⟩, fun d hd => ?_⟩
      obtain ⟨v, h1, h2⟩ := r.get hd
      refine ⟨⟨xs, v, hs, h1⟩, fun x H' y => ?_⟩
      obtain ⟨rfl, y⟩ := y
      have := y xs hs
      rw [h1] at this
      cases this
      exact ⟨Same.refl _, h2⟩
  · obtain ⟨κ, η, env, st, p, st', R0, em, q⟩ := h
    exact ⟨κ, η, env, st, p, st', R0, by show Option.map _ (iSeq m env st) = _; rw [em]; rfl, q⟩
/-- backwards -/
def iRev (m : M Opd) : M (List D × List Gd) := fun env st => (iSeq m env st).map fun p => ((p.1.1.reverse, p.1.2), p.2)
theorem rev_get {α : Type} {l : List α} {i : Nat} (h : i < l.length) : l.reverse[i]? = l[l.length - 1 - i]? := List.getElem?_reverse h
theorem si_rev {p pos : Pos} {m : M Opd} (hg : Gl X "reversed") (hm : X.mg "reversed" = none) (hl : SO X e m) (hs : starEach [e] X.env = (false, eval e X.env) :: starEach [] X.env := by rfl) : SI X tg (.Call (.Name "reversed" p) [e] [] pos) (iRev m) :=
  PI.imp (RT.pi_revA hg hm hl hs) fun σ H R h => by
  refine both_t (L := fun a n => Itv X.K a n) (T := fun a n => RT.ItvT X.K a n) (fun ds => ds.reverse) (fun J H B a xs ds hj r i => ?_) h
  have hlen := r.length
  rcases hj with ⟨rfl, hs⟩ | ⟨rfl, hs⟩
  all_goals
    refine ⟨fun hi => by rw [List.length_reverse] at hi; exact Nat.le_of_eq hi.symm, fun d hd => ?_⟩
    have hi : i < ds.length := by
      have := (List.getElem?_eq_some_iff.mp hd).1
      rwa [List.length_reverse] at this
    rw [rev_get hi] at hd
    obtain ⟨v, h1, h2⟩ := r.get hd
    refine ⟨⟨hi, xs, v, hs, h1⟩, fun x H' y => ?_⟩
    obtain ⟨rfl, y⟩ := y
    have := y xs hs
    rw [h1] at this
    cases this
    exact ⟨Same.refl _, h2⟩
/-! ranges -/
def iota (lo : Int) : Nat → List D
  | 0 => []
  | n + 1 => .int lo :: iota (lo + 1) n
theorem iota_len : ∀ (lo : Int) (n : Nat), (iota lo n).length = n
  | _, 0 => rfl
  | lo, n + 1 => congrArg (· + 1) (iota_len (lo + 1) n)
theorem iota_get : ∀ (lo : Int) (n i : Nat), i < n → (iota lo n)[i]? = some (.int (lo + i))
  | lo, n + 1, 0, _ => by simp [iota]
  | lo, n + 1, i + 1, h => by
    show (iota (lo + 1) n)[i]? = _
    rw [iota_get (lo + 1) n i (by omega)]
    congr 2
    omega
theorem itr_wk {K : PySem.W.Frag} {κ : List Fp} {η : Hid} {H : Hp} (lo : Int) (n : Nat) : Wk K κ η H (Itr lo n) (iota lo n) [] :=
  ⟨fun κ2 η2 H2 σ env st R e hl _ i => ⟨fun hi => by rw [iota_len] at hi; exact Nat.le_of_eq hi.symm, fun d hd => by
    have hi : i < n := by
      have := (List.getElem?_eq_some_iff.mp hd).1
      rwa [iota_len] at this
    rw [iota_get lo n i hi] at hd
    cases hd
    refine ⟨hi, fun x H' y => ?_⟩
    obtain ⟨rfl, rfl⟩ := y
    exact ⟨Same.refl _, .int _⟩⟩⟩
def iRg1 (m : M D) : M (List D × List Gd) := fun env st => (m env st).bind fun p => match p.1 with
  | .int j => if small j then some ((iota 0 j.toNat, []), p.2) else Option.none
  | _ => Option.none
def iRg2 (m n : M D) : M (List D × List Gd) := fun env st => (m env st).bind fun p => (n env p.2).bind fun q => match p.1, q.1 with
  | .int i, .int j => if small i && small j then some ((iota i (j - i).toNat, []), q.2) else Option.none
  | _, _ => Option.none
variable {a b : Expr} {p pos : Pos}
theorem si_rg1 {m : M D} (hg : Gl X "range") (hm : X.mg "range" = none) (ha : SE X a m) (hs : starEach [a] X.env = (false, eval a X.env) :: starEach [] X.env := by rfl) : SI X tg (.Call (.Name "range" p) [a] [] pos) (iRg1 m) :=
  PI.imp (pi_range1 hg hm (pa_cons ha pa_nil hs) hs) fun σ H R ⟨κ, η, env, st, pr, st', R0, em, q⟩ => by
    unfold iRg1 at em
    obtain ⟨⟨d, s1⟩, h1, h2⟩ := Option.bind_eq_some_iff.mp em
    dsimp only at h2
    split at h2
    · rename_i j
      split at h2
      · rename_i hj
        cases h2
        refine ⟨κ, η, env, st, _, _, R0, h1, fun v κ1 H1 R1 e1 r => ?_⟩
        cases r
        exact ⟨j, rfl, (small_of hj).1, (small_of hj).2, q _ κ1 H1 R1 e1 (itr_wk 0 _)⟩
      · cases h2
    · cases h2
theorem si_rg2 {m n : M D} (hg : Gl X "range") (hm : X.mg "range" = none) (ha : SE X a m) (hb : SE X b n) (hs : starEach [a, b] X.env = (false, eval a X.env) :: starEach [b] X.env := by rfl) (hs2 : starEach [b] X.env = (false, eval b X.env) :: starEach [] X.env := by rfl) : SI X tg (.Call (.Name "range" p) [a, b] [] pos) (iRg2 m n) :=
  PI.imp (pi_range2 hg hm (pa_cons ha (pa_cons hb pa_nil hs2) hs) (by rw [hs, hs2]; rfl) hs2) fun σ H R ⟨κ, η, env, st, pr, st', R0, em, q⟩ => by
    unfold iRg2 at em
    simp only [Option.bind_eq_some_iff] at em
    obtain ⟨⟨d, s1⟩, h1, ⟨d2, s2⟩, h2, h3⟩ := em
    dsimp only at h3
    split at h3
    · rename_i i j
      split at h3
      · rename_i hj
        cases h3
        have hj := Bool.and_eq_true_iff.mp hj
        refine ⟨κ, η, env, st, _, _, R0, h1, fun v κ1 H1 R1 e1 r => ⟨κ1, η, env, s1, _, _, R1, h2, fun w κ2 H2 R2 e2 r2 => ?_⟩⟩
        cases r
        cases r2
        exact ⟨i, j, rfl, ⟨(small_of hj.1).1, (small_of hj.1).2, (small_of hj.2).1, (small_of hj.2).2⟩, q _ κ2 H2 R2 (e1.trans e2) (itr_wk i _)⟩
      · cases h3
    · cases h3
end
end ML
set_option maxRecDepth 100000
/-! ML9: enumerate and zip of any lists and tuples. -/
namespace ML
open PySem PySem.Spec PyProof.Rows L2
/-- true: a list; false: a tuple -/
def SqK (K : PySem.W.Frag) (H : Hp) (a : Addr) (xs : List V) : Bool → Prop
  | true => SqL K H a xs
  | false => SqT K H a xs
def IsK (h : Heap) (l : Addr) (xs : Array Value) : Bool → Prop
  | true => h.IsList l xs
  | false => h.IsTuple l xs
def ItK (h : Heap) (it l : Addr) (i : Nat) : Bool → Prop
  | true => h.IsListIter it l i
  | false => h.IsTupleIter it l i
def nmK : Bool → String
  | true => "list_iterator"
  | false => "tuple_iterator"
theorem ItK.at {h h' : Heap} {it l : Addr} {i : Nat} : ∀ {k : Bool}, ItK h it l i k → (∀ o, h.get? it = some o → h'.get? it = some o) → ItK h' it l i k
  | true, x, e => Heap.IsListIter.at x e
  | false, x, e => Heap.IsTupleIter.at x e
theorem ItK.obj {h : Heap} {it l : Addr} {i : Nat} : ∀ {k : Bool}, ItK h it l i k → ∃ o, h.get? it = some o ∧ ∀ v, o.data ≠ .cell v
  | true, ⟨o, e, c, d⟩ => ⟨o, e, fun v z => by rw [d] at z; cases z⟩
  | false, ⟨o, e, c, d⟩ => ⟨o, e, fun v z => by rw [d] at z; cases z⟩
theorem IsK.push {h : Heap} {l : Addr} {xs : Array Value} (o : Obj) : ∀ {k : Bool}, IsK h l xs k → IsK (h.push o) l xs k
  | true, x => Heap.IsList.push x o
  | false, x => Heap.IsTuple.push x o
theorem IsK.lt {h : Heap} {l : Addr} {xs : Array Value} : ∀ {k : Bool}, IsK h l xs k → l < h.objs.size
  | true, x => let ⟨_, e, _⟩ := x; Heap.lt_size e
  | false, x => let ⟨_, e, _⟩ := x; Heap.lt_size e
theorem drawsK {P : Program} {w : World} {A : Around} (hh : A.handled = none) (it l : Addr) (hne : l ≠ it) (items : Array Value) : ∀ k : Bool,
    Draws P w A it [it, l] items.size (fun i v => items[i]? = some v) (fun i h => ItK h it l i k ∧ IsK h l items k)
  | true => Draws.list hh it l hne items
  | false => Draws.tuple hh it l hne items
theorem iterK {P : Program} {w : World} {A : Around} {E : Value → Shared → Prop} {s : Shared} {l : Addr} {items : Array Value} {Q : Value → Shared → Prop} : ∀ {k : Bool}, IsK s.heap l items k →
    Q (.ref s.heap.objs.size) { s with heap := s.heap.push { cls := .type (nmK k), data := .fields #[.ref l, .int 0 0] } } → wpAny (model P w) A (pyIter (.ref l)) Q E s
  | true, h, q => wpAny_pyIter_list h q
  | false, h, q => wpAny_pyIter_tuple h q
theorem itK_new {h : Heap} {l : Addr} : ∀ {k : Bool}, ItK (h.push { cls := .type (nmK k), data := .fields #[.ref l, .int 0 0] }) h.objs.size l 0 k
  | true => ⟨_, Heap.get?_push_size _ rfl, rfl, rfl⟩
  | false => ⟨_, Heap.get?_push_size _ rfl, rfl, rfl⟩
section
variable {X : Cx} {pins : List (Addr × Obj)} {σ : L2.St} {H : Hp} {s : Shared} {a : Addr} {xs ys : List V}
theorem Inv.sqK (I : Inv X pins σ H s) : ∀ {k : Bool}, SqK X.K H a xs k → ∃ its : List Value, Vals xs its ∧ IsK s.heap a its.toArray k ∧ xs.length ≤ sizeLine
  | true, h => let ⟨its, rv, p, hz⟩ := I.list h; ⟨its, rv, p.isList, hz⟩
  | false, h => let ⟨its, rv, p, hz⟩ := I.tuple h; ⟨its, rv, p, hz⟩
theorem Inv.sqK_inj (I : Inv X pins σ H s) : ∀ {k : Bool}, SqK X.K H a xs k → SqK X.K H a ys k → xs = ys
  | true, h, h' => I.list_inj h h'
  | false, h, h' => I.tuple_inj h h'
end
/-- enumerate, of either kind -/
def IteK (K : PySem.W.Frag) (k : Bool) (a : Addr) : It :=
  ⟨fun i H => ∃ (xs : List V) (x : V), SqK K H a xs k ∧ xs[i]? = some x, fun i H v H' => ∃ T x, v = .ref T ∧ H T = none ∧ H' = L2.upd H T (.tup [.int (i : Nat), x]) ∧ ∀ xs, SqK K H a xs k → xs[i]? = some x, fun i H => ∃ xs : List V, SqK K H a xs k ∧ i = xs.length⟩
theorem turn_enumK {P : Program} {w : World} {K : PySem.W.Frag} {elts : List Expr} {kk : Nat} {tpos : Pos} (k : Bool) (a e it : Addr) (hna : a ≠ it) :
    Turn P w K (.Tuple elts kk tpos) (IteK K k a) [e, it] e (fun i h => (∃ old, IsEnum h e it ((i : Nat) : Int) old) ∧ ItK h it a i k ∧ e ≠ it ∧ e ≠ a) where
  mem := by simp
  obj := fun i h st b hb => by
    obtain ⟨⟨old, he⟩, hit, _⟩ := st
    have e' : b = e ∨ b = it := by simpa using hb
    rcases e' with z | z
    · rw [z]; exact ⟨_, he, fun v q => nomatch q⟩
    · rw [z]; exact hit.obj
  keep := fun i h h' st kp => let ⟨⟨old, he⟩, hi, hne⟩ := st; ⟨⟨old, kp e (by simp) _ he⟩, hi.at fun o q => kp it (by simp) o q, hne⟩
  item := by
    intro X hP hw hK hc i pins s σ H E I hf st hg
    subst hP hw hK
    obtain ⟨⟨old, he⟩, hit, hne, hnb⟩ := st
    obtain ⟨xs, x, hq, hx⟩ := hg
    obtain ⟨its, rv, p, hz⟩ := Inv.sqK I hq
    obtain ⟨u, hu, ru⟩ := rv.get hx
    have hel : e < s.heap.objs.size := Heap.lt_size he
    have hil : it < s.heap.objs.size := by obtain ⟨_, q, _⟩ := hit.obj; exact Heap.lt_size q
    have hlt : i < its.toArray.size := by
      have := (List.getElem?_eq_some_iff.mp hu).1
      simpa using this
    refine wpAny_pyNext_enum_itemD (drawsK (show X.A.in1.handled = none from I.ok.hd hc) it a hna its.toArray k) he ⟨hit, p⟩ hlt hne (by simp only [List.mem_cons, not_or]; exact ⟨hne, hnb, by simp⟩) fun x1 h' tk hx1 ho st' hT hsz hk => ?_
    have ex : x1 = u := by
      have : its.toArray[i]? = some u := by simpa using hu
      rw [this] at hx1
      exact (Option.some.inj hx1).symm
    subst ex
    refine ⟨_, rfl, wpAny_letOwnedTupleGo_enum (s := { s with heap := h', toks := tk + 1 }) ho fun h'' he' sb => ?_⟩
    have hT2 : h''.get? s.heap.objs.size = some { cls := .type "tuple", data := .seq #[.int i tk, x1] } := (sb.2 _ (Nat.ne_of_gt hel)).trans hT
    have new : ObjOk X.prog X.w (L2.upd H s.heap.objs.size (.tup [.int (i : Nat), x])) h'' s.heap.objs.size (.tup [.int (i : Nat), x]) :=
      ⟨by show 2 ≤ sizeLine; decide, [.int i tk, x1], .cons ⟨_, rfl⟩ (.cons ru .nil), ⟨_, hT2, rfl, _, rfl⟩⟩
    have I1 : Inv X pins σ (L2.upd H s.heap.objs.size (.tup [.int (i : Nat), x])) { s with heap := h'', toks := tk + 1 } :=
      I.turnedNew (ch := [e, it]) (fun b ob hb q => (sb.2 b (fun z => hb (by simp [z]))).trans (hk b ob (fun z => hb (by simp [z])) (fun z => hb (by simp [z])) q)) hf (Nat.le_refl _) new
    refine ⟨.ref s.heap.objs.size, _, I1, rfl, ⟨_, x, rfl, I.hok.fresh (Nat.le_refl _), rfl, fun ys hy => by rw [Inv.sqK_inj I hy hq]; exact hx⟩, ⟨⟨x1, ?_⟩, st'.1.at fun o q => (sb.2 it (Ne.symm hne)).trans q, hne, hnb⟩, fun b hb => ?_⟩
    · have e1 : ((i + 1 : Nat) : Int) = (i : Int) + 1 := by omega
      rw [e1]; exact he'
    · have hb' : b < s.heap.objs.size := by
        have e' : b = e ∨ b = it := by simpa using hb
        rcases e' with z | z
        · rw [z]; exact hel
        · rw [z]; exact hil
      rw [upd_ne (Nat.ne_of_lt hb')]
      exact (hf b hb).1
  done := by
    intro X hP hw hK hc i pins s σ H E I hf st hg
    subst hP hw hK
    obtain ⟨⟨old, he⟩, hit, hne, hnb⟩ := st
    obtain ⟨xs, hq, hx⟩ := hg
    obtain ⟨its, rv, p, hz⟩ := Inv.sqK I hq
    obtain ⟨f0, f1, f2, f3, f4, f5⟩ := hf it (by simp)
    have hl : i = its.toArray.size := by rw [hx, rv.length]; simp
    subst hl
    exact wpAny_pyNext_enum_endD (drawsK (show X.A.in1.handled = none from I.ok.hd hc) it a hna its.toArray k) he ⟨hit, p⟩ fun h' eb => ⟨rfl, I.turned (t' := s.toks) (fun b o hb q => eb b o hb q) f0 f1 f3 f4 f5⟩
  self := fun A i s Q E st h => let ⟨⟨_, he⟩, _⟩ := st; wpAny_pyIter_enum he h
set_option maxHeartbeats 1000000 in
theorem meets_enumT (l : Addr) (items : Array Value) (n : Nat) (dct : Option Addr) (sl : Array (Option Value)) :
    Meets (Builtin.«enumerate.__new__» ⟨[.type "enumerate", .ref l], []⟩) (fun _ R s => (s.heap.get? l = some { cls := .type "tuple", dict := dct, data := .seq items n, slots := sl }) ∧
      R (.ok (.ret (.ref (s.heap.push { cls := .type "tuple_iterator", data := .fields #[.ref l, .int 0 0] }).objs.size)))
        { s with heap := (s.heap.push { cls := .type "tuple_iterator", data := .fields #[.ref l, .int 0 0] }).push { cls := .type "enumerate", data := .fields #[.none, .bool false, .ref s.heap.objs.size, rawInt 0, .none, .none] } }) :=
  .of_wp fun prog w A R s h => by
    obtain ⟨hp, g, d, tk, os⟩ := s; obtain ⟨hl, h⟩ := h
    have hsub := sub_enumerate
    have hT : Heap.IsTuple (Shared.heap ⟨hp, g, d, tk, os⟩) l items := ⟨_, hl, rfl, n, rfl⟩
    wp_walk using AutoSeq1.wpAny_loadPart' hl
    refine wpAny_stack_any fun st => wpAny_pure ?_
    split
    · rename_i c _ _ _ _ _
      cases (c == Value.type "enumerate")
      · wp_walk using AutoSeq1.wpAny_loadPart' hl, wpAny_pyIter_tuple hT
        exact ⟨_, rfl, h⟩
      · wp_walk using AutoSeq1.wpAny_loadPart' hl, wpAny_pyIter_tuple hT
        exact ⟨_, rfl, h⟩
    · wp_walk using AutoSeq1.wpAny_loadPart' hl, wpAny_pyIter_tuple hT
      exact ⟨_, rfl, h⟩
theorem call_enumK {P : Program} {w : World} {A : Around} {E : Value → Shared → Prop} {s : Shared} {l : Addr} {items : Array Value} {Q : Value → Shared → Prop} : ∀ {k : Bool}, IsK s.heap l items k →
    (∀ h', IsEnum h' (s.heap.objs.size + 1) s.heap.objs.size 0 .none → ItK h' s.heap.objs.size l 0 k → h'.objs.size = s.heap.objs.size + 2 →
      (∀ b o, s.heap.get? b = some o → h'.get? b = some o) → Q (.ref (s.heap.objs.size + 1)) { s with heap := h' }) →
    wpAny (model P w) A (call (.type "enumerate") [.ref l]) Q E s
  | true, hL, h => call_enumerate_list hL h
  | false, hL, h => by
    obtain ⟨⟨c, dct, dt, sl⟩, hl, hc, n, hd⟩ := hL
    replace hc : c = .type "tuple" := hc
    replace hd : dt = .seq items n := hd
    subst hc hd
    refine callType_new F.called_enumerate (by decide) (F.typeCall_enumerate_1 _) (F.newCall_enumerate_1 _) (fun obj => F.args_object_init_2 obj _) F.entry_enumerate_new (meets_enumT l items n dct sl) ⟨hl, ?_⟩
    have hz : (s.heap.push { cls := .type "tuple_iterator", data := .fields #[.ref l, .int 0 0] }).objs.size = s.heap.objs.size + 1 := Heap.size_push ..
    show _ ∧ _
    rw [hz]
    have he : IsEnum ((s.heap.push { cls := .type "tuple_iterator", data := .fields #[.ref l, .int 0 0] }).push
        { cls := .type "enumerate", data := .fields #[.none, .bool false, .ref s.heap.objs.size, rawInt 0, .none, .none] }) (s.heap.objs.size + 1) s.heap.objs.size 0 .none := by
      have := Heap.get?_push_size (s.heap.push { cls := .type "tuple_iterator", data := .fields #[.ref l, .int 0 0] })
        (o := { cls := .type "enumerate", data := .fields #[.none, .bool false, .ref s.heap.objs.size, rawInt 0, .none, .none] }) rfl
      rw [hz] at this; exact this
    refine ⟨⟨_, he, rfl⟩, h _ he ⟨_, Heap.get?_push_of_some _ (Heap.get?_push_size _ rfl), rfl, rfl⟩ (by rw [Heap.size_push, hz]) fun b o x => Heap.get?_push_of_some _ (Heap.get?_push_of_some _ x)⟩
def iEnumK (K : PySem.W.Frag) (te : TE) : TI := fun σ H R => te σ H fun v H1 => ∃ a xs k, v = .ref a ∧ SqK K H1 a xs k ∧ R (IteK K k a) H1
theorem pi_enumK {X : Cx} {e : Expr} {te : TE} {p pos tpos : Pos} {elts : List Expr} {kk : Nat} (hg : Gl X "enumerate") (hm : X.mg "enumerate" = none) (he : PE X e te) (hs : starEach [e] X.env = (false, eval e X.env) :: starEach [] X.env := by rfl) :
    PI X (.Tuple elts kk tpos) (.Call (.Name "enumerate" p) [e] [] pos) (iEnumK X.K te) := by
  refine ⟨fun pins s σ H R I h => ?_⟩
  refine Call_ (ld_blt I hg hm boot_enumerate (PyProof.Rows.callWith_type1 (args_cons (thn (he.run pins s σ H _ I h) fun u s1 ⟨v, H1, I1, r1, q1⟩ => args_nil ?_) hs) hs rfl))
  obtain ⟨a, xs, k, ex, hq, q⟩ := q1
  subst ex
  cases r1
  obtain ⟨its, rv, p', hz⟩ := Inv.sqK I1 hq
  have hlt := p'.lt
  refine call_enumK p' fun h' he hit hsz hk => wpAny_pyIter_enum he ?_
  have I2 : Inv X pins σ H1 { s1 with heap := h' } := I1.kept (t' := s1.toks) hk
  refine ⟨s1.heap.objs.size + 1, [s1.heap.objs.size + 1, s1.heap.objs.size], _, _, H1, rfl, I2, turn_enumK k a (s1.heap.objs.size + 1) s1.heap.objs.size (Nat.ne_of_lt hlt), ⟨⟨.none, he⟩, hit, Nat.succ_ne_self _, Ne.symm (Nat.ne_of_lt (Nat.lt_succ_of_lt hlt))⟩, fun b hb => ?_, q⟩
  have e' : b = s1.heap.objs.size + 1 ∨ b = s1.heap.objs.size := by simpa using hb
  have hle : s1.heap.objs.size ≤ b := by
    rcases e' with z | z
    · rw [z]; exact Nat.le_add_right _ _
    · rw [z]; exact Nat.le_refl _
  exact I1.fpOk hle (I1.hok.fresh hle)
/-! zip of two, of any kinds -/
def ItzK (K : PySem.W.Frag) (k1 k2 : Bool) (a b : Addr) : It :=
  ⟨fun i H => ∃ (xs ys : List V) (x y : V), SqK K H a xs k1 ∧ SqK K H b ys k2 ∧ xs[i]? = some x ∧ ys[i]? = some y,
    fun i H v H' => ∃ T x y, v = .ref T ∧ H T = none ∧ H' = L2.upd H T (.tup [x, y]) ∧ (∀ xs, SqK K H a xs k1 → xs[i]? = some x) ∧ ∀ ys, SqK K H b ys k2 → ys[i]? = some y,
    fun i H => ∃ xs ys : List V, SqK K H a xs k1 ∧ SqK K H b ys k2 ∧ i ≤ xs.length ∧ i ≤ ys.length ∧ (i = xs.length ∨ i = ys.length)⟩
theorem apart_sep {a b z TI TO i1 i2 : Addr} (D : ZipApart z TI TO i1 i2 a b) : ZipSep2 z TI TO i1 i2 [i1, a] [i2, b] := by
  have n2 : ∀ {x y w : Addr}, x ≠ y → x ≠ w → x ∉ [y, w] := fun h1 h2 h => by
    rcases List.mem_cons.mp h with e | h
    · exact h1 e
    · exact h2 (List.mem_singleton.mp h)
  exact { TIz := D.TIz, TOz := D.TOz, TITO := D.TITO, TIi1 := D.TIi1, mem1 := by simp, zf1 := n2 (Ne.symm D.i1z) (Ne.symm D.l1z), Tf1 := n2 D.TOi1 (Ne.symm D.l1TO), TIi2 := D.TIi2, mem2 := by simp, zf2 := n2 (Ne.symm D.i2z) (Ne.symm D.l2z), Tf2 := n2 D.TOi2 (Ne.symm D.l2TO), sep1_2 := n2 D.i12 (Ne.symm D.l2i1), sep2_1 := n2 (Ne.symm D.i12) (Ne.symm D.l1i2) }
theorem turn_zipK {P : Program} {w : World} {K : PySem.W.Frag} {elts : List Expr} {kk : Nat} {tpos : Pos} (k1 k2 : Bool) {a b z TI TO i1 i2 : Addr} (D : ZipApart z TI TO i1 i2 a b) :
    Turn P w K (.Tuple elts kk tpos) (ItzK K k1 k2 a b) [z, TI, TO, i1, i2] z (fun i h => IsZip h z TI TO .none ∧ IsPair h TI (.ref i1) (.ref i2) ∧ (∃ x y, IsPair h TO x y) ∧ ItK h i1 a i k1 ∧ ItK h i2 b i k2) where
  mem := by simp
  obj := fun i h st c hc => by
    obtain ⟨hz, hTI, ⟨x, y, hTO⟩, h1, h2⟩ := st
    have e' : c = z ∨ c = TI ∨ c = TO ∨ c = i1 ∨ c = i2 := by simpa using hc
    rcases e' with q | q | q | q | q
    · subst q; exact ⟨_, hz, fun v q => nomatch q⟩
    · subst q; exact ⟨_, hTI, fun v q => nomatch q⟩
    · subst q; exact ⟨_, hTO, fun v q => nomatch q⟩
    · subst q; exact h1.obj
    · subst q; exact h2.obj
  keep := fun i h h' st k => by
    obtain ⟨hz, hTI, ⟨x, y, hTO⟩, h1, h2⟩ := st
    exact ⟨k z (by simp) _ hz, k TI (by simp) _ hTI, ⟨x, y, k TO (by simp) _ hTO⟩, h1.at fun o q => k i1 (by simp) o q, h2.at fun o q => k i2 (by simp) o q⟩
  item := by
    intro X hP hw hK hc i pins s σ H E I hf st hg
    subst hP hw hK
    obtain ⟨hz, hTI, ⟨x0, y0, hTO⟩, h1, h2⟩ := st
    obtain ⟨xs, ys, x, y, hqx, hqy, hx, hy⟩ := hg
    obtain ⟨its, rv, p, _⟩ := Inv.sqK I hqx
    obtain ⟨its2, rv2, p2, _⟩ := Inv.sqK I hqy
    obtain ⟨u, hu, ru⟩ := rv.get hx
    obtain ⟨u2, hu2, ru2⟩ := rv2.get hy
    have hu' : its.toArray[i]? = some u := by simpa using hu
    have hu2' : its2.toArray[i]? = some u2 := by simpa using hu2
    have hl1 : i < its.toArray.size := by simpa using (List.getElem?_eq_some_iff.mp hu).1
    have hl2 : i < its2.toArray.size := by simpa using (List.getElem?_eq_some_iff.mp hu2).1
    have hzl : z < s.heap.objs.size := Heap.lt_size hz
    have hdn : X.A.in1.handled = none := I.ok.hd hc
    refine wpAny_pyNext_zipD2_item (apart_sep D) (drawsK hdn i1 a D.l1i1 its.toArray k1) (drawsK hdn i2 b D.l2i2 its2.toArray k2) hz hTI hTO ⟨h1, p⟩ ⟨h2, p2⟩ hl1 hl2 fun x1 x2 h' tk e1 e2 z' TO' h1' h2' hT hsz hk => ?_
    have d1 : x1 = u := by rw [hu'] at e1; exact (Option.some.inj e1).symm
    have d2 : x2 = u2 := by rw [hu2'] at e2; exact (Option.some.inj e2).symm
    subst d1 d2
    refine ⟨_, rfl, wpAny_letOwnedTupleGo_zip (s := { s with heap := h', toks := tk }) z' fun h'' z'' sb => ?_⟩
    have hT2 : h''.get? s.heap.objs.size = some { cls := .type "tuple", data := .seq #[x1, x2] } := (sb.2 _ (Nat.ne_of_gt hzl)).trans hT
    have new : ObjOk X.prog X.w (L2.upd H s.heap.objs.size (.tup [x, y])) h'' s.heap.objs.size (.tup [x, y]) :=
      ⟨by show 2 ≤ sizeLine; decide, [x1, x2], .cons ru (.cons ru2 .nil), ⟨_, hT2, rfl, _, rfl⟩⟩
    have I1 : Inv X pins σ (L2.upd H s.heap.objs.size (.tup [x, y])) { s with heap := h'', toks := tk } :=
      I.turnedNew (t' := tk) (ch := [z, TI, TO, i1, i2]) (fun c o hb q => (sb.2 c (fun q' => hb (by simp [q']))).trans (hk c o (fun q' => hb (by simp [q'])) (fun q' => hb (by simp [q'])) (fun q' => hb (by simp [q'])) (fun q' => hb (by simp [q'])) q)) hf (Nat.le_refl _) new
    refine ⟨.ref s.heap.objs.size, _, I1, rfl, ⟨_, x, y, rfl, I.hok.fresh (Nat.le_refl _), rfl, fun l hl => by rw [Inv.sqK_inj I hl hqx]; exact hx, fun l hl => by rw [Inv.sqK_inj I hl hqy]; exact hy⟩, ⟨z'', ?_, ⟨x1, x2, ?_⟩, ?_, ?_⟩, fun c hcm => ?_⟩
    · exact (sb.2 _ D.TIz).trans (hk _ _ D.TIz D.TITO D.TIi1 D.TIi2 hTI)
    · exact (sb.2 _ D.TOz).trans TO'
    · exact h1'.1.at fun o q => (sb.2 _ D.i1z).trans q
    · exact h2'.1.at fun o q => (sb.2 _ D.i2z).trans q
    · have hlt : c < s.heap.objs.size := by
        have e' : c = z ∨ c = TI ∨ c = TO ∨ c = i1 ∨ c = i2 := by simpa using hcm
        rcases e' with q | q | q | q | q
        · rw [q]; exact hzl
        · rw [q]; exact Heap.lt_size hTI
        · rw [q]; exact Heap.lt_size hTO
        · rw [q]; obtain ⟨_, e1, _⟩ := h1.obj; exact Heap.lt_size e1
        · rw [q]; obtain ⟨_, e2, _⟩ := h2.obj; exact Heap.lt_size e2
      rw [upd_ne (Nat.ne_of_lt hlt)]
      exact (hf c hcm).1
  done := by
    intro X hP hw hK hc i pins s σ H E I hf st hg
    subst hP hw hK
    obtain ⟨hz, hTI, ⟨x0, y0, hTO⟩, h1, h2⟩ := st
    obtain ⟨xs, ys, hqx, hqy, hi1, hi2, hend⟩ := hg
    obtain ⟨its, rv, p, _⟩ := Inv.sqK I hqx
    obtain ⟨its2, rv2, p2, _⟩ := Inv.sqK I hqy
    have l1 := rv.length
    have l2 := rv2.length
    have hdn : X.A.in1.handled = none := I.ok.hd hc
    have hs1 : its.toArray.size = xs.length := by rw [List.size_toArray]; exact l1.symm
    have hs2 : its2.toArray.size = ys.length := by rw [List.size_toArray]; exact l2.symm
    refine wpAny_pyNext_zipD2_end (apart_sep D) (drawsK hdn i1 a D.l1i1 its.toArray k1) (drawsK hdn i2 b D.l2i2 its2.toArray k2) hz hTI hTO ⟨h1, p⟩ ⟨h2, p2⟩ (by rw [hs1]; exact hi1) (by rw [hs2]; exact hi2) (by rw [hs1, hs2]; exact hend) fun h' tk hk => ⟨rfl, I.turnedL (t' := tk) (ch := [z, TI, TO, i1, i2]) (fun c o hb q =>
      hk c o (fun q' => hb (by simp [q'])) (fun q' => hb (by simp [q'])) (fun q' => hb (by simp [q'])) (fun q' => hb (by simp [q'])) q) hf⟩
  self := fun A i s Q E st h => wpAny_pyIter_zip st.1 h
abbrev zK1 (k1 : Bool) (h : Heap) (l1 : Addr) : Heap := h.push { cls := .type (nmK k1), data := .fields #[.ref l1, .int 0 0] }
abbrev zK2 (k1 k2 : Bool) (h : Heap) (l1 l2 : Addr) : Heap := (zK1 k1 h l1).push { cls := .type (nmK k2), data := .fields #[.ref l2, .int 0 0] }
abbrev zK3 (k1 k2 : Bool) (h : Heap) (l1 l2 : Addr) : Heap := (zK2 k1 k2 h l1 l2).push { cls := .type "tuple", data := .seq #[.ref h.objs.size, .ref (zK1 k1 h l1).objs.size] }
abbrev zK4 (k1 k2 : Bool) (h : Heap) (l1 l2 : Addr) : Heap := (zK3 k1 k2 h l1 l2).push { cls := .type "tuple", data := .seq #[.none, .none] }
abbrev zK5 (k1 k2 : Bool) (h : Heap) (l1 l2 : Addr) : Heap := (zK4 k1 k2 h l1 l2).push { cls := .type "zip", data := .fields #[.none, .bool false, .bool false, .ref (zK2 k1 k2 h l1 l2).objs.size, .ref (zK3 k1 k2 h l1 l2).objs.size] }
theorem meets_zipK (k1 k2 : Bool) (l1 l2 : Addr) (xs ys : Array Value) :
    Meets (Builtin.«zip.__new__» ⟨[.type "zip", .ref l1, .ref l2], []⟩) (fun _ R s => IsK s.heap l1 xs k1 ∧ IsK s.heap l2 ys k2 ∧
      R (.ok (.ret (.ref (zK4 k1 k2 s.heap l1 l2).objs.size))) { s with heap := zK5 k1 k2 s.heap l1 l2 }) :=
  .of_wp fun prog w A R s h => by
    obtain ⟨hp, g, d, tk, os⟩ := s; obtain ⟨hl1, hl2, h⟩ := h
    have hsub := sub_zip
    have hL1 : IsK (Shared.heap ⟨hp, g, d, tk, os⟩) l1 xs k1 := hl1
    have hL2 : IsK (Shared.heap ⟨hp.push { cls := .type (nmK k1), data := .fields #[.ref l1, .int 0 0] }, g, d, tk, os⟩) l2 ys k2 := IsK.push _ hl2
    wp_walk using iterK hL1, iterK hL2
    exact ⟨_, rfl, h⟩
theorem call_zipK {P : Program} {w : World} {A : Around} {E : Value → Shared → Prop} {s : Shared} {k1 k2 : Bool} {l1 l2 : Addr} {xs ys : Array Value} {Q : Value → Shared → Prop} (hl1 : IsK s.heap l1 xs k1) (hl2 : IsK s.heap l2 ys k2)
    (h : ∀ h', IsZip h' (s.heap.objs.size + 4) (s.heap.objs.size + 2) (s.heap.objs.size + 3) .none → IsPair h' (s.heap.objs.size + 2) (.ref s.heap.objs.size) (.ref (s.heap.objs.size + 1)) →
      IsPair h' (s.heap.objs.size + 3) .none .none → ItK h' s.heap.objs.size l1 0 k1 → ItK h' (s.heap.objs.size + 1) l2 0 k2 → h'.objs.size = s.heap.objs.size + 5 →
      (∀ c o, s.heap.get? c = some o → h'.get? c = some o) → Q (.ref (s.heap.objs.size + 4)) { s with heap := h' }) :
    wpAny (model P w) A (call (.type "zip") [.ref l1, .ref l2]) Q E s := by
  refine callType_new F.called_zip (by decide) (F.typeCall_zip_2 _ _) (F.newCall_zip_2 _ _) (fun obj => F.args_object_init_3 obj _ _) F.entry_zip_new (meets_zipK k1 k2 l1 l2 xs ys) ⟨hl1, hl2, ?_⟩
  have z1 : (zK1 k1 s.heap l1).objs.size = s.heap.objs.size + 1 := Heap.size_push ..
  have z2 : (zK2 k1 k2 s.heap l1 l2).objs.size = s.heap.objs.size + 2 := by rw [Heap.size_push, z1]
  have z3 : (zK3 k1 k2 s.heap l1 l2).objs.size = s.heap.objs.size + 3 := by rw [Heap.size_push, z2]
  have z4 : (zK4 k1 k2 s.heap l1 l2).objs.size = s.heap.objs.size + 4 := by rw [Heap.size_push, z3]
  have z5 : (zK5 k1 k2 s.heap l1 l2).objs.size = s.heap.objs.size + 5 := by rw [Heap.size_push, z4]
  have g5 : (zK5 k1 k2 s.heap l1 l2).get? (zK4 k1 k2 s.heap l1 l2).objs.size = some _ := Heap.get?_push_size _ rfl
  have g4 : (zK5 k1 k2 s.heap l1 l2).get? (zK3 k1 k2 s.heap l1 l2).objs.size = some _ := Heap.get?_push_of_some _ (Heap.get?_push_size _ rfl)
  have g3 : (zK5 k1 k2 s.heap l1 l2).get? (zK2 k1 k2 s.heap l1 l2).objs.size = some _ := Heap.get?_push_of_some _ (Heap.get?_push_of_some _ (Heap.get?_push_size _ rfl))
  have g2 : ItK (zK2 k1 k2 s.heap l1 l2) (zK1 k1 s.heap l1).objs.size l2 0 k2 := itK_new
  have g1 : ItK (zK1 k1 s.heap l1) s.heap.objs.size l1 0 k1 := itK_new
  show _ ∧ _
  rw [z2, z3, z4] at g5
  rw [z1, z2] at g3
  rw [z3] at g4
  rw [z1] at g2
  rw [z4]
  exact ⟨⟨_, g5, rfl⟩, h _ g5 g3 g4 (g1.at fun o x => Heap.get?_push_of_some _ (Heap.get?_push_of_some _ (Heap.get?_push_of_some _ (Heap.get?_push_of_some _ x)))) (g2.at fun o x => Heap.get?_push_of_some _ (Heap.get?_push_of_some _ (Heap.get?_push_of_some _ x))) z5 fun c o x =>
    Heap.get?_push_of_some _ (Heap.get?_push_of_some _ (Heap.get?_push_of_some _ (Heap.get?_push_of_some _ (Heap.get?_push_of_some _ x))))⟩
def iZipK (K : PySem.W.Frag) (ta : TA) : TI := fun σ H R => ta σ H fun vs H1 => ∃ a b xs ys k1 k2, vs = [.ref a, .ref b] ∧ SqK K H1 a xs k1 ∧ SqK K H1 b ys k2 ∧ R (ItzK K k1 k2 a b) H1
theorem pi_zipK {X : Cx} {e e2 : Expr} {ta : TA} {p pos tpos : Pos} {elts : List Expr} {kk : Nat} (hg : Gl X "zip") (hm : X.mg "zip" = none) (ha : PA X [e, e2] ta)
    (hs : starEach [e, e2] X.env = (false, eval e X.env) :: starEach [e2] X.env := by rfl) (hpl : (backTo pos (starEach [e2] X.env)).any (·.1) = false := by rfl) :
    PI X (.Tuple elts kk tpos) (.Call (.Name "zip" p) [e, e2] [] pos) (iZipK X.K ta) := by
  refine ⟨fun pins s σ H R I h => ?_⟩
  refine Call_ (ld_blt I hg hm PyProof.Rows.boot_zip (PyProof.Rows.callWith_type1 (thn (ha.run pos pins s σ H _ I h) fun us s1 ⟨vs, H1, I1, r1, q1⟩ => ?_) hs hpl))
  obtain ⟨a, b, xs, ys, k1, k2, ex, hqx, hqy, q⟩ := q1
  subst ex
  cases r1 with
  | cons r rr =>
    cases rr with
    | cons r' rr =>
      cases rr
      cases r
      cases r'
      obtain ⟨its, rv, p1, _⟩ := Inv.sqK I1 hqx
      obtain ⟨its2, rv2, p2, _⟩ := Inv.sqK I1 hqy
      refine call_zipK p1 p2 fun h' hz hTI hTO h1 h2 hsz hk => wpAny_pyIter_zip hz ?_
      have I2 : Inv X pins σ H1 { s1 with heap := h' } := I1.kept (t' := s1.toks) hk
      refine ⟨s1.heap.objs.size + 4, [s1.heap.objs.size + 4, s1.heap.objs.size + 2, s1.heap.objs.size + 3, s1.heap.objs.size, s1.heap.objs.size + 1], _, _, H1, rfl, I2, turn_zipK k1 k2 (PySem.W.ktu_apart s1.heap.objs.size a b p1.lt p2.lt), ⟨hz, hTI, ⟨_, _, hTO⟩, h1, h2⟩, fun c hcm => ?_, q⟩
      have hle : s1.heap.objs.size ≤ c := by
        simp only [List.mem_cons, List.not_mem_nil, or_false] at hcm
        rcases hcm with z | z | z | z | z <;> rw [z] <;> first | exact Nat.le_add_right _ _ | exact Nat.le_refl _
      exact I1.fpOk hle (I1.hok.fresh hle)
end ML
set_option maxRecDepth 100000
/-! ML10: loops, comprehensions. -/
namespace ML
open PySem PySem.Spec PyProof.Rows L2
section
variable {X : Cx} {tg e a b : Expr} {p pos tpos : Pos} {elts : List Expr} {kk : Nat}
theorem sq_seq {K : PySem.W.Frag} {B : List Addr} {H : Hp} {v : V} {d : D} {ds : List D} (h : Sh K B H v d) (hi : itemsOf d = some ds) : ∃ a xs k, v = .ref a ∧ RpAll K B H xs ds ∧ SqK K H a xs k ∧ (k = true ↔ ∃ es, d = .list es) := by
  obtain ⟨a, xs, rfl, r, hs⟩ := sh_seq h hi
  rcases hs with ⟨hd, hs⟩ | ⟨⟨es, hd⟩, hs⟩
  · exact ⟨a, xs, true, rfl, r, hs, by simp [hd]⟩
  · exact ⟨a, xs, false, rfl, r, hs, by simp [hd]⟩
theorem bool_iff {k k' : Bool} {P : Prop} (h : k = true ↔ P) (h' : k' = true ↔ P) : k' = k := by
  cases k <;> cases k' <;> first | rfl | (exfalso; exact Bool.noConfusion (h.mpr (h'.mp rfl))) | (exfalso; exact Bool.noConfusion (h'.mpr (h.mp rfl)))
/-- each with its place -/
def numb (ds : List D) (n : Int) : List D := match ds with
  | [] => []
  | d :: r => .tuple [.int n, d] :: numb r (n + 1)
theorem numb_len : ∀ (ds : List D) (n : Int), (numb ds n).length = ds.length
  | [], _ => rfl
  | _ :: r, n => congrArg (· + 1) (numb_len r (n + 1))
theorem numb_get : ∀ (ds : List D) (n : Int) (i : Nat), (numb ds n)[i]? = (ds[i]?).map fun d => .tuple [.int (n + i), d]
  | [], _, i => by simp [numb]
  | d :: r, n, 0 => by simp [numb]
  | d :: r, n, i + 1 => by
    show (numb r (n + 1))[i]? = _
    rw [numb_get r (n + 1) i]
    have : n + 1 + (i : Int) = n + ((i + 1 : Nat) : Int) := by omega
    rw [this]
    rfl
def iEnum (m : M Opd) : M (List D × List Gd) := fun env st => (iSeq m env st).map fun p => ((numb p.1.1 0, p.1.2), p.2)
theorem rp_pair {K : PySem.W.Frag} {B : List Addr} {H : Hp} {T : Addr} {x y : V} {d d' : D} (hn : H T = none) (r : Rp K B H x d) (r' : Rp K B H y d') : Rp K B (L2.upd H T (.tup [x, y])) (.ref T) (.tuple [d, d']) := rp_newT hn (.cons r (.cons r' .nil))
theorem si_enum {m : M Opd} (hg : Gl X "enumerate") (hm : X.mg "enumerate" = none) (hl : SO X e m) (hs : starEach [e] X.env = (false, eval e X.env) :: starEach [] X.env := by rfl) :
    SI X (.Tuple elts kk tpos) (.Call (.Name "enumerate" p) [e] [] pos) (iEnum m) := PI.imp (pi_enumK hg hm hl hs) fun σ H R ⟨κ, η, env, st, pr, st', R0, em, q⟩ => by
  unfold iEnum at em
  obtain ⟨⟨p0, s0⟩, em0, ep⟩ := Option.map_eq_some_iff.mp em
  cases ep
  obtain ⟨o, d, h1, h2, h3, h4⟩ := iSeq_some em0
  refine ⟨κ, η, env, st, o, _, R0, h1, fun v κ1 H1 R1 e1 v1 => ?_⟩
  obtain ⟨a, xs, k, rfl, r, hs, hk⟩ := sq_seq (v1.res R1 h2) h3
  refine ⟨a, xs, k, rfl, hs, q _ κ1 H1 R1 e1 ⟨fun κ2 η2 H2 σ2 env2 st2 R2 e2 hl hg i => ?_⟩⟩
  obtain ⟨a', ys, k', ea, r', hs', hk'⟩ := sq_seq (v1.later R1 h2 R2 e2 hl (by rw [← h4]; exact hg)) h3
  cases ea
  have := bool_iff hk hk'
  subst this
  dsimp only
  refine ⟨fun hi => ⟨ys, hs', by rw [numb_len] at hi; rw [r'.length]; exact hi⟩, fun d hd => ?_⟩
  rw [numb_get] at hd
  obtain ⟨d0, k1, k2⟩ := Option.map_eq_some_iff.mp hd
  obtain ⟨v, z1, z2⟩ := r'.get k1
  refine ⟨⟨ys, v, hs', z1⟩, fun x H' y => ?_⟩
  obtain ⟨T, x', rfl, hn, rfl, y⟩ := y
  have := y ys hs'
  rw [z1] at this
  cases this
  subst k2
  have e0 : (0 : Int) + (i : Int) = (i : Int) := by omega
  rw [e0]
  exact ⟨same_new hn, rp_pair hn (.int _) z2⟩
/-- two by two -/
def pairs : List D → List D → List D
  | x :: r, y :: t => .tuple [x, y] :: pairs r t
  | _, _ => []
theorem pairs_len : ∀ (a b : List D), (pairs a b).length = min a.length b.length
  | [], _ => by simp [pairs]
  | _ :: _, [] => by simp [pairs]
  | _ :: r, _ :: t => by simp [pairs, pairs_len r t]
theorem pairs_get : ∀ (a b : List D) (i : Nat) (d : D), (pairs a b)[i]? = some d → ∃ x y, a[i]? = some x ∧ b[i]? = some y ∧ d = .tuple [x, y]
  | [], _, i, d, h => by simp [pairs] at h
  | _ :: _, [], i, d, h => by simp [pairs] at h
  | x :: r, y :: t, 0, d, h => by simp [pairs] at h; exact ⟨x, y, rfl, rfl, h.symm⟩
  | x :: r, y :: t, i + 1, d, h => pairs_get r t i d h
def iZip (m n : M Opd) : M (List D × List Gd) := fun env st => (m env st).bind fun p => (n env p.2).bind fun q => (res env q.2 p.1).bind fun x => (res env q.2 q.1).bind fun y => (itemsOf x).bind fun xs => (itemsOf y).map fun ys =>
  ((pairs xs ys, gOf env q.2 p.1 ++ gOf env q.2 q.1), q.2)
theorem si_zip {m n : M Opd} (hg : Gl X "zip") (hm : X.mg "zip" = none) (ha : SO X a m) (hb : SO X b n) (hs : starEach [a, b] X.env = (false, eval a X.env) :: starEach [b] X.env := by rfl) (hs2 : starEach [b] X.env = (false, eval b X.env) :: starEach [] X.env := by rfl)
    (hpl : (backTo pos (starEach [b] X.env)).any (·.1) = false := by rfl) :
    SI X (.Tuple elts kk tpos) (.Call (.Name "zip" p) [a, b] [] pos) (iZip m n) := PI.imp (pi_zipK hg hm (pa_cons ha (pa_cons hb pa_nil hs2) hs) hs hpl) fun σ H R ⟨κ, η, env, st, pr, st', R0, em, q⟩ => by
  unfold iZip at em
  simp only [Option.bind_eq_some_iff, Option.map_eq_some_iff] at em
  obtain ⟨⟨o1, s1⟩, h1, ⟨o2, s2⟩, h2, x, h3, y, h4, xs, h5, ys, h6, h7⟩ := em
  cases h7
  refine ⟨κ, η, env, st, o1, _, R0, h1, fun v κ1 H1 R1 e1 v1 => ⟨κ1, η, env, _, o2, _, R1, h2, fun v' κ2 H2 R2 e2 v2 => ?_⟩⟩
  have v1' := v1.ext e2
  obtain ⟨a1, us, k1, rfl, r1, q1, i1⟩ := sq_seq (v1'.res R2 h3) h5
  obtain ⟨a2, ws, k2, rfl, r2, q2, i2⟩ := sq_seq (v2.res R2 h4) h6
  refine ⟨a1, a2, us, ws, k1, k2, rfl, q1, q2, q _ κ2 H2 R2 (e1.trans e2) ⟨fun κ3 η3 H3 σ3 env3 st3 R3 e3 hl hg i => ?_⟩⟩
  obtain ⟨b1, us', k1', ea, r1', q1', i1'⟩ := sq_seq (v1'.later R2 h3 R3 e3 hl hg.left) h5
  cases ea
  obtain ⟨b2, ws', k2', ea, r2', q2', i2'⟩ := sq_seq (v2.later R2 h4 R3 e3 hl hg.right) h6
  cases ea
  have := bool_iff i1 i1'
  subst this
  have := bool_iff i2 i2'
  subst this
  dsimp only
  refine ⟨fun hi => ?_, fun d hd => ?_⟩
  · rw [pairs_len] at hi
    refine ⟨us', ws', q1', q2', ?_⟩
    rw [r1'.length, r2'.length]
    omega
  · obtain ⟨x0, y0, z1, z2, rfl⟩ := pairs_get _ _ _ _ hd
    obtain ⟨u, w1, w2⟩ := r1'.get z1
    obtain ⟨u2, w3, w4⟩ := r2'.get z2
    refine ⟨⟨us', ws', u, u2, q1', q2', w1, w3⟩, fun x H' y => ?_⟩
    obtain ⟨T, x', y', rfl, hn, rfl, y1, y2⟩ := y
    have := y1 us' q1'
    rw [w1] at this
    cases this
    have := y2 ws' q2'
    rw [w3] at this
    cases this
    exact ⟨same_new hn, rp_pair hn w2 w4⟩
/-! ### for -/
open Classical in
/-- the turns of a loop -/
noncomputable def mLoop (g : List Gd) (bd : Bd) (body : S) : List D → S
  | [], env, st => if gOk g st then some (.nx, env, st) else Option.none
  | d :: ds, env, st => if gOk g st then (bd d env).bind fun env1 => (body env1 st).bind fun q => match q.1 with
      | .nx => mLoop g bd body ds q.2.1 q.2.2
      | .cnt => mLoop g bd body ds q.2.1 q.2.2
      | .brk => some (.nx, q.2.1, q.2.2)
      | f => some (f, q.2.1, q.2.2)
    else Option.none
noncomputable def mFor (mi : M (List D × List Gd)) (bd : Bd) (body : S) : S := fun env st => (mi env st).bind fun p => mLoop p.1.2 bd body p.1.1 env p.2
theorem hidLe_refl (η : Hid) (H : Hp) : HidLe η H η := fun b hb => .inl hb
theorem ss_for {body : List Stmt} {mi : M (List D × List Gd)} {W : List Nat} {bd : Bd} {mb : S} (hp : PassesOwn (model X.prog X.w) X.A X.env X.xe) (hc : X.calm = true) (hi : SI X tg e mi) (hg : SG X tg W bd) (hb : SSs X body mb)
    (hs : ∀ x, foldedSetIterable e X.env x = pure x := by intro _; rfl) : SS X (.For tg e body [] pos) (mFor mi bd mb) := PS.imp (ps_for hp hc hi hg hb hs) fun Dn σ H ⟨κ, η, env, st, f, env', st', R, em, q⟩ => by
  unfold mFor at em
  obtain ⟨⟨pr, s1⟩, h1, h2⟩ := Option.bind_eq_some_iff.mp em
  refine ⟨κ, η, env, st, pr, s1, R, h1, fun J κ1 H1 R1 e1 wk => ?_⟩
  obtain ⟨ds, g⟩ := pr
  dsimp only at h2 wk
  refine ⟨fun i m σ2 H2 => m = ds.length - i ∧ i ≤ ds.length ∧ ∃ κ2 env2 st2, Rep X.K κ2 η H2 σ2 env2 st2 ∧ Ext κ1 H1 κ2 H2 ∧ mLoop g bd mb (ds.drop i) env2 st2 = some (f, env', st'), ⟨ds.length, by simp, Nat.zero_le _, κ1, env, s1, R1, Ext.refl, by simpa using h2⟩, ?_⟩
  rintro i m σ2 H2 ⟨rfl, hi, κ2, env2, st2, R2, e2, hm⟩
  by_cases hlt : i < ds.length
  · have hd : ds[i]? = some ds[i] := List.getElem?_eq_getElem hlt
    rw [List.drop_eq_getElem_cons hlt] at hm
    unfold mLoop at hm
    split at hm
    · rename_i hgk
      obtain ⟨env3, k1, k2⟩ := Option.bind_eq_some_iff.mp hm
      obtain ⟨⟨f3, env4, st4⟩, k3, k4⟩ := Option.bind_eq_some_iff.mp k2
      dsimp only at k4
      obtain ⟨go, yl⟩ := (wk.go κ2 η H2 σ2 env2 st2 R2 e2 (hidLe_refl η H1) hgk i).2 _ hd
      refine .inr ⟨go, fun σ3 H3 => ∃ κ3 env3 st3, Rep X.K κ3 η H3 σ3 env3 st3 ∧ Ext κ1 H1 κ3 H3 ∧ mLoop g bd mb (ds.drop (i + 1)) env3 st3 = some (f, env', st'), fun σ3 H3 ⟨κ3, env3, st3, R3, e3, hm3⟩ => ⟨ds.length - (i + 1), by omega, rfl, hlt, κ3, env3, st3, R3, e3, hm3⟩, fun x H' y => ?_⟩
      obtain ⟨sm, rp⟩ := yl x H' y
      refine ⟨κ2, η, env2, st2, _, env3, R2.same sm, rp, k1, fun σ3 R3 _ _ => ?_⟩
      refine ⟨κ2, η, env3, st2, f3, env4, st4, R3, k3, fun κ4 σ4 H4 R4 e4 => ?_⟩
      have e14 : Ext κ1 H1 κ4 H4 := (e2.trans (Ext.of_same sm)).trans e4
      cases f3 with
      | nx => exact ⟨κ4, env4, st4, R4, e14, k4⟩
      | cnt => exact ⟨κ4, env4, st4, R4, e14, k4⟩
      | brk => cases k4; exact q κ4 σ4 H4 R4 (e1.trans e14)
      | ret d k => cases k4; exact q κ4 σ4 H4 R4 (e1.trans e14)
      | retN dd k =>
        cases k4
        refine FE.back (R2.same sm) ((e1.trans e2).trans (Ext.of_same sm)) (q κ4 σ4 H4 R4 (e1.trans e14))
    · cases hm
  · have hi' : i = ds.length := by omega
    subst hi'
    rw [List.drop_length] at hm
    unfold mLoop at hm
    split at hm
    · rename_i hgk
      cases hm
      exact .inl ⟨(wk.go _ _ _ _ _ _ R2 e2 (hidLe_refl η H1) hgk _).1 rfl, q κ2 σ2 H2 R2 (e1.trans e2)⟩
    · cases hm
end
end ML
set_option maxRecDepth 100000
/-! ML11: comprehensions, while. -/
namespace ML
open PySem PySem.Spec PyProof.Rows L2
section
variable {K : PySem.W.Frag} {κ κ0 κ' : List Fp} {η η2 : Hid} {H H0 H' : Hp} {σ σ0 : L2.St} {env env0 : Env} {st st0 : Sto}
/-- also the first parts -/
def HidLe1 (η : Hid) (H0 : Hp) (η2 : Hid) : Prop := ∀ b ∈ η2.1, b ∈ η.1 ∨ H0 b = Option.none
theorem Ext.re2 (e : Ext κ0 H0 κ H) (hl : HidLe η H0 η2) (hl1 : HidLe1 η H0 η2) {v : V} {x : E} (r : RE K κ0 η H0 v x) : RE K κ η2 H v x := by
  cases r with
  | val r => exact .val (e.rp2 hl r)
  | mdl k q => exact .mdl k (e.rps2 hl q)
  | bor h n q =>
    rename_i a xs ds
    have hn : H0 a ≠ Option.none := by
      rcases h with h | ⟨o, h⟩ <;> (rw [h]; exact Option.some_ne_none _)
    have n1 : a ∉ alls κ0 := fun z => n (List.mem_append_left _ z)
    refine .bor ?_ (fun z => ?_) (e.rps2 hl q)
    · rcases h with h | ⟨o, h⟩
      · exact .inl (e.fr.same _ _ h n1)
      · exact .inr ⟨o, e.fr.frz _ _ _ h⟩
    · rcases List.mem_append.mp z with z | z
      · exact hn (e.new _ z n1)
      · rcases hl1 a z with z | z
        · exact n (List.mem_append_right _ z)
        · exact hn z
  | loc h =>
    obtain ⟨q, hq, l, _⟩ := e.at h
    rw [l]
    exact .loc hq
/-- slots of then, the heap of now -/
theorem Rep.with (R0 : Rep K κ0 η H0 σ0 env0 st0) (e : Ext κ0 H0 κ H) (hl : HidLe η H0 η2) (hl1 : HidLe1 η H0 η2) (R : Rep K κ η2 H σ env st) : Rep K κ η2 H σ0 env0 st :=
  ⟨R.nd, R.dj, R.en, R.hn, R0.len, fun i x h => let ⟨v, h1, h2⟩ := R0.env i x h; ⟨v, h1, e.re2 hl hl1 h2⟩, R.sto⟩
def wipeE (env : Env) : List Nat → Env
  | [] => env
  | v :: vs => (wipeE env vs).set v Option.none
theorem Rep.unset (R : Rep K κ η H σ env st) (i : Nat) : Rep K κ η H (σ.set i Option.none) (env.set i Option.none) st :=
  ⟨R.nd, R.dj, R.en, R.hn, by rw [List.length_set, List.length_set]; exact R.len, fun j x h => by
    by_cases hj : i = j
    · subst hj
      have hl : i < env.length := by
        have := (List.getElem?_eq_some_iff.mp h).1
        rwa [List.length_set] at this
      rw [List.getElem?_set_self hl] at h
      cases h
    · rw [List.getElem?_set_ne hj] at h
      obtain ⟨w, h1, h2⟩ := R.env j x h
      exact ⟨w, by rw [List.getElem?_set_ne hj]; exact h1, h2⟩, R.sto⟩
theorem Rep.wipe (R : Rep K κ η H σ env st) : ∀ vs : List Nat, Rep K κ η H (L2.wipe σ vs) (wipeE env vs) st
  | [] => R
  | v :: vs => (Rep.wipe R vs).unset v
theorem wipe_in {σ : L2.St} {j : Nat} : ∀ {vs : List Nat}, j ∈ vs → (L2.wipe σ vs)[j]? = if j < σ.length then some Option.none else Option.none
  | v :: vs, h => by
    unfold L2.wipe
    by_cases hv : v = j
    · subst hv
      by_cases hl : v < σ.length
      · rw [List.getElem?_set_self (by rw [wipe_length]; exact hl), if_pos hl]
      · rw [if_neg hl, List.getElem?_eq_none (by rw [List.length_set, wipe_length]; omega)]
    · rw [List.getElem?_set_ne hv]
      rcases List.mem_cons.mp h with h | h
      · exact absurd h.symm hv
      · exact wipe_in h
theorem wipe_same {σ σ2 : L2.St} {vs W : List Nat} (hW : ∀ j ∈ W, j ∈ vs) (hl : σ2.length = (L2.wipe σ vs).length) (ho : ∀ j, j ∉ W → σ2[j]? = (L2.wipe σ vs)[j]?) : L2.wipe σ2 vs = L2.wipe σ vs := by
  apply List.ext_getElem?
  intro j
  rw [wipe_length] at hl
  by_cases hj : j ∈ vs
  · rw [wipe_in hj, wipe_in hj, hl]
  · rw [wipe_out hj, ho j fun z => hj (hW j z)]
/-- the hidden list is written -/
theorem fr_hid {D : Addr} {xs ys : List V} (hD : H D = some (.lst xs)) : Fr [D] H (L2.upd H D (.lst ys)) :=
  ⟨fun b o h n => by rw [upd_ne (fun z => n (by rw [z]; simp))]; exact h, fun b us h => by rw [upd_ne (fun z => by rw [z, hD] at h; cases h)]; exact h, fun b o u h => by rw [upd_ne (fun z => by rw [z, hD] at h; cases h)]; exact h⟩
theorem rps_hid {D : Addr} {xs ys : List V} (hD : H D = some (.lst xs)) {vs : List V} {ds : List ML.D} (r : RpAll K (alls κ ++ D :: η.all) H vs ds) : RpAll K (alls κ ++ D :: η.all) (L2.upd H D (.lst ys)) vs ds :=
  r.mono (fr_hid hD) fun b us _ n => ⟨fun z => n (by rw [List.mem_singleton.mp z]; simp), n⟩
theorem rp_hid {D : Addr} {xs ys : List V} (hD : H D = some (.lst xs)) {v : V} {d : ML.D} (r : Rp K (alls κ ++ D :: η.all) H v d) : Rp K (alls κ ++ D :: η.all) (L2.upd H D (.lst ys)) v d :=
  r.mono (fr_hid hD) fun b us _ n => ⟨fun z => n (by rw [List.mem_singleton.mp z]; simp), n⟩
theorem Rep.writeH {D : Addr} {xs : List V} (R : Rep K κ (hid D η) H σ env st) (hD : H D = some (.lst xs)) (ys : List V) : Rep K κ (hid D η) (L2.upd H D (.lst ys)) σ env st := by
  refine ⟨R.nd, R.dj, R.en, fun a ha => ?_, R.len, fun i x h => ?_, ?_⟩
  · by_cases h : a = D
    · rw [h, upd_same]; exact Option.some_ne_none _
    · rw [upd_ne h]; exact R.hn a ha
  · obtain ⟨v, h1, h2⟩ := R.env i x h
    refine ⟨v, h1, ?_⟩
    cases h2 with
    | val r => exact .val (rp_hid hD r)
    | mdl k q => exact .mdl k (rps_hid hD q)
    | bor h3 n q =>
      rename_i a us ds
      have hne : a ≠ D := fun z => n (by rw [z]; simp)
      refine .bor ?_ n (rps_hid hD q)
      rcases h3 with h3 | ⟨o, h3⟩
      · exact .inl (by rw [upd_ne hne]; exact h3)
      · exact .inr ⟨o, by rw [upd_ne hne]; exact h3⟩
    | loc h3 => exact .loc h3
  · refine paired_of R.lenS fun i p o h1 h2 => ro_upd (fun r => rps_hid hD r) (fun z => ?_) (paired_both R.sto h1 h2)
    exact R.dj D (mem_alls.mpr ⟨p, List.mem_of_getElem? h1, List.mem_cons.mp z⟩) (by simp [Hid.all, hid])
theorem Ext.updN {D : Addr} {o : HO} (e : Ext κ H κ' H') (h : H D = Option.none) : Ext κ H κ' (L2.upd H' D o) :=
  ⟨e.pre, e.new, ⟨fun b u q n => by rw [upd_ne (fun z => by rw [z, h] at q; cases q)]; exact e.fr.same b u q n, fun b us q => by rw [upd_ne (fun z => by rw [z, h] at q; cases q)]; exact e.fr.tup b us q, fun b u w q => by rw [upd_ne (fun z => by rw [z, h] at q; cases q)]; exact e.fr.frz b u w q⟩⟩
theorem hidLe_hid {D : Addr} (h : H D = Option.none) : HidLe η H (hid D η) := fun b hb => by
  rcases List.mem_cons.mp (show b ∈ D :: η.all from hb) with z | z
  · exact .inr (by rw [z]; exact h)
  · exact .inl z
theorem hidLe1_hid {D : Addr} (h : H D = Option.none) : HidLe1 η H (hid D η) := fun b hb => by
  rcases List.mem_cons.mp (show b ∈ D :: η.1 from hb) with z | z
  · exact .inr (by rw [z]; exact h)
  · exact .inl z
theorem Ext.atHid {D : Addr} {xs : List V} (R : Rep K κ (hid D η) H σ env st) (e : Ext κ H κ' H') (hD : H D = some (.lst xs)) : H' D = some (.lst xs) :=
  e.fr.same D _ hD fun z => R.dj D z (by simp [Hid.all, hid])
end
open Classical in
noncomputable def mCompGo (g : List Gd) (bd : Bd) (tt : M Bool) (te : M D) : List D → Env → Sto → Option (List D × Sto)
  | [], _, st => if gOk g st then some ([], st) else Option.none
  | d :: ds, env, st => if gOk g st then (bd d env).bind fun env1 => (tt env1 st).bind fun p => if p.1 = true then (te env1 p.2).bind fun y => (mCompGo g bd tt te ds env y.2).map fun r => (y.1 :: r.1, r.2) else mCompGo g bd tt te ds env p.2 else Option.none
noncomputable def mComp (mi : M (List D × List Gd)) (vs : List Nat) (bd : Bd) (tt : M Bool) (te : M D) : M (List D) := fun env st => (mi env st).bind fun p => if p.1.1.length < 1000000 then mCompGo p.1.2 bd tt te p.1.1 (wipeE env vs) p.2 else Option.none
def mYes : M Bool := fun _ st => some (true, st)
abbrev SPs (X : Cx) (ifs : List Expr) (m : M Bool) : Prop := PTs X ifs (tT X.K m)
theorem PTs.imp {X : Cx} {e : List Expr} {t t' : TT} (h : PTs X e t) (i : ∀ σ H Q, t' σ H Q → t σ H Q) : PTs X e t' := ⟨fun pins s σ H Q I q => h.run pins s σ H Q I (i σ H Q q)⟩
section
variable {X : Cx} {tg e elt c : Expr} {ifs : List Expr} {pos spos : Pos}
theorem mL_t {K : PySem.W.Frag} {m : M (List D)} {σ : L2.St} {H : Hp} {Q : VK} (h : tE K (mL m) σ H Q) : tN K m σ H Q := by
  obtain ⟨κ, η, env, st, o, st', R, em, q⟩ := h
  unfold mL at em
  cases hm : m env st with
  | none => rw [hm] at em; cases em
  | some p =>
    obtain ⟨d, s⟩ := p
    rw [hm] at em
    cases em
    refine ⟨κ, η, env, st, d, st', R, hm, fun a xs κ' H' R' x h0 h1 r => q _ κ' H' R'.less x (.lst h1 (fun z => ?_) (rps_less r))⟩
    rcases List.mem_append.mp z with z | z
    · exact R'.dj a z List.mem_cons_self
    · exact absurd h0 (R.hn a z)
theorem sps_nil : SPs X [] mYes := PTs.imp pts_nil fun σ H Q ⟨κ, η, env, st, b, st', R, em, q⟩ => by
  cases em
  exact q κ H R Ext.refl
theorem sps_one {m : M Bool} (h : ST X c m) : SPs X [c] m := pts_one h
theorem comp_t {K : PySem.W.Frag} {mi : M (List D × List Gd)} {vs W : List Nat} {bd : Bd} {tt : M Bool} {te : M D} (hW : ∀ j ∈ W, j ∈ vs) {σ : L2.St} {H : Hp} {Q : VK} (h : tN K (mComp mi vs bd tt te) σ H Q) : tLc (tI K mi) (tG K W bd) (tT K tt) (tE K te) vs σ H Q := by
  obtain ⟨κ, η, env, st, rs, stF, R, em, q⟩ := h
  unfold mComp at em
  obtain ⟨⟨pr, s1⟩, h1, h2⟩ := Option.bind_eq_some_iff.mp em
  obtain ⟨ds, g⟩ := pr
  dsimp only at h2
  split at h2
  case isFalse => cases h2
  rename_i hz
  refine ⟨κ, η, env, st, (ds, g), s1, R, h1, fun J κ1 H1 R1 e1 wk D hD => ?_⟩
  dsimp only at wk
  have Rw := R1.wipe vs
  refine ⟨fun i m H2 => m = ds.length - i ∧ i ≤ ds.length ∧ ∃ κ2 st2 xs acc rest, Rep K κ2 (hid D η) H2 (L2.wipe σ vs) (wipeE env vs) st2 ∧ Ext κ1 H1 κ2 H2 ∧ H2 D = some (.lst xs) ∧ RpAll K (alls κ2 ++ D :: η.all) H2 xs acc ∧ acc.length ≤ i ∧ mCompGo g bd tt te (ds.drop i) (wipeE env vs) st2 = some (rest, stF) ∧ acc ++ rest = rs,
    ⟨ds.length, by simp, Nat.zero_le _, κ1, s1, [], [], rs, Rw.hide hD, Ext.of_same (same_new hD), upd_same, .nil, by simp, by simpa using h2, rfl⟩, ?_⟩
  rintro i m H2 ⟨rfl, hi, κ2, st2, xs, acc, rest, R2, e2, hxs, racc, hacc, hm, hrs⟩
  by_cases hlt : i < ds.length
  · have hd : ds[i]? = some ds[i] := List.getElem?_eq_getElem hlt
    rw [List.drop_eq_getElem_cons hlt] at hm
    unfold mCompGo at hm
    split at hm
    case isFalse => cases hm
    rename_i hgk
    obtain ⟨env3, k1, k2⟩ := Option.bind_eq_some_iff.mp hm
    obtain ⟨⟨b, st3⟩, k3, k4⟩ := Option.bind_eq_some_iff.mp k2
    dsimp only at k4
    obtain ⟨go, yl⟩ := (wk.go κ2 (hid D η) H2 _ _ st2 R2 e2 (hidLe_hid hD) hgk i).2 _ hd
    refine .inr ⟨go, fun H3 => ∃ κ2 st2 xs acc rest, Rep K κ2 (hid D η) H3 (L2.wipe σ vs) (wipeE env vs) st2 ∧ Ext κ1 H1 κ2 H3 ∧ H3 D = some (.lst xs) ∧ RpAll K (alls κ2 ++ D :: η.all) H3 xs acc ∧ acc.length ≤ i + 1 ∧ mCompGo g bd tt te (ds.drop (i + 1)) (wipeE env vs) st2 = some (rest, stF) ∧ acc ++ rest = rs,
      fun H3 ⟨κ3, st3, xs3, acc3, rest3, z⟩ => ⟨ds.length - (i + 1), by omega, rfl, hlt, κ3, st3, xs3, acc3, rest3, z⟩, fun x H' y => ?_⟩
    obtain ⟨sm, rp⟩ := yl x H' y
    refine ⟨κ2, hid D η, wipeE env vs, st2, _, env3, R2.same sm, rp, k1, fun σ3 R3 hl3 ho3 => ⟨wipe_same hW hl3 ho3, ?_⟩⟩
    have es : Ext κ1 H1 κ2 H' := e2.trans (Ext.of_same sm)
    have hxs' : H' D = some (.lst xs) := sm _ _ hxs
    have racc' : RpAll K (alls κ2 ++ D :: η.all) H' xs acc := Ext.rps (η := hid D η) (Ext.of_same sm) racc
    refine ⟨κ2, hid D η, env3, st2, b, st3, R3, k3, fun κ4 H4 R4 e4 => ?_⟩
    have hxs4 := Ext.atHid R3 e4 hxs'
    have racc4 : RpAll K (alls κ4 ++ D :: η.all) H4 xs acc := Ext.rps (η := hid D η) e4 racc'
    cases b with
    | false =>
      simp only [Bool.false_eq_true, if_false] at k4 ⊢
      exact ⟨κ4, st3, xs, acc, rest, Rw.with (es.trans e4) (hidLe_hid hD) (hidLe1_hid hD) R4, es.trans e4, hxs4, racc4, by omega, k4, hrs⟩
    | true =>
      simp only [if_true] at k4 ⊢
      obtain ⟨⟨y, st5⟩, k5, k6⟩ := Option.bind_eq_some_iff.mp k4
      obtain ⟨⟨rest', st6⟩, k7, k8⟩ := Option.map_eq_some_iff.mp k6
      cases k8
      refine ⟨κ4, hid D η, env3, st3, y, st5, R4, k5, fun v κ5 H5 R5 e5 rv => ?_⟩
      have hxs5 := Ext.atHid R4 e5 hxs4
      have racc5 : RpAll K (alls κ5 ++ D :: η.all) H5 xs acc := Ext.rps (η := hid D η) e5 racc4
      have hlx : xs.length = acc.length := racc.length
      refine ⟨xs, hxs5, Nat.lt_of_lt_of_le (by omega) million, κ5, st5, xs ++ [v], acc ++ [y], rest', ?_, ((es.trans e4).trans e5).updN hD, upd_same, (rps_hid hxs5 racc5).append (.cons (rp_hid hxs5 rv) .nil), by rw [List.length_append]; simp; omega, k7, by rw [← hrs]; simp⟩
      exact (Rw.with ((es.trans e4).trans e5) (hidLe_hid hD) (hidLe1_hid hD) R5).writeH hxs5 _
  · have hi' : i = ds.length := by omega
    subst hi'
    rw [List.drop_length] at hm
    unfold mCompGo at hm
    split at hm
    case isFalse => cases hm
    rename_i hgk
    cases hm
    rw [List.append_nil] at hrs
    subst hrs
    refine .inl ⟨(wk.go κ2 (hid D η) H2 _ _ _ R2 e2 (hidLe_hid hD) hgk _).1 rfl, ?_⟩
    exact q D xs κ2 H2 (R1.with e2 (hidLe_hid hD) (hidLe1_hid hD) R2) (e1.trans e2) (e1.none hD R1.tracked) hxs racc
variable {scope : Scope} {own : List (Str × Nat)}
theorem sn_comp {mi : M (List D × List Gd)} {W : List Nat} {bd : Bd} {tt : M Bool} {te : M D} (hc : X.calm = true) (hN : X.N.Nodup) (hi : SI X tg e mi) (ok : BlkOk X.N X.env.scope scope own) (hW : ∀ j ∈ W, j ∈ own.map (·.2))
    (hg : ∀ (s : Shared) (H : Hp) (C : Addr) (cl : List (Str × Addr)) (fp : List Addr), SG (X.blk s H scope (compEnvC scope cl C X.env) fp) tg W bd)
    (ht : ∀ (s : Shared) (H : Hp) (C : Addr) (cl : List (Str × Addr)) (fp : List Addr), SPs (X.blk s H scope (compEnvC scope cl C X.env) fp) ifs tt)
    (he : ∀ (s : Shared) (H : Hp) (C : Addr) (cl : List (Str × Addr)) (fp : List Addr), SE (X.blk s H scope (compEnvC scope cl C X.env) fp) elt te) (hs : ∀ x, foldedSetIterable e X.env x = pure x := by intro _; rfl) :
    SN X (.ListComp elt [⟨tg, e, ifs, 0⟩] scope pos) (mComp mi (own.map (·.2)) bd tt te) :=
  PE.imp (pe_lc hc hN hi ok hg ht he hs) fun σ H Q h => comp_t hW h
/-- name = [..] on one line -/
theorem ss_ownLc {i : Nat} {y : Str} {py : Pos} {mi : M (List D × List Gd)} {W : List Nat} {bd : Bd} {tt : M Bool} {te : M D} (hc : X.calm = true) (hN : X.N.Nodup) (hy : X.N[i]? = some y) (hyl : X.env.scope.names.lookup y = some .local)
    (hsw : swapsWith (.ListComp elt [⟨tg, e, ifs, 0⟩] scope pos) (some (.Name y py)) spos.line X.env = pure true) (hi : SI X tg e mi) (ok : BlkOk X.N X.env.scope scope own) (hW : ∀ j ∈ W, j ∈ own.map (·.2))
    (hg : ∀ (s : Shared) (H : Hp) (C : Addr) (cl : List (Str × Addr)) (fp : List Addr), SG (X.blk s H scope (compEnvC scope cl C X.env) fp) tg W bd)
    (ht : ∀ (s : Shared) (H : Hp) (C : Addr) (cl : List (Str × Addr)) (fp : List Addr), SPs (X.blk s H scope (compEnvC scope cl C X.env) fp) ifs tt)
    (he : ∀ (s : Shared) (H : Hp) (C : Addr) (cl : List (Str × Addr)) (fp : List Addr), SE (X.blk s H scope (compEnvC scope cl C X.env) fp) elt te) (hs : ∀ x, foldedSetIterable e X.env x = pure x := by intro _; rfl) :
    SS X (.Assign [.Name y py] (.ListComp elt [⟨tg, e, ifs, 0⟩] scope pos) spos) (mOwn i (mComp mi (own.map (·.2)) bd tt te)) :=
  PS.imp (ps_setLc hc hN hy hyl hsw hi ok hg ht he hs) fun Dn σ H h => comp_t hW (own_t h)
theorem ss_setLc {i : Nat} {y : Str} {py : Pos} {mi : M (List D × List Gd)} {W : List Nat} {bd : Bd} {tt : M Bool} {te : M D} (hc : X.calm = true) (hN : X.N.Nodup) (hy : X.N[i]? = some y) (hyl : X.env.scope.names.lookup y = some .local)
    (hsw : swapsWith (.ListComp elt [⟨tg, e, ifs, 0⟩] scope pos) (some (.Name y py)) spos.line X.env = pure true) (hi : SI X tg e mi) (ok : BlkOk X.N X.env.scope scope own) (hW : ∀ j ∈ W, j ∈ own.map (·.2))
    (hg : ∀ (s : Shared) (H : Hp) (C : Addr) (cl : List (Str × Addr)) (fp : List Addr), SG (X.blk s H scope (compEnvC scope cl C X.env) fp) tg W bd)
    (ht : ∀ (s : Shared) (H : Hp) (C : Addr) (cl : List (Str × Addr)) (fp : List Addr), SPs (X.blk s H scope (compEnvC scope cl C X.env) fp) ifs tt)
    (he : ∀ (s : Shared) (H : Hp) (C : Addr) (cl : List (Str × Addr)) (fp : List Addr), SE (X.blk s H scope (compEnvC scope cl C X.env) fp) elt te) (hs : ∀ x, foldedSetIterable e X.env x = pure x := by intro _; rfl) :
    SS X (.Assign [.Name y py] (.ListComp elt [⟨tg, e, ifs, 0⟩] scope pos) spos) (mSet i (mL (mComp mi (own.map (·.2)) bd tt te))) :=
  PS.imp (ps_setLc hc hN hy hyl hsw hi ok hg ht he hs) fun Dn σ H h => by
    exact comp_t hW (mL_t (set_t h))
/-! while -/
/-- with fuel -/
def mWhile (c : M Bool) (b : S) : Nat → S
  | 0, _, _ => Option.none
  | n + 1, env, st => (c env st).bind fun p => if p.1 = true then (b env p.2).bind fun q => match q.1 with
      | .nx => mWhile c b n q.2.1 q.2.2
      | .cnt => mWhile c b n q.2.1 q.2.2
      | .brk => some (.nx, q.2.1, q.2.2)
      | f => some (f, q.2.1, q.2.2)
    else some (.nx, env, p.2)
theorem ss_while (n : Nat) {body : List Stmt} {mc : M Bool} {mb : S} (hp : PassesOwn (model X.prog X.w) X.A X.env X.xe) (hc : ST X c mc) (hb : SSs X body mb) : SS X (.While c body [] pos) (mWhile mc mb n) := PS.imp (ps_while hp hc hb) fun Dn σ H ⟨κ, η, env, st, f, env', st', R, em, q⟩ => by
  refine ⟨fun m σ2 H2 => ∃ κ2 env2 st2, Rep X.K κ2 η H2 σ2 env2 st2 ∧ Ext κ H κ2 H2 ∧ mWhile mc mb m env2 st2 = some (f, env', st'), ⟨n, κ, env, st, R, Ext.refl, em⟩, ?_⟩
  rintro m σ2 H2 ⟨κ2, env2, st2, R2, e2, hm⟩
  cases m with
  | zero => cases hm
  | succ m =>
    unfold mWhile at hm
    obtain ⟨⟨b, st3⟩, k1, k2⟩ := Option.bind_eq_some_iff.mp hm
    dsimp only at k2
    refine ⟨κ2, η, env2, st2, b, st3, R2, k1, fun κ3 H3 R3 e3 => ?_⟩
    cases b with
    | false =>
      simp only [Bool.false_eq_true, if_false] at k2 ⊢
      cases k2
      exact q κ3 σ2 H3 R3 (e2.trans e3)
    | true =>
      simp only [if_true] at k2 ⊢
      obtain ⟨⟨f3, env4, st4⟩, k3, k4⟩ := Option.bind_eq_some_iff.mp k2
      dsimp only at k4
      refine ⟨fun σ3 H3 => ∃ κ3 env3 st3, Rep X.K κ3 η H3 σ3 env3 st3 ∧ Ext κ H κ3 H3 ∧ mWhile mc mb m env3 st3 = some (f, env', st'), fun σ3 H3 z => ⟨m, Nat.lt_succ_self m, z⟩, ?_⟩
      refine ⟨κ3, η, env2, st3, f3, env4, st4, R3, k3, fun κ4 σ4 H4 R4 e4 => ?_⟩
      have e14 : Ext κ H κ4 H4 := (e2.trans e3).trans e4
      cases f3 with
      | nx => exact ⟨κ4, env4, st4, R4, e14, k4⟩
      | cnt => exact ⟨κ4, env4, st4, R4, e14, k4⟩
      | brk => cases k4; exact q κ4 σ4 H4 R4 e14
      | ret d k => cases k4; exact q κ4 σ4 H4 R4 e14
      | retN dd k =>
        cases k4
        exact FE.back R3 (e2.trans e3) (q κ4 σ4 H4 R4 e14)
end
end ML
set_option maxRecDepth 100000
/-! ML12: calls of defs of the text: what is handed in, what comes back. -/
namespace ML
open PySem PySem.Spec PyProof.Rows L2
def putB {α : Type} : List α → List Nat → List α → List α
  | l, n :: ns, x :: xs => putB (l.set n x) ns xs
  | l, _, _ => l
theorem putB_length {α : Type} : ∀ (l : List α) (ns : List Nat) (xs : List α), (putB l ns xs).length = l.length
  | l, n :: ns, x :: xs => (putB_length (l.set n x) ns xs).trans (List.length_set ..)
  | l, [], _ => by unfold putB; rfl
  | l, _ :: _, [] => by unfold putB; rfl
theorem putB_out {α : Type} : ∀ {l : List α} {ns : List Nat} {xs : List α} {i : Nat}, i ∉ ns → (putB l ns xs)[i]? = l[i]?
  | l, n :: ns, x :: xs, i, h => by
    show (putB (l.set n x) ns xs)[i]? = _
    rw [putB_out (fun z => h (List.mem_cons_of_mem _ z)), List.getElem?_set_ne (fun z => h (by rw [z]; simp))]
  | l, [], _, _, _ => by unfold putB; rfl
  | l, _ :: _, [], _, _ => by unfold putB; rfl
theorem putB_in {α : Type} : ∀ {l : List α} {ns : List Nat} {xs : List α} {j n : Nat} {x : α}, ns.Nodup → ns[j]? = some n → xs[j]? = some x → n < l.length → (putB l ns xs)[n]? = some x
  | l, m :: ns, y :: xs, 0, n, x, nd, h1, h2, hl => by
    have e1 : m = n := by simpa using h1
    have e2 : y = x := by simpa using h2
    subst e1 e2
    show (putB (l.set m y) ns xs)[m]? = _
    rw [putB_out (List.nodup_cons.mp nd).1, List.getElem?_set_self hl]
  | l, m :: ns, y :: xs, j + 1, n, x, nd, h1, h2, hl => by
    show (putB (l.set m y) ns xs)[n]? = _
    exact putB_in (j := j) (List.nodup_cons.mp nd).2 (by simpa using h1) (by simpa using h2) (by rw [List.length_set]; exact hl)
  | l, [], _, _, _, _, _, h, _, _ => by simp at h
  | l, _ :: _, [], _, _, _, _, _, h, _ => by simp at h
theorem alls_nodup : ∀ {κ : List Fp}, (∀ (i : Nat) p, κ[i]? = some p → p.all.Nodup) → (∀ (i j : Nat) p q, κ[i]? = some p → κ[j]? = some q → i ≠ j → ∀ b ∈ p.all, b ∉ q.all) → (alls κ).Nodup
  | [], _, _ => List.nodup_nil
  | p :: κ, h1, h2 => by
    show (p.all ++ alls κ).Nodup
    refine List.nodup_append.mpr ⟨h1 0 p rfl, alls_nodup (fun i q h => h1 (i + 1) q h) (fun i j a b x y n => h2 (i + 1) (j + 1) a b x y (by omega)), fun x hx y hy => ?_⟩
    rintro rfl
    obtain ⟨q, hq, h⟩ := mem_alls.mp hy
    obtain ⟨j, hj⟩ := List.mem_iff_getElem?.mp hq
    exact h2 0 (j + 1) p q rfl hj (by omega) x hx (List.mem_cons.mpr h)
theorem all_nodup : ∀ {κ : List Fp}, (alls κ).Nodup → ∀ {n : Nat} {p : Fp}, κ[n]? = some p → p.all.Nodup
  | q :: κ, nd, 0, p, h => by
    have nd' : (q.all ++ alls κ).Nodup := nd
    have e : q = p := by simpa using h
    rw [← e]
    exact (List.nodup_append.mp nd').1
  | q :: κ, nd, n + 1, p, h => by
    have nd' : (q.all ++ alls κ).Nodup := nd
    exact all_nodup (List.nodup_append.mp nd').2.1 (by simpa using h)
  | [], _, _, _, h => by simp at h
theorem mem_alls_at {κ : List Fp} {b : Addr} : b ∈ alls κ ↔ ∃ (i : Nat) (p : Fp), κ[i]? = some p ∧ b ∈ p.all := by
  rw [mem_alls]
  constructor
  · rintro ⟨p, hp, h⟩
    obtain ⟨i, hi⟩ := List.mem_iff_getElem?.mp hp
    exact ⟨i, p, hi, List.mem_cons.mpr h⟩
  · rintro ⟨i, p, hi, h⟩
    exact ⟨p, List.mem_of_getElem? hi, List.mem_cons.mp h⟩
/-- the others' addresses -/
def rest (κ κc : List Fp) : List Addr := (alls κ).filter fun b => decide (b ∉ alls κc)
theorem mem_rest {κ κc : List Fp} {b : Addr} : b ∈ rest κ κc ↔ b ∈ alls κ ∧ b ∉ alls κc := by simp [rest]
/-- hidden for the def that is called -/
def hidC (η : Hid) (F : List Addr) : Hid := (η.1, F ++ η.2)
theorem mem_hidC {η : Hid} {F : List Addr} {b : Addr} : b ∈ (hidC η F).all ↔ b ∈ η.all ∨ b ∈ F := by
  simp [hidC, Hid.all]
  constructor
  · rintro (h | h | h)
    · exact .inl (.inl h)
    · exact .inr h
    · exact .inl (.inr h)
  · rintro ((h | h) | h)
    · exact .inl h
    · exact .inr (.inr h)
    · exact .inr (.inl h)
section
variable {K : PySem.W.Frag} {κ κc κc' : List Fp} {η ηr : Hid} {H H' : Hp} {σ : L2.St} {env : Env} {st stc stc' : Sto} {ns : List Nat}
theorem sub_in (hk : Paired (fun n p => κ[n]? = some p) ns κc) : ∀ b ∈ alls κc, b ∈ alls κ := fun b hb => by
  obtain ⟨j, p, hj, h⟩ := mem_alls_at.mp hb
  obtain ⟨n, hn, hp⟩ := paired_getL hk hj
  exact mem_alls_at.mpr ⟨n, p, hp, h⟩
theorem mem_both (hk : Paired (fun n p => κ[n]? = some p) ns κc) {b : Addr} : b ∈ alls κc ++ (hidC η (rest κ κc)).all ↔ b ∈ alls κ ++ η.all := by
  constructor
  · intro h
    rcases List.mem_append.mp h with h | h
    · exact List.mem_append_left _ (sub_in hk b h)
    · rcases mem_hidC.mp h with h | h
      · exact List.mem_append_right _ h
      · exact List.mem_append_left _ (mem_rest.mp h).1
  · intro h
    rcases List.mem_append.mp h with h | h
    · by_cases hc : b ∈ alls κc
      · exact List.mem_append_left _ hc
      · exact List.mem_append_right _ (mem_hidC.mpr (.inr (mem_rest.mpr ⟨h, hc⟩)))
    · exact List.mem_append_right _ (mem_hidC.mpr (.inl h))
theorem rp_mem {B B' : List Addr} (h : ∀ b, b ∈ B' → b ∈ B) {v : V} {d : D} (r : Rp K B H v d) : Rp K B' H v d := r.mono (Fr.refl (B := [])) fun b xs _ n => ⟨by simp, fun z => n (h b z)⟩
theorem rps_mem {B B' : List Addr} (h : ∀ b, b ∈ B' → b ∈ B) {v : List V} {d : List D} (r : RpAll K B H v d) : RpAll K B' H v d := r.mono (Fr.refl (B := [])) fun b xs _ n => ⟨by simp, fun z => n (h b z)⟩
theorem ro_mem {B B' : List Addr} (h : ∀ b, b ∈ B' → b ∈ B) {p : Fp} {o : O} (r : RO K B H p o) : RO K B' H p o := ro_mono (fun b xs _ n => ⟨by simp, fun z => n (h b z)⟩) r
/-- what a def is given -/
theorem Rep.callIn (R : Rep K κ η H σ env st) (nd : ns.Nodup) (hk : Paired (fun n p => κ[n]? = some p) ns κc) (hs : Paired (fun n o => st[n]? = some o) ns stc) {vs : List V} {es : List E}
    (he : Paired (RE K κc (hidC η (rest κ κc)) H) vs es) : Rep K κc (hidC η (rest κ κc)) H (vs.map some) (es.map some) stc := by
  refine ⟨?_, fun a ha => ?_, ?_, fun a ha => ?_, by rw [List.length_map, List.length_map]; exact (Paired.length he).symm, fun i e h => ?_, ?_⟩
  · refine alls_nodup (fun i p h => ?_) fun i j p q h1 h2 hn => ?_
    · obtain ⟨n, _, hp⟩ := paired_getL hk h
      exact all_nodup R.nd hp
    · obtain ⟨n, k1, hp⟩ := paired_getL hk h1
      obtain ⟨m, k2, hq⟩ := paired_getL hk h2
      exact alls_apart R.nd hp hq fun e => hn (by
        subst e
        exact nd_ix nd k1 k2)
  · rw [mem_hidC, mem_rest]
    rintro (h | h)
    · exact R.dj a (sub_in hk a ha) h
    · exact h.2 ha
  · have en : (η.1 ++ η.2).Nodup := R.en
    obtain ⟨n1, n2, n3⟩ := List.nodup_append.mp en
    show (η.1 ++ (rest κ κc ++ η.2)).Nodup
    have nf : (rest κ κc).Nodup := R.nd.sublist List.filter_sublist
    refine List.nodup_append.mpr ⟨n1, List.nodup_append.mpr ⟨nf, n2, fun x hx y hy => ?_⟩, fun x hx y hy => ?_⟩
    · rintro rfl
      exact R.dj x (mem_rest.mp hx).1 (List.mem_append_right _ hy)
    · rintro rfl
      rcases List.mem_append.mp hy with z | z
      · exact R.dj x (mem_rest.mp z).1 (List.mem_append_left _ hx)
      · exact n3 x hx x z rfl
  · rcases mem_hidC.mp ha with h | h
    · exact R.hn a h
    · exact R.tracked a (mem_rest.mp h).1
  · rw [List.getElem?_map] at h
    cases q : es[i]? with
    | none => rw [q] at h; cases h
    | some e' =>
      rw [q] at h
      cases h
      obtain ⟨v, h1, h2⟩ := paired_getL he q
      exact ⟨v, by rw [List.getElem?_map, h1]; rfl, h2⟩
  · refine paired_of ((Paired.length hk).symm.trans (Paired.length hs)) fun i p o h1 h2 => ?_
    obtain ⟨n, k1, hp⟩ := paired_getL hk h1
    obtain ⟨m, k2, ho⟩ := paired_getL hs h2
    rw [k1] at k2
    cases k2
    exact ro_mem (fun b hb => (mem_both hk).mp hb) (paired_both R.sto hp ho)
theorem ro_keep {B B' C : List Addr} {p : Fp} {o : O} (f : Fr C H H') (hp : ∀ b ∈ p.all, b ∉ C) (hB : ∀ a xs, H a = some (HO.lst xs) → a ∉ B → a ∉ C ∧ a ∉ B') (r : RO K B H p o) : RO K B' H' p o := by
  cases r with
  | lst e r => exact .lst (f.same _ _ e (hp _ (by simp [Fp.all]))) (r.mono f hB)
  | dic e r => exact .dic (f.same _ _ e (hp _ (by simp [Fp.all]))) (Paired.mapP r fun p q z => ⟨z.1, z.2.mono f hB⟩)
  | mat e r =>
    refine .mat (f.same _ _ e (hp _ (by simp [Fp.all]))) (paired_of (Paired.length r) fun i c ds h1 h2 => ?_)
    obtain ⟨xs, k1, k2⟩ := paired_both r h1 h2
    exact ⟨xs, f.same _ _ k1 (hp c (by simp only [Fp.all]; exact List.mem_cons_of_mem _ (List.mem_of_getElem? h1))), k2.mono f hB⟩
/-- what comes back -/
theorem Rep.callOut (R : Rep K κ η H σ env st) (nd : ns.Nodup) (hk : Paired (fun n p => κ[n]? = some p) ns κc) (Rc : Rep K κc' (hidC ηr (rest κ κc)) H' [] [] stc') (e : Ext κc H κc' H') (hl : κc'.length = κc.length)
    (hr : HidLe η H ηr) (hr1 : HidLe1 η H ηr) :
    Rep K (putB κ ns κc') ηr H' σ env (putB st ns stc') ∧ Ext κ H (putB κ ns κc') H' ∧ (∀ b, b ∈ alls (putB κ ns κc') ++ ηr.all → b ∈ alls κc' ++ (hidC ηr (rest κ κc)).all) := by
  have hlen : ns.length = κc'.length := by rw [hl]; exact Paired.length hk
  -- each object of the new store: one of theirs, or an old one
  have look : ∀ (i : Nat) p, (putB κ ns κc')[i]? = some p → (∃ j, ns[j]? = some i ∧ κc'[j]? = some p) ∨ (i ∉ ns ∧ κ[i]? = some p) := fun i p h => by
    by_cases hi : i ∈ ns
    · obtain ⟨j, hj⟩ := List.mem_iff_getElem?.mp hi
      have hj' : j < κc'.length := by
        rw [← hlen]
        exact (List.getElem?_eq_some_iff.mp hj).1
      obtain ⟨q, hq, _⟩ := paired_getR hk hj
      have hil : i < κ.length := by
        rename_i hq
        exact (List.getElem?_eq_some_iff.mp hq).1
      have := putB_in (l := κ) nd hj (List.getElem?_eq_getElem hj') hil
      rw [h] at this
      cases this
      exact .inl ⟨j, hj, List.getElem?_eq_getElem hj'⟩
    · rw [putB_out hi] at h
      exact .inr ⟨hi, h⟩
  have outF : ∀ (i : Nat) p, i ∉ ns → κ[i]? = some p → ∀ b ∈ p.all, b ∈ rest κ κc := fun i p hi hp b hb => mem_rest.mpr ⟨mem_alls_at.mpr ⟨i, p, hp, hb⟩, fun z => by
    obtain ⟨j, q, hj, hq⟩ := mem_alls_at.mp z
    obtain ⟨n, k1, k2⟩ := paired_getL hk hj
    exact alls_apart R.nd hp k2 (fun z => hi (by rw [z]; exact List.mem_of_getElem? k1)) b hb hq⟩
  have mem : ∀ b, b ∈ alls (putB κ ns κc') → b ∈ alls κc' ∨ b ∈ rest κ κc := fun b hb => by
    obtain ⟨i, p, h1, h2⟩ := mem_alls_at.mp hb
    rcases look i p h1 with ⟨j, _, hj⟩ | ⟨hi, hp⟩
    · exact .inl (mem_alls_at.mpr ⟨j, p, hj, h2⟩)
    · exact .inr (outF i p hi hp b h2)
  have memB : ∀ b, b ∈ alls (putB κ ns κc') ++ ηr.all → b ∈ alls κc' ++ (hidC ηr (rest κ κc)).all := fun b hb => by
    rcases List.mem_append.mp hb with h | h
    · rcases mem b h with h | h
      · exact List.mem_append_left _ h
      · exact List.mem_append_right _ (mem_hidC.mpr (.inr h))
    · exact List.mem_append_right _ (mem_hidC.mpr (.inl h))
  have fr : Fr (alls κ) H H' := ⟨fun b o h n => e.fr.same b o h fun z => n (sub_in hk b z), e.fr.tup, e.fr.frz⟩
  have X : Ext κ H (putB κ ns κc') H' := by
    refine ⟨⟨_, [], (List.append_nil _).symm, paired_of (putB_length ..).symm fun i p q h1 h2 => ?_⟩, fun b hb n => ?_, fr⟩
    · rcases look i q h2 with ⟨j, hj, hq⟩ | ⟨hi, hq⟩
      · obtain ⟨p', k1, k2⟩ := paired_getR hk hj
        have k2 : κ[i]? = some p' := k2
        rw [h1] at k2
        cases k2
        obtain ⟨q', k3, k4⟩ := e.at k1
        rw [hq] at k3
        cases k3
        exact k4
      · rw [h1] at hq
        cases hq
        exact FpLe.refl _
    · rcases mem b hb with h | h
      · exact e.new b h fun z => n (sub_in hk b z)
      · exact absurd (mem_rest.mp h).1 n
  refine ⟨⟨?_, fun b hb => ?_, ?_, fun b hb => ?_, R.len, fun i x h => ?_, ?_⟩, X, memB⟩
  · refine alls_nodup (fun i p h => ?_) fun i j p q h1 h2 hn b hb hq => ?_
    · rcases look i p h with ⟨j, _, hj⟩ | ⟨_, hp⟩
      · exact all_nodup Rc.nd hj
      · exact all_nodup R.nd hp
    · rcases look i p h1 with ⟨k, kn, hk1⟩ | ⟨ki, hk1⟩
      · rcases look j q h2 with ⟨m, mn, hm⟩ | ⟨mi, hm⟩
        · exact alls_apart Rc.nd hk1 hm (fun z => hn (by subst z; rw [kn] at mn; exact Option.some.inj mn)) b hb hq
        · exact Rc.dj b (mem_alls_at.mpr ⟨k, p, hk1, hb⟩) (mem_hidC.mpr (.inr (outF j q mi hm b hq)))
      · rcases look j q h2 with ⟨m, mn, hm⟩ | ⟨mi, hm⟩
        · exact Rc.dj b (mem_alls_at.mpr ⟨m, q, hm, hq⟩) (mem_hidC.mpr (.inr (outF i p ki hk1 b hb)))
        · exact alls_apart R.nd hk1 hm hn b hb hq
  · rcases mem b hb with h | h
    · exact fun z => Rc.dj b h (mem_hidC.mpr (.inl z))
    · intro z
      have en : (ηr.1 ++ (rest κ κc ++ ηr.2)).Nodup := Rc.en
      obtain ⟨_, n2, n3⟩ := List.nodup_append.mp en
      rcases List.mem_append.mp z with z | z
      · exact n3 b z b (List.mem_append_left _ h) rfl
      · exact (List.nodup_append.mp n2).2.2 b h b z rfl
  · have en : (ηr.1 ++ (rest κ κc ++ ηr.2)).Nodup := Rc.en
    obtain ⟨n1, n2, n3⟩ := List.nodup_append.mp en
    exact List.nodup_append.mpr ⟨n1, (List.nodup_append.mp n2).2.1, fun x hx y hy => n3 x hx y (List.mem_append_right _ hy)⟩
  · exact Rc.hn b (mem_hidC.mpr (.inl hb))
  · obtain ⟨v, h1, h2⟩ := R.env i x h
    exact ⟨v, h1, X.re2 hr hr1 h2⟩
  · refine paired_of (by rw [putB_length, putB_length]; exact R.lenS) fun i p o h1 h2 => ?_
    rcases look i p h1 with ⟨j, hj, hp⟩ | ⟨hi, hp⟩
    · obtain ⟨o', ho, ro⟩ := paired_getR Rc.sto hp
      have hil : i < st.length := by
        obtain ⟨p', _, k2⟩ := paired_getR hk hj
        rw [← R.lenS]
        exact (List.getElem?_eq_some_iff.mp k2).1
      have := putB_in (l := st) nd hj ho hil
      rw [h2] at this
      cases this
      exact ro_mem memB ro
    · rw [putB_out hi] at h2
      refine ro_keep (C := alls κc) e.fr (fun b hb z => ?_) (fun a xs ha hn => ⟨fun z => hn (List.mem_append_left _ (sub_in hk a z)), (X.apart2 hr a xs ha hn).2⟩) (paired_both R.sto hp h2)
      exact (mem_rest.mp (outF i p hi hp b hb)).2 z
end
end ML
set_option maxRecDepth 100000
/-! ML13: defs of the text. -/
namespace ML
open PySem PySem.Spec PyProof.Rows L2
/-- a def's mirror: handed in, its store; back: the value, its store -/
abbrev FV := List E → Sto → Option (D × Sto)
abbrev FN := List E → Sto → Option (List D × Sto)
def spV (K : PySem.W.Frag) (n : Nat) (f : FV) : Sp := fun vs H Q _ => ∃ κ η es st d st', es.length = n ∧ Rep K κ η H (vs.map some) (es.map some) st ∧ f es st = some (d, st') ∧
  ∀ v κ' H', Rep K κ' η H' [] [] st' → Ext κ H κ' H' → κ'.length = κ.length → Rp K (alls κ' ++ η.all) H' v d → Q v H'
def spN (K : PySem.W.Frag) (n : Nat) (f : FN) : Sp := fun vs H Q _ => ∃ κ η es st ds st', es.length = n ∧ Rep K κ η H (vs.map some) (es.map some) st ∧ f es st = some (ds, st') ∧
  ∀ a xs κ' H', Rep K κ' (hid a η) H' [] [] st' → Ext κ H κ' H' → κ'.length = κ.length → H a = none → H' a = some (.lst xs) → RpAll K (alls κ' ++ a :: η.all) H' xs ds → Q (.ref a) H'
/-- one argument: io: handed in to be written -/
def argE (env : Env) (st : Sto) (io : Bool) (ns bs : List Nat) : Opd → Option (E × List Nat × List Nat)
  | .v d => some (.val d, ns, bs)
  | .s i => match env[i]? with
    | some (some (.val d)) => some (.val d, ns, bs)
    | some (some (.bor d)) => some (.bor d, ns, bs)
    | some (some (.loc n)) => if io = true then some (.loc ns.length, ns ++ [n], bs) else match st[n]? with
      | some (.lst ds) => some (.bor (.list ds), ns, n :: bs)
      | _ => none
    | _ => none
  | .r i k => match env[i]? with
    | some (some (.loc n)) => match st[n]? with
      | some (.mat dss) => (dss[k]?).map fun ds => (.bor (.list ds), ns, n :: bs)
      | _ => none
    | _ => none
def argEs (env : Env) (st : Sto) : List Bool → List Opd → List Nat → List Nat → Option (List E × List Nat × List Nat)
  | [], [], ns, bs => some ([], ns, bs)
  | io :: ios, o :: os, ns, bs => (argE env st io ns bs o).bind fun p => (argEs env st ios os p.2.1 p.2.2).map fun q => (p.1 :: q.1, q.2.1, q.2.2)
  | _, _, _, _ => none
def pick (st : Sto) : List Nat → Option Sto
  | [] => some []
  | n :: ns => (st[n]?).bind fun o => (pick st ns).map fun r => o :: r
theorem pick_some {st : Sto} : ∀ {ns : List Nat} {r : Sto}, pick st ns = some r → Paired (fun n o => st[n]? = some o) ns r
  | [], r, h => by cases h; exact .nil
  | n :: ns, r, h => by
    unfold pick at h
    obtain ⟨o, h1, h2⟩ := Option.bind_eq_some_iff.mp h
    obtain ⟨r', h3, h4⟩ := Option.map_eq_some_iff.mp h2
    subst h4
    exact .cons h1 (pick_some h3)
theorem argE_grow {env : Env} {st : Sto} {io : Bool} {ns bs ns' bs' : List Nat} {o : Opd} {e : E} (h : argE env st io ns bs o = some (e, ns', bs')) : (∃ t, ns' = ns ++ t) ∧ (∀ b ∈ bs, b ∈ bs') := by
  unfold argE at h
  cases o with
  | v d => cases h; exact ⟨⟨[], by simp⟩, fun b hb => hb⟩
  | s i =>
    dsimp only at h
    split at h
    · cases h; exact ⟨⟨[], by simp⟩, fun b hb => hb⟩
    · cases h; exact ⟨⟨[], by simp⟩, fun b hb => hb⟩
    · split at h
      · cases h; exact ⟨⟨_, rfl⟩, fun b hb => hb⟩
      · split at h
        · cases h; exact ⟨⟨[], by simp⟩, fun b hb => List.mem_cons_of_mem _ hb⟩
        · cases h
    · cases h
  | r i k =>
    dsimp only at h
    split at h
    · split at h
      · obtain ⟨ds, _, h2⟩ := Option.map_eq_some_iff.mp h
        cases h2; exact ⟨⟨[], by simp⟩, fun b hb => List.mem_cons_of_mem _ hb⟩
      · cases h
    · cases h
theorem argEs_grow {env : Env} {st : Sto} : ∀ {ios : List Bool} {os : List Opd} {ns bs ns' bs' : List Nat} {es : List E}, argEs env st ios os ns bs = some (es, ns', bs') → (∃ t, ns' = ns ++ t) ∧ (∀ b ∈ bs, b ∈ bs')
  | [], [], _, _, _, _, _, h => by cases h; exact ⟨⟨[], by simp⟩, fun b hb => hb⟩
  | io :: ios, o :: os, ns, bs, ns', bs', es, h => by
    unfold argEs at h
    obtain ⟨⟨e, n1, b1⟩, h1, h2⟩ := Option.bind_eq_some_iff.mp h
    obtain ⟨⟨es2, n2, b2⟩, h3, h4⟩ := Option.map_eq_some_iff.mp h2
    cases h4
    obtain ⟨⟨t, rfl⟩, k1⟩ := argE_grow h1
    obtain ⟨⟨t2, k2⟩, k3⟩ := argEs_grow h3
    dsimp only at k2 k3
    exact ⟨⟨t ++ t2, by rw [k2, List.append_assoc]⟩, fun b hb => k3 b (k1 b hb)⟩
  | [], _ :: _, _, _, _, _, _, h => by cases h
  | _ :: _, [], _, _, _, _, _, h => by cases h
section
variable {K : PySem.W.Frag} {κ κc : List Fp} {η : Hid} {H : Hp} {σ : L2.St} {env : Env} {st stc : Sto} {ns' bs' : List Nat}
theorem argE_rel (R : Rep K κ η H σ env st) (nd : ns'.Nodup) (hk : Paired (fun n p => κ[n]? = some p) ns' κc) (hb : ∀ b ∈ bs', b ∉ ns') {io : Bool} {ns bs n1 b1 : List Nat} {o : Opd} {e : E} {v : V} (hv : OV K κ η H σ env v o)
    (h : argE env st io ns bs o = some (e, n1, b1)) (hn : ∃ t, ns' = n1 ++ t) (hbs : ∀ b ∈ b1, b ∈ bs') : RE K κc (hidC η (rest κ κc)) H v e := by
  have mm : ∀ b, b ∈ alls κc ++ (hidC η (rest κ κc)).all → b ∈ alls κ ++ η.all := fun b hb => (mem_both hk).mp hb
  have out : ∀ (n : Nat) (p : Fp), κ[n]? = some p → n ∉ ns' → ∀ a ∈ p.all, a ∉ alls κc ++ (hidC η (rest κ κc)).1 := fun n p hp hn a ha z => by
    rcases List.mem_append.mp z with z | z
    · obtain ⟨j, q, hj, hq⟩ := mem_alls_at.mp z
      obtain ⟨m, k1, k2⟩ := paired_getL hk hj
      exact alls_apart R.nd hp k2 (fun z => hn (by rw [z]; exact List.mem_of_getElem? k1)) a ha hq
    · exact R.dj a (mem_alls_at.mpr ⟨n, p, hp, ha⟩) (List.mem_append_left _ z)
  unfold argE at h
  cases o with
  | v d =>
    cases h
    exact .val (rp_mem mm hv)
  | s i =>
    have hv : σ[i]? = some (some v) := hv
    dsimp only at h
    split at h
    · rename_i d hd
      cases h
      obtain ⟨w, h1, h2⟩ := R.env i _ hd
      rw [hv] at h1
      cases h1
      cases h2 with
      | val r => exact .val (rp_mem mm r)
    · rename_i d hd
      cases h
      obtain ⟨w, h1, h2⟩ := R.env i _ hd
      rw [hv] at h1
      cases h1
      cases h2 with
      | mdl k q => exact .mdl k (rps_mem mm q)
      | bor a b c =>
        refine .bor a (fun z => b ?_) (rps_mem mm c)
        rcases List.mem_append.mp z with z | z
        · exact List.mem_append_left _ (sub_in hk _ z)
        · exact List.mem_append_right _ z
    · rename_i n hd
      obtain ⟨w, h1, h2⟩ := R.env i _ hd
      rw [hv] at h1
      cases h1
      split at h
      · cases h
        cases h2 with
        | loc hp =>
          obtain ⟨t, ht⟩ := hn
          have : ns'[ns.length]? = some n := by rw [ht]; simp
          obtain ⟨q, k1, k2⟩ := paired_getR hk this
          have k2 : κ[n]? = some q := k2
          rw [hp] at k2
          cases k2
          exact .loc k1
      · split at h
        · rename_i ds hds
          cases h
          cases h2 with
          | loc hp =>
            have ro := paired_both R.sto hp hds
            cases ro with
            | lst e r => exact .bor (.inl e) (out n _ hp (hb n (hbs n (by simp))) _ (by simp [Fp.all])) (rps_mem mm r)
        · cases h
    · cases h
  | r i k =>
    obtain ⟨n, p, b, h1, h2, h3, rfl⟩ := (show ∃ n p b, env[i]? = some (some (.loc n)) ∧ κ[n]? = some p ∧ p.2[k]? = some b ∧ v = .ref b from hv)
    dsimp only at h
    rw [h1] at h
    dsimp only at h
    split at h
    · rename_i dss hds
      obtain ⟨ds, k1, k2⟩ := Option.map_eq_some_iff.mp h
      cases k2
      have ro := paired_both R.sto h2 hds
      cases ro with
      | mat e r =>
        obtain ⟨xs, z1, z2⟩ := paired_both r h3 k1
        exact .bor (.inl z1) (out n _ h2 (hb n (hbs n (by simp))) _ (by simp only [Fp.all]; exact List.mem_cons_of_mem _ (List.mem_of_getElem? h3))) (rps_mem mm z2)
    · cases h
theorem argEs_rel (R : Rep K κ η H σ env st) (nd : ns'.Nodup) (hk : Paired (fun n p => κ[n]? = some p) ns' κc) (hb : ∀ b ∈ bs', b ∉ ns') : ∀ {ios : List Bool} {os : List Opd} {ns bs : List Nat} {es : List E} {vs : List V}, Paired (OV K κ η H σ env) vs os →
    argEs env st ios os ns bs = some (es, ns', bs') → Paired (RE K κc (hidC η (rest κ κc)) H) vs es
  | [], [], _, _, _, _, .nil, h => by cases h; exact .nil
  | io :: ios, o :: os, ns, bs, es, _, .cons r t, h => by
    unfold argEs at h
    obtain ⟨⟨e, n1, b1⟩, h1, h2⟩ := Option.bind_eq_some_iff.mp h
    obtain ⟨q, h3, h4⟩ := Option.map_eq_some_iff.mp h2
    have e1 : e :: q.1 = es := congrArg (·.1) h4
    have e2 : q.2.1 = ns' := congrArg (·.2.1) h4
    have e3 : q.2.2 = bs' := congrArg (·.2.2) h4
    have h3' : argEs env st ios os n1 b1 = some (q.1, ns', bs') := by rw [h3, ← e2, ← e3]
    obtain ⟨k1, k2⟩ := argEs_grow h3'
    rw [← e1]
    exact .cons (argE_rel R nd hk hb r h1 k1 k2) (argEs_rel R nd hk hb t h3')
  | [], _ :: _, _, _, _, _, _, h => by cases h
  | _ :: _, [], _, _, _, _, _, h => by cases h
end
def mArgs (io : List Bool) (ms : M (List Opd)) : M (List E × List Nat × Sto) := fun env st => (ms env st).bind fun p => (argEs env p.2 io p.1 [] []).bind fun q => if q.2.1.Nodup ∧ (∀ b ∈ q.2.2, b ∉ q.2.1) then (pick p.2 q.2.1).map fun stc => ((q.1, q.2.1, stc), p.2) else none
def mCallV (io : List Bool) (f : FV) (ms : M (List Opd)) : M D := fun env st => (mArgs io ms env st).bind fun p => (f p.1.1 p.1.2.2).map fun r => (r.1, putB p.2 p.1.2.1 r.2)
def mCallN (io : List Bool) (f : FN) (ms : M (List Opd)) : M (List D) := fun env st => (mArgs io ms env st).bind fun p => (f p.1.1 p.1.2.2).map fun r => (r.1, putB p.2 p.1.2.1 r.2)
theorem mArgs_some {io : List Bool} {ms : M (List Opd)} {env : Env} {st s1 stc : Sto} {es : List E} {ns : List Nat} (h : mArgs io ms env st = some ((es, ns, stc), s1)) :
    ∃ os bs, ms env st = some (os, s1) ∧ argEs env s1 io os [] [] = some (es, ns, bs) ∧ ns.Nodup ∧ (∀ b ∈ bs, b ∉ ns) ∧ Paired (fun n o => s1[n]? = some o) ns stc := by
  unfold mArgs at h
  obtain ⟨⟨os, s1'⟩, h1, h2⟩ := Option.bind_eq_some_iff.mp h
  obtain ⟨⟨es', ns', bs'⟩, h3, h4⟩ := Option.bind_eq_some_iff.mp h2
  dsimp only at h4
  split at h4
  · rename_i hc
    obtain ⟨stc', h5, h6⟩ := Option.map_eq_some_iff.mp h4
    cases h6
    exact ⟨os, bs', h1, h3, hc.1, hc.2, pick_some h5⟩
  · cases h4
theorem argEs_len {env : Env} {st : Sto} : ∀ {ios : List Bool} {os : List Opd} {ns bs : List Nat} {r : List E × List Nat × List Nat}, argEs env st ios os ns bs = some r → r.1.length = ios.length
  | [], [], _, _, _, h => by cases h; rfl
  | io :: ios, o :: os, ns, bs, r, h => by
    unfold argEs at h
    obtain ⟨⟨e, n1, b1⟩, h1, h2⟩ := Option.bind_eq_some_iff.mp h
    obtain ⟨q, h3, h4⟩ := Option.map_eq_some_iff.mp h2
    cases h4
    exact congrArg (· + 1) (argEs_len h3)
  | [], _ :: _, _, _, _, h => by cases h
  | _ :: _, [], _, _, _, h => by cases h
/-- the objects handed in -/
theorem fps_of {κ : List Fp} {st : Sto} (hl : κ.length = st.length) : ∀ {ns : List Nat} {stc : Sto}, Paired (fun n o => st[n]? = some o) ns stc → ∃ κc, Paired (fun n p => κ[n]? = some p) ns κc
  | _, _, .nil => ⟨[], .nil⟩
  | n :: _, _, .cons r t => by
    obtain ⟨κc, h⟩ := fps_of hl t
    have hn : n < κ.length := by rw [hl]; exact (List.getElem?_eq_some_iff.mp r).1
    exact ⟨κ[n] :: κc, .cons (List.getElem?_eq_getElem hn) h⟩
section
variable {K : PySem.W.Frag} {io : List Bool} {ms : M (List Opd)} {σ : L2.St} {H : Hp} {Q : VK}
theorem mcallV_t {f : FV} (h : tE K (mCallV io f ms) σ H Q) : tCall (spV K io.length f) [] E0 (tAs K ms) σ H Q := by
  obtain ⟨κ, η, env, st, d, st', R, em, q⟩ := h
  unfold mCallV at em
  obtain ⟨⟨⟨es, ns, stc⟩, s1⟩, h1, h2⟩ := Option.bind_eq_some_iff.mp em
  obtain ⟨⟨d', stc'⟩, h3, h4⟩ := Option.map_eq_some_iff.mp h2
  cases h4
  obtain ⟨os, bs, k1, k2, nd, kb, ks⟩ := mArgs_some h1
  refine ⟨κ, η, env, st, os, s1, R, k1, fun vs κ1 H1 R1 e1 v1 => ?_⟩
  show spV K io.length f (vs ++ []) H1 Q E0
  rw [List.append_nil]
  obtain ⟨κc, hk⟩ := fps_of R1.lenS ks
  refine ⟨κc, _, es, stc, d', stc', argEs_len k2, R1.callIn nd hk ks (argEs_rel R1 nd hk kb v1 k2), h3, fun v κc' H' Rc ec hl rv => ?_⟩
  obtain ⟨R2, e2, mb⟩ := R1.callOut nd hk Rc ec hl (hidLe_refl η H1) (fun b hb => .inl hb)
  exact q v _ H' R2 (e1.trans e2) (rp_mem mb rv)
theorem mcallN_t {f : FN} (h : tN K (mCallN io f ms) σ H Q) : tCall (spN K io.length f) [] E0 (tAs K ms) σ H Q := by
  obtain ⟨κ, η, env, st, d, st', R, em, q⟩ := h
  unfold mCallN at em
  obtain ⟨⟨⟨es, ns, stc⟩, s1⟩, h1, h2⟩ := Option.bind_eq_some_iff.mp em
  obtain ⟨⟨d', stc'⟩, h3, h4⟩ := Option.map_eq_some_iff.mp h2
  cases h4
  obtain ⟨os, bs, k1, k2, nd, kb, ks⟩ := mArgs_some h1
  refine ⟨κ, η, env, st, os, s1, R, k1, fun vs κ1 H1 R1 e1 v1 => ?_⟩
  show spN K io.length f (vs ++ []) H1 Q E0
  rw [List.append_nil]
  obtain ⟨κc, hk⟩ := fps_of R1.lenS ks
  refine ⟨κc, _, es, stc, d', stc', argEs_len k2, R1.callIn nd hk ks (argEs_rel R1 nd hk kb v1 k2), h3, fun a xs κc' H' Rc ec hl hn hx rv => ?_⟩
  obtain ⟨R2, e2, mb⟩ := R1.callOut nd hk (ηr := hid a η) Rc ec hl (hidLe_hid hn) (hidLe1_hid hn)
  exact q a xs _ H' R2 (e1.trans e2) (e1.none hn R1.tracked) hx (rps_mem mb rv)
end
section
variable {X : Cx} {k : Nat} {f : Addr} {fd : FuncData} {ps : List Str} {io : List Bool} {x : Str} {p pos : Pos} {e : Expr} {es : List Expr} {ms : M (List Opd)}
theorem se_call {fv : FV} (F : FnOk X.prog X.w X.K X.mg X.base CX0 k f fd ps (spV X.K io.length fv)) (hr : Room k X.A) (hg : Gl X x) (hm : X.mg x = some (.ref f)) (hk : PySem.W.keepIn X.K (.ref f) = true) (hb : Binds X.K fd ps []) (ha : SA X (e :: es) ms)
    (hx : Passes CX0 X E0 := by exact pass0) (hdb : (x == ("__debug__" : Str)) = false := by decide) (he : starEach (e :: es) X.env = (false, eval e X.env) :: starEach es X.env := by rfl) (hpl : (backTo pos (starEach es X.env)).any (·.1) = false := by rfl) :
    SE X (.Call (.Name x p) (e :: es) [] pos) (mCallV io fv ms) := PE.imp (pe_call F hr hg hm hk hb .nil hx ha hdb he hpl) fun σ H Q h => mcallV_t h
theorem sn_call {fv : FN} (F : FnOk X.prog X.w X.K X.mg X.base CX0 k f fd ps (spN X.K io.length fv)) (hr : Room k X.A) (hg : Gl X x) (hm : X.mg x = some (.ref f)) (hk : PySem.W.keepIn X.K (.ref f) = true) (hb : Binds X.K fd ps []) (ha : SA X (e :: es) ms)
    (hx : Passes CX0 X E0 := by exact pass0) (hdb : (x == ("__debug__" : Str)) = false := by decide) (he : starEach (e :: es) X.env = (false, eval e X.env) :: starEach es X.env := by rfl) (hpl : (backTo pos (starEach es X.env)).any (·.1) = false := by rfl) :
    SN X (.Call (.Name x p) (e :: es) [] pos) (mCallN io fv ms) := PE.imp (pe_call F hr hg hm hk hb .nil hx ha hdb he hpl) fun σ H Q h => mcallN_t h
end
/-! ### a def's body -/
def startE (N : Nat) (es : List E) : Env := es.map some ++ List.replicate (N - es.length) none
def fin (n0 : Nat) (r : F × Env × Sto) : Option (D × Sto) := match r.1 with
  | .nx => some (.none, r.2.2.take n0)
  | .ret d none => some (d, r.2.2.take n0)
  | .ret d (some k) => if n0 ≤ k then some (d, r.2.2.take n0) else none
  | _ => none
def finN (n0 : Nat) (r : F × Env × Sto) : Option (List D × Sto) := match r.1 with
  | .retN d none => some (d, r.2.2.take n0)
  | .retN d (some k) => if n0 ≤ k then some (d, r.2.2.take n0) else none
  | _ => none
def mFn (N : Nat) (body : S) : FV := fun es st => (body (startE N es) st).bind (fin st.length)
def mFnN (N : Nat) (body : S) : FN := fun es st => (body (startE N es) st).bind (finN st.length)
section
variable {K : PySem.W.Frag} {κ κ' : List Fp} {η : Hid} {H H' : Hp} {st st' : Sto} {es : List E} {vs : List V}
theorem Rep.start (R : Rep K κ η H (vs.map some) (es.map some) st) (N : List Str) : Rep K κ η H (L2.start N vs) (startE N.length es) st := by
  have hl : es.length = vs.length := by simpa using R.len
  refine ⟨R.nd, R.dj, R.en, R.hn, by unfold startE L2.start; simp [hl], fun i e h => ?_, R.sto⟩
  unfold startE at h
  by_cases hi : i < es.length
  · rw [List.getElem?_append_left (by simpa using hi)] at h
    obtain ⟨v, h1, h2⟩ := R.env i e h
    refine ⟨v, ?_, h2⟩
    unfold L2.start
    rw [List.getElem?_append_left (by simpa [← hl] using hi)]
    exact h1
  · rw [List.getElem?_append_right (by simpa using hi), List.getElem?_replicate] at h
    split at h <;> cases h
theorem Ext.cut (e : Ext κ H κ' H') : Ext κ H (κ'.take κ.length) H' := by
  obtain ⟨κ1, new, rfl, pr⟩ := e.pre
  have hl : κ.length = κ1.length := Paired.length pr
  have ht : (κ1 ++ new).take κ.length = κ1 := by rw [hl]; simp
  rw [ht]
  exact ⟨⟨κ1, [], by simp, pr⟩, fun b hb n => e.new b (by rw [alls_append]; exact List.mem_append_left _ hb) n, e.fr⟩
theorem take_take_le {α : Type} {l : List α} {n k : Nat} (h : n ≤ k) : (l.take k).take n = l.take n := by rw [List.take_take, Nat.min_eq_left h]
theorem Ext.lenLe (e : Ext κ H κ' H') : κ.length ≤ κ'.length := by
  obtain ⟨κ1, new, rfl, pr⟩ := e.pre
  rw [List.length_append, ← Paired.length pr]
  omega
theorem body_t {N : List Str} {mb : S} {n : Nat} {Q : VK} {E : XK} (h : spV K n (mFn N.length mb) vs H Q E) : tS K mb { nx := fun _ H' => Q .non H', rt := Q, bk := fun _ _ => False, ct := fun _ _ => False } (L2.start N vs) H := by
  obtain ⟨κ, η, es, st, d, st', hn, R, em, q⟩ := h
  unfold mFn at em
  obtain ⟨⟨f, env', st2⟩, h1, h2⟩ := Option.bind_eq_some_iff.mp em
  refine ⟨κ, η, _, st, f, env', st2, R.start N, h1, fun κ' σ' H' R' e => ?_⟩
  have hl : κ.length = st.length := R.lenS
  have fine : st2.take st.length = st' → ∀ v, Rp K (alls (κ'.take κ.length) ++ η.all) H' v d → Q v H' := fun hs v rv => by
    refine q v _ H' ?_ e.cut ?_ rv
    · rw [← hs, ← hl]
      exact (R'.takeN κ.length).forget
    · rw [List.length_take, Nat.min_eq_left e.lenLe]
  unfold fin at h2
  dsimp only at h2
  cases f with
  | nx =>
    cases h2
    exact fine rfl _ .non
  | ret d0 k =>
    cases k with
    | none =>
      cases h2
      exact fun v rv => fine rfl v (rp_take _ rv)
    | some k =>
      dsimp only at h2
      split at h2
      · rename_i hk
        cases h2
        refine fun v rv => fine rfl v ?_
        have := rp_take κ.length rv
        rwa [show tk (some k) κ' = κ'.take k from rfl, take_take_le (by rw [hl]; exact hk)] at this
      · cases h2
  | brk => cases h2
  | cnt => cases h2
  | retN ds k => cases h2
theorem rep_cutH {a : Addr} {k : Nat} (R : Rep K (κ'.take k) (hid a η) H' [] [] (st.take k)) (n : Nat) (h : n ≤ k) : Rep K (κ'.take n) (hid a η) H' [] [] (st.take n) := by
  have := R.takeN n
  rwa [take_take_le h, take_take_le h] at this
theorem bodyN_t {N : List Str} {mb : S} {n : Nat} {Q : VK} {E : XK} (h : spN K n (mFnN N.length mb) vs H Q E) : tS K mb { nx := fun _ H' => Q .non H', rt := Q, bk := fun _ _ => False, ct := fun _ _ => False } (L2.start N vs) H := by
  obtain ⟨κ, η, es, st, ds, st', hn, R, em, q⟩ := h
  unfold mFnN at em
  obtain ⟨⟨f, env', st2⟩, h1, h2⟩ := Option.bind_eq_some_iff.mp em
  refine ⟨κ, η, _, st, f, env', st2, R.start N, h1, fun κ' σ' H' R' e => ?_⟩
  have hl : κ.length = st.length := R.lenS
  have hcl : (κ'.take κ.length).length = κ.length := by rw [List.length_take, Nat.min_eq_left e.lenLe]
  unfold finN at h2
  dsimp only at h2
  cases f with
  | nx => cases h2
  | ret d0 k => cases h2
  | brk => cases h2
  | cnt => cases h2
  | retN ds0 k =>
    cases k with
    | none =>
      cases h2
      intro a xs Ra ha hx rx
      rcases ha with ha | ⟨n, p, hk, _⟩
      · refine q a xs _ H' ?_ e.cut hcl ha hx (rps_take (η := hid a η) κ.length rx)
        rw [← hl]
        exact (Rep.takeN (show Rep K κ' (hid a η) H' [] [] st2 from Ra) κ.length)
      · cases hk
    | some k =>
      dsimp only at h2
      split at h2
      · rename_i hk
        cases h2
        intro a xs Ra ha hx rx
        have hk' : κ.length ≤ k := by rw [hl]; exact hk
        have hn : H a = none := by
          rcases ha with ha | ⟨m, p, hm, hp, ea⟩
          · exact ha
          · cases hm
            refine e.new a (mem_alls_at.mpr ⟨k, p, hp, by rw [← ea]; simp [Fp.all]⟩) fun z => ?_
            obtain ⟨κ1, new, rfl, pr⟩ := e.pre
            obtain ⟨j, u, hj, hu⟩ := mem_alls_at.mp z
            obtain ⟨w, hw, le⟩ := paired_getR pr hj
            have hjl : j < κ.length := (List.getElem?_eq_some_iff.mp hj).1
            have hw' : (κ1 ++ new)[j]? = some w := by rw [List.getElem?_append_left (List.getElem?_eq_some_iff.mp hw).1]; exact hw
            refine alls_apart R'.nd hp hw' (by omega) a (by rw [← ea]; simp [Fp.all]) ?_
            obtain ⟨l1, t, l2⟩ := le
            unfold Fp.all at hu ⊢
            rw [← l1, l2]
            rcases List.mem_cons.mp hu with z | z
            · rw [z]; simp
            · exact List.mem_cons_of_mem _ (List.mem_append_left _ z)
        have := rps_take (η := hid a η) κ.length rx
        rw [show tk (some k) κ' = κ'.take k from rfl, take_take_le hk'] at this
        refine q a xs _ H' ?_ e.cut hcl hn hx this
        rw [← hl]
        exact rep_cutH Ra κ.length hk'
      · cases h2
end
section
variable {P : Program} {w : World} {K : PySem.W.Frag} {mg : Str → Option Value} {base : Heap} {x qual : Str} {sd : Stmt} {f : Addr} {fd : FuncData} {N ps : List Str} {k : Nat}
theorem spV_len {n : Nat} {fv : FV} {vs : List V} {H : Hp} {Q : VK} {E : XK} (h : spV K n fv vs H Q E) : vs.length = n := by
  obtain ⟨κ, η, es, st, d, st', hn, R, _⟩ := h
  rw [← hn]
  simpa using R.len.symm
theorem spN_len {n : Nat} {fv : FN} {vs : List V} {H : Hp} {Q : VK} {E : XK} (h : spN K n fv vs H Q E) : vs.length = n := by
  obtain ⟨κ, η, es, st, d, st', hn, R, _⟩ := h
  rw [← hn]
  simpa using R.len.symm
theorem fn_V {mb : S} (Fn : Fun K x qual sd f fd) (Sc : FnScope N ps (defScope sd))
    (hb : ∀ (cdv : Value) (A : Around) (outer : List PySem.Env) (s : Shared) (H : Hp) (E : XK), Room k (A.deeper (envOfC qual (defScope sd) s.heap.objs.size f cdv)) → SSs (cxOf CX0 P w K mg base N qual (defScope sd) f cdv A outer s H E).nox (defBody sd) mb) :
    FnOk P w K mg base CX0 (k + 1) f fd ps (spV K ps.length (mFn N.length mb)) :=
  Fn.ok Sc (fun vs H Q E h => spV_len h) fun cdv A outer s H vs Q E hr h => ⟨_, hb cdv A outer s H E hr, body_t h⟩
theorem fn_N {mb : S} (Fn : Fun K x qual sd f fd) (Sc : FnScope N ps (defScope sd))
    (hb : ∀ (cdv : Value) (A : Around) (outer : List PySem.Env) (s : Shared) (H : Hp) (E : XK), Room k (A.deeper (envOfC qual (defScope sd) s.heap.objs.size f cdv)) → SSs (cxOf CX0 P w K mg base N qual (defScope sd) f cdv A outer s H E).nox (defBody sd) mb) :
    FnOk P w K mg base CX0 (k + 1) f fd ps (spN K ps.length (mFnN N.length mb)) :=
  Fn.ok Sc (fun vs H Q E h => spN_len h) fun cdv A outer s H vs Q E hr h => ⟨_, hb cdv A outer s H E hr, bodyN_t h⟩
end
end ML
set_option maxRecDepth 100000
/-! ML14: small rules: handing back, is True, steps of slices, keywords, lists of lists, dicts by comprehension. -/
namespace ML
open PySem PySem.Spec PyProof.Rows L2
section
variable {X : Cx} {e a b c : Expr} {pos p : Pos}
/-! ### x is True, x is False -/
def boolV : V → Bool → Bool
  | .bl a, b => decide (a = b)
  | _, _ => false
theorem op_isTF : OpR X (compareOp .Is) (fun x y H Q => ∃ b, y = .bl b ∧ Q (.bl (boolV x b)) H) := by
  intro pins s σ H x y v u Q I rx ry h
  obtain ⟨b, rfl, q⟩ := h
  cases (show u = Value.bool b from ry)
  cases x with
  | bl a =>
    cases (show v = Value.bool a from rx)
    by_cases e : a = b
    · subst e
      exact wpAny_is_self rfl ⟨.bl true, H, I, rfl, by simpa [boolV] using q⟩
    · exact wpAny_is_other rfl (fun z => e (Value.bool.inj z)) ⟨.bl false, H, I, rfl, by simpa [boolV, e] using q⟩
  | non => cases rx; exact wpAny_is_other rfl (fun z => nomatch z) ⟨.bl false, H, I, rfl, q⟩
  | ref a => cases rx; exact wpAny_is_other rfl (fun z => nomatch z) ⟨.bl false, H, I, rfl, q⟩
  | int i => obtain ⟨t, rfl⟩ := rx; exact wpAny_is_other rfl (fun z => nomatch z) ⟨.bl false, H, I, rfl, q⟩
  | str i => obtain ⟨t, rfl⟩ := rx; exact wpAny_is_other rfl (fun z => nomatch z) ⟨.bl false, H, I, rfl, q⟩
  | _ => first
    | (cases rx; exact wpAny_is_other rfl (fun z => nomatch z) ⟨.bl false, H, I, rfl, q⟩)
    | (obtain ⟨t, rfl⟩ := rx; exact wpAny_is_other rfl (fun z => nomatch z) ⟨.bl false, H, I, rfl, q⟩)
def gIsB (x y : D) : Option D := match y with
  | .bool b => match x with
    | .bool a => some (.bool (decide (a = b)))
    | _ => some (.bool false)
  | _ => none
theorem os_isB : OpS X (fun x y H Q => ∃ b, y = .bl b ∧ Q (.bl (boolV x b)) H) gIsB := by
  intro κ η H x y dx dy d Q hx hy hg q
  unfold gIsB at hg
  split at hg
  · rename_i b
    have ey : y = .bl b := by
      cases hy with
      | rp r => cases r; rfl
    subst ey
    refine ⟨b, rfl, ?_⟩
    split at hg
    · cases hg
      cases hx with
      | rp r => cases r; exact q _ H (Same.refl H) (.bl _)
    · rename_i hne
      cases hg
      have : boolV x b = false := by
        cases hx with
        | rp r => cases r <;> first | rfl | exact absurd rfl (hne _)
        | lst _ _ => rfl
      rw [this]
      exact q _ H (Same.refl H) (.bl _)
  · cases hg
def mIsB (m n : M Opd) : M D := mBin gIsB m n
theorem se_isB {m n : M Opd} (ha : SO X a m) (hb : SO X b n) (hm : behindInMarks .Is b = false := by first | exact nobehind _ (by decide) (by decide) | rfl) : SE X (.Compare a [.Is] [b] pos) (mIsB m n) := se_cmp op_isTF os_isB ha hb hm
theorem st_isB {m n : M Opd} (ha : SO X a m) (hb : SO X b n) (hm : behindInMarks .Is b = false := by first | exact nobehind _ (by decide) (by decide) | rfl) : ST X (.Compare a [.Is] [b] pos) (mB (mIsB m n)) := st_cmp op_isTF os_isB ha hb hm
/-! ### in return position -/
/-- a value; the store's objects from the k-th on are done with -/
abbrev R := Env → Sto → Option ((D × Option Nat) × Sto)
def tR (K : PySem.W.Frag) (m : R) : TE := fun σ H Q => ∃ κ η env st r st', Rep K κ η H σ env st ∧ m env st = some (r, st') ∧
  ∀ v κ' H', Rep K κ' η H' σ env st' → Ext κ H κ' H' → Rp K (alls (tk r.2 κ') ++ η.all) H' v r.1 → Q v H'
abbrev SR (X : Cx) (e : Expr) (m : R) : Prop := PE X e (tR X.K m)
def rV (m : M D) : R := fun env st => (m env st).map fun p => ((p.1, none), p.2)
theorem sr_v {m : M D} (h : SE X e m) : SR X e (rV m) := PE.imp h fun σ H Q ⟨κ, η, env, st, r, st', R, em, q⟩ => by
  unfold rV at em
  obtain ⟨⟨d, s1⟩, h1, h2⟩ := Option.map_eq_some_iff.mp em
  cases h2
  exact ⟨κ, η, env, st, d, _, R, h1, fun v κ' H' R' e' rv => q v κ' H' R' e' rv⟩
def rIf (t : M Bool) (x y : R) : R := fun env st => (t env st).bind fun p => if p.1 = true then x env p.2 else y env p.2
theorem sr_if {t : M Bool} {x y : R} (hc : ST X c t) (ha : SR X a x) (hb : SR X b y) : SR X (.IfExp c a b pos) (rIf t x y) := PE.imp (pe_ifExp hc ha hb) fun σ H Q ⟨κ, η, env, st, d, st', R, em, q⟩ => by
  unfold rIf at em
  obtain ⟨⟨k, s1⟩, h1, h3⟩ := Option.bind_eq_some_iff.mp em
  refine ⟨κ, η, env, st, k, s1, R, h1, fun κ1 H1 R1 e1 => ?_⟩
  cases k with
  | false => exact ⟨κ1, η, env, s1, d, st', R1, by simpa using h3, fun v κ2 H2 R2 e2 r2 => q v κ2 H2 R2 (e1.trans e2) r2⟩
  | true => exact ⟨κ1, η, env, s1, d, st', R1, by simpa using h3, fun v κ2 H2 R2 e2 r2 => q v κ2 H2 R2 (e1.trans e2) r2⟩
/-- a slot: a value, or an object of the store that is done with -/
def slotR (env : Env) (st : Sto) (i : Nat) : Option (D × Option Nat) := match env[i]? with
  | some (some (.val d)) => some (d, none)
  | some (some (.loc n)) => match st[n]? with
    | some (.lst ds) => some (.list ds, some n)
    | some (.mat dss) => some (.list (dss.map .list), some n)
    | _ => none
  | _ => none
theorem slotR_rp {K : PySem.W.Frag} {κ : List Fp} {η : Hid} {H : Hp} {σ : L2.St} {env : Env} {st : Sto} {i : Nat} {d : D} {k : Option Nat} {v : V} (R : Rep K κ η H σ env st) (h : slotR env st i = some (d, k)) (hv : σ[i]? = some (some v)) (n0 : Nat) (hn : ∀ n, k = some n → n0 ≤ n) : Rp K (alls (κ.take n0) ++ η.all) H v d := by
  unfold slotR at h
  split at h
  · rename_i d' hd
    cases h
    obtain ⟨w, h1, h2⟩ := R.env i _ hd
    rw [hv] at h1
    cases h1
    cases h2 with
    | val r => exact rp_take _ r
  · rename_i n hd
    obtain ⟨w, h1, h2⟩ := R.env i _ hd
    rw [hv] at h1
    cases h1
    cases h2 with
    | loc hp =>
      rename_i p
      obtain ⟨o, ho, ro⟩ := paired_getR R.sto hp
      rw [ho] at h
      have ap : n0 ≤ n → ∀ b ∈ p.all, b ∉ alls (κ.take n0) ++ η.all := fun hle b hb z => by
        rcases List.mem_append.mp z with z | z
        · rw [← take_take_le hle] at z
          exact main_take R.nd hp b hb (alls_take_sub z)
        · exact R.dj b (mem_alls_at.mpr ⟨n, p, hp, hb⟩) z
      cases ro with
      | lst a r =>
        cases h
        exact .lst a (ap (hn n rfl) _ (by simp [Fp.all])) (rps_take _ r)
      | dic a r => cases h
      | mat a r =>
        cases h
        exact .lst a (ap (hn n rfl) _ (by simp [Fp.all])) (rows_rp (fun vs ds r => rps_take _ r) (fun b hb => ap (hn n rfl) b (by simp only [Fp.all]; exact List.mem_cons_of_mem _ hb)) r)
  · cases h
def rS (i : Nat) : R := fun env st => (slotR env st i).map fun r => (r, st)
theorem tk_le {K : PySem.W.Frag} {κ : List Fp} {η : Hid} {H : Hp} {v : V} {d : D} (k : Option Nat) (h : ∀ n0, (∀ n, k = some n → n0 ≤ n) → Rp K (alls (κ.take n0) ++ η.all) H v d) : Rp K (alls (tk k κ) ++ η.all) H v d := by
  cases k with
  | none =>
    have := h κ.length (fun n z => by cases z)
    rw [List.take_length] at this
    exact this
  | some n => exact h n fun m z => by cases z; exact Nat.le_refl _
theorem sr_s (i : Nat) {x : Str} (h : PE X (.Name x p) (tVar i)) : SR X (.Name x p) (rS i) := PE.imp h fun σ H Q ⟨κ, η, env, st, r, st', R, em, q⟩ => by
  unfold rS at em
  obtain ⟨⟨d, k⟩, h1, h2⟩ := Option.map_eq_some_iff.mp em
  cases h2
  obtain ⟨v, hv⟩ : ∃ v, σ[i]? = some (some v) := by
    have : ∃ y, env[i]? = some (some y) := by
      unfold slotR at h1
      split at h1
      · rename_i hd; exact ⟨_, hd⟩
      · rename_i hd; exact ⟨_, hd⟩
      · cases h1
    obtain ⟨y, hy⟩ := this
    obtain ⟨v, h1, _⟩ := R.env i y hy
    exact ⟨v, h1⟩
  exact ⟨v, hv, q v κ H R Ext.refl (tk_le k fun n0 hn => slotR_rp R h1 hv n0 hn)⟩
def mRetR (m : R) : S := fun env st => (m env st).map fun p => (.ret p.1.1 p.1.2, env, p.2)
theorem ss_retR {m : R} (h : SR X e m) : SS X (.Return (some e) pos) (mRetR m) := PS.imp (ps_ret h) fun Dn σ H ⟨κ, η, env, st, f, env', st', R, em, q⟩ => by
  unfold mRetR at em
  obtain ⟨⟨⟨d, k⟩, s1⟩, h1, h2⟩ := Option.map_eq_some_iff.mp em
  cases h2
  exact ⟨κ, η, env, st, _, _, R, h1, fun v κ' H' R' e' rv => q κ' σ H' R' e' v rv⟩
/-- a list of the store, handed back as a new list -/
def mRetSN (i : Nat) : S := fun env st => (slotL env st i).map fun r => (.retN r.2 (some r.1), env, st)
theorem ss_retSN (i : Nat) {x : Str} (h : PE X (.Name x p) (tVar i)) : SS X (.Return (some (.Name x p)) pos) (mRetSN i) := PS.imp (ps_ret h) fun Dn σ H ⟨κ, η, env, st, f, env', st', R, em, q⟩ => by
  unfold mRetSN at em
  obtain ⟨⟨n, ds⟩, h1, h2⟩ := Option.map_eq_some_iff.mp em
  cases h2
  obtain ⟨v, hv, _⟩ := R.env i _ (slotL_some h1).1
  obtain ⟨a, xs, z1, rfl, z3, z4⟩ := R.slotL h1 hv
  refine ⟨_, hv, q κ σ H R Ext.refl a xs ?_ (.inr ⟨n, _, rfl, z1, rfl⟩) z3 ?_⟩
  · have R2 := R.takeN n
    have ha : a ∈ alls κ := mem_alls_at.mpr ⟨n, _, z1, by simp [Fp.all]⟩
    have hna : a ∉ alls (κ.take n) := main_take R.nd z1 a (by simp [Fp.all])
    refine ⟨R2.nd, fun b hb z => ?_, List.nodup_cons.mpr ⟨R.dj a ha, R.en⟩, fun b hb => ?_, rfl, fun i x h => by simp at h, ?_⟩
    · rcases List.mem_cons.mp (show b ∈ a :: η.all from z) with z | z
      · exact hna (z ▸ hb)
      · exact R2.dj b hb z
    · rcases List.mem_cons.mp (show b ∈ a :: η.all from hb) with z | z
      · rw [z, z3]; exact Option.some_ne_none _
      · exact R.hn b z
    · refine Paired.mapP (paired_take n R.sto) fun q o r => ro_mono (fun b us _ h => ⟨by simp, fun z => h ?_⟩) r
      rcases List.mem_append.mp z with z | z
      · exact List.mem_append_left _ (alls_take_sub z)
      · rcases List.mem_cons.mp (show b ∈ a :: η.all from z) with z | z
        · rw [z]; exact List.mem_append_left _ ha
        · exact List.mem_append_right _ z
  · refine rps_mem (fun b hb => ?_) z4
    rcases List.mem_append.mp hb with z | z
    · exact List.mem_append_left _ (alls_take_sub z)
    · rcases List.mem_cons.mp z with z | z
      · rw [z]; exact List.mem_append_left _ (mem_alls_at.mpr ⟨n, _, z1, by simp [Fp.all]⟩)
      · exact List.mem_append_right _ z
/-! ### xs[i::k] -/
def stepOf {α : Type} (l : List α) (i k : Int) : List α := (sliceRange (sliceBounds (some i) none (some k) l.length).1 (sliceBounds (some i) none (some k) l.length).2.1 (sliceBounds (some i) none (some k) l.length).2.2).filterMap (l[·]?)
def pickAt {α : Type} (l : List α) : List Nat → List α
  | [] => []
  | n :: ns => match l[n]? with
    | some x => x :: pickAt l ns
    | none => pickAt l ns
theorem pickAt_eq {α : Type} (l : List α) : ∀ ns : List Nat, ns.filterMap (l[·]?) = pickAt l ns
  | [] => rfl
  | n :: ns => by
    cases h : l[n]? with
    | none => rw [List.filterMap_cons_none h, pickAt_eq l ns]; simp [pickAt, h]
    | some x => rw [List.filterMap_cons_some h, pickAt_eq l ns]; simp [pickAt, h]
theorem vals_pick {xs : List V} {its : List Value} (r : Vals xs its) : ∀ ns : List Nat, Vals (pickAt xs ns) (pickAt its ns)
  | [] => .nil
  | n :: ns => by
    unfold pickAt
    cases h : xs[n]? with
    | none =>
      have : its[n]? = none := by
        rw [List.getElem?_eq_none_iff, ← r.length]
        exact List.getElem?_eq_none_iff.mp h
      rw [this]
      exact vals_pick r ns
    | some v =>
      obtain ⟨u, hu, ru⟩ := r.get h
      rw [hu]
      exact .cons ru (vals_pick r ns)
theorem rps_pick {K : PySem.W.Frag} {B : List Addr} {H : Hp} {xs : List V} {ds : List D} (r : RpAll K B H xs ds) : ∀ ns : List Nat, RpAll K B H (pickAt xs ns) (pickAt ds ns)
  | [] => .nil
  | n :: ns => by
    unfold pickAt
    cases h : ds[n]? with
    | none =>
      have : xs[n]? = none := by
        rw [List.getElem?_eq_none_iff, r.length]
        exact List.getElem?_eq_none_iff.mp h
      rw [this]
      exact rps_pick r ns
    | some v =>
      obtain ⟨u, hu, ru⟩ := r.get h
      rw [hu]
      exact .cons ru (rps_pick r ns)
theorem pickAt_len {α : Type} (l : List α) : ∀ ns : List Nat, (pickAt l ns).length ≤ ns.length
  | [] => Nat.le_refl _
  | n :: ns => by
    unfold pickAt
    have := pickAt_len l ns
    split
    · simp only [List.length_cons]; omega
    · simp only [List.length_cons]; omega
def stepIx (n : Nat) (i k : Int) : List Nat := sliceRange (sliceBounds (some i) none (some k) n).1 (sliceBounds (some i) none (some k) n).2.1 (sliceBounds (some i) none (some k) n).2.2
def mStep (i k : Int) (m : M Opd) : M (List D) := fun env st => (m env st).bind fun p => (res env p.2 p.1).bind fun d => match d with
  | .list ds => if (pickAt ds (stepIx ds.length i k)).length < 1000000 then some (pickAt ds (stepIx ds.length i k), p.2) else none
  | _ => none
def tStep (K : PySem.W.Frag) (i k : Int) (te : TE) : TE := fun σ H Q => te σ H fun x H1 => ∃ a xs, x = .ref a ∧ SqL K H1 a xs ∧ (pickAt xs (stepIx xs.length i k)).length ≤ sizeLine ∧ ∀ p, H1 p = none → Q (.ref p) (L2.upd H1 p (.lst (pickAt xs (stepIx xs.length i k))))
theorem pe_step {te : TE} {i k : Int} {j1 j2 : Nat} {p1 p2 p3 : Pos} (hk : k ≠ 0) (he : PE X e te) (h1 : PO X (some (.Constant (.int i) j1 p1)) (tPart (tC (.int i)))) (h3 : PO X (some (.Constant (.int k) j2 p2)) (tPart (tC (.int k)))) : PE X (.Subscript e (.Slice (some (.Constant (.int i) j1 p1)) none (some (.Constant (.int k) j2 p2)) p3) pos) (tStep X.K i k te) := by
  refine ⟨fun pins s σ H Q I h => ?_⟩
  refine Subscript_ (thn (he.run pins s σ H _ I h) fun v s1 ⟨x, H1, I1, r1, q1⟩ => ?_)
  obtain ⟨a, xs, ex, hx, hz0, q⟩ := q1
  subst ex
  cases r1
  refine wpAny_Slice (thn (h1.run pins s1 σ H1 (fun o H2 => o = some i ∧ H2 = H1) I1 ⟨i, rfl, rfl, rfl⟩) fun vl s2 ⟨l, H2, I2, pl, el, e2⟩ => ?_)
  subst el e2
  refine thn (po_none.run pins s2 σ H2 (fun o H3 => o = none ∧ H3 = H2) I2 ⟨rfl, rfl⟩) fun vu s3 ⟨u, H3, I3, pu, eu, e3⟩ => ?_
  subst eu e3
  refine thn (h3.run pins s3 σ H3 (fun o H4 => o = some k ∧ H4 = H3) I3 ⟨k, rfl, rfl, rfl⟩) fun vs s4 ⟨o, H4, I4, ps, eo, e4⟩ => ?_
  subst eo e4
  have I5 : Inv X pins σ H4 { s4 with heap := s4.heap.push { cls := .type "slice", data := .fields #[vl, vu, vs] } } := I4.kept (t' := s4.toks) fun b ob q => Heap.get?_push_of_some _ q
  obtain ⟨its, r, ht, hz⟩ := I5.list hx
  have hlen := r.length
  show wpAny (model X.prog X.w) X.A (subscriptTail e (.Slice (some (.Constant (.int i) j1 p1)) none (some (.Constant (.int k) j2 p2)) p3) (.ref a) (.ref s4.heap.objs.size)) (EP X pins σ Q) X.xe { s4 with heap := s4.heap.push { cls := .type "slice", data := .fields #[vl, vu, vs] } }
  refine tail_any (ops := [.ref a, .ref s4.heap.objs.size]) ht.isList.typeIs (PySem.slot_list_getitem.lookup) ?_ (by with_unfolding_all rfl)
  refine wpAny_getItem_list_slice ht.isList (Heap.IsSliceOf.new _ vl vu vs) pl pu ps (by simpa using hk) ?_ (by rw [List.size_toArray]; omega)
  have ep : slicePick its.toArray (some i) none (some k) = (pickAt its (stepIx xs.length i k)).toArray := by
    unfold slicePick
    rw [List.size_toArray, ← hlen]
    congr 1
    rw [← pickAt_eq]
    show List.filterMap (fun n => its.toArray[n]?) (stepIx xs.length i k) = _
    congr 1
    funext n
    simp
  rw [ep]
  refine ⟨.ref _, _, I5.laid (t' := s4.toks) (o := .lst (pickAt xs (stepIx xs.length i k))) (fun b ob q => Heap.get?_push_of_some _ q) (Nat.le_refl _) ?_, rfl, q _ (I5.hok.fresh (Nat.le_refl _))⟩
  exact ⟨hz0, _, 0, vals_pick r _, Heap.get?_push_size _ rfl⟩
theorem sn_step {m : M Opd} {i k : Int} {j1 j2 : Nat} {p1 p2 p3 : Pos} (hk : k ≠ 0) (he : SO X e m) : SN X (.Subscript e (.Slice (some (.Constant (.int i) j1 p1)) none (some (.Constant (.int k) j2 p2)) p3) pos) (mStep i k m) :=
  PE.imp (pe_step hk he (po_some pe_int) (po_some pe_int)) fun σ H Q ⟨κ, η, env, st, ds, st', R, em, q⟩ => by
    unfold mStep at em
    obtain ⟨⟨o, s1⟩, h1, h2⟩ := Option.bind_eq_some_iff.mp em
    obtain ⟨d, h3, h4⟩ := Option.bind_eq_some_iff.mp h2
    split at h4
    · split at h4
      · rename_i hz
        cases h4
        refine ⟨κ, η, env, st, o, _, R, h1, fun v κ1 H1 R1 e1 v1 => ?_⟩
        obtain ⟨a, xs, rfl, hq, r⟩ := sh_lst (v1.res R1 h3)
        have hl : xs.length = _ := r.length
        have hr := rps_pick r (stepIx xs.length i k)
        refine ⟨a, xs, rfl, hq, ?_, fun l hl' => ?_⟩
        · rw [hr.length, hl]
          exact Nat.le_of_lt (Nat.lt_of_lt_of_le hz million)
        · rw [hl] at hr ⊢
          exact new_end q R1 e1 hr l hl'
      · cases h4
    · cases h4
end
end ML
set_option maxRecDepth 100000
/-! ML15: calls by keywords alone, lists of lists, dicts by comprehension. -/
namespace ML
open PySem PySem.Spec PyProof.Rows L2
/-! ### f(x=.., y=..) -/
section
variable {X : Cx} {CX : CXT} {k : Nat} {f : Addr} {fd : FuncData} {ps ks : List Str} {sp : Sp} {E : XK} {x : Str} {p pos kpos : Pos} {e : Expr} {kws : List Keyword} {tk : TA} {nm : Option Str}
/-- all by keywords, in the parameters' order -/
def gK {α : Type} (us ws : List α) : List α := match us with
  | [] => ws
  | _ :: _ => []
theorem kb_all {K : PySem.W.Frag} {qual : Str} {st : Stmt} (F : Fun K x qual st f fd) (hne : ps ≠ [])
    (h : ∀ (kV doc pm : Value) (an : Option Addr) (cdv ct : Value) (ws : List Value), ws.length = ps.length → bindArgs (PySem.W.fnOf x qual (defArgs st) (defBody st) (defScope st) .none kV doc pm an cdv ct) ⟨[], ps.zip ws⟩ = pure (ps.zip ws)) : KBinds K fd ps ps gK gK := by
  obtain ⟨oc, od, kV, doc, pm, an, cdv, ct, osl, rfl, lk, hcd⟩ := F.ex
  refine ⟨fun s us ws _ hl => ?_, fun {vs us zs ws} r rz => ?_⟩
  · cases us with
    | nil => exact .of_eq (h kV doc pm an cdv ct ws hl)
    | cons u us =>
      exfalso
      cases ps with
      | nil => exact hne rfl
      | cons _ _ => exact nomatch hl
  · cases r with
    | nil => exact rz
    | cons _ _ => exact .nil
theorem pe_callK0 {g : List Value → List Value → List Value} {gV : List V → List V → List V} (F : FnOk X.prog X.w X.K X.mg X.base CX k f fd ps sp) (hr : Room k X.A) (hg : Gl X x) (hm : X.mg x = some (.ref f)) (hk : PySem.W.keepIn X.K (.ref f) = true) (hb : KBinds X.K fd ps ks g gV) (hx : Passes CX X E)
    (hkw : PK X kws tk) (hall : (backToKw pos (keywordEach kws X.env)).all (·.1.isSome) = true := by rfl) (hks : (backToKw pos (keywordEach kws X.env)).filterMap (·.1) = ks := by rfl)
    (hdb : (x == ("__debug__" : Str)) = false := by decide)
    (hpl : ((backTo pos (starEach [] X.env)).any (·.1) || (backToKw pos (keywordEach kws X.env)).any (·.1.isNone)) = false := by rfl) :
    PE X (.Call (.Name x p) [] kws pos) (tCallK sp gV E tNil tk) := by
  refine ⟨fun pins s σ H Q I h => ?_⟩
  refine wpAny_Call_Name_kw (ld_glob I hg hm ?_ hdb)
  refine PySem.W.callWith_KW0 (h₀ := X.base) I.ok.mod.kin hk hall (thn (hkw.run pos pins s σ H _ I h) fun ws s2 ⟨zs, H2, I2, rz, q2⟩ => ⟨I2.kIn, ?_⟩) hpl
  rw [hks]
  exact run_fnk F hr hb hx I2 .nil rz q2
abbrev SK (X : Cx) (kws : List Keyword) (m : M (List Opd)) : Prop := PK X kws (tAs X.K m)
theorem PK.imp {X : Cx} {e : List Keyword} {t t' : TA} (h : PK X e t) (i : ∀ σ H Q, t' σ H Q → t σ H Q) : PK X e t' := ⟨fun pos pins s σ H Q I q => h.run pos pins s σ H Q I (i σ H Q q)⟩
theorem sk_nil : SK X [] aNil := PK.imp pk_nil fun σ H Q ⟨κ, η, env, st, os, st', R, em, q⟩ => by
  cases em
  exact q [] κ H R Ext.refl .nil
theorem sk_cons {m : M Opd} {r : M (List Opd)} (ha : SO X e m) (hr : SK X kws r) : SK X (⟨nm, e, kpos⟩ :: kws) (aCons m r) := PK.imp (pk_cons ha hr) fun σ H Q ⟨κ, η, env, st, os, st', R, em, q⟩ => by
  unfold aCons at em
  simp only [Option.bind_eq_some_iff, Option.map_eq_some_iff] at em
  obtain ⟨⟨o, s1⟩, h1, ⟨ps, s2⟩, h2, h3⟩ := em
  cases h3
  exact ⟨κ, η, env, st, o, s1, R, h1, fun v κ1 H1 R1 e1 v1 => ⟨κ1, η, env, s1, ps, _, R1, h2, fun vs κ2 H2 R2 e2 v2 => q _ κ2 H2 R2 (e1.trans e2) (.cons (v1.ext e2) v2)⟩⟩
theorem se_callKw {io : List Bool} {fv : FV} {ms : M (List Opd)} (F : FnOk X.prog X.w X.K X.mg X.base CX0 k f fd ps (spV X.K io.length fv)) (hr : Room k X.A) (hg : Gl X x) (hm : X.mg x = some (.ref f)) (hk : PySem.W.keepIn X.K (.ref f) = true) (hb : KBinds X.K fd ps ps gK gK) (ha : SK X kws ms)
    (hx : Passes CX0 X E0 := by exact pass0) (hall : (backToKw pos (keywordEach kws X.env)).all (·.1.isSome) = true := by rfl) (hks : (backToKw pos (keywordEach kws X.env)).filterMap (·.1) = ps := by rfl)
    (hdb : (x == ("__debug__" : Str)) = false := by decide)
    (hpl : ((backTo pos (starEach [] X.env)).any (·.1) || (backToKw pos (keywordEach kws X.env)).any (·.1.isNone)) = false := by rfl) :
    SE X (.Call (.Name x p) [] kws pos) (mCallV io fv ms) := PE.imp (pe_callK0 F hr hg hm hk hb hx ha hall hks hdb hpl) fun σ H Q h => by
  obtain ⟨κ, η, env, st, os, s1, R, k1, q⟩ := mcallV_t h
  show tAs X.K ms σ H fun zs H2 => spV X.K io.length fv (gK [] zs) H2 Q E0
  refine ⟨κ, η, env, st, os, s1, R, k1, fun vs κ1 H1 R1 e1 v1 => ?_⟩
  have this : spV X.K io.length fv (vs ++ []) H1 Q E0 := q vs κ1 H1 R1 e1 v1
  rw [List.append_nil] at this
  exact this
end
/-! ### a new list of new lists -/
def hids (rows : List Addr) (η : Hid) : Hid := (rows ++ η.1, η.2)
def Mt (K : PySem.W.Frag) (B : List Addr) (H : Hp) (rows : List Addr) (dss : List (List D)) : Prop := Paired (fun b ds => ∃ xs, H b = some (HO.lst xs) ∧ RpAll K B H xs ds) rows dss
def tM (K : PySem.W.Frag) (m : M (List (List D))) : TE := fun σ H Q => ∃ κ η env st dss st', Rep K κ η H σ env st ∧ m env st = some (dss, st') ∧
  ∀ a rows κ' H', Rep K κ' (hids (rows.reverse ++ [a]) η) H' σ env st' → Ext κ H κ' H' → (∀ b ∈ a :: rows, H b = none) → H' a = some (.lst (rows.map V.ref)) → Mt K (alls κ' ++ (hids (rows.reverse ++ [a]) η).all) H' rows dss → Q (.ref a) H'
abbrev SM (X : Cx) (e : Expr) (m : M (List (List D))) : Prop := PE X e (tM X.K m)
open Classical in
noncomputable def mCompGoM (g : List Gd) (bd : Bd) (tt : M Bool) (te : M (List D)) : List D → Env → Sto → Option (List (List D) × Sto)
  | [], _, st => if gOk g st then some ([], st) else Option.none
  | d :: ds, env, st => if gOk g st then (bd d env).bind fun env1 => (tt env1 st).bind fun p => if p.1 = true then (te env1 p.2).bind fun y => (mCompGoM g bd tt te ds env y.2).map fun r => (y.1 :: r.1, r.2) else mCompGoM g bd tt te ds env p.2 else Option.none
noncomputable def mCompM (mi : M (List D × List Gd)) (vs : List Nat) (bd : Bd) (tt : M Bool) (te : M (List D)) : M (List (List D)) := fun env st => (mi env st).bind fun p => if p.1.1.length < 1000000 then mCompGoM p.1.2 bd tt te p.1.1 (wipeE env vs) p.2 else Option.none
section
variable {K : PySem.W.Frag} {κ κ' : List Fp} {η : Hid} {H H' : Hp} {σ : L2.St} {env : Env} {st : Sto}
theorem hids_all (rows : List Addr) (η : Hid) : (hids rows η).all = rows ++ η.all := by unfold hids Hid.all; simp
/-- the hidden list at a, others hidden around it, is written -/
theorem rps_hidM {a : Addr} {xs ys : List V} {B : List Addr} (ha : H a = some (.lst xs)) (hB : a ∈ B) {vs : List V} {ds : List D} (r : RpAll K B H vs ds) : RpAll K B (L2.upd H a (.lst ys)) vs ds :=
  r.mono (fr_hid ha) fun b us _ n => ⟨fun z => n (by rw [List.mem_singleton.mp z]; exact hB), n⟩
theorem Rep.writeM {a : Addr} {xs : List V} (R : Rep K κ η H σ env st) (ha1 : a ∈ η.1) (ha : H a = some (.lst xs)) (ys : List V) : Rep K κ η (L2.upd H a (.lst ys)) σ env st := by
  have hall : a ∈ η.all := List.mem_append_left _ ha1
  have hB : a ∈ alls κ ++ η.all := List.mem_append_right _ hall
  refine ⟨R.nd, R.dj, R.en, fun b hb => ?_, R.len, fun i x h => ?_, ?_⟩
  · by_cases h : b = a
    · rw [h, upd_same]; exact Option.some_ne_none _
    · rw [upd_ne h]; exact R.hn b hb
  · obtain ⟨v, h1, h2⟩ := R.env i x h
    refine ⟨v, h1, ?_⟩
    cases h2 with
    | val r => 
      have : RpAll K (alls κ ++ η.all) H [v] [_] := .cons r .nil
      cases rps_hidM (ys := ys) ha hB this with
      | cons r _ => exact .val r
    | mdl k q => exact .mdl k (rps_hidM ha hB q)
    | bor h3 n q =>
      rename_i b us ds
      have hne : b ≠ a := fun z => n (by rw [z]; exact List.mem_append_right _ ha1)
      refine .bor ?_ n (rps_hidM ha hB q)
      rcases h3 with h3 | ⟨o, h3⟩
      · exact .inl (by rw [upd_ne hne]; exact h3)
      · exact .inr ⟨o, by rw [upd_ne hne]; exact h3⟩
    | loc h3 => exact .loc h3
  · refine paired_of R.lenS fun i p o h1 h2 => ro_upd (fun r => rps_hidM ha hB r) (fun z => ?_) (paired_both R.sto h1 h2)
    exact R.dj a (mem_alls.mpr ⟨p, List.mem_of_getElem? h1, List.mem_cons.mp z⟩) hall
theorem Mt.mono {B B' C : List Addr} {rows : List Addr} {dss : List (List D)} (f : Fr C H H') (hr : ∀ b ∈ rows, b ∉ C) (hB : ∀ a xs, H a = some (HO.lst xs) → a ∉ B → a ∉ C ∧ a ∉ B') (m : Mt K B H rows dss) : Mt K B' H' rows dss :=
  paired_of (Paired.length m) fun i b ds h1 h2 => by
    obtain ⟨xs, k1, k2⟩ := paired_both m h1 h2
    exact ⟨xs, f.same _ _ k1 (hr b (List.mem_of_getElem? h1)), k2.mono f hB⟩
theorem Mt.snoc {B : List Addr} {rows : List Addr} {dss : List (List D)} (m : Mt K B H rows dss) {a : Addr} {xs : List V} {ds : List D} (ha : H a = some (.lst xs)) (r : RpAll K B H xs ds) : Mt K B H (rows ++ [a]) (dss ++ [ds]) :=
  paired_app m (.cons ⟨xs, ha, r⟩ .nil)
/-- the hidden ones become an object of the store -/
theorem Rep.adoptM {a : Addr} {rows : List Addr} {dss : List (List D)} (R : Rep K κ (hids (rows.reverse ++ [a]) η) H σ env st) (ha : H a = some (.lst (rows.map V.ref))) (m : Mt K (alls κ ++ (hids (rows.reverse ++ [a]) η).all) H rows dss) : Rep K (κ ++ [(a, rows)]) η H σ env (st ++ [.mat dss]) := by
  have e : alls (κ ++ [(a, rows)]) = alls κ ++ (a :: rows) := alls_snoc κ (a, rows)
  have hall : ∀ b, b ∈ (hids (rows.reverse ++ [a]) η).all ↔ (b = a ∨ b ∈ rows) ∨ b ∈ η.all := fun b => by
    rw [hids_all]
    constructor
    · intro h
      rcases List.mem_append.mp h with h | h
      · rcases List.mem_append.mp h with h | h
        · exact .inl (.inr (List.mem_reverse.mp h))
        · exact .inl (.inl (List.mem_singleton.mp h))
      · exact .inr h
    · rintro ((h | h) | h)
      · exact List.mem_append_left _ (List.mem_append_right _ (by simp [h]))
      · exact List.mem_append_left _ (List.mem_append_left _ (List.mem_reverse.mpr h))
      · exact List.mem_append_right _ h
  have hB : ∀ b, b ∈ alls (κ ++ [(a, rows)]) ++ η.all → b ∈ alls κ ++ (hids (rows.reverse ++ [a]) η).all := fun b hb => by
    rw [e] at hb
    rcases List.mem_append.mp hb with h | h
    · rcases List.mem_append.mp h with h | h
      · exact List.mem_append_left _ h
      · exact List.mem_append_right _ ((hall b).mpr (.inl (List.mem_cons.mp h)))
    · exact List.mem_append_right _ ((hall b).mpr (.inr h))
  have en := R.en
  rw [hids_all] at en
  obtain ⟨n1, n2, n3⟩ := List.nodup_append.mp en
  obtain ⟨m1, m2, m3⟩ := List.nodup_append.mp n1
  refine ⟨?_, fun b hb => ?_, n2, fun b hb => R.hn b ((hall b).mpr (.inr hb)), R.len, fun i x h => ?_, ?_⟩
  · rw [e]
    refine List.nodup_append.mpr ⟨R.nd, List.nodup_cons.mpr ⟨fun h => m3 a (List.mem_reverse.mpr h) a (by simp) rfl, ((List.pairwise_reverse.mp m1).imp fun h => Ne.symm h)⟩, fun x hx y hy => ?_⟩
    rintro rfl
    exact R.dj x hx ((hall x).mpr (.inl (List.mem_cons.mp hy)))
  · rw [e] at hb
    rcases List.mem_append.mp hb with h | h
    · exact fun z => R.dj b h ((hall b).mpr (.inr z))
    · intro z
      refine n3 b ?_ b z rfl
      rcases List.mem_cons.mp h with h | h
      · exact List.mem_append_right _ (by simp [h])
      · exact List.mem_append_left _ (List.mem_reverse.mpr h)
  · obtain ⟨v, h1, h2⟩ := R.env i x h
    refine ⟨v, h1, ?_⟩
    cases h2 with
    | val r => exact .val (rp_mem hB r)
    | mdl k q => exact .mdl k (rps_mem hB q)
    | bor h3 n q =>
      refine .bor h3 (fun z => n ?_) (rps_mem hB q)
      rw [e] at z
      rcases List.mem_append.mp z with z | z
      · rcases List.mem_append.mp z with z | z
        · exact List.mem_append_left _ z
        · refine List.mem_append_right _ ?_
          show _ ∈ (rows.reverse ++ [a]) ++ η.1
          refine List.mem_append_left _ ?_
          rcases List.mem_cons.mp z with z | z
          · rw [z]; simp
          · exact List.mem_append_left _ (List.mem_reverse.mpr z)
      · exact List.mem_append_right _ (List.mem_append_right _ z)
    | loc h3 => exact .loc (by rw [List.getElem?_append_left (List.getElem?_eq_some_iff.mp h3).1]; exact h3)
  · refine paired_app (Paired.mapP R.sto fun p o r => ro_mem hB r) (.cons (.mat ha ?_) .nil)
    exact Paired.mapP m fun b ds ⟨xs, z1, z2⟩ => ⟨xs, z1, rps_mem hB z2⟩
theorem Ext.snocM {p : Fp} (e : Ext κ H κ' H') (h : ∀ b ∈ p.all, H b = Option.none) : Ext κ H (κ' ++ [p]) H' := by
  obtain ⟨κ1, new, rfl, pr⟩ := e.pre
  refine ⟨⟨κ1, new ++ [p], by simp [List.append_assoc], pr⟩, fun b hb n => ?_, e.fr⟩
  rw [alls_snoc] at hb
  rcases List.mem_append.mp hb with hb | hb
  · exact e.new b hb n
  · exact h b hb
end
section
variable {X : Cx} {tg e elt c : Expr} {ifs : List Expr} {pos spos : Pos}
theorem compM_t {K : PySem.W.Frag} {mi : M (List D × List Gd)} {vs W : List Nat} {bd : Bd} {tt : M Bool} {te : M (List D)} (hW : ∀ j ∈ W, j ∈ vs) {σ : L2.St} {H : Hp} {Q : VK} (h : tM K (mCompM mi vs bd tt te) σ H Q) : tLc (tI K mi) (tG K W bd) (tT K tt) (tN K te) vs σ H Q := by
  obtain ⟨κ, η, env, st, rs, stF, R, em, q⟩ := h
  unfold mCompM at em
  obtain ⟨⟨pr, s1⟩, h1, h2⟩ := Option.bind_eq_some_iff.mp em
  obtain ⟨ds, g⟩ := pr
  dsimp only at h2
  split at h2
  case isFalse => cases h2
  rename_i hz
  refine ⟨κ, η, env, st, (ds, g), s1, R, h1, fun J κ1 H1 R1 e1 wk D hD => ?_⟩
  dsimp only at wk
  have Rw := R1.wipe vs
  have le : ∀ {rows : List Addr}, (∀ b ∈ rows, H1 b = Option.none) → HidLe η H1 (hids (rows.reverse ++ [D]) η) := fun {rows} hr b hb => by
    rw [hids_all] at hb
    rcases List.mem_append.mp hb with h | h
    · rcases List.mem_append.mp h with h | h
      · exact .inr (hr b (List.mem_reverse.mp h))
      · exact .inr (by rw [List.mem_singleton.mp h]; exact hD)
    · exact .inl h
  have le1 : ∀ {rows : List Addr}, (∀ b ∈ rows, H1 b = Option.none) → HidLe1 η H1 (hids (rows.reverse ++ [D]) η) := fun {rows} hr b hb => by
    rcases List.mem_append.mp (show b ∈ (rows.reverse ++ [D]) ++ η.1 from hb) with h | h
    · rcases List.mem_append.mp h with h | h
      · exact .inr (hr b (List.mem_reverse.mp h))
      · exact .inr (by rw [List.mem_singleton.mp h]; exact hD)
    · exact .inl h
  refine ⟨fun i m H2 => m = ds.length - i ∧ i ≤ ds.length ∧ ∃ κ2 st2 rows acc rest, Rep K κ2 (hids (rows.reverse ++ [D]) η) H2 (L2.wipe σ vs) (wipeE env vs) st2 ∧ Ext κ1 H1 κ2 H2 ∧ H2 D = some (.lst (rows.map V.ref)) ∧ (∀ b ∈ rows, H1 b = Option.none) ∧ Mt K (alls κ2 ++ (hids (rows.reverse ++ [D]) η).all) H2 rows acc ∧ acc.length ≤ i ∧ mCompGoM g bd tt te (ds.drop i) (wipeE env vs) st2 = some (rest, stF) ∧ acc ++ rest = rs,
    ⟨ds.length, by simp, Nat.zero_le _, κ1, s1, ([] : List Addr), [], rs, (show Rep K κ1 (hids (([] : List Addr).reverse ++ [D]) η) _ _ _ _ from Rw.hide hD), Ext.of_same (same_new hD), upd_same, (fun b hb => by cases hb), .nil, by simp, by simpa using h2, rfl⟩, ?_⟩
  rintro i m H2 ⟨rfl, hi, κ2, st2, rows, acc, rest, R2, e2, hxs, hrn, racc, hacc, hm, hrs⟩
  have memD : ∀ (rows : List Addr), D ∈ (hids (rows.reverse ++ [D]) η).1 := fun rows => List.mem_append_left _ (by simp)
  have memR : ∀ (rows : List Addr), ∀ b ∈ rows, b ∈ (hids (rows.reverse ++ [D]) η).all := fun rows b hb => by rw [hids_all]; exact List.mem_append_left _ (List.mem_append_left _ (List.mem_reverse.mpr hb))
  by_cases hlt : i < ds.length
  · have hd : ds[i]? = some ds[i] := List.getElem?_eq_getElem hlt
    rw [List.drop_eq_getElem_cons hlt] at hm
    unfold mCompGoM at hm
    split at hm
    case isFalse => cases hm
    rename_i hgk
    obtain ⟨env3, k1, k2⟩ := Option.bind_eq_some_iff.mp hm
    obtain ⟨⟨b, st3⟩, k3, k4⟩ := Option.bind_eq_some_iff.mp k2
    dsimp only at k4
    obtain ⟨go, yl⟩ := (wk.go κ2 _ H2 _ _ st2 R2 e2 (le hrn) hgk i).2 _ hd
    refine .inr ⟨go, fun H3 => ∃ κ2 st2 rows acc rest, Rep K κ2 (hids (rows.reverse ++ [D]) η) H3 (L2.wipe σ vs) (wipeE env vs) st2 ∧ Ext κ1 H1 κ2 H3 ∧ H3 D = some (.lst (rows.map V.ref)) ∧ (∀ b ∈ rows, H1 b = Option.none) ∧ Mt K (alls κ2 ++ (hids (rows.reverse ++ [D]) η).all) H3 rows acc ∧ acc.length ≤ i + 1 ∧ mCompGoM g bd tt te (ds.drop (i + 1)) (wipeE env vs) st2 = some (rest, stF) ∧ acc ++ rest = rs,
      fun H3 ⟨κ3, st3, xs3, acc3, rest3, z⟩ => ⟨ds.length - (i + 1), by omega, rfl, hlt, κ3, st3, xs3, acc3, rest3, z⟩, fun x H' y => ?_⟩
    obtain ⟨sm, rp⟩ := yl x H' y
    refine ⟨κ2, _, wipeE env vs, st2, _, env3, R2.same sm, rp, k1, fun σ3 R3 hl3 ho3 => ⟨wipe_same hW hl3 ho3, ?_⟩⟩
    have es : Ext κ1 H1 κ2 H' := e2.trans (Ext.of_same sm)
    refine ⟨κ2, _, env3, st2, b, st3, R3, k3, fun κ4 H4 R4 e4 => ?_⟩
    have e24 : Ext κ2 H2 κ4 H4 := (Ext.of_same sm).trans e4
    have keep : ∀ b ∈ (hids (rows.reverse ++ [D]) η).all, b ∉ alls κ2 := fun b hb z => R2.dj b z hb
    have hxs4 : H4 D = some (.lst (rows.map V.ref)) := e24.fr.same D _ hxs (keep D (List.mem_append_left _ (memD rows)))
    have racc4 : Mt K (alls κ4 ++ (hids (rows.reverse ++ [D]) η).all) H4 rows acc := racc.mono e24.fr (fun b hb => keep b (memR rows b hb)) (fun a xs h1 h2 => e24.apart a xs h1 h2)
    cases b with
    | false =>
      simp only [Bool.false_eq_true, if_false] at k4 ⊢
      exact ⟨κ4, st3, rows, acc, rest, Rw.with (es.trans e4) (le hrn) (le1 hrn) R4, es.trans e4, hxs4, hrn, racc4, by omega, k4, hrs⟩
    | true =>
      simp only [if_true] at k4 ⊢
      obtain ⟨⟨y, st5⟩, k5, k6⟩ := Option.bind_eq_some_iff.mp k4
      obtain ⟨⟨rest', st6⟩, k7, k8⟩ := Option.map_eq_some_iff.mp k6
      cases k8
      refine ⟨κ4, _, env3, st3, y, st5, R4, k5, fun a us κ5 H5 R5 e5 hna hus rus => ?_⟩
      have e45 : Ext κ4 H4 κ5 H5 := e5
      have e15 : Ext κ1 H1 κ5 H5 := (es.trans e4).trans e5
      have hna1 : H1 a = Option.none := (es.trans e4).none hna R4.tracked
      have keep5 : ∀ b ∈ (hids (rows.reverse ++ [D]) η).all, b ∉ alls κ4 := fun b hb z => R4.dj b z hb
      have hxs5 : H5 D = some (.lst (rows.map V.ref)) := e5.fr.same D _ hxs4 (keep5 D (List.mem_append_left _ (memD rows)))
      have hid5 : (hid a (hids (rows.reverse ++ [D]) η)) = hids ((rows ++ [a]).reverse ++ [D]) η := by unfold hid hids; simp
      rw [hid5] at R5
      have rus' : RpAll K (alls κ5 ++ (hids ((rows ++ [a]).reverse ++ [D]) η).all) H5 us y := by
        rw [← hid5]; exact rus
      have hrn5 : ∀ b ∈ rows ++ [a], H1 b = Option.none := fun b hb => by
        rcases List.mem_append.mp hb with h | h
        · exact hrn b h
        · rw [List.mem_singleton.mp h]; exact hna1
      have racc5 : Mt K (alls κ5 ++ (hids ((rows ++ [a]).reverse ++ [D]) η).all) H5 rows acc := racc4.mono e5.fr (fun b hb => keep5 b (memR rows b hb)) (fun c xs h1 h2 => by
        obtain ⟨z1, z2⟩ := e5.apart c xs h1 h2
        refine ⟨z1, fun z => ?_⟩
        rcases List.mem_append.mp z with z | z
        · exact z2 (List.mem_append_left _ z)
        · rw [← hid5] at z
          rcases List.mem_cons.mp (show c ∈ a :: (hids (rows.reverse ++ [D]) η).all from z) with z | z
          · rw [z, hna] at h1; cases h1
          · exact z2 (List.mem_append_right _ z))
      have hlx : rows.length = acc.length := Paired.length racc
      have hDm := memD (rows ++ [a])
      have hDB : D ∈ alls κ5 ++ (hids ((rows ++ [a]).reverse ++ [D]) η).all := List.mem_append_right _ (List.mem_append_left _ hDm)
      have nDr : ∀ b ∈ rows ++ [a], b ≠ D := fun b hb z => by
        have en := R5.en
        rw [hids_all] at en
        have := (List.nodup_append.mp (List.nodup_append.mp en).1).2.2
        exact this b (List.mem_reverse.mpr hb) D (by simp) z
      have mt : Mt K (alls κ5 ++ (hids ((rows ++ [a]).reverse ++ [D]) η).all) (L2.upd H5 D (.lst ((rows ++ [a]).map V.ref))) (rows ++ [a]) (acc ++ [y]) :=
        (racc5.snoc hus rus').mono (fr_hid hxs5) (fun b hb z => nDr b hb (List.mem_singleton.mp z)) (fun c xs _ n => ⟨fun z => n (by rw [List.mem_singleton.mp z]; exact hDB), n⟩)
      refine ⟨rows.map V.ref, hxs5, by rw [List.length_map]; exact Nat.lt_of_lt_of_le (by omega) million, κ5, st5, rows ++ [a], acc ++ [y], rest', ?_, e15.updN hD, by rw [upd_same]; simp, hrn5, ?_, by rw [List.length_append]; simp; omega, k7, by rw [← hrs]; simp⟩
      · have : rows.map V.ref ++ [V.ref a] = (rows ++ [a]).map V.ref := by simp
        rw [this]
        exact (Rw.with e15 (le hrn5) (le1 hrn5) R5).writeM hDm hxs5 _
      · have : rows.map V.ref ++ [V.ref a] = (rows ++ [a]).map V.ref := by simp
        rw [this]
        exact mt
  · have hi' : i = ds.length := by omega
    subst hi'
    rw [List.drop_length] at hm
    unfold mCompGoM at hm
    split at hm
    case isFalse => cases hm
    rename_i hgk
    cases hm
    rw [List.append_nil] at hrs
    subst hrs
    refine .inl ⟨(wk.go κ2 _ H2 _ _ _ R2 e2 (le hrn) hgk _).1 rfl, ?_⟩
    refine q D rows κ2 H2 (R1.with e2 (le hrn) (le1 hrn) R2) (e1.trans e2) (fun b hb => ?_) hxs racc
    rcases List.mem_cons.mp hb with h | h
    · rw [h]; exact e1.none hD R1.tracked
    · exact e1.none (hrn b h) R1.tracked
def mOwnM (i : Nat) (m : M (List (List D))) : S := fun env st => (m env st).map fun p => (.nx, env.set i (some (.loc p.2.length)), p.2 ++ [.mat p.1])
theorem ownM_t {i : Nat} {m : M (List (List D))} {Dn : Ends} {σ : L2.St} {H : Hp} (h : tS X.K (mOwnM i m) Dn σ H) : tAsg (tM X.K m) (gName i) Dn σ H := by
  obtain ⟨κ, η, env, st, f, env', st', R, em, q⟩ := h
  unfold mOwnM at em
  obtain ⟨⟨d, s1⟩, h1, h2⟩ := Option.map_eq_some_iff.mp em
  cases h2
  refine ⟨κ, η, env, st, d, _, R, h1, fun a rows κ1 H1 R1 e1 hn hl rs => ?_⟩
  have R2 := R1.adoptM hl rs
  refine q _ _ H1 (R2.setE i (v := .ref a) (.loc (p := (a, rows)) ?_)) (e1.snocM hn)
  have : κ1.length = s1.length := R1.lenS
  rw [← this]
  simp
variable {scope : Scope} {own : List (Str × Nat)}
theorem sm_comp {mi : M (List D × List Gd)} {W : List Nat} {bd : Bd} {tt : M Bool} {te : M (List D)} (hc : X.calm = true) (hN : X.N.Nodup) (hi : SI X tg e mi) (ok : BlkOk X.N X.env.scope scope own) (hW : ∀ j ∈ W, j ∈ own.map (·.2))
    (hg : ∀ (s : Shared) (H : Hp) (C : Addr) (cl : List (Str × Addr)) (fp : List Addr), SG (X.blk s H scope (compEnvC scope cl C X.env) fp) tg W bd)
    (ht : ∀ (s : Shared) (H : Hp) (C : Addr) (cl : List (Str × Addr)) (fp : List Addr), SPs (X.blk s H scope (compEnvC scope cl C X.env) fp) ifs tt)
    (he : ∀ (s : Shared) (H : Hp) (C : Addr) (cl : List (Str × Addr)) (fp : List Addr), SN (X.blk s H scope (compEnvC scope cl C X.env) fp) elt te) (hs : ∀ x, foldedSetIterable e X.env x = pure x := by intro _; rfl) :
    SM X (.ListComp elt [⟨tg, e, ifs, 0⟩] scope pos) (mCompM mi (own.map (·.2)) bd tt te) :=
  PE.imp (pe_lc hc hN hi ok hg ht he hs) fun σ H Q h => compM_t hW h
theorem ss_ownLcM {i : Nat} {y : Str} {py : Pos} {mi : M (List D × List Gd)} {W : List Nat} {bd : Bd} {tt : M Bool} {te : M (List D)} (hc : X.calm = true) (hN : X.N.Nodup) (hy : X.N[i]? = some y) (hyl : X.env.scope.names.lookup y = some .local)
    (hsw : swapsWith (.ListComp elt [⟨tg, e, ifs, 0⟩] scope pos) (some (.Name y py)) spos.line X.env = pure true) (hi : SI X tg e mi) (ok : BlkOk X.N X.env.scope scope own) (hW : ∀ j ∈ W, j ∈ own.map (·.2))
    (hg : ∀ (s : Shared) (H : Hp) (C : Addr) (cl : List (Str × Addr)) (fp : List Addr), SG (X.blk s H scope (compEnvC scope cl C X.env) fp) tg W bd)
    (ht : ∀ (s : Shared) (H : Hp) (C : Addr) (cl : List (Str × Addr)) (fp : List Addr), SPs (X.blk s H scope (compEnvC scope cl C X.env) fp) ifs tt)
    (he : ∀ (s : Shared) (H : Hp) (C : Addr) (cl : List (Str × Addr)) (fp : List Addr), SN (X.blk s H scope (compEnvC scope cl C X.env) fp) elt te) (hs : ∀ x, foldedSetIterable e X.env x = pure x := by intro _; rfl) :
    SS X (.Assign [.Name y py] (.ListComp elt [⟨tg, e, ifs, 0⟩] scope pos) spos) (mOwnM i (mCompM mi (own.map (·.2)) bd tt te)) :=
  PS.imp (ps_setLc hc hN hy hyl hsw hi ok hg ht he hs) fun Dn σ H h => compM_t hW (ownM_t h)
end
end ML
set_option maxRecDepth 100000
/-! ML16: dicts by comprehension. -/
namespace ML
open PySem PySem.Spec PyProof.Rows L2
def tDN (K : PySem.W.Frag) (m : M (List (Key × D))) : TE := fun σ H Q => ∃ κ η env st kvs st', Rep K κ η H σ env st ∧ m env st = some (kvs, st') ∧
  ∀ a xs κ' H', Rep K κ' (hid a η) H' σ env st' → Ext κ H κ' H' → H a = none → H' a = some (.dK xs) → Paired (RD K (alls κ' ++ a :: η.all) H') xs kvs → Q (.ref a) H'
abbrev SDN (X : Cx) (e : Expr) (m : M (List (Key × D))) : Prop := PE X e (tDN X.K m)
open Classical in
noncomputable def mCompGoD (g : List Gd) (bd : Bd) (tt : M Bool) (tk te : M D) : List D → Env → Sto → List (Key × D) → Option (List (Key × D) × Sto)
  | [], _, st, acc => if gOk g st then some (acc, st) else Option.none
  | d :: ds, env, st, acc => if gOk g st then (bd d env).bind fun env1 => (tt env1 st).bind fun p => if p.1 = true then (tk env1 p.2).bind fun y => (te env1 y.2).bind fun z => (keyD y.1).bind fun k => mCompGoD g bd tt tk te ds env z.2 (dPut acc k z.1) else mCompGoD g bd tt tk te ds env p.2 acc else Option.none
noncomputable def mCompD (mi : M (List D × List Gd)) (vs : List Nat) (bd : Bd) (tt : M Bool) (tk te : M D) : M (List (Key × D)) := fun env st => (mi env st).bind fun p => if p.1.1.length < 1000000 then mCompGoD p.1.2 bd tt tk te p.1.1 (wipeE env vs) p.2 [] else Option.none
theorem dPut_len (kvs : List (Key × D)) (k : Key) (d : D) : (dPut kvs k d).length ≤ kvs.length + 1 := by
  unfold dPut
  split
  · rw [List.length_map]; omega
  · rw [List.length_append]; simp
section
variable {K : PySem.W.Frag} {κ κ' : List Fp} {η : Hid} {H H' : Hp} {σ : L2.St} {env : Env} {st : Sto}
theorem fr_hidD {a : Addr} {xs ys : List (Key × V)} (h : H a = some (.dK xs)) : Fr [a] H (L2.upd H a (.dK ys)) :=
  ⟨fun b o e n => by rw [upd_ne (fun z => n (by rw [z]; simp))]; exact e, fun b us e => by rw [upd_ne (fun z => by rw [z, h] at e; cases e)]; exact e, fun b o u e => by rw [upd_ne (fun z => by rw [z, h] at e; cases e)]; exact e⟩
theorem rds_mono {B B' C : List Addr} {xs : List (Key × V)} {ds : List (Key × D)} (f : Fr C H H') (hB : ∀ a xs, H a = some (HO.lst xs) → a ∉ B → a ∉ C ∧ a ∉ B') (r : Paired (RD K B H) xs ds) : Paired (RD K B' H') xs ds :=
  Paired.mapP r fun p q z => ⟨z.1, z.2.mono f hB⟩
theorem Rep.writeHD {a : Addr} {xs : List (Key × V)} (R : Rep K κ (hid a η) H σ env st) (ha : H a = some (.dK xs)) (ys : List (Key × V)) : Rep K κ (hid a η) (L2.upd H a (.dK ys)) σ env st := by
  have hB : ∀ b us, H b = some (HO.lst us) → b ∉ alls κ ++ (hid a η).all → b ∉ [a] ∧ b ∉ alls κ ++ (hid a η).all := fun b us h n => ⟨fun z => (by rw [List.mem_singleton.mp z, ha] at h; cases h), n⟩
  have f : Fr [a] H (L2.upd H a (.dK ys)) := fr_hidD ha
  refine ⟨R.nd, R.dj, R.en, fun b hb => ?_, R.len, fun i x h => ?_, ?_⟩
  · by_cases h : b = a
    · rw [h, upd_same]; exact Option.some_ne_none _
    · rw [upd_ne h]; exact R.hn b hb
  · obtain ⟨v, h1, h2⟩ := R.env i x h
    refine ⟨v, h1, ?_⟩
    cases h2 with
    | val r => exact .val (r.mono f hB)
    | mdl k q => exact .mdl k (q.mono f hB)
    | bor h3 n q =>
      rename_i b us ds
      have hne : b ≠ a := fun z => n (by rw [z]; simp)
      refine .bor ?_ n (q.mono f hB)
      rcases h3 with h3 | ⟨o, h3⟩
      · exact .inl (by rw [upd_ne hne]; exact h3)
      · exact .inr ⟨o, by rw [upd_ne hne]; exact h3⟩
    | loc h3 => exact .loc h3
  · refine paired_of R.lenS fun i p o h1 h2 => ro_upd (fun r => r.mono f hB) (fun z => ?_) (paired_both R.sto h1 h2)
    exact R.dj a (mem_alls.mpr ⟨p, List.mem_of_getElem? h1, List.mem_cons.mp z⟩) (by simp [Hid.all, hid])
end
section
variable {X : Cx} {tg e kx vx c : Expr} {ifs : List Expr} {pos spos : Pos}
theorem compD_t {K : PySem.W.Frag} {mi : M (List D × List Gd)} {vs W : List Nat} {bd : Bd} {tt : M Bool} {tk te : M D} (hW : ∀ j ∈ W, j ∈ vs) {σ : L2.St} {H : Hp} {Q : VK} (h : tDN K (mCompD mi vs bd tt tk te) σ H Q) : tDc (tI K mi) (tG K W bd) (tT K tt) (tE K tk) (tE K te) vs σ H Q := by
  obtain ⟨κ, η, env, st, rs, stF, R, em, q⟩ := h
  unfold mCompD at em
  obtain ⟨⟨pr, s1⟩, h1, h2⟩ := Option.bind_eq_some_iff.mp em
  obtain ⟨ds, g⟩ := pr
  dsimp only at h2
  split at h2
  case isFalse => cases h2
  rename_i hz
  refine ⟨κ, η, env, st, (ds, g), s1, R, h1, fun J κ1 H1 R1 e1 wk a ha => ?_⟩
  dsimp only at wk
  have Rw := R1.wipe vs
  have apH : ∀ {κ2 κ3 : List Fp} {H2 H3 : Hp}, Ext κ2 H2 κ3 H3 → ∀ {xs acc}, Paired (RD K (alls κ2 ++ a :: η.all) H2) xs acc → Paired (RD K (alls κ3 ++ a :: η.all) H3) xs acc := fun {κ2 κ3 H2 H3} x {xs acc} r => rds_mono x.fr (x.apart (η := hid a η)) r
  refine ⟨fun i m H2 => m = ds.length - i ∧ i ≤ ds.length ∧ ∃ κ2 st2 xs acc, Rep K κ2 (hid a η) H2 (L2.wipe σ vs) (wipeE env vs) st2 ∧ Ext κ1 H1 κ2 H2 ∧ H2 a = some (.dK xs) ∧ Paired (RD K (alls κ2 ++ a :: η.all) H2) xs acc ∧ acc.length ≤ i ∧ mCompGoD g bd tt tk te (ds.drop i) (wipeE env vs) st2 acc = some (rs, stF),
    ⟨ds.length, by simp, Nat.zero_le _, κ1, s1, [], [], Rw.hide ha, Ext.of_same (same_new ha), upd_same, .nil, by simp, by simpa using h2⟩, ?_⟩
  rintro i m H2 ⟨rfl, hi, κ2, st2, xs, acc, R2, e2, hxs, racc, hacc, hm⟩
  by_cases hlt : i < ds.length
  · have hd : ds[i]? = some ds[i] := List.getElem?_eq_getElem hlt
    rw [List.drop_eq_getElem_cons hlt] at hm
    unfold mCompGoD at hm
    split at hm
    case isFalse => cases hm
    rename_i hgk
    obtain ⟨env3, k1, k2⟩ := Option.bind_eq_some_iff.mp hm
    obtain ⟨⟨b, st3⟩, k3, k4⟩ := Option.bind_eq_some_iff.mp k2
    dsimp only at k4
    obtain ⟨go, yl⟩ := (wk.go κ2 (hid a η) H2 _ _ st2 R2 e2 (hidLe_hid ha) hgk i).2 _ hd
    refine .inr ⟨go, fun H3 => ∃ κ2 st2 xs acc, Rep K κ2 (hid a η) H3 (L2.wipe σ vs) (wipeE env vs) st2 ∧ Ext κ1 H1 κ2 H3 ∧ H3 a = some (.dK xs) ∧ Paired (RD K (alls κ2 ++ a :: η.all) H3) xs acc ∧ acc.length ≤ i + 1 ∧ mCompGoD g bd tt tk te (ds.drop (i + 1)) (wipeE env vs) st2 acc = some (rs, stF),
      fun H3 ⟨κ3, st3, xs3, acc3, z⟩ => ⟨ds.length - (i + 1), by omega, rfl, hlt, κ3, st3, xs3, acc3, z⟩, fun x H' y => ?_⟩
    obtain ⟨sm, rp⟩ := yl x H' y
    refine ⟨κ2, hid a η, wipeE env vs, st2, _, env3, R2.same sm, rp, k1, fun σ3 R3 hl3 ho3 => ⟨wipe_same hW hl3 ho3, ?_⟩⟩
    have es : Ext κ1 H1 κ2 H' := e2.trans (Ext.of_same sm)
    have keep : ∀ {κ4 κ5 : List Fp} {H4 H5 : Hp} {σ4 : L2.St} {env4 : Env} {st4 : Sto}, Rep K κ4 (hid a η) H4 σ4 env4 st4 → Ext κ4 H4 κ5 H5 → ∀ {xs}, H4 a = some (.dK xs) → H5 a = some (.dK xs) := fun {κ4 κ5 H4 H5 σ4 env4 st4} R4 x {xs} h => x.fr.same a _ h fun z => R4.dj a z (by simp [Hid.all, hid])
    have hxs' : H' a = some (.dK xs) := sm _ _ hxs
    have racc' := apH (Ext.of_same sm) racc
    refine ⟨κ2, hid a η, env3, st2, b, st3, R3, k3, fun κ4 H4 R4 e4 => ?_⟩
    have hxs4 := keep R3 e4 hxs'
    have racc4 := apH e4 racc'
    cases b with
    | false =>
      simp only [Bool.false_eq_true, if_false] at k4 ⊢
      exact ⟨κ4, st3, xs, acc, Rw.with (es.trans e4) (hidLe_hid ha) (hidLe1_hid ha) R4, es.trans e4, hxs4, racc4, by omega, k4⟩
    | true =>
      simp only [if_true] at k4 ⊢
      obtain ⟨⟨y, st5⟩, k5, k6⟩ := Option.bind_eq_some_iff.mp k4
      obtain ⟨⟨z, st6⟩, k7, k8⟩ := Option.bind_eq_some_iff.mp k6
      obtain ⟨k, k9, k10⟩ := Option.bind_eq_some_iff.mp k8
      dsimp only at k9 k10 k7
      refine ⟨κ4, hid a η, env3, st3, y, st5, R4, k5, fun v κ5 H5 R5 e5 rv => ⟨κ5, hid a η, env3, st5, z, st6, R5, k7, fun w κ6 H6 R6 e6 rw6 => ?_⟩⟩
      have hxs5 := keep R4 e5 hxs4
      have hxs6 := keep R5 e6 hxs5
      have racc6 := apH e6 (apH e5 racc4)
      have hlx : xs.length = acc.length := Paired.length racc
      have hB : ∀ b us, H6 b = some (HO.lst us) → b ∉ alls κ6 ++ a :: η.all → b ∉ [a] ∧ b ∉ alls κ6 ++ a :: η.all := fun b us h n => ⟨fun z => (by rw [List.mem_singleton.mp z, hxs6] at h; cases h), n⟩
      refine ⟨xs, k, keyD_rp k9 rv, hxs6, Nat.lt_of_lt_of_le (by omega) million, κ6, st6, putK xs k w, dPut acc k z, ?_, (((es.trans e4).trans e5).trans e6).updN ha, upd_same, rds_mono (fr_hidD hxs6) hB (rd_put rw6 racc6), Nat.le_trans (dPut_len _ _ _) (by omega), k10⟩
      exact (Rw.with (((es.trans e4).trans e5).trans e6) (hidLe_hid ha) (hidLe1_hid ha) R6).writeHD hxs6 _
  · have hi' : i = ds.length := by omega
    subst hi'
    rw [List.drop_length] at hm
    unfold mCompGoD at hm
    split at hm
    case isFalse => cases hm
    rename_i hgk
    cases hm
    refine .inl ⟨(wk.go κ2 (hid a η) H2 _ _ _ R2 e2 (hidLe_hid ha) hgk _).1 rfl, ?_⟩
    exact q a xs κ2 H2 (R1.with e2 (hidLe_hid ha) (hidLe1_hid ha) R2) (e1.trans e2) (e1.none ha R1.tracked) hxs racc
def mOwnD (i : Nat) (m : M (List (Key × D))) : S := fun env st => (m env st).map fun p => (.nx, env.set i (some (.loc p.2.length)), p.2 ++ [.dic p.1])
theorem ownD_t {i : Nat} {m : M (List (Key × D))} {Dn : Ends} {σ : L2.St} {H : Hp} (h : tS X.K (mOwnD i m) Dn σ H) : tAsg (tDN X.K m) (gName i) Dn σ H := by
  obtain ⟨κ, η, env, st, f, env', st', R, em, q⟩ := h
  unfold mOwnD at em
  obtain ⟨⟨d, s1⟩, h1, h2⟩ := Option.map_eq_some_iff.mp em
  cases h2
  refine ⟨κ, η, env, st, d, _, R, h1, fun a xs κ1 H1 R1 e1 hn hl rs => ?_⟩
  have R2 := R1.adopt (.dic hl rs)
  refine q _ _ H1 (R2.setE i (v := .ref a) (.loc (p := (a, [])) ?_)) (e1.snoc hn)
  have : κ1.length = s1.length := R1.lenS
  rw [← this]
  simp
variable {scope : Scope} {own : List (Str × Nat)}
theorem ss_ownD {i : Nat} {x : Str} {pos' : Pos} {m : M (List (Key × D))} (hN : X.N.Nodup) (hi : X.N[i]? = some x) (hx : Loc X.env.scope x) (he : SDN X e m) (hs : swapsWith e (some (.Name x pos')) pos.line X.env = pure false := by rfl) (hf : X.fn x = true ∨ X.env.scope.names.lookup x = some .local := by first | exact .inl rfl | exact .inr rfl | assumption) :
    SS X (.Assign [.Name x pos'] e pos) (mOwnD i m) := PS.imp (ps_set hN hi hx he hs hf) fun Dn σ H h => ownD_t h
theorem sdn_comp {mi : M (List D × List Gd)} {W : List Nat} {bd : Bd} {tt : M Bool} {tk te : M D} (hc : X.calm = true) (hN : X.N.Nodup) (hi : SI X tg e mi) (ok : BlkOk X.N X.env.scope scope own) (hW : ∀ j ∈ W, j ∈ own.map (·.2))
    (hg : ∀ (s : Shared) (H : Hp) (C : Addr) (cl : List (Str × Addr)) (fp : List Addr), SG (X.blk s H scope (compEnvC scope cl C X.env) fp) tg W bd)
    (ht : ∀ (s : Shared) (H : Hp) (C : Addr) (cl : List (Str × Addr)) (fp : List Addr), SPs (X.blk s H scope (compEnvC scope cl C X.env) fp) ifs tt)
    (hk : ∀ (s : Shared) (H : Hp) (C : Addr) (cl : List (Str × Addr)) (fp : List Addr), SE (X.blk s H scope (compEnvC scope cl C X.env) fp) kx tk)
    (he : ∀ (s : Shared) (H : Hp) (C : Addr) (cl : List (Str × Addr)) (fp : List Addr), SE (X.blk s H scope (compEnvC scope cl C X.env) fp) vx te) (hs : ∀ x, foldedSetIterable e X.env x = pure x := by intro _; rfl) :
    SDN X (.DictComp kx vx [⟨tg, e, ifs, 0⟩] scope pos) (mCompD mi (own.map (·.2)) bd tt tk te) :=
  PE.imp (pe_dc hc hN hi ok hg ht hk he hs) fun σ H Q h => compD_t hW h
/-- name = {..} on one line, the name a local -/
theorem ps_setDc {i : Nat} {y : Str} {py : Pos} {wi : TI} {g : TG} {tt : TT} {tk tv : TE} (hc : X.calm = true) (hN : X.N.Nodup) (hy : X.N[i]? = some y) (hyl : X.env.scope.names.lookup y = some .local)
    (hsw : swapsWith (.DictComp kx vx [⟨tg, e, ifs, 0⟩] scope pos) (some (.Name y py)) spos.line X.env = pure true) (hi : PI X tg e wi) (ok : BlkOk X.N X.env.scope scope own)
    (hg : ∀ (s : Shared) (H : Hp) (C : Addr) (cl : List (Str × Addr)) (fp : List Addr), PG (X.blk s H scope (compEnvC scope cl C X.env) fp) tg g) (ht : ∀ (s : Shared) (H : Hp) (C : Addr) (cl : List (Str × Addr)) (fp : List Addr), PTs (X.blk s H scope (compEnvC scope cl C X.env) fp) ifs tt)
    (hk : ∀ (s : Shared) (H : Hp) (C : Addr) (cl : List (Str × Addr)) (fp : List Addr), PE (X.blk s H scope (compEnvC scope cl C X.env) fp) kx tk)
    (he : ∀ (s : Shared) (H : Hp) (C : Addr) (cl : List (Str × Addr)) (fp : List Addr), PE (X.blk s H scope (compEnvC scope cl C X.env) fp) vx tv) (hs : ∀ x, foldedSetIterable e X.env x = pure x := by intro _; rfl) :
    PS X (.Assign [.Name y py] (.DictComp kx vx [⟨tg, e, ifs, 0⟩] scope pos) spos) (tAsg (tDc wi g tt tk tv (own.map (·.2))) (gName i)) := by
  refine ⟨fun pins s σ H D I h => ?_⟩
  rw [exec_Assign_Name_used _ _ _ _ hsw]
  refine wpAny_bind (wpAny_standAt (wpAny_bind ?_))
  show wpAny _ X.A (do let _ ← comprehension (.DictComp kx vx [⟨tg, e, ifs, 0⟩] scope pos) scope X.env (firstIterPos [⟨tg, e, ifs, 0⟩] pos) newDict false (eval e X.env) (some (assign (.Name y py) X.env))) _ _ s
  have h : tDc wi g tt tk tv (own.map (·.2)) σ H (fun x H1 => gName i x σ H1 D.nx) := h
  refine wpAny_bind (thn (dc_core (Qf := fun _ s' => SP X pins D .next s') hc hN I hi ok hg ht hk he hs h fun L C s' m H' I' q hn f => ?_) fun _ s' hq => wpAny_pure (wpAny_pure hq))
  show wpAny _ _ (assign (.Name y py) X.env (.ref L)) _ _ _
  refine wpAny_assign_Name (store_ok2 (v := V.ref L) I' hN hy (.inl hyl) rfl (fun s2 I2 ⟨a, sb, ha⟩ => ?_) (.inr hyl))
  obtain ⟨f0, f1, f2, f3, f4, f5⟩ := f
  have haC : C ≠ a := by
    rcases ha with z | z
    · rw [z]; exact f1
    · exact fun e => f4 y a z e.symm
  refine ⟨m, hn.sameBut sb haC, fun h3 sb3 => ?_⟩
  exact ⟨_, H', I2.turned (t' := s2.toks) (fun b o hb e => (sb3.2 b hb).trans e) f0 f1 f3 f4 f5, q⟩
theorem sw_trueD {kx vx : Expr} {gs : List Comprehension} {scope : Scope} {pos py : Pos} {y : Str} {l : Nat} {env : PySem.Env} (hk : env.scope.kind = .function) (hy : env.scope.names.lookup y = some .local) (hl : (py.line == pos.line) = true)
    (hn : (scope.names.any fun z => z.1 == y && (z.2 == .local || z.2 == .cell)) = false) : swapsWith (.DictComp kx vx gs scope pos) (some (.Name y py)) l env = pure true := by
  unfold swapsWith
  show (pure (env.blockKind == .function && env.kindOf y == some .local && py.line == pos.line && !(scope.names.any fun (n, k) => n == y && (k == .local || k == .cell))) : Sem Bool) = pure true
  have e1 : env.blockKind = .function := by unfold PySem.Env.blockKind; simp [hk]
  have e2 : env.kindOf y = some .local := hy
  rw [e1, e2, hl]
  have : (scope.names.any fun (n, k) => n == y && (k == .local || k == .cell)) = false := hn
  rw [this]
  rfl
theorem ss_ownDc {i : Nat} {y : Str} {py : Pos} {mi : M (List D × List Gd)} {W : List Nat} {bd : Bd} {tt : M Bool} {tk te : M D} (hc : X.calm = true) (hN : X.N.Nodup) (hy : X.N[i]? = some y) (hyl : X.env.scope.names.lookup y = some .local)
    (hsw : swapsWith (.DictComp kx vx [⟨tg, e, ifs, 0⟩] scope pos) (some (.Name y py)) spos.line X.env = pure true) (hi : SI X tg e mi) (ok : BlkOk X.N X.env.scope scope own) (hW : ∀ j ∈ W, j ∈ own.map (·.2))
    (hg : ∀ (s : Shared) (H : Hp) (C : Addr) (cl : List (Str × Addr)) (fp : List Addr), SG (X.blk s H scope (compEnvC scope cl C X.env) fp) tg W bd)
    (ht : ∀ (s : Shared) (H : Hp) (C : Addr) (cl : List (Str × Addr)) (fp : List Addr), SPs (X.blk s H scope (compEnvC scope cl C X.env) fp) ifs tt)
    (hk : ∀ (s : Shared) (H : Hp) (C : Addr) (cl : List (Str × Addr)) (fp : List Addr), SE (X.blk s H scope (compEnvC scope cl C X.env) fp) kx tk)
    (he : ∀ (s : Shared) (H : Hp) (C : Addr) (cl : List (Str × Addr)) (fp : List Addr), SE (X.blk s H scope (compEnvC scope cl C X.env) fp) vx te) (hs : ∀ x, foldedSetIterable e X.env x = pure x := by intro _; rfl) :
    SS X (.Assign [.Name y py] (.DictComp kx vx [⟨tg, e, ifs, 0⟩] scope pos) spos) (mOwnD i (mCompD mi (own.map (·.2)) bd tt tk te)) :=
  PS.imp (ps_setDc hc hN hy hyl hsw hi ok hg ht hk he hs) fun Dn σ H h => compD_t hW (ownD_t h)
end
end ML
set_option maxRecDepth 100000
/-! ML17: the law's own head. -/
namespace ML
open PySem PySem.Spec PyProof.Rows L2
theorem law_sp {K : PySem.W.Frag} {f : FV} {H : Hp} {a : Addr} {ns : List Int} {st' : Sto} {EE : XK} (hf : f [.bor (.list (ns.map PyData.int))] [] = some (.bool true, st')) (hS : SqL K H a (ns.map V.int)) : spV K 1 f [.ref a] H (fun v _ => v = .bl true) EE := by
  have r : RpAll K (alls [] ++ Hid.all ([], [])) H (ns.map V.int) (ns.map PyData.int) := RpAll.of_ints ns
  refine ⟨[], ([], []), [.bor (.list (ns.map PyData.int))], [], .bool true, st', rfl, ⟨List.nodup_nil, fun b hb => (by cases hb), List.nodup_nil, fun b hb => (by cases hb), rfl, fun i e h => ?_, .nil⟩, hf, fun v κ' H' _ _ _ rv => by cases rv; rfl⟩
  cases i with
  | zero =>
    have h : some (some (ML.E.bor (.list (ns.map PyData.int)))) = some (some e) := h
    cases h
    refine ⟨.ref a, rfl, ?_⟩
    rcases hS with hS | hS
    · exact .bor hS (fun z => by cases z) r
    · exact .mdl hS r
  | succ i => cases h
end ML
set_option maxRecDepth 100000
/-! ML18: the words of the mirrors, opened. -/
namespace ML
open PySem PySem.Spec PyProof.Rows L2
/-! bind and map whose second argument is not looked into -/
inductive Dm {α : Sort u} (a : α) : Type | mk
def _root_.Option.bd {α β : Type} (m : Option α) (f : α → Option β) (_ : Dm f := .mk) : Option β := m.bind f
def _root_.Option.mp {α β : Type} (m : Option α) (f : α → β) (_ : Dm f := .mk) : Option β := m.map f
@[simp] theorem bd_some {α β : Type} (a : α) (f : α → Option β) (u : Dm f) : Option.bd (some a) f u = f a := id rfl
@[simp] theorem bd_none {α β : Type} (f : α → Option β) (u : Dm f) : Option.bd none f u = none := id rfl
@[simp] theorem mp_some {α β : Type} (a : α) (f : α → β) (u : Dm f) : Option.mp (some a) f u = some (f a) := id rfl
@[simp] theorem mp_none {α β : Type} (f : α → β) (u : Dm f) : Option.mp none f u = none := id rfl
@[simp] theorem e_mD (d : D) (env : Env) (st : Sto) : mD d env st = some (d, st) := id rfl
@[simp] theorem e_mV (i : Nat) (env : Env) (st : Sto) : mV i env st = match env[i]? with
  | some (some (.val d)) => some (d, st)
  | _ => none := id rfl
@[simp] theorem e_oV (m : M D) (env : Env) (st : Sto) : oV m env st = match m env st with
  | some (d, s) => some (.v d, s)
  | none => none := id rfl
@[simp] theorem e_oS (i : Nat) (env : Env) (st : Sto) : oS i env st = match env[i]? with
  | some (some _) => some (.s i, st)
  | _ => none := id rfl
@[simp] theorem e_mL (m : M (List D)) (env : Env) (st : Sto) : mL m env st = match m env st with
  | some (ds, s) => some (.list ds, s)
  | none => none := id rfl
@[simp] theorem e_mBin (g : D → D → Option D) (ma mb : M Opd) (env : Env) (st : Sto) : mBin g ma mb env st = (ma env st).bd fun p => (mb env p.2).bd fun q => (res env q.2 p.1).bd fun x => (res env q.2 q.1).bd fun y => (g x y).mp fun d => (d, q.2) := id rfl
@[simp] theorem e_mB (m : M D) (env : Env) (st : Sto) : mB m env st = (m env st).bd fun p => (asB p.1).mp fun b => (b, p.2) := id rfl
@[simp] theorem e_mAnd (s t : M Bool) (env : Env) (st : Sto) : mAnd s t env st = (s env st).bd fun p => if p.1 = true then t env p.2 else some (false, p.2) := id rfl
@[simp] theorem e_mOr (s t : M Bool) (env : Env) (st : Sto) : mOr s t env st = (s env st).bd fun p => if p.1 = true then some (true, p.2) else t env p.2 := id rfl
@[simp] theorem e_mNot (s : M Bool) (env : Env) (st : Sto) : mNot s env st = (s env st).mp fun p => (!p.1, p.2) := id rfl
@[simp] theorem e_mOfB (m : M Bool) (env : Env) (st : Sto) : mOfB m env st = (m env st).mp fun p => (.bool p.1, p.2) := id rfl
@[simp] theorem e_mAndV (s t : M D) (env : Env) (st : Sto) : mAndV s t env st = (s env st).bd fun p => (asB p.1).bd fun c => if c = true then t env p.2 else some (.bool false, p.2) := id rfl
@[simp] theorem e_mOrV (s t : M D) (env : Env) (st : Sto) : mOrV s t env st = (s env st).bd fun p => (asB p.1).bd fun c => if c = true then some (.bool true, p.2) else t env p.2 := id rfl
@[simp] theorem e_mNotV (s : M D) (env : Env) (st : Sto) : mNotV s env st = (s env st).bd fun p => (asB p.1).mp fun c => (.bool (!c), p.2) := id rfl
@[simp] theorem e_mIf (t : M Bool) (x y : M D) (env : Env) (st : Sto) : mIf t x y env st = (t env st).bd fun p => if p.1 = true then x env p.2 else y env p.2 := id rfl
@[simp] theorem e_mIsN (m : M Opd) (env : Env) (st : Sto) : mIsN m env st = (m env st).bd fun p => (res env p.2 p.1).mp fun d => (.bool (isN d), p.2) := id rfl
@[simp] theorem e_mNotN (m : M Opd) (env : Env) (st : Sto) : mNotN m env st = (m env st).bd fun p => (res env p.2 p.1).mp fun d => (.bool (!isN d), p.2) := id rfl
@[simp] theorem e_mAdd (ma mb : M Opd) (env : Env) (st : Sto) : mAdd ma mb env st = mBin gAdd ma mb env st := id rfl
@[simp] theorem e_mSub (ma mb : M Opd) (env : Env) (st : Sto) : mSub ma mb env st = mBin (gI fun i j => some (i - j)) ma mb env st := id rfl
@[simp] theorem e_mMul (ma mb : M Opd) (env : Env) (st : Sto) : mMul ma mb env st = mBin gMulA ma mb env st := id rfl
@[simp] theorem e_mDiv (ma mb : M Opd) (env : Env) (st : Sto) : mDiv ma mb env st = mBin (gI gDiv) ma mb env st := id rfl
@[simp] theorem e_mMod (ma mb : M Opd) (env : Env) (st : Sto) : mMod ma mb env st = mBin (gI gMod) ma mb env st := id rfl
@[simp] theorem e_mPow (ma mb : M Opd) (env : Env) (st : Sto) : mPow ma mb env st = mBin (gI gPow) ma mb env st := id rfl
@[simp] theorem e_mLt (ma mb : M Opd) (env : Env) (st : Sto) : mLt ma mb env st = mBin (gIB fun i j => decide (i < j)) ma mb env st := id rfl
@[simp] theorem e_mLe (ma mb : M Opd) (env : Env) (st : Sto) : mLe ma mb env st = mBin (gIB fun i j => decide (i ≤ j)) ma mb env st := id rfl
@[simp] theorem e_mGt (ma mb : M Opd) (env : Env) (st : Sto) : mGt ma mb env st = mBin (gIB fun i j => decide (j < i)) ma mb env st := id rfl
@[simp] theorem e_mGe (ma mb : M Opd) (env : Env) (st : Sto) : mGe ma mb env st = mBin (gIB fun i j => decide (j ≤ i)) ma mb env st := id rfl
@[simp] theorem e_mEq (ma mb : M Opd) (env : Env) (st : Sto) : mEq ma mb env st = mBin gEq ma mb env st := id rfl
@[simp] theorem e_mNe (ma mb : M Opd) (env : Env) (st : Sto) : mNe ma mb env st = mBin gNe ma mb env st := id rfl
@[simp] theorem e_mIn (ma mb : M Opd) (env : Env) (st : Sto) : mIn ma mb env st = mBin gIn ma mb env st := id rfl
@[simp] theorem e_mNotIn (ma mb : M Opd) (env : Env) (st : Sto) : mNotIn ma mb env st = mBin gNotIn ma mb env st := id rfl
@[simp] theorem e_mChain (g g' : D → D → Option D) (ma mb mc : M Opd) (env : Env) (st : Sto) : mChain g g' ma mb mc env st = (ma env st).bd fun p => (mb env p.2).bd fun q => (res env q.2 p.1).bd fun x => (res env q.2 q.1).bd fun y => (g x y).bd fun d => (asB d).bd fun k =>
  if k = true then (mc env q.2).bd fun r => (res env r.2 q.1).bd fun y => (res env r.2 r.1).bd fun z => (g' y z).mp fun d => (d, r.2) else some (.bool false, q.2) := id rfl
@[simp] theorem e_mNeg (m : M D) (env : Env) (st : Sto) : mNeg m env st = (m env st).bd fun p => match p.1 with
  | .int i => some (.int (-i), p.2)
  | _ => none := id rfl
@[simp] theorem e_mIx (ma mb : M Opd) (env : Env) (st : Sto) : mIx ma mb env st = mBin gIx ma mb env st := id rfl
@[simp] theorem e_aNil (env : Env) (st : Sto) : aNil env st = some ([], st) := id rfl
@[simp] theorem e_aCons (m : M Opd) (r : M (List Opd)) (env : Env) (st : Sto) : aCons m r env st = (m env st).bd fun p => (r env p.2).mp fun q => (p.1 :: q.1, q.2) := id rfl
@[simp] theorem e_mTup (m : M (List Opd)) (env : Env) (st : Sto) : mTup m env st = (m env st).bd fun p => (vress env p.1).bd fun ds => if ds.length ≤ 1000000 then some (.tuple ds, p.2) else none := id rfl
@[simp] theorem e_nLst (m : M (List Opd)) (env : Env) (st : Sto) : nLst m env st = (m env st).bd fun p => (vress env p.1).bd fun ds => if ds.length ≤ 1000000 then some (ds, p.2) else none := id rfl
@[simp] theorem e_mCall (g : List D → Option D) (m : M (List Opd)) (env : Env) (st : Sto) : mCall g m env st = (m env st).bd fun p => (ress env p.2 p.1).bd fun ds => (g ds).mp fun d => (d, p.2) := id rfl
@[simp] theorem e_nCall (g : List D → Option (List D)) (m : M (List Opd)) (env : Env) (st : Sto) : nCall g m env st = (m env st).bd fun p => (ress env p.2 p.1).bd fun ds => (g ds).mp fun d => (d, p.2) := id rfl
@[simp] theorem e_mLen (m : M Opd) (env : Env) (st : Sto) : mLen m env st = mCall gLen (aCons m aNil) env st := id rfl
@[simp] theorem e_mInt (m : M Opd) (env : Env) (st : Sto) : mInt m env st = mCall gInt (aCons m aNil) env st := id rfl
@[simp] theorem e_mAbs (m : M Opd) (env : Env) (st : Sto) : mAbs m env st = mCall gAbs (aCons m aNil) env st := id rfl
@[simp] theorem e_mMin2 (m n : M Opd) (env : Env) (st : Sto) : mMin2 m n env st = mCall gMin2 (aCons m (aCons n aNil)) env st := id rfl
@[simp] theorem e_mMax2 (m n : M Opd) (env : Env) (st : Sto) : mMax2 m n env st = mCall gMax2 (aCons m (aCons n aNil)) env st := id rfl
@[simp] theorem e_mTuple (m : M Opd) (env : Env) (st : Sto) : mTuple m env st = mCall gTuple (aCons m aNil) env st := id rfl
@[simp] theorem e_nList (m : M Opd) (env : Env) (st : Sto) : nList m env st = nCall gList (aCons m aNil) env st := id rfl
@[simp] theorem e_nSorted (m : M Opd) (env : Env) (st : Sto) : nSorted m env st = nCall gSorted (aCons m aNil) env st := id rfl
@[simp] theorem e_mIsi (T : String) (m : M Opd) (env : Env) (st : Sto) : mIsi T m env st = (m env st).bd fun p => (res env p.2 p.1).mp fun d => (.bool (isT T d), p.2) := id rfl
@[simp] theorem e_nBin (g : D → D → Option (List D)) (ma mb : M Opd) (env : Env) (st : Sto) : nBin g ma mb env st = (ma env st).bd fun p => (mb env p.2).bd fun q => (res env q.2 p.1).bd fun x => (res env q.2 q.1).bd fun y => (g x y).mp fun d => (d, q.2) := id rfl
@[simp] theorem e_nCat (ma mb : M Opd) (env : Env) (st : Sto) : nCat ma mb env st = (ma env st).bd fun p => (mb env p.2).bd fun q => (sres env q.2 p.1).bd fun x => (sres env q.2 q.1).bd fun y => match x, y with
  | .list xs, .list ys => if xs.length + ys.length ≤ 1000000 then some (xs ++ ys, q.2) else none
  | _, _ => none := id rfl
@[simp] theorem e_nRep (ma mb : M Opd) (env : Env) (st : Sto) : nRep ma mb env st = (ma env st).bd fun p => (mb env p.2).bd fun q => (sres env q.2 p.1).bd fun x => (sres env q.2 q.1).bd fun y => match x, y with
  | .list xs, .int k => if small k = true ∧ xs.length * k.toNat ≤ 1000000 then some ((List.replicate k.toNat xs).flatten, q.2) else none
  | _, _ => none := id rfl
@[simp] theorem e_pNone (env : Env) (st : Sto) : pNone env st = some (none, st) := id rfl
@[simp] theorem e_pSome (m : M D) (env : Env) (st : Sto) : pSome m env st = (m env st).bd fun p => match p.1 with
  | .int i => some (some i, p.2)
  | _ => none := id rfl
@[simp] theorem e_nCut (m : M Opd) (l u : M (Option Int)) (env : Env) (st : Sto) : nCut m l u env st = (m env st).bd fun p => (l env p.2).bd fun q => (u env q.2).bd fun r => (res env r.2 p.1).bd fun x => match x with
  | .list xs => some (cutD xs q.1 r.1, r.2)
  | _ => none := id rfl
@[simp] theorem e_mCut (m : M Opd) (l u : M (Option Int)) (env : Env) (st : Sto) : mCut m l u env st = (m env st).bd fun p => (l env p.2).bd fun q => (u env q.2).bd fun r => (res env r.2 p.1).bd fun x => match x with
  | .tuple xs => some (.tuple (cutD xs q.1 r.1), r.2)
  | _ => none := id rfl
@[simp] theorem e_nRev (m : M Opd) (env : Env) (st : Sto) : nRev m env st = (m env st).bd fun p => (res env p.2 p.1).bd fun x => match x with
  | .list xs => some (xs.reverse, p.2)
  | _ => none := id rfl
@[simp] theorem e_nRange (m : M D) (env : Env) (st : Sto) : nRange m env st = (m env st).bd fun p => match p.1 with
  | .int n => if n ≤ 1000000 ∧ -1000000 ≤ n then some (rgD 0 n.toNat, p.2) else none
  | _ => none := id rfl
@[simp] theorem e_mNil (env : Env) (st : Sto) : mNil env st = some (.nx, env, st) := id rfl
@[simp] theorem e_mSeq (a b : S) (env : Env) (st : Sto) : mSeq a b env st = (a env st).bd fun p => match p.1 with
  | .nx => b p.2.1 p.2.2
  | f => some (f, p.2.1, p.2.2) := id rfl
@[simp] theorem e_mBrk (env : Env) (st : Sto) : mBrk env st = some (.brk, env, st) := id rfl
@[simp] theorem e_mCnt (env : Env) (st : Sto) : mCnt env st = some (.cnt, env, st) := id rfl
@[simp] theorem e_mIfS (t : M Bool) (a b : S) (env : Env) (st : Sto) : mIfS t a b env st = (t env st).bd fun p => if p.1 = true then a env p.2 else b env p.2 := id rfl
@[simp] theorem e_mRet (m : M D) (env : Env) (st : Sto) : mRet m env st = (m env st).mp fun p => (.ret p.1 none, env, p.2) := id rfl
@[simp] theorem e_mRetNone (env : Env) (st : Sto) : mRetNone env st = some (.ret .none none, env, st) := id rfl
@[simp] theorem e_mRetL (m : M (List D)) (env : Env) (st : Sto) : mRetL m env st = (m env st).mp fun p => (.retN p.1 none, env, p.2) := id rfl
@[simp] theorem e_mRetS (i : Nat) (env : Env) (st : Sto) : mRetS i env st = match env[i]? with
  | some (some (.val d)) => some (.ret d none, env, st)
  | some (some (.loc n)) => match st[n]? with
    | some (.lst ds) => some (.ret (.list ds) (some n), env, st)
    | some (.mat dss) => some (.ret (.list (dss.map .list)) (some n), env, st)
    | _ => none
  | _ => none := id rfl
@[simp] theorem e_mSet (i : Nat) (m : M D) (env : Env) (st : Sto) : mSet i m env st = (m env st).mp fun p => (.nx, env.set i (some (.val p.1)), p.2) := id rfl
@[simp] theorem e_mOwn (i : Nat) (m : M (List D)) (env : Env) (st : Sto) : mOwn i m env st = (m env st).mp fun p => (.nx, env.set i (some (.loc p.2.length)), p.2 ++ [.lst p.1]) := id rfl
@[simp] theorem e_mAlias (i j : Nat) (env : Env) (st : Sto) : mAlias i j env st = match env[j]? with
  | some (some y) => some (.nx, env.set i (some y), st)
  | _ => none := id rfl
@[simp] theorem e_mDict (i : Nat) (env : Env) (st : Sto) : mDict i env st = some (.nx, env.set i (some (.loc st.length)), st ++ [.dic []]) := id rfl
@[simp] theorem e_mAsg (bd : Bd) (m : M D) (env : Env) (st : Sto) : mAsg bd m env st = (m env st).bd fun p => (bd p.1 env).mp fun env' => (.nx, env', p.2) := id rfl
@[simp] theorem e_mPar (i j : Nat) (m : M (List Opd)) (env : Env) (st : Sto) : mPar i j m env st = (m env st).bd fun p => match p.1 with
  | [o, o'] => (vres env o).bd fun d => (vres env o').mp fun d' => (.nx, (env.set i (some (.val d))).set j (some (.val d')), p.2)
  | _ => none := id rfl
@[simp] theorem e_mSetIx (i : Nat) (mi m : M D) (env : Env) (st : Sto) : mSetIx i mi m env st = (m env st).bd fun p => (mi env p.2).bd fun q => (slotL env q.2 i).bd fun r => match q.1 with
  | .int k => (ixN r.2.length k).mp fun j => (.nx, env, q.2.set r.1 (.lst (r.2.set j p.1)))
  | _ => none := id rfl
@[simp] theorem e_mAugIx (i : Nat) (mi m : M D) (env : Env) (st : Sto) : mAugIx i mi m env st = (mi env st).bd fun q => match q.1 with
  | .int k => (slotL env q.2 i).bd fun r => (atI r.2 k).bd fun x => (m env q.2).bd fun p => (slotL env p.2 i).bd fun r2 => (ixN r2.2.length k).bd fun j => match x, p.1 with
    | .int a, .int b => some (.nx, env, p.2.set r2.1 (.lst (r2.2.set j (.int (a + b)))))
    | _, _ => none
  | _ => none := id rfl
@[simp] theorem e_mAug (i : Nat) (m : M D) (env : Env) (st : Sto) : mAug i m env st = match env[i]? with
  | some (some (.val (.int a))) => (m env st).bd fun p => match p.1 with
    | .int b => some (.nx, env.set i (some (.val (.int (a + b)))), p.2)
    | _ => none
  | _ => none := id rfl
@[simp] theorem e_mAugSub (i : Nat) (m : M D) (env : Env) (st : Sto) : mAugSub i m env st = match env[i]? with
  | some (some (.val (.int a))) => (m env st).bd fun p => match p.1 with
    | .int b => some (.nx, env.set i (some (.val (.int (a - b)))), p.2)
    | _ => none
  | _ => none := id rfl
@[simp] theorem e_oRow (i : Nat) (mi : M D) (env : Env) (st : Sto) : oRow i mi env st = (mi env st).bd fun q => match q.1 with
  | .int k => (slotM env q.2 i).bd fun r => (ixN r.2.length k).mp fun j => (.r i j, q.2)
  | _ => none := id rfl
@[simp] theorem e_mAppend (i : Nat) (m : M D) (env : Env) (st : Sto) : mAppend i m env st = (slotL env st i).bd fun _ => (m env st).bd fun p => (slotL env p.2 i).bd fun r => if r.2.length < 1000000 then some (.nx, env, p.2.set r.1 (.lst (r.2 ++ [p.1]))) else none := id rfl
@[simp] theorem e_mAppendR (mo : M Opd) (m : M D) (env : Env) (st : Sto) : mAppendR mo m env st = (mo env st).bd fun q => match q.1 with
  | .r i j => (res env q.2 (.r i j)).bd fun _ => (m env q.2).bd fun p => (slotM env p.2 i).bd fun r => (r.2[j]?).bd fun ds => if ds.length < 1000000 then some (.nx, env, p.2.set r.1 (.mat (r.2.set j (ds ++ [p.1])))) else none
  | _ => none := id rfl
@[simp] theorem e_mReverse (i : Nat) (env : Env) (st : Sto) : mReverse i env st = (slotL env st i).mp fun r => (.nx, env, st.set r.1 (.lst r.2.reverse)) := id rfl
@[simp] theorem e_mPop (i : Nat) (env : Env) (st : Sto) : mPop i env st = (slotL env st i).bd fun r => (r.2[r.2.length - 1]?).mp fun d => (d, st.set r.1 (.lst r.2.dropLast)) := id rfl
@[simp] theorem e_mPopAt (i : Nat) (m : M D) (env : Env) (st : Sto) : mPopAt i m env st = (slotL env st i).bd fun _ => (m env st).bd fun p => (slotL env p.2 i).bd fun r => match p.1 with
  | .int k => if small k = true then (seqIndex? k r.2.length).bd fun j => (r.2[j]?).mp fun d => (d, p.2.set r.1 (.lst (r.2.eraseIdx j))) else none
  | _ => none := id rfl
@[simp] theorem e_mDIn (m : M D) (i : Nat) (env : Env) (st : Sto) : mDIn m i env st = (m env st).bd fun p => (slotD env p.2 i).bd fun r => (keyD p.1).mp fun k => (.bool (dGet r.2 k).isSome, p.2) := id rfl
@[simp] theorem e_mDNotIn (m : M D) (i : Nat) (env : Env) (st : Sto) : mDNotIn m i env st = (m env st).bd fun p => (slotD env p.2 i).bd fun r => (keyD p.1).mp fun k => (.bool (!(dGet r.2 k).isSome), p.2) := id rfl
@[simp] theorem e_mDGet (i : Nat) (m : M D) (env : Env) (st : Sto) : mDGet i m env st = (m env st).bd fun p => (slotD env p.2 i).bd fun r => (keyD p.1).bd fun k => (dGet r.2 k).mp fun d => (d, p.2) := id rfl
@[simp] theorem e_mDPut (i : Nat) (mk m : M D) (env : Env) (st : Sto) : mDPut i mk m env st = (m env st).bd fun p => (mk env p.2).bd fun r => (slotD env r.2 i).bd fun q => (keyD r.1).bd fun k => if q.2.length < 1000000 then some (.nx, env, r.2.set q.1 (.dic (dPut q.2 k p.1))) else none := id rfl
@[simp] theorem e_mDLen (i : Nat) (env : Env) (st : Sto) : mDLen i env st = (slotD env st i).mp fun r => (.int r.2.length, st) := id rfl
@[simp] theorem e_iSeq (m : M Opd) (env : Env) (st : Sto) : iSeq m env st = (m env st).bd fun p => (res env p.2 p.1).bd fun d => (itemsOf d).mp fun ds => ((ds, gOf env p.2 p.1), p.2) := id rfl
@[simp] theorem e_iRev (m : M Opd) (env : Env) (st : Sto) : iRev m env st = (iSeq m env st).mp fun p => ((p.1.1.reverse, p.1.2), p.2) := id rfl
@[simp] theorem e_iRg1 (m : M D) (env : Env) (st : Sto) : iRg1 m env st = (m env st).bd fun p => match p.1 with
  | .int j => if small j then some ((iota 0 j.toNat, []), p.2) else Option.none
  | _ => Option.none := id rfl
@[simp] theorem e_iRg2 (m n : M D) (env : Env) (st : Sto) : iRg2 m n env st = (m env st).bd fun p => (n env p.2).bd fun q => match p.1, q.1 with
  | .int i, .int j => if small i && small j then some ((iota i (j - i).toNat, []), q.2) else Option.none
  | _, _ => Option.none := id rfl
@[simp] theorem e_iEnum (m : M Opd) (env : Env) (st : Sto) : iEnum m env st = (iSeq m env st).mp fun p => ((numb p.1.1 0, p.1.2), p.2) := id rfl
@[simp] theorem e_iZip (m n : M Opd) (env : Env) (st : Sto) : iZip m n env st = (m env st).bd fun p => (n env p.2).bd fun q => (res env q.2 p.1).bd fun x => (res env q.2 q.1).bd fun y => (itemsOf x).bd fun xs => (itemsOf y).mp fun ys =>
  ((pairs xs ys, gOf env q.2 p.1 ++ gOf env q.2 q.1), q.2) := id rfl
@[simp] theorem e_mFor (mi : M (List D × List Gd)) (bd : Bd) (body : S) (env : Env) (st : Sto) : mFor mi bd body env st = (mi env st).bd fun p => mLoop p.1.2 bd body p.1.1 env p.2 := id rfl
@[simp] theorem e_mComp (mi : M (List D × List Gd)) (vs : List Nat) (bd : Bd) (tt : M Bool) (te : M D) (env : Env) (st : Sto) : mComp mi vs bd tt te env st = (mi env st).bd fun p => if p.1.1.length < 1000000 then mCompGo p.1.2 bd tt te p.1.1 (wipeE env vs) p.2 else Option.none := id rfl
@[simp] theorem e_mYes (env : Env) (st : Sto) : mYes env st = some (true, st) := id rfl
@[simp] theorem e_mArgs (io : List Bool) (ms : M (List Opd)) (env : Env) (st : Sto) : mArgs io ms env st = (ms env st).bd fun p => (argEs env p.2 io p.1 [] []).bd fun q => if q.2.1.Nodup ∧ (∀ b ∈ q.2.2, b ∉ q.2.1) then (pick p.2 q.2.1).mp fun stc => ((q.1, q.2.1, stc), p.2) else none := id rfl
@[simp] theorem e_mCallV (io : List Bool) (f : FV) (ms : M (List Opd)) (env : Env) (st : Sto) : mCallV io f ms env st = (mArgs io ms env st).bd fun p => (f p.1.1 p.1.2.2).mp fun r => (r.1, putB p.2 p.1.2.1 r.2) := id rfl
@[simp] theorem e_mCallN (io : List Bool) (f : FN) (ms : M (List Opd)) (env : Env) (st : Sto) : mCallN io f ms env st = (mArgs io ms env st).bd fun p => (f p.1.1 p.1.2.2).mp fun r => (r.1, putB p.2 p.1.2.1 r.2) := id rfl
@[simp] theorem e_mIsB (m n : M Opd) (env : Env) (st : Sto) : mIsB m n env st = mBin gIsB m n env st := id rfl
@[simp] theorem e_rV (m : M D) (env : Env) (st : Sto) : rV m env st = (m env st).mp fun p => ((p.1, none), p.2) := id rfl
@[simp] theorem e_rIf (t : M Bool) (x y : R) (env : Env) (st : Sto) : rIf t x y env st = (t env st).bd fun p => if p.1 = true then x env p.2 else y env p.2 := id rfl
@[simp] theorem e_rS (i : Nat) (env : Env) (st : Sto) : rS i env st = (slotR env st i).mp fun r => (r, st) := id rfl
@[simp] theorem e_mRetR (m : R) (env : Env) (st : Sto) : mRetR m env st = (m env st).mp fun p => (.ret p.1.1 p.1.2, env, p.2) := id rfl
@[simp] theorem e_mRetSN (i : Nat) (env : Env) (st : Sto) : mRetSN i env st = (slotL env st i).mp fun r => (.retN r.2 (some r.1), env, st) := id rfl
@[simp] theorem e_mStep (i k : Int) (m : M Opd) (env : Env) (st : Sto) : mStep i k m env st = (m env st).bd fun p => (res env p.2 p.1).bd fun d => match d with
  | .list ds => if (pickAt ds (stepIx ds.length i k)).length < 1000000 then some (pickAt ds (stepIx ds.length i k), p.2) else none
  | _ => none := id rfl
@[simp] theorem e_mCompM (mi : M (List D × List Gd)) (vs : List Nat) (bd : Bd) (tt : M Bool) (te : M (List D)) (env : Env) (st : Sto) : mCompM mi vs bd tt te env st = (mi env st).bd fun p => if p.1.1.length < 1000000 then mCompGoM p.1.2 bd tt te p.1.1 (wipeE env vs) p.2 else Option.none := id rfl
@[simp] theorem e_mOwnM (i : Nat) (m : M (List (List D))) (env : Env) (st : Sto) : mOwnM i m env st = (m env st).mp fun p => (.nx, env.set i (some (.loc p.2.length)), p.2 ++ [.mat p.1]) := id rfl
@[simp] theorem e_mCompD (mi : M (List D × List Gd)) (vs : List Nat) (bd : Bd) (tt : M Bool) (tk te : M D) (env : Env) (st : Sto) : mCompD mi vs bd tt tk te env st = (mi env st).bd fun p => if p.1.1.length < 1000000 then mCompGoD p.1.2 bd tt tk te p.1.1 (wipeE env vs) p.2 [] else Option.none := id rfl
@[simp] theorem e_mOwnD (i : Nat) (m : M (List (Key × D))) (env : Env) (st : Sto) : mOwnD i m env st = (m env st).mp fun p => (.nx, env.set i (some (.loc p.2.length)), p.2 ++ [.dic p.1]) := id rfl
@[simp] theorem e_res_v (env : Env) (st : Sto) (d : D) : res env st (.v d) = some d := id rfl
@[simp] theorem e_res_s (env : Env) (st : Sto) (i : Nat) : res env st (.s i) = match env[i]? with
  | some (some (.val d)) => some d
  | some (some (.bor d)) => some d
  | some (some (.loc n)) => match st[n]? with
    | some (.lst ds) => some (.list ds)
    | _ => none
  | _ => none := id rfl
@[simp] theorem e_res_r (env : Env) (st : Sto) (i k : Nat) : res env st (.r i k) = match env[i]? with
  | some (some (.loc n)) => match st[n]? with
    | some (.mat dss) => (dss[k]?).map .list
    | _ => none
  | _ => none := id rfl
@[simp] theorem e_ress_nil (env : Env) (st : Sto) : ress env st [] = some [] := id rfl
@[simp] theorem e_ress_cons (env : Env) (st : Sto) (o : Opd) (os : List Opd) : ress env st (o :: os) = (res env st o).bd fun d => (ress env st os).mp fun ds => d :: ds := id rfl
@[simp] theorem e_vres_v (env : Env) (d : D) : vres env (.v d) = some d := id rfl
@[simp] theorem e_vres_s (env : Env) (i : Nat) : vres env (.s i) = match env[i]? with
  | some (some (.val d)) => some d
  | _ => none := id rfl
@[simp] theorem e_vress_nil (env : Env) : vress env [] = some [] := id rfl
@[simp] theorem e_vress_cons (env : Env) (o : Opd) (os : List Opd) : vress env (o :: os) = (vres env o).bd fun d => (vress env os).mp fun ds => d :: ds := id rfl
@[simp] theorem e_gI (f : Int → Int → Option Int) (i j : Int) : gI f (.int i) (.int j) = (f i j).map .int := id rfl
@[simp] theorem e_gIB (f : Int → Int → Bool) (i j : Int) : gIB f (.int i) (.int j) = some (.bool (f i j)) := id rfl
@[simp] theorem e_gAdd (i j : Int) : gAdd (.int i) (.int j) = some (.int (i + j)) := id rfl
@[simp] theorem e_gAddT (a b : List D) : gAdd (.tuple a) (.tuple b) = if a.length + b.length ≤ 1000000 then some (.tuple (a ++ b)) else none := id rfl
@[simp] theorem e_gMulA (i j : Int) : gMulA (.int i) (.int j) = (gMul i j).map .int := by
  show ((gMul i j).map PyData.int).or none = _
  cases gMul i j <;> rfl
@[simp] theorem e_gLen (ds : List D) : gLen [.list ds] = some (.int ds.length) := id rfl
@[simp] theorem e_gLenT (ds : List D) : gLen [.tuple ds] = some (.int ds.length) := id rfl
@[simp] theorem e_gInt (i : Int) : gInt [.int i] = some (.int i) := id rfl
@[simp] theorem e_gAbs (i : Int) : gAbs [.int i] = some (.int i.natAbs) := by
  unfold gAbs
  simp only
  congr 2
  split <;> omega
@[simp] theorem e_gMin2 (i j : Int) : gMin2 [.int i, .int j] = some (.int (min i j)) := by
  unfold gMin2
  simp only
  congr 2
  split <;> omega
@[simp] theorem e_gMax2 (i j : Int) : gMax2 [.int i, .int j] = some (.int (max i j)) := by
  unfold gMax2
  simp only
  congr 2
  split <;> omega
@[simp] theorem e_gTuple (ds : List D) : gTuple [.list ds] = some (.tuple ds) := id rfl
@[simp] theorem e_gTupleT (ds : List D) : gTuple [.tuple ds] = some (.tuple ds) := id rfl
@[simp] theorem e_gList (ds : List D) : gList [.list ds] = some ds := id rfl
@[simp] theorem e_gListT (ds : List D) : gList [.tuple ds] = some ds := id rfl
@[simp] theorem e_gSorted (ns : List Int) : gSorted [.list (ns.map PyData.int)] = some ((sortI ns).map PyData.int) := by
  unfold gSorted
  simp only [ints?_map, Option.map_some]
@[simp] theorem e_asB (b : Bool) : asB (.bool b) = some b := id rfl
@[simp] theorem e_isN_none : isN .none = true := id rfl
@[simp] theorem e_isN_int (i : Int) : isN (.int i) = false := id rfl
@[simp] theorem e_isN_tup (ds : List D) : isN (.tuple ds) = false := id rfl
@[simp] theorem e_isN_bool (b : Bool) : isN (.bool b) = false := id rfl
@[simp] theorem e_isN_list (ds : List D) : isN (.list ds) = false := id rfl
@[simp] theorem e_isN_str (x : Str) : isN (.str x) = false := id rfl
@[simp] theorem e_items_l (ds : List D) : itemsOf (.list ds) = some ds := id rfl
@[simp] theorem e_items_t (ds : List D) : itemsOf (.tuple ds) = some ds := id rfl
@[simp] theorem e_gIxT (ds : List D) (i : Int) : gIx (.tuple ds) (.int i) = atI ds i := id rfl
@[simp] theorem e_gIxL (ds : List D) (i : Int) : gIx (.list ds) (.int i) = atI ds i := id rfl
@[simp] theorem e_gOf_v (env : Env) (st : Sto) (d : D) : gOf env st (.v d) = [] := id rfl
@[simp] theorem e_gOf_s (env : Env) (st : Sto) (i : Nat) : gOf env st (.s i) = match env[i]? with
    | some (some (.loc n)) => match st[n]? with
      | some (.lst ds) => [(n, Option.none, ds)]
      | _ => []
    | _ => [] := id rfl
@[simp] theorem e_gOk_nil (st : Sto) : gOk [] st = True := id rfl
@[simp] theorem e_gOk_one (st : Sto) (n : Nat) (ds : List D) : gOk [(n, Option.none, ds)] st = (st[n]? = some (.lst ds) ∧ True) := id rfl
@[simp] theorem e_bName (i : Nat) (d : D) (env : Env) : bName i d env = some (env.set i (some (.val d))) := id rfl
@[simp] theorem e_bTup (bs : List Bd) (ds : List D) (env : Env) : bTup bs (.tuple ds) env = bAll bs ds env := id rfl
@[simp] theorem e_bAll_nil (env : Env) : bAll [] [] env = some env := id rfl
@[simp] theorem e_bAll_cons (b : Bd) (bs : List Bd) (d : D) (ds : List D) (env : Env) : bAll (b :: bs) (d :: ds) env = (b d env).bd fun env1 => bAll bs ds env1 := id rfl
@[simp] theorem e_slotL (env : Env) (st : Sto) (i : Nat) : slotL env st i = match env[i]? with
  | some (some (.loc n)) => match st[n]? with
    | some (.lst ds) => some (n, ds)
    | _ => none
  | _ => none := id rfl
@[simp] theorem e_slotD (env : Env) (st : Sto) (i : Nat) : slotD env st i = match env[i]? with
  | some (some (.loc n)) => match st[n]? with
    | some (.dic ds) => some (n, ds)
    | _ => none
  | _ => none := id rfl
@[simp] theorem e_slotM (env : Env) (st : Sto) (i : Nat) : slotM env st i = match env[i]? with
  | some (some (.loc n)) => match st[n]? with
    | some (.mat ds) => some (n, ds)
    | _ => none
  | _ => none := id rfl
@[simp] theorem e_slotR (env : Env) (st : Sto) (i : Nat) : slotR env st i = match env[i]? with
  | some (some (.val d)) => some (d, none)
  | some (some (.loc n)) => match st[n]? with
    | some (.lst ds) => some (.list ds, some n)
    | some (.mat dss) => some (.list (dss.map .list), some n)
    | _ => none
  | _ => none := id rfl
@[simp] theorem e_keyI (i : Int) : keyD (.int i) = some (.inl i) := id rfl
@[simp] theorem e_keyS (x : Str) : keyD (.str x) = some (.inr x) := id rfl
@[simp] theorem e_argEs_nil (env : Env) (st : Sto) (ns bs : List Nat) : argEs env st [] [] ns bs = some ([], ns, bs) := id rfl
@[simp] theorem e_argEs_cons (env : Env) (st : Sto) (io : Bool) (ios : List Bool) (o : Opd) (os : List Opd) (ns bs : List Nat) : argEs env st (io :: ios) (o :: os) ns bs = (argE env st io ns bs o).bd fun p => (argEs env st ios os p.2.1 p.2.2).mp fun q => (p.1 :: q.1, q.2.1, q.2.2) := id rfl
@[simp] theorem e_argE_v (env : Env) (st : Sto) (io : Bool) (ns bs : List Nat) (d : D) : argE env st io ns bs (.v d) = some (.val d, ns, bs) := id rfl
@[simp] theorem e_argE_s (env : Env) (st : Sto) (io : Bool) (ns bs : List Nat) (i : Nat) : argE env st io ns bs (.s i) = match env[i]? with
    | some (some (.val d)) => some (.val d, ns, bs)
    | some (some (.bor d)) => some (.bor d, ns, bs)
    | some (some (.loc n)) => if io = true then some (.loc ns.length, ns ++ [n], bs) else match st[n]? with
      | some (.lst ds) => some (.bor (.list ds), ns, n :: bs)
      | _ => none
    | _ => none := id rfl
@[simp] theorem e_pick_nil (st : Sto) : pick st [] = some [] := id rfl
@[simp] theorem e_pick_cons (st : Sto) (n : Nat) (ns : List Nat) : pick st (n :: ns) = (st[n]?).bd fun o => (pick st ns).mp fun r => o :: r := id rfl
@[simp] theorem e_putB_nil {α : Type} (l : List α) : putB l [] [] = l := id rfl
@[simp] theorem e_putB_nil2 {α : Type} (l xs : List α) : putB l [] xs = l := by unfold putB; rfl
@[simp] theorem e_putB_cons {α : Type} (l : List α) (n : Nat) (ns : List Nat) (x : α) (xs : List α) : putB l (n :: ns) (x :: xs) = putB (l.set n x) ns xs := id rfl
@[simp] theorem e_mFn (N : Nat) (b : S) (es : List E) (st : Sto) : mFn N b es st = (b (startE N es) st).bd (fin st.length) := id rfl
@[simp] theorem e_mFnN (N : Nat) (b : S) (es : List E) (st : Sto) : mFnN N b es st = (b (startE N es) st).bd (finN st.length) := id rfl
@[simp] theorem e_startE (N : Nat) (es : List E) : startE N es = es.map some ++ List.replicate (N - es.length) none := id rfl
@[simp] theorem e_fin_nx (n : Nat) (env : Env) (st : Sto) : fin n (.nx, env, st) = some (.none, st.take n) := id rfl
@[simp] theorem e_fin_ret (n : Nat) (d : D) (env : Env) (st : Sto) : fin n (.ret d none, env, st) = some (d, st.take n) := id rfl
@[simp] theorem e_fin_retk (n k : Nat) (d : D) (env : Env) (st : Sto) : fin n (.ret d (some k), env, st) = if n ≤ k then some (d, st.take n) else none := id rfl
@[simp] theorem e_finN_ret (n : Nat) (d : List D) (env : Env) (st : Sto) : finN n (.retN d none, env, st) = some (d, st.take n) := id rfl
@[simp] theorem e_finN_retk (n k : Nat) (d : List D) (env : Env) (st : Sto) : finN n (.retN d (some k), env, st) = if n ≤ k then some (d, st.take n) else none := id rfl
@[simp] theorem e_wipe_nil (env : Env) : wipeE env [] = env := id rfl
@[simp] theorem e_wipe_cons (env : Env) (v : Nat) (vs : List Nat) : wipeE env (v :: vs) = (wipeE env vs).set v none := id rfl
theorem loop_nil (g : List Gd) (bd : Bd) (b : S) (env : Env) (st : Sto) (h : gOk g st) : mLoop g bd b [] env st = some (.nx, env, st) := by
  unfold mLoop
  rw [if_pos h]
theorem loop_cons (g : List Gd) (bd : Bd) (b : S) (d : D) (ds : List D) (env : Env) (st : Sto) (h : gOk g st) : mLoop g bd b (d :: ds) env st = (bd d env).bd fun env1 => (b env1 st).bd fun q => match q.1 with
      | .nx => mLoop g bd b ds q.2.1 q.2.2
      | .cnt => mLoop g bd b ds q.2.1 q.2.2
      | .brk => some (.nx, q.2.1, q.2.2)
      | f => some (f, q.2.1, q.2.2) := by
  conv => lhs; unfold mLoop
  rw [if_pos h]
  rfl
theorem comp_nil (g : List Gd) (bd : Bd) (tt : M Bool) (te : M D) (env : Env) (st : Sto) (h : gOk g st) : mCompGo g bd tt te [] env st = some ([], st) := by
  unfold mCompGo
  rw [if_pos h]
theorem comp_cons (g : List Gd) (bd : Bd) (tt : M Bool) (te : M D) (d : D) (ds : List D) (env : Env) (st : Sto) (h : gOk g st) : mCompGo g bd tt te (d :: ds) env st = (bd d env).bd fun env1 => (tt env1 st).bd fun p => if p.1 = true then (te env1 p.2).bd fun y => (mCompGo g bd tt te ds env y.2).mp fun r => (y.1 :: r.1, r.2) else mCompGo g bd tt te ds env p.2 := by
  conv => lhs; unfold mCompGo
  rw [if_pos h]
  rfl
theorem ixN_nat' (n k : Nat) : ixN n (k : Int) = if k < n then some k else none := by
  unfold ixN
  rw [if_pos (by omega)]
  by_cases h : k < n
  · rw [if_pos (by omega), if_pos h]; simp
  · rw [if_neg (by omega), if_neg h]
@[simp] theorem e_ixN_lit (n k : Nat) : ixN n (no_index (OfNat.ofNat k : Int)) = if k < n then some k else none := ixN_nat' n k
@[simp] theorem e_ixN_nat (n k : Nat) : ixN n (k : Int) = if k < n then some k else none := ixN_nat' n k
theorem atI_nat' {α : Type} (l : List α) (k : Nat) : atI l (k : Int) = l[k]? := by
  unfold atI
  rw [ixN_nat']
  by_cases h : k < l.length
  · rw [if_pos h]; rfl
  · rw [if_neg h, List.getElem?_eq_none (by omega)]; rfl
@[simp] theorem e_atI_lit {α : Type} (l : List α) (k : Nat) : atI l (no_index (OfNat.ofNat k : Int)) = l[k]? := atI_nat' l k
@[simp] theorem e_atI_nat {α : Type} (l : List α) (k : Nat) : atI l (k : Int) = l[k]? := atI_nat' l k
@[simp] theorem e_atI_last {α : Type} (l : List α) : atI l (-1) = l.getLast? := by
  unfold atI ixN
  rw [if_neg (by omega)]
  by_cases h : l = []
  · subst h; rfl
  · have : 0 < l.length := List.length_pos_iff.mpr h
    rw [if_pos (by omega), List.getLast?_eq_getElem?]
    show l[(-1 + (l.length : Int)).toNat]? = _
    congr 1
    omega
end ML
set_option maxRecDepth 100000
/-! ML19: more of the words, opened. -/
namespace ML
open PySem PySem.Spec PyProof.Rows L2
@[simp] theorem gMod_pos (i j : Int) (h : 0 < j) : gMod i j = some (i % j) := by unfold gMod; rw [if_pos h]
@[simp] theorem gDiv_pos (i j : Int) (h : 0 < j) (h2 : j < 1073741824) : gDiv i j = some (i / j) := by unfold gDiv; rw [if_pos ⟨h, h2⟩]
@[simp] theorem gMod_nat (i : Int) (m : Nat) (h : 0 < m) : gMod i m = some (i % m) := gMod_pos i m (by omega)
@[simp] theorem gDiv_nat (i : Int) (m : Nat) (h : 0 < m) (h2 : m < 1073741824) : gDiv i m = some (i / m) := gDiv_pos i m (by omega) (by omega)
theorem gMul_small (i j : Int) (h : -(2 ^ 64) < j ∧ j < 2 ^ 64) : gMul i j = some (i * j) := by unfold gMul; rw [if_pos (Or.inr h)]
theorem gMul_smallL (i j : Int) (h : -(2 ^ 64) < i ∧ i < 2 ^ 64) : gMul i j = some (i * j) := by unfold gMul; rw [if_pos (Or.inl h)]
@[simp] theorem gMul_lit (i : Int) (n : Nat) (h : decide (n < 2 ^ 64) = true) : gMul i (no_index (OfNat.ofNat n : Int)) = some (i * (OfNat.ofNat n : Int)) := gMul_small i _ (by have := of_decide_eq_true h; show -(2 ^ 64) < ((n : Nat) : Int) ∧ ((n : Nat) : Int) < 2 ^ 64; omega)
@[simp] theorem gMul_litL (i : Int) (n : Nat) (h : decide (n < 2 ^ 64) = true) : gMul (no_index (OfNat.ofNat n : Int)) i = some ((OfNat.ofNat n : Int) * i) := gMul_smallL _ i (by have := of_decide_eq_true h; show -(2 ^ 64) < ((n : Nat) : Int) ∧ ((n : Nat) : Int) < 2 ^ 64; omega)
/-- naturals as data -/
def nn (l : List Nat) : List D := l.map fun (n : Nat) => PyData.int (n : Int)
@[simp] theorem nn_nil : nn [] = [] := id rfl
@[simp] theorem nn_cons (n : Nat) (l : List Nat) : nn (n :: l) = .int n :: nn l := id rfl
@[simp] theorem nn_len (l : List Nat) : (nn l).length = l.length := by simp [nn]
@[simp] theorem nn_get (l : List Nat) (i : Nat) : (nn l)[i]? = (l[i]?).map fun n => .int (n : Int) := by simp [nn]
@[simp] theorem nn_getE (l : List Nat) (i : Nat) (h : i < (nn l).length) : (nn l)[i] = .int ((l[i]'(by simpa using h) : Nat) : Int) := by simp [nn]
theorem nn_app (a b : List Nat) : nn (a ++ b) = nn a ++ nn b := by simp [nn]
theorem nn_rev (a : List Nat) : nn a.reverse = (nn a).reverse := by simp [nn]
@[simp] theorem nn_fold (a b : List Nat) : nn a ++ nn b = nn (a ++ b) := (nn_app a b).symm
@[simp] theorem nn_fold1 (a : List Nat) (k : Nat) : nn a ++ [PyData.int (k : Int)] = nn (a ++ [k]) := (nn_app a [k]).symm
@[simp] theorem nn_frev (a : List Nat) : (nn a).reverse = nn a.reverse := (nn_rev a).symm
@[simp] theorem nn_frep (n k : Nat) : List.replicate n (PyData.int (k : Int)) = nn (List.replicate n k) := by simp [nn]
theorem iota_nn : ∀ (lo n : Nat), iota lo n = nn (List.range' lo n)
  | _, 0 => rfl
  | lo, n + 1 => by
    show PyData.int lo :: iota ((lo : Int) + 1) n = _
    have := iota_nn (lo + 1) n
    rw [show ((lo : Int) + 1) = ((lo + 1 : Nat) : Int) by omega, this]
    rfl
@[simp] theorem iota_zero (n : Nat) : iota 0 n = nn (List.range n) := by
  have := iota_nn 0 n
  rw [List.range_eq_range']
  exact this
@[simp] theorem rgD_zero (n : Nat) : rgD 0 n = nn (List.range n) := by
  unfold rgD nn
  congr 1
  funext i
  simp
@[simp] theorem small_lit (n : Nat) (h : decide (n < 2 ^ 62) = true) : small (no_index (OfNat.ofNat n : Int)) = true := by
  have := of_decide_eq_true h
  unfold small
  rw [Bool.and_eq_true, decide_eq_true_eq, decide_eq_true_eq]
  show -(2 ^ 62) ≤ ((n : Nat) : Int) ∧ ((n : Nat) : Int) < 2 ^ 62
  omega
theorem small_nat {n : Nat} (h : n < 2 ^ 62) : small (n : Int) = true := by
  unfold small
  rw [Bool.and_eq_true, decide_eq_true_eq, decide_eq_true_eq]
  omega
@[simp] theorem e_sres_v (env : Env) (st : Sto) (d : D) : sres env st (.v d) = some d := id rfl
@[simp] theorem e_sres_s (env : Env) (st : Sto) (i : Nat) : sres env st (.s i) = match env[i]? with
    | some (some (.val d)) => some d
    | some (some (.loc n)) => match st[n]? with
      | some (.lst ds) => some (.list ds)
      | _ => none
    | _ => none := rfl
/-- an entry that reads as the list (or tuple) ds -/
inductive Seq : E → List D → Prop
  | vl (ds : List D) : Seq (.val (.list ds)) ds
  | vt (ds : List D) : Seq (.val (.tuple ds)) ds
  | bl (ds : List D) : Seq (.bor (.list ds)) ds
/-- x in a list of naturals -/
theorem any_nn (n : Nat) : ∀ l : List Nat, (nn l).any (isI (n : Int)) = l.contains n
  | [] => rfl
  | m :: l => by
    rw [nn_cons, List.any_cons, any_nn n l, List.contains_cons]
    congr 1
    show ((m : Int) == (n : Int)) = (n == m)
    rw [Bool.eq_iff_iff, beq_iff_eq, beq_iff_eq]
    omega
theorem all_nn : ∀ l : List Nat, (nn l).all anI = true
  | [] => rfl
  | m :: l => by rw [nn_cons, List.all_cons, all_nn l]; rfl
@[simp] theorem e_gInL (n : Nat) (l : List Nat) : gIn (.int n) (.list (nn l)) = some (.bool (l.contains n)) := by
  show (if (nn l).all anI = true then some (PyData.bool ((nn l).any (isI n))) else none) = _
  rw [if_pos (all_nn l), any_nn]
@[simp] theorem e_gInT (n : Nat) (l : List Nat) : gIn (.int n) (.tuple (nn l)) = some (.bool (l.contains n)) := by
  show (if (nn l).all anI = true then some (PyData.bool ((nn l).any (isI n))) else none) = _
  rw [if_pos (all_nn l), any_nn]
@[simp] theorem loop_nil0 (bd : Bd) (b : S) (env : Env) (st : Sto) : mLoop [] bd b [] env st = some (.nx, env, st) := loop_nil [] bd b env st trivial
@[simp] theorem loop_cons0 (bd : Bd) (b : S) (d : D) (ds : List D) (env : Env) (st : Sto) : mLoop [] bd b (d :: ds) env st = (bd d env).bd fun env1 => (b env1 st).bd fun q => match q.1 with
      | .nx => mLoop [] bd b ds q.2.1 q.2.2
      | .cnt => mLoop [] bd b ds q.2.1 q.2.2
      | .brk => some (.nx, q.2.1, q.2.2)
      | f => some (f, q.2.1, q.2.2) := loop_cons [] bd b d ds env st trivial
@[simp] theorem comp_nil0 (bd : Bd) (tt : M Bool) (te : M D) (env : Env) (st : Sto) : mCompGo [] bd tt te [] env st = some ([], st) := comp_nil [] bd tt te env st trivial
@[simp] theorem comp_cons0 (bd : Bd) (tt : M Bool) (te : M D) (d : D) (ds : List D) (env : Env) (st : Sto) : mCompGo [] bd tt te (d :: ds) env st = (bd d env).bd fun env1 => (tt env1 st).bd fun p => if p.1 = true then (te env1 p.2).bd fun y => (mCompGo [] bd tt te ds env y.2).mp fun r => (y.1 :: r.1, r.2) else mCompGo [] bd tt te ds env p.2 := comp_cons [] bd tt te d ds env st trivial
theorem perm_erase {α : Type} : ∀ (l : List α) (i : Nat) (h : i < l.length), (l[i] :: l.eraseIdx i).Perm l
  | [], i, h => absurd h (by simp)
  | x :: l, 0, _ => List.Perm.refl _
  | x :: l, i + 1, h => by
    have hi : i < l.length := by simpa using h
    have := perm_erase l i hi
    show (l[i] :: x :: l.eraseIdx i).Perm (x :: l)
    exact (List.Perm.swap x l[i] (l.eraseIdx i)).trans (List.Perm.cons x this)
@[simp] theorem e_seqIx (k n : Nat) : seqIndex? (k : Int) n = if k < n then some k else none := by
  by_cases h : k < n
  · rw [if_pos h, seqIndex_of (by omega) (by omega)]; simp
  · rw [if_neg h]
    unfold seqIndex?
    have : ¬ ((k : Int) < 0) := by omega
    simp [this, h]
theorem cut_to (ds : List D) (k : Nat) : cutD ds none (some (k : Int)) = ds.take k := by
  unfold cutD
  rw [HT.sIx_none, HT.sIx_nat]
  simp
theorem cut_from (ds : List D) (k : Nat) : cutD ds (some (k : Int)) none = ds.drop k := by
  unfold cutD
  rw [HT.sIx_none, HT.sIx_nat, List.take_of_length_le (by rw [List.length_drop]; omega)]
  by_cases h : k ≤ ds.length
  · rw [Nat.min_eq_left h]
  · rw [Nat.min_eq_right (by omega), List.drop_length, List.drop_of_length_le (by omega)]
@[simp] theorem nn_take (l : List Nat) (k : Nat) : (nn l).take k = nn (l.take k) := by simp [nn, List.map_take]
@[simp] theorem nn_drop (l : List Nat) (k : Nat) : (nn l).drop k = nn (l.drop k) := by simp [nn, List.map_drop]
@[simp] theorem e_gEqI (i j : Int) : gEq (.int i) (.int j) = some (.bool (decide (i = j))) := by
  have h : PyData.eqv (.int i) (.int j) = decide (i = j) := by
    simp only [PyData.eqv]
    rw [Bool.eq_iff_iff, beq_iff_eq, decide_eq_true_eq]
  unfold gEq
  rw [if_pos ⟨rfl, rfl⟩, h]
@[simp] theorem e_gNeI (i j : Int) : gNe (.int i) (.int j) = some (.bool (!decide (i = j))) := by
  have h : PyData.eqv (.int i) (.int j) = decide (i = j) := by
    simp only [PyData.eqv]
    rw [Bool.eq_iff_iff, beq_iff_eq, decide_eq_true_eq]
  unfold gNe
  rw [if_pos ⟨rfl, rfl⟩, h]
@[simp] theorem e_gEqB (i j : Bool) : gEq (.bool i) (.bool j) = some (.bool (i == j)) := by
  unfold gEq
  rw [if_pos ⟨rfl, rfl⟩]
  rfl
@[simp] theorem e_gEqBI (b : Bool) (j : Int) : gEq (.bool b) (.int j) = some (.bool ((if b then 1 else 0) == j)) := by
  unfold gEq
  rw [if_pos ⟨rfl, rfl⟩]
  rfl
/-- [x for x in js if ..]: the test writes nothing -/
theorem comp_keep (i : Nat) (tt : M Bool) (env : Env) (st : Sto) (f : Nat → Bool) (hi : i < env.length) : ∀ js : List Nat, (∀ j ∈ js, tt (env.set i (some (.val (.int (j : Nat))))) st = some (f j, st)) → mCompGo [] (bName i) tt (mV i) (nn js) env st = some (nn (js.filter f), st) := by
  intro js
  induction js with
  | nil => intro _; simp
  | cons j js IH =>
    intro h
    have h1 := h j (by simp)
    have ih := IH fun x hx => h x (by simp [hx])
    cases hf : f j with
    | true =>
      rw [hf] at h1
      simp -implicitDefEqProofs [h1, ih, hi, hf]
    | false =>
      rw [hf] at h1
      simp -implicitDefEqProofs [h1, ih, hf]
/-- .. the test draws -/
theorem comp_draw {β : Type} (enc : β → Sto) (i : Nat) (tt : M Bool) (env : Env) (hi : i < env.length) (h : ∀ (j : Nat) (p : β), ∃ b p', tt (env.set i (some (.val (.int (j : Nat))))) (enc p) = some (b, enc p')) : ∀ (js : List Nat) (p : β), ∃ (l : List Nat) (p' : β), (∀ x ∈ l, x ∈ js) ∧ mCompGo [] (bName i) tt (mV i) (nn js) env (enc p) = some (nn l, enc p') := by
  intro js
  induction js with
  | nil => intro p; exact ⟨[], p, by simp, by simp⟩
  | cons j js IH =>
    intro p
    obtain ⟨b, p1, e1⟩ := h j p
    obtain ⟨l, p', hl, e2⟩ := IH p1
    cases b with
    | true => exact ⟨j :: l, p', fun x hx => by rcases List.mem_cons.mp hx with h | h <;> simp [h, hl], by simp -implicitDefEqProofs [e1, e2, hi]⟩
    | false => exact ⟨l, p', fun x hx => by simp [hl x hx], by simp -implicitDefEqProofs [e1, e2]⟩
/-- numbers by another's items -/
theorem comp_nums {α : Type} (en : α → D) (i : Nat) (te : M D) (env : Env) (st : Sto) (f : α → Nat) : ∀ js : List α, (∀ j ∈ js, te (env.set i (some (.val (en j)))) st = some (.int (f j), st)) → mCompGo [] (bName i) mYes te (js.map en) env st = some (nn (js.map f), st) := by
  intro js
  induction js with
  | nil => intro _; simp
  | cons j js IH =>
    intro h
    have h1 := h j (by simp)
    have ih := IH fun x hx => h x (by simp [hx])
    simp -implicitDefEqProofs [h1, ih]
end ML
set_option maxRecDepth 100000
set_option maxHeartbeats 4000000
namespace K13
open PySem PySem.Spec PyProof.Rows L2 ML
/-! ### the mirrors -/
noncomputable def B_shut_hands_1 : S := (mSeq (mIfS (mB (mDIn (mV 4) 1))
  (mSet 3 (mD (.bool true)))
  mNil)
  (mDPut 1 (mV 4) (mD (.bool true))))
theorem e_B_shut_hands_1 (env : ML.Env) (st : ML.Sto) : B_shut_hands_1 env st = (mSeq (mIfS (mB (mDIn (mV 4) 1))
  (mSet 3 (mD (.bool true)))
  mNil)
  (mDPut 1 (mV 4) (mD (.bool true)))) env st := id rfl
noncomputable def m_shut_hands : FV := mFn 5 (mSeq (mSet 3 (mD (.bool false)))
  (mSeq (mFor (iSeq (oV (mIx (oV (mIx (oS 0) (oV (mD (.int 1))))) (oS 2)))) (bName 4)
  B_shut_hands_1)
  (mRet (mV 3))))
noncomputable def B_seen_events_1 : S := (mDPut 3 (mV 7) (mD (.bool true)))
theorem e_B_seen_events_1 (env : ML.Env) (st : ML.Sto) : B_seen_events_1 env st = (mDPut 3 (mV 7) (mD (.bool true))) env st := id rfl
noncomputable def B_seen_events_2 : S := (mSeq (mSet 6 (mOrV (mIn (oS 5) (oS 2)) (mGt (oV (mLen (oV (mL (mComp (iSeq (oV (mIx (oV (mIx (oS 0) (oV (mD (.int 1))))) (oS 5)))) [7] (bName 7) (mB (mDIn (mV 7) 3)) (mV 7)))))) (oV (mD (.int 0))))))
  (mSeq (mIfS (mB (mV 6))
  (mFor (iSeq (oV (mIx (oV (mIx (oS 0) (oV (mD (.int 1))))) (oS 5)))) (bName 7)
  B_seen_events_1)
  mNil)
  (mAppend 4 (mV 6))))
theorem e_B_seen_events_2 (env : ML.Env) (st : ML.Sto) : B_seen_events_2 env st = (mSeq (mSet 6 (mOrV (mIn (oS 5) (oS 2)) (mGt (oV (mLen (oV (mL (mComp (iSeq (oV (mIx (oV (mIx (oS 0) (oV (mD (.int 1))))) (oS 5)))) [7] (bName 7) (mB (mDIn (mV 7) 3)) (mV 7)))))) (oV (mD (.int 0))))))
  (mSeq (mIfS (mB (mV 6))
  (mFor (iSeq (oV (mIx (oV (mIx (oS 0) (oV (mD (.int 1))))) (oS 5)))) (bName 7)
  B_seen_events_1)
  mNil)
  (mAppend 4 (mV 6)))) env st := id rfl
noncomputable def m_seen_events : FV := mFn 8 (mSeq (mDict 3)
  (mSeq (mOwn 4 (nLst aNil))
  (mSeq (mFor (iRev (oS 1)) (bName 5)
  B_seen_events_2)
  (mRet (mL (nRev (oS 4)))))))
noncomputable def m__law_box : FV := mFn 4 (mSeq (mSet 2 (mAdd (oV (mMul (oV (mD (.int 7919))) (oS 1))) (oV (mD (.int 1931)))))
  (mSeq (mIfS (mB (mLt (oS 1) (oV (mLen (oS 0)))))
  (mSet 2 (mAbs (oV (mInt (oV (mIx (oS 0) (oS 1)))))))
  (mIfS (mB (mGt (oV (mLen (oS 0))) (oV (mD (.int 0)))))
  (mSet 2 (mAdd (oS 2) (oV (mMul (oV (mMod (oV (mInt (oV (mAbs (oV (mInt (oV (mIx (oS 0) (oV (mMod (oV (mInt (oS 1))) (oV (mLen (oS 0))))))))))))) (oV (mD (.int 2147483563))))) (oV (mD (.int 48271)))))))
  mNil))
  (mSeq (mSet 3 (mIf (mB (mGe (oS 2) (oV (mPow (oV (mD (.int 10))) (oV (mD (.int 18))))))) (mV 2) (mD (.int 0))))
  (mRet (mL (nLst (aCons (oS 3) (aCons (oV (mAdd (oV (mMod (oV (mInt (oV (mAdd (oV (mMul (oV (mMod (oV (mInt (oS 2))) (oV (mD (.int 2147483563))))) (oV (mD (.int 40014))))) (oV (mMul (oV (mD (.int 1931))) (oS 1))))))) (oV (mD (.int 2147483563))))) (oV (mD (.int 1))))) aNil))))))))
noncomputable def n__law_box : FN := mFnN 4 (mSeq (mSet 2 (mAdd (oV (mMul (oV (mD (.int 7919))) (oS 1))) (oV (mD (.int 1931)))))
  (mSeq (mIfS (mB (mLt (oS 1) (oV (mLen (oS 0)))))
  (mSet 2 (mAbs (oV (mInt (oV (mIx (oS 0) (oS 1)))))))
  (mIfS (mB (mGt (oV (mLen (oS 0))) (oV (mD (.int 0)))))
  (mSet 2 (mAdd (oS 2) (oV (mMul (oV (mMod (oV (mInt (oV (mAbs (oV (mInt (oV (mIx (oS 0) (oV (mMod (oV (mInt (oS 1))) (oV (mLen (oS 0))))))))))))) (oV (mD (.int 2147483563))))) (oV (mD (.int 48271)))))))
  mNil))
  (mSeq (mSet 3 (mIf (mB (mGe (oS 2) (oV (mPow (oV (mD (.int 10))) (oV (mD (.int 18))))))) (mV 2) (mD (.int 0))))
  (mRetL (nLst (aCons (oS 3) (aCons (oV (mAdd (oV (mMod (oV (mInt (oV (mAdd (oV (mMul (oV (mMod (oV (mInt (oS 2))) (oV (mD (.int 2147483563))))) (oV (mD (.int 40014))))) (oV (mMul (oV (mD (.int 1931))) (oS 1))))))) (oV (mD (.int 2147483563))))) (oV (mD (.int 1))))) aNil)))))))
noncomputable def m__law_take : FV := mFn 4 (mSeq (mIfS (mB (mGt (oV (mIx (oS 0) (oV (mD (.int 0))))) (oV (mD (.int 0)))))
  (mSeq (mSet 3 (mMod (oV (mInt (oV (mIx (oS 0) (oV (mD (.int 0))))))) (oS 1)))
  (mSeq (mSetIx 0 (mD (.int 0)) (mDiv (oV (mIx (oS 0) (oV (mD (.int 0))))) (oS 1)))
  (mRet (mV 3))))
  mNil)
  (mSeq (mSet 2 (mMod (oV (mInt (oV (mAdd (oV (mMul (oV (mIx (oS 0) (oV (mD (.int 1))))) (oV (mD (.int 39373))))) (oV (mD (.int 982))))))) (oV (mD (.int 2147483647)))))
  (mSeq (mSetIx 0 (mD (.int 1)) (mAdd (oV (mMod (oV (mInt (oV (mAdd (oV (mMul (oS 2) (oV (mD (.int 40692))))) (oV (mD (.int 88))))))) (oV (mD (.int 2147483399))))) (oV (mD (.int 1)))))
  (mRet (mMod (oV (mInt (oV (mDiv (oV (mAdd (oV (mMul (oS 2) (oV (mD (.int 2147483629))))) (oV (mIx (oS 0) (oV (mD (.int 1))))))) (oV (mD (.int 8209))))))) (oS 1))))))
noncomputable def m__law_same : Nat → FV
  | 0 => fun _ _ => Option.none
  | n + 1 => mFn 4 (mSeq (mIfS (mB (mIsi "tuple" (oS 1)))
  (mSeq (mIfS (mOr (mNot (mB (mIsi "tuple" (oS 0)))) (mB (mNe (oV (mLen (oS 0))) (oV (mLen (oS 1))))))
  (mRet (mD (.bool false)))
  mNil)
  (mSeq (mFor (iZip (oS 0) (oS 1)) (bTup [(bName 2), (bName 3)])
  (mIfS (mNot (mB (mCallV [false, false] (m__law_same n) (aCons (oS 2) (aCons (oS 3) aNil)))))
  (mRet (mD (.bool false)))
  mNil))
  (mRet (mD (.bool true)))))
  mNil)
  (mSeq (mIfS (mB (mIsN (oS 1)))
  (mRet (mIsN (oS 0)))
  mNil)
  (mSeq (mIfS (mOr (mB (mIsB (oS 1) (oV (mD (.bool true))))) (mB (mIsB (oS 1) (oV (mD (.bool false))))))
  (mRet (mAndV (mIsi "bool" (oS 0)) (mEq (oS 0) (oS 1))))
  mNil)
  (mSeq (mIfS (mB (mIsi "int" (oS 1)))
  (mRet (mAndV (mIsi "int" (oS 0)) (mAndV (mNotV (mIsi "bool" (oS 0))) (mEq (oS 0) (oS 1)))))
  mNil)
  (mRet (mAndV (mIsi "str" (oS 0)) (mEq (oS 0) (oS 1))))))))
noncomputable def B__law_marks_1 : S := (mIfS (mB (mIx (oS 3) (oS 7)))
  (mSet 6 (mD (.bool true)))
  mNil)
theorem e_B__law_marks_1 (env : ML.Env) (st : ML.Sto) : B__law_marks_1 env st = (mIfS (mB (mIx (oS 3) (oS 7)))
  (mSet 6 (mD (.bool true)))
  mNil) env st := id rfl
noncomputable def B__law_marks_2 : S := (mSetIx 3 (mV 7) (mD (.bool true)))
theorem e_B__law_marks_2 (env : ML.Env) (st : ML.Sto) : B__law_marks_2 env st = (mSetIx 3 (mV 7) (mD (.bool true))) env st := id rfl
noncomputable def B__law_marks_3 : S := (mSeq (mSet 6 (mIn (oS 5) (oS 2)))
  (mSeq (mFor (iSeq (oV (mIx (oV (mIx (oS 0) (oV (mD (.int 1))))) (oS 5)))) (bName 7)
  B__law_marks_1)
  (mSeq (mIfS (mB (mV 6))
  (mFor (iSeq (oV (mIx (oV (mIx (oS 0) (oV (mD (.int 1))))) (oS 5)))) (bName 7)
  B__law_marks_2)
  mNil)
  (mAppend 4 (mV 6)))))
theorem e_B__law_marks_3 (env : ML.Env) (st : ML.Sto) : B__law_marks_3 env st = (mSeq (mSet 6 (mIn (oS 5) (oS 2)))
  (mSeq (mFor (iSeq (oV (mIx (oV (mIx (oS 0) (oV (mD (.int 1))))) (oS 5)))) (bName 7)
  B__law_marks_1)
  (mSeq (mIfS (mB (mV 6))
  (mFor (iSeq (oV (mIx (oV (mIx (oS 0) (oV (mD (.int 1))))) (oS 5)))) (bName 7)
  B__law_marks_2)
  mNil)
  (mAppend 4 (mV 6))))) env st := id rfl
noncomputable def m__law_marks : FV := mFn 8 (mSeq (mOwn 3 (nRep (oV (mL (nLst (aCons (oV (mD (.bool false))) aNil)))) (oV (mIx (oS 0) (oV (mD (.int 0)))))))
  (mSeq (mOwn 4 (nLst aNil))
  (mSeq (mFor (iRev (oS 1)) (bName 5)
  B__law_marks_3)
  (mSeq (mReverse 4)
  (mRetR (rS 4))))))
noncomputable def B__law_lanes_1 : S := (mAppendR (oRow 2 (mV 4)) (mV 3))
theorem e_B__law_lanes_1 (env : ML.Env) (st : ML.Sto) : B__law_lanes_1 env st = (mAppendR (oRow 2 (mV 4)) (mV 3)) env st := id rfl
noncomputable def B__law_lanes_2 : S := (mFor (iSeq (oV (mIx (oV (mIx (oS 0) (oV (mD (.int 1))))) (oS 3)))) (bName 4)
  B__law_lanes_1)
theorem e_B__law_lanes_2 (env : ML.Env) (st : ML.Sto) : B__law_lanes_2 env st = (mFor (iSeq (oV (mIx (oV (mIx (oS 0) (oV (mD (.int 1))))) (oS 3)))) (bName 4)
  B__law_lanes_1) env st := id rfl
noncomputable def m__law_lanes : FV := mFn 5 (mSeq (mOwnM 2 (mCompM (iRg1 (mIx (oS 0) (oV (mD (.int 0))))) [4] (bName 4) mYes (nLst aNil)))
  (mSeq (mFor (iSeq (oS 1)) (bName 3)
  B__law_lanes_2)
  (mRetR (rS 2))))
noncomputable def B__law_first_1 : S := (mIfS (mOr (mB (mGe (oV (mIx (oS 2) (oS 5))) (oV (mLen (oV (mIx (oS 1) (oS 5))))))) (mB (mNe (oV (mIx (oV (mIx (oS 1) (oS 5))) (oV (mIx (oS 2) (oS 5))))) (oS 3))))
  (mSeq (mSet 4 (mD (.bool true)))
  mBrk)
  mNil)
theorem e_B__law_first_1 (env : ML.Env) (st : ML.Sto) : B__law_first_1 env st = (mIfS (mOr (mB (mGe (oV (mIx (oS 2) (oS 5))) (oV (mLen (oV (mIx (oS 1) (oS 5))))))) (mB (mNe (oV (mIx (oV (mIx (oS 1) (oS 5))) (oV (mIx (oS 2) (oS 5))))) (oS 3))))
  (mSeq (mSet 4 (mD (.bool true)))
  mBrk)
  mNil) env st := id rfl
noncomputable def B__law_first_2 : S := (mSeq (mSet 4 (mD (.bool false)))
  (mSeq (mFor (iSeq (oV (mIx (oV (mIx (oS 0) (oV (mD (.int 1))))) (oS 3)))) (bName 5)
  B__law_first_1)
  (mIfS (mNot (mB (mV 4)))
  (mRet (mV 3))
  mNil)))
theorem e_B__law_first_2 (env : ML.Env) (st : ML.Sto) : B__law_first_2 env st = (mSeq (mSet 4 (mD (.bool false)))
  (mSeq (mFor (iSeq (oV (mIx (oV (mIx (oS 0) (oV (mD (.int 1))))) (oS 3)))) (bName 5)
  B__law_first_1)
  (mIfS (mNot (mB (mV 4)))
  (mRet (mV 3))
  mNil))) env st := id rfl
noncomputable def m__law_first : FV := mFn 6 (mSeq (mFor (iRg1 (mLen (oV (mIx (oS 0) (oV (mD (.int 1))))))) (bName 3)
  B__law_first_2)
  (mRet (mD (.int 0))))
noncomputable def m__law_part : FV := mFn 5 (mRet (mTuple (oV (mL (mComp (iZip (oS 0) (oS 1)) [3, 4] (bTup [(bName 3), (bName 4)]) (mB (mEq (oS 4) (oS 2))) (mV 3))))))
noncomputable def B_first_place_1 : S := (mSeq (mSet 6 (mCallV [false, true, false] m_shut_hands (aCons (oS 0) (aCons (oS 3) (aCons (oS 5) aNil)))))
  (mSeq (mIfS (mAnd (mNot (mB (mV 6))) (mB (mLt (oS 5) (oV (mIx (oS 1) (oS 2))))))
  (mSet 2 (mV 4))
  mNil)
  (mIfS (mB (mEq (oV (mDLen 3)) (oV (mIx (oS 0) (oV (mD (.int 0)))))))
  mBrk
  mNil)))
theorem e_B_first_place_1 (env : ML.Env) (st : ML.Sto) : B_first_place_1 env st = (mSeq (mSet 6 (mCallV [false, true, false] m_shut_hands (aCons (oS 0) (aCons (oS 3) (aCons (oS 5) aNil)))))
  (mSeq (mIfS (mAnd (mNot (mB (mV 6))) (mB (mLt (oS 5) (oV (mIx (oS 1) (oS 2))))))
  (mSet 2 (mV 4))
  mNil)
  (mIfS (mB (mEq (oV (mDLen 3)) (oV (mIx (oS 0) (oV (mD (.int 0)))))))
  mBrk
  mNil))) env st := id rfl
noncomputable def m_first_place : FV := mFn 7 (mSeq (mSet 2 (mD (.int 0)))
  (mSeq (mDict 3)
  (mSeq (mFor (iEnum (oS 1)) (bTup [(bName 4), (bName 5)])
  B_first_place_1)
  (mRet (mV 2)))))
noncomputable def m__law_pick : FV := mFn 2 (mRet (mIx (oS 1) (oV (mCallV [true, false] m__law_take (aCons (oS 0) (aCons (oV (mLen (oS 1))) aNil))))))
noncomputable def B__law_mixed_1 : S := (mAppend 3 (mPopAt 2 (mCallV [true, false] m__law_take (aCons (oS 0) (aCons (oV (mLen (oS 2))) aNil)))))
theorem e_B__law_mixed_1 (env : ML.Env) (st : ML.Sto) : B__law_mixed_1 env st = (mAppend 3 (mPopAt 2 (mCallV [true, false] m__law_take (aCons (oS 0) (aCons (oV (mLen (oS 2))) aNil))))) env st := id rfl
noncomputable def m__law_mixed : FV := mFn 5 (mSeq (mOwn 2 (nList (oS 1)))
  (mSeq (mOwn 3 (nLst aNil))
  (mSeq (mFor (iRg1 (mLen (oS 1))) (bName 4)
  B__law_mixed_1)
  (mRetR (rS 3)))))
noncomputable def B__law_least_1 : S := (mAugIx 3 (mV 7) (mD (.int 1)))
theorem e_B__law_least_1 (env : ML.Env) (st : ML.Sto) : B__law_least_1 env st = (mAugIx 3 (mV 7) (mD (.int 1))) env st := id rfl
noncomputable def B__law_least_2 : S := (mSeq (mSet 6 (mCallV [false, false, false] m__law_first (aCons (oS 0) (aCons (oS 2) (aCons (oS 3) aNil)))))
  (mSeq (mAppend 4 (mV 6))
  (mFor (iSeq (oV (mIx (oV (mIx (oS 0) (oV (mD (.int 1))))) (oS 6)))) (bName 7)
  B__law_least_1)))
theorem e_B__law_least_2 (env : ML.Env) (st : ML.Sto) : B__law_least_2 env st = (mSeq (mSet 6 (mCallV [false, false, false] m__law_first (aCons (oS 0) (aCons (oS 2) (aCons (oS 3) aNil)))))
  (mSeq (mAppend 4 (mV 6))
  (mFor (iSeq (oV (mIx (oV (mIx (oS 0) (oV (mD (.int 1))))) (oS 6)))) (bName 7)
  B__law_least_1))) env st := id rfl
noncomputable def m__law_least : FV := mFn 8 (mSeq (mSet 2 (mCallV [false, false] m__law_lanes (aCons (oS 0) (aCons (oS 1) aNil))))
  (mSeq (mOwn 3 (nRep (oV (mL (nLst (aCons (oV (mD (.int 0))) aNil)))) (oV (mIx (oS 0) (oV (mD (.int 0)))))))
  (mSeq (mOwn 4 (nLst aNil))
  (mSeq (mFor (iRg1 (mLen (oS 1))) (bName 5)
  B__law_least_2)
  (mRet (mTuple (oS 4)))))))
noncomputable def B_least_form_1 : S := (mAppend 3 (mPopAt 2 (mCallV [false, false] m_first_place (aCons (oS 0) (aCons (oS 2) aNil)))))
theorem e_B_least_form_1 (env : ML.Env) (st : ML.Sto) : B_least_form_1 env st = (mAppend 3 (mPopAt 2 (mCallV [false, false] m_first_place (aCons (oS 0) (aCons (oS 2) aNil))))) env st := id rfl
noncomputable def m_least_form : FV := mFn 5 (mSeq (mOwn 2 (nList (oS 1)))
  (mSeq (mOwn 3 (nLst aNil))
  (mSeq (mFor (iRg1 (mLen (oS 1))) (bName 4)
  B_least_form_1)
  (mRet (mTuple (oS 3))))))
noncomputable def B__law_web_1 : S := (mSeq (mSet 6 (mCallV [true, false] m__law_mixed (aCons (oS 0) (aCons (oV (mL (nRange (mV 1)))) aNil))))
  (mAppend 4 (mTuple (oV (mL (nSorted (oV (mL (nCut (oS 6) pNone (pSome (mMin2 (oS 1) (oV (mCallV [true, false] m__law_pick (aCons (oS 0) (aCons (oS 3) aNil)))))))))))))))
theorem e_B__law_web_1 (env : ML.Env) (st : ML.Sto) : B__law_web_1 env st = (mSeq (mSet 6 (mCallV [true, false] m__law_mixed (aCons (oS 0) (aCons (oV (mL (nRange (mV 1)))) aNil))))
  (mAppend 4 (mTuple (oV (mL (nSorted (oV (mL (nCut (oS 6) pNone (pSome (mMin2 (oS 1) (oV (mCallV [true, false] m__law_pick (aCons (oS 0) (aCons (oS 3) aNil))))))))))))))) env st := id rfl
noncomputable def m__law_web : FV := mFn 7 (mSeq (mSet 3 (mCallV [true, false] m__law_pick (aCons (oS 0) (aCons (oV (mL (nLst (aCons (oV (mL (nLst (aCons (oV (mD (.int 1))) aNil)))) (aCons (oV (mL (nLst (aCons (oV (mD (.int 1))) (aCons (oV (mD (.int 1))) (aCons (oV (mD (.int 1))) (aCons (oV (mD (.int 2))) aNil))))))) (aCons (oV (mL (nLst (aCons (oV (mD (.int 1))) (aCons (oV (mD (.int 2))) (aCons (oV (mD (.int 2))) (aCons (oV (mD (.int 3))) aNil))))))) (aCons (oV (mL (nLst (aCons (oV (mD (.int 1))) (aCons (oV (mD (.int 1))) (aCons (oV (mD (.int 2))) (aCons (oV (mD (.int 3))) (aCons (oV (mD (.int 4))) aNil)))))))) aNil))))))) aNil))))
  (mSeq (mOwn 4 (nLst aNil))
  (mSeq (mFor (iRg1 (mV 2)) (bName 5)
  B__law_web_1)
  (mRet (mTup (aCons (oS 1) (aCons (oV (mTuple (oS 4))) aNil)))))))
noncomputable def m__law_lane_web : FV := mFn 2 (mSeq (mOwn 1 (nLst (aCons (oV (mTup (aCons (oV (mD (.int 0))) aNil))) (aCons (oV (mTup (aCons (oV (mD (.int 1))) aNil))) (aCons (oV (mTup (aCons (oV (mD (.int 2))) aNil))) (aCons (oV (mTup (aCons (oV (mD (.int 3))) aNil))) (aCons (oV (mTup (aCons (oV (mD (.int 0))) (aCons (oV (mD (.int 1))) aNil)))) (aCons (oV (mTup (aCons (oV (mD (.int 1))) (aCons (oV (mD (.int 2))) aNil)))) (aCons (oV (mTup (aCons (oV (mD (.int 2))) (aCons (oV (mD (.int 3))) aNil)))) aNil)))))))))
  (mSeq (mAppend 1 (mTuple (oV (mL (nSorted (oV (mL (nCut (oV (mCallV [true, false] m__law_mixed (aCons (oS 0) (aCons (oV (mL (nRange (mD (.int 4))))) aNil)))) pNone (pSome (mAdd (oV (mD (.int 1))) (oV (mCallV [true, false] m__law_take (aCons (oS 0) (aCons (oV (mD (.int 4))) aNil))))))))))))))
  (mRet (mTup (aCons (oV (mD (.int 4))) (aCons (oV (mTuple (oV (mCallV [true, false] m__law_mixed (aCons (oS 0) (aCons (oS 1) aNil)))))) aNil))))))
noncomputable def B__law_bag_1 : S := (mSet 2 (mL (nCat (oS 2) (oV (mL (nRep (oV (mL (nLst (aCons (oS 3) aNil)))) (oV (mCallV [true, false] m__law_pick (aCons (oS 0) (aCons (oV (mL (nLst (aCons (oV (mD (.int 0))) (aCons (oV (mD (.int 1))) (aCons (oV (mD (.int 1))) (aCons (oV (mD (.int 2))) (aCons (oV (mIf (mB (mEq (oV (mLen (oV (mIx (oV (mIx (oS 1) (oV (mD (.int 1))))) (oS 3))))) (oV (mD (.int 1))))) (mD (.int 6)) (mD (.int 1)))) aNil)))))))) aNil))))))))))
theorem e_B__law_bag_1 (env : ML.Env) (st : ML.Sto) : B__law_bag_1 env st = (mSet 2 (mL (nCat (oS 2) (oV (mL (nRep (oV (mL (nLst (aCons (oS 3) aNil)))) (oV (mCallV [true, false] m__law_pick (aCons (oS 0) (aCons (oV (mL (nLst (aCons (oV (mD (.int 0))) (aCons (oV (mD (.int 1))) (aCons (oV (mD (.int 1))) (aCons (oV (mD (.int 2))) (aCons (oV (mIf (mB (mEq (oV (mLen (oV (mIx (oV (mIx (oS 1) (oV (mD (.int 1))))) (oS 3))))) (oV (mD (.int 1))))) (mD (.int 6)) (mD (.int 1)))) aNil)))))))) aNil)))))))))) env st := id rfl
noncomputable def m__law_bag : FV := mFn 4 (mSeq (mSet 2 (mL (nLst aNil)))
  (mSeq (mFor (iRg1 (mLen (oV (mIx (oS 1) (oV (mD (.int 1))))))) (bName 3)
  B__law_bag_1)
  (mRet (mIf (mB (mGt (oV (mLen (oS 2))) (oV (mD (.int 0))))) (mV 2) (mL (nRange (mLen (oV (mIx (oS 1) (oV (mD (.int 1))))))))))))
noncomputable def m__law_eye : FV := mFn 10 (mSeq (mSet 2 (mL (nRange (mLen (oV (mIx (oS 1) (oV (mD (.int 1)))))))))
  (mSeq (mSet 3 (mCallV [true, false] m__law_take (aCons (oS 0) (aCons (oV (mD (.int 9))) aNil))))
  (mSeq (mSet 4 (mL (nCut (oV (mCallV [true, false] m__law_mixed (aCons (oS 0) (aCons (oV (mL (nRange (mIx (oS 1) (oV (mD (.int 0))))))) aNil)))) pNone (pSome (mIf (mB (mLt (oS 3) (oV (mD (.int 2))))) (mD (.int 1)) (mAdd (oV (mD (.int 1))) (oV (mCallV [true, false] m__law_take (aCons (oS 0) (aCons (oV (mIx (oS 1) (oV (mD (.int 0))))) aNil))))))))))
  (mSeq (mSet 5 (mL (mComp (iSeq (oV (mIx (oS 1) (oV (mD (.int 1)))))) [7] (bName 7) mYes (mLen (oV (mL (mComp (iSeq (oS 4)) [9] (bName 9) (mB (mIn (oS 9) (oS 7))) (mV 9))))))))
  (mSeq (mIfS (mB (mLt (oS 3) (oV (mD (.int 3)))))
  (mSeq (mSet 6 (mL (mComp (iSeq (oS 2)) [8] (bName 8) (mB (mGt (oV (mIx (oS 5) (oS 8))) (oV (mD (.int 0))))) (mV 8))))
  (mRet (mIf (mB (mNe (oS 3) (oV (mD (.int 1))))) (mTuple (oS 6)) (mTuple (oV (mL (mComp (iSeq (oS 6)) [8] (bName 8) (mB (mEq (oV (mCallV [true, false] m__law_take (aCons (oS 0) (aCons (oV (mD (.int 2))) aNil)))) (oV (mD (.int 0))))) (mV 8))))))))
  mNil)
  (mSeq (mIfS (mB (mEq (oS 3) (oV (mD (.int 3)))))
  (mRet (mTuple (oV (mL (mComp (iSeq (oS 2)) [8] (bName 8) (mB (mEq (oV (mIx (oS 5) (oS 8))) (oV (mLen (oS 4))))) (mV 8))))))
  mNil)
  (mSeq (mIfS (mB (mEq (oS 3) (oV (mD (.int 4)))))
  (mRet (mTup aNil))
  mNil)
  (mSeq (mIfS (mB (mEq (oS 3) (oV (mD (.int 5)))))
  (mRet (mTuple (oS 2)))
  mNil)
  (mSeq (mIfS (mB (mEq (oS 3) (oV (mD (.int 6)))))
  (mRet (mTup (aCons (oV (mCallV [true, false] m__law_pick (aCons (oS 0) (aCons (oS 2) aNil)))) aNil)))
  mNil)
  (mRet (mTuple (oV (mL (mComp (iSeq (oS 2)) [8] (bName 8) (mB (mEq (oV (mCallV [true, false] m__law_take (aCons (oS 0) (aCons (oV (mD (.int 2))) aNil)))) (oV (mD (.int 0))))) (mV 8)))))))))))))))
noncomputable def m__law_view : FV := mFn 3 (mRet (mCallV [false, false] m__law_least (aCons (oS 0) (aCons (oV (mCallV [false, false, false] m__law_part (aCons (oS 1) (aCons (oV (mCallV [false, false, false] m__law_marks (aCons (oS 0) (aCons (oS 1) (aCons (oS 2) aNil))))) (aCons (oV (mD (.bool true))) aNil))))) aNil))))
noncomputable def B__law_past_1 : S := (mSetIx 3 (mV 7) (mD (.bool true)))
theorem e_B__law_past_1 (env : ML.Env) (st : ML.Sto) : B__law_past_1 env st = (mSetIx 3 (mV 7) (mD (.bool true))) env st := id rfl
noncomputable def B__law_past_2 : S := (mSeq (mSet 6 (mIx (oS 1) (oV (mSub (oV (mSub (oS 2) (oV (mD (.int 1))))) (oS 5)))))
  (mIfS (mB (mGt (oV (mLen (oV (mL (mComp (iSeq (oV (mIx (oV (mIx (oS 0) (oV (mD (.int 1))))) (oS 6)))) [7] (bName 7) (mB (mIx (oS 3) (oS 7))) (mV 7)))))) (oV (mD (.int 0)))))
  (mSeq (mAppend 4 (mV 6))
  (mFor (iSeq (oV (mIx (oV (mIx (oS 0) (oV (mD (.int 1))))) (oS 6)))) (bName 7)
  B__law_past_1))
  mNil))
theorem e_B__law_past_2 (env : ML.Env) (st : ML.Sto) : B__law_past_2 env st = (mSeq (mSet 6 (mIx (oS 1) (oV (mSub (oV (mSub (oS 2) (oV (mD (.int 1))))) (oS 5)))))
  (mIfS (mB (mGt (oV (mLen (oV (mL (mComp (iSeq (oV (mIx (oV (mIx (oS 0) (oV (mD (.int 1))))) (oS 6)))) [7] (bName 7) (mB (mIx (oS 3) (oS 7))) (mV 7)))))) (oV (mD (.int 0)))))
  (mSeq (mAppend 4 (mV 6))
  (mFor (iSeq (oV (mIx (oV (mIx (oS 0) (oV (mD (.int 1))))) (oS 6)))) (bName 7)
  B__law_past_1))
  mNil)) env st := id rfl
noncomputable def m__law_past : FV := mFn 8 (mSeq (mOwn 3 (mComp (iRg1 (mIx (oS 0) (oV (mD (.int 0))))) [7] (bName 7) mYes (mIn (oS 7) (oV (mIx (oV (mIx (oS 0) (oV (mD (.int 1))))) (oV (mIx (oS 1) (oS 2))))))))
  (mSeq (mOwn 4 (nLst (aCons (oV (mIx (oS 1) (oS 2))) aNil)))
  (mSeq (mFor (iRg1 (mV 2)) (bName 5)
  B__law_past_2)
  (mSeq (mReverse 4)
  (mRet (mCallV [false, false] m__law_least (aCons (oS 0) (aCons (oS 4) aNil))))))))
noncomputable def m_view_of : FV := mFn 6 (mSeq (mSet 3 (mCallV [false, false, false] m_seen_events (aCons (oS 0) (aCons (oS 1) (aCons (oS 2) aNil)))))
  (mRet (mCallV [false, false] m_least_form (aCons (oS 0) (aCons (oV (mTuple (oV (mL (mComp (iZip (oS 1) (oS 3)) [4, 5] (bTup [(bName 4), (bName 5)]) (mB (mV 5)) (mV 4)))))) aNil)))))
noncomputable def m_rest_of : FV := mFn 6 (mSeq (mSet 3 (mCallV [false, false, false] m_seen_events (aCons (oS 0) (aCons (oS 1) (aCons (oS 2) aNil)))))
  (mRet (mCallV [false, false] m_least_form (aCons (oS 0) (aCons (oV (mTuple (oV (mL (mComp (iZip (oS 1) (oS 3)) [4, 5] (bTup [(bName 4), (bName 5)]) (mNot (mB (mV 5))) (mV 4)))))) aNil)))))
noncomputable def B_past_of_1 : S := (mDPut 3 (mV 6) (mD (.bool true)))
theorem e_B_past_of_1 (env : ML.Env) (st : ML.Sto) : B_past_of_1 env st = (mDPut 3 (mV 6) (mD (.bool true))) env st := id rfl
noncomputable def B_past_of_2 : S := (mIfS (mB (mGt (oV (mLen (oV (mL (mComp (iSeq (oV (mIx (oV (mIx (oS 0) (oV (mD (.int 1))))) (oS 5)))) [6] (bName 6) (mB (mDIn (mV 6) 3)) (mV 6)))))) (oV (mD (.int 0)))))
  (mSeq (mAppend 4 (mV 5))
  (mFor (iSeq (oV (mIx (oV (mIx (oS 0) (oV (mD (.int 1))))) (oS 5)))) (bName 6)
  B_past_of_1))
  mNil)
theorem e_B_past_of_2 (env : ML.Env) (st : ML.Sto) : B_past_of_2 env st = (mIfS (mB (mGt (oV (mLen (oV (mL (mComp (iSeq (oV (mIx (oV (mIx (oS 0) (oV (mD (.int 1))))) (oS 5)))) [6] (bName 6) (mB (mDIn (mV 6) 3)) (mV 6)))))) (oV (mD (.int 0)))))
  (mSeq (mAppend 4 (mV 5))
  (mFor (iSeq (oV (mIx (oV (mIx (oS 0) (oV (mD (.int 1))))) (oS 5)))) (bName 6)
  B_past_of_1))
  mNil) env st := id rfl
noncomputable def m_past_of : FV := mFn 7 (mSeq (mOwnD 3 (mCompD (iSeq (oV (mIx (oV (mIx (oS 0) (oV (mD (.int 1))))) (oV (mIx (oS 1) (oS 2)))))) [6] (bName 6) mYes (mV 6) (mD (.bool true))))
  (mSeq (mOwn 4 (nLst (aCons (oV (mIx (oS 1) (oS 2))) aNil)))
  (mSeq (mFor (iRev (oV (mCut (oS 1) pNone (pSome (mV 2))))) (bName 5)
  B_past_of_2)
  (mRet (mCallV [false, false] m_least_form (aCons (oS 0) (aCons (oV (mTuple (oV (mL (nRev (oS 4)))))) aNil)))))))
noncomputable def m__law_any_web : FV := mFn 2 (mSeq (mIfS (mB (mEq (oS 1) (oV (mD (.int 0)))))
  (mRet (mCallV [true] m__law_lane_web (aCons (oS 0) aNil)))
  mNil)
  (mSeq (mIfS (mB (mEq (oS 1) (oV (mD (.int 1)))))
  (mRet (mCallV [true, false, false] m__law_web (aCons (oS 0) (aCons (oV (mD (.int 4))) (aCons (oV (mD (.int 8))) aNil)))))
  mNil)
  (mRet (mCallV [true, false, false] m__law_web (aCons (oS 0) (aCons (oV (mAdd (oV (mD (.int 1))) (oV (mCallV [true, false] m__law_take (aCons (oS 0) (aCons (oV (mD (.int 4))) aNil)))))) (aCons (oV (mAdd (oV (mD (.int 1))) (oV (mCallV [true, false] m__law_take (aCons (oS 0) (aCons (oV (mD (.int 8))) aNil)))))) aNil)))))))
noncomputable def m__law_row : FV := mFn 5 (mSeq (mSet 3 (mCallV [true, false] m__law_bag (aCons (oS 0) (aCons (oS 1) aNil))))
  (mRet (mTuple (oV (mL (mComp (iRg1 (mV 2)) [4] (bName 4) mYes (mCallV [true, false] m__law_pick (aCons (oS 0) (aCons (oS 3) aNil)))))))))
noncomputable def B__law_part_one_1 : S := (mSeq (mSet 5 (mIf (mB (mGt (oS 8) (oV (mD (.int 0))))) (mCallV [true, false] m__law_eye (aCons (oS 7) (aCons (oS 3) aNil))) (mTup (aCons (oV (mCallV [true, false] m__law_take (aCons (oS 7) (aCons (oV (mLen (oV (mIx (oS 3) (oV (mD (.int 1))))))) aNil)))) aNil))))
  (mSeq (mSet 6 (mCallV [false, false, false] m__law_view (aCons (oS 3) (aCons (oS 4) (aCons (oS 5) aNil)))))
  (mSeq (mIfS (mNot (mB (mCallV [false, false] (m__law_same 6) (aCons (oV (mCallV [false, false, false] m_view_of (aCons (oS 3) (aCons (oS 4) (aCons (oS 5) aNil))))) (aCons (oS 6) aNil)))))
  (mRet (mD (.bool false)))
  mNil)
  (mAppend 1 (mTup (aCons (oS 3) (aCons (oS 4) (aCons (oS 5) (aCons (oS 6) aNil)))))))))
theorem e_B__law_part_one_1 (env : ML.Env) (st : ML.Sto) : B__law_part_one_1 env st = (mSeq (mSet 5 (mIf (mB (mGt (oS 8) (oV (mD (.int 0))))) (mCallV [true, false] m__law_eye (aCons (oS 7) (aCons (oS 3) aNil))) (mTup (aCons (oV (mCallV [true, false] m__law_take (aCons (oS 7) (aCons (oV (mLen (oV (mIx (oS 3) (oV (mD (.int 1))))))) aNil)))) aNil))))
  (mSeq (mSet 6 (mCallV [false, false, false] m__law_view (aCons (oS 3) (aCons (oS 4) (aCons (oS 5) aNil)))))
  (mSeq (mIfS (mNot (mB (mCallV [false, false] (m__law_same 6) (aCons (oV (mCallV [false, false, false] m_view_of (aCons (oS 3) (aCons (oS 4) (aCons (oS 5) aNil))))) (aCons (oS 6) aNil)))))
  (mRet (mD (.bool false)))
  mNil)
  (mAppend 1 (mTup (aCons (oS 3) (aCons (oS 4) (aCons (oS 5) (aCons (oS 6) aNil))))))))) env st := id rfl
noncomputable def B__law_part_one_2 : S := (mSeq (mOwn 7 (mCallN [false, false] n__law_box (aCons (oS 0) (aCons (oS 2) aNil))))
  (mSeq (mSet 3 (mCallV [true, false] m__law_any_web (aCons (oS 7) (aCons (oS 2) aNil))))
  (mSeq (mSet 4 (mCallV [true, false, false] m__law_row (aCons (oS 7) (aCons (oS 3) (aCons (oV (mIf (mB (mLt (oS 2) (oV (mD (.int 2))))) (mD (.int 60)) (mCallV [true, false] m__law_pick (aCons (oS 7) (aCons (oV (mL (nLst (aCons (oV (mD (.int 0))) (aCons (oV (mD (.int 1))) (aCons (oV (mD (.int 2))) (aCons (oV (mD (.int 5))) (aCons (oV (mD (.int 12))) (aCons (oV (mD (.int 30))) (aCons (oV (mD (.int 59))) aNil)))))))))) aNil))))) aNil)))))
  (mSeq (mFor (iRg1 (mD (.int 3))) (bName 8)
  B__law_part_one_1)
  (mSeq (mSet 9 (mCallV [true, false, false] m__law_web (aCons (oS 7) (aCons (oV (mIx (oS 3) (oV (mD (.int 0))))) (aCons (oV (mLen (oV (mIx (oS 3) (oV (mD (.int 1))))))) aNil)))))
  (mIfS (mNot (mB (mCallV [false, false] (m__law_same 6) (aCons (oV (mCallV [false, false, false] m_view_of (aCons (oS 9) (aCons (oS 4) (aCons (oV (mIx (oV (mIx (oS 1) (oV (mNeg (mD (.int 1)))))) (oV (mD (.int 2))))) aNil))))) (aCons (oV (mCallV [false, false, false] m__law_view (aCons (oS 9) (aCons (oS 4) (aCons (oV (mIx (oV (mIx (oS 1) (oV (mNeg (mD (.int 1)))))) (oV (mD (.int 2))))) aNil))))) aNil)))))
  (mRet (mD (.bool false)))
  mNil))))))
theorem e_B__law_part_one_2 (env : ML.Env) (st : ML.Sto) : B__law_part_one_2 env st = (mSeq (mOwn 7 (mCallN [false, false] n__law_box (aCons (oS 0) (aCons (oS 2) aNil))))
  (mSeq (mSet 3 (mCallV [true, false] m__law_any_web (aCons (oS 7) (aCons (oS 2) aNil))))
  (mSeq (mSet 4 (mCallV [true, false, false] m__law_row (aCons (oS 7) (aCons (oS 3) (aCons (oV (mIf (mB (mLt (oS 2) (oV (mD (.int 2))))) (mD (.int 60)) (mCallV [true, false] m__law_pick (aCons (oS 7) (aCons (oV (mL (nLst (aCons (oV (mD (.int 0))) (aCons (oV (mD (.int 1))) (aCons (oV (mD (.int 2))) (aCons (oV (mD (.int 5))) (aCons (oV (mD (.int 12))) (aCons (oV (mD (.int 30))) (aCons (oV (mD (.int 59))) aNil)))))))))) aNil))))) aNil)))))
  (mSeq (mFor (iRg1 (mD (.int 3))) (bName 8)
  B__law_part_one_1)
  (mSeq (mSet 9 (mCallV [true, false, false] m__law_web (aCons (oS 7) (aCons (oV (mIx (oS 3) (oV (mD (.int 0))))) (aCons (oV (mLen (oV (mIx (oS 3) (oV (mD (.int 1))))))) aNil)))))
  (mIfS (mNot (mB (mCallV [false, false] (m__law_same 6) (aCons (oV (mCallV [false, false, false] m_view_of (aCons (oS 9) (aCons (oS 4) (aCons (oV (mIx (oV (mIx (oS 1) (oV (mNeg (mD (.int 1)))))) (oV (mD (.int 2))))) aNil))))) (aCons (oV (mCallV [false, false, false] m__law_view (aCons (oS 9) (aCons (oS 4) (aCons (oV (mIx (oV (mIx (oS 1) (oV (mNeg (mD (.int 1)))))) (oV (mD (.int 2))))) aNil))))) aNil)))))
  (mRet (mD (.bool false)))
  mNil)))))) env st := id rfl
noncomputable def B__law_part_one_3 : S := (mIfS (mNot (mB (mCallV [false, false] (m__law_same 6) (aCons (oV (mCallV [false, false, false] m_view_of (aCons (oS 3) (aCons (oS 4) (aCons (oS 5) aNil))))) (aCons (oS 6) aNil)))))
  (mRet (mD (.bool false)))
  mNil)
theorem e_B__law_part_one_3 (env : ML.Env) (st : ML.Sto) : B__law_part_one_3 env st = (mIfS (mNot (mB (mCallV [false, false] (m__law_same 6) (aCons (oV (mCallV [false, false, false] m_view_of (aCons (oS 3) (aCons (oS 4) (aCons (oS 5) aNil))))) (aCons (oS 6) aNil)))))
  (mRet (mD (.bool false)))
  mNil) env st := id rfl
noncomputable def m__law_part_one : FV := mFn 10 (mSeq (mOwn 1 (nLst aNil))
  (mSeq (mFor (iRg1 (mD (.int 4))) (bName 2)
  B__law_part_one_2)
  (mSeq (mFor (iRev (oS 1)) (bTup [(bName 3), (bName 4), (bName 5), (bName 6)])
  B__law_part_one_3)
  (mRet (mD (.bool true))))))
noncomputable def m__law_asked_rest : FV := mFn 8 (mSeq (mSet 3 (mCallV [false, false] m__law_least (aCons (oS 0) (aCons (oV (mCallV [false, false, false] m__law_part (aCons (oS 1) (aCons (oV (mCallV [false, false, false] m__law_marks (aCons (oS 0) (aCons (oS 1) (aCons (oS 2) aNil))))) (aCons (oV (mD (.bool false))) aNil))))) aNil))))
  (mSeq (mPar 4 5 (aCons (oV (mCallV [false, false, false] m_view_of (aCons (oS 0) (aCons (oS 1) (aCons (oS 2) aNil))))) (aCons (oV (mCallV [false, false, false] m_rest_of (aCons (oS 0) (aCons (oS 1) (aCons (oS 2) aNil))))) aNil)))
  (mSeq (mIfS (mOr (mNot (mB (mCallV [false, false] (m__law_same 6) (aCons (oS 5) (aCons (oS 3) aNil))))) (mNot (mB (mCallV [false, false] (m__law_same 6) (aCons (oS 4) (aCons (oV (mCallV [false, false, false] m__law_view (aCons (oS 0) (aCons (oS 1) (aCons (oS 2) aNil))))) aNil))))))
  (mRet (mD (.bool false)))
  mNil)
  (mSeq (mSet 6 (mL (mComp (iSeq (oS 5)) [7] (bName 7) (mB (mIn (oS 7) (oS 2))) (mV 7))))
  (mRet (mAndV (mEq (oV (mLen (oS 6))) (oV (mD (.int 0)))) (mEq (oV (mCallV [false, false] m__law_lanes (aCons (oS 0) (aCons (oV (mAdd (oS 4) (oS 5))) aNil)))) (oV (mCallV [false, false] m__law_lanes (aCons (oS 0) (aCons (oS 1) aNil)))))))))))
noncomputable def m__law_asked_past : FV := mFn 5 (mSeq (mSet 3 (mCallV [false, false, false] m__law_past (aCons (oS 0) (aCons (oS 1) (aCons (oS 2) aNil)))))
  (mSeq (mSet 4 (mCallV [false, false, false] m_past_of (aCons (oS 0) (aCons (oS 1) (aCons (oS 2) aNil)))))
  (mSeq (mIfS (mNot (mB (mCallV [false, false] (m__law_same 6) (aCons (oS 4) (aCons (oS 3) aNil)))))
  (mRet (mD (.bool false)))
  mNil)
  (mRet (mOrV (mIn (oV (mIx (oS 1) (oS 2))) (oV (mCut (oS 1) (pSome (mAdd (oS 2) (oV (mD (.int 1))))) pNone))) (mCallV [false, false] (m__law_same 6) (aCons (oV (mCallV [false, false, false] m_view_of (aCons (oS 0) (aCons (oS 1) (aCons (oV (mTup (aCons (oV (mIx (oS 1) (oS 2))) aNil))) aNil))))) (aCons (oS 3) aNil))))))))
noncomputable def B__law_part_two_1 : S := (mSeq (mSet 5 (mIf (mB (mGt (oS 7) (oV (mD (.int 0))))) (mCallV [true, false] m__law_eye (aCons (oS 6) (aCons (oS 3) aNil))) (mTup (aCons (oV (mCallV [true, false] m__law_take (aCons (oS 6) (aCons (oV (mLen (oV (mIx (oS 3) (oV (mD (.int 1))))))) aNil)))) aNil))))
  (mSeq (mIfS (mNot (mB (mCallV [false, false, false] m__law_asked_rest (aCons (oS 3) (aCons (oS 4) (aCons (oS 5) aNil))))))
  (mRet (mD (.bool false)))
  mNil)
  (mAppend 1 (mTup (aCons (oS 3) (aCons (oS 4) (aCons (oS 5) aNil)))))))
theorem e_B__law_part_two_1 (env : ML.Env) (st : ML.Sto) : B__law_part_two_1 env st = (mSeq (mSet 5 (mIf (mB (mGt (oS 7) (oV (mD (.int 0))))) (mCallV [true, false] m__law_eye (aCons (oS 6) (aCons (oS 3) aNil))) (mTup (aCons (oV (mCallV [true, false] m__law_take (aCons (oS 6) (aCons (oV (mLen (oV (mIx (oS 3) (oV (mD (.int 1))))))) aNil)))) aNil))))
  (mSeq (mIfS (mNot (mB (mCallV [false, false, false] m__law_asked_rest (aCons (oS 3) (aCons (oS 4) (aCons (oS 5) aNil))))))
  (mRet (mD (.bool false)))
  mNil)
  (mAppend 1 (mTup (aCons (oS 3) (aCons (oS 4) (aCons (oS 5) aNil))))))) env st := id rfl
noncomputable def B__law_part_two_2 : S := (mIfS (mAnd (mB (mChain (gIB fun i j => decide (i ≤ j)) (gIB fun i j => decide (i < j)) (oV (mD (.int 0))) (oS 8) (oV (mLen (oS 4))))) (mNot (mB (mCallV [false, false, false] m__law_asked_past (aCons (oS 3) (aCons (oS 4) (aCons (oS 8) aNil)))))))
  (mRet (mD (.bool false)))
  mNil)
theorem e_B__law_part_two_2 (env : ML.Env) (st : ML.Sto) : B__law_part_two_2 env st = (mIfS (mAnd (mB (mChain (gIB fun i j => decide (i ≤ j)) (gIB fun i j => decide (i < j)) (oV (mD (.int 0))) (oS 8) (oV (mLen (oS 4))))) (mNot (mB (mCallV [false, false, false] m__law_asked_past (aCons (oS 3) (aCons (oS 4) (aCons (oS 8) aNil)))))))
  (mRet (mD (.bool false)))
  mNil) env st := id rfl
noncomputable def B__law_part_two_3 : S := (mSeq (mOwn 6 (mCallN [false, false] n__law_box (aCons (oS 0) (aCons (oS 2) aNil))))
  (mSeq (mSet 3 (mCallV [true, false] m__law_any_web (aCons (oS 6) (aCons (oS 2) aNil))))
  (mSeq (mSet 4 (mCallV [true, false, false] m__law_row (aCons (oS 6) (aCons (oS 3) (aCons (oV (mIf (mB (mLt (oS 2) (oV (mD (.int 2))))) (mD (.int 60)) (mCallV [true, false] m__law_pick (aCons (oS 6) (aCons (oV (mL (nLst (aCons (oV (mD (.int 0))) (aCons (oV (mD (.int 1))) (aCons (oV (mD (.int 2))) (aCons (oV (mD (.int 5))) (aCons (oV (mD (.int 12))) (aCons (oV (mD (.int 30))) (aCons (oV (mD (.int 59))) aNil)))))))))) aNil))))) aNil)))))
  (mSeq (mFor (iRg1 (mD (.int 3))) (bName 7)
  B__law_part_two_1)
  (mFor (iSeq (oV (mL (nLst (aCons (oV (mD (.int 0))) (aCons (oV (mSub (oV (mLen (oS 4))) (oV (mD (.int 1))))) (aCons (oV (mCallV [true, false] m__law_take (aCons (oS 6) (aCons (oV (mD (.int 60))) aNil)))) (aCons (oV (mCallV [true, false] m__law_take (aCons (oS 6) (aCons (oV (mD (.int 60))) aNil)))) (aCons (oV (mSub (oV (mLen (oS 4))) (oV (mD (.int 2))))) (aCons (oV (mDiv (oV (mLen (oS 4))) (oV (mD (.int 2))))) aNil)))))))))) (bName 8)
  B__law_part_two_2)))))
theorem e_B__law_part_two_3 (env : ML.Env) (st : ML.Sto) : B__law_part_two_3 env st = (mSeq (mOwn 6 (mCallN [false, false] n__law_box (aCons (oS 0) (aCons (oS 2) aNil))))
  (mSeq (mSet 3 (mCallV [true, false] m__law_any_web (aCons (oS 6) (aCons (oS 2) aNil))))
  (mSeq (mSet 4 (mCallV [true, false, false] m__law_row (aCons (oS 6) (aCons (oS 3) (aCons (oV (mIf (mB (mLt (oS 2) (oV (mD (.int 2))))) (mD (.int 60)) (mCallV [true, false] m__law_pick (aCons (oS 6) (aCons (oV (mL (nLst (aCons (oV (mD (.int 0))) (aCons (oV (mD (.int 1))) (aCons (oV (mD (.int 2))) (aCons (oV (mD (.int 5))) (aCons (oV (mD (.int 12))) (aCons (oV (mD (.int 30))) (aCons (oV (mD (.int 59))) aNil)))))))))) aNil))))) aNil)))))
  (mSeq (mFor (iRg1 (mD (.int 3))) (bName 7)
  B__law_part_two_1)
  (mFor (iSeq (oV (mL (nLst (aCons (oV (mD (.int 0))) (aCons (oV (mSub (oV (mLen (oS 4))) (oV (mD (.int 1))))) (aCons (oV (mCallV [true, false] m__law_take (aCons (oS 6) (aCons (oV (mD (.int 60))) aNil)))) (aCons (oV (mCallV [true, false] m__law_take (aCons (oS 6) (aCons (oV (mD (.int 60))) aNil)))) (aCons (oV (mSub (oV (mLen (oS 4))) (oV (mD (.int 2))))) (aCons (oV (mDiv (oV (mLen (oS 4))) (oV (mD (.int 2))))) aNil)))))))))) (bName 8)
  B__law_part_two_2))))) env st := id rfl
noncomputable def B__law_part_two_4 : S := (mSeq (mSet 9 (mCallV [false, false] m__law_least (aCons (oS 3) (aCons (oV (mCallV [false, false, false] m__law_part (aCons (oS 4) (aCons (oV (mCallV [false, false, false] m__law_marks (aCons (oS 3) (aCons (oS 4) (aCons (oS 5) aNil))))) (aCons (oV (mD (.bool false))) aNil))))) aNil))))
  (mSeq (mIfS (mNot (mB (mCallV [false, false] (m__law_same 6) (aCons (oV (mCallV [false, false, false] m_rest_of (aCons (oS 3) (aCons (oS 4) (aCons (oS 5) aNil))))) (aCons (oS 9) aNil)))))
  (mRet (mD (.bool false)))
  mNil)
  (mIfS (mAnd (mB (mGt (oV (mLen (oS 4))) (oV (mD (.int 0))))) (mNot (mB (mCallV [false, false] (m__law_same 6) (aCons (oV (mCallV [false, false, false] m_past_of (aCons (oS 3) (aCons (oS 4) (aCons (oV (mDiv (oV (mLen (oS 4))) (oV (mD (.int 3))))) aNil))))) (aCons (oV (mCallV [false, false, false] m__law_past (aCons (oS 3) (aCons (oS 4) (aCons (oV (mDiv (oV (mLen (oS 4))) (oV (mD (.int 3))))) aNil))))) aNil))))))
  (mRet (mD (.bool false)))
  mNil)))
theorem e_B__law_part_two_4 (env : ML.Env) (st : ML.Sto) : B__law_part_two_4 env st = (mSeq (mSet 9 (mCallV [false, false] m__law_least (aCons (oS 3) (aCons (oV (mCallV [false, false, false] m__law_part (aCons (oS 4) (aCons (oV (mCallV [false, false, false] m__law_marks (aCons (oS 3) (aCons (oS 4) (aCons (oS 5) aNil))))) (aCons (oV (mD (.bool false))) aNil))))) aNil))))
  (mSeq (mIfS (mNot (mB (mCallV [false, false] (m__law_same 6) (aCons (oV (mCallV [false, false, false] m_rest_of (aCons (oS 3) (aCons (oS 4) (aCons (oS 5) aNil))))) (aCons (oS 9) aNil)))))
  (mRet (mD (.bool false)))
  mNil)
  (mIfS (mAnd (mB (mGt (oV (mLen (oS 4))) (oV (mD (.int 0))))) (mNot (mB (mCallV [false, false] (m__law_same 6) (aCons (oV (mCallV [false, false, false] m_past_of (aCons (oS 3) (aCons (oS 4) (aCons (oV (mDiv (oV (mLen (oS 4))) (oV (mD (.int 3))))) aNil))))) (aCons (oV (mCallV [false, false, false] m__law_past (aCons (oS 3) (aCons (oS 4) (aCons (oV (mDiv (oV (mLen (oS 4))) (oV (mD (.int 3))))) aNil))))) aNil))))))
  (mRet (mD (.bool false)))
  mNil))) env st := id rfl
noncomputable def m__law_part_two : FV := mFn 10 (mSeq (mOwn 1 (nLst aNil))
  (mSeq (mFor (iRg1 (mD (.int 4))) (bName 2)
  B__law_part_two_3)
  (mSeq (mFor (iRev (oS 1)) (bTup [(bName 3), (bName 4), (bName 5)])
  B__law_part_two_4)
  (mRet (mD (.bool true))))))
noncomputable def m_law : FV := mFn 1 (mRet (mAndV (mCallV [false] m__law_part_one (aCons (oV (mL (mStep 0 2 (oS 0)))) aNil)) (mCallV [false] m__law_part_two (aCons (oV (mL (mStep 1 2 (oS 0)))) aNil))))
end K13
set_option maxRecDepth 100000
set_option maxHeartbeats 4000000
namespace K13
open PySem PySem.Spec PyProof.Rows L2 ML
/-! ### the box: draws -/
abbrev Bx := Int × Int
def bx (p : Bx) : O := .lst [.int p.1, .int p.2]
def tkR (p : Bx) : Int := (p.2 * 39373 + 982) % 2147483647
def tkS (p : Bx) : Int := (tkR p * 40692 + 88) % 2147483399 + 1
def tkN (p : Bx) (m : Nat) : Nat := if 0 < p.1 then (p.1 % m).toNat else ((tkR p * 2147483629 + tkS p) / 8209 % m).toNat
def tkB (p : Bx) (m : Nat) : Bx := if 0 < p.1 then (p.1 / m, p.2) else (p.1, tkS p)
theorem tk_lt (p : Bx) {m : Nat} (h : 0 < m) : tkN p m < m := by
  unfold tkN
  have h' : (0 : Int) < m := by omega
  split
  · have := Int.emod_lt_of_pos p.1 h'
    have := Int.emod_nonneg p.1 (by omega : (m : Int) ≠ 0)
    omega
  · have := Int.emod_lt_of_pos ((tkR p * 2147483629 + tkS p) / 8209) h'
    have := Int.emod_nonneg ((tkR p * 2147483629 + tkS p) / 8209) (by omega : (m : Int) ≠ 0)
    omega
theorem take_eq (p : Bx) {m : Nat} (h : 0 < m) (h2 : m < 1073741824) : m__law_take [.loc 0, .val (.int m)] [bx p] = some (.int (tkN p m), [bx (tkB p m)]) := by
  by_cases ha : 0 < p.1
  · have e : (((p.1 % (m : Int)).toNat : Nat) : Int) = p.1 % m := Int.toNat_of_nonneg (Int.emod_nonneg _ (by omega))
    simp -implicitDefEqProofs -dsimp [m__law_take, bx, ha, h, h2, tkN, tkB, e]
  · have e : ((((tkR p * 2147483629 + tkS p) / 8209 % (m : Int)).toNat : Nat) : Int) = (tkR p * 2147483629 + tkS p) / 8209 % m := Int.toNat_of_nonneg (Int.emod_nonneg _ (by omega))
    simp -implicitDefEqProofs -dsimp [m__law_take, bx, ha, h, h2, tkN, tkB, e]
    simp [tkR, tkS]
theorem take_lit (p : Bx) (m : Nat) (h : decide (0 < m ∧ m < 1073741824) = true) : m__law_take [.loc 0, .val (.int (no_index (OfNat.ofNat m : Int)))] [bx p] = some (.int (tkN p m), [bx (tkB p m)]) :=
  take_eq p (of_decide_eq_true h).1 (of_decide_eq_true h).2
theorem pick_eq (p : Bx) {e : E} {ds : List D} (he : Seq e ds) (h : 0 < ds.length) (h2 : ds.length < 1073741824) : ∃ d, ds[tkN p ds.length]? = some d ∧ m__law_pick [.loc 0, e] [bx p] = some (d, [bx (tkB p ds.length)]) := by
  have hl := tk_lt p h
  refine ⟨ds[tkN p ds.length], List.getElem?_eq_getElem hl, ?_⟩
  have := take_eq p h h2
  cases he <;> simp -implicitDefEqProofs -dsimp [m__law_pick, this, hl]
/-! mixed -/
theorem mixed_loop {e : E} (n : Nat) : ∀ (l : List Nat) (left found : List D) (p : Bx) (t : Option E), l.length = n → left.length = n → found.length + n < 1000000 → ∃ es p' t', es.Perm left ∧
    mLoop [] (bName 4) B__law_mixed_1 (nn l) [some (.loc 0), some e, some (.loc 1), some (.loc 2), t] [bx p, .lst left, .lst found] =
      some (.nx, [some (.loc 0), some e, some (.loc 1), some (.loc 2), t'], [bx p', .lst [], .lst (found ++ es)]) := by
  induction n with
  | zero =>
    intro l left found p t h0 h1 _
    have e1 : l = [] := List.length_eq_zero_iff.mp h0
    have e2 : left = [] := List.length_eq_zero_iff.mp h1
    subst e1 e2
    exact ⟨[], p, t, List.Perm.nil, by simp⟩
  | succ n IH =>
    intro l left found p t h0 h1 h2
    cases l with
    | nil => cases h0
    | cons k l =>
      have hp : 0 < left.length := by omega
      have hk := tk_lt p hp
      have tk := take_eq p hp (by omega)
      obtain ⟨es, p', t', perm, ih⟩ := IH l (left.eraseIdx (tkN p left.length)) (found ++ [left[tkN p left.length]]) (tkB p left.length) (some (.val (.int k))) (by simpa using h0) (by rw [List.length_eraseIdx_of_lt hk]; omega) (by simp; omega)
      refine ⟨left[tkN p left.length] :: es, p', t', ?_, ?_⟩
      · exact (List.Perm.cons _ perm).trans (perm_erase left _ hk)
      · have hs : small ((tkN p left.length : Nat) : Int) = true := small_nat (by omega)
        have hf : found.length < 1000000 := by omega
        simp -implicitDefEqProofs -dsimp [e_B__law_mixed_1, tk, ih, hk, hs, hf]
theorem mixed_eq (p : Bx) {e : E} {ds : List D} (he : Seq e ds) (h2 : ds.length < 900000) : ∃ es p', es.Perm ds ∧ m__law_mixed [.loc 0, e] [bx p] = some (.list es, [bx p']) := by
  obtain ⟨es, p', t', perm, ih⟩ := mixed_loop (e := e) ds.length (List.range ds.length) ds [] p none (by simp) rfl (by simp; omega)
  refine ⟨es, p', perm, ?_⟩
  have hs : small (ds.length : Int) = true := small_nat (by omega)
  cases he <;> simp -implicitDefEqProofs -dsimp [m__law_mixed, hs, ih]
/-! ### webs -/
/-- hands, the hands of each letter -/
abbrev Web := Nat × List (List Nat)
def tup (l : List Nat) : D := .tuple (nn l)
def encW (w : Web) : D := .tuple [.int w.1, .tuple (w.2.map tup)]
structure Web.Ok (w : Web) : Prop where
  n1 : 0 < w.1
  n4 : w.1 ≤ 4
  m1 : 0 < w.2.length
  m8 : w.2.length ≤ 8
  lot : ∀ l ∈ w.2, l ≠ [] ∧ l.Nodup ∧ ∀ h ∈ l, h < w.1
theorem sortI_nn (l : List Nat) : ∃ l' : List Nat, l'.Perm l ∧ (sortI (l.map fun (n : Nat) => (n : Int))).map PyData.int = nn l' := by
  have hp := sortI_perm (l.map fun (n : Nat) => (n : Int))
  refine ⟨(sortI (l.map fun (n : Nat) => (n : Int))).map Int.toNat, ?_, ?_⟩
  · have := hp.map Int.toNat
    rw [List.map_map] at this
    have e : (Int.toNat ∘ fun (n : Nat) => (n : Int)) = id := by funext n; simp
    rw [e, List.map_id] at this
    exact this
  · unfold nn
    rw [List.map_map]
    apply List.map_congr_left
    intro i hi
    have : i ∈ l.map fun (n : Nat) => (n : Int) := hp.subset hi
    obtain ⟨n, _, rfl⟩ := List.mem_map.mp this
    simp
theorem nn_perm {es : List D} {l : List Nat} (h : es.Perm (nn l)) : ∃ l', l'.Perm l ∧ es = nn l' := by
  have key : ∀ d ∈ es, ∃ n : Nat, d = .int n := fun d hd => by
    obtain ⟨n, _, e⟩ := List.mem_map.mp (h.subset hd)
    exact ⟨n, e.symm⟩
  refine ⟨es.map fun d => match d with | .int i => i.toNat | _ => 0, ?_, ?_⟩
  · have := h.map fun d => match d with | .int i => i.toNat | _ => 0
    unfold nn at this
    rw [List.map_map] at this
    have e : ((fun d : D => match d with | .int i => i.toNat | _ => 0) ∘ fun n : Nat => PyData.int (n : Int)) = id := by funext n; simp
    rw [e, List.map_id] at this
    exact this
  · unfold nn
    rw [List.map_map]
    conv => lhs; rw [← List.map_id es]
    apply List.map_congr_left
    intro d hd
    obtain ⟨n, rfl⟩ := key d hd
    simp
theorem sorted_nn (l : List Nat) : ∃ l' : List Nat, l'.Perm l ∧ gSorted [.list (nn l)] = some (nn l') := by
  obtain ⟨l', hp, e⟩ := sortI_nn l
  refine ⟨l', hp, ?_⟩
  have : nn l = (l.map fun (n : Nat) => (n : Int)).map PyData.int := by unfold nn; rw [List.map_map]; rfl
  rw [this, e_gSorted, e]
end K13
set_option maxRecDepth 100000
set_option maxHeartbeats 4000000
namespace K13
open PySem PySem.Spec PyProof.Rows L2 ML
/-- numbers to draw from -/
theorem pick_nn (p : Bx) {e : E} {l : List Nat} (he : Seq e (nn l)) (h : 0 < l.length) (h2 : l.length < 1000000) : ∃ n ∈ l, m__law_pick [.loc 0, e] [bx p] = some (.int (n : Nat), [bx (tkB p l.length)]) := by
  obtain ⟨d, h1, h3⟩ := pick_eq p he (by simpa using h) (by simp; omega)
  rw [nn_len] at h1 h3
  have hl := tk_lt p h
  rw [nn_get, List.getElem?_eq_getElem hl] at h1
  cases h1
  exact ⟨_, List.getElem_mem hl, h3⟩
theorem pick_of (p : Bx) {e : E} {ds : List D} (he : Seq e ds) (h : 0 < ds.length) (h2 : ds.length < 1000000) : ∃ d ∈ ds, m__law_pick [.loc 0, e] [bx p] = some (d, [bx (tkB p ds.length)]) := by
  obtain ⟨d, h1, h3⟩ := pick_eq p he h (by omega)
  exact ⟨d, List.mem_of_getElem? h1, h3⟩
/-- a lot of hands below n -/
def LotOk (n : Nat) (l : List Nat) : Prop := l ≠ [] ∧ l.Nodup ∧ ∀ h ∈ l, h < n
theorem LotOk.of_perm {n : Nat} {l l' : List Nat} (h : LotOk n l) (p : l'.Perm l) : LotOk n l' :=
  ⟨fun z => h.1 (by rw [z] at p; exact p.symm.eq_nil), p.nodup_iff.mpr h.2.1, fun x hx => h.2.2 x (p.subset hx)⟩
theorem LotOk.take {n : Nat} {l : List Nat} (h : l.Perm (List.range n)) (hn : 0 < n) (k : Nat) (hk : 0 < k) : LotOk n (l.take k) := by
  refine ⟨fun z => ?_, (List.Nodup.sublist (List.take_sublist k l) (h.nodup_iff.mpr List.nodup_range)), fun x hx => ?_⟩
  · have := congrArg List.length z
    rw [List.length_take, h.length_eq, List.length_range] at this
    simp at this
    omega
  · exact List.mem_range.mp (h.subset (List.mem_of_mem_take hx))
theorem tup_def (l : List Nat) : tup l = .tuple (nn l) := rfl
theorem web_turn (p : Bx) (n : Nat) (h1 : 0 < n) (h4 : n ≤ 4) (ms : List Nat) (m0 : 0 < ms.length) (m9 : ms.length < 100) (mp : ∀ x ∈ ms, 0 < x) (c t u : Option E) (lots : List D) (hz : lots.length < 100) :
    ∃ (lot : List Nat) (p' : Bx) (u' : Option E), LotOk n lot ∧ B__law_web_1 [some (.loc 0), some (.val (.int n)), c, some (.val (.list (nn ms))), some (.loc 1), t, u] [bx p, .lst lots] =
      some (.nx, [some (.loc 0), some (.val (.int n)), c, some (.val (.list (nn ms))), some (.loc 1), t, u'], [bx p', .lst (lots ++ [tup lot])]) := by
  obtain ⟨es, p1, perm, hm⟩ := mixed_eq p (Seq.vl (nn (List.range n))) (by simp; omega)
  obtain ⟨l, pl, rfl⟩ := nn_perm perm
  obtain ⟨k, hk, hp⟩ := pick_nn p1 (Seq.vl (nn ms)) m0 (by omega)
  obtain ⟨l', pl', hs⟩ := sorted_nn (l.take (min n k))
  refine ⟨l', tkB p1 ms.length, some (.val (.list (nn l))), (LotOk.take pl h1 _ (by have := mp k hk; omega)).of_perm pl', ?_⟩
  have hr : (n : Int) ≤ 1000000 ∧ -1000000 ≤ (n : Int) := by omega
  have hz' : lots.length < 1000000 := by omega
  have hmin : min (n : Int) (k : Int) = ((min n k : Nat) : Int) := by omega
  simp -implicitDefEqProofs -dsimp [e_B__law_web_1, hr, hm, hp, hmin, cut_to, hs, hz', tup_def]
theorem web_loop (n : Nat) (h1 : 0 < n) (h4 : n ≤ 4) (ms : List Nat) (m0 : 0 < ms.length) (m9 : ms.length < 100) (mp : ∀ x ∈ ms, 0 < x) (c : Option E) (js : List Nat) : ∀ (p : Bx) (t u : Option E) (lots : List D), lots.length + js.length < 100 →
    ∃ (ls : List (List Nat)) (p' : Bx) (t' u' : Option E), ls.length = js.length ∧ (∀ l ∈ ls, LotOk n l) ∧ mLoop [] (bName 5) B__law_web_1 (nn js) [some (.loc 0), some (.val (.int n)), c, some (.val (.list (nn ms))), some (.loc 1), t, u] [bx p, .lst lots] =
      some (.nx, [some (.loc 0), some (.val (.int n)), c, some (.val (.list (nn ms))), some (.loc 1), t', u'], [bx p', .lst (lots ++ ls.map tup)]) := by
  induction js with
  | nil =>
    intro p t u lots _
    exact ⟨[], p, t, u, rfl, (by simp), by simp -implicitDefEqProofs -dsimp⟩
  | cons j js IH =>
    intro p t u lots hz
    obtain ⟨lot, p1, u1, ok, e1⟩ := web_turn p n h1 h4 ms m0 m9 mp c (some (.val (.int j))) u lots (by simp at hz; omega)
    obtain ⟨ls, p', t', u', hl, hok, e2⟩ := IH p1 (some (.val (.int j))) u1 (lots ++ [tup lot]) (by simp at hz ⊢; omega)
    refine ⟨lot :: ls, p', t', u', by simp [hl], by simpa using ⟨ok, hok⟩, ?_⟩
    simp -implicitDefEqProofs -dsimp [e1, e2]
theorem web_eq (p : Bx) (n m : Nat) (h1 : 0 < n) (h4 : n ≤ 4) (m1 : 0 < m) (m8 : m ≤ 8) : ∃ w p', w.Ok ∧ w.1 = n ∧ w.2.length = m ∧ m__law_web [.loc 0, .val (.int n), .val (.int m)] [bx p] = some (encW w, [bx p']) := by
  obtain ⟨d, hd, hp⟩ := pick_of p (Seq.vl [.list (nn [1]), .list (nn [1, 1, 1, 2]), .list (nn [1, 2, 2, 3]), .list (nn [1, 1, 2, 3, 4])]) (by simp) (by simp)
  obtain ⟨ms, rfl, m0, m9, mp⟩ : ∃ ms : List Nat, d = .list (nn ms) ∧ 0 < ms.length ∧ ms.length < 100 ∧ ∀ x ∈ ms, 0 < x := by
    simp only [List.mem_cons, List.not_mem_nil, or_false] at hd
    rcases hd with rfl | rfl | rfl | rfl <;> exact ⟨_, rfl, by decide, by decide, by decide⟩
  obtain ⟨ls, p', t', u', hl, hok, e2⟩ := web_loop n h1 h4 ms m0 m9 mp (some (.val (.int m))) (List.range m) (tkB p 4) none none [] (by simp; omega)
  simp at hl
  refine ⟨(n, ls), p', ⟨h1, h4, by simp [hl]; exact m1, by simp [hl]; exact m8, hok⟩, rfl, hl, ?_⟩
  have hs : small (m : Int) = true := small_nat (by omega)
  simp at hp
  simp -implicitDefEqProofs -dsimp [m__law_web, hp, hs, e2, encW]
end K13
set_option maxRecDepth 100000
set_option maxHeartbeats 4000000
namespace K13
open PySem PySem.Spec PyProof.Rows L2 ML
theorem perm_tups {es : List D} {ls : List (List Nat)} (h : es.Perm (ls.map tup)) : ∃ ls' : List (List Nat), ls'.Perm ls ∧ es = ls'.map tup := by
  induction ls generalizing es with
  | nil => exact ⟨[], List.Perm.nil, by simpa using h⟩
  | cons l ls IH =>
    have hm : tup l ∈ es := h.symm.subset (by simp)
    obtain ⟨a, b, rfl⟩ := List.append_of_mem hm
    have h2 : (a ++ b).Perm (ls.map tup) := by
      have : (tup l :: (a ++ b)).Perm (tup l :: ls.map tup) := List.perm_middle.symm.trans h
      exact this.cons_inv
    obtain ⟨ls', hp, e⟩ := IH h2
    obtain ⟨x, y, e1, e2, e3⟩ : ∃ x y, ls' = x ++ y ∧ a = x.map tup ∧ b = y.map tup := by
      obtain ⟨x, y, rfl, e2, e3⟩ := List.map_eq_append_iff.mp e.symm
      exact ⟨x, y, rfl, e2.symm, e3.symm⟩
    subst e1 e2 e3
    exact ⟨x ++ l :: y, List.perm_middle.trans (List.Perm.cons l hp), by simp⟩
theorem lane_web_eq (p : Bx) : ∃ w p', w.Ok ∧ m__law_lane_web [.loc 0] [bx p] = some (encW w, [bx p']) := by
  obtain ⟨es, p1, perm, hm⟩ := mixed_eq p (Seq.vl (nn (List.range 4))) (by simp)
  obtain ⟨l, pl, rfl⟩ := nn_perm perm
  obtain ⟨l', pl', hs⟩ := sorted_nn (l.take (1 + tkN p1 4))
  have ok : LotOk 4 l' := (LotOk.take pl (by omega) _ (by omega)).of_perm pl'
  obtain ⟨es2, p2, perm2, hm2⟩ := mixed_eq (tkB p1 4) (Seq.bl (([[0], [1], [2], [3], [0, 1], [1, 2], [2, 3], l'] : List (List Nat)).map tup)) (by simp)
  obtain ⟨ls, pls, rfl⟩ := perm_tups perm2
  have hlen : ls.length = 8 := pls.length_eq
  refine ⟨(4, ls), p2, ⟨by simp, by simp, by simp [hlen], by simp [hlen], fun m hmm => ?_⟩, ?_⟩
  · have := pls.subset hmm
    simp only [List.mem_cons, List.not_mem_nil, or_false] at this
    rcases this with rfl | rfl | rfl | rfl | rfl | rfl | rfl | rfl
    all_goals first | exact ok | exact (show LotOk 4 _ from ⟨by decide, by decide, by decide⟩)
  · have hc : ML.cutD (nn l) none (some (1 + (tkN p1 4 : Int))) = nn (l.take (1 + tkN p1 4)) := by
      rw [show (1 : Int) + (tkN p1 4 : Int) = ((1 + tkN p1 4 : Nat) : Int) by omega, cut_to, nn_take]
    have tk := take_lit p1 4 (by decide)
    have hr : List.range 4 = [0, 1, 2, 3] := rfl
    rw [hr] at hm
    have hm' : m__law_mixed [.loc 0, .val (.list [.int 0, .int 1, .int 2, .int 3])] [bx p] = some (.list (nn l), [bx p1]) := hm
    have tk' : m__law_take [.loc 0, .val (.int 4)] [bx p1] = some (.int (tkN p1 4), [bx (tkB p1 4)]) := tk
    have hm2' : m__law_mixed [.loc 0, .bor (.list [.tuple [.int 0], .tuple [.int 1], .tuple [.int 2], .tuple [.int 3], .tuple [.int 0, .int 1], .tuple [.int 1, .int 2], .tuple [.int 2, .int 3], .tuple (nn l')])] [bx (tkB p1 4)] = some (.list (ls.map tup), [bx p2]) := hm2
    simp -implicitDefEqProofs -dsimp (maxSteps := 2000000) [m__law_lane_web, List.range, List.range.loop, hm', tk', hc, hs, hm2', encW, hlen]
theorem any_web_eq (p : Bx) (k : Nat) : ∃ w p', w.Ok ∧ m__law_any_web [.loc 0, .val (.int k)] [bx p] = some (encW w, [bx p']) := by
  by_cases h0 : k = 0
  · subst h0
    obtain ⟨w, p', ok, e⟩ := lane_web_eq p
    exact ⟨w, p', ok, by simp -implicitDefEqProofs -dsimp [m__law_any_web, e]⟩
  · by_cases h1 : k = 1
    · subst h1
      obtain ⟨w, p', ok, _, _, e⟩ := web_eq p 4 8 (by omega) (by omega) (by omega) (by omega)
      have e' : m__law_web [.loc 0, .val (.int 4), .val (.int 8)] [bx p] = some (encW w, [bx p']) := e
      exact ⟨w, p', ok, by simp -implicitDefEqProofs -dsimp [m__law_any_web, e']⟩
    · have t1 := tk_lt p (m := 4) (by omega)
      have t2 := tk_lt (tkB p 4) (m := 8) (by omega)
      obtain ⟨w, p', ok, _, _, e⟩ := web_eq (tkB (tkB p 4) 8) (1 + tkN p 4) (1 + tkN (tkB p 4) 8) (by omega) (by omega) (by omega) (by omega)
      have i1 : ¬ (k : Int) = 1 := by omega
      rw [show ((1 + tkN p 4 : Nat) : Int) = 1 + (tkN p 4 : Int) by omega, show ((1 + tkN (tkB p 4) 8 : Nat) : Int) = 1 + (tkN (tkB p 4) 8 : Int) by omega] at e
      have k1 : m__law_take [.loc 0, .val (.int 4)] [bx p] = some (.int (tkN p 4), [bx (tkB p 4)]) := take_lit p 4 (by decide)
      have k2 : m__law_take [.loc 0, .val (.int 8)] [bx (tkB p 4)] = some (.int (tkN (tkB p 4) 8), [bx (tkB (tkB p 4) 8)]) := take_lit _ 8 (by decide)
      exact ⟨w, p', ok, by simp -implicitDefEqProofs -dsimp [m__law_any_web, h0, h1, i1, k1, k2, e]⟩
end K13
set_option maxRecDepth 100000
set_option maxHeartbeats 4000000
namespace K13
open PySem PySem.Spec PyProof.Rows L2 ML
/-! ### rows -/
theorem rep_nn (n k : Nat) : (List.replicate n [PyData.int (k : Int)]).flatten = nn (List.replicate n k) := by
  induction n with
  | zero => rfl
  | succ n ih => rw [List.replicate_succ, List.flatten_cons, ih]; rfl
theorem bag_turn (p : Bx) (w : Web) (ok : w.Ok) (k : Nat) (hk : k < w.2.length) (bag : List Nat) (hb : bag.length < 1000) : ∃ n p', n ≤ 6 ∧ B__law_bag_1 [some (.loc 0), some (.val (encW w)), some (.val (.list (nn bag))), some (.val (.int k))] [bx p] =
    some (.nx, [some (.loc 0), some (.val (encW w)), some (.val (.list (nn (bag ++ List.replicate n k)))), some (.val (.int k))], [bx p']) := by
  have hl : w.2[k]? = some w.2[k] := List.getElem?_eq_getElem hk
  have key : ∀ x : Nat, x ≤ 6 → ∃ n p', n ≤ 6 ∧ m__law_pick [.loc 0, .val (.list [.int 0, .int 1, .int 1, .int 2, .int x])] [bx p] = some (.int (n : Nat), [bx p']) := fun x hx => by
    obtain ⟨n, hn, e⟩ := pick_nn p (Seq.vl (nn [0, 1, 1, 2, x])) (by simp) (by simp)
    refine ⟨n, _, ?_, e⟩
    simp only [List.mem_cons, List.not_mem_nil, or_false] at hn
    omega
  have fin : ∀ (x n : Nat) (p' : Bx), n ≤ 6 → (if w.2[k].length = 1 then x = 6 else x = 1) → m__law_pick [.loc 0, .val (.list [.int 0, .int 1, .int 1, .int 2, .int x])] [bx p] = some (.int (n : Nat), [bx p']) → B__law_bag_1 [some (.loc 0), some (.val (encW w)), some (.val (.list (nn bag))), some (.val (.int k))] [bx p] =
    some (.nx, [some (.loc 0), some (.val (encW w)), some (.val (.list (nn (bag ++ List.replicate n k)))), some (.val (.int k))], [bx p']) := fun x n p' hn hx e => by
    have hs : small (n : Int) = true := small_nat (by omega)
    have hn2 : n ≤ 1000000 := by omega
    have hb2 : bag.length + n ≤ 1000000 := by omega
    by_cases h1 : w.2[k].length = 1
    · rw [if_pos h1] at hx
      subst hx
      have e' : m__law_pick [.loc 0, .val (.list [.int 0, .int 1, .int 1, .int 2, .int 6])] [bx p] = some (.int (n : Nat), [bx p']) := e
      simp -implicitDefEqProofs -dsimp [e_B__law_bag_1, encW, hl, tup_def, h1, e', hs, hn2, hb2, rep_nn]
    · rw [if_neg h1] at hx
      subst hx
      have e' : m__law_pick [.loc 0, .val (.list [.int 0, .int 1, .int 1, .int 2, .int 1])] [bx p] = some (.int (n : Nat), [bx p']) := e
      have h2 : ¬ (w.2[k].length : Int) = 1 := by omega
      simp -implicitDefEqProofs -dsimp [e_B__law_bag_1, encW, hl, tup_def, h1, h2, e', hs, hn2, hb2, rep_nn]
  by_cases h1 : w.2[k].length = 1
  · obtain ⟨n, p', hn, e⟩ := key 6 (by omega)
    exact ⟨n, p', hn, fin 6 n p' hn (by rw [if_pos h1]) e⟩
  · obtain ⟨n, p', hn, e⟩ := key 1 (by omega)
    exact ⟨n, p', hn, fin 1 n p' hn (by rw [if_neg h1]) e⟩
theorem bag_loop (w : Web) (ok : w.Ok) (js : List Nat) : ∀ (p : Bx) (bag : List Nat) (t : Option E), (∀ j ∈ js, j < w.2.length) → (∀ j ∈ bag, j < w.2.length) → bag.length + 6 * js.length < 1000 → ∃ (bag' : List Nat) (p' : Bx) (t' : Option E), (∀ j ∈ bag', j < w.2.length) ∧ bag'.length < 1000 ∧
    mLoop [] (bName 3) B__law_bag_1 (nn js) [some (.loc 0), some (.val (encW w)), some (.val (.list (nn bag))), t] [bx p] = some (.nx, [some (.loc 0), some (.val (encW w)), some (.val (.list (nn bag'))), t'], [bx p']) := by
  induction js with
  | nil =>
    intro p bag t _ hb hz
    exact ⟨bag, p, t, hb, by simpa using hz, by simp -implicitDefEqProofs -dsimp⟩
  | cons j js IH =>
    intro p bag t hj hb hz
    simp only [List.length_cons] at hz
    have hjl := hj j (by simp)
    obtain ⟨n, p1, hn, e1⟩ := bag_turn p w ok j hjl bag (by omega)
    obtain ⟨bag', p', t', h1, h2, e2⟩ := IH p1 (bag ++ List.replicate n j) (some (.val (.int j))) (fun x hx => hj x (by simp [hx])) (fun x hx => by
      rcases List.mem_append.mp hx with h | h
      · exact hb x h
      · rw [List.eq_of_mem_replicate h]; exact hjl) (by simp; omega)
    exact ⟨bag', p', t', h1, h2, by simp -implicitDefEqProofs -dsimp [e1, e2]⟩
theorem bag_eq (p : Bx) (w : Web) (ok : w.Ok) : ∃ (bag : List Nat) (p' : Bx), (∀ j ∈ bag, j < w.2.length) ∧ 0 < bag.length ∧ bag.length < 1000 ∧ m__law_bag [.loc 0, .val (encW w)] [bx p] = some (.list (nn bag), [bx p']) := by
  have h8 := ok.m8
  have h1 := ok.m1
  obtain ⟨bag, p', t', hb, hz, e⟩ := bag_loop w ok (List.range w.2.length) p [] none (fun j hj => List.mem_range.mp hj) (by simp) (by simp; omega)
  have hs : small (w.2.length : Int) = true := small_nat (by omega)
  have hr : (w.2.length : Int) ≤ 1000000 ∧ -1000000 ≤ (w.2.length : Int) := by omega
  have e' : mLoop [] (bName 3) B__law_bag_1 (nn (List.range w.2.length)) [some (.loc 0), some (.val (.tuple [.int w.1, .tuple (w.2.map tup)])), some (.val (.list [])), none] [bx p] = some (.nx, [some (.loc 0), some (.val (encW w)), some (.val (.list (nn bag))), t'], [bx p']) := e
  by_cases h0 : 0 < bag.length
  · refine ⟨bag, p', hb, h0, hz, ?_⟩
    simp -implicitDefEqProofs -dsimp [m__law_bag, encW, hs, e', h0]
  · refine ⟨List.range w.2.length, p', fun j hj => List.mem_range.mp hj, by simpa using h1, by simp; omega, ?_⟩
    simp -implicitDefEqProofs -dsimp [m__law_bag, encW, hs, e', h0, hr]
theorem comp_picks (w : Web) (c d : Option E) (bag : List Nat) (h0 : 0 < bag.length) (hz : bag.length < 1000) (js : List Nat) : ∀ (p : Bx), ∃ (r : List Nat) (p' : Bx), r.length = js.length ∧ (∀ x ∈ r, x ∈ bag) ∧
    mCompGo [] (bName 4) mYes (mCallV [true, false] m__law_pick (aCons (oS 0) (aCons (oS 3) aNil))) (nn js) [some (.loc 0), c, d, some (.val (.list (nn bag))), none] [bx p] = some (nn r, [bx p']) := by
  induction js with
  | nil => intro p; exact ⟨[], p, rfl, by simp, by simp -implicitDefEqProofs -dsimp⟩
  | cons j js IH =>
    intro p
    obtain ⟨n, hn, e1⟩ := pick_nn p (Seq.vl (nn bag)) h0 (by omega)
    obtain ⟨r, p', hl, hr, e2⟩ := IH (tkB p bag.length)
    exact ⟨n :: r, p', by simp [hl], by simpa using ⟨hn, hr⟩, by simp -implicitDefEqProofs -dsimp [e1, e2]⟩
theorem row_eq (p : Bx) (w : Web) (ok : w.Ok) (many : Nat) (hm : many < 1000) : ∃ (r : List Nat) (p' : Bx), r.length = many ∧ (∀ j ∈ r, j < w.2.length) ∧ m__law_row [.loc 0, .val (encW w), .val (.int many)] [bx p] = some (tup r, [bx p']) := by
  obtain ⟨bag, p1, hb, h0, hz, e⟩ := bag_eq p w ok
  obtain ⟨r, p', hl, hr, e2⟩ := comp_picks w (some (.val (encW w))) (some (.val (.int many))) bag h0 hz (List.range many) p1
  have hs : small (many : Int) = true := small_nat (by omega)
  have hz2 : many < 1000000 := by omega
  refine ⟨r, p', by simpa using hl, fun j hj => hb j (hr j hj), ?_⟩
  simp -implicitDefEqProofs -dsimp [m__law_row, e, hs, hz2, e2, tup_def]
end K13
set_option maxRecDepth 100000
set_option maxHeartbeats 4000000
namespace K13
open PySem PySem.Spec PyProof.Rows L2 ML
/-! ### eyes -/
def cntOf (w : Web) (hd : List Nat) : List Nat := w.2.map fun lot => (hd.filter fun h => lot.contains h).length
theorem cntOf_len (w : Web) (hd : List Nat) : (cntOf w hd).length = w.2.length := by simp [cntOf]
def fndOf (w : Web) (hd : List Nat) : List Nat := (List.range w.2.length).filter fun j => decide (0 < (cntOf w hd).getD j 0)
def fndAll (w : Web) (hd : List Nat) : List Nat := (List.range w.2.length).filter fun j => decide (((cntOf w hd).getD j 0 : Int) = hd.length)
theorem counts_eq (c0 c1 c2 c3 : Option E) (hd : List Nat) (hz : hd.length < 1000000) (st : ML.Sto) (w : Web) :
    mCompGo [] (bName 7) mYes (mLen (oV (mL (mComp (iSeq (oS 4)) [9] (bName 9) (mB (mIn (oS 9) (oS 7))) (mV 9))))) (w.2.map tup) [c0, c1, c2, c3, some (.val (.list (nn hd))), none, none, none, none, none] st = some (nn (cntOf w hd), st) := by
  refine comp_nums tup 7 _ _ st _ w.2 fun lot _ => ?_
  have := comp_keep 9 (mB (mIn (oS 9) (oS 7))) [c0, c1, c2, c3, some (.val (.list (nn hd))), none, none, some (.val (tup lot)), none, none] st (fun h => lot.contains h) (by simp) hd fun j _ => by simp -implicitDefEqProofs -dsimp [tup_def]
  simp -implicitDefEqProofs -dsimp [this, hz]
theorem found_eq (c0 c1 c3 c4 c6 c7 c9 : Option E) (L : List Nat) (cs : List Nat) (hL : ∀ j ∈ L, j < cs.length) (st : ML.Sto) :
    mCompGo [] (bName 8) (mB (mGt (oV (mIx (oS 5) (oS 8))) (oV (mD (.int 0))))) (mV 8) (nn L) [c0, c1, some (.val (.list (nn L))), c3, c4, some (.val (.list (nn cs))), c6, c7, none, c9] st = some (nn (L.filter fun j => decide (0 < cs.getD j 0)), st) := by
  refine comp_keep 8 _ _ st _ (by simp) L fun j hj => ?_
  have h := hL j hj
  simp -implicitDefEqProofs -dsimp [h]
theorem all_eq (c0 c1 c3 c6 c7 c9 : Option E) (hd : List Nat) (L : List Nat) (cs : List Nat) (hL : ∀ j ∈ L, j < cs.length) (st : ML.Sto) :
    mCompGo [] (bName 8) (mB (mEq (oV (mIx (oS 5) (oS 8))) (oV (mLen (oS 4))))) (mV 8) (nn L) [c0, c1, some (.val (.list (nn L))), c3, some (.val (.list (nn hd))), some (.val (.list (nn cs))), c6, c7, none, c9] st = some (nn (L.filter fun j => decide ((cs.getD j 0 : Int) = hd.length)), st) := by
  refine comp_keep 8 _ _ st _ (by simp) L fun j hj => ?_
  have h := hL j hj
  simp -implicitDefEqProofs -dsimp [h]
theorem drawn_eq (c1 c2 c3 c4 c5 c6 c7 c9 : Option E) (js : List Nat) (p : Bx) : ∃ (l : List Nat) (p' : Bx), (∀ x ∈ l, x ∈ js) ∧
    mCompGo [] (bName 8) (mB (mEq (oV (mCallV [true, false] m__law_take (aCons (oS 0) (aCons (oV (mD (.int 2))) aNil)))) (oV (mD (.int 0))))) (mV 8) (nn js) [some (.loc 0), c1, c2, c3, c4, c5, c6, c7, none, c9] [bx p] = some (nn l, [bx p']) := by
  refine comp_draw (fun p : Bx => [bx p]) 8 _ _ (by simp) (fun j p => ?_) js p
  have k2 : m__law_take [.loc 0, .val (.int 2)] [bx p] = some (.int (tkN p 2), [bx (tkB p 2)]) := take_lit p 2 (by decide)
  exact ⟨decide (tkN p 2 = 0), tkB p 2, by simp -implicitDefEqProofs -dsimp [k2]⟩
theorem eye_eq (p : Bx) (w : Web) (ok : w.Ok) : ∃ (e : List Nat) (p' : Bx), (∀ j ∈ e, j < w.2.length) ∧ m__law_eye [.loc 0, .val (encW w)] [bx p] = some (tup e, [bx p']) := by
  have h8 := ok.m8
  have h1 := ok.m1
  have n1 := ok.n1
  have n4 := ok.n4
  have hr : (w.2.length : Int) ≤ 1000000 ∧ -1000000 ≤ (w.2.length : Int) := by omega
  have hrn : (w.1 : Int) ≤ 1000000 ∧ -1000000 ≤ (w.1 : Int) := by omega
  have hz : w.2.length < 1000000 := by omega
  have k9 : m__law_take [.loc 0, .val (.int 9)] [bx p] = some (.int (tkN p 9), [bx (tkB p 9)]) := take_lit p 9 (by decide)
  have hk := tk_lt p (m := 9) (by omega)
  generalize hkd : tkN p 9 = kind at k9 hk
  obtain ⟨es, p2, perm, hm⟩ := mixed_eq (tkB p 9) (Seq.vl (nn (List.range w.1))) (by simp; omega)
  obtain ⟨hs, ph, rfl⟩ := nn_perm perm
  have hsl : hs.length = w.1 := by rw [ph.length_eq, List.length_range]
  have kw := take_eq p2 n1 (by omega)
  have c1 : ML.cutD (nn hs) none (some 1) = nn (hs.take 1) := by
    rw [show (1 : Int) = ((1 : Nat) : Int) by rfl, cut_to, nn_take]
  have c2 : ML.cutD (nn hs) none (some (1 + (tkN p2 w.1 : Int))) = nn (hs.take (1 + tkN p2 w.1)) := by
    rw [show (1 : Int) + (tkN p2 w.1 : Int) = ((1 + tkN p2 w.1 : Nat) : Int) by omega, cut_to, nn_take]
  have hL : ∀ (hd : List Nat), ∀ j ∈ List.range w.2.length, j < (cntOf w hd).length := fun hd j hj => by
    rw [cntOf_len]; exact List.mem_range.mp hj
  have z1 : (hs.take 1).length < 1000000 := by rw [List.length_take]; omega
  have z2 : (hs.take (1 + tkN p2 w.1)).length < 1000000 := by rw [List.length_take]; omega
  have cnt1 := fun (c0 c1 c2 c3 : Option E) (st : ML.Sto) => counts_eq c0 c1 c2 c3 (hs.take 1) z1 st w
  have cnt2 := fun (c0 c1 c2 c3 : Option E) (st : ML.Sto) => counts_eq c0 c1 c2 c3 (hs.take (1 + tkN p2 w.1)) z2 st w
  have fnd1 : ∀ (c0 c1 c3 c4 c6 c7 c9 : Option E) (st : ML.Sto), _ = some (nn (fndOf w (hs.take 1)), st) := fun (c0 c1 c3 c4 c6 c7 c9 : Option E) (st : ML.Sto) => found_eq c0 c1 c3 c4 c6 c7 c9 (List.range w.2.length) (cntOf w (hs.take 1)) (hL _) st
  have fnd2 : ∀ (c0 c1 c3 c4 c6 c7 c9 : Option E) (st : ML.Sto), _ = some (nn (fndOf w (hs.take (1 + tkN p2 w.1))), st) := fun (c0 c1 c3 c4 c6 c7 c9 : Option E) (st : ML.Sto) => found_eq c0 c1 c3 c4 c6 c7 c9 (List.range w.2.length) (cntOf w (hs.take (1 + tkN p2 w.1))) (hL _) st
  have all2 : ∀ (c0 c1 c3 c6 c7 c9 : Option E) (st : ML.Sto), _ = some (nn (fndAll w (hs.take (1 + tkN p2 w.1))), st) := fun (c0 c1 c3 c6 c7 c9 : Option E) (st : ML.Sto) => all_eq c0 c1 c3 c6 c7 c9 (hs.take (1 + tkN p2 w.1)) (List.range w.2.length) (cntOf w (hs.take (1 + tkN p2 w.1))) (hL _) st
  have lt_f : ∀ (f : Nat → Bool), ∀ j ∈ (List.range w.2.length).filter f, j < w.2.length := fun f j hj => List.mem_range.mp (List.mem_filter.mp hj).1
  have zf : ∀ (f : Nat → Bool), ((List.range w.2.length).filter f).length < 1000000 := fun f => Nat.lt_of_le_of_lt (List.length_filter_le _ _) (by simpa using hz)
  have cases9 : kind = 0 ∨ kind = 1 ∨ kind = 2 ∨ kind = 3 ∨ kind = 4 ∨ kind = 5 ∨ kind = 6 ∨ kind = 7 ∨ kind = 8 := by omega
  rcases cases9 with rfl | rfl | rfl | rfl | rfl | rfl | rfl | rfl | rfl
  · refine ⟨fndOf w (hs.take 1), p2, lt_f _, ?_⟩
    simp -implicitDefEqProofs -dsimp [m__law_eye, encW, hr, hrn, k9, hm, c1, cnt1, hz, fnd1, tup_def]
  · obtain ⟨l, p', hl, e⟩ := drawn_eq (some (.val (encW w))) (some (.val (.list (nn (List.range w.2.length))))) (some (.val (.int 1))) (some (.val (.list (nn (hs.take 1))))) (some (.val (.list (nn (cntOf w (hs.take 1)))))) (some (.val (.list (nn (fndOf w (hs.take 1)))))) none none (fndOf w (hs.take 1)) p2
    rw [encW] at e
    refine ⟨l, p', fun j hj => lt_f _ j (hl j hj), ?_⟩
    simp -implicitDefEqProofs -dsimp [m__law_eye, encW, hr, hrn, k9, hm, c1, cnt1, hz, (show (fndOf w (hs.take 1)).length < 1000000 from zf _), fnd1, e, tup_def]
  · refine ⟨fndOf w (hs.take (1 + tkN p2 w.1)), tkB p2 w.1, lt_f _, ?_⟩
    simp -implicitDefEqProofs -dsimp [m__law_eye, encW, hr, hrn, k9, hm, c2, kw, cnt2, hz, fnd2, tup_def]
  · refine ⟨fndAll w (hs.take (1 + tkN p2 w.1)), tkB p2 w.1, lt_f _, ?_⟩
    simp -implicitDefEqProofs -dsimp [m__law_eye, encW, hr, hrn, k9, hm, c2, kw, cnt2, hz, all2, tup_def]
  · refine ⟨[], tkB p2 w.1, by simp, ?_⟩
    simp -implicitDefEqProofs -dsimp [m__law_eye, encW, hr, hrn, k9, hm, c2, kw, cnt2, hz, tup_def]
  · refine ⟨List.range w.2.length, tkB p2 w.1, fun j hj => List.mem_range.mp hj, ?_⟩
    simp -implicitDefEqProofs -dsimp [m__law_eye, encW, hr, hrn, k9, hm, c2, kw, cnt2, hz, tup_def]
  · obtain ⟨n, hn, e⟩ := pick_nn (tkB p2 w.1) (Seq.vl (nn (List.range w.2.length))) (by simpa using h1) (by simpa using hz)
    refine ⟨[n], tkB (tkB p2 w.1) (List.range w.2.length).length, fun j hj => by rw [List.mem_singleton.mp hj]; exact List.mem_range.mp hn, ?_⟩
    simp -implicitDefEqProofs -dsimp [m__law_eye, encW, hr, hrn, k9, hm, c2, kw, cnt2, hz, e, tup_def]
  · obtain ⟨l, p', hl, e⟩ := drawn_eq (some (.val (encW w))) (some (.val (.list (nn (List.range w.2.length))))) (some (.val (.int 7))) (some (.val (.list (nn (hs.take (1 + tkN p2 w.1)))))) (some (.val (.list (nn (cntOf w (hs.take (1 + tkN p2 w.1))))))) none none none (List.range w.2.length) (tkB p2 w.1)
    rw [encW] at e
    refine ⟨l, p', fun j hj => List.mem_range.mp (hl j hj), ?_⟩
    simp -implicitDefEqProofs -dsimp [m__law_eye, encW, hr, hrn, k9, hm, c2, kw, cnt2, hz, e, tup_def]
  · obtain ⟨l, p', hl, e⟩ := drawn_eq (some (.val (encW w))) (some (.val (.list (nn (List.range w.2.length))))) (some (.val (.int 8))) (some (.val (.list (nn (hs.take (1 + tkN p2 w.1)))))) (some (.val (.list (nn (cntOf w (hs.take (1 + tkN p2 w.1))))))) none none none (List.range w.2.length) (tkB p2 w.1)
    rw [encW] at e
    refine ⟨l, p', fun j hj => List.mem_range.mp (hl j hj), ?_⟩
    simp -implicitDefEqProofs -dsimp [m__law_eye, encW, hr, hrn, k9, hm, c2, kw, cnt2, hz, e, tup_def]
end K13
set_option maxRecDepth 100000
set_option maxHeartbeats 4000000
namespace K13
open PySem PySem.Spec PyProof.Rows L2 ML
/-! ### hands that are shut: a set as a dict -/
def dic (S : List Nat) : List (Key × D) := S.map fun (h : Nat) => (Sum.inl (h : Int), PyData.bool true)
def sAdd (S : List Nat) (h : Nat) : List Nat := if h ∈ S then S else S ++ [h]
theorem dic_get (S : List Nat) (h : Nat) : (dGet (dic S) (Sum.inl (h : Int))).isSome = decide (h ∈ S) := by
  unfold dGet dic
  rw [Option.isSome_map]
  induction S with
  | nil => rfl
  | cons a S ih =>
    rw [List.map_cons, List.find?_cons]
    by_cases e : a = h
    · subst e; simp
    · have e1 : ¬ ((Sum.inl (a : Int) : Key) = Sum.inl (h : Int)) := fun z => e (by have := Sum.inl.inj z; omega)
      rw [show decide ((Sum.inl (a : Int), PyData.bool true).1 = (Sum.inl (h : Int) : Key)) = false from decide_eq_false e1]
      dsimp only
      rw [ih]
      have : ¬ h = a := fun z => e z.symm
      simp [this]
theorem dic_any (S : List Nat) (h : Nat) : ((dic S).any fun kv => decide (kv.1 = (Sum.inl (h : Int) : Key))) = decide (h ∈ S) := by
  unfold dic
  induction S with
  | nil => rfl
  | cons a S ih =>
    rw [List.map_cons, List.any_cons, ih]
    by_cases e : a = h
    · subst e; simp
    · have e1 : ¬ ((Sum.inl (a : Int) : Key) = Sum.inl (h : Int)) := fun z => e (by have := Sum.inl.inj z; omega)
      have : ¬ h = a := fun z => e z.symm
      simp [this]
      omega
theorem dic_put (S : List Nat) (h : Nat) : dPut (dic S) (Sum.inl (h : Int)) (.bool true) = dic (sAdd S h) := by
  unfold dPut sAdd
  rw [dic_any]
  by_cases e : h ∈ S
  · rw [if_pos (decide_eq_true e), if_pos e]
    unfold dic
    rw [List.map_map]
    apply List.map_congr_left
    intro a _
    by_cases z : (Sum.inl (a : Int) : Key) = Sum.inl (h : Int)
    · simp [z]
    · simp [z]
  · rw [if_neg (by simpa using e), if_neg e]
    simp [dic]
theorem dic_len (S : List Nat) : (dic S).length = S.length := by simp [dic]
theorem sAdd_mem {S : List Nat} {h x : Nat} : x ∈ sAdd S h ↔ x ∈ S ∨ x = h := by
  unfold sAdd
  split
  · constructor
    · exact .inl
    · rintro (z | rfl) <;> assumption
  · simp
theorem sAdd_nodup {S : List Nat} {h : Nat} (n : S.Nodup) : (sAdd S h).Nodup := by
  unfold sAdd
  split
  · exact n
  · rename_i hn
    refine List.nodup_append.mpr ⟨n, by simp, fun a ha b hb => ?_⟩
    rw [List.mem_singleton.mp hb]
    rintro rfl
    exact hn ha
theorem sAdd_len (S : List Nat) (h : Nat) : (sAdd S h).length ≤ S.length + 1 := by
  unfold sAdd
  split
  · omega
  · simp
def sAll (S : List Nat) (hs : List Nat) : List Nat := hs.foldl sAdd S
theorem sAll_mem {hs : List Nat} : ∀ {S : List Nat} {x : Nat}, x ∈ sAll S hs ↔ x ∈ S ∨ x ∈ hs := by
  induction hs with
  | nil => intro S x; simp [sAll]
  | cons h hs IH =>
    intro S x
    show x ∈ sAll (sAdd S h) hs ↔ _
    rw [IH, sAdd_mem]
    simp only [List.mem_cons]
    constructor
    · rintro ((z | z) | z)
      · exact .inl z
      · exact .inr (.inl z)
      · exact .inr (.inr z)
    · rintro (z | z | z)
      · exact .inl (.inl z)
      · exact .inl (.inr z)
      · exact .inr z
theorem sAll_nodup {hs : List Nat} : ∀ {S : List Nat}, S.Nodup → (sAll S hs).Nodup := by
  induction hs with
  | nil => intro S n; exact n
  | cons h hs IH => intro S n; exact IH (sAdd_nodup n)
theorem shut_loop (c0 c2 : Option E) (hs : List Nat) : ∀ (S : List Nat) (f : Bool) (t : Option E), hs.Nodup → S.length + hs.length < 1000 → ∃ t', mLoop [] (bName 4) B_shut_hands_1 (nn hs) [c0, some (.loc 0), c2, some (.val (.bool f)), t] [.dic (dic S)] =
    some (.nx, [c0, some (.loc 0), c2, some (.val (.bool (f || hs.any fun h => decide (h ∈ S)))), t'], [.dic (dic (sAll S hs))]) := by
  induction hs with
  | nil => intro S f t _ _; exact ⟨t, by simp -implicitDefEqProofs -dsimp [sAll]⟩
  | cons h hs IH =>
    intro S f t nd hz
    simp only [List.length_cons] at hz
    obtain ⟨hn, nd'⟩ := List.nodup_cons.mp nd
    have hl := sAdd_len S h
    have hz' : S.length < 1000000 := by omega
    obtain ⟨t', ih⟩ := IH (sAdd S h) (f || decide (h ∈ S)) (some (.val (.int h))) nd' (by omega)
    have e1 : (hs.any fun x => decide (x ∈ sAdd S h)) = hs.any fun x => decide (x ∈ S) := by
      rw [Bool.eq_iff_iff, List.any_eq_true, List.any_eq_true]
      constructor
      · rintro ⟨x, hx, h2⟩
        refine ⟨x, hx, ?_⟩
        rw [decide_eq_true_eq, sAdd_mem] at h2
        rcases h2 with h2 | rfl
        · exact decide_eq_true h2
        · exact absurd hx hn
      · rintro ⟨x, hx, h2⟩
        exact ⟨x, hx, decide_eq_true (sAdd_mem.mpr (.inl (of_decide_eq_true h2)))⟩
    refine ⟨t', ?_⟩
    rw [e1] at ih
    by_cases hm : h ∈ S
    · simp [hm] at ih
      simp -implicitDefEqProofs -dsimp [e_B_shut_hands_1, dic_get, dic_put, dic_len, hz', hm, ih]
      rfl
    · simp [hm] at ih
      simp -implicitDefEqProofs -dsimp [e_B_shut_hands_1, dic_get, dic_put, dic_len, hz', hm, ih]
      rfl
theorem nd_len (n : Nat) : ∀ l : List Nat, l.Nodup → (∀ x ∈ l, x < n) → l.length ≤ n := by
  induction n with
  | zero =>
    intro l _ h
    cases l with
    | nil => simp
    | cons x l => exact absurd (h x (by simp)) (by omega)
  | succ n IH =>
    intro l nd h
    by_cases hn : n ∈ l
    · have := IH (l.erase n) (nd.erase n) fun x hx => by
        obtain ⟨h1, h2⟩ := (List.Nodup.mem_erase_iff nd).mp hx
        have := h x h2
        omega
      rw [List.length_erase_of_mem hn] at this
      omega
    · have := IH l nd fun x hx => by
        have h1 := h x hx
        have h2 : x ≠ n := fun z => hn (z ▸ hx)
        omega
      omega
theorem nd_full {n : Nat} {l : List Nat} (nd : l.Nodup) (h : ∀ x ∈ l, x < n) (hl : l.length = n) : ∀ k, k < n → k ∈ l := fun k hk => by
  by_cases hm : k ∈ l
  · exact hm
  · have := nd_len n (k :: l) (List.nodup_cons.mpr ⟨hm, nd⟩) fun x hx => by
      rcases List.mem_cons.mp hx with rfl | hx
      · exact hk
      · exact h x hx
    rw [List.length_cons] at this
    omega
def lotOf (w : Web) (x : Nat) : List Nat := w.2.getD x []
theorem lotOf_get {w : Web} {x : Nat} (h : x < w.2.length) : w.2[x]? = some (lotOf w x) := by
  unfold lotOf
  rw [List.getD_eq_getElem?_getD, List.getElem?_eq_getElem h]; rfl
theorem lotOf_ok {w : Web} (ok : w.Ok) {x : Nat} (h : x < w.2.length) : lotOf w x ≠ [] ∧ (lotOf w x).Nodup ∧ (∀ k ∈ lotOf w x, k < w.1) ∧ (lotOf w x).length ≤ 4 := by
  have hm : lotOf w x ∈ w.2 := List.mem_of_getElem? (lotOf_get h)
  obtain ⟨a, b, c⟩ := ok.lot _ hm
  refine ⟨a, b, c, ?_⟩
  exact Nat.le_trans (nd_len w.1 _ b c) ok.n4
theorem shut_eq (w : Web) (ok : w.Ok) (x : Nat) (hx : x < w.2.length) (S : List Nat) (hS : S.length < 500) : m_shut_hands [.val (encW w), .loc 0, .val (.int x)] [.dic (dic S)] = some (.bool ((lotOf w x).any fun h => decide (h ∈ S)), [.dic (dic (sAll S (lotOf w x)))]) := by
  obtain ⟨h1, h2, h3, h4⟩ := lotOf_ok ok hx
  obtain ⟨t', e⟩ := shut_loop (some (.val (encW w))) (some (.val (.int x))) (lotOf w x) S false none h2 (by omega)
  rw [encW] at e
  have hg := lotOf_get hx
  simp only [Bool.false_or] at e
  simp -implicitDefEqProofs -dsimp [m_shut_hands, encW, hg, tup_def, e]
/-! ### which letter could come first -/
def share (w : Web) (x y : Nat) : Prop := ∃ h, h ∈ lotOf w x ∧ h ∈ lotOf w y
def Free (w : Web) (l : List Nat) (x : Nat) : Prop := ∃ a b, l = a ++ x :: b ∧ ∀ y ∈ a, ¬ share w y x
/-- the hands of all of a row -/
def handsOf (w : Web) (l : List Nat) : List Nat := l.foldl (fun S x => sAll S (lotOf w x)) []
theorem hands_mem {w : Web} {l : List Nat} : ∀ {S : List Nat} {h : Nat}, h ∈ l.foldl (fun S x => sAll S (lotOf w x)) S ↔ h ∈ S ∨ ∃ x ∈ l, h ∈ lotOf w x := by
  induction l with
  | nil => intro S h; simp
  | cons x l IH =>
    intro S h
    rw [List.foldl_cons, IH, sAll_mem]
    simp only [List.mem_cons, exists_eq_or_imp]
    constructor
    · rintro ((z | z) | z)
      · exact .inl z
      · exact .inr (.inl z)
      · exact .inr (.inr z)
    · rintro (z | z | z)
      · exact .inl (.inl z)
      · exact .inl (.inr z)
      · exact .inr z
theorem free_snoc {w : Web} {l : List Nat} {x y : Nat} (h : Free w (l ++ [x]) y) : Free w l y ∨ (y = x ∧ ∀ z ∈ l, ¬ share w z x) := by
  obtain ⟨a, b, e, hf⟩ := h
  rcases List.eq_nil_or_concat b with rfl | ⟨b', c, rfl⟩
  · have := List.append_inj' e rfl
    obtain ⟨rfl, e2⟩ := this
    cases e2
    exact .inr ⟨rfl, hf⟩
  · rw [List.concat_eq_append] at e
    have e' : l ++ [x] = (a ++ y :: b') ++ [c] := by rw [e]; simp
    obtain ⟨rfl, e2⟩ := List.append_inj' e' rfl
    exact .inl ⟨a, b', rfl, hf⟩
theorem free_app {w : Web} {l m : List Nat} {y : Nat} (h : Free w l y) : Free w (l ++ m) y := by
  obtain ⟨a, b, rfl, hf⟩ := h
  exact ⟨a, b ++ m, by simp, hf⟩
theorem share_self {w : Web} (ok : w.Ok) {x : Nat} (hx : x < w.2.length) : share w x x := by
  obtain ⟨h1, _⟩ := lotOf_ok ok hx
  cases e : lotOf w x with
  | nil => exact absurd e h1
  | cons h t => exact ⟨h, by rw [e]; simp, by rw [e]; simp⟩
/-- beyond a beginning whose hands are all there are, none is free but in it -/
theorem free_shut {w : Web} (ok : w.Ok) {l : List Nat} (hl : ∀ h, h < w.1 → ∃ x ∈ l, h ∈ lotOf w x) (n : Nat) : ∀ {m : List Nat} {y : Nat}, m.length = n → (∀ z ∈ m, z < w.2.length) → Free w (l ++ m) y → Free w l y := by
  induction n with
  | zero =>
    intro m y hn _ h
    rw [List.length_eq_zero_iff.mp hn, List.append_nil] at h
    exact h
  | succ n IH =>
    intro m y hn hm h
    rcases List.eq_nil_or_concat m with rfl | ⟨m', x, rfl⟩
    · cases hn
    · rw [List.concat_eq_append] at hm hn h
      rw [← List.append_assoc] at h
      rcases free_snoc h with h | ⟨rfl, h⟩
      · exact IH (by simpa using hn) (fun z hz => hm z (by simp [hz])) h
      · exfalso
        obtain ⟨h1, h2, h3, _⟩ := lotOf_ok ok (hm y (by simp))
        cases e : lotOf w y with
        | nil => exact h1 e
        | cons k t =>
          obtain ⟨z, hz, hk⟩ := hl k (h3 k (by rw [e]; simp))
          exact h z (by simp [hz]) ⟨k, hk, by rw [e]; simp⟩
end K13
set_option maxRecDepth 100000
set_option maxHeartbeats 4000000
namespace K13
open PySem PySem.Spec PyProof.Rows L2 ML
/-! ### the first place -/
structure Best (w : Web) (left pre : List Nat) (b : Nat) : Prop where
  go : ∃ a x c, left = a ++ x :: c ∧ a.length = b ∧ (∀ y ∈ a, ¬ share w y x) ∧ ∀ y, Free w pre y → x ≤ y
/-- the hands of a beginning -/
structure Shut (w : Web) (pre S : List Nat) : Prop where
  nd : S.Nodup
  lt : ∀ h ∈ S, h < w.1
  mem : ∀ h, h ∈ S ↔ ∃ x ∈ pre, h ∈ lotOf w x
theorem Shut.snoc {w : Web} (ok : w.Ok) {pre S : List Nat} (s : Shut w pre S) {x : Nat} (hx : x < w.2.length) : Shut w (pre ++ [x]) (sAll S (lotOf w x)) := by
  obtain ⟨h1, h2, h3, _⟩ := lotOf_ok ok hx
  refine ⟨sAll_nodup s.nd, fun h hh => ?_, fun h => ?_⟩
  · rcases sAll_mem.mp hh with z | z
    · exact s.lt h z
    · exact h3 h z
  · rw [sAll_mem, s.mem]
    constructor
    · rintro (⟨y, hy, z⟩ | z)
      · exact ⟨y, by simp [hy], z⟩
      · exact ⟨x, by simp, z⟩
    · rintro ⟨y, hy, z⟩
      rcases List.mem_append.mp hy with hy | hy
      · exact .inl ⟨y, hy, z⟩
      · rw [List.mem_singleton.mp hy] at z
        exact .inr z
theorem Shut.late {w : Web} {pre S : List Nat} (s : Shut w pre S) (x : Nat) : ((lotOf w x).any fun h => decide (h ∈ S)) = true ↔ ∃ y ∈ pre, share w y x := by
  rw [List.any_eq_true]
  constructor
  · rintro ⟨h, h1, h2⟩
    obtain ⟨y, hy, z⟩ := (s.mem h).mp (of_decide_eq_true h2)
    exact ⟨y, hy, h, z, h1⟩
  · rintro ⟨y, hy, h, z, h1⟩
    exact ⟨h, h1, decide_eq_true ((s.mem h).mpr ⟨y, hy, z⟩)⟩
theorem first_turn (w : Web) (ok : w.Ok) {e : E} {left : List Nat} (he : Seq e (nn left)) (b i x : Nat) (t : Option E) (S : List Nat) (hS : S.length < 500) (hx : x < w.2.length) (hb : b < left.length) :
    B_first_place_1 [some (.val (encW w)), some e, some (.val (.int b)), some (.loc 0), some (.val (.int i)), some (.val (.int x)), t] [.dic (dic S)] =
      some (if (sAll S (lotOf w x)).length = w.1 then .brk else .nx,
        [some (.val (encW w)), some e, some (.val (.int (if ((lotOf w x).any fun h => decide (h ∈ S)) = false ∧ x < left[b] then i else b : Nat))), some (.loc 0), some (.val (.int i)), some (.val (.int x)), some (.val (.bool ((lotOf w x).any fun h => decide (h ∈ S))))], [.dic (dic (sAll S (lotOf w x)))]) := by
  have sh := shut_eq w ok x hx S hS
  have hg : (nn left)[b]? = some (.int left[b]) := by rw [nn_get, List.getElem?_eq_getElem hb]; rfl
  generalize (lotOf w x).any (fun h => decide (h ∈ S)) = late at sh
  generalize sAll S (lotOf w x) = S' at sh
  rw [encW] at sh
  by_cases hn : S'.length = w.1
  · cases late with
    | true => cases he <;> simp -implicitDefEqProofs -dsimp [e_B_first_place_1, encW, sh, hn, dic_len]
    | false =>
      by_cases hl : x < left[b]
      · cases he <;> simp -implicitDefEqProofs -dsimp [e_B_first_place_1, encW, sh, hn, dic_len, hb, hl]
      · cases he <;> simp -implicitDefEqProofs -dsimp [e_B_first_place_1, encW, sh, hn, dic_len, hb, hl]
  · have hn' : ¬ (S'.length : Int) = w.1 := by omega
    cases late with
    | true => cases he <;> simp -implicitDefEqProofs -dsimp [e_B_first_place_1, encW, sh, hn, hn', dic_len]
    | false =>
      by_cases hl : x < left[b]
      · cases he <;> simp -implicitDefEqProofs -dsimp [e_B_first_place_1, encW, sh, hn, hn', dic_len, hb, hl]
      · cases he <;> simp -implicitDefEqProofs -dsimp [e_B_first_place_1, encW, sh, hn, hn', dic_len, hb, hl]
theorem Best.lt {w : Web} {left pre : List Nat} {b : Nat} (h : Best w left pre b) : b < left.length := by
  obtain ⟨a, x, c, rfl, rfl, _⟩ := h.go
  simp
theorem Best.get {w : Web} {left pre a c : List Nat} {x b : Nat} (e : left = a ++ x :: c) (hb : a.length = b) (h : b < left.length) : left[b] = x := by
  subst e hb
  simp
theorem not_free {w : Web} {pre : List Nat} {x : Nat} (hs : ∃ y ∈ pre, share w y x) : ∀ {y : Nat}, Free w (pre ++ [x]) y → Free w pre y := fun {y} h => by
  rcases free_snoc h with h | ⟨rfl, h⟩
  · exact h
  · obtain ⟨z, hz, hs⟩ := hs
    exact absurd hs (h z hz)
theorem first_loop (w : Web) (ok : w.Ok) {e : E} {left : List Nat} (he : Seq e (nn left)) (hL : ∀ x ∈ left, x < w.2.length) (r : List Nat) : ∀ (pre S : List Nat) (b : Nat) (t4 t5 t6 : Option E), left = pre ++ r → Shut w pre S → Best w left pre b → ∃ (b' : Nat) (t4' t5' t6' : Option E) (st' : ML.Sto),
    mLoop [] (bTup [bName 4, bName 5]) B_first_place_1 (numb (nn r) pre.length) [some (.val (encW w)), some e, some (.val (.int b)), some (.loc 0), t4, t5, t6] [.dic (dic S)] =
      some (.nx, [some (.val (encW w)), some e, some (.val (.int b')), some (.loc 0), t4', t5', t6'], st') ∧ Best w left left b' := by
  induction r with
  | nil =>
    intro pre S b t4 t5 t6 hl _ hb
    rw [List.append_nil] at hl
    subst hl
    exact ⟨b, t4, t5, t6, [.dic (dic S)], by simp -implicitDefEqProofs -dsimp [numb], hb⟩
  | cons x r IH =>
    intro pre S b t4 t5 t6 hl hs hb
    have hx : x < w.2.length := hL x (by rw [hl]; simp)
    have hblt := hb.lt
    have hS : S.length < 500 := by
      have := nd_len w.1 S hs.nd hs.lt
      have := ok.n4
      omega
    have turn := first_turn w ok he b pre.length x t6 S hS hx hblt
    have hs' := hs.snoc ok hx
    have hlate := hs.late x
    -- the best place behind this turn
    have hb' : Best w left (pre ++ [x]) (if ((lotOf w x).any fun h => decide (h ∈ S)) = false ∧ x < left[b] then pre.length else b) := by
      obtain ⟨a, x0, c, e0, la, hf, hmin⟩ := hb.go
      have hg := Best.get (w := w) (pre := pre) e0 la hblt
      by_cases hc : ((lotOf w x).any fun h => decide (h ∈ S)) = false ∧ x < left[b]
      · rw [if_pos hc]
        have hno : ∀ y ∈ pre, ¬ share w y x := fun y hy hsh => by
          have := hlate.mpr ⟨y, hy, hsh⟩
          rw [hc.1] at this
          cases this
        refine ⟨pre, x, r, hl, rfl, hno, fun y hy => ?_⟩
        rcases free_snoc hy with hy | ⟨rfl, _⟩
        · have := hmin y hy
          have := hc.2
          omega
        · exact Nat.le_refl _
      · rw [if_neg hc]
        refine ⟨a, x0, c, e0, la, hf, fun y hy => ?_⟩
        rcases free_snoc hy with hy | ⟨rfl, hy⟩
        · exact hmin y hy
        · have hl0 : ((lotOf w y).any fun h => decide (h ∈ S)) = false := by
            cases q : (lotOf w y).any fun h => decide (h ∈ S) with
            | false => rfl
            | true =>
              obtain ⟨z, hz, hsh⟩ := hlate.mp q
              exact absurd hsh (hy z hz)
          have : ¬ y < left[b] := fun z => hc ⟨hl0, z⟩
          omega
    generalize hbd : (if ((lotOf w x).any fun h => decide (h ∈ S)) = false ∧ x < left[b] then pre.length else b) = b1 at turn hb'
    generalize sAll S (lotOf w x) = S' at turn hs'
    by_cases hn : S'.length = w.1
    · rw [if_pos hn] at turn
      refine ⟨b1, some (.val (.int pre.length)), some (.val (.int x)), some (.val (.bool ((lotOf w x).any fun h => decide (h ∈ S)))), [.dic (dic S')], by simp -implicitDefEqProofs -dsimp [numb, turn], ?_⟩
      obtain ⟨a, x0, c, e0, la, hf, hmin⟩ := hb'.go
      refine ⟨a, x0, c, e0, la, hf, fun y hy => hmin y ?_⟩
      have hall : ∀ h, h < w.1 → ∃ z ∈ pre ++ [x], h ∈ lotOf w z := fun h hh => (hs'.mem h).mp (nd_full hs'.nd hs'.lt hn h hh)
      have e2 : left = (pre ++ [x]) ++ r := by rw [hl]; simp
      rw [e2] at hy
      exact free_shut ok hall r.length rfl (fun z hz => hL z (by rw [hl]; simp [hz])) hy
    · rw [if_neg hn] at turn
      obtain ⟨b', t4', t5', t6', st', e2, hbest⟩ := IH (pre ++ [x]) S' b1 (some (.val (.int pre.length))) (some (.val (.int x))) (some (.val (.bool ((lotOf w x).any fun h => decide (h ∈ S))))) (by rw [hl]; simp) hs' hb'
      refine ⟨b', t4', t5', t6', st', ?_, hbest⟩
      rw [show (pre ++ [x]).length = pre.length + 1 by simp] at e2
      rw [show ((pre.length + 1 : Nat) : Int) = (pre.length : Int) + 1 by omega] at e2
      simp -implicitDefEqProofs -dsimp [numb, turn, e2]
theorem first_eq (w : Web) (ok : w.Ok) {e : E} {left : List Nat} (he : Seq e (nn left)) (hL : ∀ x ∈ left, x < w.2.length) (h0 : left ≠ []) : ∃ b : Nat, m_first_place [.val (encW w), e] [] = some (.int b, []) ∧ Best w left left b := by
  obtain ⟨x, r, hlr⟩ : ∃ x r, left = x :: r := by
    cases left with
    | nil => exact absurd rfl h0
    | cons x r => exact ⟨x, r, rfl⟩
  have hb : Best w left [] 0 := ⟨[], x, r, hlr, rfl, by simp, fun y hy => by
    obtain ⟨a, b, e, _⟩ := hy
    have := congrArg List.length e
    simp at this⟩
  have hs : Shut w [] [] := ⟨List.nodup_nil, by simp, by simp⟩
  obtain ⟨b', t4, t5, t6, st', e1, hbest⟩ := first_loop w ok he hL left [] [] 0 none none none rfl hs hb
  refine ⟨b', ?_, hbest⟩
  have e2 : mLoop [] (bTup [bName 4, bName 5]) B_first_place_1 (numb (nn left) 0) [some (.val (encW w)), some e, some (.val (.int 0)), some (.loc 0), none, none, none] [.dic []] = some (.nx, [some (.val (encW w)), some e, some (.val (.int b')), some (.loc 0), t4, t5, t6], st') := e1
  cases he <;> simp -implicitDefEqProofs -dsimp [m_first_place, e2]
/-! ### the least form -/
def IsMin (w : Web) (l : List Nat) (x : Nat) : Prop := Free w l x ∧ ∀ y, Free w l y → x ≤ y
inductive LF (w : Web) : List Nat → List Nat → Prop
  | nil : LF w [] []
  | cons {l r : List Nat} {x : Nat} : IsMin w l x → LF w (l.erase x) r → LF w l (x :: r)
theorem LF.inj {w : Web} : ∀ {r l r' : List Nat}, LF w l r → LF w l r' → r = r'
  | _, _, _, .nil, .nil => rfl
  | _, _, _, .nil, .cons h _ => by
    obtain ⟨a, b, e, _⟩ := h.1
    have := congrArg List.length e
    simp at this
  | _, _, _, .cons h _, .nil => by
    obtain ⟨a, b, e, _⟩ := h.1
    have := congrArg List.length e
    simp at this
  | _, _, _, .cons h t, .cons h' t' => by
    have : _ = _ := Nat.le_antisymm (h.2 _ h'.1) (h'.2 _ h.1)
    subst this
    rw [LF.inj t t']
theorem LF.length {w : Web} : ∀ {l r : List Nat}, LF w l r → r.length = l.length
  | _, _, .nil => rfl
  | l, _, .cons (x := x) h t => by
    obtain ⟨a, b, e, _⟩ := h.1
    have hm : x ∈ l := by rw [e]; simp
    have := LF.length t
    rw [List.length_erase_of_mem hm] at this
    have := List.length_pos_of_mem hm
    simp only [List.length_cons]
    omega
theorem LF.perm {w : Web} : ∀ {l r : List Nat}, LF w l r → r.Perm l
  | _, _, .nil => List.Perm.nil
  | l, _, .cons (x := x) h t => by
    obtain ⟨a, b, e, _⟩ := h.1
    have hm : x ∈ l := by rw [e]; simp
    exact (List.Perm.cons x (LF.perm t)).trans (List.perm_cons_erase hm).symm
/-- the first occurrence is taken out -/
theorem erase_at {w : Web} (ok : w.Ok) {a b : List Nat} {x : Nat} (hx : x < w.2.length) (hf : ∀ y ∈ a, ¬ share w y x) : (a ++ x :: b).erase x = a ++ b ∧ (a ++ x :: b).eraseIdx a.length = a ++ b := by
  have hn : x ∉ a := fun h => hf x h (share_self ok hx)
  constructor
  · rw [List.erase_append_right _ hn, List.erase_cons_head]
  · rw [List.eraseIdx_append_of_length_le (Nat.le_refl _), Nat.sub_self]; rfl
theorem Best.isMin {w : Web} (ok : w.Ok) {l : List Nat} {b : Nat} (hL : ∀ x ∈ l, x < w.2.length) (h : Best w l l b) : ∃ x, l[b]? = some x ∧ IsMin w l x ∧ l.eraseIdx b = l.erase x := by
  obtain ⟨a, x, c, e, la, hf, hmin⟩ := h.go
  have hx : x < w.2.length := hL x (by rw [e]; simp)
  obtain ⟨e1, e2⟩ := erase_at (b := c) ok hx hf
  refine ⟨x, ?_, ⟨⟨a, c, e, hf⟩, hmin⟩, ?_⟩
  · rw [e, ← la]; simp
  · rw [e, e1, ← la, e2]
theorem nn_erase : ∀ (l : List Nat) (b : Nat), (nn l).eraseIdx b = nn (l.eraseIdx b)
  | [], _ => rfl
  | x :: l, 0 => rfl
  | x :: l, b + 1 => by
    show PyData.int x :: (nn l).eraseIdx b = PyData.int x :: nn (l.eraseIdx b)
    rw [nn_erase l b]
theorem form_loop (w : Web) (ok : w.Ok) (c1 : Option E) (n : Nat) : ∀ (js left found : List Nat) (t : Option E), js.length = n → left.length = n → (∀ x ∈ left, x < w.2.length) → found.length + n < 1000 → ∃ (r : List Nat) (t' : Option E), LF w left r ∧
    mLoop [] (bName 4) B_least_form_1 (nn js) [some (.val (encW w)), c1, some (.loc 0), some (.loc 1), t] [.lst (nn left), .lst (nn found)] =
      some (.nx, [some (.val (encW w)), c1, some (.loc 0), some (.loc 1), t'], [.lst [], .lst (nn (found ++ r))]) := by
  induction n with
  | zero =>
    intro js left found t h0 h1 _ _
    rw [List.length_eq_zero_iff.mp h0, List.length_eq_zero_iff.mp h1]
    exact ⟨[], t, .nil, by simp -implicitDefEqProofs -dsimp⟩
  | succ n IH =>
    intro js left found t h0 h1 hL hz
    cases js with
    | nil => cases h0
    | cons j js =>
      have hne : left ≠ [] := fun z => by rw [z] at h1; cases h1
      obtain ⟨b, e1, hb⟩ := first_eq w ok (Seq.bl (nn left)) hL hne
      obtain ⟨x, hx, hm, he⟩ := hb.isMin ok hL
      have hlt := (List.getElem?_eq_some_iff.mp hx).1
      have hxm : x ∈ left := List.mem_of_getElem? hx
      have hel : (nn left).eraseIdx b = nn (left.erase x) := by
        rw [← he]; exact nn_erase left b
      obtain ⟨r, t', lf, e2⟩ := IH js (left.erase x) (found ++ [x]) (some (.val (.int j))) (by simpa using h0) (by rw [List.length_erase_of_mem hxm]; omega) (fun y hy => hL y (List.mem_of_mem_erase hy)) (by simp; omega)
      have hs : small (b : Int) = true := small_nat (by omega)
      have hf : found.length < 1000000 := by omega
      have hxe : left[b] = x := by
        rw [List.getElem?_eq_getElem hlt] at hx
        exact Option.some.inj hx
      refine ⟨x :: r, t', .cons hm lf, ?_⟩
      rw [encW] at e1 e2 ⊢
      simp -implicitDefEqProofs -dsimp [e_B_least_form_1, e1, hs, hlt, hf, hel, hxe, e2]
theorem form_eq (w : Web) (ok : w.Ok) {e : E} {row : List Nat} (he : Seq e (nn row)) (hL : ∀ x ∈ row, x < w.2.length) (hz : row.length < 900) : ∃ r, LF w row r ∧ m_least_form [.val (encW w), e] [] = some (tup r, []) := by
  obtain ⟨r, t', lf, e2⟩ := form_loop w ok (some e) row.length (List.range row.length) row [] none (by simp) rfl hL (by simp; omega)
  refine ⟨r, lf, ?_⟩
  have hs : small (row.length : Int) = true := small_nat (by omega)
  simp only [nn_nil, List.nil_append] at e2
  cases he <;> simp -implicitDefEqProofs -dsimp [m_least_form, hs, e2, tup_def]
end K13
set_option maxRecDepth 100000
set_option maxHeartbeats 4000000
namespace K13
open PySem PySem.Spec PyProof.Rows L2 ML
/-! ### lanes -/
def mt (n : Nat) (f : Nat → List Nat) : List (List D) := (List.range n).map fun h => nn (f h)
theorem mt_len (n : Nat) (f : Nat → List Nat) : (mt n f).length = n := by simp [mt]
theorem mt_get {n h : Nat} (f : Nat → List Nat) (hh : h < n) : (mt n f)[h]? = some (nn (f h)) := by
  unfold mt
  rw [List.getElem?_map, List.getElem?_range hh]; rfl
theorem mt_getE {n h : Nat} (f : Nat → List Nat) (hh : h < (mt n f).length) : (mt n f)[h] = nn (f h) := by
  have := mt_get (n := n) f (by rw [mt_len] at hh; exact hh)
  rw [List.getElem?_eq_getElem hh] at this
  exact Option.some.inj this
theorem mt_set {n h : Nat} (f : Nat → List Nat) (hh : h < n) (g : List Nat) : (mt n f).set h (nn g) = mt n fun k => if k = h then g else f k := by
  apply List.ext_getElem?
  intro k
  by_cases hk : k < n
  · rw [mt_get _ hk]
    by_cases e : h = k
    · subst e
      rw [List.getElem?_set_self (by rw [mt_len]; exact hh), if_pos rfl]
    · rw [List.getElem?_set_ne e, mt_get _ hk, if_neg (fun z => e z.symm)]
  · rw [List.getElem?_eq_none (by rw [List.length_set, mt_len]; omega), List.getElem?_eq_none (by rw [mt_len]; omega)]
theorem mt_congr {n : Nat} {f g : Nat → List Nat} (h : ∀ k, k < n → f k = g k) : mt n f = mt n g := by
  unfold mt
  apply List.map_congr_left
  intro k hk
  rw [h k (List.mem_range.mp hk)]
theorem lanes_in (n : Nat) (c0 c1 : Option E) (x : Nat) (hs : List Nat) : ∀ (f : Nat → List Nat) (t : Option E), hs.Nodup → (∀ h ∈ hs, h < n) → (∀ k, (f k).length + hs.length < 10000) → ∃ t', mLoop [] (bName 4) B__law_lanes_1 (nn hs) [c0, c1, some (.loc 0), some (.val (.int x)), t] [.mat (mt n f)] =
    some (.nx, [c0, c1, some (.loc 0), some (.val (.int x)), t'], [.mat (mt n fun k => f k ++ if k ∈ hs then [x] else [])]) := by
  induction hs with
  | nil =>
    intro f t _ _ _
    exact ⟨t, by simp -implicitDefEqProofs -dsimp⟩
  | cons h hs IH =>
    intro f t nd hl hz
    simp only [List.length_cons] at hz
    obtain ⟨hn, nd'⟩ := List.nodup_cons.mp nd
    have hh := hl h (by simp)
    have hz' : (f h).length < 1000000 := by have := hz h; omega
    have step : B__law_lanes_1 [c0, c1, some (.loc 0), some (.val (.int x)), some (.val (.int h))] [.mat (mt n f)] = some (.nx, [c0, c1, some (.loc 0), some (.val (.int x)), some (.val (.int h))], [.mat (mt n fun k => if k = h then f h ++ [x] else f k)]) := by
      rw [← mt_set f hh]
      simp -implicitDefEqProofs -dsimp [B__law_lanes_1, hz', mt_len, mt_getE, hh]
    obtain ⟨t', e⟩ := IH (fun k => if k = h then f h ++ [x] else f k) (some (.val (.int h))) nd' (fun k hk => hl k (by simp [hk])) (fun k => by
      by_cases z : k = h
      · have := hz h; simp [z]; omega
      · have := hz k; simp [z]; omega)
    refine ⟨t', ?_⟩
    rw [nn_cons, loop_cons0]
    simp -implicitDefEqProofs -dsimp [step, e]
    apply mt_congr
    intro k hk
    by_cases z : k = h
    · subst z
      simp [hn]
    · simp [z]
theorem lanes_out (w : Web) (ok : w.Ok) (c1 : Option E) (r : List Nat) : ∀ (f : Nat → List Nat) (t3 t4 : Option E), (∀ x ∈ r, x < w.2.length) → (∀ k, (f k).length + r.length < 1000) → ∃ t3' t4', mLoop [] (bName 3) B__law_lanes_2 (nn r) [some (.val (encW w)), c1, some (.loc 0), t3, t4] [.mat (mt w.1 f)] =
    some (.nx, [some (.val (encW w)), c1, some (.loc 0), t3', t4'], [.mat (mt w.1 fun k => f k ++ r.filter fun x => decide (k ∈ lotOf w x))]) := by
  induction r with
  | nil =>
    intro f t3 t4 _ _
    exact ⟨t3, t4, by simp -implicitDefEqProofs -dsimp⟩
  | cons x r IH =>
    intro f t3 t4 hL hz
    simp only [List.length_cons] at hz
    have hx := hL x (by simp)
    obtain ⟨h1, h2, h3, h4⟩ := lotOf_ok ok hx
    have hg := lotOf_get hx
    obtain ⟨t4', e1⟩ := lanes_in w.1 (some (.val (encW w))) c1 x (lotOf w x) f t4 h2 h3 (fun k => by have := hz k; omega)
    obtain ⟨t3', t5, e2⟩ := IH (fun k => f k ++ if k ∈ lotOf w x then [x] else []) (some (.val (.int x))) t4' (fun y hy => hL y (by simp [hy])) (fun k => by
      have := hz k
      rw [List.length_append]
      split
      · simp; omega
      · simp; omega)
    have e3 : (mt w.1 fun k => (f k ++ if k ∈ lotOf w x then [x] else []) ++ r.filter fun y => decide (k ∈ lotOf w y)) = mt w.1 fun k => f k ++ (x :: r).filter fun y => decide (k ∈ lotOf w y) := by
      apply mt_congr
      intro k _
      rw [List.append_assoc, List.filter_cons]
      by_cases z : k ∈ lotOf w x
      · simp [z]
      · simp [z]
    rw [e3] at e2
    refine ⟨t3', t5, ?_⟩
    rw [nn_cons, loop_cons0]
    rw [encW] at e1 e2 ⊢
    have step : B__law_lanes_2 [some (.val (.tuple [.int w.1, .tuple (w.2.map tup)])), c1, some (.loc 0), some (.val (.int x)), t4] [.mat (mt w.1 f)] = some (.nx, [some (.val (.tuple [.int w.1, .tuple (w.2.map tup)])), c1, some (.loc 0), some (.val (.int x)), t4'], [.mat (mt w.1 fun k => f k ++ if k ∈ lotOf w x then [x] else [])]) := by
      simp -implicitDefEqProofs -dsimp [B__law_lanes_2, hg, tup_def, e1]
    simp -implicitDefEqProofs -dsimp only [e_bName, Option.bind_some, bd_some, mp_some, List.set_cons_zero, List.set_cons_succ, step, e2]
theorem compM_nil (g : List Gd) (bd : Bd) (tt : M Bool) (te : M (List D)) (env : ML.Env) (st : ML.Sto) (h : gOk g st) : mCompGoM g bd tt te [] env st = some ([], st) := by
  unfold mCompGoM
  rw [if_pos h]
theorem compM_new (i : Nat) (env : ML.Env) (st : ML.Sto) : ∀ ds : List D, mCompGoM [] (bName i) mYes (nLst aNil) ds env st = some (ds.map fun _ => [], st)
  | [] => compM_nil [] _ _ _ env st trivial
  | d :: ds => by
    have ih := compM_new i env st ds
    unfold mCompGoM
    rw [if_pos (show gOk [] st from trivial)]
    simp -implicitDefEqProofs -dsimp [ih]
/-- a row's lanes -/
def laneOf (w : Web) (r : List Nat) (k : Nat) : List Nat := r.filter fun x => decide (k ∈ lotOf w x)
def lanesD (w : Web) (r : List Nat) : D := .list ((mt w.1 (laneOf w r)).map .list)
theorem lanes_eq (w : Web) (ok : w.Ok) {e : E} {r : List Nat} (he : Seq e (nn r)) (hL : ∀ x ∈ r, x < w.2.length) (hz : r.length < 900) : m__law_lanes [.val (encW w), e] [] = some (lanesD w r, []) := by
  obtain ⟨t3, t4, e1⟩ := lanes_out w ok (some e) r (fun _ => []) none none hL (fun k => by simp; omega)
  have h4 := ok.n4
  have hs : small (w.1 : Int) = true := small_nat (by omega)
  have hz1 : w.1 < 1000000 := by omega
  have e0 : (nn (List.range w.1)).map (fun _ => ([] : List D)) = mt w.1 fun _ => [] := by
    unfold mt nn
    rw [List.map_map]
    rfl
  rw [encW] at e1
  simp only [List.nil_append] at e1
  cases he <;> simp -implicitDefEqProofs -dsimp [m__law_lanes, encW, hs, hz1, compM_new, e0, e1, lanesD] <;> rfl
end K13
set_option maxRecDepth 100000
set_option maxHeartbeats 4000000
namespace K13
open PySem PySem.Spec PyProof.Rows L2 ML
/-! ### the law's own first letter -/
def spots (n : Nat) (sp : Nat → Nat) : List Nat := (List.range n).map sp
theorem spots_len (n : Nat) (sp : Nat → Nat) : (spots n sp).length = n := by simp [spots]
theorem spots_getE {n h : Nat} (sp : Nat → Nat) (hh : h < (spots n sp).length) : (spots n sp)[h] = sp h := by simp [spots]
theorem spots_set {n h : Nat} (sp : Nat → Nat) (hh : h < n) (v : Nat) : (spots n sp).set h v = spots n fun k => if k = h then v else sp k := by
  apply List.ext_getElem?
  intro k
  unfold spots
  by_cases hk : k < n
  · rw [List.getElem?_map, List.getElem?_range hk]
    by_cases e : h = k
    · subst e
      rw [List.getElem?_set_self (by simpa using hh)]; simp
    · rw [List.getElem?_set_ne e, List.getElem?_map, List.getElem?_range hk]
      have e2 : ¬ k = h := fun z => e z.symm
      simp [e2]
  · rw [List.getElem?_eq_none (by simp; omega), List.getElem?_eq_none (by simp; omega)]
/-- x stands next in the lane of h -/
def Head (w : Web) (r : List Nat) (sp : Nat → Nat) (x h : Nat) : Prop := (laneOf w r h)[sp h]? = some x
theorem first_hand (w : Web) (r : List Nat) (sp : Nat → Nat) (x h : Nat) (hh : h < w.1) (c0 : Option E) (l : Bool) :
    (Head w r sp x h → B__law_first_1 [c0, some (.val (lanesD w r)), some (.bor (.list (nn (spots w.1 sp)))), some (.val (.int x)), some (.val (.bool l)), some (.val (.int h))] [] = some (.nx, [c0, some (.val (lanesD w r)), some (.bor (.list (nn (spots w.1 sp)))), some (.val (.int x)), some (.val (.bool l)), some (.val (.int h))], [])) ∧
    (¬ Head w r sp x h → B__law_first_1 [c0, some (.val (lanesD w r)), some (.bor (.list (nn (spots w.1 sp)))), some (.val (.int x)), some (.val (.bool l)), some (.val (.int h))] [] = some (.brk, [c0, some (.val (lanesD w r)), some (.bor (.list (nn (spots w.1 sp)))), some (.val (.int x)), some (.val (.bool true)), some (.val (.int h))], [])) := by
  unfold Head
  by_cases hl : sp h < (laneOf w r h).length
  · rw [List.getElem?_eq_getElem hl]
    have hl' : ¬ (laneOf w r h).length ≤ sp h := by omega
    constructor
    · intro e
      have e := Option.some.inj e
      simp -implicitDefEqProofs -dsimp [B__law_first_1, lanesD, spots_len, spots_getE, mt_len, mt_getE, hh, hl, hl', e]
    · intro e
      have e : ¬ (laneOf w r h)[sp h] = x := fun z => e (by rw [z])
      have e' : ¬ ((laneOf w r h)[sp h] : Int) = x := by omega
      simp -implicitDefEqProofs -dsimp [B__law_first_1, lanesD, spots_len, spots_getE, mt_len, mt_getE, hh, hl, hl', e, e']
  · rw [List.getElem?_eq_none (by omega)]
    have hl' : (laneOf w r h).length ≤ sp h := by omega
    constructor
    · intro e; cases e
    · intro _
      simp -implicitDefEqProofs -dsimp [B__law_first_1, lanesD, spots_len, spots_getE, mt_len, mt_getE, hh, hl']
theorem first_in (w : Web) (r : List Nat) (sp : Nat → Nat) (x : Nat) (c0 : Option E) (hs : List Nat) : ∀ (t : Option E), (∀ h ∈ hs, h < w.1) → ∃ (b : Bool) (t' : Option E), (b = false ↔ ∀ h ∈ hs, Head w r sp x h) ∧
    mLoop [] (bName 5) B__law_first_1 (nn hs) [c0, some (.val (lanesD w r)), some (.bor (.list (nn (spots w.1 sp)))), some (.val (.int x)), some (.val (.bool false)), t] [] = some (.nx, [c0, some (.val (lanesD w r)), some (.bor (.list (nn (spots w.1 sp)))), some (.val (.int x)), some (.val (.bool b)), t'], []) := by
  induction hs with
  | nil => intro t _; exact ⟨false, t, by simp, by simp -implicitDefEqProofs -dsimp⟩
  | cons h hs IH =>
    intro t hl
    obtain ⟨p1, p2⟩ := first_hand w r sp x h (hl h (by simp)) c0 false
    by_cases hd : Head w r sp x h
    · obtain ⟨b, t', hb, e⟩ := IH (some (.val (.int h))) fun k hk => hl k (by simp [hk])
      have e1 := p1 hd
      refine ⟨b, t', ?_, ?_⟩
      · rw [hb]; simp [hd]
      · simp -implicitDefEqProofs -dsimp [e1, e]
    · have e1 := p2 hd
      refine ⟨true, some (.val (.int h)), ?_, ?_⟩
      · simp [hd]
      · simp -implicitDefEqProofs -dsimp [e1]
def Heads (w : Web) (r : List Nat) (sp : Nat → Nat) (x : Nat) : Prop := ∀ h ∈ lotOf w x, Head w r sp x h
theorem first_out (w : Web) (ok : w.Ok) (r : List Nat) (sp : Nat → Nat) (x : Nat) (hx : x < w.2.length) (hh : Heads w r sp x) (m : List Nat) (js : List Nat) : ∀ (t4 t5 t3 : Option E), (∀ y ∈ js, y < w.2.length ∧ ¬ Heads w r sp y) → ∃ env', mLoop [] (bName 3) B__law_first_2 (nn (js ++ x :: m)) [some (.val (encW w)), some (.val (lanesD w r)), some (.bor (.list (nn (spots w.1 sp)))), t3, t4, t5] [] = some (.ret (.int x) none, env', []) := by
  induction js with
  | nil =>
    intro t4 t5 t3 _
    obtain ⟨h1, h2, h3, h4⟩ := lotOf_ok ok hx
    have hg := lotOf_get hx
    obtain ⟨b, t', hb, e⟩ := first_in w r sp x (some (.val (encW w))) (lotOf w x) t5 h3
    have b0 : b = false := hb.mpr hh
    subst b0
    rw [encW] at e ⊢
    refine ⟨[some (.val (.tuple [.int w.1, .tuple (w.2.map tup)])), some (.val (lanesD w r)), some (.bor (.list (nn (spots w.1 sp)))), some (.val (.int x)), some (.val (.bool false)), t'], ?_⟩
    simp -implicitDefEqProofs -dsimp [e_B__law_first_2, hg, tup_def, e]
  | cons y js IH =>
    intro t4 t5 t3 hj
    obtain ⟨hy, hny⟩ := hj y (by simp)
    obtain ⟨h1, h2, h3, h4⟩ := lotOf_ok ok hy
    have hg := lotOf_get hy
    obtain ⟨b, t', hb, e⟩ := first_in w r sp y (some (.val (encW w))) (lotOf w y) t5 h3
    have b1 : b = true := by
      cases b with
      | true => rfl
      | false => exact absurd (hb.mp rfl) hny
    subst b1
    obtain ⟨env', e2⟩ := IH (some (.val (.bool true))) t' (some (.val (.int y))) fun z hz => hj z (by simp [hz])
    refine ⟨env', ?_⟩
    rw [encW] at e e2 ⊢
    rw [List.cons_append]
    simp -implicitDefEqProofs -dsimp [e_B__law_first_2, hg, tup_def, e, e2]
theorem first_law (w : Web) (ok : w.Ok) (r : List Nat) (sp : Nat → Nat) (x : Nat) (hx : x < w.2.length) (hh : Heads w r sp x) (hmin : ∀ y, y < x → ¬ Heads w r sp y) : m__law_first [.val (encW w), .val (lanesD w r), .bor (.list (nn (spots w.1 sp)))] [] = some (.int x, []) := by
  have e0 : List.range w.2.length = List.range x ++ x :: (List.range' (x + 1) (w.2.length - x - 1)) := by
    rw [List.range_eq_range', List.range_eq_range']
    have : w.2.length = x + ((w.2.length - x - 1) + 1) := by omega
    conv => lhs; rw [this]
    rw [← List.range'_append_1, List.range'_succ]
    simp
  obtain ⟨env', e⟩ := first_out w ok r sp x hx hh (List.range' (x + 1) (w.2.length - x - 1)) (List.range x) none none none fun y hy => by
    have := List.mem_range.mp hy
    exact ⟨by omega, hmin y this⟩
  rw [← e0] at e
  have h8 := ok.m8
  have hs : small (w.2.length : Int) = true := small_nat (by omega)
  rw [encW] at e ⊢
  simp -implicitDefEqProofs -dsimp [m__law_first, hs, e]
end K13
set_option maxRecDepth 100000
set_option maxHeartbeats 4000000
namespace K13
open PySem PySem.Spec PyProof.Rows L2 ML
/-! ### the law's own least form -/
theorem lane_app (w : Web) (a b : List Nat) (h : Nat) : laneOf w (a ++ b) h = laneOf w a h ++ laneOf w b h := by unfold laneOf; rw [List.filter_append]
theorem lane_none {w : Web} {a : List Nat} {h : Nat} (n : ∀ y ∈ a, h ∉ lotOf w y) : laneOf w a h = [] := by
  unfold laneOf
  rw [List.filter_eq_nil_iff]
  intro y hy
  simpa using n y hy
theorem lane_cons {w : Web} {x : Nat} {b : List Nat} {h : Nat} (hm : h ∈ lotOf w x) : laneOf w (x :: b) h = x :: laneOf w b h := by
  unfold laneOf
  rw [List.filter_cons, if_pos (by simpa using hm)]
theorem lane_skip {w : Web} {x : Nat} {b : List Nat} {h : Nat} (hm : h ∉ lotOf w x) : laneOf w (x :: b) h = laneOf w b h := by
  unfold laneOf
  rw [List.filter_cons, if_neg (by simpa using hm)]
theorem heads_free {w : Web} (ok : w.Ok) {l : List Nat} {x : Nat} (hx : x < w.2.length) : (∀ h ∈ lotOf w x, (laneOf w l h).head? = some x) ↔ Free w l x := by
  obtain ⟨h1, h2, h3, h4⟩ := lotOf_ok ok hx
  constructor
  · intro hh
    obtain ⟨k, hk⟩ : ∃ k, k ∈ lotOf w x := by
      cases e : lotOf w x with
      | nil => exact absurd e h1
      | cons k t => exact ⟨k, by simp⟩
    have hm : x ∈ l := by
      have := hh k hk
      have : x ∈ laneOf w l k := List.mem_of_mem_head? this
      exact (List.mem_filter.mp this).1
    obtain ⟨a, b, rfl, hn⟩ := List.eq_append_cons_of_mem hm
    refine ⟨a, b, rfl, fun y hy ⟨h, s1, s2⟩ => ?_⟩
    have q := hh h s2
    rw [lane_app] at q
    cases e : laneOf w a h with
    | nil =>
      have : y ∈ laneOf w a h := List.mem_filter.mpr ⟨hy, by simpa using s1⟩
      rw [e] at this
      cases this
    | cons z t =>
      rw [e] at q
      have : z = x := Option.some.inj q
      subst this
      have : z ∈ laneOf w a h := by rw [e]; simp
      exact hn (List.mem_filter.mp this).1
  · rintro ⟨a, b, rfl, hf⟩ h hm
    rw [lane_app, lane_none (fun y hy hh => hf y hy ⟨h, hh, hm⟩), lane_cons hm]
    rfl
/-- the lanes behind the spots are those of what is left -/
def Rest (w : Web) (row left : List Nat) (sp : Nat → Nat) : Prop := ∀ h, h < w.1 → (laneOf w row h).drop (sp h) = laneOf w left h
theorem Rest.heads {w : Web} (ok : w.Ok) {row left : List Nat} {sp : Nat → Nat} (hr : Rest w row left sp) {x : Nat} (hx : x < w.2.length) : Heads w row sp x ↔ Free w left x := by
  rw [← heads_free ok hx]
  obtain ⟨h1, h2, h3, h4⟩ := lotOf_ok ok hx
  unfold Heads Head
  constructor
  · intro hh h hm
    rw [← hr h (h3 h hm), List.head?_drop]
    exact hh h hm
  · intro hh h hm
    have := hh h hm
    rw [← hr h (h3 h hm), List.head?_drop] at this
    exact this
theorem Rest.step {w : Web} (ok : w.Ok) {row left : List Nat} {sp : Nat → Nat} (hr : Rest w row left sp) {x : Nat} (hx : x < w.2.length) (hf : Free w left x) : Rest w row (left.erase x) fun h => if h ∈ lotOf w x then sp h + 1 else sp h := by
  obtain ⟨a, b, rfl, hno⟩ := hf
  obtain ⟨e1, _⟩ := erase_at (b := b) ok hx hno
  intro h hh
  rw [e1]
  have q := hr h hh
  show List.drop (if h ∈ lotOf w x then sp h + 1 else sp h) (laneOf w row h) = _
  by_cases hm : h ∈ lotOf w x
  · rw [if_pos hm, ← List.drop_drop, List.drop_one, q, lane_app, lane_app, lane_none (fun y hy z => hno y hy ⟨h, z, hm⟩), lane_cons hm]
    rfl
  · rw [if_neg hm, q, lane_app, lane_app, lane_skip hm]
theorem nn_set1 (l : List Nat) (i v : Nat) : (nn l).set i (.int ((v : Int) + 1)) = nn (l.set i (v + 1)) := by
  unfold nn
  rw [List.map_set]
  rfl
theorem least_in (n : Nat) (c0 c1 c2 c4 c5 c6 : Option E) (fo : O) (hs : List Nat) : ∀ (sp : Nat → Nat) (t : Option E), hs.Nodup → (∀ h ∈ hs, h < n) → ∃ t', mLoop [] (bName 7) B__law_least_1 (nn hs) [c0, c1, c2, some (.loc 0), c4, c5, c6, t] [.lst (nn (spots n sp)), fo] =
    some (.nx, [c0, c1, c2, some (.loc 0), c4, c5, c6, t'], [.lst (nn (spots n fun h => if h ∈ hs then sp h + 1 else sp h)), fo]) := by
  induction hs with
  | nil => intro sp t _ _; exact ⟨t, by simp -implicitDefEqProofs -dsimp⟩
  | cons h hs IH =>
    intro sp t nd hl
    obtain ⟨hn, nd'⟩ := List.nodup_cons.mp nd
    have hh := hl h (by simp)
    have step : B__law_least_1 [c0, c1, c2, some (.loc 0), c4, c5, c6, some (.val (.int h))] [.lst (nn (spots n sp)), fo] = some (.nx, [c0, c1, c2, some (.loc 0), c4, c5, c6, some (.val (.int h))], [.lst (nn (spots n fun k => if k = h then sp h + 1 else sp k)), fo]) := by
      rw [← spots_set sp hh]
      simp -implicitDefEqProofs -dsimp [B__law_least_1, spots_len, spots_getE, hh, nn_set1]
    obtain ⟨t', e⟩ := IH (fun k => if k = h then sp h + 1 else sp k) (some (.val (.int h))) nd' fun k hk => hl k (by simp [hk])
    have e3 : (fun k => if k ∈ hs then (if k = h then sp h + 1 else sp k) + 1 else (if k = h then sp h + 1 else sp k)) = fun k => if k ∈ h :: hs then sp k + 1 else sp k := by
      funext k
      by_cases z : k = h
      · subst z; simp [hn]
      · simp [z]
    rw [e3] at e
    refine ⟨t', ?_⟩
    rw [nn_cons, loop_cons0]
    simp -implicitDefEqProofs -dsimp only [e_bName, Option.bind_some, bd_some, mp_some, List.set_cons_zero, List.set_cons_succ, step, e]
theorem least_loop (w : Web) (ok : w.Ok) (row : List Nat) (c1 : Option E) (n : Nat) : ∀ (js left found : List Nat) (sp : Nat → Nat) (t5 t6 t7 : Option E), js.length = n → left.length = n → (∀ x ∈ left, x < w.2.length) → found.length + n < 1000 → Rest w row left sp → ∃ (r : List Nat) (env' : ML.Env) (sp' : O), LF w left r ∧
    mLoop [] (bName 5) B__law_least_2 (nn js) [some (.val (encW w)), c1, some (.val (lanesD w row)), some (.loc 0), some (.loc 1), t5, t6, t7] [.lst (nn (spots w.1 sp)), .lst (nn found)] =
      some (.nx, env', [sp', .lst (nn (found ++ r))]) ∧ env'[4]? = some (some (.loc 1)) := by
  induction n with
  | zero =>
    intro js left found sp t5 t6 t7 h0 h1 _ _ _
    rw [List.length_eq_zero_iff.mp h0, List.length_eq_zero_iff.mp h1]
    exact ⟨[], _, _, .nil, by simp -implicitDefEqProofs -dsimp; exact ⟨rfl, rfl⟩, rfl⟩
  | succ n IH =>
    intro js left found sp t5 t6 t7 h0 h1 hL hz hr
    cases js with
    | nil => cases h0
    | cons j js =>
      have hne : left ≠ [] := fun z => by rw [z] at h1; cases h1
      obtain ⟨b, _, hb⟩ := first_eq w ok (Seq.bl (nn left)) hL hne
      obtain ⟨x, hxb, hm, _⟩ := hb.isMin ok hL
      have hxm : x ∈ left := List.mem_of_getElem? hxb
      have hx := hL x hxm
      obtain ⟨l1, l2, l3, l4⟩ := lotOf_ok ok hx
      have fl := first_law w ok row sp x hx ((hr.heads ok hx).mpr hm.1) fun y hy hh => by
        have := hm.2 y ((hr.heads ok (by omega)).mp hh)
        omega
      have hf : found.length < 1000000 := by omega
      have hg := lotOf_get hx
      obtain ⟨t7', e1⟩ := least_in w.1 (some (.val (encW w))) c1 (some (.val (lanesD w row))) (some (.loc 1)) (some (.val (.int j))) (some (.val (.int x))) (.lst (nn (found ++ [x]))) (lotOf w x) sp t7 l2 l3
      obtain ⟨r, env', sp', lf, e2, e3⟩ := IH js (left.erase x) (found ++ [x]) (fun h => if h ∈ lotOf w x then sp h + 1 else sp h) (some (.val (.int j))) (some (.val (.int x))) t7' (by simpa using h0) (by rw [List.length_erase_of_mem hxm]; omega) (fun y hy => hL y (List.mem_of_mem_erase hy)) (by simp; omega) (hr.step ok hx hm.1)
      refine ⟨x :: r, env', sp', .cons hm lf, ?_, e3⟩
      rw [List.append_assoc, List.singleton_append] at e2
      rw [encW] at e1 e2 fl ⊢
      rw [nn_cons, loop_cons0]
      have turn : B__law_least_2 [some (.val (.tuple [.int w.1, .tuple (w.2.map tup)])), c1, some (.val (lanesD w row)), some (.loc 0), some (.loc 1), some (.val (.int j)), t6, t7] [.lst (nn (spots w.1 sp)), .lst (nn found)] = some (.nx, [some (.val (.tuple [.int w.1, .tuple (w.2.map tup)])), c1, some (.val (lanesD w row)), some (.loc 0), some (.loc 1), some (.val (.int j)), some (.val (.int x)), t7'], [.lst (nn (spots w.1 fun h => if h ∈ lotOf w x then sp h + 1 else sp h)), .lst (nn (found ++ [x]))]) := by
        simp -implicitDefEqProofs -dsimp [B__law_least_2, fl, hf, hg, tup_def, e1]
      simp -implicitDefEqProofs -dsimp only [e_bName, Option.bind_some, bd_some, mp_some, List.set_cons_zero, List.set_cons_succ, turn, e2]
theorem least_eq (w : Web) (ok : w.Ok) {e : E} {row : List Nat} (he : Seq e (nn row)) (hL : ∀ x ∈ row, x < w.2.length) (hz : row.length < 900) : ∃ r, LF w row r ∧ m__law_least [.val (encW w), e] [] = some (tup r, []) := by
  have hr : Rest w row row fun _ => 0 := fun h _ => rfl
  obtain ⟨r, env', sp', lf, e2, e3⟩ := least_loop w ok row (some e) row.length (List.range row.length) row [] (fun _ => 0) none none none (by simp) rfl hL (by simp; omega) hr
  refine ⟨r, lf, ?_⟩
  have hs : small (row.length : Int) = true := small_nat (by omega)
  have h4 := ok.n4
  have hsn : small (w.1 : Int) = true := small_nat (by omega)
  have hn : w.1 ≤ 1000000 := by omega
  have ln := lanes_eq w ok he hL hz
  have e0 : nn (spots w.1 fun _ => 0) = List.replicate w.1 (.int 0) := by
    unfold spots nn
    rw [List.map_map, List.eq_replicate_iff]
    refine ⟨by simp, fun b hb => ?_⟩
    obtain ⟨_, _, e⟩ := List.mem_map.mp hb
    exact e.symm
  rw [e0] at e2
  simp only [nn_nil, List.nil_append] at e2
  rw [encW] at ln e2 ⊢
  have lnB : ∀ ds, m__law_lanes [.val (.tuple [.int w.1, .tuple (w.2.map tup)]), .bor (.list (nn row))] ds = m__law_lanes [.val (.tuple [.int w.1, .tuple (w.2.map tup)]), .bor (.list (nn row))] ds := fun _ => rfl
  have rep1 : (List.replicate w.1 [PyData.int 0]).flatten = List.replicate w.1 (.int 0) := by
    rw [List.flatten_replicate_singleton]
  cases he <;> simp -implicitDefEqProofs -dsimp [m__law_least, ln, hs, hsn, hn, rep1, e2, e3, tup_def]
end K13
set_option maxRecDepth 100000
set_option maxHeartbeats 4000000
namespace K13
open PySem PySem.Spec PyProof.Rows L2 ML
/-! ### what is seen -/
def bb (l : List Bool) : List D := l.map PyData.bool
@[simp] theorem bb_nil : bb [] = [] := rfl
@[simp] theorem bb_cons (b : Bool) (l : List Bool) : bb (b :: l) = .bool b :: bb l := rfl
@[simp] theorem bb_fold1 (l : List Bool) (b : Bool) : bb l ++ [.bool b] = bb (l ++ [b]) := by simp [bb]
@[simp] theorem bb_rev (l : List Bool) : (bb l).reverse = bb l.reverse := by simp [bb]
@[simp] theorem bb_len (l : List Bool) : (bb l).length = l.length := by simp [bb]
def hit (w : Web) (eye S : List Nat) (x : Nat) : Bool := eye.contains x || (lotOf w x).any fun h => decide (h ∈ S)
def nextS (w : Web) (eye S : List Nat) (x : Nat) : List Nat := if hit w eye S x = true then sAll S (lotOf w x) else S
def mk (w : Web) (eye : List Nat) : List Nat → List Nat → List Bool
  | [], _ => []
  | x :: r, S => hit w eye S x :: mk w eye r (nextS w eye S x)
theorem mk_len (w : Web) (eye : List Nat) : ∀ (r S : List Nat), (mk w eye r S).length = r.length
  | [], _ => rfl
  | x :: r, S => congrArg (· + 1) (mk_len w eye r _)
/-- hands below n, each once -/
structure HS (n : Nat) (S : List Nat) : Prop where
  nd : S.Nodup
  lt : ∀ h ∈ S, h < n
theorem HS.next {w : Web} (ok : w.Ok) {S eye : List Nat} (s : HS w.1 S) {x : Nat} (hx : x < w.2.length) : HS w.1 (nextS w eye S x) := by
  obtain ⟨h1, h2, h3, _⟩ := lotOf_ok ok hx
  unfold nextS
  split
  · exact ⟨sAll_nodup s.nd, fun h hh => by
      rcases sAll_mem.mp hh with z | z
      · exact s.lt h z
      · exact h3 h z⟩
  · exact s
theorem HS.small {w : Web} (ok : w.Ok) {S : List Nat} (s : HS w.1 S) : S.length ≤ 4 := Nat.le_trans (nd_len w.1 S s.nd s.lt) ok.n4
theorem seen_put (c0 c1 c2 c4 c5 c6 : Option E) (mo : O) (hs : List Nat) : ∀ (S : List Nat) (t : Option E), S.length + hs.length < 1000 → ∃ t', mLoop [] (bName 7) B_seen_events_1 (nn hs) [c0, c1, c2, some (.loc 0), c4, c5, c6, t] [.dic (dic S), mo] =
    some (.nx, [c0, c1, c2, some (.loc 0), c4, c5, c6, t'], [.dic (dic (sAll S hs)), mo]) := by
  induction hs with
  | nil => intro S t _; exact ⟨t, by simp -implicitDefEqProofs -dsimp [sAll]⟩
  | cons h hs IH =>
    intro S t hz
    simp only [List.length_cons] at hz
    have := sAdd_len S h
    have hz' : S.length < 1000000 := by omega
    obtain ⟨t', e⟩ := IH (sAdd S h) (some (.val (.int h))) (by omega)
    refine ⟨t', ?_⟩
    have step : B_seen_events_1 [c0, c1, c2, some (.loc 0), c4, c5, c6, some (.val (.int h))] [.dic (dic S), mo] = some (.nx, [c0, c1, c2, some (.loc 0), c4, c5, c6, some (.val (.int h))], [.dic (dic (sAdd S h)), mo]) := by
      simp -implicitDefEqProofs -dsimp [B_seen_events_1, dic_put, dic_len, hz']
    rw [nn_cons, loop_cons0]
    simp -implicitDefEqProofs -dsimp only [e_bName, Option.bind_some, bd_some, mp_some, List.set_cons_zero, List.set_cons_succ, step]
    exact e
theorem any_filter (l S : List Nat) : decide (0 < (l.filter fun h => decide (h ∈ S)).length) = l.any fun h => decide (h ∈ S) := by
  rw [Bool.eq_iff_iff, decide_eq_true_eq, List.length_pos_iff_exists_mem, List.any_eq_true]
  constructor
  · rintro ⟨a, ha⟩
    obtain ⟨h1, h2⟩ := List.mem_filter.mp ha
    exact ⟨a, h1, h2⟩
  · rintro ⟨a, h1, h2⟩
    exact ⟨a, List.mem_filter.mpr ⟨h1, h2⟩⟩
theorem seen_turn (w : Web) (ok : w.Ok) (c1 : Option E) (eye S : List Nat) (s : HS w.1 S) (x : Nat) (hx : x < w.2.length) (ms : List Bool) (hz : ms.length < 1000) (t6 t7 : Option E) : ∃ t7', B_seen_events_2 [some (.val (encW w)), c1, some (.val (tup eye)), some (.loc 0), some (.loc 1), some (.val (.int x)), t6, t7] [.dic (dic S), .lst (bb ms)] =
    some (.nx, [some (.val (encW w)), c1, some (.val (tup eye)), some (.loc 0), some (.loc 1), some (.val (.int x)), some (.val (.bool (hit w eye S x))), t7'], [.dic (dic (nextS w eye S x)), .lst (bb (ms ++ [hit w eye S x]))]) := by
  obtain ⟨h1, h2, h3, h4⟩ := lotOf_ok ok hx
  have hg := lotOf_get hx
  have hS := s.small ok
  have hf : ms.length < 1000000 := by omega
  have hl : (lotOf w x).length < 1000000 := by omega
  have ck := comp_keep 7 (mB (mDIn (mV 7) 3)) [some (.val (encW w)), c1, some (.val (tup eye)), some (.loc 0), some (.loc 1), some (.val (.int x)), t6, none] [.dic (dic S), .lst (bb ms)] (fun h => decide (h ∈ S)) (by simp) (lotOf w x) fun j _ => by simp -implicitDefEqProofs -dsimp [dic_get]
  have anyf := any_filter (lotOf w x) S
  obtain ⟨t7', e1⟩ := seen_put (some (.val (encW w))) c1 (some (.val (tup eye))) (some (.loc 1)) (some (.val (.int x))) (some (.val (.bool true))) (.lst (bb ms)) (lotOf w x) S t7 (by omega)
  unfold nextS
  rw [encW, tup_def] at ck e1 ⊢
  cases he : eye.contains x with
  | true =>
    have hh : hit w eye S x = true := by unfold hit; rw [he]; rfl
    have hm : x ∈ eye := by simpa using he
    rw [hh, if_pos rfl]
    exact ⟨t7', by simp -implicitDefEqProofs -dsimp [B_seen_events_2, hm, hg, tup_def, e1, hf]⟩
  | false =>
    have hh : hit w eye S x = (lotOf w x).any fun h => decide (h ∈ S) := by unfold hit; rw [he]; rfl
    rw [hh]
    have hm : x ∉ eye := by simpa using he
    generalize ((lotOf w x).filter fun h => decide (h ∈ S)) = fl at ck anyf
    generalize ((lotOf w x).any fun h => decide (h ∈ S)) = b at anyf
    cases b with
    | true =>
      have h0 : 0 < fl.length := of_decide_eq_true anyf
      rw [if_pos rfl]
      exact ⟨t7', by simp -implicitDefEqProofs -dsimp [B_seen_events_2, hm, hg, tup_def, ck, hl, h0, e1, hf]⟩
    | false =>
      have h0 : ¬ 0 < fl.length := of_decide_eq_false anyf
      rw [if_neg (by simp)]
      exact ⟨t7, by simp -implicitDefEqProofs -dsimp [B_seen_events_2, hm, hg, tup_def, ck, hl, h0, hf]⟩
theorem seen_loop (w : Web) (ok : w.Ok) (c1 : Option E) (eye : List Nat) (r : List Nat) : ∀ (S : List Nat) (ms : List Bool) (t5 t6 t7 : Option E), HS w.1 S → (∀ x ∈ r, x < w.2.length) → ms.length + r.length < 1000 → ∃ (env' : ML.Env) (d' : O), mLoop [] (bName 5) B_seen_events_2 (nn r) [some (.val (encW w)), c1, some (.val (tup eye)), some (.loc 0), some (.loc 1), t5, t6, t7] [.dic (dic S), .lst (bb ms)] =
    some (.nx, env', [d', .lst (bb (ms ++ mk w eye r S))]) ∧ env'[4]? = some (some (.loc 1)) := by
  induction r with
  | nil => intro S ms t5 t6 t7 _ _ _; exact ⟨_, _, by simp -implicitDefEqProofs -dsimp [mk]; exact ⟨rfl, rfl⟩, rfl⟩
  | cons x r IH =>
    intro S ms t5 t6 t7 s hL hz
    simp only [List.length_cons] at hz
    have hx := hL x (by simp)
    obtain ⟨t7', e1⟩ := seen_turn w ok c1 eye S s x hx ms (by omega) t6 t7
    obtain ⟨env', d', e2, e3⟩ := IH (nextS w eye S x) (ms ++ [hit w eye S x]) (some (.val (.int x))) (some (.val (.bool (hit w eye S x)))) t7' (s.next ok hx) (fun y hy => hL y (by simp [hy])) (by simp; omega)
    refine ⟨env', d', ?_, e3⟩
    rw [List.append_assoc, List.singleton_append] at e2
    rw [nn_cons, loop_cons0]
    simp -implicitDefEqProofs -dsimp only [e_bName, Option.bind_some, bd_some, mp_some, List.set_cons_zero, List.set_cons_succ, e1]
    exact e2
/-- the marks of a row -/
def marks (w : Web) (eye row : List Nat) : List Bool := (mk w eye row.reverse []).reverse
theorem seen_eq (w : Web) (ok : w.Ok) (eye row : List Nat) (hL : ∀ x ∈ row, x < w.2.length) (hz : row.length < 900) : m_seen_events [.val (encW w), .val (tup row), .val (tup eye)] [] = some (.list (bb (marks w eye row)), []) := by
  obtain ⟨env', d', e1, e2⟩ := seen_loop w ok (some (.val (tup row))) eye row.reverse [] [] none none none ⟨List.nodup_nil, by simp⟩ (fun x hx => hL x (List.mem_reverse.mp hx)) (by simp; omega)
  simp only [bb_nil, List.nil_append] at e1
  rw [encW, tup_def, tup_def] at e1 ⊢
  have e1' : mLoop [] (bName 5) B_seen_events_2 (nn row.reverse) [some (.val (.tuple [.int w.1, .tuple (w.2.map tup)])), some (.val (.tuple (nn row))), some (.val (.tuple (nn eye))), some (.loc 0), some (.loc 1), none, none, none] [.dic [], .lst []] = some (.nx, env', [d', .lst (bb (mk w eye row.reverse []))]) := e1
  simp -implicitDefEqProofs -dsimp [m_seen_events, e1', e2, marks]
end K13
set_option maxRecDepth 100000
set_option maxHeartbeats 4000000
namespace K13
open PySem PySem.Spec PyProof.Rows L2 ML
/-! ### the law's own marks -/
def hb (n : Nat) (S : List Nat) : List Bool := (List.range n).map fun h => decide (h ∈ S)
theorem hb_len (n : Nat) (S : List Nat) : (hb n S).length = n := by simp [hb]
theorem hb_get {n h : Nat} (S : List Nat) (hh : h < n) : (bb (hb n S))[h]? = some (.bool (decide (h ∈ S))) := by
  unfold bb hb
  rw [List.getElem?_map, List.getElem?_map, List.getElem?_range hh]; rfl
theorem hb_getE {n h : Nat} (S : List Nat) (hh : h < (bb (hb n S)).length) : (bb (hb n S))[h] = .bool (decide (h ∈ S)) := by
  have := hb_get (n := n) S (by rw [bb_len, hb_len] at hh; exact hh)
  rw [List.getElem?_eq_getElem hh] at this
  exact Option.some.inj this
theorem hb_set {n h : Nat} (S : List Nat) (hh : h < n) : (bb (hb n S)).set h (.bool true) = bb (hb n (sAdd S h)) := by
  apply List.ext_getElem?
  intro k
  by_cases hk : k < n
  · rw [hb_get _ hk]
    by_cases e : h = k
    · subst e
      rw [List.getElem?_set_self (by rw [bb_len, hb_len]; exact hh), decide_eq_true (sAdd_mem.mpr (.inr rfl))]
    · rw [List.getElem?_set_ne e, hb_get _ hk]
      have : (k ∈ S) ↔ (k ∈ sAdd S h) := by
        rw [sAdd_mem]
        constructor
        · exact .inl
        · rintro (z | z)
          · exact z
          · exact absurd z.symm e
      simp only [this]
  · rw [List.getElem?_eq_none (by rw [List.length_set, bb_len, hb_len]; omega), List.getElem?_eq_none (by rw [bb_len, hb_len]; omega)]
theorem heard_any (n : Nat) (c0 c1 c2 c4 c5 : Option E) (mo : O) (S : List Nat) (hs : List Nat) : ∀ (b : Bool) (t : Option E), (∀ h ∈ hs, h < n) → ∃ t', mLoop [] (bName 7) B__law_marks_1 (nn hs) [c0, c1, c2, some (.loc 0), c4, c5, some (.val (.bool b)), t] [.lst (bb (hb n S)), mo] =
    some (.nx, [c0, c1, c2, some (.loc 0), c4, c5, some (.val (.bool (b || hs.any fun h => decide (h ∈ S)))), t'], [.lst (bb (hb n S)), mo]) := by
  induction hs with
  | nil => intro b t _; exact ⟨t, by simp -implicitDefEqProofs -dsimp⟩
  | cons h hs IH =>
    intro b t hl
    have hh := hl h (by simp)
    obtain ⟨t', e⟩ := IH (b || decide (h ∈ S)) (some (.val (.int h))) fun k hk => hl k (by simp [hk])
    refine ⟨t', ?_⟩
    have step : B__law_marks_1 [c0, c1, c2, some (.loc 0), c4, c5, some (.val (.bool b)), some (.val (.int h))] [.lst (bb (hb n S)), mo] = some (.nx, [c0, c1, c2, some (.loc 0), c4, c5, some (.val (.bool (b || decide (h ∈ S)))), some (.val (.int h))], [.lst (bb (hb n S)), mo]) := by
      by_cases hm : h ∈ S
      · simp -implicitDefEqProofs -dsimp [B__law_marks_1, hb_len, hb_getE, hh, hm]
      · simp -implicitDefEqProofs -dsimp [B__law_marks_1, hb_len, hb_getE, hh, hm]
    rw [nn_cons, loop_cons0, List.any_cons, ← Bool.or_assoc]
    simp -implicitDefEqProofs -dsimp only [e_bName, Option.bind_some, bd_some, mp_some, List.set_cons_zero, List.set_cons_succ, step]
    exact e
theorem heard_put (n : Nat) (c0 c1 c2 c4 c5 c6 : Option E) (mo : O) (hs : List Nat) : ∀ (S : List Nat) (t : Option E), (∀ h ∈ hs, h < n) → ∃ t', mLoop [] (bName 7) B__law_marks_2 (nn hs) [c0, c1, c2, some (.loc 0), c4, c5, c6, t] [.lst (bb (hb n S)), mo] =
    some (.nx, [c0, c1, c2, some (.loc 0), c4, c5, c6, t'], [.lst (bb (hb n (sAll S hs))), mo]) := by
  induction hs with
  | nil => intro S t _; exact ⟨t, by simp -implicitDefEqProofs -dsimp [sAll]⟩
  | cons h hs IH =>
    intro S t hl
    have hh := hl h (by simp)
    obtain ⟨t', e⟩ := IH (sAdd S h) (some (.val (.int h))) fun k hk => hl k (by simp [hk])
    refine ⟨t', ?_⟩
    have step : B__law_marks_2 [c0, c1, c2, some (.loc 0), c4, c5, c6, some (.val (.int h))] [.lst (bb (hb n S)), mo] = some (.nx, [c0, c1, c2, some (.loc 0), c4, c5, c6, some (.val (.int h))], [.lst (bb (hb n (sAdd S h))), mo]) := by
      rw [← hb_set S hh]
      simp -implicitDefEqProofs -dsimp [B__law_marks_2, hb_len, hh]
    rw [nn_cons, loop_cons0]
    simp -implicitDefEqProofs -dsimp only [e_bName, Option.bind_some, bd_some, mp_some, List.set_cons_zero, List.set_cons_succ, step]
    exact e
theorem marks_turn (w : Web) (ok : w.Ok) (c1 : Option E) (eye S : List Nat) (x : Nat) (hx : x < w.2.length) (ms : List Bool) (hz : ms.length < 1000) (t6 t7 : Option E) : ∃ t7', B__law_marks_3 [some (.val (encW w)), c1, some (.val (tup eye)), some (.loc 0), some (.loc 1), some (.val (.int x)), t6, t7] [.lst (bb (hb w.1 S)), .lst (bb ms)] =
    some (.nx, [some (.val (encW w)), c1, some (.val (tup eye)), some (.loc 0), some (.loc 1), some (.val (.int x)), some (.val (.bool (hit w eye S x))), t7'], [.lst (bb (hb w.1 (nextS w eye S x))), .lst (bb (ms ++ [hit w eye S x]))]) := by
  obtain ⟨h1, h2, h3, h4⟩ := lotOf_ok ok hx
  have hg := lotOf_get hx
  have hf : ms.length < 1000000 := by omega
  obtain ⟨t7', e1⟩ := heard_any w.1 (some (.val (encW w))) c1 (some (.val (tup eye))) (some (.loc 1)) (some (.val (.int x))) (.lst (bb ms)) S (lotOf w x) (eye.contains x) t7 h3
  obtain ⟨t8, e2⟩ := heard_put w.1 (some (.val (encW w))) c1 (some (.val (tup eye))) (some (.loc 1)) (some (.val (.int x))) (some (.val (.bool true))) (.lst (bb ms)) (lotOf w x) S t7' h3
  have hh : hit w eye S x = (eye.contains x || (lotOf w x).any fun h => decide (h ∈ S)) := rfl
  rw [← hh] at e1
  unfold nextS
  rw [encW, tup_def] at e1 e2 ⊢
  generalize hit w eye S x = b at e1
  rw [List.contains_eq_mem] at e1
  cases b with
  | true =>
    rw [if_pos rfl]
    exact ⟨t8, by simp -implicitDefEqProofs -dsimp [B__law_marks_3, hg, tup_def, e1, e2, hf]⟩
  | false =>
    rw [if_neg (by simp)]
    exact ⟨t7', by simp -implicitDefEqProofs -dsimp [B__law_marks_3, hg, tup_def, e1, hf]⟩
theorem marks_loop (w : Web) (ok : w.Ok) (c1 : Option E) (eye : List Nat) (r : List Nat) : ∀ (S : List Nat) (ms : List Bool) (t5 t6 t7 : Option E), (∀ x ∈ r, x < w.2.length) → ms.length + r.length < 1000 → ∃ (env' : ML.Env) (d' : O), mLoop [] (bName 5) B__law_marks_3 (nn r) [some (.val (encW w)), c1, some (.val (tup eye)), some (.loc 0), some (.loc 1), t5, t6, t7] [.lst (bb (hb w.1 S)), .lst (bb ms)] =
    some (.nx, env', [d', .lst (bb (ms ++ mk w eye r S))]) ∧ env'[4]? = some (some (.loc 1)) := by
  induction r with
  | nil => intro S ms t5 t6 t7 _ _; exact ⟨_, _, by simp -implicitDefEqProofs -dsimp [mk]; exact ⟨rfl, rfl⟩, rfl⟩
  | cons x r IH =>
    intro S ms t5 t6 t7 hL hz
    simp only [List.length_cons] at hz
    have hx := hL x (by simp)
    obtain ⟨t7', e1⟩ := marks_turn w ok c1 eye S x hx ms (by omega) t6 t7
    obtain ⟨env', d', e2, e3⟩ := IH (nextS w eye S x) (ms ++ [hit w eye S x]) (some (.val (.int x))) (some (.val (.bool (hit w eye S x)))) t7' (fun y hy => hL y (by simp [hy])) (by simp; omega)
    refine ⟨env', d', ?_, e3⟩
    rw [List.append_assoc, List.singleton_append] at e2
    rw [nn_cons, loop_cons0]
    simp -implicitDefEqProofs -dsimp only [e_bName, Option.bind_some, bd_some, mp_some, List.set_cons_zero, List.set_cons_succ, e1]
    exact e2
theorem marks_eq (w : Web) (ok : w.Ok) (eye row : List Nat) (hL : ∀ x ∈ row, x < w.2.length) (hz : row.length < 900) : m__law_marks [.val (encW w), .val (tup row), .val (tup eye)] [] = some (.list (bb (marks w eye row)), []) := by
  obtain ⟨env', d', e1, e2⟩ := marks_loop w ok (some (.val (tup row))) eye row.reverse [] [] none none none (fun x hx => hL x (List.mem_reverse.mp hx)) (by simp; omega)
  have h4 := ok.n4
  have hsn : small (w.1 : Int) = true := small_nat (by omega)
  have hn : w.1 ≤ 1000000 := by omega
  have e0 : bb (hb w.1 []) = List.replicate w.1 (.bool false) := by
    unfold bb hb
    rw [List.map_map, List.eq_replicate_iff]
    refine ⟨by simp, fun b hb => ?_⟩
    obtain ⟨_, _, e⟩ := List.mem_map.mp hb
    rw [← e]
    simp
  have rep1 : (List.replicate w.1 [PyData.bool false]).flatten = List.replicate w.1 (.bool false) := by
    rw [List.flatten_replicate_singleton]
  rw [e0] at e1
  simp only [bb_nil, List.nil_append] at e1
  rw [encW, tup_def, tup_def] at e1 ⊢
  simp -implicitDefEqProofs -dsimp [m__law_marks, hsn, hn, rep1, e1, e2, marks]
/-! ### parts, views -/
def part (row : List Nat) (ms : List Bool) (b : Bool) : List Nat := ((row.zip ms).filter fun p => p.2 == b).map Prod.fst
theorem part_mem {row : List Nat} {ms : List Bool} {b : Bool} {x : Nat} (h : x ∈ part row ms b) : x ∈ row := by
  obtain ⟨p, hp, rfl⟩ := List.mem_map.mp h
  exact (List.of_mem_zip (List.mem_filter.mp hp).1).1
theorem part_len (row : List Nat) (ms : List Bool) (b : Bool) : (part row ms b).length ≤ row.length := by
  unfold part
  rw [List.length_map]
  exact Nat.le_trans (List.length_filter_le _ _) (by rw [List.length_zip]; omega)
theorem part_comp (c0 c1 : Option E) (b : Bool) (row : List Nat) : ∀ ms : List Bool, mCompGo [] (bTup [bName 3, bName 4]) (mB (mEq (oS 4) (oS 2))) (mV 3) (pairs (nn row) (bb ms)) [c0, c1, some (.val (.bool b)), none, none] [] = some (nn (part row ms b), []) := by
  induction row with
  | nil => intro ms; simp -implicitDefEqProofs -dsimp [pairs, part]
  | cons x row IH =>
    intro ms
    cases ms with
    | nil => simp -implicitDefEqProofs -dsimp [pairs, part]
    | cons m ms =>
      have ih := IH ms
      unfold part at ih ⊢
      rw [List.zip_cons_cons, List.filter_cons]
      by_cases h : m = b
      · subst h
        simp -implicitDefEqProofs -dsimp [pairs, ih]
      · have hb : (m == b) = false := by simpa using h
        simp -implicitDefEqProofs -dsimp [pairs, ih, hb, h]
end K13
set_option maxRecDepth 100000
set_option maxHeartbeats 4000000
namespace K13
open PySem PySem.Spec PyProof.Rows L2 ML
theorem pairs_lt (row : List Nat) (ms : List Bool) (hz : row.length < 900) : (pairs (nn row) (bb ms)).length < 1000000 := by
  rw [ML.pairs_len, nn_len, bb_len]
  omega
theorem part_eq (row : List Nat) (ms : List Bool) (b : Bool) (hz : row.length < 900) : m__law_part [.val (tup row), .val (.list (bb ms)), .val (.bool b)] [] = some (tup (part row ms b), []) := by
  have e := part_comp (some (.val (.tuple (nn row)))) (some (.val (.list (bb ms)))) b row ms
  have hp := pairs_lt row ms hz
  rw [tup_def]
  simp -implicitDefEqProofs -dsimp [m__law_part, hp, e, tup_def]
theorem view_comp (c0 c1 c2 c3 : Option E) (row : List Nat) : ∀ ms : List Bool, mCompGo [] (bTup [bName 4, bName 5]) (mB (mV 5)) (mV 4) (pairs (nn row) (bb ms)) [c0, c1, c2, c3, none, none] [] = some (nn (part row ms true), []) ∧
    mCompGo [] (bTup [bName 4, bName 5]) (mNot (mB (mV 5))) (mV 4) (pairs (nn row) (bb ms)) [c0, c1, c2, c3, none, none] [] = some (nn (part row ms false), []) := by
  induction row with
  | nil => intro ms; constructor <;> simp -implicitDefEqProofs -dsimp [pairs, part]
  | cons x row IH =>
    intro ms
    cases ms with
    | nil => constructor <;> simp -implicitDefEqProofs -dsimp [pairs, part]
    | cons m ms =>
      obtain ⟨i1, i2⟩ := IH ms
      unfold part at i1 i2 ⊢
      rw [List.zip_cons_cons, List.filter_cons, List.filter_cons]
      cases m with
      | true => constructor <;> simp -implicitDefEqProofs -dsimp [pairs, i1, i2]
      | false => constructor <;> simp -implicitDefEqProofs -dsimp [pairs, i1, i2]
theorem view_eq (w : Web) (ok : w.Ok) (eye row : List Nat) (hL : ∀ x ∈ row, x < w.2.length) (hz : row.length < 900) : ∃ r, LF w (part row (marks w eye row) true) r ∧ m_view_of [.val (encW w), .val (tup row), .val (tup eye)] [] = some (tup r, []) := by
  have sn := seen_eq w ok eye row hL hz
  have hp := pairs_lt row (marks w eye row) hz
  obtain ⟨r, lf, e⟩ := form_eq w ok (Seq.vt (nn (part row (marks w eye row) true))) (fun x hx => hL x (part_mem hx)) (Nat.lt_of_le_of_lt (part_len _ _ _) hz)
  refine ⟨r, lf, ?_⟩
  obtain ⟨vc, _⟩ := view_comp (some (.val (encW w))) (some (.val (tup row))) (some (.val (tup eye))) (some (.val (.list (bb (marks w eye row))))) row (marks w eye row)
  rw [tup_def row, tup_def eye] at sn vc ⊢
  generalize encW w = we at sn vc e ⊢
  simp -implicitDefEqProofs -dsimp [m_view_of, sn, hp, vc, e]
theorem rest_eq (w : Web) (ok : w.Ok) (eye row : List Nat) (hL : ∀ x ∈ row, x < w.2.length) (hz : row.length < 900) : ∃ r, LF w (part row (marks w eye row) false) r ∧ m_rest_of [.val (encW w), .val (tup row), .val (tup eye)] [] = some (tup r, []) := by
  have sn := seen_eq w ok eye row hL hz
  have hp := pairs_lt row (marks w eye row) hz
  obtain ⟨r, lf, e⟩ := form_eq w ok (Seq.vt (nn (part row (marks w eye row) false))) (fun x hx => hL x (part_mem hx)) (Nat.lt_of_le_of_lt (part_len _ _ _) hz)
  refine ⟨r, lf, ?_⟩
  obtain ⟨_, vc⟩ := view_comp (some (.val (encW w))) (some (.val (tup row))) (some (.val (tup eye))) (some (.val (.list (bb (marks w eye row))))) row (marks w eye row)
  rw [tup_def row, tup_def eye] at sn vc ⊢
  generalize encW w = we at sn vc e ⊢
  simp -implicitDefEqProofs -dsimp [m_rest_of, sn, hp, vc, e]
theorem law_view_eq (w : Web) (ok : w.Ok) (eye row : List Nat) (hL : ∀ x ∈ row, x < w.2.length) (hz : row.length < 900) {r : List Nat} (lf : LF w (part row (marks w eye row) true) r) : m__law_view [.val (encW w), .val (tup row), .val (tup eye)] [] = some (tup r, []) := by
  have mk := marks_eq w ok eye row hL hz
  have pt := part_eq row (marks w eye row) true hz
  obtain ⟨r', lf', e⟩ := least_eq w ok (Seq.vt (nn (part row (marks w eye row) true))) (fun x hx => hL x (part_mem hx)) (Nat.lt_of_le_of_lt (part_len _ _ _) hz)
  have := lf.inj lf'
  subst this
  rw [tup_def (part _ _ _)] at pt
  generalize encW w = we at mk e ⊢
  generalize tup row = tr at mk pt ⊢
  generalize tup eye = te at mk ⊢
  simp -implicitDefEqProofs -dsimp [m__law_view, mk, pt, e]
/-- the law's rest, as it is due -/
theorem law_rest_eq (w : Web) (ok : w.Ok) (eye row : List Nat) (hL : ∀ x ∈ row, x < w.2.length) (hz : row.length < 900) {r : List Nat} (lf : LF w (part row (marks w eye row) false) r) : m__law_least [.val (encW w), .val (tup (part row (marks w eye row) false))] [] = some (tup r, []) := by
  obtain ⟨r', lf', e⟩ := least_eq w ok (Seq.vt (nn (part row (marks w eye row) false))) (fun x hx => hL x (part_mem hx)) (Nat.lt_of_le_of_lt (part_len _ _ _) hz)
  have := lf.inj lf'
  subst this
  exact e
end K13
set_option maxRecDepth 100000
set_option maxHeartbeats 4000000
namespace K13
open PySem PySem.Spec PyProof.Rows L2 ML
/-! ### the same -/
theorem same_int (n : Nat) (i : Int) : m__law_same (n + 1) [.val (.int i), .val (.int i)] [] = some (.bool true, []) := by
  have h1 : isT "tuple" (.int i) = false := by rfl
  have h2 : isT "int" (.int i) = true := by rfl
  have h3 : isT "bool" (.int i) = false := by rfl
  have h4 : gIsB (.int i) (.bool true) = some (.bool false) := rfl
  have h5 : gIsB (.int i) (.bool false) = some (.bool false) := rfl
  simp -implicitDefEqProofs -dsimp [m__law_same, h1, h2, h3, h4, h5]
theorem same_loop (n : Nat) (c0 c1 : Option E) (r : List Nat) : ∀ (t2 t3 : Option E), ∃ t2' t3', mLoop [] (bTup [bName 2, bName 3]) (mIfS (mNot (mB (mCallV [false, false] (m__law_same (n + 1)) (aCons (oS 2) (aCons (oS 3) aNil))))) (mRet (mD (.bool false))) mNil) (pairs (nn r) (nn r)) [c0, c1, t2, t3] [] = some (.nx, [c0, c1, t2', t3'], []) := by
  induction r with
  | nil => intro t2 t3; exact ⟨t2, t3, by simp -implicitDefEqProofs -dsimp [pairs]⟩
  | cons x r IH =>
    intro t2 t3
    obtain ⟨t2', t3', e⟩ := IH (some (.val (.int x))) (some (.val (.int x)))
    have s := same_int n (x : Int)
    refine ⟨t2', t3', ?_⟩
    simp -implicitDefEqProofs -dsimp [pairs, s, e]
theorem same_tup (n : Nat) (r : List Nat) : m__law_same (n + 1 + 1) [.val (tup r), .val (tup r)] [] = some (.bool true, []) := by
  have h1 : isT "tuple" (.tuple (nn r)) = true := by rfl
  obtain ⟨t2, t3, e⟩ := same_loop n (some (.val (.tuple (nn r)))) (some (.val (.tuple (nn r)))) r none none
  rw [tup_def]
  conv => lhs; unfold m__law_same
  simp -implicitDefEqProofs -dsimp [h1, e]
theorem same6 (r : List Nat) : m__law_same 6 [.val (tup r), .val (tup r)] [] = some (.bool true, []) := same_tup 4 r
end K13
set_option maxRecDepth 100000
set_option maxHeartbeats 4000000
namespace K13
open PySem PySem.Spec PyProof.Rows L2 ML
/-! ### pasts -/
def anyS (w : Web) (S : List Nat) (x : Nat) : Bool := (lotOf w x).any fun h => decide (h ∈ S)
/-- what lies ahead of an event, from it backwards -/
def pst (w : Web) : List Nat → List Nat → List Nat
  | [], _ => []
  | x :: r, S => if anyS w S x = true then x :: pst w r (sAll S (lotOf w x)) else pst w r S
theorem pst_mem {w : Web} : ∀ {r S : List Nat} {x : Nat}, x ∈ pst w r S → x ∈ r
  | y :: r, S, x, h => by
    unfold pst at h
    split at h
    · rcases List.mem_cons.mp h with rfl | h
      · simp
      · exact List.mem_cons_of_mem _ (pst_mem h)
    · exact List.mem_cons_of_mem _ (pst_mem h)
theorem pst_len {w : Web} : ∀ (r S : List Nat), (pst w r S).length ≤ r.length
  | [], _ => Nat.le_refl _
  | y :: r, S => by
    unfold pst
    split
    · have := pst_len (w := w) r (sAll S (lotOf w y)); simp only [List.length_cons]; omega
    · have := pst_len (w := w) r S; simp only [List.length_cons]; omega
theorem past_put (c0 c1 c2 c4 c5 : Option E) (mo : O) (hs : List Nat) : ∀ (S : List Nat) (t : Option E), S.length + hs.length < 1000 → ∃ t', mLoop [] (bName 6) B_past_of_1 (nn hs) [c0, c1, c2, some (.loc 0), c4, c5, t] [.dic (dic S), mo] =
    some (.nx, [c0, c1, c2, some (.loc 0), c4, c5, t'], [.dic (dic (sAll S hs)), mo]) := by
  induction hs with
  | nil => intro S t _; exact ⟨t, by simp -implicitDefEqProofs -dsimp [sAll]⟩
  | cons h hs IH =>
    intro S t hz
    simp only [List.length_cons] at hz
    have := sAdd_len S h
    have hz' : S.length < 1000000 := by omega
    obtain ⟨t', e⟩ := IH (sAdd S h) (some (.val (.int h))) (by omega)
    refine ⟨t', ?_⟩
    have step : B_past_of_1 [c0, c1, c2, some (.loc 0), c4, c5, some (.val (.int h))] [.dic (dic S), mo] = some (.nx, [c0, c1, c2, some (.loc 0), c4, c5, some (.val (.int h))], [.dic (dic (sAdd S h)), mo]) := by
      simp -implicitDefEqProofs -dsimp [B_past_of_1, dic_put, dic_len, hz']
    rw [nn_cons, loop_cons0]
    simp -implicitDefEqProofs -dsimp only [e_bName, Option.bind_some, bd_some, mp_some, List.set_cons_zero, List.set_cons_succ, step]
    exact e
theorem past_loop (w : Web) (ok : w.Ok) (c1 c2 : Option E) (r : List Nat) : ∀ (S found : List Nat) (t5 t6 : Option E), HS w.1 S → (∀ x ∈ r, x < w.2.length) → found.length + r.length < 1000 → ∃ (env' : ML.Env) (d' : O), mLoop [] (bName 5) B_past_of_2 (nn r) [some (.val (encW w)), c1, c2, some (.loc 0), some (.loc 1), t5, t6] [.dic (dic S), .lst (nn found)] =
    some (.nx, env', [d', .lst (nn (found ++ pst w r S))]) ∧ env'[4]? = some (some (.loc 1)) ∧ env'[0]? = some (some (.val (encW w))) := by
  induction r with
  | nil => intro S found t5 t6 _ _ _; exact ⟨_, _, by simp -implicitDefEqProofs -dsimp [pst]; exact ⟨rfl, rfl⟩, rfl, rfl⟩
  | cons x r IH =>
    intro S found t5 t6 s hL hz
    simp only [List.length_cons] at hz
    have hx := hL x (by simp)
    obtain ⟨h1, h2, h3, h4⟩ := lotOf_ok ok hx
    have hg := lotOf_get hx
    have hS := s.small ok
    have hf : found.length < 1000000 := by omega
    have hl : (lotOf w x).length < 1000000 := by omega
    have ck := comp_keep 6 (mB (mDIn (mV 6) 3)) [some (.val (encW w)), c1, c2, some (.loc 0), some (.loc 1), some (.val (.int x)), none] [.dic (dic S), .lst (nn found)] (fun h => decide (h ∈ S)) (by simp) (lotOf w x) fun j _ => by simp -implicitDefEqProofs -dsimp [dic_get]
    have anyf := any_filter (lotOf w x) S
    obtain ⟨t6', e1⟩ := past_put (some (.val (encW w))) c1 c2 (some (.loc 1)) (some (.val (.int x))) (.lst (nn (found ++ [x]))) (lotOf w x) S t6 (by omega)
    unfold pst anyS
    rw [nn_cons, loop_cons0]
    generalize ((lotOf w x).filter fun h => decide (h ∈ S)) = fl at ck anyf
    generalize hb : ((lotOf w x).any fun h => decide (h ∈ S)) = b at anyf
    cases b with
    | true =>
      have h0 : 0 < fl.length := of_decide_eq_true anyf
      have s' : HS w.1 (sAll S (lotOf w x)) := ⟨sAll_nodup s.nd, fun h hh => by
        rcases sAll_mem.mp hh with z | z
        · exact s.lt h z
        · exact h3 h z⟩
      obtain ⟨env', d', e2, e3, e4⟩ := IH (sAll S (lotOf w x)) (found ++ [x]) (some (.val (.int x))) t6' s' (fun y hy => hL y (by simp [hy])) (by simp; omega)
      refine ⟨env', d', ?_, e3, e4⟩
      rw [if_pos rfl]
      rw [List.append_assoc, List.singleton_append] at e2
      have turn : B_past_of_2 [some (.val (encW w)), c1, c2, some (.loc 0), some (.loc 1), some (.val (.int x)), t6] [.dic (dic S), .lst (nn found)] = some (.nx, [some (.val (encW w)), c1, c2, some (.loc 0), some (.loc 1), some (.val (.int x)), t6'], [.dic (dic (sAll S (lotOf w x))), .lst (nn (found ++ [x]))]) := by
        rw [encW] at ck e1 ⊢
        simp -implicitDefEqProofs -dsimp [B_past_of_2, hg, tup_def, ck, hl, h0, e1, hf]
      simp -implicitDefEqProofs -dsimp only [e_bName, Option.bind_some, bd_some, mp_some, List.set_cons_zero, List.set_cons_succ, turn]
      exact e2
    | false =>
      have h0 : ¬ 0 < fl.length := of_decide_eq_false anyf
      obtain ⟨env', d', e2, e3, e4⟩ := IH S found (some (.val (.int x))) t6 s (fun y hy => hL y (by simp [hy])) (by omega)
      refine ⟨env', d', ?_, e3, e4⟩
      rw [if_neg (by simp)]
      have turn : B_past_of_2 [some (.val (encW w)), c1, c2, some (.loc 0), some (.loc 1), some (.val (.int x)), t6] [.dic (dic S), .lst (nn found)] = some (.nx, [some (.val (encW w)), c1, c2, some (.loc 0), some (.loc 1), some (.val (.int x)), t6], [.dic (dic S), .lst (nn found)]) := by
        rw [encW] at ck ⊢
        simp -implicitDefEqProofs -dsimp [B_past_of_2, hg, tup_def, ck, hl, h0]
      simp -implicitDefEqProofs -dsimp only [e_bName, Option.bind_some, bd_some, mp_some, List.set_cons_zero, List.set_cons_succ, turn]
      exact e2
end K13
set_option maxRecDepth 100000
set_option maxHeartbeats 4000000
namespace K13
open PySem PySem.Spec PyProof.Rows L2 ML
theorem compD_go (env : ML.Env) (st : ML.Sto) (hi : 6 < env.length) : ∀ (hs S : List Nat), mCompGoD [] (bName 6) mYes (mV 6) (mD (.bool true)) (nn hs) env st (dic S) = some (dic (sAll S hs), st) := by
  intro hs
  induction hs with
  | nil =>
    intro S
    rw [nn_nil]
    unfold mCompGoD
    rw [if_pos (show gOk [] st from trivial)]
    rfl
  | cons h hs IH =>
    intro S
    have ih := IH (sAdd S h)
    rw [nn_cons]
    unfold mCompGoD
    rw [if_pos (show gOk [] st from trivial)]
    simp -implicitDefEqProofs -dsimp [hi, dic_put, ih]
    rfl
def pastL (w : Web) (row : List Nat) (place x0 : Nat) : List Nat := (x0 :: pst w (row.take place).reverse (sAll [] (lotOf w x0))).reverse
theorem pastL_mem {w : Web} {row : List Nat} {place x0 x : Nat} (h0 : x0 ∈ row) (h : x ∈ pastL w row place x0) : x ∈ row := by
  unfold pastL at h
  rcases List.mem_cons.mp (List.mem_reverse.mp h) with rfl | h
  · exact h0
  · exact List.mem_of_mem_take (List.mem_reverse.mp (pst_mem h))
theorem pastL_len (w : Web) (row : List Nat) (place x0 : Nat) : (pastL w row place x0).length ≤ row.length + 1 := by
  unfold pastL
  rw [List.length_reverse, List.length_cons]
  have := pst_len (w := w) (row.take place).reverse (sAll [] (lotOf w x0))
  rw [List.length_reverse, List.length_take] at this
  omega
theorem HS.start {w : Web} (ok : w.Ok) {x : Nat} (hx : x < w.2.length) : HS w.1 (sAll [] (lotOf w x)) := by
  obtain ⟨h1, h2, h3, _⟩ := lotOf_ok ok hx
  exact ⟨sAll_nodup List.nodup_nil, fun h hh => by
    rcases sAll_mem.mp hh with z | z
    · cases z
    · exact h3 h z⟩
theorem past_eq (w : Web) (ok : w.Ok) (row : List Nat) (hL : ∀ x ∈ row, x < w.2.length) (hz : row.length < 800) (place : Nat) (hp : place < row.length) : ∃ r, LF w (pastL w row place row[place]) r ∧ m_past_of [.val (encW w), .val (tup row), .val (.int place)] [] = some (tup r, []) := by
  have hx : row[place] < w.2.length := hL _ (List.getElem_mem hp)
  obtain ⟨h1, h2, h3, h4⟩ := lotOf_ok ok hx
  have hg := lotOf_get hx
  have hl : (lotOf w row[place]).length < 1000000 := by omega
  obtain ⟨env', d', e1, e2, e3⟩ := past_loop w ok (some (.val (tup row))) (some (.val (.int place))) (row.take place).reverse (sAll [] (lotOf w row[place])) [row[place]] none none (HS.start ok hx) (fun x hx => hL x (List.mem_of_mem_take (List.mem_reverse.mp hx))) (by simp; omega)
  obtain ⟨r, lf, e⟩ := form_eq w ok (Seq.vt (nn (pastL w row place row[place]))) (fun x hx => hL x (pastL_mem (List.getElem_mem hp) hx)) (by have := pastL_len w row place row[place]; omega)
  refine ⟨r, lf, ?_⟩
  have cd := compD_go [some (.val (encW w)), some (.val (tup row)), some (.val (.int place)), none, none, none, none] [] (by simp) (lotOf w row[place]) []
  have cut := cut_to (nn row) place
  have hpl : (nn (pastL w row place row[place])) = nn (([row[place]] ++ pst w (row.take place).reverse (sAll [] (lotOf w row[place]))).reverse) := rfl
  rw [hpl] at e
  rw [tup_def row] at cd e1 ⊢
  rw [encW] at cd e1 e3 e ⊢
  have cd' : mCompGoD [] (bName 6) mYes (mV 6) (mD (.bool true)) (nn (lotOf w row[place])) [some (.val (.tuple [.int w.1, .tuple (w.2.map tup)])), some (.val (.tuple (nn row))), some (.val (.int place)), none, none, none, none] [] [] = some (dic (sAll [] (lotOf w row[place])), []) := cd
  generalize pst w (row.take place).reverse (sAll [] (lotOf w row[place])) = ps at e1 e
  generalize sAll [] (lotOf w row[place]) = S0 at cd' e1
  generalize [row[place]] ++ ps = L at e1 e
  simp only [nn_cons, nn_nil] at e1
  simp -implicitDefEqProofs -dsimp [m_past_of, hp, hg, tup_def, hl, cd', cut, e1, e2, e3, e]
/-! the law's own past -/
theorem hb_congr {n : Nat} {S S' : List Nat} (h : ∀ k, k < n → (k ∈ S ↔ k ∈ S')) : hb n S = hb n S' := by
  unfold hb
  apply List.map_congr_left
  intro k hk
  rw [Bool.eq_iff_iff, decide_eq_true_eq, decide_eq_true_eq]
  exact h k (List.mem_range.mp hk)
theorem lpast_put (n : Nat) (c0 c1 c2 c4 c5 c6 : Option E) (mo : O) (hs : List Nat) : ∀ (S : List Nat) (t : Option E), (∀ h ∈ hs, h < n) → ∃ t', mLoop [] (bName 7) B__law_past_1 (nn hs) [c0, c1, c2, some (.loc 0), c4, c5, c6, t] [.lst (bb (hb n S)), mo] =
    some (.nx, [c0, c1, c2, some (.loc 0), c4, c5, c6, t'], [.lst (bb (hb n (sAll S hs))), mo]) := by
  induction hs with
  | nil => intro S t _; exact ⟨t, by simp -implicitDefEqProofs -dsimp [sAll]⟩
  | cons h hs IH =>
    intro S t hl
    have hh := hl h (by simp)
    obtain ⟨t', e⟩ := IH (sAdd S h) (some (.val (.int h))) fun k hk => hl k (by simp [hk])
    refine ⟨t', ?_⟩
    have step : B__law_past_1 [c0, c1, c2, some (.loc 0), c4, c5, c6, some (.val (.int h))] [.lst (bb (hb n S)), mo] = some (.nx, [c0, c1, c2, some (.loc 0), c4, c5, c6, some (.val (.int h))], [.lst (bb (hb n (sAdd S h))), mo]) := by
      rw [← hb_set S hh]
      simp -implicitDefEqProofs -dsimp [B__law_past_1, hb_len, hh]
    rw [nn_cons, loop_cons0]
    simp -implicitDefEqProofs -dsimp only [e_bName, Option.bind_some, bd_some, mp_some, List.set_cons_zero, List.set_cons_succ, step]
    exact e
end K13
set_option maxRecDepth 100000
set_option maxHeartbeats 4000000
namespace K13
open PySem PySem.Spec PyProof.Rows L2 ML
theorem take_rev {row : List Nat} {m : Nat} (h : m < row.length) : (row.take (m + 1)).reverse = row[m] :: (row.take m).reverse := by
  rw [List.take_add_one, List.getElem?_eq_getElem h]
  simp
theorem lpast_loop (w : Web) (ok : w.Ok) (row : List Nat) (hL : ∀ x ∈ row, x < w.2.length) (place : Nat) (hp : place < row.length) (m : Nat) : ∀ (i : Nat) (S found : List Nat) (t5 t6 t7 : Option E), i + m = place → HS w.1 S → found.length + m < 1000 → ∃ (env' : ML.Env) (d' : O), mLoop [] (bName 5) B__law_past_2 (nn (List.range' i m)) [some (.val (encW w)), some (.val (tup row)), some (.val (.int place)), some (.loc 0), some (.loc 1), t5, t6, t7] [.lst (bb (hb w.1 S)), .lst (nn found)] =
    some (.nx, env', [d', .lst (nn (found ++ pst w (row.take m).reverse S))]) ∧ env'[4]? = some (some (.loc 1)) ∧ env'[0]? = some (some (.val (encW w))) := by
  induction m with
  | zero => intro i S found t5 t6 t7 _ _ _; exact ⟨_, _, by simp -implicitDefEqProofs -dsimp [pst]; exact ⟨rfl, rfl⟩, rfl, rfl⟩
  | succ m IH =>
    intro i S found t5 t6 t7 hi s hz
    have hm : m < row.length := by omega
    have hx : row[m] < w.2.length := hL _ (List.getElem_mem hm)
    obtain ⟨h1, h2, h3, h4⟩ := lotOf_ok ok hx
    have hg := lotOf_get hx
    have hS := s.small ok
    have hf : found.length < 1000000 := by omega
    have hl : (lotOf w row[m]).length < 1000000 := by omega
    have hk : (place : Int) - 1 - (i : Int) = (m : Int) := by omega
    rw [take_rev hm]
    have ck := comp_keep 7 (mB (mIx (oS 3) (oS 7))) [some (.val (encW w)), some (.val (tup row)), some (.val (.int place)), some (.loc 0), some (.loc 1), some (.val (.int i)), some (.val (.int row[m])), none] [.lst (bb (hb w.1 S)), .lst (nn found)] (fun h => decide (h ∈ S)) (by simp) (lotOf w row[m]) fun j hj => by
      have := h3 j hj
      simp -implicitDefEqProofs -dsimp [hb_len, hb_getE, this]
    have anyf := any_filter (lotOf w row[m]) S
    obtain ⟨t7', e1⟩ := lpast_put w.1 (some (.val (encW w))) (some (.val (tup row))) (some (.val (.int place))) (some (.loc 1)) (some (.val (.int i))) (some (.val (.int row[m]))) (.lst (nn (found ++ [row[m]]))) (lotOf w row[m]) S t7 h3
    unfold pst anyS
    rw [List.range'_succ, nn_cons, loop_cons0]
    generalize ((lotOf w row[m]).filter fun h => decide (h ∈ S)) = fl at ck anyf
    generalize hany : ((lotOf w row[m]).any fun h => decide (h ∈ S)) = b at anyf
    cases b with
    | true =>
      have h0 : 0 < fl.length := of_decide_eq_true anyf
      have s' : HS w.1 (sAll S (lotOf w row[m])) := ⟨sAll_nodup s.nd, fun h hh => by
        rcases sAll_mem.mp hh with z | z
        · exact s.lt h z
        · exact h3 h z⟩
      obtain ⟨env', d', e2, e3, e4⟩ := IH (i + 1) (sAll S (lotOf w row[m])) (found ++ [row[m]]) (some (.val (.int i))) (some (.val (.int row[m]))) t7' (by omega) s' (by simp; omega)
      refine ⟨env', d', ?_, e3, e4⟩
      rw [if_pos rfl]
      rw [List.append_assoc, List.singleton_append] at e2
      have turn : B__law_past_2 [some (.val (encW w)), some (.val (tup row)), some (.val (.int place)), some (.loc 0), some (.loc 1), some (.val (.int i)), t6, t7] [.lst (bb (hb w.1 S)), .lst (nn found)] = some (.nx, [some (.val (encW w)), some (.val (tup row)), some (.val (.int place)), some (.loc 0), some (.loc 1), some (.val (.int i)), some (.val (.int row[m])), t7'], [.lst (bb (K13.hb w.1 (sAll S (lotOf w row[m])))), .lst (nn (found ++ [row[m]]))]) := by
        rw [tup_def row] at ck e1 ⊢
        rw [encW] at ck e1 ⊢
        simp -implicitDefEqProofs -dsimp [B__law_past_2, hk, hm, hg, tup_def, ck, hl, h0, e1, hf]
      simp -implicitDefEqProofs -dsimp only [e_bName, Option.bind_some, bd_some, mp_some, List.set_cons_zero, List.set_cons_succ, turn]
      exact e2
    | false =>
      have h0 : ¬ 0 < fl.length := of_decide_eq_false anyf
      obtain ⟨env', d', e2, e3, e4⟩ := IH (i + 1) S found (some (.val (.int i))) (some (.val (.int row[m]))) t7 (by omega) s (by omega)
      refine ⟨env', d', ?_, e3, e4⟩
      rw [if_neg (by simp)]
      have turn : B__law_past_2 [some (.val (encW w)), some (.val (tup row)), some (.val (.int place)), some (.loc 0), some (.loc 1), some (.val (.int i)), t6, t7] [.lst (bb (hb w.1 S)), .lst (nn found)] = some (.nx, [some (.val (encW w)), some (.val (tup row)), some (.val (.int place)), some (.loc 0), some (.loc 1), some (.val (.int i)), some (.val (.int row[m])), t7], [.lst (bb (hb w.1 S)), .lst (nn found)]) := by
        rw [tup_def row] at ck ⊢
        rw [encW] at ck ⊢
        simp -implicitDefEqProofs -dsimp [B__law_past_2, hk, hm, hg, tup_def, ck, hl, h0]
      simp -implicitDefEqProofs -dsimp only [e_bName, Option.bind_some, bd_some, mp_some, List.set_cons_zero, List.set_cons_succ, turn]
      exact e2
theorem comp_bools (i : Nat) (te : M D) (env : ML.Env) (st : ML.Sto) (f : Nat → Bool) : ∀ js : List Nat, (∀ j ∈ js, te (env.set i (some (.val (.int (j : Nat))))) st = some (.bool (f j), st)) → mCompGo [] (bName i) mYes te (nn js) env st = some (bb (js.map f), st) := by
  intro js
  induction js with
  | nil => intro _; simp
  | cons j js IH =>
    intro h
    have h1 := h j (by simp)
    have ih := IH fun x hx => h x (by simp [hx])
    simp -implicitDefEqProofs -dsimp [h1, ih]
theorem lpast_eq (w : Web) (ok : w.Ok) (row : List Nat) (hL : ∀ x ∈ row, x < w.2.length) (hz : row.length < 800) (place : Nat) (hp : place < row.length) {r : List Nat} (lf : LF w (pastL w row place row[place]) r) : m__law_past [.val (encW w), .val (tup row), .val (.int place)] [] = some (tup r, []) := by
  have hx : row[place] < w.2.length := hL _ (List.getElem_mem hp)
  obtain ⟨h1, h2, h3, h4⟩ := lotOf_ok ok hx
  have hg := lotOf_get hx
  obtain ⟨env', d', e1, e2, e3⟩ := lpast_loop w ok row hL place hp place 0 (sAll [] (lotOf w row[place])) [row[place]] none none none (by omega) (HS.start ok hx) (by simp; omega)
  obtain ⟨r', lf', e⟩ := least_eq w ok (Seq.bl (nn (pastL w row place row[place]))) (fun x hx => hL x (pastL_mem (List.getElem_mem hp) hx)) (by have := pastL_len w row place row[place]; omega)
  have := lf.inj lf'
  subst this
  have cb := comp_bools 7 (mIn (oS 7) (oV (mIx (oV (mIx (oS 0) (oV (mD (.int 1))))) (oV (mIx (oS 1) (oS 2)))))) [some (.val (encW w)), some (.val (tup row)), some (.val (.int place)), none, none, none, none, none] [] (fun h => (lotOf w row[place]).contains h) (List.range w.1) fun j _ => by
    simp -implicitDefEqProofs -dsimp [encW, tup_def, hp, hg]
  have e0 : (List.range w.1).map (fun h => (lotOf w row[place]).contains h) = hb w.1 (sAll [] (lotOf w row[place])) := by
    unfold hb
    apply List.map_congr_left
    intro k _
    rw [List.contains_eq_mem, Bool.eq_iff_iff, decide_eq_true_eq, decide_eq_true_eq, sAll_mem]
    simp
  rw [e0] at cb
  have n4 := ok.n4
  have hsn : small (w.1 : Int) = true := small_nat (by omega)
  have hsp : small (place : Int) = true := small_nat (by omega)
  have hn : w.1 < 1000000 := by omega
  have hpl : (nn (pastL w row place row[place])) = nn (([row[place]] ++ pst w (row.take place).reverse (sAll [] (lotOf w row[place]))).reverse) := rfl
  rw [hpl] at e
  rw [← List.range_eq_range'] at e1
  rw [tup_def row] at cb e1 ⊢
  rw [encW] at cb e1 e3 e ⊢
  generalize pst w (row.take place).reverse (sAll [] (lotOf w row[place])) = ps at e1 e
  generalize hb w.1 (sAll [] (lotOf w row[place])) = B0 at cb e1
  generalize [row[place]] ++ ps = L at e1 e
  simp only [nn_cons, nn_nil] at e1
  simp -implicitDefEqProofs -dsimp [m__law_past, hp, hg, tup_def, hsn, hsp, hn, cb, e1, e2, e3, e]
end K13
set_option maxRecDepth 100000
set_option maxHeartbeats 4000000
namespace K13
open PySem PySem.Spec PyProof.Rows L2 ML
/-! ### marks and lanes -/
def sel (w : Web) (eye : List Nat) : List Nat → List Nat → List Nat
  | [], _ => []
  | x :: r, S => if hit w eye S x = true then x :: sel w eye r (sAll S (lotOf w x)) else sel w eye r S
def uns (w : Web) (eye : List Nat) : List Nat → List Nat → List Nat
  | [], _ => []
  | x :: r, S => if hit w eye S x = true then uns w eye r (sAll S (lotOf w x)) else x :: uns w eye r S
theorem part_cons (x : Nat) (r : List Nat) (m : Bool) (ms : List Bool) (b : Bool) : part (x :: r) (m :: ms) b = if m = b then x :: part r ms b else part r ms b := by
  unfold part
  rw [List.zip_cons_cons, List.filter_cons]
  by_cases h : m = b
  · subst h; simp
  · have : (m == b) = false := by simpa using h
    simp [this, h]
theorem part_mk (w : Web) (eye : List Nat) : ∀ (r S : List Nat), part r (mk w eye r S) true = sel w eye r S ∧ part r (mk w eye r S) false = uns w eye r S
  | [], _ => ⟨rfl, rfl⟩
  | x :: r, S => by
    unfold mk sel uns nextS
    rw [part_cons, part_cons]
    cases h : hit w eye S x with
    | true =>
      obtain ⟨i1, i2⟩ := part_mk w eye r (sAll S (lotOf w x))
      simp [i1, i2]
    | false =>
      obtain ⟨i1, i2⟩ := part_mk w eye r S
      simp [i1, i2]
theorem zip_rev {α β : Type} : ∀ (a : List α) (b : List β), a.length = b.length → a.reverse.zip b.reverse = (a.zip b).reverse
  | [], [], _ => rfl
  | x :: a, y :: b, h => by
    have h' : a.length = b.length := by simpa using h
    rw [List.reverse_cons, List.reverse_cons, List.zip_append (by simpa using h'), zip_rev a b h']
    show (a.zip b).reverse ++ [(x, y)] = ((x, y) :: a.zip b).reverse
    rw [List.reverse_cons]
  | [], _ :: _, h => by simp at h
  | _ :: _, [], h => by simp at h
theorem part_rev (a : List Nat) (b : List Bool) (v : Bool) (h : a.length = b.length) : part a.reverse b.reverse v = (part a b v).reverse := by
  unfold part
  rw [zip_rev a b h, List.filter_reverse, List.map_reverse]
theorem part_marks (w : Web) (eye row : List Nat) : part row (marks w eye row) true = (sel w eye row.reverse []).reverse ∧ part row (marks w eye row) false = (uns w eye row.reverse []).reverse := by
  obtain ⟨h1, h2⟩ := part_mk w eye row.reverse []
  have hl : row.reverse.length = (mk w eye row.reverse []).length := (mk_len w eye row.reverse []).symm
  unfold marks
  have e1 := part_rev row.reverse (mk w eye row.reverse []) true hl
  have e2 := part_rev row.reverse (mk w eye row.reverse []) false hl
  rw [List.reverse_reverse] at e1 e2
  rw [e1, e2, h1, h2]
  exact ⟨rfl, rfl⟩
theorem lane_rev (w : Web) (l : List Nat) (h : Nat) : laneOf w l.reverse h = (laneOf w l h).reverse := by unfold laneOf; rw [List.filter_reverse]
theorem lane_sel (w : Web) (eye : List Nat) (h : Nat) : ∀ (r S : List Nat), (h ∈ S → laneOf w (uns w eye r S) h = [] ∧ laneOf w (sel w eye r S) h = laneOf w r h) ∧ (laneOf w r h = laneOf w (uns w eye r S) h ++ laneOf w (sel w eye r S) h)
  | [], _ => ⟨fun _ => ⟨rfl, rfl⟩, rfl⟩
  | x :: r, S => by
    unfold sel uns
    cases hh : hit w eye S x with
    | true =>
      rw [if_pos rfl, if_pos rfl]
      obtain ⟨i1, i2⟩ := lane_sel w eye h r (sAll S (lotOf w x))
      by_cases hm : h ∈ lotOf w x
      · obtain ⟨j1, j2⟩ := i1 (sAll_mem.mpr (.inr hm))
        rw [lane_cons hm, lane_cons hm, j1, j2]
        exact ⟨fun _ => ⟨rfl, rfl⟩, rfl⟩
      · rw [lane_skip hm, lane_skip hm]
        exact ⟨fun hs => i1 (sAll_mem.mpr (.inl hs)), i2⟩
    | false =>
      rw [if_neg (by simp), if_neg (by simp)]
      obtain ⟨i1, i2⟩ := lane_sel w eye h r S
      by_cases hm : h ∈ lotOf w x
      · refine ⟨fun hs => ?_, ?_⟩
        · exfalso
          have : hit w eye S x = true := by
            unfold hit
            rw [Bool.or_eq_true]
            exact .inr (List.any_eq_true.mpr ⟨h, hm, decide_eq_true hs⟩)
          rw [hh] at this
          cases this
        · rw [lane_cons hm, lane_cons hm, i2]
          rfl
      · rw [lane_skip hm, lane_skip hm]
        exact ⟨i1, i2⟩
theorem lane_parts (w : Web) (eye row : List Nat) (h : Nat) : laneOf w (part row (marks w eye row) true ++ part row (marks w eye row) false) h = laneOf w row h := by
  obtain ⟨e1, e2⟩ := part_marks w eye row
  rw [e1, e2, lane_app, lane_rev, lane_rev, ← List.reverse_append, ← (lane_sel w eye h row.reverse []).2, lane_rev, List.reverse_reverse]
theorem LF.lane {w : Web} (h : Nat) : ∀ {l r : List Nat}, LF w l r → laneOf w r h = laneOf w l h
  | _, _, .nil => rfl
  | l, _, .cons (x := x) (r := r) hm t => by
    obtain ⟨a, b, e, hf⟩ := hm.1
    have ih := LF.lane h t
    have hn : x ∈ a → h ∈ lotOf w x → False := fun ha hl => hf x ha ⟨h, hl, hl⟩
    by_cases hx : h ∈ lotOf w x
    · have hxa : x ∉ a := fun z => hn z hx
      rw [e, List.erase_append_right _ hxa, List.erase_cons_head] at ih
      rw [lane_cons hx, ih, e, lane_app, lane_app, lane_none (fun y hy z => hf y hy ⟨h, z, hx⟩), lane_cons hx]
      rfl
    · rw [lane_skip hx, ih]
      have hmem : x ∈ l := by rw [e]; simp
      have : ∀ l : List Nat, laneOf w (l.erase x) h = laneOf w l h := by
        intro l
        induction l with
        | nil => rfl
        | cons y l IH =>
          by_cases q : y = x
          · subst q
            rw [List.erase_cons_head, lane_skip hx]
          · rw [List.erase_cons_tail (by simpa using q)]
            by_cases hy : h ∈ lotOf w y
            · rw [lane_cons hy, lane_cons hy, IH]
            · rw [lane_skip hy, lane_skip hy, IH]
      exact this l
theorem lanes_same {w : Web} {eye row rv rr : List Nat} (h1 : LF w (part row (marks w eye row) true) rv) (h2 : LF w (part row (marks w eye row) false) rr) : lanesD w (rv ++ rr) = lanesD w row := by
  unfold lanesD
  congr 2
  apply mt_congr
  intro k _
  rw [lane_app, h1.lane k, h2.lane k, ← lane_app, lane_parts]
/-- no letter of a rest is the eye's -/
theorem uns_eye (w : Web) (eye : List Nat) : ∀ (r S : List Nat), ∀ x ∈ uns w eye r S, x ∉ eye
  | y :: r, S, x, h => by
    unfold uns at h
    cases hh : hit w eye S y with
    | true =>
      rw [hh, if_pos rfl] at h
      exact uns_eye w eye r _ x h
    | false =>
      rw [hh, if_neg (by simp)] at h
      rcases List.mem_cons.mp h with rfl | h
      · intro z
        unfold hit at hh
        rw [Bool.or_eq_false_iff] at hh
        have := hh.1
        rw [List.contains_eq_mem] at this
        exact of_decide_eq_false this z
      · exact uns_eye w eye r S x h
/-- the view of the eye of one letter -/
theorem sel_past (w : Web) (ok : w.Ok) (x0 : Nat) (hx : x0 < w.2.length) : ∀ (r S : List Nat), (∀ h ∈ lotOf w x0, h ∈ S) → sel w [x0] r S = pst w r S
  | [], _, _ => rfl
  | y :: r, S, hs => by
    have hit_any : hit w [x0] S y = anyS w S y := by
      unfold hit anyS
      by_cases e : y = x0
      · subst e
        obtain ⟨h1, _⟩ := lotOf_ok ok hx
        cases q : lotOf w y with
        | nil => exact absurd q h1
        | cons k t =>
          have : k ∈ S := hs k (by rw [q]; simp)
          simp [this]
      · simp [e]
    unfold sel pst
    rw [hit_any]
    cases anyS w S y with
    | true => rw [if_pos rfl, if_pos rfl, sel_past w ok x0 hx r _ (fun h hh => sAll_mem.mpr (.inl (hs h hh)))]
    | false => rw [if_neg (by simp), if_neg (by simp), sel_past w ok x0 hx r S hs]
theorem sel_behind (w : Web) (x0 : Nat) : ∀ (a r : List Nat), x0 ∉ a → sel w [x0] (a ++ r) [] = sel w [x0] r []
  | [], _, _ => rfl
  | y :: a, r, h => by
    have hy : ¬ y = x0 := fun z => h (by simp [z])
    have hh : hit w [x0] [] y = false := by unfold hit; simp [hy]
    rw [List.cons_append]
    conv => lhs; unfold sel
    rw [hh, if_neg (by simp), sel_behind w x0 a r (fun z => h (by simp [z]))]
theorem view_past (w : Web) (ok : w.Ok) (row : List Nat) (hL : ∀ x ∈ row, x < w.2.length) (place : Nat) (hp : place < row.length) (hn : row[place] ∉ row.drop (place + 1)) : part row (marks w [row[place]] row) true = pastL w row place row[place] := by
  obtain ⟨e1, _⟩ := part_marks w [row[place]] row
  have hx : row[place] < w.2.length := hL _ (List.getElem_mem hp)
  have er : row.reverse = (row.drop (place + 1)).reverse ++ row[place] :: (row.take place).reverse := by
    conv => lhs; rw [← List.take_append_drop (place + 1) row]
    rw [List.reverse_append, take_rev hp]
  rw [e1, er, sel_behind w _ _ _ (by simpa using hn)]
  unfold pastL
  congr 1
  conv => lhs; unfold sel
  have hh : hit w [row[place]] [] row[place] = true := by unfold hit; simp
  rw [hh, if_pos rfl, sel_past w ok _ hx _ _ (fun h hm => sAll_mem.mpr (.inr hm))]
end K13
set_option maxRecDepth 100000
set_option maxHeartbeats 4000000
namespace K13
open PySem PySem.Spec PyProof.Rows L2 ML
/-! ### what is asked of a row -/
theorem eqv_nn : ∀ l : List Nat, PyData.eqvAll (nn l) (nn l) = true
  | [] => rfl
  | x :: l => by
    rw [nn_cons]
    simp only [PyData.eqvAll, PyData.eqv, eqv_nn l]
    simp
theorem lay_nn : ∀ l : List Nat, PyData.canLayAll0 (nn l) = true
  | [] => rfl
  | x :: l => by
    rw [nn_cons]
    simp only [PyData.canLayAll0, PyData.canLay0, lay_nn l]
    rfl
theorem depth_nn : ∀ l : List Nat, PyData.depthAll (nn l) = 0
  | [] => rfl
  | x :: l => by
    rw [nn_cons]
    simp only [PyData.depthAll, PyData.depth, depth_nn l]
    rfl
theorem lists_ok : ∀ ls : List (List Nat), PyData.eqvAll (ls.map fun l => PyData.list (nn l)) (ls.map fun l => PyData.list (nn l)) = true ∧ PyData.canLayAll0 (ls.map fun l => PyData.list (nn l)) = true ∧ PyData.depthAll (ls.map fun l => PyData.list (nn l)) ≤ 1
  | [] => ⟨rfl, rfl, by simp [PyData.depthAll]⟩
  | l :: ls => by
    obtain ⟨h1, h2, h3⟩ := lists_ok ls
    simp only [List.map_cons, PyData.eqvAll, PyData.eqv, PyData.canLayAll0, PyData.canLay0, PyData.depthAll, PyData.depth, eqv_nn l, lay_nn l, depth_nn l, h1, h2]
    refine ⟨rfl, rfl, ?_⟩
    omega
theorem lanes_eqv (w : Web) (r : List Nat) : gEq (lanesD w r) (lanesD w r) = some (.bool true) := by
  have e : lanesD w r = .list (((List.range w.1).map (laneOf w r)).map fun l => PyData.list (nn l)) := by
    unfold lanesD mt
    rw [List.map_map, List.map_map]
    rfl
  obtain ⟨h1, h2, h3⟩ := lists_ok ((List.range w.1).map (laneOf w r))
  rw [e]
  have hs : SeqAt.shaped (.list (((List.range w.1).map (laneOf w r)).map fun l => PyData.list (nn l))) = true := by
    unfold SeqAt.shaped
    rw [Bool.and_eq_true]
    refine ⟨?_, ?_⟩
    · simp only [PyData.canLay0]; exact h2
    · simp only [PyData.depth]
      exact decide_eq_true (by omega)
  unfold gEq
  rw [if_pos ⟨hs, hs⟩]
  simp only [PyData.eqv]
  rw [h1]
theorem asked_past (w : Web) (ok : w.Ok) (row : List Nat) (hL : ∀ x ∈ row, x < w.2.length) (hz : row.length < 800) (place : Nat) (hp : place < row.length) : m__law_asked_past [.val (encW w), .val (tup row), .val (.int place)] [] = some (.bool true, []) := by
  obtain ⟨r, lf, e1⟩ := past_eq w ok row hL hz place hp
  have e2 := lpast_eq w ok row hL hz place hp lf
  have s := same6 r
  have cut : ML.cutD (nn row) (some ((place : Int) + 1)) none = nn (row.drop (place + 1)) := by
    rw [show (place : Int) + 1 = ((place + 1 : Nat) : Int) by omega, cut_from, nn_drop]
  by_cases hn : row[place] ∈ row.drop (place + 1)
  · rw [tup_def row] at e1 e2 ⊢
    generalize encW w = we at e1 e2 ⊢
    generalize tup r = tr at e1 e2 s
    simp -implicitDefEqProofs -dsimp [m__law_asked_past, e1, e2, s, hp, cut, hn]
  · obtain ⟨rv, lfv, e3⟩ := view_eq w ok [row[place]] row hL (by omega)
    rw [view_past w ok row hL place hp hn] at lfv
    have := lf.inj lfv
    subst this
    rw [tup_def row] at e1 e2 e3 ⊢
    rw [tup_def [row[place]]] at e3
    simp only [nn_cons, nn_nil] at e3
    generalize encW w = we at e1 e2 e3 ⊢
    generalize tup r = tr at e1 e2 e3 s
    simp -implicitDefEqProofs -dsimp [m__law_asked_past, e1, e2, e3, s, hp, cut, hn]
theorem asked_rest (w : Web) (ok : w.Ok) (eye row : List Nat) (hL : ∀ x ∈ row, x < w.2.length) (hz : row.length < 400) : m__law_asked_rest [.val (encW w), .val (tup row), .val (tup eye)] [] = some (.bool true, []) := by
  obtain ⟨rv, lv, e1⟩ := view_eq w ok eye row hL (by omega)
  obtain ⟨rr, lr, e2⟩ := rest_eq w ok eye row hL (by omega)
  have e3 := law_view_eq w ok eye row hL (by omega) lv
  have e4 := law_rest_eq w ok eye row hL (by omega) lr
  have e5 := marks_eq w ok eye row hL (by omega)
  have e6 := part_eq row (marks w eye row) false (by omega)
  have s1 := same6 rv
  have s2 := same6 rr
  have l1 : rv.length ≤ row.length := by rw [lv.length]; exact part_len _ _ _
  have l2 : rr.length ≤ row.length := by rw [lr.length]; exact part_len _ _ _
  have m1 : ∀ x ∈ rv, x < w.2.length := fun x hx => hL x (part_mem (lv.perm.subset hx))
  have m2 : ∀ x ∈ rr, x < w.2.length := fun x hx => hL x (part_mem (lr.perm.subset hx))
  have e7 := lanes_eq w ok (Seq.vt (nn (rv ++ rr))) (fun x hx => by
    rcases List.mem_append.mp hx with h | h
    · exact m1 x h
    · exact m2 x h) (by rw [List.length_append]; omega)
  rw [lanes_same lv lr] at e7
  have e8 := lanes_eq w ok (Seq.vt (nn row)) hL (by omega)
  have e9 := lanes_eqv w row
  have noeye : rr.filter (fun x => eye.contains x) = [] := by
    rw [List.filter_eq_nil_iff]
    intro x hx
    have := lr.perm.subset hx
    rw [(part_marks w eye row).2] at this
    have := uns_eye w eye row.reverse [] x (List.mem_reverse.mp this)
    simpa using this
  have hrr : rr.length < 1000000 := by omega
  have happ : rv.length + rr.length ≤ 1000000 := by omega
  have ck := comp_keep 7 (mB (mIn (oS 7) (oS 2))) [some (.val (encW w)), some (.val (tup row)), some (.val (tup eye)), some (.val (tup rr)), some (.val (tup rv)), some (.val (tup rr)), none, none] [] (fun x => eye.contains x) (by simp) rr fun j _ => by simp -implicitDefEqProofs -dsimp [tup_def]
  rw [noeye] at ck
  generalize lanesD w row = ld at e7 e8 e9
  generalize part row (marks w eye row) false = pf at e4 e6
  generalize bb (marks w eye row) = bm at e5 e6
  generalize encW w = we at *
  rw [tup_def row] at *
  rw [tup_def eye] at *
  rw [tup_def rv] at e1 e3 s1 ck
  rw [tup_def rr] at e2 e4 s2 ck
  simp -implicitDefEqProofs -dsimp [m__law_asked_rest, e1, e2, e3, e4, e5, e6, s1, s2, hrr, happ, ck, e7, e8, e9]
end K13
set_option maxRecDepth 100000
set_option maxHeartbeats 4000000
namespace K13
open PySem PySem.Spec PyProof.Rows L2 ML
/-! ### the script's boxes -/
theorem pow18 : gPow 10 18 = some 1000000000000000000 := by
  unfold gPow
  rw [if_pos (by decide)]
  rfl
theorem box_eq (ns : List Int) (hz : ns.length < 1000) (k : Nat) : ∃ p : Bx, n__law_box [.val (.list (ns.map PyData.int)), .val (.int k)] [] = some ([.int p.1, .int p.2], []) := by
  have fin : ∀ c : Int, ∃ p : Bx, (if (1000000000000000000 : Int) ≤ c then some (PyData.int c) else some (PyData.int 0)) = some (.int p.1) ∧ p.2 = (c % 2147483563 * 40014 + 1931 * k) % 2147483563 + 1 := fun c => by
    by_cases h : (1000000000000000000 : Int) ≤ c
    · exact ⟨(c, _), by rw [if_pos h], rfl⟩
    · exact ⟨(0, _), by rw [if_neg h], rfl⟩
  by_cases h1 : k < ns.length
  · by_cases h : (1000000000000000000 : Int) ≤ ((ns[k]).natAbs : Int)
    · refine ⟨(((ns[k]).natAbs : Int), (((ns[k]).natAbs : Int) % 2147483563 * 40014 + 1931 * k) % 2147483563 + 1), ?_⟩
      simp -implicitDefEqProofs -dsimp [n__law_box, h1, pow18, h]
    · refine ⟨(0, (((ns[k]).natAbs : Int) % 2147483563 * 40014 + 1931 * k) % 2147483563 + 1), ?_⟩
      simp -implicitDefEqProofs -dsimp [n__law_box, h1, pow18, h]
  · by_cases h2 : 0 < ns.length
    · have hk : k % ns.length < ns.length := Nat.mod_lt _ h2
      have hix : atI (ns.map PyData.int) ((k : Int) % (ns.length : Int)) = some (.int ns[k % ns.length]) := by
        have : (k : Int) % (ns.length : Int) = ((k % ns.length : Nat) : Int) := by simp
        rw [this, atI_nat', List.getElem?_map, List.getElem?_eq_getElem hk]
        rfl
      generalize ns[k % ns.length] = c at hix
      by_cases h : (1000000000000000000 : Int) ≤ 7919 * k + 1931 + (c.natAbs : Int) % 2147483563 * 48271
      · refine ⟨(7919 * k + 1931 + (c.natAbs : Int) % 2147483563 * 48271, ((7919 * k + 1931 + (c.natAbs : Int) % 2147483563 * 48271) % 2147483563 * 40014 + 1931 * k) % 2147483563 + 1), ?_⟩
        simp -implicitDefEqProofs -dsimp [n__law_box, h1, h2, hix, pow18, h]
      · refine ⟨(0, ((7919 * k + 1931 + (c.natAbs : Int) % 2147483563 * 48271) % 2147483563 * 40014 + 1931 * k) % 2147483563 + 1), ?_⟩
        simp -implicitDefEqProofs -dsimp [n__law_box, h1, h2, hix, pow18, h]
    · by_cases h : (1000000000000000000 : Int) ≤ 7919 * k + 1931
      · refine ⟨(7919 * k + 1931, ((7919 * k + 1931) % 2147483563 * 40014 + 1931 * k) % 2147483563 + 1), ?_⟩
        simp -implicitDefEqProofs -dsimp [n__law_box, h1, h2, pow18, h]
      · refine ⟨(0, ((7919 * k + 1931) % 2147483563 * 40014 + 1931 * k) % 2147483563 + 1), ?_⟩
        simp -implicitDefEqProofs -dsimp [n__law_box, h1, h2, pow18, h]
end K13
set_option maxRecDepth 100000
set_option maxHeartbeats 4000000
namespace K13
open PySem PySem.Spec PyProof.Rows L2 ML
theorem set_last {α : Type} (J : List α) (a b : α) : (J ++ [a]).set J.length b = J ++ [b] := by
  induction J with
  | nil => rfl
  | cons x J IH => simp
/-- a row that is asked: its web, its letters -/
structure Row (w : Web) (row : List Nat) : Prop where
  ok : w.Ok
  lt : ∀ x ∈ row, x < w.2.length
  few : row.length < 400
theorem eye_or (w : Web) (ok : w.Ok) (p : Bx) (turn : Nat) (c0 c1 c2 c4 c5 c6 c9 : Option E) (a : O) (J : ML.Sto) : ∃ (eye : List Nat) (p' : Bx), (∀ j ∈ eye, j < w.2.length) ∧
    mIf (mB (mGt (oS 8) (oV (mD (.int 0))))) (mCallV [true, false] m__law_eye (aCons (oS 7) (aCons (oS 3) aNil))) (mTup (aCons (oV (mCallV [true, false] m__law_take (aCons (oS 7) (aCons (oV (mLen (oV (mIx (oS 3) (oV (mD (.int 1))))))) aNil)))) aNil)) [c0, c1, c2, some (.val (encW w)), c4, c5, c6, some (.loc (J.length + 1)), some (.val (.int turn)), c9] (a :: (J ++ [bx p])) = some (tup eye, a :: (J ++ [bx p'])) := by
  by_cases h : 0 < turn
  · obtain ⟨eye, p', he, e⟩ := eye_eq p w ok
    refine ⟨eye, p', he, ?_⟩
    simp -implicitDefEqProofs -dsimp [h, e, set_last]
  · have h1 := ok.m1
    have h8 := ok.m8
    have tk := take_eq p h1 (by omega)
    refine ⟨[tkN p w.2.length], tkB p w.2.length, fun j hj => by rw [List.mem_singleton.mp hj]; exact tk_lt p h1, ?_⟩
    simp -implicitDefEqProofs -dsimp [h, encW, tk, set_last, tup_def]
end K13
set_option maxRecDepth 100000
set_option maxHeartbeats 4000000
namespace K13
open PySem PySem.Spec PyProof.Rows L2 ML
/-- the expression that draws an eye -/
noncomputable def eyeM (i j k : Nat) : M D := mIf (mB (mGt (oS k) (oV (mD (.int 0))))) (mCallV [true, false] m__law_eye (aCons (oS i) (aCons (oS j) aNil))) (mTup (aCons (oV (mCallV [true, false] m__law_take (aCons (oS i) (aCons (oV (mLen (oV (mIx (oS j) (oV (mD (.int 1))))))) aNil)))) aNil))
structure Good (d : D) (w : Web) (row eye due : List Nat) : Prop where
  r : Row w row
  e : d = .tuple [encW w, tup row, tup eye, tup due]
  v : m_view_of [.val (encW w), .val (tup row), .val (tup eye)] [] = some (tup due, [])
def Asked (d : D) : Prop := ∃ w row eye due, Good d w row eye due
theorem one_1 (w : Web) (row : List Nat) (R : Row w row) (p : Bx) (turn : Nat) (c0 c2 c5 c6 c9 : Option E) (ds : List D) (hz : ds.length < 1000) (J : ML.Sto) : ∃ (d : D) (eye due : List Nat) (p' : Bx), Good d w row eye due ∧
    B__law_part_one_1 [c0, some (.loc 0), c2, some (.val (encW w)), some (.val (tup row)), c5, c6, some (.loc (J.length + 1)), some (.val (.int turn)), c9] (.lst ds :: (J ++ [bx p])) = some (.nx, [c0, some (.loc 0), c2, some (.val (encW w)), some (.val (tup row)), some (.val (tup eye)), some (.val (tup due)), some (.loc (J.length + 1)), some (.val (.int turn)), c9], .lst (ds ++ [d]) :: (J ++ [bx p'])) := by
  obtain ⟨eye, p', he, e⟩ := eye_or w R.ok p turn c0 (some (.loc 0)) c2 (some (.val (tup row))) c5 c6 c9 (.lst ds) J
  have few := R.few
  obtain ⟨due, lf, ev⟩ := view_eq w R.ok eye row R.lt (by omega)
  have el := law_view_eq w R.ok eye row R.lt (by omega) lf
  have s := same6 due
  refine ⟨_, eye, due, p', ⟨R, rfl, ev⟩, ?_⟩
  rw [e_B__law_part_one_1]
  change mIf (mB (mGt (oS 8) (oV (mD (.int 0))))) (mCallV [true, false] m__law_eye (aCons (oS 7) (aCons (oS 3) aNil))) (mTup (aCons (oV (mCallV [true, false] m__law_take (aCons (oS 7) (aCons (oV (mLen (oV (mIx (oS 3) (oV (mD (.int 1))))))) aNil)))) aNil)) _ _ = _ at e
  generalize mIf (mB (mGt (oS 8) (oV (mD (.int 0))))) (mCallV [true, false] m__law_eye (aCons (oS 7) (aCons (oS 3) aNil))) (mTup (aCons (oV (mCallV [true, false] m__law_take (aCons (oS 7) (aCons (oV (mLen (oV (mIx (oS 3) (oV (mD (.int 1))))))) aNil)))) aNil)) = M at e ⊢
  generalize encW w = W at *
  generalize tup row = A at *
  generalize tup eye = B at *
  generalize tup due = C at *
  have hz2 : ds.length < 1000000 := by omega
  simp -implicitDefEqProofs -dsimp [e, ev, el, s, hz2]
end K13
set_option maxRecDepth 100000
set_option maxHeartbeats 4000000
namespace K13
open PySem PySem.Spec PyProof.Rows L2 ML
theorem one_three (w : Web) (row : List Nat) (R : Row w row) (p : Bx) (c0 c2 c5 c6 c8 c9 : Option E) (ds : List D) (hz : ds.length < 500) (J : ML.Sto) : ∃ (d1 d2 d3 : D) (eye due : List Nat) (p' : Bx), Asked d1 ∧ Asked d2 ∧ Good d3 w row eye due ∧
    mLoop [] (bName 8) B__law_part_one_1 [.int 0, .int 1, .int 2] [c0, some (.loc 0), c2, some (.val (encW w)), some (.val (tup row)), c5, c6, some (.loc (J.length + 1)), c8, c9] (.lst ds :: (J ++ [bx p])) = some (.nx, [c0, some (.loc 0), c2, some (.val (encW w)), some (.val (tup row)), some (.val (tup eye)), some (.val (tup due)), some (.loc (J.length + 1)), some (.val (.int 2)), c9], .lst (ds ++ [d1, d2, d3]) :: (J ++ [bx p'])) := by
  obtain ⟨d1, eye1, due1, p1, g1, e1⟩ := one_1 w row R p 0 c0 c2 c5 c6 c9 ds (by omega) J
  obtain ⟨d2, eye2, due2, p2, g2, e2⟩ := one_1 w row R p1 1 c0 c2 (some (.val (tup eye1))) (some (.val (tup due1))) c9 (ds ++ [d1]) (by simp; omega) J
  obtain ⟨d3, eye3, due3, p3, g3, e3⟩ := one_1 w row R p2 2 c0 c2 (some (.val (tup eye2))) (some (.val (tup due2))) c9 (ds ++ [d1] ++ [d2]) (by simp; omega) J
  refine ⟨d1, d2, d3, eye3, due3, p3, ⟨_, _, _, _, g1⟩, ⟨_, _, _, _, g2⟩, g3, ?_⟩
  generalize encW w = W at *
  generalize tup row = A at *
  generalize tup eye1 = B1 at *
  generalize tup due1 = C1 at *
  generalize tup eye2 = B2 at *
  generalize tup due2 = C2 at *
  generalize tup eye3 = B3 at *
  generalize tup due3 = C3 at *
  generalize B__law_part_one_1 = BB at *
  rw [show ds ++ [d1, d2, d3] = ds ++ [d1] ++ [d2] ++ [d3] by simp]
  generalize ds ++ [d1] = x1 at *
  generalize x1 ++ [d2] = x2 at *
  generalize x2 ++ [d3] = x3 at *
  generalize J.length + 1 = jl at *
  generalize J ++ [bx p] = y0 at *
  generalize J ++ [bx p1] = y1 at *
  generalize J ++ [bx p2] = y2 at *
  generalize J ++ [bx p3] = y3 at *
  have e1' : BB [c0, some (.loc 0), c2, some (.val W), some (.val A), c5, c6, some (.loc jl), some (.val (.int 0)), c9] (.lst ds :: y0) = _ := e1
  have e2' : BB [c0, some (.loc 0), c2, some (.val W), some (.val A), some (.val B1), some (.val C1), some (.loc jl), some (.val (.int 1)), c9] (.lst x1 :: y1) = _ := e2
  have e3' : BB [c0, some (.loc 0), c2, some (.val W), some (.val A), some (.val B2), some (.val C2), some (.loc jl), some (.val (.int 2)), c9] (.lst x2 :: y2) = _ := e3
  simp -implicitDefEqProofs -dsimp [e1', e2', e3']
end K13
set_option maxRecDepth 100000
set_option maxHeartbeats 4000000
namespace K13
open PySem PySem.Spec PyProof.Rows L2 ML
/-- the row's length, drawn -/
noncomputable def manyM (b k : Nat) : M D := mIf (mB (mLt (oS k) (oV (mD (.int 2))))) (mD (.int 60)) (mCallV [true, false] m__law_pick (aCons (oS b) (aCons (oV (mL (nLst (aCons (oV (mD (.int 0))) (aCons (oV (mD (.int 1))) (aCons (oV (mD (.int 2))) (aCons (oV (mD (.int 5))) (aCons (oV (mD (.int 12))) (aCons (oV (mD (.int 30))) (aCons (oV (mD (.int 59))) aNil)))))))))) aNil)))
theorem many_eq (p : Bx) (k : Nat) (c0 c1 c3 c4 c5 c6 c8 c9 : Option E) (a : O) (J : ML.Sto) : ∃ (m : Nat) (p' : Bx), m < 400 ∧
    manyM 7 2 [c0, c1, some (.val (.int k)), c3, c4, c5, c6, some (.loc (J.length + 1)), c8, c9] (a :: (J ++ [bx p])) = some (.int m, a :: (J ++ [bx p'])) := by
  by_cases h : k < 2
  · have hk : (k : Int) < 2 := by omega
    exact ⟨60, p, by omega, by simp -implicitDefEqProofs -dsimp [manyM, hk]⟩
  · obtain ⟨d, hd, e⟩ := pick_of p (Seq.vl [.int 0, .int 1, .int 2, .int 5, .int 12, .int 30, .int 59]) (by simp) (by simp)
    obtain ⟨m, rfl, hm⟩ : ∃ m : Nat, d = .int m ∧ m < 400 := by
      simp only [List.mem_cons, List.not_mem_nil, or_false] at hd
      rcases hd with rfl | rfl | rfl | rfl | rfl | rfl | rfl
      · exact ⟨0, rfl, by omega⟩
      · exact ⟨1, rfl, by omega⟩
      · exact ⟨2, rfl, by omega⟩
      · exact ⟨5, rfl, by omega⟩
      · exact ⟨12, rfl, by omega⟩
      · exact ⟨30, rfl, by omega⟩
      · exact ⟨59, rfl, by omega⟩
    have hk : ¬ (k : Int) < 2 := by omega
    exact ⟨m, tkB p 7, hm, by simp -implicitDefEqProofs -dsimp [manyM, hk, e, set_last]⟩
theorem box_own (ns : List Int) (hz : ns.length < 1000) (k : Nat) (c1 c3 c4 c5 c6 c7 c8 c9 : Option E) (a : O) (J : ML.Sto) : ∃ p : Bx,
    mCallN [false, false] n__law_box (aCons (oS 0) (aCons (oS 2) aNil)) [some (.val (.list (ns.map .int))), c1, some (.val (.int k)), c3, c4, c5, c6, c7, c8, c9] (a :: J) = some ([.int p.1, .int p.2], a :: J) := by
  obtain ⟨p, e⟩ := box_eq ns hz k
  refine ⟨p, ?_⟩
  generalize ns.map PyData.int = x at *
  simp -implicitDefEqProofs -dsimp [e]
end K13
set_option maxRecDepth 100000
set_option maxHeartbeats 4000000
namespace K13
open PySem PySem.Spec PyProof.Rows L2 ML
theorem anyweb_at (p : Bx) (k : Nat) (c0 c1 c3 c4 c5 c6 c8 c9 : Option E) (a : O) (J : ML.Sto) : ∃ (w : Web) (p' : Bx), w.Ok ∧
    mCallV [true, false] m__law_any_web (aCons (oS 7) (aCons (oS 2) aNil)) [c0, c1, some (.val (.int k)), c3, c4, c5, c6, some (.loc (J.length + 1)), c8, c9] (a :: (J ++ [bx p])) = some (encW w, a :: (J ++ [bx p'])) := by
  obtain ⟨w, p', ok, e⟩ := any_web_eq p k
  refine ⟨w, p', ok, ?_⟩
  generalize encW w = W at *
  simp -implicitDefEqProofs -dsimp [e, set_last]
theorem row_at (p : Bx) (w : Web) (ok : w.Ok) (k : Nat) (c0 c1 c4 c5 c6 c8 c9 : Option E) (a : O) (J : ML.Sto) : ∃ (row : List Nat) (p' : Bx), Row w row ∧
    mCallV [true, false, false] m__law_row (aCons (oS 7) (aCons (oS 3) (aCons (oV (manyM 7 2)) aNil))) [c0, c1, some (.val (.int k)), some (.val (encW w)), c4, c5, c6, some (.loc (J.length + 1)), c8, c9] (a :: (J ++ [bx p])) = some (tup row, a :: (J ++ [bx p'])) := by
  obtain ⟨m, p1, hm, e1⟩ := many_eq p k c0 c1 (some (.val (encW w))) c4 c5 c6 c8 c9 a J
  obtain ⟨row, p', hl, hr, e⟩ := row_eq p1 w ok m (by omega)
  refine ⟨row, p', ⟨ok, hr, by omega⟩, ?_⟩
  generalize encW w = W at *
  generalize tup row = A at *
  generalize manyM 7 2 = M at *
  simp -implicitDefEqProofs -dsimp [e1, e, set_last]
theorem twin_at (p : Bx) (w : Web) (ok : w.Ok) (c0 c1 c2 c4 c5 c6 c8 c9 : Option E) (a : O) (J : ML.Sto) : ∃ (w' : Web) (p' : Bx), w'.Ok ∧ w'.2.length = w.2.length ∧
    mCallV [true, false, false] m__law_web (aCons (oS 7) (aCons (oV (mIx (oS 3) (oV (mD (.int 0))))) (aCons (oV (mLen (oV (mIx (oS 3) (oV (mD (.int 1))))))) aNil))) [c0, c1, c2, some (.val (encW w)), c4, c5, c6, some (.loc (J.length + 1)), c8, c9] (a :: (J ++ [bx p])) = some (encW w', a :: (J ++ [bx p'])) := by
  obtain ⟨w', p', ok', h1, h2, e⟩ := web_eq p w.1 w.2.length ok.n1 ok.n4 ok.m1 ok.m8
  have h8 := ok.m8
  have hz : w.2.length < 1000000 := by omega
  refine ⟨w', p', ok', h2, ?_⟩
  generalize encW w' = W at *
  simp -implicitDefEqProofs -dsimp [encW, e, set_last, hz]
end K13
set_option maxRecDepth 100000
set_option maxHeartbeats 4000000
namespace K13
open PySem PySem.Spec PyProof.Rows L2 ML
/-- the sameness asked with a twin web -/
noncomputable def twinB : M Bool := mNot (mB (mCallV [false, false] (m__law_same 6) (aCons (oV (mCallV [false, false, false] m_view_of (aCons (oS 9) (aCons (oS 4) (aCons (oV (mIx (oV (mIx (oS 1) (oV (mNeg (mD (.int 1)))))) (oV (mD (.int 2))))) aNil))))) (aCons (oV (mCallV [false, false, false] m__law_view (aCons (oS 9) (aCons (oS 4) (aCons (oV (mIx (oV (mIx (oS 1) (oV (mNeg (mD (.int 1)))))) (oV (mD (.int 2))))) aNil))))) aNil))))
theorem twin_same (w w' : Web) (row eye due : List Nat) (d : D) (g : Good d w row eye due) (ok' : w'.Ok) (hl : w'.2.length = w.2.length) (c0 c2 c3 c5 c6 c7 c8 : Option E) (ds : List D) (J : ML.Sto) :
    twinB [c0, some (.loc 0), c2, c3, some (.val (tup row)), c5, c6, c7, c8, some (.val (encW w'))] (.lst (ds ++ [d]) :: J) = some (false, .lst (ds ++ [d]) :: J) := by
  have few := g.r.few
  have R' : Row w' row := ⟨ok', by rw [hl]; exact g.r.lt, few⟩
  obtain ⟨r, lf, ev⟩ := view_eq w' ok' eye row R'.lt (by omega)
  have el := law_view_eq w' ok' eye row R'.lt (by omega) lf
  have s := same6 r
  have he := g.e
  have hix : atI (ds ++ [d]) (-1) = some d := by
    rw [e_atI_last, List.getLast?_append]
    rfl
  generalize encW w' = W at *
  generalize tup row = A at *
  generalize tup eye = B at *
  generalize tup due = C at *
  generalize tup r = Q at *
  subst he
  simp -implicitDefEqProofs -dsimp [twinB, hix, ev, el, s]
end K13
set_option maxRecDepth 100000
set_option maxHeartbeats 4000000
namespace K13
open PySem PySem.Spec PyProof.Rows L2 ML
theorem seq_nx {a b : S} {env env' : ML.Env} {st st' : ML.Sto} (h : a env st = some (.nx, env', st')) : mSeq a b env st = b env' st' := by
  simp -implicitDefEqProofs -dsimp [h]
theorem set_nx {i : Nat} {m : M D} {env : ML.Env} {st st' : ML.Sto} {d : D} (h : m env st = some (d, st')) : mSet i m env st = some (.nx, env.set i (some (.val d)), st') := by
  unfold mSet
  rw [h]; rfl
theorem own_nx {i : Nat} {m : M (List D)} {env : ML.Env} {st st' : ML.Sto} {d : List D} (h : m env st = some (d, st')) : mOwn i m env st = some (.nx, env.set i (some (.loc st'.length)), st' ++ [.lst d]) := by
  unfold mOwn
  rw [h]; rfl
theorem for_nx {mi : M (List D × List Gd)} {bd : Bd} {b : S} {ds : List D} {env env' : ML.Env} {st st1 st' : ML.Sto} {g : List Gd} (h : mi env st = some ((ds, g), st1)) (h2 : mLoop g bd b ds env st1 = some (.nx, env', st')) : mFor mi bd b env st = some (.nx, env', st') := by
  unfold mFor
  rw [h]; exact h2
theorem iota3 {env : ML.Env} {st : ML.Sto} : iRg1 (mD (.int 3)) env st = some (([.int 0, .int 1, .int 2], []), st) := by
  simp -implicitDefEqProofs -dsimp []
  rfl
theorem ifs_nx {m : M Bool} {a b : S} {env : ML.Env} {st st' : ML.Sto} (h : m env st = some (false, st')) : mIfS m a b env st = b env st' := by
  unfold mIfS
  rw [h]; rfl
theorem one_round (ns : List Int) (hn : ns.length < 1000) (k : Nat) (c3 c4 c5 c6 c7 c8 c9 : Option E) (ds : List D) (hz : ds.length < 500) (J : ML.Sto) (hA : ∀ d ∈ ds, Asked d) : ∃ (ds' : List D) (J' : ML.Sto) (t3 t4 t5 t6 t7 t8 t9 : Option E), ds'.length = ds.length + 3 ∧ (∀ d ∈ ds', Asked d) ∧
    B__law_part_one_2 [some (.val (.list (ns.map .int))), some (.loc 0), some (.val (.int k)), c3, c4, c5, c6, c7, c8, c9] (.lst ds :: J) = some (.nx, [some (.val (.list (ns.map .int))), some (.loc 0), some (.val (.int k)), t3, t4, t5, t6, t7, t8, t9], .lst ds' :: J') := by
  obtain ⟨p0, e0⟩ := box_own ns hn k (some (.loc 0)) c3 c4 c5 c6 c7 c8 c9 (.lst ds) J
  obtain ⟨w, p1, ok, e1⟩ := anyweb_at p0 k (some (.val (.list (ns.map .int)))) (some (.loc 0)) c3 c4 c5 c6 c8 c9 (.lst ds) J
  obtain ⟨row, p2, R, e2⟩ := row_at p1 w ok k (some (.val (.list (ns.map .int)))) (some (.loc 0)) c4 c5 c6 c8 c9 (.lst ds) J
  obtain ⟨d1, d2, d3, eye, due, p3, a1, a2, g, e3⟩ := one_three w row R p2 (some (.val (.list (ns.map .int)))) (some (.val (.int k))) c5 c6 c8 c9 ds hz J
  obtain ⟨w', p4, ok', hl, e4⟩ := twin_at p3 w ok (some (.val (.list (ns.map .int)))) (some (.loc 0)) (some (.val (.int k))) (some (.val (tup row))) (some (.val (tup eye))) (some (.val (tup due))) (some (.val (.int 2))) c9 (.lst (ds ++ [d1, d2, d3])) J
  have e5 := twin_same w w' row eye due d3 g ok' hl (some (.val (.list (ns.map .int)))) (some (.val (.int k))) (some (.val (encW w))) (some (.val (tup eye))) (some (.val (tup due))) (some (.loc (J.length + 1))) (some (.val (.int 2))) (ds ++ [d1, d2]) (J ++ [bx p4])
  rw [show ds ++ [d1, d2] ++ [d3] = ds ++ [d1, d2, d3] by simp] at e5
  refine ⟨ds ++ [d1, d2, d3], J ++ [bx p4], some (.val (encW w)), some (.val (tup row)), some (.val (tup eye)), some (.val (tup due)), some (.loc (J.length + 1)), some (.val (.int 2)), some (.val (encW w')), by simp, ?_, ?_⟩
  · intro d hd
    rcases List.mem_append.mp hd with h | h
    · exact hA d h
    · simp only [List.mem_cons, List.not_mem_nil, or_false] at h
      rcases h with rfl | rfl | rfl
      · exact a1
      · exact a2
      · exact ⟨_, _, _, _, g⟩
  · rw [e_B__law_part_one_2]
    refine (seq_nx (own_nx e0)).trans ?_
    refine (seq_nx (set_nx e1)).trans ?_
    refine (seq_nx (set_nx e2)).trans ?_
    refine (seq_nx (for_nx iota3 e3)).trans ?_
    refine (seq_nx (set_nx e4)).trans ?_
    exact ifs_nx e5
end K13
set_option maxRecDepth 100000
set_option maxHeartbeats 4000000
namespace K13
open PySem PySem.Spec PyProof.Rows L2 ML
theorem rounds_one (ns : List Int) (hn : ns.length < 1000) (ks : List Nat) : ∀ (c2 c3 c4 c5 c6 c7 c8 c9 : Option E) (ds : List D) (J : ML.Sto), ds.length + 3 * ks.length < 400 → (∀ d ∈ ds, Asked d) → ∃ (ds' : List D) (J' : ML.Sto) (t2 t3 t4 t5 t6 t7 t8 t9 : Option E), (∀ d ∈ ds', Asked d) ∧ ds'.length < 400 ∧
    mLoop [] (bName 2) B__law_part_one_2 (nn ks) [some (.val (.list (ns.map .int))), some (.loc 0), c2, c3, c4, c5, c6, c7, c8, c9] (.lst ds :: J) = some (.nx, [some (.val (.list (ns.map .int))), some (.loc 0), t2, t3, t4, t5, t6, t7, t8, t9], .lst ds' :: J') := by
  induction ks with
  | nil =>
    intro c2 c3 c4 c5 c6 c7 c8 c9 ds J hz hA
    exact ⟨ds, J, c2, c3, c4, c5, c6, c7, c8, c9, hA, by simpa using hz, by rw [nn_nil, loop_nil0]⟩
  | cons k ks IH =>
    intro c2 c3 c4 c5 c6 c7 c8 c9 ds J hz hA
    rw [List.length_cons] at hz
    obtain ⟨ds1, J1, t3, t4, t5, t6, t7, t8, t9, hl, hA1, e1⟩ := one_round ns hn k c3 c4 c5 c6 c7 c8 c9 ds (by omega) J hA
    obtain ⟨ds2, J2, u2, u3, u4, u5, u6, u7, u8, u9, hA2, hz2, e2⟩ := IH (some (.val (.int k))) t3 t4 t5 t6 t7 t8 t9 ds1 J1 (by omega) hA1
    refine ⟨ds2, J2, u2, u3, u4, u5, u6, u7, u8, u9, hA2, hz2, ?_⟩
    rw [nn_cons, loop_cons0]
    simp -implicitDefEqProofs -dsimp only [e_bName, List.set_cons_succ, List.set_cons_zero, Option.bind_some, bd_some, mp_some, e1, e2]
theorem again_one (c0 c2 c7 c8 c9 : Option E) (ds0 : List D) (J : ML.Sto) (as : List D) : (∀ d ∈ as, Asked d) → ∀ (c3 c4 c5 c6 : Option E), ∃ env' : ML.Env, mLoop [(0, Option.none, ds0)] (bTup [bName 3, bName 4, bName 5, bName 6]) B__law_part_one_3 as [c0, some (.loc 0), c2, c3, c4, c5, c6, c7, c8, c9] (.lst ds0 :: J) = some (.nx, env', .lst ds0 :: J) := by
  have hg : gOk [(0, Option.none, ds0)] (.lst ds0 :: J) := by rw [e_gOk_one]; exact ⟨rfl, trivial⟩
  induction as with
  | nil => intro _ c3 c4 c5 c6; exact ⟨_, loop_nil _ _ _ _ _ hg⟩
  | cons d as IH =>
    intro hA c3 c4 c5 c6
    obtain ⟨w, row, eye, due, g⟩ := hA d (by simp)
    obtain ⟨env', e⟩ := IH (fun x hx => hA x (by simp [hx])) (some (.val (encW w))) (some (.val (tup row))) (some (.val (tup eye))) (some (.val (tup due)))
    refine ⟨env', ?_⟩
    rw [loop_cons _ _ _ _ _ _ _ hg]
    have s := same6 due
    have ev := g.v
    have hd := g.e
    clear g
    generalize encW w = W at *
    generalize tup row = A at *
    generalize tup eye = B at *
    generalize tup due = C at *
    subst hd
    have e3 : B__law_part_one_3 [c0, some (.loc 0), c2, some (.val W), some (.val A), some (.val B), some (.val C), c7, c8, c9] (.lst ds0 :: J) = some (.nx, [c0, some (.loc 0), c2, some (.val W), some (.val A), some (.val B), some (.val C), c7, c8, c9], .lst ds0 :: J) := by
      rw [e_B__law_part_one_3]
      simp -implicitDefEqProofs -dsimp [ev, s]
    simp -implicitDefEqProofs -dsimp only [e_bTup, e_bAll_cons, e_bAll_nil, e_bName, List.set_cons_succ, List.set_cons_zero, Option.bind_some, bd_some, mp_some, e3, e]
theorem iota4 {env : ML.Env} {st : ML.Sto} : iRg1 (mD (.int 4)) env st = some ((nn [0, 1, 2, 3], []), st) := by
  simp -implicitDefEqProofs -dsimp []
  rfl
theorem part_one (ns : List Int) (hn : ns.length < 1000) : m__law_part_one [.val (.list (ns.map .int))] [] = some (.bool true, []) := by
  obtain ⟨ds, J, t2, t3, t4, t5, t6, t7, t8, t9, hA, hz, e⟩ := rounds_one ns hn [0, 1, 2, 3] none none none none none none none none [] [] (by decide) (by simp)
  obtain ⟨env', e2⟩ := again_one (some (.val (.list (ns.map .int)))) t2 t7 t8 t9 ds J ds.reverse (fun d hd => hA d (by simpa using hd)) t3 t4 t5 t6
  unfold m__law_part_one
  rw [e_mFn]
  have e0 : startE 10 [.val (.list (ns.map .int))] = [some (.val (.list (ns.map PyData.int))), none, none, none, none, none, none, none, none, none] := rfl
  rw [e0]
  have own : mOwn 1 (nLst aNil) [some (.val (.list (ns.map PyData.int))), none, none, none, none, none, none, none, none, none] [] = some (.nx, [some (.val (.list (ns.map PyData.int))), some (.loc 0), none, none, none, none, none, none, none, none], [.lst []]) := by
    simp -implicitDefEqProofs -dsimp []
  rw [seq_nx own, seq_nx (for_nx iota4 e)]
  have ir : iRev (oS 1) [some (.val (.list (ns.map PyData.int))), some (.loc 0), t2, t3, t4, t5, t6, t7, t8, t9] (.lst ds :: J) = some ((ds.reverse, [(0, Option.none, ds)]), .lst ds :: J) := by
    simp -implicitDefEqProofs -dsimp []
  rw [seq_nx (for_nx ir e2)]
  simp -implicitDefEqProofs -dsimp []
end K13
set_option maxRecDepth 100000
set_option maxHeartbeats 4000000
namespace K13
open PySem PySem.Spec PyProof.Rows L2 ML
/-! ### part two: the box at slot 6 -/
theorem eye_or6 (w : Web) (ok : w.Ok) (p : Bx) (turn : Nat) (c0 c1 c2 c4 c5 c8 c9 : Option E) (a : O) (J : ML.Sto) : ∃ (eye : List Nat) (p' : Bx), (∀ j ∈ eye, j < w.2.length) ∧
    mIf (mB (mGt (oS 7) (oV (mD (.int 0))))) (mCallV [true, false] m__law_eye (aCons (oS 6) (aCons (oS 3) aNil))) (mTup (aCons (oV (mCallV [true, false] m__law_take (aCons (oS 6) (aCons (oV (mLen (oV (mIx (oS 3) (oV (mD (.int 1))))))) aNil)))) aNil)) [c0, c1, c2, some (.val (encW w)), c4, c5, some (.loc (J.length + 1)), some (.val (.int turn)), c8, c9] (a :: (J ++ [bx p])) = some (tup eye, a :: (J ++ [bx p'])) := by
  by_cases h : 0 < turn
  · obtain ⟨eye, p', he, e⟩ := eye_eq p w ok
    refine ⟨eye, p', he, ?_⟩
    simp -implicitDefEqProofs -dsimp [h, e, set_last]
  · have h1 := ok.m1
    have h8 := ok.m8
    have tk := take_eq p h1 (by omega)
    refine ⟨[tkN p w.2.length], tkB p w.2.length, fun j hj => by rw [List.mem_singleton.mp hj]; exact tk_lt p h1, ?_⟩
    simp -implicitDefEqProofs -dsimp [h, encW, tk, set_last, tup_def]
theorem many_eq6 (p : Bx) (k : Nat) (c0 c1 c3 c4 c5 c7 c8 c9 : Option E) (a : O) (J : ML.Sto) : ∃ (m : Nat) (p' : Bx), m < 400 ∧
    manyM 6 2 [c0, c1, some (.val (.int k)), c3, c4, c5, some (.loc (J.length + 1)), c7, c8, c9] (a :: (J ++ [bx p])) = some (.int m, a :: (J ++ [bx p'])) := by
  by_cases h : k < 2
  · have hk : (k : Int) < 2 := by omega
    exact ⟨60, p, by omega, by simp -implicitDefEqProofs -dsimp [manyM, hk]⟩
  · obtain ⟨d, hd, e⟩ := pick_of p (Seq.vl [.int 0, .int 1, .int 2, .int 5, .int 12, .int 30, .int 59]) (by simp) (by simp)
    obtain ⟨m, rfl, hm⟩ : ∃ m : Nat, d = .int m ∧ m < 400 := by
      simp only [List.mem_cons, List.not_mem_nil, or_false] at hd
      rcases hd with rfl | rfl | rfl | rfl | rfl | rfl | rfl
      · exact ⟨0, rfl, by omega⟩
      · exact ⟨1, rfl, by omega⟩
      · exact ⟨2, rfl, by omega⟩
      · exact ⟨5, rfl, by omega⟩
      · exact ⟨12, rfl, by omega⟩
      · exact ⟨30, rfl, by omega⟩
      · exact ⟨59, rfl, by omega⟩
    have hk : ¬ (k : Int) < 2 := by omega
    exact ⟨m, tkB p 7, hm, by simp -implicitDefEqProofs -dsimp [manyM, hk, e, set_last]⟩
theorem anyweb_at6 (p : Bx) (k : Nat) (c0 c1 c3 c4 c5 c7 c8 c9 : Option E) (a : O) (J : ML.Sto) : ∃ (w : Web) (p' : Bx), w.Ok ∧
    mCallV [true, false] m__law_any_web (aCons (oS 6) (aCons (oS 2) aNil)) [c0, c1, some (.val (.int k)), c3, c4, c5, some (.loc (J.length + 1)), c7, c8, c9] (a :: (J ++ [bx p])) = some (encW w, a :: (J ++ [bx p'])) := by
  obtain ⟨w, p', ok, e⟩ := any_web_eq p k
  refine ⟨w, p', ok, ?_⟩
  generalize encW w = W at *
  simp -implicitDefEqProofs -dsimp [e, set_last]
theorem row_at6 (p : Bx) (w : Web) (ok : w.Ok) (k : Nat) (c0 c1 c4 c5 c7 c8 c9 : Option E) (a : O) (J : ML.Sto) : ∃ (row : List Nat) (p' : Bx), Row w row ∧
    mCallV [true, false, false] m__law_row (aCons (oS 6) (aCons (oS 3) (aCons (oV (manyM 6 2)) aNil))) [c0, c1, some (.val (.int k)), some (.val (encW w)), c4, c5, some (.loc (J.length + 1)), c7, c8, c9] (a :: (J ++ [bx p])) = some (tup row, a :: (J ++ [bx p'])) := by
  obtain ⟨m, p1, hm, e1⟩ := many_eq6 p k c0 c1 (some (.val (encW w))) c4 c5 c7 c8 c9 a J
  obtain ⟨row, p', hl, hr, e⟩ := row_eq p1 w ok m (by omega)
  refine ⟨row, p', ⟨ok, hr, by omega⟩, ?_⟩
  generalize encW w = W at *
  generalize tup row = A at *
  generalize manyM 6 2 = M at *
  simp -implicitDefEqProofs -dsimp [e1, e, set_last]
structure Good2 (d : D) (w : Web) (row eye : List Nat) : Prop where
  r : Row w row
  e : d = .tuple [encW w, tup row, tup eye]
def Asked2 (d : D) : Prop := ∃ w row eye, Good2 d w row eye
theorem two_1 (w : Web) (row : List Nat) (R : Row w row) (p : Bx) (turn : Nat) (c0 c2 c5 c8 c9 : Option E) (ds : List D) (hz : ds.length < 1000) (J : ML.Sto) : ∃ (d : D) (eye : List Nat) (p' : Bx), Good2 d w row eye ∧
    B__law_part_two_1 [c0, some (.loc 0), c2, some (.val (encW w)), some (.val (tup row)), c5, some (.loc (J.length + 1)), some (.val (.int turn)), c8, c9] (.lst ds :: (J ++ [bx p])) = some (.nx, [c0, some (.loc 0), c2, some (.val (encW w)), some (.val (tup row)), some (.val (tup eye)), some (.loc (J.length + 1)), some (.val (.int turn)), c8, c9], .lst (ds ++ [d]) :: (J ++ [bx p'])) := by
  obtain ⟨eye, p', he, e⟩ := eye_or6 w R.ok p turn c0 (some (.loc 0)) c2 (some (.val (tup row))) c5 c8 c9 (.lst ds) J
  have few := R.few
  have ar := asked_rest w R.ok eye row R.lt few
  refine ⟨_, eye, p', ⟨R, rfl⟩, ?_⟩
  rw [e_B__law_part_two_1]
  generalize mIf (mB (mGt (oS 7) (oV (mD (.int 0))))) (mCallV [true, false] m__law_eye (aCons (oS 6) (aCons (oS 3) aNil))) (mTup (aCons (oV (mCallV [true, false] m__law_take (aCons (oS 6) (aCons (oV (mLen (oV (mIx (oS 3) (oV (mD (.int 1))))))) aNil)))) aNil)) = M at e ⊢
  generalize encW w = W at *
  generalize tup row = A at *
  generalize tup eye = B at *
  have hz2 : ds.length < 1000000 := by omega
  simp -implicitDefEqProofs -dsimp [e, ar, hz2]
theorem two_three (w : Web) (row : List Nat) (R : Row w row) (p : Bx) (c0 c2 c5 c7 c8 c9 : Option E) (ds : List D) (hz : ds.length < 500) (J : ML.Sto) : ∃ (d1 d2 d3 : D) (t5 : Option E) (p' : Bx), Asked2 d1 ∧ Asked2 d2 ∧ Asked2 d3 ∧
    mLoop [] (bName 7) B__law_part_two_1 [.int 0, .int 1, .int 2] [c0, some (.loc 0), c2, some (.val (encW w)), some (.val (tup row)), c5, some (.loc (J.length + 1)), c7, c8, c9] (.lst ds :: (J ++ [bx p])) = some (.nx, [c0, some (.loc 0), c2, some (.val (encW w)), some (.val (tup row)), t5, some (.loc (J.length + 1)), some (.val (.int 2)), c8, c9], .lst (ds ++ [d1, d2, d3]) :: (J ++ [bx p'])) := by
  obtain ⟨d1, eye1, p1, g1, e1⟩ := two_1 w row R p 0 c0 c2 c5 c8 c9 ds (by omega) J
  obtain ⟨d2, eye2, p2, g2, e2⟩ := two_1 w row R p1 1 c0 c2 (some (.val (tup eye1))) c8 c9 (ds ++ [d1]) (by simp; omega) J
  obtain ⟨d3, eye3, p3, g3, e3⟩ := two_1 w row R p2 2 c0 c2 (some (.val (tup eye2))) c8 c9 (ds ++ [d1] ++ [d2]) (by simp; omega) J
  refine ⟨d1, d2, d3, some (.val (tup eye3)), p3, ⟨_, _, _, g1⟩, ⟨_, _, _, g2⟩, ⟨_, _, _, g3⟩, ?_⟩
  generalize encW w = W at *
  generalize tup row = A at *
  generalize tup eye1 = B1 at *
  generalize tup eye2 = B2 at *
  generalize tup eye3 = B3 at *
  generalize B__law_part_two_1 = BB at *
  rw [show ds ++ [d1, d2, d3] = ds ++ [d1] ++ [d2] ++ [d3] by simp]
  generalize ds ++ [d1] = x1 at *
  generalize x1 ++ [d2] = x2 at *
  generalize x2 ++ [d3] = x3 at *
  generalize J.length + 1 = jl at *
  generalize J ++ [bx p] = y0 at *
  generalize J ++ [bx p1] = y1 at *
  generalize J ++ [bx p2] = y2 at *
  generalize J ++ [bx p3] = y3 at *
  have e1' : BB [c0, some (.loc 0), c2, some (.val W), some (.val A), c5, some (.loc jl), some (.val (.int 0)), c8, c9] (.lst ds :: y0) = _ := e1
  have e2' : BB [c0, some (.loc 0), c2, some (.val W), some (.val A), some (.val B1), some (.loc jl), some (.val (.int 1)), c8, c9] (.lst x1 :: y1) = _ := e2
  have e3' : BB [c0, some (.loc 0), c2, some (.val W), some (.val A), some (.val B2), some (.loc jl), some (.val (.int 2)), c8, c9] (.lst x2 :: y2) = _ := e3
  simp -implicitDefEqProofs -dsimp [e1', e2', e3']
end K13
set_option maxRecDepth 100000
set_option maxHeartbeats 4000000
namespace K13
open PySem PySem.Spec PyProof.Rows L2 ML
/-- the places that are asked -/
noncomputable def placesM : M (List D × List Gd) := iSeq (oV (mL (nLst (aCons (oV (mD (.int 0))) (aCons (oV (mSub (oV (mLen (oS 4))) (oV (mD (.int 1))))) (aCons (oV (mCallV [true, false] m__law_take (aCons (oS 6) (aCons (oV (mD (.int 60))) aNil)))) (aCons (oV (mCallV [true, false] m__law_take (aCons (oS 6) (aCons (oV (mD (.int 60))) aNil)))) (aCons (oV (mSub (oV (mLen (oS 4))) (oV (mD (.int 2))))) (aCons (oV (mDiv (oV (mLen (oS 4))) (oV (mD (.int 2))))) aNil))))))))) 
theorem places_eq (row : List Nat) (p : Bx) (c0 c1 c2 c3 c5 c7 c8 c9 : Option E) (a : O) (J : ML.Sto) : ∃ (is : List Int) (p' : Bx),
    placesM [c0, c1, c2, c3, some (.val (tup row)), c5, some (.loc (J.length + 1)), c7, c8, c9] (a :: (J ++ [bx p])) = some ((is.map PyData.int, []), a :: (J ++ [bx p'])) := by
  have t1 := take_lit p 60 (by decide)
  have t2 := take_lit (tkB p 60) 60 (by decide)
  have t1' : m__law_take [.loc 0, .val (.int 60)] [bx p] = some (.int (tkN p 60), [bx (tkB p 60)]) := t1
  have t2' : m__law_take [.loc 0, .val (.int 60)] [bx (tkB p 60)] = some (.int (tkN (tkB p 60) 60), [bx (tkB (tkB p 60) 60)]) := t2
  refine ⟨[0, (row.length : Int) - 1, tkN p 60, tkN (tkB p 60) 60, (row.length : Int) - 2, (row.length : Int) / 2], tkB (tkB p 60) 60, ?_⟩
  simp -implicitDefEqProofs -dsimp [placesM, tup_def, t1', t2', set_last]
theorem place_turn (w : Web) (row : List Nat) (R : Row w row) (i : Int) (c0 c1 c2 c5 c6 c7 c9 : Option E) (st : ML.Sto) :
    B__law_part_two_2 [c0, c1, c2, some (.val (encW w)), some (.val (tup row)), c5, c6, c7, some (.val (.int i)), c9] st = some (.nx, [c0, c1, c2, some (.val (encW w)), some (.val (tup row)), c5, c6, c7, some (.val (.int i)), c9], st) := by
  have few := R.few
  rw [e_B__law_part_two_2]
  by_cases h0 : 0 ≤ i
  · by_cases h1 : i < (row.length : Int)
    · obtain ⟨n, rfl⟩ : ∃ n : Nat, i = n := ⟨i.toNat, by omega⟩
      have hn : n < row.length := by omega
      have ap := asked_past w R.ok row R.lt (by omega) n hn
      have ln : mLen (oS 4) [c0, c1, c2, some (.val (encW w)), some (.val (tup row)), c5, c6, c7, some (.val (.int n)), c9] st = some (.int row.length, st) := by
        simp -implicitDefEqProofs -dsimp [tup_def]
      generalize encW w = W at *
      generalize tup row = A at *
      simp -implicitDefEqProofs -dsimp [h0, h1, ln, hn, ap, -e_mLen]
    · have ln : mLen (oS 4) [c0, c1, c2, some (.val (encW w)), some (.val (tup row)), c5, c6, c7, some (.val (.int i)), c9] st = some (.int row.length, st) := by
        simp -implicitDefEqProofs -dsimp [tup_def]
      generalize encW w = W at *
      generalize tup row = A at *
      simp -implicitDefEqProofs -dsimp [h0, h1, ln, -e_mLen]
  · generalize encW w = W at *
    generalize tup row = A at *
    simp -implicitDefEqProofs -dsimp [h0]
theorem place_loop (w : Web) (row : List Nat) (R : Row w row) (is : List Int) (c0 c1 c2 c5 c6 c7 c9 : Option E) (st : ML.Sto) : ∀ c8 : Option E, ∃ t8 : Option E,
    mLoop [] (bName 8) B__law_part_two_2 (is.map PyData.int) [c0, c1, c2, some (.val (encW w)), some (.val (tup row)), c5, c6, c7, c8, c9] st = some (.nx, [c0, c1, c2, some (.val (encW w)), some (.val (tup row)), c5, c6, c7, t8, c9], st) := by
  induction is with
  | nil => intro c8; exact ⟨c8, by rw [List.map_nil, loop_nil0]⟩
  | cons i is IH =>
    intro c8
    obtain ⟨t8, e⟩ := IH (some (.val (.int i)))
    have e1 := place_turn w row R i c0 c1 c2 c5 c6 c7 c9 st
    refine ⟨t8, ?_⟩
    rw [List.map_cons, loop_cons0]
    simp -implicitDefEqProofs -dsimp only [e_bName, List.set_cons_succ, List.set_cons_zero, Option.bind_some, bd_some, mp_some, e1, e]
theorem box_own6 (ns : List Int) (hz : ns.length < 1000) (k : Nat) (c1 c3 c4 c5 c6 c7 c8 c9 : Option E) (a : O) (J : ML.Sto) : ∃ p : Bx,
    mOwn 6 (mCallN [false, false] n__law_box (aCons (oS 0) (aCons (oS 2) aNil))) [some (.val (.list (ns.map .int))), c1, some (.val (.int k)), c3, c4, c5, c6, c7, c8, c9] (a :: J) = some (.nx, [some (.val (.list (ns.map .int))), c1, some (.val (.int k)), c3, c4, c5, some (.loc (J.length + 1)), c7, c8, c9], a :: (J ++ [bx p])) := by
  obtain ⟨p, e⟩ := box_own ns hz k c1 c3 c4 c5 c6 c7 c8 c9 a J
  exact ⟨p, own_nx e⟩
theorem two_round (ns : List Int) (hn : ns.length < 1000) (k : Nat) (c3 c4 c5 c6 c7 c8 c9 : Option E) (ds : List D) (hz : ds.length < 500) (J : ML.Sto) (hA : ∀ d ∈ ds, Asked2 d) : ∃ (ds' : List D) (J' : ML.Sto) (t3 t4 t5 t6 t7 t8 t9 : Option E), ds'.length = ds.length + 3 ∧ (∀ d ∈ ds', Asked2 d) ∧
    B__law_part_two_3 [some (.val (.list (ns.map .int))), some (.loc 0), some (.val (.int k)), c3, c4, c5, c6, c7, c8, c9] (.lst ds :: J) = some (.nx, [some (.val (.list (ns.map .int))), some (.loc 0), some (.val (.int k)), t3, t4, t5, t6, t7, t8, t9], .lst ds' :: J') := by
  obtain ⟨p0, e0⟩ := box_own6 ns hn k (some (.loc 0)) c3 c4 c5 c6 c7 c8 c9 (.lst ds) J
  obtain ⟨w, p1, ok, e1⟩ := anyweb_at6 p0 k (some (.val (.list (ns.map .int)))) (some (.loc 0)) c3 c4 c5 c7 c8 c9 (.lst ds) J
  obtain ⟨row, p2, R, e2⟩ := row_at6 p1 w ok k (some (.val (.list (ns.map .int)))) (some (.loc 0)) c4 c5 c7 c8 c9 (.lst ds) J
  obtain ⟨d1, d2, d3, t5, p3, a1, a2, a3, e3⟩ := two_three w row R p2 (some (.val (.list (ns.map .int)))) (some (.val (.int k))) c5 c7 c8 c9 ds hz J
  obtain ⟨is, p4, e4⟩ := places_eq row p3 (some (.val (.list (ns.map .int)))) (some (.loc 0)) (some (.val (.int k))) (some (.val (encW w))) t5 (some (.val (.int 2))) c8 c9 (.lst (ds ++ [d1, d2, d3])) J
  obtain ⟨t8, e5⟩ := place_loop w row R is (some (.val (.list (ns.map .int)))) (some (.loc 0)) (some (.val (.int k))) t5 (some (.loc (J.length + 1))) (some (.val (.int 2))) c9 (.lst (ds ++ [d1, d2, d3]) :: (J ++ [bx p4])) c8
  refine ⟨ds ++ [d1, d2, d3], J ++ [bx p4], some (.val (encW w)), some (.val (tup row)), t5, some (.loc (J.length + 1)), some (.val (.int 2)), t8, c9, by simp, ?_, ?_⟩
  · intro d hd
    rcases List.mem_append.mp hd with h | h
    · exact hA d h
    · simp only [List.mem_cons, List.not_mem_nil, or_false] at h
      rcases h with rfl | rfl | rfl
      · exact a1
      · exact a2
      · exact a3
  · rw [e_B__law_part_two_3]
    refine (seq_nx e0).trans ?_
    refine (seq_nx (set_nx e1)).trans ?_
    refine (seq_nx (set_nx e2)).trans ?_
    refine (seq_nx (for_nx iota3 e3)).trans ?_
    exact for_nx e4 e5
end K13
set_option maxRecDepth 100000
set_option maxHeartbeats 4000000
namespace K13
open PySem PySem.Spec PyProof.Rows L2 ML
theorem rounds_two (ns : List Int) (hn : ns.length < 1000) (ks : List Nat) : ∀ (c2 c3 c4 c5 c6 c7 c8 c9 : Option E) (ds : List D) (J : ML.Sto), ds.length + 3 * ks.length < 400 → (∀ d ∈ ds, Asked2 d) → ∃ (ds' : List D) (J' : ML.Sto) (t2 t3 t4 t5 t6 t7 t8 t9 : Option E), (∀ d ∈ ds', Asked2 d) ∧
    mLoop [] (bName 2) B__law_part_two_3 (nn ks) [some (.val (.list (ns.map .int))), some (.loc 0), c2, c3, c4, c5, c6, c7, c8, c9] (.lst ds :: J) = some (.nx, [some (.val (.list (ns.map .int))), some (.loc 0), t2, t3, t4, t5, t6, t7, t8, t9], .lst ds' :: J') := by
  induction ks with
  | nil =>
    intro c2 c3 c4 c5 c6 c7 c8 c9 ds J hz hA
    exact ⟨ds, J, c2, c3, c4, c5, c6, c7, c8, c9, hA, by rw [nn_nil, loop_nil0]⟩
  | cons k ks IH =>
    intro c2 c3 c4 c5 c6 c7 c8 c9 ds J hz hA
    rw [List.length_cons] at hz
    obtain ⟨ds1, J1, t3, t4, t5, t6, t7, t8, t9, hl, hA1, e1⟩ := two_round ns hn k c3 c4 c5 c6 c7 c8 c9 ds (by omega) J hA
    obtain ⟨ds2, J2, u2, u3, u4, u5, u6, u7, u8, u9, hA2, e2⟩ := IH (some (.val (.int k))) t3 t4 t5 t6 t7 t8 t9 ds1 J1 (by omega) hA1
    refine ⟨ds2, J2, u2, u3, u4, u5, u6, u7, u8, u9, hA2, ?_⟩
    rw [nn_cons, loop_cons0]
    simp -implicitDefEqProofs -dsimp only [e_bName, List.set_cons_succ, List.set_cons_zero, Option.bind_some, bd_some, mp_some, e1, e2]
theorem last_turn (w : Web) (row eye : List Nat) (R : Row w row) (c0 c1 c2 c6 c7 c8 c9 : Option E) (st : ML.Sto) : ∃ t9 : Option E,
    B__law_part_two_4 [c0, c1, c2, some (.val (encW w)), some (.val (tup row)), some (.val (tup eye)), c6, c7, c8, c9] st = some (.nx, [c0, c1, c2, some (.val (encW w)), some (.val (tup row)), some (.val (tup eye)), c6, c7, c8, t9], st) := by
  have few := R.few
  have e5 := marks_eq w R.ok eye row R.lt (by omega)
  have e6 := part_eq row (marks w eye row) false (by omega)
  obtain ⟨rr, lr, e2⟩ := rest_eq w R.ok eye row R.lt (by omega)
  have e4 := law_rest_eq w R.ok eye row R.lt (by omega) lr
  have s := same6 rr
  refine ⟨some (.val (tup rr)), ?_⟩
  rw [e_B__law_part_two_4]
  by_cases h0 : 0 < row.length
  · have hp : row.length / 3 < row.length := by omega
    obtain ⟨q, lq, f1⟩ := past_eq w R.ok row R.lt (by omega) (row.length / 3) hp
    have f2 := lpast_eq w R.ok row R.lt (by omega) (row.length / 3) hp lq
    have s2 := same6 q
    have hd : ((row.length / 3 : Nat) : Int) = (row.length : Int) / 3 := by omega
    rw [hd] at f1 f2
    have ln : ∀ t9 st, mLen (oS 4) [c0, c1, c2, some (.val (encW w)), some (.val (tup row)), some (.val (tup eye)), c6, c7, c8, t9] st = some (.int row.length, st) := fun t9 st => by
      simp -implicitDefEqProofs -dsimp [tup_def]
    generalize part row (marks w eye row) false = pf at e4 e6
    generalize bb (marks w eye row) = bm at e5 e6
    generalize encW w = W at *
    generalize tup row = A at *
    generalize tup eye = B at *
    generalize tup rr = C at *
    generalize tup q = Q at *
    generalize tup pf = F at *
    simp -implicitDefEqProofs -dsimp [e5, e6, e4, e2, s, ln, h0, f1, f2, s2, -e_mLen]
  · have ln : ∀ t9 st, mLen (oS 4) [c0, c1, c2, some (.val (encW w)), some (.val (tup row)), some (.val (tup eye)), c6, c7, c8, t9] st = some (.int row.length, st) := fun t9 st => by
      simp -implicitDefEqProofs -dsimp [tup_def]
    generalize part row (marks w eye row) false = pf at e4 e6
    generalize bb (marks w eye row) = bm at e5 e6
    generalize encW w = W at *
    generalize tup row = A at *
    generalize tup eye = B at *
    generalize tup rr = C at *
    generalize tup pf = F at *
    simp -implicitDefEqProofs -dsimp [e5, e6, e4, e2, s, ln, h0, -e_mLen]
theorem again_two (c0 c2 c6 c7 c8 : Option E) (ds0 : List D) (J : ML.Sto) (as : List D) : (∀ d ∈ as, Asked2 d) → ∀ (c3 c4 c5 c9 : Option E), ∃ env' : ML.Env, mLoop [(0, Option.none, ds0)] (bTup [bName 3, bName 4, bName 5]) B__law_part_two_4 as [c0, some (.loc 0), c2, c3, c4, c5, c6, c7, c8, c9] (.lst ds0 :: J) = some (.nx, env', .lst ds0 :: J) := by
  have hg : gOk [(0, Option.none, ds0)] (.lst ds0 :: J) := by rw [e_gOk_one]; exact ⟨rfl, trivial⟩
  induction as with
  | nil => intro _ c3 c4 c5 c9; exact ⟨_, loop_nil _ _ _ _ _ hg⟩
  | cons d as IH =>
    intro hA c3 c4 c5 c9
    obtain ⟨w, row, eye, g⟩ := hA d (by simp)
    obtain ⟨t9, e3⟩ := last_turn w row eye g.r c0 (some (.loc 0)) c2 c6 c7 c8 c9 (.lst ds0 :: J)
    obtain ⟨env', e⟩ := IH (fun x hx => hA x (by simp [hx])) (some (.val (encW w))) (some (.val (tup row))) (some (.val (tup eye))) t9
    refine ⟨env', ?_⟩
    rw [loop_cons _ _ _ _ _ _ _ hg]
    have hd := g.e
    clear g
    generalize encW w = W at *
    generalize tup row = A at *
    generalize tup eye = B at *
    subst hd
    simp -implicitDefEqProofs -dsimp only [e_bTup, e_bAll_cons, e_bAll_nil, e_bName, List.set_cons_succ, List.set_cons_zero, Option.bind_some, bd_some, mp_some, e3, e]
theorem part_two (ns : List Int) (hn : ns.length < 1000) : m__law_part_two [.val (.list (ns.map .int))] [] = some (.bool true, []) := by
  obtain ⟨ds, J, t2, t3, t4, t5, t6, t7, t8, t9, hA, e⟩ := rounds_two ns hn [0, 1, 2, 3] none none none none none none none none [] [] (by decide) (by simp)
  obtain ⟨env', e2⟩ := again_two (some (.val (.list (ns.map .int)))) t2 t6 t7 t8 ds J ds.reverse (fun d hd => hA d (by simpa using hd)) t3 t4 t5 t9
  unfold m__law_part_two
  rw [e_mFn]
  have e0 : startE 10 [.val (.list (ns.map .int))] = [some (.val (.list (ns.map PyData.int))), none, none, none, none, none, none, none, none, none] := rfl
  rw [e0]
  have own : mOwn 1 (nLst aNil) [some (.val (.list (ns.map PyData.int))), none, none, none, none, none, none, none, none, none] [] = some (.nx, [some (.val (.list (ns.map PyData.int))), some (.loc 0), none, none, none, none, none, none, none, none], [.lst []]) := by
    simp -implicitDefEqProofs -dsimp []
  rw [seq_nx own, seq_nx (for_nx iota4 e)]
  have ir : iRev (oS 1) [some (.val (.list (ns.map PyData.int))), some (.loc 0), t2, t3, t4, t5, t6, t7, t8, t9] (.lst ds :: J) = some ((ds.reverse, [(0, Option.none, ds)]), .lst ds :: J) := by
    simp -implicitDefEqProofs -dsimp []
  rw [seq_nx (for_nx ir e2)]
  simp -implicitDefEqProofs -dsimp []
theorem pickAt_map {α β : Type} (f : α → β) (l : List α) : ∀ is : List Nat, pickAt (l.map f) is = (pickAt l is).map f
  | [] => rfl
  | i :: is => by
    unfold pickAt
    rw [List.getElem?_map, pickAt_map f l is]
    cases l[i]? <;> rfl
theorem steps_few : ∀ n : Fin 64, (stepIx n 0 2).length < 900 ∧ (stepIx n 1 2).length < 900 := by decide +kernel
theorem main (ns : List Int) (hl : ns.length ≤ 63) : m_law [.bor (.list (ns.map .int))] [] = some (.bool true, []) := by
  obtain ⟨s0, s1⟩ := steps_few ⟨ns.length, by omega⟩
  have l0 := pickAt_len ns (stepIx ns.length 0 2)
  have l1 := pickAt_len ns (stepIx ns.length 1 2)
  have p1 := part_one (pickAt ns (stepIx ns.length 0 2)) (by dsimp only at s0; omega)
  have p2 := part_two (pickAt ns (stepIx ns.length 1 2)) (by dsimp only at s1; omega)
  have h0 : (pickAt ns (stepIx ns.length 0 2)).length < 1000000 := by dsimp only at s0; omega
  have h1 : (pickAt ns (stepIx ns.length 1 2)).length < 1000000 := by dsimp only at s1; omega
  simp -implicitDefEqProofs -dsimp [m_law, pickAt_map, h0, h1, p1, p2]
end K13
set_option maxRecDepth 100000
set_option maxHeartbeats 4000000
namespace K13
open PySem PySem.Spec PyProof.Rows L2 ML
/-! ### the text -/
def topS (i : Nat) : Stmt := PySem.Challenge.pw_liarsandall_k13_whole_what_an_eye_has_se.main.body.getD i (.Pass ⟨0, 0, 0, 0⟩)
abbrev s_shut_hands : Stmt := topS 1
theorem sc_shut_hands : FnScope ["web", "shut", "letter", "found", "hand"] ["web", "shut", "letter"] (defScope s_shut_hands) := ⟨rfl, rfl, rfl, by decide +kernel, rfl, by decide +kernel, by decide +kernel⟩
abbrev s_seen_events : Stmt := topS 5
theorem sc_seen_events : FnScope ["web", "row", "eye", "hands", "marks", "letter", "is_seen", "hand"] ["web", "row", "eye"] (defScope s_seen_events) := ⟨rfl, rfl, rfl, by decide +kernel, rfl, by decide +kernel, by decide +kernel⟩
abbrev s__law_box : Stmt := topS 10
theorem sc__law_box : FnScope ["script", "k", "cell", "great"] ["script", "k"] (defScope s__law_box) := ⟨rfl, rfl, rfl, by decide +kernel, rfl, by decide +kernel, by decide +kernel⟩
abbrev s__law_take : Stmt := topS 11
theorem sc__law_take : FnScope ["box", "many", "raw", "digit"] ["box", "many"] (defScope s__law_take) := ⟨rfl, rfl, rfl, by decide +kernel, rfl, by decide +kernel, by decide +kernel⟩
abbrev s__law_same : Stmt := topS 13
theorem sc__law_same : FnScope ["told", "due", "one", "other"] ["told", "due"] (defScope s__law_same) := ⟨rfl, rfl, rfl, by decide +kernel, rfl, by decide +kernel, by decide +kernel⟩
abbrev s__law_marks : Stmt := topS 21
theorem sc__law_marks : FnScope ["web", "row", "eye", "heard", "marks", "letter", "is_in", "hand"] ["web", "row", "eye"] (defScope s__law_marks) := ⟨rfl, rfl, rfl, by decide +kernel, rfl, by decide +kernel, by decide +kernel⟩
abbrev s__law_lanes : Stmt := topS 22
theorem sc__law_lanes : FnScope ["web", "row", "lanes", "letter", "hand"] ["web", "row"] (defScope s__law_lanes) := ⟨rfl, rfl, rfl, by decide +kernel, rfl, by decide +kernel, by decide +kernel⟩
abbrev s__law_first : Stmt := topS 23
theorem sc__law_first : FnScope ["web", "lanes", "spots", "letter", "is_late", "hand"] ["web", "lanes", "spots"] (defScope s__law_first) := ⟨rfl, rfl, rfl, by decide +kernel, rfl, by decide +kernel, by decide +kernel⟩
abbrev s__law_part : Stmt := topS 25
theorem sc__law_part : FnScope ["row", "marks", "is_in", "letter", "mark"] ["row", "marks", "is_in"] (defScope s__law_part) := ⟨rfl, rfl, rfl, by decide +kernel, rfl, by decide +kernel, by decide +kernel⟩
abbrev s_first_place : Stmt := topS 2
theorem sc_first_place : FnScope ["web", "left", "best", "shut", "place", "letter", "is_late"] ["web", "left"] (defScope s_first_place) := ⟨rfl, rfl, rfl, by decide +kernel, rfl, by decide +kernel, by decide +kernel⟩
abbrev s__law_pick : Stmt := topS 12
theorem sc__law_pick : FnScope ["box", "some"] ["box", "some"] (defScope s__law_pick) := ⟨rfl, rfl, rfl, by decide +kernel, rfl, by decide +kernel, by decide +kernel⟩
abbrev s__law_mixed : Stmt := topS 14
theorem sc__law_mixed : FnScope ["box", "some", "left", "found", "turn"] ["box", "some"] (defScope s__law_mixed) := ⟨rfl, rfl, rfl, by decide +kernel, rfl, by decide +kernel, by decide +kernel⟩
abbrev s__law_least : Stmt := topS 24
theorem sc__law_least : FnScope ["web", "row", "lanes", "spots", "found", "turn", "letter", "hand"] ["web", "row"] (defScope s__law_least) := ⟨rfl, rfl, rfl, by decide +kernel, rfl, by decide +kernel, by decide +kernel⟩
abbrev s_least_form : Stmt := topS 3
theorem sc_least_form : FnScope ["web", "row", "left", "found", "turn"] ["web", "row"] (defScope s_least_form) := ⟨rfl, rfl, rfl, by decide +kernel, rfl, by decide +kernel, by decide +kernel⟩
abbrev s__law_web : Stmt := topS 15
theorem sc__law_web : FnScope ["box", "hands", "letters", "menu", "lots", "turn", "some"] ["box", "hands", "letters"] (defScope s__law_web) := ⟨rfl, rfl, rfl, by decide +kernel, rfl, by decide +kernel, by decide +kernel⟩
abbrev s__law_lane_web : Stmt := topS 16
theorem sc__law_lane_web : FnScope ["box", "some"] ["box"] (defScope s__law_lane_web) := ⟨rfl, rfl, rfl, by decide +kernel, rfl, by decide +kernel, by decide +kernel⟩
abbrev s__law_bag : Stmt := topS 18
theorem sc__law_bag : FnScope ["box", "web", "bag", "letter"] ["box", "web"] (defScope s__law_bag) := ⟨rfl, rfl, rfl, by decide +kernel, rfl, by decide +kernel, by decide +kernel⟩
abbrev s__law_eye : Stmt := topS 20
theorem sc__law_eye : FnScope ["box", "web", "letters", "kind", "hands", "counts", "found", "lot", "letter", "hand"] ["box", "web"] (defScope s__law_eye) := ⟨rfl, rfl, rfl, by decide +kernel, rfl, by decide +kernel, by decide +kernel⟩
abbrev s__law_view : Stmt := topS 26
theorem sc__law_view : FnScope ["web", "row", "eye"] ["web", "row", "eye"] (defScope s__law_view) := ⟨rfl, rfl, rfl, by decide +kernel, rfl, by decide +kernel, by decide +kernel⟩
abbrev s__law_past : Stmt := topS 28
theorem sc__law_past : FnScope ["web", "row", "place", "heard", "found", "k", "letter", "hand"] ["web", "row", "place"] (defScope s__law_past) := ⟨rfl, rfl, rfl, by decide +kernel, rfl, by decide +kernel, by decide +kernel⟩
abbrev s_view_of : Stmt := topS 6
theorem sc_view_of : FnScope ["web", "row", "eye", "marks", "letter", "is_seen"] ["web", "row", "eye"] (defScope s_view_of) := ⟨rfl, rfl, rfl, by decide +kernel, rfl, by decide +kernel, by decide +kernel⟩
abbrev s_rest_of : Stmt := topS 7
theorem sc_rest_of : FnScope ["web", "row", "eye", "marks", "letter", "is_seen"] ["web", "row", "eye"] (defScope s_rest_of) := ⟨rfl, rfl, rfl, by decide +kernel, rfl, by decide +kernel, by decide +kernel⟩
abbrev s_past_of : Stmt := topS 8
theorem sc_past_of : FnScope ["web", "row", "place", "hands", "found", "letter", "hand"] ["web", "row", "place"] (defScope s_past_of) := ⟨rfl, rfl, rfl, by decide +kernel, rfl, by decide +kernel, by decide +kernel⟩
abbrev s__law_any_web : Stmt := topS 17
theorem sc__law_any_web : FnScope ["box", "k"] ["box", "k"] (defScope s__law_any_web) := ⟨rfl, rfl, rfl, by decide +kernel, rfl, by decide +kernel, by decide +kernel⟩
abbrev s__law_row : Stmt := topS 19
theorem sc__law_row : FnScope ["box", "web", "many", "bag", "turn"] ["box", "web", "many"] (defScope s__law_row) := ⟨rfl, rfl, rfl, by decide +kernel, rfl, by decide +kernel, by decide +kernel⟩
abbrev s__law_part_one : Stmt := topS 27
theorem sc__law_part_one : FnScope ["script", "asked", "k", "web", "row", "eye", "due", "box", "turn", "twin"] ["script"] (defScope s__law_part_one) := ⟨rfl, rfl, rfl, by decide +kernel, rfl, by decide +kernel, by decide +kernel⟩
abbrev s__law_asked_rest : Stmt := topS 29
theorem sc__law_asked_rest : FnScope ["web", "row", "eye", "due", "view", "rest", "free", "letter"] ["web", "row", "eye"] (defScope s__law_asked_rest) := ⟨rfl, rfl, rfl, by decide +kernel, rfl, by decide +kernel, by decide +kernel⟩
abbrev s__law_asked_past : Stmt := topS 30
theorem sc__law_asked_past : FnScope ["web", "row", "place", "due", "told"] ["web", "row", "place"] (defScope s__law_asked_past) := ⟨rfl, rfl, rfl, by decide +kernel, rfl, by decide +kernel, by decide +kernel⟩
abbrev s__law_part_two : Stmt := topS 31
theorem sc__law_part_two : FnScope ["script", "asked", "k", "web", "row", "eye", "box", "turn", "place", "due"] ["script"] (defScope s__law_part_two) := ⟨rfl, rfl, rfl, by decide +kernel, rfl, by decide +kernel, by decide +kernel⟩
abbrev s_law : Stmt := topS 32
theorem sc_law : FnScope ["script"] ["script"] (defScope s_law) := ⟨rfl, rfl, rfl, by decide +kernel, rfl, by decide +kernel, by decide +kernel⟩
/-! ### what the top has written -/
structure Top (K : PySem.W.Frag) (mg : Str → Option Value) where
  f_shut_hands : Addr
  d_shut_hands : FuncData
  F_shut_hands : Fun K "shut_hands" "shut_hands" s_shut_hands f_shut_hands d_shut_hands
  b_shut_hands : Binds K d_shut_hands ["web", "shut", "letter"] []
  g_shut_hands : mg "shut_hands" = some (.ref f_shut_hands)
  f_seen_events : Addr
  d_seen_events : FuncData
  F_seen_events : Fun K "seen_events" "seen_events" s_seen_events f_seen_events d_seen_events
  b_seen_events : Binds K d_seen_events ["web", "row", "eye"] []
  g_seen_events : mg "seen_events" = some (.ref f_seen_events)
  f__law_box : Addr
  d__law_box : FuncData
  F__law_box : Fun K "_law_box" "_law_box" s__law_box f__law_box d__law_box
  b__law_box : Binds K d__law_box ["script", "k"] []
  g__law_box : mg "_law_box" = some (.ref f__law_box)
  f__law_take : Addr
  d__law_take : FuncData
  F__law_take : Fun K "_law_take" "_law_take" s__law_take f__law_take d__law_take
  b__law_take : Binds K d__law_take ["box", "many"] []
  g__law_take : mg "_law_take" = some (.ref f__law_take)
  f__law_same : Addr
  d__law_same : FuncData
  F__law_same : Fun K "_law_same" "_law_same" s__law_same f__law_same d__law_same
  b__law_same : Binds K d__law_same ["told", "due"] []
  g__law_same : mg "_law_same" = some (.ref f__law_same)
  f__law_marks : Addr
  d__law_marks : FuncData
  F__law_marks : Fun K "_law_marks" "_law_marks" s__law_marks f__law_marks d__law_marks
  b__law_marks : Binds K d__law_marks ["web", "row", "eye"] []
  g__law_marks : mg "_law_marks" = some (.ref f__law_marks)
  f__law_lanes : Addr
  d__law_lanes : FuncData
  F__law_lanes : Fun K "_law_lanes" "_law_lanes" s__law_lanes f__law_lanes d__law_lanes
  b__law_lanes : Binds K d__law_lanes ["web", "row"] []
  g__law_lanes : mg "_law_lanes" = some (.ref f__law_lanes)
  f__law_first : Addr
  d__law_first : FuncData
  F__law_first : Fun K "_law_first" "_law_first" s__law_first f__law_first d__law_first
  b__law_first : Binds K d__law_first ["web", "lanes", "spots"] []
  g__law_first : mg "_law_first" = some (.ref f__law_first)
  f__law_part : Addr
  d__law_part : FuncData
  F__law_part : Fun K "_law_part" "_law_part" s__law_part f__law_part d__law_part
  b__law_part : Binds K d__law_part ["row", "marks", "is_in"] []
  g__law_part : mg "_law_part" = some (.ref f__law_part)
  f_first_place : Addr
  d_first_place : FuncData
  F_first_place : Fun K "first_place" "first_place" s_first_place f_first_place d_first_place
  b_first_place : Binds K d_first_place ["web", "left"] []
  g_first_place : mg "first_place" = some (.ref f_first_place)
  f__law_pick : Addr
  d__law_pick : FuncData
  F__law_pick : Fun K "_law_pick" "_law_pick" s__law_pick f__law_pick d__law_pick
  b__law_pick : Binds K d__law_pick ["box", "some"] []
  g__law_pick : mg "_law_pick" = some (.ref f__law_pick)
  f__law_mixed : Addr
  d__law_mixed : FuncData
  F__law_mixed : Fun K "_law_mixed" "_law_mixed" s__law_mixed f__law_mixed d__law_mixed
  b__law_mixed : Binds K d__law_mixed ["box", "some"] []
  g__law_mixed : mg "_law_mixed" = some (.ref f__law_mixed)
  f__law_least : Addr
  d__law_least : FuncData
  F__law_least : Fun K "_law_least" "_law_least" s__law_least f__law_least d__law_least
  b__law_least : Binds K d__law_least ["web", "row"] []
  g__law_least : mg "_law_least" = some (.ref f__law_least)
  f_least_form : Addr
  d_least_form : FuncData
  F_least_form : Fun K "least_form" "least_form" s_least_form f_least_form d_least_form
  b_least_form : Binds K d_least_form ["web", "row"] []
  g_least_form : mg "least_form" = some (.ref f_least_form)
  f__law_web : Addr
  d__law_web : FuncData
  F__law_web : Fun K "_law_web" "_law_web" s__law_web f__law_web d__law_web
  b__law_web : Binds K d__law_web ["box", "hands", "letters"] []
  g__law_web : mg "_law_web" = some (.ref f__law_web)
  f__law_lane_web : Addr
  d__law_lane_web : FuncData
  F__law_lane_web : Fun K "_law_lane_web" "_law_lane_web" s__law_lane_web f__law_lane_web d__law_lane_web
  b__law_lane_web : Binds K d__law_lane_web ["box"] []
  g__law_lane_web : mg "_law_lane_web" = some (.ref f__law_lane_web)
  f__law_bag : Addr
  d__law_bag : FuncData
  F__law_bag : Fun K "_law_bag" "_law_bag" s__law_bag f__law_bag d__law_bag
  b__law_bag : Binds K d__law_bag ["box", "web"] []
  g__law_bag : mg "_law_bag" = some (.ref f__law_bag)
  f__law_eye : Addr
  d__law_eye : FuncData
  F__law_eye : Fun K "_law_eye" "_law_eye" s__law_eye f__law_eye d__law_eye
  b__law_eye : Binds K d__law_eye ["box", "web"] []
  g__law_eye : mg "_law_eye" = some (.ref f__law_eye)
  f__law_view : Addr
  d__law_view : FuncData
  F__law_view : Fun K "_law_view" "_law_view" s__law_view f__law_view d__law_view
  b__law_view : Binds K d__law_view ["web", "row", "eye"] []
  g__law_view : mg "_law_view" = some (.ref f__law_view)
  f__law_past : Addr
  d__law_past : FuncData
  F__law_past : Fun K "_law_past" "_law_past" s__law_past f__law_past d__law_past
  b__law_past : Binds K d__law_past ["web", "row", "place"] []
  g__law_past : mg "_law_past" = some (.ref f__law_past)
  f_view_of : Addr
  d_view_of : FuncData
  F_view_of : Fun K "view_of" "view_of" s_view_of f_view_of d_view_of
  b_view_of : Binds K d_view_of ["web", "row", "eye"] []
  g_view_of : mg "view_of" = some (.ref f_view_of)
  k_view_of : KBinds K d_view_of ["web", "row", "eye"] ["web", "row", "eye"] gK gK
  f_rest_of : Addr
  d_rest_of : FuncData
  F_rest_of : Fun K "rest_of" "rest_of" s_rest_of f_rest_of d_rest_of
  b_rest_of : Binds K d_rest_of ["web", "row", "eye"] []
  g_rest_of : mg "rest_of" = some (.ref f_rest_of)
  k_rest_of : KBinds K d_rest_of ["web", "row", "eye"] ["web", "row", "eye"] gK gK
  f_past_of : Addr
  d_past_of : FuncData
  F_past_of : Fun K "past_of" "past_of" s_past_of f_past_of d_past_of
  b_past_of : Binds K d_past_of ["web", "row", "place"] []
  g_past_of : mg "past_of" = some (.ref f_past_of)
  k_past_of : KBinds K d_past_of ["web", "row", "place"] ["web", "row", "place"] gK gK
  f__law_any_web : Addr
  d__law_any_web : FuncData
  F__law_any_web : Fun K "_law_any_web" "_law_any_web" s__law_any_web f__law_any_web d__law_any_web
  b__law_any_web : Binds K d__law_any_web ["box", "k"] []
  g__law_any_web : mg "_law_any_web" = some (.ref f__law_any_web)
  f__law_row : Addr
  d__law_row : FuncData
  F__law_row : Fun K "_law_row" "_law_row" s__law_row f__law_row d__law_row
  b__law_row : Binds K d__law_row ["box", "web", "many"] []
  g__law_row : mg "_law_row" = some (.ref f__law_row)
  f__law_part_one : Addr
  d__law_part_one : FuncData
  F__law_part_one : Fun K "_law_part_one" "_law_part_one" s__law_part_one f__law_part_one d__law_part_one
  b__law_part_one : Binds K d__law_part_one ["script"] []
  g__law_part_one : mg "_law_part_one" = some (.ref f__law_part_one)
  f__law_asked_rest : Addr
  d__law_asked_rest : FuncData
  F__law_asked_rest : Fun K "_law_asked_rest" "_law_asked_rest" s__law_asked_rest f__law_asked_rest d__law_asked_rest
  b__law_asked_rest : Binds K d__law_asked_rest ["web", "row", "eye"] []
  g__law_asked_rest : mg "_law_asked_rest" = some (.ref f__law_asked_rest)
  f__law_asked_past : Addr
  d__law_asked_past : FuncData
  F__law_asked_past : Fun K "_law_asked_past" "_law_asked_past" s__law_asked_past f__law_asked_past d__law_asked_past
  b__law_asked_past : Binds K d__law_asked_past ["web", "row", "place"] []
  g__law_asked_past : mg "_law_asked_past" = some (.ref f__law_asked_past)
  f__law_part_two : Addr
  d__law_part_two : FuncData
  F__law_part_two : Fun K "_law_part_two" "_law_part_two" s__law_part_two f__law_part_two d__law_part_two
  b__law_part_two : Binds K d__law_part_two ["script"] []
  g__law_part_two : mg "_law_part_two" = some (.ref f__law_part_two)
  f_law : Addr
  d_law : FuncData
  F_law : Fun K "law" "law" s_law f_law d_law
  b_law : Binds K d_law ["script"] []
  g_law : mg "law" = some (.ref f_law)
  z_abs : mg "abs" = Option.none
  z_bool : mg "bool" = Option.none
  z_enumerate : mg "enumerate" = Option.none
  z_int : mg "int" = Option.none
  z_isinstance : mg "isinstance" = Option.none
  z_len : mg "len" = Option.none
  z_list : mg "list" = Option.none
  z_min : mg "min" = Option.none
  z_range : mg "range" = Option.none
  z_reversed : mg "reversed" = Option.none
  z_sorted : mg "sorted" = Option.none
  z_str : mg "str" = Option.none
  z_tuple : mg "tuple" = Option.none
  z_zip : mg "zip" = Option.none
section
variable {P : Program} {w : World} {K : PySem.W.Frag} {mg : Str → Option Value} {base : Heap}
theorem hu64 {A : Around} {k : Nat} (hr : Room k A) : A.units + 64 < cLine := hr.units
theorem no_sp {n : Nat} {vs : List V} {H : Hp} {Q : VK} {E : XK} (h : spV K n (fun _ _ => Option.none) vs H Q E) : False := by
  obtain ⟨κ, η, es, st, d, st', h1, h2, h3, h4⟩ := h
  cases h3
theorem fn_none {k n : Nat} {f : Addr} {fd : FuncData} {ps : List Str} : FnOk P w K mg base CX0 k f fd ps (spV K n fun _ _ => Option.none) :=
  ⟨fun vs H Q E h => (no_sp h).elim, fun A outer s H args us vs Q E _ _ _ _ h => (no_sp h).elim⟩
theorem okV_shut_hands (T : Top K mg) : FnOk P w K mg base CX0 1 T.f_shut_hands T.d_shut_hands ["web", "shut", "letter"] (spV K 3 m_shut_hands) :=
  fn_V (k := 0) T.F_shut_hands sc_shut_hands fun cdv A outer s H E hr => by
    have hu := hu64 hr
    exact (ss_cons (ss_set (i := 3) sc_shut_hands.nd (by rfl) (by first | exact .inl rfl | exact .inr rfl) (se_d (d := .bool false) pe_bl (fun _ _ => .bl _)))
  (ss_cons (ss_for PassesOwn.never rfl (si_seq (so_e (se_ix (so_e (se_ix (so_s 0 (pv 0)) (so_e (se_d (d := .int 1) pe_int (fun _ _ => .int _))))) (so_s 2 (pv 2))))) (sg_name (i := 4) sc_shut_hands.nd (by rfl) (by first | exact .inl rfl | exact .inr rfl))
  (ss_cons (ss_if (st_din 1 hu (se_v 4 (pv 4)) (pv 1))
  (ss_one (ss_set (i := 3) sc_shut_hands.nd (by rfl) (by first | exact .inl rfl | exact .inr rfl) (se_d (d := .bool true) pe_bl (fun _ _ => .bl _))))
  ss_nil)
  (ss_one (ss_dput 1 hu (pv 1) (se_v 4 (pv 4)) (se_d (d := .bool true) pe_bl (fun _ _ => .bl _))))))
  (ss_one (ss_ret (se_v 3 (pv 3))))))
theorem okV_seen_events (T : Top K mg) : FnOk P w K mg base CX0 1 T.f_seen_events T.d_seen_events ["web", "row", "eye"] (spV K 3 m_seen_events) :=
  fn_V (k := 0) T.F_seen_events sc_seen_events fun cdv A outer s H E hr => by
    have hu := hu64 hr
    exact (ss_cons (ss_dict (i := 3) sc_seen_events.nd (by rfl) (by first | exact .inl rfl | exact .inr rfl))
  (ss_cons (ss_own (i := 4) sc_seen_events.nd (by rfl) (by first | exact .inl rfl | exact .inr rfl) (sn_lst sa_nil))
  (ss_cons (ss_for PassesOwn.never rfl (si_rev (by rfl) T.z_reversed (so_s 1 (pv 1))) (sg_name (i := 5) sc_seen_events.nd (by rfl) (by first | exact .inl rfl | exact .inr rfl))
  (ss_cons (ss_set (i := 6) sc_seen_events.nd (by rfl) (by first | exact .inl rfl | exact .inr rfl) (se_or (se_in (so_s 5 (pv 5)) (so_s 2 (pv 2))) (se_one (se_gt (so_e (se_len (by rfl) T.z_len (so_e (se_n (sn_comp (own := [("hand", 7)]) rfl sc_seen_events.nd (si_seq (so_e (se_ix (so_e (se_ix (so_s 0 (pv 0)) (so_e (se_d (d := .int 1) pe_int (fun _ _ => .int _))))) (so_s 5 (pv 5))))) (blkOk_by (own := [("hand", 7)]) (by rfl)) (by decide) (fun s H C cl fp => (sg_name (i := 7) sc_seen_events.nd (by rfl) (by first | exact .inl rfl | exact .inr rfl))) (fun s H C cl fp => (sps_one (st_din 3 hu (se_v 7 (pv 7)) (pv 3)))) (fun s H C cl fp => (se_v 7 (pv 7)))))))) (so_e (se_d (d := .int 0) pe_int (fun _ _ => .int _)))))))
  (ss_cons (ss_if (st_val (se_v 6 (pv 6)))
  (ss_one (ss_for PassesOwn.never rfl (si_seq (so_e (se_ix (so_e (se_ix (so_s 0 (pv 0)) (so_e (se_d (d := .int 1) pe_int (fun _ _ => .int _))))) (so_s 5 (pv 5))))) (sg_name (i := 7) sc_seen_events.nd (by rfl) (by first | exact .inl rfl | exact .inr rfl))
  (ss_one (ss_dput 3 hu (pv 3) (se_v 7 (pv 7)) (se_d (d := .bool true) pe_bl (fun _ _ => .bl _))))))
  ss_nil)
  (ss_one (ss_append 4 (pv 4) (se_v 6 (pv 6)))))))
  (ss_one (ss_ret (se_n (sn_rev (so_s 4 (pv 4)))))))))
theorem okV__law_box (T : Top K mg) : FnOk P w K mg base CX0 1 T.f__law_box T.d__law_box ["script", "k"] (spV K 2 m__law_box) :=
  fn_V (k := 0) T.F__law_box sc__law_box fun cdv A outer s H E hr => by
    have hu := hu64 hr
    exact (ss_cons (ss_set (i := 2) sc__law_box.nd (by rfl) (by first | exact .inl rfl | exact .inr rfl) (se_add (so_e (se_mul (so_e (se_d (d := .int 7919) pe_int (fun _ _ => .int _))) (so_s 1 (pv 1)))) (so_e (se_d (d := .int 1931) pe_int (fun _ _ => .int _)))))
  (ss_cons (ss_if (st_lt (so_s 1 (pv 1)) (so_e (se_len (by rfl) T.z_len (so_s 0 (pv 0)))))
  (ss_one (ss_set (i := 2) sc__law_box.nd (by rfl) (by first | exact .inl rfl | exact .inr rfl) (se_abs (by rfl) T.z_abs (so_e (se_int (by rfl) T.z_int (so_e (se_ix (so_s 0 (pv 0)) (so_s 1 (pv 1)))))))))
  (ss_one (ss_if (st_gt (so_e (se_len (by rfl) T.z_len (so_s 0 (pv 0)))) (so_e (se_d (d := .int 0) pe_int (fun _ _ => .int _))))
  (ss_one (ss_set (i := 2) sc__law_box.nd (by rfl) (by first | exact .inl rfl | exact .inr rfl) (se_add (so_s 2 (pv 2)) (so_e (se_mul (so_e (se_mod (so_e (se_int (by rfl) T.z_int (so_e (se_abs (by rfl) T.z_abs (so_e (se_int (by rfl) T.z_int (so_e (se_ix (so_s 0 (pv 0)) (so_e (se_mod (so_e (se_int (by rfl) T.z_int (so_s 1 (pv 1)))) (so_e (se_len (by rfl) T.z_len (so_s 0 (pv 0)))))))))))))) (so_e (se_d (d := .int 2147483563) pe_int (fun _ _ => .int _))))) (so_e (se_d (d := .int 48271) pe_int (fun _ _ => .int _))))))))
  ss_nil)))
  (ss_cons (ss_set (i := 3) sc__law_box.nd (by rfl) (by first | exact .inl rfl | exact .inr rfl) (se_if (st_ge (so_s 2 (pv 2)) (so_e (se_pow (so_e (se_d (d := .int 10) pe_int (fun _ _ => .int _))) (so_e (se_d (d := .int 18) pe_int (fun _ _ => .int _)))))) (se_v 2 (pv 2)) (se_d (d := .int 0) pe_int (fun _ _ => .int _))))
  (ss_one (ss_ret (se_n (sn_lst (sa_cons (so_s 3 (pv 3)) (sa_cons (so_e (se_add (so_e (se_mod (so_e (se_int (by rfl) T.z_int (so_e (se_add (so_e (se_mul (so_e (se_mod (so_e (se_int (by rfl) T.z_int (so_s 2 (pv 2)))) (so_e (se_d (d := .int 2147483563) pe_int (fun _ _ => .int _))))) (so_e (se_d (d := .int 40014) pe_int (fun _ _ => .int _))))) (so_e (se_mul (so_e (se_d (d := .int 1931) pe_int (fun _ _ => .int _))) (so_s 1 (pv 1)))))))) (so_e (se_d (d := .int 2147483563) pe_int (fun _ _ => .int _))))) (so_e (se_d (d := .int 1) pe_int (fun _ _ => .int _))))) sa_nil)))))))))
theorem okN__law_box (T : Top K mg) : FnOk P w K mg base CX0 1 T.f__law_box T.d__law_box ["script", "k"] (spN K 2 n__law_box) :=
  fn_N (k := 0) T.F__law_box sc__law_box fun cdv A outer s H E hr => by
    have hu := hu64 hr
    exact (ss_cons (ss_set (i := 2) sc__law_box.nd (by rfl) (by first | exact .inl rfl | exact .inr rfl) (se_add (so_e (se_mul (so_e (se_d (d := .int 7919) pe_int (fun _ _ => .int _))) (so_s 1 (pv 1)))) (so_e (se_d (d := .int 1931) pe_int (fun _ _ => .int _)))))
  (ss_cons (ss_if (st_lt (so_s 1 (pv 1)) (so_e (se_len (by rfl) T.z_len (so_s 0 (pv 0)))))
  (ss_one (ss_set (i := 2) sc__law_box.nd (by rfl) (by first | exact .inl rfl | exact .inr rfl) (se_abs (by rfl) T.z_abs (so_e (se_int (by rfl) T.z_int (so_e (se_ix (so_s 0 (pv 0)) (so_s 1 (pv 1)))))))))
  (ss_one (ss_if (st_gt (so_e (se_len (by rfl) T.z_len (so_s 0 (pv 0)))) (so_e (se_d (d := .int 0) pe_int (fun _ _ => .int _))))
  (ss_one (ss_set (i := 2) sc__law_box.nd (by rfl) (by first | exact .inl rfl | exact .inr rfl) (se_add (so_s 2 (pv 2)) (so_e (se_mul (so_e (se_mod (so_e (se_int (by rfl) T.z_int (so_e (se_abs (by rfl) T.z_abs (so_e (se_int (by rfl) T.z_int (so_e (se_ix (so_s 0 (pv 0)) (so_e (se_mod (so_e (se_int (by rfl) T.z_int (so_s 1 (pv 1)))) (so_e (se_len (by rfl) T.z_len (so_s 0 (pv 0)))))))))))))) (so_e (se_d (d := .int 2147483563) pe_int (fun _ _ => .int _))))) (so_e (se_d (d := .int 48271) pe_int (fun _ _ => .int _))))))))
  ss_nil)))
  (ss_cons (ss_set (i := 3) sc__law_box.nd (by rfl) (by first | exact .inl rfl | exact .inr rfl) (se_if (st_ge (so_s 2 (pv 2)) (so_e (se_pow (so_e (se_d (d := .int 10) pe_int (fun _ _ => .int _))) (so_e (se_d (d := .int 18) pe_int (fun _ _ => .int _)))))) (se_v 2 (pv 2)) (se_d (d := .int 0) pe_int (fun _ _ => .int _))))
  (ss_one (ss_retL (sn_lst (sa_cons (so_s 3 (pv 3)) (sa_cons (so_e (se_add (so_e (se_mod (so_e (se_int (by rfl) T.z_int (so_e (se_add (so_e (se_mul (so_e (se_mod (so_e (se_int (by rfl) T.z_int (so_s 2 (pv 2)))) (so_e (se_d (d := .int 2147483563) pe_int (fun _ _ => .int _))))) (so_e (se_d (d := .int 40014) pe_int (fun _ _ => .int _))))) (so_e (se_mul (so_e (se_d (d := .int 1931) pe_int (fun _ _ => .int _))) (so_s 1 (pv 1)))))))) (so_e (se_d (d := .int 2147483563) pe_int (fun _ _ => .int _))))) (so_e (se_d (d := .int 1) pe_int (fun _ _ => .int _))))) sa_nil))))))))
theorem okV__law_take (T : Top K mg) : FnOk P w K mg base CX0 1 T.f__law_take T.d__law_take ["box", "many"] (spV K 2 m__law_take) :=
  fn_V (k := 0) T.F__law_take sc__law_take fun cdv A outer s H E hr => by
    have hu := hu64 hr
    exact (ss_cons (ss_if (st_gt (so_e (se_ix (so_s 0 (pv 0)) (so_e (se_d (d := .int 0) pe_int (fun _ _ => .int _))))) (so_e (se_d (d := .int 0) pe_int (fun _ _ => .int _))))
  (ss_cons (ss_set (i := 3) sc__law_take.nd (by rfl) (by first | exact .inl rfl | exact .inr rfl) (se_mod (so_e (se_int (by rfl) T.z_int (so_e (se_ix (so_s 0 (pv 0)) (so_e (se_d (d := .int 0) pe_int (fun _ _ => .int _))))))) (so_s 1 (pv 1))))
  (ss_cons (ss_setIx 0 (se_div (so_e (se_ix (so_s 0 (pv 0)) (so_e (se_d (d := .int 0) pe_int (fun _ _ => .int _))))) (so_s 1 (pv 1))) (pv 0) (se_d (d := .int 0) pe_int (fun _ _ => .int _)))
  (ss_one (ss_ret (se_v 3 (pv 3))))))
  ss_nil)
  (ss_cons (ss_set (i := 2) sc__law_take.nd (by rfl) (by first | exact .inl rfl | exact .inr rfl) (se_mod (so_e (se_int (by rfl) T.z_int (so_e (se_add (so_e (se_mul (so_e (se_ix (so_s 0 (pv 0)) (so_e (se_d (d := .int 1) pe_int (fun _ _ => .int _))))) (so_e (se_d (d := .int 39373) pe_int (fun _ _ => .int _))))) (so_e (se_d (d := .int 982) pe_int (fun _ _ => .int _))))))) (so_e (se_d (d := .int 2147483647) pe_int (fun _ _ => .int _)))))
  (ss_cons (ss_setIx 0 (se_add (so_e (se_mod (so_e (se_int (by rfl) T.z_int (so_e (se_add (so_e (se_mul (so_s 2 (pv 2)) (so_e (se_d (d := .int 40692) pe_int (fun _ _ => .int _))))) (so_e (se_d (d := .int 88) pe_int (fun _ _ => .int _))))))) (so_e (se_d (d := .int 2147483399) pe_int (fun _ _ => .int _))))) (so_e (se_d (d := .int 1) pe_int (fun _ _ => .int _)))) (pv 0) (se_d (d := .int 1) pe_int (fun _ _ => .int _)))
  (ss_one (ss_ret (se_mod (so_e (se_int (by rfl) T.z_int (so_e (se_div (so_e (se_add (so_e (se_mul (so_s 2 (pv 2)) (so_e (se_d (d := .int 2147483629) pe_int (fun _ _ => .int _))))) (so_e (se_ix (so_s 0 (pv 0)) (so_e (se_d (d := .int 1) pe_int (fun _ _ => .int _))))))) (so_e (se_d (d := .int 8209) pe_int (fun _ _ => .int _))))))) (so_s 1 (pv 1))))))))
theorem okV__law_same (T : Top K mg) : ∀ n : Nat, FnOk P w K mg base CX0 (0 + n) T.f__law_same T.d__law_same ["told", "due"] (spV K 2 (m__law_same n))
  | 0 => fn_none
  | n + 1 => by
    have ih := okV__law_same T n
    exact fn_V (k := 0 + n) T.F__law_same sc__law_same fun cdv A outer s H E hr => by
      have hu := hu64 hr
      exact (ss_cons (ss_if (st_val (se_isi (T := "tuple") (by decide) (by rfl) T.z_isinstance (so_s 1 (pv 1)) (by rfl) T.z_tuple b_tuple))
  (ss_cons (ss_if (st_w (sw_or (st_not (st_val (se_isi (T := "tuple") (by decide) (by rfl) T.z_isinstance (so_s 0 (pv 0)) (by rfl) T.z_tuple b_tuple))) (sw_or1 (st_ne hu (so_e (se_len (by rfl) T.z_len (so_s 0 (pv 0)))) (so_e (se_len (by rfl) T.z_len (so_s 1 (pv 1))))))))
  (ss_one (ss_ret (se_d (d := .bool false) pe_bl (fun _ _ => .bl _))))
  ss_nil)
  (ss_cons (ss_for PassesOwn.never rfl (si_zip (by rfl) T.z_zip (so_s 0 (pv 0)) (so_s 1 (pv 1))) (sg_tup rfl (sgs_cons (sg_name (i := 2) sc__law_same.nd (by rfl) (by first | exact .inl rfl | exact .inr rfl)) (sgs_cons (sg_name (i := 3) sc__law_same.nd (by rfl) (by first | exact .inl rfl | exact .inr rfl)) sgs_nil)))
  (ss_one (ss_if (st_not (st_val (se_call (fv := (m__law_same n)) (io := [false, false]) ih hr (by rfl) T.g__law_same T.F__law_same.kp T.b__law_same (sa_cons (so_s 2 (pv 2)) (sa_cons (so_s 3 (pv 3)) sa_nil)))))
  (ss_one (ss_ret (se_d (d := .bool false) pe_bl (fun _ _ => .bl _))))
  ss_nil)))
  (ss_one (ss_ret (se_d (d := .bool true) pe_bl (fun _ _ => .bl _))))))
  ss_nil)
  (ss_cons (ss_if (st_isN (so_s 1 (pv 1)))
  (ss_one (ss_ret (se_isN (so_s 0 (pv 0)))))
  ss_nil)
  (ss_cons (ss_if (st_w (sw_or (st_isB (so_s 1 (pv 1)) (so_e (se_d (d := .bool true) pe_bl (fun _ _ => .bl _)))) (sw_or1 (st_isB (so_s 1 (pv 1)) (so_e (se_d (d := .bool false) pe_bl (fun _ _ => .bl _)))))))
  (ss_one (ss_ret (se_and (se_isi (T := "bool") (by decide) (by rfl) T.z_isinstance (so_s 0 (pv 0)) (by rfl) T.z_bool b_bool) (se_one (se_eq hu (so_s 0 (pv 0)) (so_s 1 (pv 1)))))))
  ss_nil)
  (ss_cons (ss_if (st_val (se_isi (T := "int") (by decide) (by rfl) T.z_isinstance (so_s 1 (pv 1)) (by rfl) T.z_int b_int))
  (ss_one (ss_ret (se_and (se_isi (T := "int") (by decide) (by rfl) T.z_isinstance (so_s 0 (pv 0)) (by rfl) T.z_int b_int) (se_and (se_not (se_isi (T := "bool") (by decide) (by rfl) T.z_isinstance (so_s 0 (pv 0)) (by rfl) T.z_bool b_bool)) (se_one (se_eq hu (so_s 0 (pv 0)) (so_s 1 (pv 1))))))))
  ss_nil)
  (ss_one (ss_ret (se_and (se_isi (T := "str") (by decide) (by rfl) T.z_isinstance (so_s 0 (pv 0)) (by rfl) T.z_str b_str) (se_one (se_eq hu (so_s 0 (pv 0)) (so_s 1 (pv 1)))))))))))
theorem okV__law_marks (T : Top K mg) : FnOk P w K mg base CX0 1 T.f__law_marks T.d__law_marks ["web", "row", "eye"] (spV K 3 m__law_marks) :=
  fn_V (k := 0) T.F__law_marks sc__law_marks fun cdv A outer s H E hr => by
    have hu := hu64 hr
    exact (ss_cons (ss_own (i := 3) sc__law_marks.nd (by rfl) (by first | exact .inl rfl | exact .inr rfl) (sn_rep (so_e (se_n (sn_lst (sa_cons (so_e (se_d (d := .bool false) pe_bl (fun _ _ => .bl _))) sa_nil)))) (so_e (se_ix (so_s 0 (pv 0)) (so_e (se_d (d := .int 0) pe_int (fun _ _ => .int _)))))))
  (ss_cons (ss_own (i := 4) sc__law_marks.nd (by rfl) (by first | exact .inl rfl | exact .inr rfl) (sn_lst sa_nil))
  (ss_cons (ss_for PassesOwn.never rfl (si_rev (by rfl) T.z_reversed (so_s 1 (pv 1))) (sg_name (i := 5) sc__law_marks.nd (by rfl) (by first | exact .inl rfl | exact .inr rfl))
  (ss_cons (ss_set (i := 6) sc__law_marks.nd (by rfl) (by first | exact .inl rfl | exact .inr rfl) (se_in (so_s 5 (pv 5)) (so_s 2 (pv 2))))
  (ss_cons (ss_for PassesOwn.never rfl (si_seq (so_e (se_ix (so_e (se_ix (so_s 0 (pv 0)) (so_e (se_d (d := .int 1) pe_int (fun _ _ => .int _))))) (so_s 5 (pv 5))))) (sg_name (i := 7) sc__law_marks.nd (by rfl) (by first | exact .inl rfl | exact .inr rfl))
  (ss_one (ss_if (st_val (se_ix (so_s 3 (pv 3)) (so_s 7 (pv 7))))
  (ss_one (ss_set (i := 6) sc__law_marks.nd (by rfl) (by first | exact .inl rfl | exact .inr rfl) (se_d (d := .bool true) pe_bl (fun _ _ => .bl _))))
  ss_nil)))
  (ss_cons (ss_if (st_val (se_v 6 (pv 6)))
  (ss_one (ss_for PassesOwn.never rfl (si_seq (so_e (se_ix (so_e (se_ix (so_s 0 (pv 0)) (so_e (se_d (d := .int 1) pe_int (fun _ _ => .int _))))) (so_s 5 (pv 5))))) (sg_name (i := 7) sc__law_marks.nd (by rfl) (by first | exact .inl rfl | exact .inr rfl))
  (ss_one (ss_setIx 3 (se_d (d := .bool true) pe_bl (fun _ _ => .bl _)) (pv 3) (se_v 7 (pv 7))))))
  ss_nil)
  (ss_one (ss_append 4 (pv 4) (se_v 6 (pv 6))))))))
  (ss_cons (ss_reverse 4 (pv 4))
  (ss_one (ss_retR (sr_s 4 (pv 4))))))))
theorem okV__law_lanes (T : Top K mg) : FnOk P w K mg base CX0 1 T.f__law_lanes T.d__law_lanes ["web", "row"] (spV K 2 m__law_lanes) :=
  fn_V (k := 0) T.F__law_lanes sc__law_lanes fun cdv A outer s H E hr => by
    have hu := hu64 hr
    exact (ss_cons (ss_ownLcM (i := 2) (own := [("hand", 4)]) rfl sc__law_lanes.nd (by rfl) (by rfl) (sw_true rfl rfl rfl (by decide +kernel)) (si_rg1 (by rfl) T.z_range (se_ix (so_s 0 (pv 0)) (so_e (se_d (d := .int 0) pe_int (fun _ _ => .int _))))) (blkOk_by (own := [("hand", 4)]) (by rfl)) (by decide) (fun s H C cl fp => (sg_name (i := 4) sc__law_lanes.nd (by rfl) (by first | exact .inl rfl | exact .inr rfl))) (fun s H C cl fp => sps_nil) (fun s H C cl fp => (sn_lst sa_nil)))
  (ss_cons (ss_for PassesOwn.never rfl (si_seq (so_s 1 (pv 1))) (sg_name (i := 3) sc__law_lanes.nd (by rfl) (by first | exact .inl rfl | exact .inr rfl))
  (ss_one (ss_for PassesOwn.never rfl (si_seq (so_e (se_ix (so_e (se_ix (so_s 0 (pv 0)) (so_e (se_d (d := .int 1) pe_int (fun _ _ => .int _))))) (so_s 3 (pv 3))))) (sg_name (i := 4) sc__law_lanes.nd (by rfl) (by first | exact .inl rfl | exact .inr rfl))
  (ss_one (ss_appendR (so_row 2 (pv 2) (se_v 4 (pv 4))) (se_v 3 (pv 3)))))))
  (ss_one (ss_retR (sr_s 2 (pv 2))))))
theorem okV__law_first (T : Top K mg) : FnOk P w K mg base CX0 1 T.f__law_first T.d__law_first ["web", "lanes", "spots"] (spV K 3 m__law_first) :=
  fn_V (k := 0) T.F__law_first sc__law_first fun cdv A outer s H E hr => by
    have hu := hu64 hr
    exact (ss_cons (ss_for PassesOwn.never rfl (si_rg1 (by rfl) T.z_range (se_len (by rfl) T.z_len (so_e (se_ix (so_s 0 (pv 0)) (so_e (se_d (d := .int 1) pe_int (fun _ _ => .int _))))))) (sg_name (i := 3) sc__law_first.nd (by rfl) (by first | exact .inl rfl | exact .inr rfl))
  (ss_cons (ss_set (i := 4) sc__law_first.nd (by rfl) (by first | exact .inl rfl | exact .inr rfl) (se_d (d := .bool false) pe_bl (fun _ _ => .bl _)))
  (ss_cons (ss_for PassesOwn.never rfl (si_seq (so_e (se_ix (so_e (se_ix (so_s 0 (pv 0)) (so_e (se_d (d := .int 1) pe_int (fun _ _ => .int _))))) (so_s 3 (pv 3))))) (sg_name (i := 5) sc__law_first.nd (by rfl) (by first | exact .inl rfl | exact .inr rfl))
  (ss_one (ss_if (st_w (sw_or (st_ge (so_e (se_ix (so_s 2 (pv 2)) (so_s 5 (pv 5)))) (so_e (se_len (by rfl) T.z_len (so_e (se_ix (so_s 1 (pv 1)) (so_s 5 (pv 5))))))) (sw_or1 (st_ne hu (so_e (se_ix (so_e (se_ix (so_s 1 (pv 1)) (so_s 5 (pv 5)))) (so_e (se_ix (so_s 2 (pv 2)) (so_s 5 (pv 5)))))) (so_s 3 (pv 3))))))
  (ss_cons (ss_set (i := 4) sc__law_first.nd (by rfl) (by first | exact .inl rfl | exact .inr rfl) (se_d (d := .bool true) pe_bl (fun _ _ => .bl _)))
  (ss_one ss_break))
  ss_nil)))
  (ss_one (ss_if (st_not (st_val (se_v 4 (pv 4))))
  (ss_one (ss_ret (se_v 3 (pv 3))))
  ss_nil)))))
  (ss_one (ss_ret (se_d (d := .int 0) pe_int (fun _ _ => .int _)))))
theorem okV__law_part (T : Top K mg) : FnOk P w K mg base CX0 1 T.f__law_part T.d__law_part ["row", "marks", "is_in"] (spV K 3 m__law_part) :=
  fn_V (k := 0) T.F__law_part sc__law_part fun cdv A outer s H E hr => by
    have hu := hu64 hr
    exact (ss_one (ss_ret (se_tuple (by rfl) T.z_tuple (so_e (se_n (sn_comp (own := [("letter", 3), ("mark", 4)]) rfl sc__law_part.nd (si_zip (by rfl) T.z_zip (so_s 0 (pv 0)) (so_s 1 (pv 1))) (blkOk_by (own := [("letter", 3), ("mark", 4)]) (by rfl)) (by decide) (fun s H C cl fp => (sg_tup rfl (sgs_cons (sg_name (i := 3) sc__law_part.nd (by rfl) (by first | exact .inl rfl | exact .inr rfl)) (sgs_cons (sg_name (i := 4) sc__law_part.nd (by rfl) (by first | exact .inl rfl | exact .inr rfl)) sgs_nil)))) (fun s H C cl fp => (sps_one (st_eq hu (so_s 4 (pv 4)) (so_s 2 (pv 2))))) (fun s H C cl fp => (se_v 3 (pv 3)))))))))
theorem okV_first_place (T : Top K mg) : FnOk P w K mg base CX0 2 T.f_first_place T.d_first_place ["web", "left"] (spV K 2 m_first_place) :=
  fn_V (k := 1) T.F_first_place sc_first_place fun cdv A outer s H E hr => by
    have hu := hu64 hr
    exact (ss_cons (ss_set (i := 2) sc_first_place.nd (by rfl) (by first | exact .inl rfl | exact .inr rfl) (se_d (d := .int 0) pe_int (fun _ _ => .int _)))
  (ss_cons (ss_dict (i := 3) sc_first_place.nd (by rfl) (by first | exact .inl rfl | exact .inr rfl))
  (ss_cons (ss_for PassesOwn.never rfl (si_enum (by rfl) T.z_enumerate (so_s 1 (pv 1))) (sg_tup rfl (sgs_cons (sg_name (i := 4) sc_first_place.nd (by rfl) (by first | exact .inl rfl | exact .inr rfl)) (sgs_cons (sg_name (i := 5) sc_first_place.nd (by rfl) (by first | exact .inl rfl | exact .inr rfl)) sgs_nil)))
  (ss_cons (ss_set (i := 6) sc_first_place.nd (by rfl) (by first | exact .inl rfl | exact .inr rfl) (se_call (fv := m_shut_hands) (io := [false, true, false]) ((okV_shut_hands (P := P) (w := w) (base := base) T).mono (by decide)) hr (by rfl) T.g_shut_hands T.F_shut_hands.kp T.b_shut_hands (sa_cons (so_s 0 (pv 0)) (sa_cons (so_s 3 (pv 3)) (sa_cons (so_s 5 (pv 5)) sa_nil)))))
  (ss_cons (ss_if (st_w (sw_and (st_not (st_val (se_v 6 (pv 6)))) (sw_and1 (st_lt (so_s 5 (pv 5)) (so_e (se_ix (so_s 1 (pv 1)) (so_s 2 (pv 2))))))))
  (ss_one (ss_set (i := 2) sc_first_place.nd (by rfl) (by first | exact .inl rfl | exact .inr rfl) (se_v 4 (pv 4))))
  ss_nil)
  (ss_one (ss_if (st_eq hu (so_e (se_dlen 3 (by rfl) T.z_len (pv 3))) (so_e (se_ix (so_s 0 (pv 0)) (so_e (se_d (d := .int 0) pe_int (fun _ _ => .int _))))))
  (ss_one ss_break)
  ss_nil)))))
  (ss_one (ss_ret (se_v 2 (pv 2)))))))
theorem okV__law_pick (T : Top K mg) : FnOk P w K mg base CX0 2 T.f__law_pick T.d__law_pick ["box", "some"] (spV K 2 m__law_pick) :=
  fn_V (k := 1) T.F__law_pick sc__law_pick fun cdv A outer s H E hr => by
    have hu := hu64 hr
    exact (ss_one (ss_ret (se_ix (so_s 1 (pv 1)) (so_e (se_call (fv := m__law_take) (io := [true, false]) ((okV__law_take (P := P) (w := w) (base := base) T).mono (by decide)) hr (by rfl) T.g__law_take T.F__law_take.kp T.b__law_take (sa_cons (so_s 0 (pv 0)) (sa_cons (so_e (se_len (by rfl) T.z_len (so_s 1 (pv 1)))) sa_nil)))))))
theorem okV__law_mixed (T : Top K mg) : FnOk P w K mg base CX0 2 T.f__law_mixed T.d__law_mixed ["box", "some"] (spV K 2 m__law_mixed) :=
  fn_V (k := 1) T.F__law_mixed sc__law_mixed fun cdv A outer s H E hr => by
    have hu := hu64 hr
    exact (ss_cons (ss_own (i := 2) sc__law_mixed.nd (by rfl) (by first | exact .inl rfl | exact .inr rfl) (sn_list (by rfl) T.z_list (so_s 1 (pv 1))))
  (ss_cons (ss_own (i := 3) sc__law_mixed.nd (by rfl) (by first | exact .inl rfl | exact .inr rfl) (sn_lst sa_nil))
  (ss_cons (ss_for PassesOwn.never rfl (si_rg1 (by rfl) T.z_range (se_len (by rfl) T.z_len (so_s 1 (pv 1)))) (sg_name (i := 4) sc__law_mixed.nd (by rfl) (by first | exact .inl rfl | exact .inr rfl))
  (ss_one (ss_append 3 (pv 3) (se_popAt 2 (pv 2) (se_call (fv := m__law_take) (io := [true, false]) ((okV__law_take (P := P) (w := w) (base := base) T).mono (by decide)) hr (by rfl) T.g__law_take T.F__law_take.kp T.b__law_take (sa_cons (so_s 0 (pv 0)) (sa_cons (so_e (se_len (by rfl) T.z_len (so_s 2 (pv 2)))) sa_nil)))))))
  (ss_one (ss_retR (sr_s 3 (pv 3)))))))
theorem okV__law_least (T : Top K mg) : FnOk P w K mg base CX0 2 T.f__law_least T.d__law_least ["web", "row"] (spV K 2 m__law_least) :=
  fn_V (k := 1) T.F__law_least sc__law_least fun cdv A outer s H E hr => by
    have hu := hu64 hr
    exact (ss_cons (ss_set (i := 2) sc__law_least.nd (by rfl) (by first | exact .inl rfl | exact .inr rfl) (se_call (fv := m__law_lanes) (io := [false, false]) ((okV__law_lanes (P := P) (w := w) (base := base) T).mono (by decide)) hr (by rfl) T.g__law_lanes T.F__law_lanes.kp T.b__law_lanes (sa_cons (so_s 0 (pv 0)) (sa_cons (so_s 1 (pv 1)) sa_nil))))
  (ss_cons (ss_own (i := 3) sc__law_least.nd (by rfl) (by first | exact .inl rfl | exact .inr rfl) (sn_rep (so_e (se_n (sn_lst (sa_cons (so_e (se_d (d := .int 0) pe_int (fun _ _ => .int _))) sa_nil)))) (so_e (se_ix (so_s 0 (pv 0)) (so_e (se_d (d := .int 0) pe_int (fun _ _ => .int _)))))))
  (ss_cons (ss_own (i := 4) sc__law_least.nd (by rfl) (by first | exact .inl rfl | exact .inr rfl) (sn_lst sa_nil))
  (ss_cons (ss_for PassesOwn.never rfl (si_rg1 (by rfl) T.z_range (se_len (by rfl) T.z_len (so_s 1 (pv 1)))) (sg_name (i := 5) sc__law_least.nd (by rfl) (by first | exact .inl rfl | exact .inr rfl))
  (ss_cons (ss_set (i := 6) sc__law_least.nd (by rfl) (by first | exact .inl rfl | exact .inr rfl) (se_call (fv := m__law_first) (io := [false, false, false]) ((okV__law_first (P := P) (w := w) (base := base) T).mono (by decide)) hr (by rfl) T.g__law_first T.F__law_first.kp T.b__law_first (sa_cons (so_s 0 (pv 0)) (sa_cons (so_s 2 (pv 2)) (sa_cons (so_s 3 (pv 3)) sa_nil)))))
  (ss_cons (ss_append 4 (pv 4) (se_v 6 (pv 6)))
  (ss_one (ss_for PassesOwn.never rfl (si_seq (so_e (se_ix (so_e (se_ix (so_s 0 (pv 0)) (so_e (se_d (d := .int 1) pe_int (fun _ _ => .int _))))) (so_s 6 (pv 6))))) (sg_name (i := 7) sc__law_least.nd (by rfl) (by first | exact .inl rfl | exact .inr rfl))
  (ss_one (ss_augIx 3 (pv 3) (se_v 7 (pv 7)) (se_d (d := .int 1) pe_int (fun _ _ => .int _)))))))))
  (ss_one (ss_ret (se_tuple (by rfl) T.z_tuple (so_s 4 (pv 4)))))))))
theorem okV_least_form (T : Top K mg) : FnOk P w K mg base CX0 3 T.f_least_form T.d_least_form ["web", "row"] (spV K 2 m_least_form) :=
  fn_V (k := 2) T.F_least_form sc_least_form fun cdv A outer s H E hr => by
    have hu := hu64 hr
    exact (ss_cons (ss_own (i := 2) sc_least_form.nd (by rfl) (by first | exact .inl rfl | exact .inr rfl) (sn_list (by rfl) T.z_list (so_s 1 (pv 1))))
  (ss_cons (ss_own (i := 3) sc_least_form.nd (by rfl) (by first | exact .inl rfl | exact .inr rfl) (sn_lst sa_nil))
  (ss_cons (ss_for PassesOwn.never rfl (si_rg1 (by rfl) T.z_range (se_len (by rfl) T.z_len (so_s 1 (pv 1)))) (sg_name (i := 4) sc_least_form.nd (by rfl) (by first | exact .inl rfl | exact .inr rfl))
  (ss_one (ss_append 3 (pv 3) (se_popAt 2 (pv 2) (se_call (fv := m_first_place) (io := [false, false]) ((okV_first_place (P := P) (w := w) (base := base) T).mono (by decide)) hr (by rfl) T.g_first_place T.F_first_place.kp T.b_first_place (sa_cons (so_s 0 (pv 0)) (sa_cons (so_s 2 (pv 2)) sa_nil)))))))
  (ss_one (ss_ret (se_tuple (by rfl) T.z_tuple (so_s 3 (pv 3))))))))
theorem okV__law_web (T : Top K mg) : FnOk P w K mg base CX0 3 T.f__law_web T.d__law_web ["box", "hands", "letters"] (spV K 3 m__law_web) :=
  fn_V (k := 2) T.F__law_web sc__law_web fun cdv A outer s H E hr => by
    have hu := hu64 hr
    exact (ss_cons (ss_set (i := 3) sc__law_web.nd (by rfl) (by first | exact .inl rfl | exact .inr rfl) (se_call (fv := m__law_pick) (io := [true, false]) ((okV__law_pick (P := P) (w := w) (base := base) T).mono (by decide)) hr (by rfl) T.g__law_pick T.F__law_pick.kp T.b__law_pick (sa_cons (so_s 0 (pv 0)) (sa_cons (so_e (se_n (sn_lst (sa_cons (so_e (se_n (sn_lst (sa_cons (so_e (se_d (d := .int 1) pe_int (fun _ _ => .int _))) sa_nil)))) (sa_cons (so_e (se_n (sn_lst (sa_cons (so_e (se_d (d := .int 1) pe_int (fun _ _ => .int _))) (sa_cons (so_e (se_d (d := .int 1) pe_int (fun _ _ => .int _))) (sa_cons (so_e (se_d (d := .int 1) pe_int (fun _ _ => .int _))) (sa_cons (so_e (se_d (d := .int 2) pe_int (fun _ _ => .int _))) sa_nil))))))) (sa_cons (so_e (se_n (sn_lst (sa_cons (so_e (se_d (d := .int 1) pe_int (fun _ _ => .int _))) (sa_cons (so_e (se_d (d := .int 2) pe_int (fun _ _ => .int _))) (sa_cons (so_e (se_d (d := .int 2) pe_int (fun _ _ => .int _))) (sa_cons (so_e (se_d (d := .int 3) pe_int (fun _ _ => .int _))) sa_nil))))))) (sa_cons (so_e (se_n (sn_lst (sa_cons (so_e (se_d (d := .int 1) pe_int (fun _ _ => .int _))) (sa_cons (so_e (se_d (d := .int 1) pe_int (fun _ _ => .int _))) (sa_cons (so_e (se_d (d := .int 2) pe_int (fun _ _ => .int _))) (sa_cons (so_e (se_d (d := .int 3) pe_int (fun _ _ => .int _))) (sa_cons (so_e (se_d (d := .int 4) pe_int (fun _ _ => .int _))) sa_nil)))))))) sa_nil))))))) sa_nil))))
  (ss_cons (ss_own (i := 4) sc__law_web.nd (by rfl) (by first | exact .inl rfl | exact .inr rfl) (sn_lst sa_nil))
  (ss_cons (ss_for PassesOwn.never rfl (si_rg1 (by rfl) T.z_range (se_v 2 (pv 2))) (sg_name (i := 5) sc__law_web.nd (by rfl) (by first | exact .inl rfl | exact .inr rfl))
  (ss_cons (ss_set (i := 6) sc__law_web.nd (by rfl) (by first | exact .inl rfl | exact .inr rfl) (se_call (fv := m__law_mixed) (io := [true, false]) ((okV__law_mixed (P := P) (w := w) (base := base) T).mono (by decide)) hr (by rfl) T.g__law_mixed T.F__law_mixed.kp T.b__law_mixed (sa_cons (so_s 0 (pv 0)) (sa_cons (so_e (se_n (sn_listRg rfl (by rfl) T.z_list (by rfl) T.z_range (se_v 1 (pv 1))))) sa_nil))))
  (ss_one (ss_append 4 (pv 4) (se_tuple (by rfl) T.z_tuple (so_e (se_n (sn_sorted (by rfl) T.z_sorted (so_e (se_n (sn_cut (so_s 6 (pv 6)) sp_none (sp_some (se_min2 rfl (by rfl) T.z_min (so_s 1 (pv 1)) (so_e (se_call (fv := m__law_pick) (io := [true, false]) ((okV__law_pick (P := P) (w := w) (base := base) T).mono (by decide)) hr (by rfl) T.g__law_pick T.F__law_pick.kp T.b__law_pick (sa_cons (so_s 0 (pv 0)) (sa_cons (so_s 3 (pv 3)) sa_nil)))))))))))))))))
  (ss_one (ss_ret (se_tup (sa_cons (so_s 1 (pv 1)) (sa_cons (so_e (se_tuple (by rfl) T.z_tuple (so_s 4 (pv 4)))) sa_nil))))))))
theorem okV__law_lane_web (T : Top K mg) : FnOk P w K mg base CX0 3 T.f__law_lane_web T.d__law_lane_web ["box"] (spV K 1 m__law_lane_web) :=
  fn_V (k := 2) T.F__law_lane_web sc__law_lane_web fun cdv A outer s H E hr => by
    have hu := hu64 hr
    exact (ss_cons (ss_own (i := 1) sc__law_lane_web.nd (by rfl) (by first | exact .inl rfl | exact .inr rfl) (sn_lst (sa_cons (so_e (se_tup (sa_cons (so_e (se_d (d := .int 0) pe_int (fun _ _ => .int _))) sa_nil))) (sa_cons (so_e (se_tup (sa_cons (so_e (se_d (d := .int 1) pe_int (fun _ _ => .int _))) sa_nil))) (sa_cons (so_e (se_tup (sa_cons (so_e (se_d (d := .int 2) pe_int (fun _ _ => .int _))) sa_nil))) (sa_cons (so_e (se_tup (sa_cons (so_e (se_d (d := .int 3) pe_int (fun _ _ => .int _))) sa_nil))) (sa_cons (so_e (se_tup (sa_cons (so_e (se_d (d := .int 0) pe_int (fun _ _ => .int _))) (sa_cons (so_e (se_d (d := .int 1) pe_int (fun _ _ => .int _))) sa_nil)))) (sa_cons (so_e (se_tup (sa_cons (so_e (se_d (d := .int 1) pe_int (fun _ _ => .int _))) (sa_cons (so_e (se_d (d := .int 2) pe_int (fun _ _ => .int _))) sa_nil)))) (sa_cons (so_e (se_tup (sa_cons (so_e (se_d (d := .int 2) pe_int (fun _ _ => .int _))) (sa_cons (so_e (se_d (d := .int 3) pe_int (fun _ _ => .int _))) sa_nil)))) sa_nil)))))))))
  (ss_cons (ss_append 1 (pv 1) (se_tuple (by rfl) T.z_tuple (so_e (se_n (sn_sorted (by rfl) T.z_sorted (so_e (se_n (sn_cut (so_e (se_call (fv := m__law_mixed) (io := [true, false]) ((okV__law_mixed (P := P) (w := w) (base := base) T).mono (by decide)) hr (by rfl) T.g__law_mixed T.F__law_mixed.kp T.b__law_mixed (sa_cons (so_s 0 (pv 0)) (sa_cons (so_e (se_n (sn_listRg rfl (by rfl) T.z_list (by rfl) T.z_range (se_d (d := .int 4) pe_int (fun _ _ => .int _))))) sa_nil)))) sp_none (sp_some (se_add (so_e (se_d (d := .int 1) pe_int (fun _ _ => .int _))) (so_e (se_call (fv := m__law_take) (io := [true, false]) ((okV__law_take (P := P) (w := w) (base := base) T).mono (by decide)) hr (by rfl) T.g__law_take T.F__law_take.kp T.b__law_take (sa_cons (so_s 0 (pv 0)) (sa_cons (so_e (se_d (d := .int 4) pe_int (fun _ _ => .int _))) sa_nil))))))))))))))
  (ss_one (ss_ret (se_tup (sa_cons (so_e (se_d (d := .int 4) pe_int (fun _ _ => .int _))) (sa_cons (so_e (se_tuple (by rfl) T.z_tuple (so_e (se_call (fv := m__law_mixed) (io := [true, false]) ((okV__law_mixed (P := P) (w := w) (base := base) T).mono (by decide)) hr (by rfl) T.g__law_mixed T.F__law_mixed.kp T.b__law_mixed (sa_cons (so_s 0 (pv 0)) (sa_cons (so_s 1 (pv 1)) sa_nil)))))) sa_nil)))))))
theorem okV__law_bag (T : Top K mg) : FnOk P w K mg base CX0 3 T.f__law_bag T.d__law_bag ["box", "web"] (spV K 2 m__law_bag) :=
  fn_V (k := 2) T.F__law_bag sc__law_bag fun cdv A outer s H E hr => by
    have hu := hu64 hr
    exact (ss_cons (ss_set (i := 2) sc__law_bag.nd (by rfl) (by first | exact .inl rfl | exact .inr rfl) (se_n (sn_lst sa_nil)))
  (ss_cons (ss_for PassesOwn.never rfl (si_rg1 (by rfl) T.z_range (se_len (by rfl) T.z_len (so_e (se_ix (so_s 1 (pv 1)) (so_e (se_d (d := .int 1) pe_int (fun _ _ => .int _))))))) (sg_name (i := 3) sc__law_bag.nd (by rfl) (by first | exact .inl rfl | exact .inr rfl))
  (ss_one (ss_set (i := 2) sc__law_bag.nd (by rfl) (by first | exact .inl rfl | exact .inr rfl) (se_n (sn_cat (so_s 2 (pv 2)) (so_e (se_n (sn_rep (so_e (se_n (sn_lst (sa_cons (so_s 3 (pv 3)) sa_nil)))) (so_e (se_call (fv := m__law_pick) (io := [true, false]) ((okV__law_pick (P := P) (w := w) (base := base) T).mono (by decide)) hr (by rfl) T.g__law_pick T.F__law_pick.kp T.b__law_pick (sa_cons (so_s 0 (pv 0)) (sa_cons (so_e (se_n (sn_lst (sa_cons (so_e (se_d (d := .int 0) pe_int (fun _ _ => .int _))) (sa_cons (so_e (se_d (d := .int 1) pe_int (fun _ _ => .int _))) (sa_cons (so_e (se_d (d := .int 1) pe_int (fun _ _ => .int _))) (sa_cons (so_e (se_d (d := .int 2) pe_int (fun _ _ => .int _))) (sa_cons (so_e (se_if (st_eq hu (so_e (se_len (by rfl) T.z_len (so_e (se_ix (so_e (se_ix (so_s 1 (pv 1)) (so_e (se_d (d := .int 1) pe_int (fun _ _ => .int _))))) (so_s 3 (pv 3)))))) (so_e (se_d (d := .int 1) pe_int (fun _ _ => .int _)))) (se_d (d := .int 6) pe_int (fun _ _ => .int _)) (se_d (d := .int 1) pe_int (fun _ _ => .int _)))) sa_nil)))))))) sa_nil))))))))))))
  (ss_one (ss_ret (se_if (st_gt (so_e (se_len (by rfl) T.z_len (so_s 2 (pv 2)))) (so_e (se_d (d := .int 0) pe_int (fun _ _ => .int _)))) (se_v 2 (pv 2)) (se_n (sn_listRg rfl (by rfl) T.z_list (by rfl) T.z_range (se_len (by rfl) T.z_len (so_e (se_ix (so_s 1 (pv 1)) (so_e (se_d (d := .int 1) pe_int (fun _ _ => .int _)))))))))))))
theorem okV__law_eye (T : Top K mg) : FnOk P w K mg base CX0 3 T.f__law_eye T.d__law_eye ["box", "web"] (spV K 2 m__law_eye) :=
  fn_V (k := 2) T.F__law_eye sc__law_eye fun cdv A outer s H E hr => by
    have hu := hu64 hr
    exact (ss_cons (ss_set (i := 2) sc__law_eye.nd (by rfl) (by first | exact .inl rfl | exact .inr rfl) (se_n (sn_listRg rfl (by rfl) T.z_list (by rfl) T.z_range (se_len (by rfl) T.z_len (so_e (se_ix (so_s 1 (pv 1)) (so_e (se_d (d := .int 1) pe_int (fun _ _ => .int _)))))))))
  (ss_cons (ss_set (i := 3) sc__law_eye.nd (by rfl) (by first | exact .inl rfl | exact .inr rfl) (se_call (fv := m__law_take) (io := [true, false]) ((okV__law_take (P := P) (w := w) (base := base) T).mono (by decide)) hr (by rfl) T.g__law_take T.F__law_take.kp T.b__law_take (sa_cons (so_s 0 (pv 0)) (sa_cons (so_e (se_d (d := .int 9) pe_int (fun _ _ => .int _))) sa_nil))))
  (ss_cons (ss_set (i := 4) sc__law_eye.nd (by rfl) (by first | exact .inl rfl | exact .inr rfl) (se_n (sn_cut (so_e (se_call (fv := m__law_mixed) (io := [true, false]) ((okV__law_mixed (P := P) (w := w) (base := base) T).mono (by decide)) hr (by rfl) T.g__law_mixed T.F__law_mixed.kp T.b__law_mixed (sa_cons (so_s 0 (pv 0)) (sa_cons (so_e (se_n (sn_listRg rfl (by rfl) T.z_list (by rfl) T.z_range (se_ix (so_s 1 (pv 1)) (so_e (se_d (d := .int 0) pe_int (fun _ _ => .int _))))))) sa_nil)))) sp_none (sp_some (se_if (st_lt (so_s 3 (pv 3)) (so_e (se_d (d := .int 2) pe_int (fun _ _ => .int _)))) (se_d (d := .int 1) pe_int (fun _ _ => .int _)) (se_add (so_e (se_d (d := .int 1) pe_int (fun _ _ => .int _))) (so_e (se_call (fv := m__law_take) (io := [true, false]) ((okV__law_take (P := P) (w := w) (base := base) T).mono (by decide)) hr (by rfl) T.g__law_take T.F__law_take.kp T.b__law_take (sa_cons (so_s 0 (pv 0)) (sa_cons (so_e (se_ix (so_s 1 (pv 1)) (so_e (se_d (d := .int 0) pe_int (fun _ _ => .int _))))) sa_nil))))))))))
  (ss_cons (ss_set (i := 5) sc__law_eye.nd (by rfl) (by first | exact .inl rfl | exact .inr rfl) (se_n (sn_comp (own := [("lot", 7)]) rfl sc__law_eye.nd (si_seq (so_e (se_ix (so_s 1 (pv 1)) (so_e (se_d (d := .int 1) pe_int (fun _ _ => .int _)))))) (blkOk_by (own := [("lot", 7)]) (by rfl)) (by decide) (fun s H C cl fp => (sg_name (i := 7) sc__law_eye.nd (by rfl) (by first | exact .inl rfl | exact .inr rfl))) (fun s H C cl fp => sps_nil) (fun s H C cl fp => (se_len (by rfl) T.z_len (so_e (se_n (sn_comp (own := [("hand", 9)]) rfl sc__law_eye.nd (si_seq (so_s 4 (pv 4))) (blkOk_by (own := [("hand", 9)]) (by rfl)) (by decide) (fun s H C cl fp => (sg_name (i := 9) sc__law_eye.nd (by rfl) (by first | exact .inl rfl | exact .inr rfl))) (fun s H C cl fp => (sps_one (st_in (so_s 9 (pv 9)) (so_s 7 (pv 7))))) (fun s H C cl fp => (se_v 9 (pv 9)))))))))))
  (ss_cons (ss_if (st_lt (so_s 3 (pv 3)) (so_e (se_d (d := .int 3) pe_int (fun _ _ => .int _))))
  (ss_cons (ss_setLc (i := 6) (own := [("letter", 8)]) rfl sc__law_eye.nd (by rfl) (by rfl) (sw_true rfl rfl rfl (by decide +kernel)) (si_seq (so_s 2 (pv 2))) (blkOk_by (own := [("letter", 8)]) (by rfl)) (by decide) (fun s H C cl fp => (sg_name (i := 8) sc__law_eye.nd (by rfl) (by first | exact .inl rfl | exact .inr rfl))) (fun s H C cl fp => (sps_one (st_gt (so_e (se_ix (so_s 5 (pv 5)) (so_s 8 (pv 8)))) (so_e (se_d (d := .int 0) pe_int (fun _ _ => .int _)))))) (fun s H C cl fp => (se_v 8 (pv 8))))
  (ss_one (ss_ret (se_if (st_ne hu (so_s 3 (pv 3)) (so_e (se_d (d := .int 1) pe_int (fun _ _ => .int _)))) (se_tuple (by rfl) T.z_tuple (so_s 6 (pv 6))) (se_tuple (by rfl) T.z_tuple (so_e (se_n (sn_comp (own := [("letter", 8)]) rfl sc__law_eye.nd (si_seq (so_s 6 (pv 6))) (blkOk_by (own := [("letter", 8)]) (by rfl)) (by decide) (fun s H C cl fp => (sg_name (i := 8) sc__law_eye.nd (by rfl) (by first | exact .inl rfl | exact .inr rfl))) (fun s H C cl fp => (sps_one (st_eq hu (so_e (se_call (fv := m__law_take) (io := [true, false]) ((okV__law_take (P := P) (w := w) (base := base) T).mono (by decide)) hr (by rfl) T.g__law_take T.F__law_take.kp T.b__law_take (sa_cons (so_s 0 (pv 0)) (sa_cons (so_e (se_d (d := .int 2) pe_int (fun _ _ => .int _))) sa_nil)))) (so_e (se_d (d := .int 0) pe_int (fun _ _ => .int _)))))) (fun s H C cl fp => (se_v 8 (pv 8)))))))))))
  ss_nil)
  (ss_cons (ss_if (st_eq hu (so_s 3 (pv 3)) (so_e (se_d (d := .int 3) pe_int (fun _ _ => .int _))))
  (ss_one (ss_ret (se_tuple (by rfl) T.z_tuple (so_e (se_n (sn_comp (own := [("letter", 8)]) rfl sc__law_eye.nd (si_seq (so_s 2 (pv 2))) (blkOk_by (own := [("letter", 8)]) (by rfl)) (by decide) (fun s H C cl fp => (sg_name (i := 8) sc__law_eye.nd (by rfl) (by first | exact .inl rfl | exact .inr rfl))) (fun s H C cl fp => (sps_one (st_eq hu (so_e (se_ix (so_s 5 (pv 5)) (so_s 8 (pv 8)))) (so_e (se_len (by rfl) T.z_len (so_s 4 (pv 4))))))) (fun s H C cl fp => (se_v 8 (pv 8)))))))))
  ss_nil)
  (ss_cons (ss_if (st_eq hu (so_s 3 (pv 3)) (so_e (se_d (d := .int 4) pe_int (fun _ _ => .int _))))
  (ss_one (ss_ret (se_tup sa_nil)))
  ss_nil)
  (ss_cons (ss_if (st_eq hu (so_s 3 (pv 3)) (so_e (se_d (d := .int 5) pe_int (fun _ _ => .int _))))
  (ss_one (ss_ret (se_tuple (by rfl) T.z_tuple (so_s 2 (pv 2)))))
  ss_nil)
  (ss_cons (ss_if (st_eq hu (so_s 3 (pv 3)) (so_e (se_d (d := .int 6) pe_int (fun _ _ => .int _))))
  (ss_one (ss_ret (se_tup (sa_cons (so_e (se_call (fv := m__law_pick) (io := [true, false]) ((okV__law_pick (P := P) (w := w) (base := base) T).mono (by decide)) hr (by rfl) T.g__law_pick T.F__law_pick.kp T.b__law_pick (sa_cons (so_s 0 (pv 0)) (sa_cons (so_s 2 (pv 2)) sa_nil)))) sa_nil))))
  ss_nil)
  (ss_one (ss_ret (se_tuple (by rfl) T.z_tuple (so_e (se_n (sn_comp (own := [("letter", 8)]) rfl sc__law_eye.nd (si_seq (so_s 2 (pv 2))) (blkOk_by (own := [("letter", 8)]) (by rfl)) (by decide) (fun s H C cl fp => (sg_name (i := 8) sc__law_eye.nd (by rfl) (by first | exact .inl rfl | exact .inr rfl))) (fun s H C cl fp => (sps_one (st_eq hu (so_e (se_call (fv := m__law_take) (io := [true, false]) ((okV__law_take (P := P) (w := w) (base := base) T).mono (by decide)) hr (by rfl) T.g__law_take T.F__law_take.kp T.b__law_take (sa_cons (so_s 0 (pv 0)) (sa_cons (so_e (se_d (d := .int 2) pe_int (fun _ _ => .int _))) sa_nil)))) (so_e (se_d (d := .int 0) pe_int (fun _ _ => .int _)))))) (fun s H C cl fp => (se_v 8 (pv 8))))))))))))))))))
theorem okV__law_view (T : Top K mg) : FnOk P w K mg base CX0 3 T.f__law_view T.d__law_view ["web", "row", "eye"] (spV K 3 m__law_view) :=
  fn_V (k := 2) T.F__law_view sc__law_view fun cdv A outer s H E hr => by
    have hu := hu64 hr
    exact (ss_one (ss_ret (se_call (fv := m__law_least) (io := [false, false]) ((okV__law_least (P := P) (w := w) (base := base) T).mono (by decide)) hr (by rfl) T.g__law_least T.F__law_least.kp T.b__law_least (sa_cons (so_s 0 (pv 0)) (sa_cons (so_e (se_call (fv := m__law_part) (io := [false, false, false]) ((okV__law_part (P := P) (w := w) (base := base) T).mono (by decide)) hr (by rfl) T.g__law_part T.F__law_part.kp T.b__law_part (sa_cons (so_s 1 (pv 1)) (sa_cons (so_e (se_call (fv := m__law_marks) (io := [false, false, false]) ((okV__law_marks (P := P) (w := w) (base := base) T).mono (by decide)) hr (by rfl) T.g__law_marks T.F__law_marks.kp T.b__law_marks (sa_cons (so_s 0 (pv 0)) (sa_cons (so_s 1 (pv 1)) (sa_cons (so_s 2 (pv 2)) sa_nil))))) (sa_cons (so_e (se_d (d := .bool true) pe_bl (fun _ _ => .bl _))) sa_nil))))) sa_nil)))))
theorem okV__law_past (T : Top K mg) : FnOk P w K mg base CX0 3 T.f__law_past T.d__law_past ["web", "row", "place"] (spV K 3 m__law_past) :=
  fn_V (k := 2) T.F__law_past sc__law_past fun cdv A outer s H E hr => by
    have hu := hu64 hr
    exact (ss_cons (ss_own (i := 3) sc__law_past.nd (by rfl) (by first | exact .inl rfl | exact .inr rfl) (sn_comp (own := [("hand", 7)]) rfl sc__law_past.nd (si_rg1 (by rfl) T.z_range (se_ix (so_s 0 (pv 0)) (so_e (se_d (d := .int 0) pe_int (fun _ _ => .int _))))) (blkOk_by (own := [("hand", 7)]) (by rfl)) (by decide) (fun s H C cl fp => (sg_name (i := 7) sc__law_past.nd (by rfl) (by first | exact .inl rfl | exact .inr rfl))) (fun s H C cl fp => sps_nil) (fun s H C cl fp => (se_in (so_s 7 (pv 7)) (so_e (se_ix (so_e (se_ix (so_s 0 (pv 0)) (so_e (se_d (d := .int 1) pe_int (fun _ _ => .int _))))) (so_e (se_ix (so_s 1 (pv 1)) (so_s 2 (pv 2))))))))))
  (ss_cons (ss_own (i := 4) sc__law_past.nd (by rfl) (by first | exact .inl rfl | exact .inr rfl) (sn_lst (sa_cons (so_e (se_ix (so_s 1 (pv 1)) (so_s 2 (pv 2)))) sa_nil)))
  (ss_cons (ss_for PassesOwn.never rfl (si_rg1 (by rfl) T.z_range (se_v 2 (pv 2))) (sg_name (i := 5) sc__law_past.nd (by rfl) (by first | exact .inl rfl | exact .inr rfl))
  (ss_cons (ss_set (i := 6) sc__law_past.nd (by rfl) (by first | exact .inl rfl | exact .inr rfl) (se_ix (so_s 1 (pv 1)) (so_e (se_sub (so_e (se_sub (so_s 2 (pv 2)) (so_e (se_d (d := .int 1) pe_int (fun _ _ => .int _))))) (so_s 5 (pv 5))))))
  (ss_one (ss_if (st_gt (so_e (se_len (by rfl) T.z_len (so_e (se_n (sn_comp (own := [("hand", 7)]) rfl sc__law_past.nd (si_seq (so_e (se_ix (so_e (se_ix (so_s 0 (pv 0)) (so_e (se_d (d := .int 1) pe_int (fun _ _ => .int _))))) (so_s 6 (pv 6))))) (blkOk_by (own := [("hand", 7)]) (by rfl)) (by decide) (fun s H C cl fp => (sg_name (i := 7) sc__law_past.nd (by rfl) (by first | exact .inl rfl | exact .inr rfl))) (fun s H C cl fp => (sps_one (st_val (se_ix (so_s 3 (pv 3)) (so_s 7 (pv 7)))))) (fun s H C cl fp => (se_v 7 (pv 7)))))))) (so_e (se_d (d := .int 0) pe_int (fun _ _ => .int _))))
  (ss_cons (ss_append 4 (pv 4) (se_v 6 (pv 6)))
  (ss_one (ss_for PassesOwn.never rfl (si_seq (so_e (se_ix (so_e (se_ix (so_s 0 (pv 0)) (so_e (se_d (d := .int 1) pe_int (fun _ _ => .int _))))) (so_s 6 (pv 6))))) (sg_name (i := 7) sc__law_past.nd (by rfl) (by first | exact .inl rfl | exact .inr rfl))
  (ss_one (ss_setIx 3 (se_d (d := .bool true) pe_bl (fun _ _ => .bl _)) (pv 3) (se_v 7 (pv 7)))))))
  ss_nil))))
  (ss_cons (ss_reverse 4 (pv 4))
  (ss_one (ss_ret (se_call (fv := m__law_least) (io := [false, false]) ((okV__law_least (P := P) (w := w) (base := base) T).mono (by decide)) hr (by rfl) T.g__law_least T.F__law_least.kp T.b__law_least (sa_cons (so_s 0 (pv 0)) (sa_cons (so_s 4 (pv 4)) sa_nil)))))))))
theorem okV_view_of (T : Top K mg) : FnOk P w K mg base CX0 4 T.f_view_of T.d_view_of ["web", "row", "eye"] (spV K 3 m_view_of) :=
  fn_V (k := 3) T.F_view_of sc_view_of fun cdv A outer s H E hr => by
    have hu := hu64 hr
    exact (ss_cons (ss_set (i := 3) sc_view_of.nd (by rfl) (by first | exact .inl rfl | exact .inr rfl) (se_call (fv := m_seen_events) (io := [false, false, false]) ((okV_seen_events (P := P) (w := w) (base := base) T).mono (by decide)) hr (by rfl) T.g_seen_events T.F_seen_events.kp T.b_seen_events (sa_cons (so_s 0 (pv 0)) (sa_cons (so_s 1 (pv 1)) (sa_cons (so_s 2 (pv 2)) sa_nil)))))
  (ss_one (ss_ret (se_call (fv := m_least_form) (io := [false, false]) ((okV_least_form (P := P) (w := w) (base := base) T).mono (by decide)) hr (by rfl) T.g_least_form T.F_least_form.kp T.b_least_form (sa_cons (so_s 0 (pv 0)) (sa_cons (so_e (se_tuple (by rfl) T.z_tuple (so_e (se_n (sn_comp (own := [("letter", 4), ("is_seen", 5)]) rfl sc_view_of.nd (si_zip (by rfl) T.z_zip (so_s 1 (pv 1)) (so_s 3 (pv 3))) (blkOk_by (own := [("letter", 4), ("is_seen", 5)]) (by rfl)) (by decide) (fun s H C cl fp => (sg_tup rfl (sgs_cons (sg_name (i := 4) sc_view_of.nd (by rfl) (by first | exact .inl rfl | exact .inr rfl)) (sgs_cons (sg_name (i := 5) sc_view_of.nd (by rfl) (by first | exact .inl rfl | exact .inr rfl)) sgs_nil)))) (fun s H C cl fp => (sps_one (st_val (se_v 5 (pv 5))))) (fun s H C cl fp => (se_v 4 (pv 4)))))))) sa_nil))))))
theorem okV_rest_of (T : Top K mg) : FnOk P w K mg base CX0 4 T.f_rest_of T.d_rest_of ["web", "row", "eye"] (spV K 3 m_rest_of) :=
  fn_V (k := 3) T.F_rest_of sc_rest_of fun cdv A outer s H E hr => by
    have hu := hu64 hr
    exact (ss_cons (ss_set (i := 3) sc_rest_of.nd (by rfl) (by first | exact .inl rfl | exact .inr rfl) (se_call (fv := m_seen_events) (io := [false, false, false]) ((okV_seen_events (P := P) (w := w) (base := base) T).mono (by decide)) hr (by rfl) T.g_seen_events T.F_seen_events.kp T.b_seen_events (sa_cons (so_s 0 (pv 0)) (sa_cons (so_s 1 (pv 1)) (sa_cons (so_s 2 (pv 2)) sa_nil)))))
  (ss_one (ss_ret (se_call (fv := m_least_form) (io := [false, false]) ((okV_least_form (P := P) (w := w) (base := base) T).mono (by decide)) hr (by rfl) T.g_least_form T.F_least_form.kp T.b_least_form (sa_cons (so_s 0 (pv 0)) (sa_cons (so_e (se_tuple (by rfl) T.z_tuple (so_e (se_n (sn_comp (own := [("letter", 4), ("is_seen", 5)]) rfl sc_rest_of.nd (si_zip (by rfl) T.z_zip (so_s 1 (pv 1)) (so_s 3 (pv 3))) (blkOk_by (own := [("letter", 4), ("is_seen", 5)]) (by rfl)) (by decide) (fun s H C cl fp => (sg_tup rfl (sgs_cons (sg_name (i := 4) sc_rest_of.nd (by rfl) (by first | exact .inl rfl | exact .inr rfl)) (sgs_cons (sg_name (i := 5) sc_rest_of.nd (by rfl) (by first | exact .inl rfl | exact .inr rfl)) sgs_nil)))) (fun s H C cl fp => (sps_one (st_not (st_val (se_v 5 (pv 5)))))) (fun s H C cl fp => (se_v 4 (pv 4)))))))) sa_nil))))))
theorem okV_past_of (T : Top K mg) : FnOk P w K mg base CX0 4 T.f_past_of T.d_past_of ["web", "row", "place"] (spV K 3 m_past_of) :=
  fn_V (k := 3) T.F_past_of sc_past_of fun cdv A outer s H E hr => by
    have hu := hu64 hr
    exact (ss_cons (ss_ownD (i := 3) sc_past_of.nd (by rfl) (by first | exact .inl rfl | exact .inr rfl) (sdn_comp (own := [("hand", 6)]) rfl sc_past_of.nd (si_seq (so_e (se_ix (so_e (se_ix (so_s 0 (pv 0)) (so_e (se_d (d := .int 1) pe_int (fun _ _ => .int _))))) (so_e (se_ix (so_s 1 (pv 1)) (so_s 2 (pv 2))))))) (blkOk_by (own := [("hand", 6)]) (by rfl)) (by decide) (fun s H C cl fp => (sg_name (i := 6) sc_past_of.nd (by rfl) (by first | exact .inl rfl | exact .inr rfl))) (fun s H C cl fp => sps_nil) (fun s H C cl fp => (se_v 6 (pv 6))) (fun s H C cl fp => (se_d (d := .bool true) pe_bl (fun _ _ => .bl _)))))
  (ss_cons (ss_own (i := 4) sc_past_of.nd (by rfl) (by first | exact .inl rfl | exact .inr rfl) (sn_lst (sa_cons (so_e (se_ix (so_s 1 (pv 1)) (so_s 2 (pv 2)))) sa_nil)))
  (ss_cons (ss_for PassesOwn.never rfl (si_rev (by rfl) T.z_reversed (so_e (se_cut (so_s 1 (pv 1)) sp_none (sp_some (se_v 2 (pv 2)))))) (sg_name (i := 5) sc_past_of.nd (by rfl) (by first | exact .inl rfl | exact .inr rfl))
  (ss_one (ss_if (st_gt (so_e (se_len (by rfl) T.z_len (so_e (se_n (sn_comp (own := [("hand", 6)]) rfl sc_past_of.nd (si_seq (so_e (se_ix (so_e (se_ix (so_s 0 (pv 0)) (so_e (se_d (d := .int 1) pe_int (fun _ _ => .int _))))) (so_s 5 (pv 5))))) (blkOk_by (own := [("hand", 6)]) (by rfl)) (by decide) (fun s H C cl fp => (sg_name (i := 6) sc_past_of.nd (by rfl) (by first | exact .inl rfl | exact .inr rfl))) (fun s H C cl fp => (sps_one (st_din 3 hu (se_v 6 (pv 6)) (pv 3)))) (fun s H C cl fp => (se_v 6 (pv 6)))))))) (so_e (se_d (d := .int 0) pe_int (fun _ _ => .int _))))
  (ss_cons (ss_append 4 (pv 4) (se_v 5 (pv 5)))
  (ss_one (ss_for PassesOwn.never rfl (si_seq (so_e (se_ix (so_e (se_ix (so_s 0 (pv 0)) (so_e (se_d (d := .int 1) pe_int (fun _ _ => .int _))))) (so_s 5 (pv 5))))) (sg_name (i := 6) sc_past_of.nd (by rfl) (by first | exact .inl rfl | exact .inr rfl))
  (ss_one (ss_dput 3 hu (pv 3) (se_v 6 (pv 6)) (se_d (d := .bool true) pe_bl (fun _ _ => .bl _)))))))
  ss_nil)))
  (ss_one (ss_ret (se_call (fv := m_least_form) (io := [false, false]) ((okV_least_form (P := P) (w := w) (base := base) T).mono (by decide)) hr (by rfl) T.g_least_form T.F_least_form.kp T.b_least_form (sa_cons (so_s 0 (pv 0)) (sa_cons (so_e (se_tuple (by rfl) T.z_tuple (so_e (se_n (sn_rev (so_s 4 (pv 4))))))) sa_nil))))))))
theorem okV__law_any_web (T : Top K mg) : FnOk P w K mg base CX0 4 T.f__law_any_web T.d__law_any_web ["box", "k"] (spV K 2 m__law_any_web) :=
  fn_V (k := 3) T.F__law_any_web sc__law_any_web fun cdv A outer s H E hr => by
    have hu := hu64 hr
    exact (ss_cons (ss_if (st_eq hu (so_s 1 (pv 1)) (so_e (se_d (d := .int 0) pe_int (fun _ _ => .int _))))
  (ss_one (ss_ret (se_call (fv := m__law_lane_web) (io := [true]) ((okV__law_lane_web (P := P) (w := w) (base := base) T).mono (by decide)) hr (by rfl) T.g__law_lane_web T.F__law_lane_web.kp T.b__law_lane_web (sa_cons (so_s 0 (pv 0)) sa_nil))))
  ss_nil)
  (ss_cons (ss_if (st_eq hu (so_s 1 (pv 1)) (so_e (se_d (d := .int 1) pe_int (fun _ _ => .int _))))
  (ss_one (ss_ret (se_call (fv := m__law_web) (io := [true, false, false]) ((okV__law_web (P := P) (w := w) (base := base) T).mono (by decide)) hr (by rfl) T.g__law_web T.F__law_web.kp T.b__law_web (sa_cons (so_s 0 (pv 0)) (sa_cons (so_e (se_d (d := .int 4) pe_int (fun _ _ => .int _))) (sa_cons (so_e (se_d (d := .int 8) pe_int (fun _ _ => .int _))) sa_nil))))))
  ss_nil)
  (ss_one (ss_ret (se_call (fv := m__law_web) (io := [true, false, false]) ((okV__law_web (P := P) (w := w) (base := base) T).mono (by decide)) hr (by rfl) T.g__law_web T.F__law_web.kp T.b__law_web (sa_cons (so_s 0 (pv 0)) (sa_cons (so_e (se_add (so_e (se_d (d := .int 1) pe_int (fun _ _ => .int _))) (so_e (se_call (fv := m__law_take) (io := [true, false]) ((okV__law_take (P := P) (w := w) (base := base) T).mono (by decide)) hr (by rfl) T.g__law_take T.F__law_take.kp T.b__law_take (sa_cons (so_s 0 (pv 0)) (sa_cons (so_e (se_d (d := .int 4) pe_int (fun _ _ => .int _))) sa_nil)))))) (sa_cons (so_e (se_add (so_e (se_d (d := .int 1) pe_int (fun _ _ => .int _))) (so_e (se_call (fv := m__law_take) (io := [true, false]) ((okV__law_take (P := P) (w := w) (base := base) T).mono (by decide)) hr (by rfl) T.g__law_take T.F__law_take.kp T.b__law_take (sa_cons (so_s 0 (pv 0)) (sa_cons (so_e (se_d (d := .int 8) pe_int (fun _ _ => .int _))) sa_nil)))))) sa_nil))))))))
theorem okV__law_row (T : Top K mg) : FnOk P w K mg base CX0 4 T.f__law_row T.d__law_row ["box", "web", "many"] (spV K 3 m__law_row) :=
  fn_V (k := 3) T.F__law_row sc__law_row fun cdv A outer s H E hr => by
    have hu := hu64 hr
    exact (ss_cons (ss_set (i := 3) sc__law_row.nd (by rfl) (by first | exact .inl rfl | exact .inr rfl) (se_call (fv := m__law_bag) (io := [true, false]) ((okV__law_bag (P := P) (w := w) (base := base) T).mono (by decide)) hr (by rfl) T.g__law_bag T.F__law_bag.kp T.b__law_bag (sa_cons (so_s 0 (pv 0)) (sa_cons (so_s 1 (pv 1)) sa_nil))))
  (ss_one (ss_ret (se_tuple (by rfl) T.z_tuple (so_e (se_n (sn_comp (own := [("turn", 4)]) rfl sc__law_row.nd (si_rg1 (by rfl) T.z_range (se_v 2 (pv 2))) (blkOk_by (own := [("turn", 4)]) (by rfl)) (by decide) (fun s H C cl fp => (sg_name (i := 4) sc__law_row.nd (by rfl) (by first | exact .inl rfl | exact .inr rfl))) (fun s H C cl fp => sps_nil) (fun s H C cl fp => (se_call (fv := m__law_pick) (io := [true, false]) ((okV__law_pick (P := P) (w := w) (base := base) T).mono (by decide)) hr (by rfl) T.g__law_pick T.F__law_pick.kp T.b__law_pick (sa_cons (so_s 0 (pv 0)) (sa_cons (so_s 3 (pv 3)) sa_nil)))))))))))
theorem okV__law_part_one (T : Top K mg) : FnOk P w K mg base CX0 7 T.f__law_part_one T.d__law_part_one ["script"] (spV K 1 m__law_part_one) :=
  fn_V (k := 6) T.F__law_part_one sc__law_part_one fun cdv A outer s H E hr => by
    have hu := hu64 hr
    exact (ss_cons (ss_own (i := 1) sc__law_part_one.nd (by rfl) (by first | exact .inl rfl | exact .inr rfl) (sn_lst sa_nil))
  (ss_cons (ss_for PassesOwn.never rfl (si_rg1 (by rfl) T.z_range (se_d (d := .int 4) pe_int (fun _ _ => .int _))) (sg_name (i := 2) sc__law_part_one.nd (by rfl) (by first | exact .inl rfl | exact .inr rfl))
  (ss_cons (ss_own (i := 7) sc__law_part_one.nd (by rfl) (by first | exact .inl rfl | exact .inr rfl) (sn_call (fv := n__law_box) (io := [false, false]) ((okN__law_box (P := P) (w := w) (base := base) T).mono (by decide)) hr (by rfl) T.g__law_box T.F__law_box.kp T.b__law_box (sa_cons (so_s 0 (pv 0)) (sa_cons (so_s 2 (pv 2)) sa_nil))))
  (ss_cons (ss_set (i := 3) sc__law_part_one.nd (by rfl) (by first | exact .inl rfl | exact .inr rfl) (se_call (fv := m__law_any_web) (io := [true, false]) ((okV__law_any_web (P := P) (w := w) (base := base) T).mono (by decide)) hr (by rfl) T.g__law_any_web T.F__law_any_web.kp T.b__law_any_web (sa_cons (so_s 7 (pv 7)) (sa_cons (so_s 2 (pv 2)) sa_nil))))
  (ss_cons (ss_set (i := 4) sc__law_part_one.nd (by rfl) (by first | exact .inl rfl | exact .inr rfl) (se_call (fv := m__law_row) (io := [true, false, false]) ((okV__law_row (P := P) (w := w) (base := base) T).mono (by decide)) hr (by rfl) T.g__law_row T.F__law_row.kp T.b__law_row (sa_cons (so_s 7 (pv 7)) (sa_cons (so_s 3 (pv 3)) (sa_cons (so_e (se_if (st_lt (so_s 2 (pv 2)) (so_e (se_d (d := .int 2) pe_int (fun _ _ => .int _)))) (se_d (d := .int 60) pe_int (fun _ _ => .int _)) (se_call (fv := m__law_pick) (io := [true, false]) ((okV__law_pick (P := P) (w := w) (base := base) T).mono (by decide)) hr (by rfl) T.g__law_pick T.F__law_pick.kp T.b__law_pick (sa_cons (so_s 7 (pv 7)) (sa_cons (so_e (se_n (sn_lst (sa_cons (so_e (se_d (d := .int 0) pe_int (fun _ _ => .int _))) (sa_cons (so_e (se_d (d := .int 1) pe_int (fun _ _ => .int _))) (sa_cons (so_e (se_d (d := .int 2) pe_int (fun _ _ => .int _))) (sa_cons (so_e (se_d (d := .int 5) pe_int (fun _ _ => .int _))) (sa_cons (so_e (se_d (d := .int 12) pe_int (fun _ _ => .int _))) (sa_cons (so_e (se_d (d := .int 30) pe_int (fun _ _ => .int _))) (sa_cons (so_e (se_d (d := .int 59) pe_int (fun _ _ => .int _))) sa_nil)))))))))) sa_nil))))) sa_nil)))))
  (ss_cons (ss_for PassesOwn.never rfl (si_rg1 (by rfl) T.z_range (se_d (d := .int 3) pe_int (fun _ _ => .int _))) (sg_name (i := 8) sc__law_part_one.nd (by rfl) (by first | exact .inl rfl | exact .inr rfl))
  (ss_cons (ss_set (i := 5) sc__law_part_one.nd (by rfl) (by first | exact .inl rfl | exact .inr rfl) (se_if (st_gt (so_s 8 (pv 8)) (so_e (se_d (d := .int 0) pe_int (fun _ _ => .int _)))) (se_call (fv := m__law_eye) (io := [true, false]) ((okV__law_eye (P := P) (w := w) (base := base) T).mono (by decide)) hr (by rfl) T.g__law_eye T.F__law_eye.kp T.b__law_eye (sa_cons (so_s 7 (pv 7)) (sa_cons (so_s 3 (pv 3)) sa_nil))) (se_tup (sa_cons (so_e (se_call (fv := m__law_take) (io := [true, false]) ((okV__law_take (P := P) (w := w) (base := base) T).mono (by decide)) hr (by rfl) T.g__law_take T.F__law_take.kp T.b__law_take (sa_cons (so_s 7 (pv 7)) (sa_cons (so_e (se_len (by rfl) T.z_len (so_e (se_ix (so_s 3 (pv 3)) (so_e (se_d (d := .int 1) pe_int (fun _ _ => .int _))))))) sa_nil)))) sa_nil))))
  (ss_cons (ss_set (i := 6) sc__law_part_one.nd (by rfl) (by first | exact .inl rfl | exact .inr rfl) (se_call (fv := m__law_view) (io := [false, false, false]) ((okV__law_view (P := P) (w := w) (base := base) T).mono (by decide)) hr (by rfl) T.g__law_view T.F__law_view.kp T.b__law_view (sa_cons (so_s 3 (pv 3)) (sa_cons (so_s 4 (pv 4)) (sa_cons (so_s 5 (pv 5)) sa_nil)))))
  (ss_cons (ss_if (st_not (st_val (se_call (fv := (m__law_same 6)) (io := [false, false]) (((okV__law_same (P := P) (w := w) (base := base) T) 6).mono (by decide)) hr (by rfl) T.g__law_same T.F__law_same.kp T.b__law_same (sa_cons (so_e (se_call (fv := m_view_of) (io := [false, false, false]) ((okV_view_of (P := P) (w := w) (base := base) T).mono (by decide)) hr (by rfl) T.g_view_of T.F_view_of.kp T.b_view_of (sa_cons (so_s 3 (pv 3)) (sa_cons (so_s 4 (pv 4)) (sa_cons (so_s 5 (pv 5)) sa_nil))))) (sa_cons (so_s 6 (pv 6)) sa_nil)))))
  (ss_one (ss_ret (se_d (d := .bool false) pe_bl (fun _ _ => .bl _))))
  ss_nil)
  (ss_one (ss_append 1 (pv 1) (se_tup (sa_cons (so_s 3 (pv 3)) (sa_cons (so_s 4 (pv 4)) (sa_cons (so_s 5 (pv 5)) (sa_cons (so_s 6 (pv 6)) sa_nil)))))))))))
  (ss_cons (ss_set (i := 9) sc__law_part_one.nd (by rfl) (by first | exact .inl rfl | exact .inr rfl) (se_call (fv := m__law_web) (io := [true, false, false]) ((okV__law_web (P := P) (w := w) (base := base) T).mono (by decide)) hr (by rfl) T.g__law_web T.F__law_web.kp T.b__law_web (sa_cons (so_s 7 (pv 7)) (sa_cons (so_e (se_ix (so_s 3 (pv 3)) (so_e (se_d (d := .int 0) pe_int (fun _ _ => .int _))))) (sa_cons (so_e (se_len (by rfl) T.z_len (so_e (se_ix (so_s 3 (pv 3)) (so_e (se_d (d := .int 1) pe_int (fun _ _ => .int _))))))) sa_nil)))))
  (ss_one (ss_if (st_not (st_val (se_call (fv := (m__law_same 6)) (io := [false, false]) (((okV__law_same (P := P) (w := w) (base := base) T) 6).mono (by decide)) hr (by rfl) T.g__law_same T.F__law_same.kp T.b__law_same (sa_cons (so_e (se_call (fv := m_view_of) (io := [false, false, false]) ((okV_view_of (P := P) (w := w) (base := base) T).mono (by decide)) hr (by rfl) T.g_view_of T.F_view_of.kp T.b_view_of (sa_cons (so_s 9 (pv 9)) (sa_cons (so_s 4 (pv 4)) (sa_cons (so_e (se_ix (so_e (se_ix (so_s 1 (pv 1)) (so_e (se_neg (se_d (d := .int 1) pe_int (fun _ _ => .int _)))))) (so_e (se_d (d := .int 2) pe_int (fun _ _ => .int _))))) sa_nil))))) (sa_cons (so_e (se_call (fv := m__law_view) (io := [false, false, false]) ((okV__law_view (P := P) (w := w) (base := base) T).mono (by decide)) hr (by rfl) T.g__law_view T.F__law_view.kp T.b__law_view (sa_cons (so_s 9 (pv 9)) (sa_cons (so_s 4 (pv 4)) (sa_cons (so_e (se_ix (so_e (se_ix (so_s 1 (pv 1)) (so_e (se_neg (se_d (d := .int 1) pe_int (fun _ _ => .int _)))))) (so_e (se_d (d := .int 2) pe_int (fun _ _ => .int _))))) sa_nil))))) sa_nil)))))
  (ss_one (ss_ret (se_d (d := .bool false) pe_bl (fun _ _ => .bl _))))
  ss_nil))))))))
  (ss_cons (ss_for PassesOwn.never rfl (si_rev (by rfl) T.z_reversed (so_s 1 (pv 1))) (sg_tup rfl (sgs_cons (sg_name (i := 3) sc__law_part_one.nd (by rfl) (by first | exact .inl rfl | exact .inr rfl)) (sgs_cons (sg_name (i := 4) sc__law_part_one.nd (by rfl) (by first | exact .inl rfl | exact .inr rfl)) (sgs_cons (sg_name (i := 5) sc__law_part_one.nd (by rfl) (by first | exact .inl rfl | exact .inr rfl)) (sgs_cons (sg_name (i := 6) sc__law_part_one.nd (by rfl) (by first | exact .inl rfl | exact .inr rfl)) sgs_nil)))))
  (ss_one (ss_if (st_not (st_val (se_call (fv := (m__law_same 6)) (io := [false, false]) (((okV__law_same (P := P) (w := w) (base := base) T) 6).mono (by decide)) hr (by rfl) T.g__law_same T.F__law_same.kp T.b__law_same (sa_cons (so_e (se_callKw (fv := m_view_of) (io := [false, false, false]) ((okV_view_of (P := P) (w := w) (base := base) T).mono (by decide)) hr (by rfl) T.g_view_of T.F_view_of.kp T.k_view_of (sk_cons (so_s 3 (pv 3)) (sk_cons (so_s 4 (pv 4)) (sk_cons (so_s 5 (pv 5)) sk_nil))))) (sa_cons (so_s 6 (pv 6)) sa_nil)))))
  (ss_one (ss_ret (se_d (d := .bool false) pe_bl (fun _ _ => .bl _))))
  ss_nil)))
  (ss_one (ss_ret (se_d (d := .bool true) pe_bl (fun _ _ => .bl _)))))))
theorem okV__law_asked_rest (T : Top K mg) : FnOk P w K mg base CX0 7 T.f__law_asked_rest T.d__law_asked_rest ["web", "row", "eye"] (spV K 3 m__law_asked_rest) :=
  fn_V (k := 6) T.F__law_asked_rest sc__law_asked_rest fun cdv A outer s H E hr => by
    have hu := hu64 hr
    exact (ss_cons (ss_set (i := 3) sc__law_asked_rest.nd (by rfl) (by first | exact .inl rfl | exact .inr rfl) (se_call (fv := m__law_least) (io := [false, false]) ((okV__law_least (P := P) (w := w) (base := base) T).mono (by decide)) hr (by rfl) T.g__law_least T.F__law_least.kp T.b__law_least (sa_cons (so_s 0 (pv 0)) (sa_cons (so_e (se_call (fv := m__law_part) (io := [false, false, false]) ((okV__law_part (P := P) (w := w) (base := base) T).mono (by decide)) hr (by rfl) T.g__law_part T.F__law_part.kp T.b__law_part (sa_cons (so_s 1 (pv 1)) (sa_cons (so_e (se_call (fv := m__law_marks) (io := [false, false, false]) ((okV__law_marks (P := P) (w := w) (base := base) T).mono (by decide)) hr (by rfl) T.g__law_marks T.F__law_marks.kp T.b__law_marks (sa_cons (so_s 0 (pv 0)) (sa_cons (so_s 1 (pv 1)) (sa_cons (so_s 2 (pv 2)) sa_nil))))) (sa_cons (so_e (se_d (d := .bool false) pe_bl (fun _ _ => .bl _))) sa_nil))))) sa_nil))))
  (ss_cons (ss_par (i := 4) (j := 5) rfl sc__law_asked_rest.nd (by rfl) (by rfl) (by decide) (by rfl) (by rfl) (sa_cons (so_e (se_call (fv := m_view_of) (io := [false, false, false]) ((okV_view_of (P := P) (w := w) (base := base) T).mono (by decide)) hr (by rfl) T.g_view_of T.F_view_of.kp T.b_view_of (sa_cons (so_s 0 (pv 0)) (sa_cons (so_s 1 (pv 1)) (sa_cons (so_s 2 (pv 2)) sa_nil))))) (sa_cons (so_e (se_call (fv := m_rest_of) (io := [false, false, false]) ((okV_rest_of (P := P) (w := w) (base := base) T).mono (by decide)) hr (by rfl) T.g_rest_of T.F_rest_of.kp T.b_rest_of (sa_cons (so_s 0 (pv 0)) (sa_cons (so_s 1 (pv 1)) (sa_cons (so_s 2 (pv 2)) sa_nil))))) sa_nil)) (by rfl))
  (ss_cons (ss_if (st_w (sw_or (st_not (st_val (se_call (fv := (m__law_same 6)) (io := [false, false]) (((okV__law_same (P := P) (w := w) (base := base) T) 6).mono (by decide)) hr (by rfl) T.g__law_same T.F__law_same.kp T.b__law_same (sa_cons (so_s 5 (pv 5)) (sa_cons (so_s 3 (pv 3)) sa_nil))))) (sw_or1 (st_not (st_val (se_call (fv := (m__law_same 6)) (io := [false, false]) (((okV__law_same (P := P) (w := w) (base := base) T) 6).mono (by decide)) hr (by rfl) T.g__law_same T.F__law_same.kp T.b__law_same (sa_cons (so_s 4 (pv 4)) (sa_cons (so_e (se_call (fv := m__law_view) (io := [false, false, false]) ((okV__law_view (P := P) (w := w) (base := base) T).mono (by decide)) hr (by rfl) T.g__law_view T.F__law_view.kp T.b__law_view (sa_cons (so_s 0 (pv 0)) (sa_cons (so_s 1 (pv 1)) (sa_cons (so_s 2 (pv 2)) sa_nil))))) sa_nil))))))))
  (ss_one (ss_ret (se_d (d := .bool false) pe_bl (fun _ _ => .bl _))))
  ss_nil)
  (ss_cons (ss_setLc (i := 6) (own := [("letter", 7)]) rfl sc__law_asked_rest.nd (by rfl) (by rfl) (sw_true rfl rfl rfl (by decide +kernel)) (si_seq (so_s 5 (pv 5))) (blkOk_by (own := [("letter", 7)]) (by rfl)) (by decide) (fun s H C cl fp => (sg_name (i := 7) sc__law_asked_rest.nd (by rfl) (by first | exact .inl rfl | exact .inr rfl))) (fun s H C cl fp => (sps_one (st_in (so_s 7 (pv 7)) (so_s 2 (pv 2))))) (fun s H C cl fp => (se_v 7 (pv 7))))
  (ss_one (ss_ret (se_and (se_eq hu (so_e (se_len (by rfl) T.z_len (so_s 6 (pv 6)))) (so_e (se_d (d := .int 0) pe_int (fun _ _ => .int _)))) (se_one (se_eq hu (so_e (se_call (fv := m__law_lanes) (io := [false, false]) ((okV__law_lanes (P := P) (w := w) (base := base) T).mono (by decide)) hr (by rfl) T.g__law_lanes T.F__law_lanes.kp T.b__law_lanes (sa_cons (so_s 0 (pv 0)) (sa_cons (so_e (se_add (so_s 4 (pv 4)) (so_s 5 (pv 5)))) sa_nil)))) (so_e (se_call (fv := m__law_lanes) (io := [false, false]) ((okV__law_lanes (P := P) (w := w) (base := base) T).mono (by decide)) hr (by rfl) T.g__law_lanes T.F__law_lanes.kp T.b__law_lanes (sa_cons (so_s 0 (pv 0)) (sa_cons (so_s 1 (pv 1)) sa_nil)))))))))))))
theorem okV__law_asked_past (T : Top K mg) : FnOk P w K mg base CX0 7 T.f__law_asked_past T.d__law_asked_past ["web", "row", "place"] (spV K 3 m__law_asked_past) :=
  fn_V (k := 6) T.F__law_asked_past sc__law_asked_past fun cdv A outer s H E hr => by
    have hu := hu64 hr
    exact (ss_cons (ss_set (i := 3) sc__law_asked_past.nd (by rfl) (by first | exact .inl rfl | exact .inr rfl) (se_call (fv := m__law_past) (io := [false, false, false]) ((okV__law_past (P := P) (w := w) (base := base) T).mono (by decide)) hr (by rfl) T.g__law_past T.F__law_past.kp T.b__law_past (sa_cons (so_s 0 (pv 0)) (sa_cons (so_s 1 (pv 1)) (sa_cons (so_s 2 (pv 2)) sa_nil)))))
  (ss_cons (ss_set (i := 4) sc__law_asked_past.nd (by rfl) (by first | exact .inl rfl | exact .inr rfl) (se_call (fv := m_past_of) (io := [false, false, false]) ((okV_past_of (P := P) (w := w) (base := base) T).mono (by decide)) hr (by rfl) T.g_past_of T.F_past_of.kp T.b_past_of (sa_cons (so_s 0 (pv 0)) (sa_cons (so_s 1 (pv 1)) (sa_cons (so_s 2 (pv 2)) sa_nil)))))
  (ss_cons (ss_if (st_not (st_val (se_call (fv := (m__law_same 6)) (io := [false, false]) (((okV__law_same (P := P) (w := w) (base := base) T) 6).mono (by decide)) hr (by rfl) T.g__law_same T.F__law_same.kp T.b__law_same (sa_cons (so_s 4 (pv 4)) (sa_cons (so_s 3 (pv 3)) sa_nil)))))
  (ss_one (ss_ret (se_d (d := .bool false) pe_bl (fun _ _ => .bl _))))
  ss_nil)
  (ss_one (ss_ret (se_or (se_in (so_e (se_ix (so_s 1 (pv 1)) (so_s 2 (pv 2)))) (so_e (se_cut (so_s 1 (pv 1)) (sp_some (se_add (so_s 2 (pv 2)) (so_e (se_d (d := .int 1) pe_int (fun _ _ => .int _))))) sp_none))) (se_one (se_call (fv := (m__law_same 6)) (io := [false, false]) (((okV__law_same (P := P) (w := w) (base := base) T) 6).mono (by decide)) hr (by rfl) T.g__law_same T.F__law_same.kp T.b__law_same (sa_cons (so_e (se_call (fv := m_view_of) (io := [false, false, false]) ((okV_view_of (P := P) (w := w) (base := base) T).mono (by decide)) hr (by rfl) T.g_view_of T.F_view_of.kp T.b_view_of (sa_cons (so_s 0 (pv 0)) (sa_cons (so_s 1 (pv 1)) (sa_cons (so_e (se_tup (sa_cons (so_e (se_ix (so_s 1 (pv 1)) (so_s 2 (pv 2)))) sa_nil))) sa_nil))))) (sa_cons (so_s 3 (pv 3)) sa_nil))))))))))
theorem okV__law_part_two (T : Top K mg) : FnOk P w K mg base CX0 8 T.f__law_part_two T.d__law_part_two ["script"] (spV K 1 m__law_part_two) :=
  fn_V (k := 7) T.F__law_part_two sc__law_part_two fun cdv A outer s H E hr => by
    have hu := hu64 hr
    exact (ss_cons (ss_own (i := 1) sc__law_part_two.nd (by rfl) (by first | exact .inl rfl | exact .inr rfl) (sn_lst sa_nil))
  (ss_cons (ss_for PassesOwn.never rfl (si_rg1 (by rfl) T.z_range (se_d (d := .int 4) pe_int (fun _ _ => .int _))) (sg_name (i := 2) sc__law_part_two.nd (by rfl) (by first | exact .inl rfl | exact .inr rfl))
  (ss_cons (ss_own (i := 6) sc__law_part_two.nd (by rfl) (by first | exact .inl rfl | exact .inr rfl) (sn_call (fv := n__law_box) (io := [false, false]) ((okN__law_box (P := P) (w := w) (base := base) T).mono (by decide)) hr (by rfl) T.g__law_box T.F__law_box.kp T.b__law_box (sa_cons (so_s 0 (pv 0)) (sa_cons (so_s 2 (pv 2)) sa_nil))))
  (ss_cons (ss_set (i := 3) sc__law_part_two.nd (by rfl) (by first | exact .inl rfl | exact .inr rfl) (se_call (fv := m__law_any_web) (io := [true, false]) ((okV__law_any_web (P := P) (w := w) (base := base) T).mono (by decide)) hr (by rfl) T.g__law_any_web T.F__law_any_web.kp T.b__law_any_web (sa_cons (so_s 6 (pv 6)) (sa_cons (so_s 2 (pv 2)) sa_nil))))
  (ss_cons (ss_set (i := 4) sc__law_part_two.nd (by rfl) (by first | exact .inl rfl | exact .inr rfl) (se_call (fv := m__law_row) (io := [true, false, false]) ((okV__law_row (P := P) (w := w) (base := base) T).mono (by decide)) hr (by rfl) T.g__law_row T.F__law_row.kp T.b__law_row (sa_cons (so_s 6 (pv 6)) (sa_cons (so_s 3 (pv 3)) (sa_cons (so_e (se_if (st_lt (so_s 2 (pv 2)) (so_e (se_d (d := .int 2) pe_int (fun _ _ => .int _)))) (se_d (d := .int 60) pe_int (fun _ _ => .int _)) (se_call (fv := m__law_pick) (io := [true, false]) ((okV__law_pick (P := P) (w := w) (base := base) T).mono (by decide)) hr (by rfl) T.g__law_pick T.F__law_pick.kp T.b__law_pick (sa_cons (so_s 6 (pv 6)) (sa_cons (so_e (se_n (sn_lst (sa_cons (so_e (se_d (d := .int 0) pe_int (fun _ _ => .int _))) (sa_cons (so_e (se_d (d := .int 1) pe_int (fun _ _ => .int _))) (sa_cons (so_e (se_d (d := .int 2) pe_int (fun _ _ => .int _))) (sa_cons (so_e (se_d (d := .int 5) pe_int (fun _ _ => .int _))) (sa_cons (so_e (se_d (d := .int 12) pe_int (fun _ _ => .int _))) (sa_cons (so_e (se_d (d := .int 30) pe_int (fun _ _ => .int _))) (sa_cons (so_e (se_d (d := .int 59) pe_int (fun _ _ => .int _))) sa_nil)))))))))) sa_nil))))) sa_nil)))))
  (ss_cons (ss_for PassesOwn.never rfl (si_rg1 (by rfl) T.z_range (se_d (d := .int 3) pe_int (fun _ _ => .int _))) (sg_name (i := 7) sc__law_part_two.nd (by rfl) (by first | exact .inl rfl | exact .inr rfl))
  (ss_cons (ss_set (i := 5) sc__law_part_two.nd (by rfl) (by first | exact .inl rfl | exact .inr rfl) (se_if (st_gt (so_s 7 (pv 7)) (so_e (se_d (d := .int 0) pe_int (fun _ _ => .int _)))) (se_call (fv := m__law_eye) (io := [true, false]) ((okV__law_eye (P := P) (w := w) (base := base) T).mono (by decide)) hr (by rfl) T.g__law_eye T.F__law_eye.kp T.b__law_eye (sa_cons (so_s 6 (pv 6)) (sa_cons (so_s 3 (pv 3)) sa_nil))) (se_tup (sa_cons (so_e (se_call (fv := m__law_take) (io := [true, false]) ((okV__law_take (P := P) (w := w) (base := base) T).mono (by decide)) hr (by rfl) T.g__law_take T.F__law_take.kp T.b__law_take (sa_cons (so_s 6 (pv 6)) (sa_cons (so_e (se_len (by rfl) T.z_len (so_e (se_ix (so_s 3 (pv 3)) (so_e (se_d (d := .int 1) pe_int (fun _ _ => .int _))))))) sa_nil)))) sa_nil))))
  (ss_cons (ss_if (st_not (st_val (se_call (fv := m__law_asked_rest) (io := [false, false, false]) ((okV__law_asked_rest (P := P) (w := w) (base := base) T).mono (by decide)) hr (by rfl) T.g__law_asked_rest T.F__law_asked_rest.kp T.b__law_asked_rest (sa_cons (so_s 3 (pv 3)) (sa_cons (so_s 4 (pv 4)) (sa_cons (so_s 5 (pv 5)) sa_nil))))))
  (ss_one (ss_ret (se_d (d := .bool false) pe_bl (fun _ _ => .bl _))))
  ss_nil)
  (ss_one (ss_append 1 (pv 1) (se_tup (sa_cons (so_s 3 (pv 3)) (sa_cons (so_s 4 (pv 4)) (sa_cons (so_s 5 (pv 5)) sa_nil)))))))))
  (ss_one (ss_for PassesOwn.never rfl (si_seq (so_e (se_n (sn_lst (sa_cons (so_e (se_d (d := .int 0) pe_int (fun _ _ => .int _))) (sa_cons (so_e (se_sub (so_e (se_len (by rfl) T.z_len (so_s 4 (pv 4)))) (so_e (se_d (d := .int 1) pe_int (fun _ _ => .int _))))) (sa_cons (so_e (se_call (fv := m__law_take) (io := [true, false]) ((okV__law_take (P := P) (w := w) (base := base) T).mono (by decide)) hr (by rfl) T.g__law_take T.F__law_take.kp T.b__law_take (sa_cons (so_s 6 (pv 6)) (sa_cons (so_e (se_d (d := .int 60) pe_int (fun _ _ => .int _))) sa_nil)))) (sa_cons (so_e (se_call (fv := m__law_take) (io := [true, false]) ((okV__law_take (P := P) (w := w) (base := base) T).mono (by decide)) hr (by rfl) T.g__law_take T.F__law_take.kp T.b__law_take (sa_cons (so_s 6 (pv 6)) (sa_cons (so_e (se_d (d := .int 60) pe_int (fun _ _ => .int _))) sa_nil)))) (sa_cons (so_e (se_sub (so_e (se_len (by rfl) T.z_len (so_s 4 (pv 4)))) (so_e (se_d (d := .int 2) pe_int (fun _ _ => .int _))))) (sa_cons (so_e (se_div (so_e (se_len (by rfl) T.z_len (so_s 4 (pv 4)))) (so_e (se_d (d := .int 2) pe_int (fun _ _ => .int _))))) sa_nil)))))))))) (sg_name (i := 8) sc__law_part_two.nd (by rfl) (by first | exact .inl rfl | exact .inr rfl))
  (ss_one (ss_if (st_w (sw_and (st_chain op_le op_lt os_IB os_IB (so_e (se_d (d := .int 0) pe_int (fun _ _ => .int _))) (so_s 8 (pv 8)) (so_e (se_len (by rfl) T.z_len (so_s 4 (pv 4))))) (sw_and1 (st_not (st_val (se_call (fv := m__law_asked_past) (io := [false, false, false]) ((okV__law_asked_past (P := P) (w := w) (base := base) T).mono (by decide)) hr (by rfl) T.g__law_asked_past T.F__law_asked_past.kp T.b__law_asked_past (sa_cons (so_s 3 (pv 3)) (sa_cons (so_s 4 (pv 4)) (sa_cons (so_s 8 (pv 8)) sa_nil)))))))))
  (ss_one (ss_ret (se_d (d := .bool false) pe_bl (fun _ _ => .bl _))))
  ss_nil)))))))))
  (ss_cons (ss_for PassesOwn.never rfl (si_rev (by rfl) T.z_reversed (so_s 1 (pv 1))) (sg_tup rfl (sgs_cons (sg_name (i := 3) sc__law_part_two.nd (by rfl) (by first | exact .inl rfl | exact .inr rfl)) (sgs_cons (sg_name (i := 4) sc__law_part_two.nd (by rfl) (by first | exact .inl rfl | exact .inr rfl)) (sgs_cons (sg_name (i := 5) sc__law_part_two.nd (by rfl) (by first | exact .inl rfl | exact .inr rfl)) sgs_nil))))
  (ss_cons (ss_set (i := 9) sc__law_part_two.nd (by rfl) (by first | exact .inl rfl | exact .inr rfl) (se_call (fv := m__law_least) (io := [false, false]) ((okV__law_least (P := P) (w := w) (base := base) T).mono (by decide)) hr (by rfl) T.g__law_least T.F__law_least.kp T.b__law_least (sa_cons (so_s 3 (pv 3)) (sa_cons (so_e (se_call (fv := m__law_part) (io := [false, false, false]) ((okV__law_part (P := P) (w := w) (base := base) T).mono (by decide)) hr (by rfl) T.g__law_part T.F__law_part.kp T.b__law_part (sa_cons (so_s 4 (pv 4)) (sa_cons (so_e (se_call (fv := m__law_marks) (io := [false, false, false]) ((okV__law_marks (P := P) (w := w) (base := base) T).mono (by decide)) hr (by rfl) T.g__law_marks T.F__law_marks.kp T.b__law_marks (sa_cons (so_s 3 (pv 3)) (sa_cons (so_s 4 (pv 4)) (sa_cons (so_s 5 (pv 5)) sa_nil))))) (sa_cons (so_e (se_d (d := .bool false) pe_bl (fun _ _ => .bl _))) sa_nil))))) sa_nil))))
  (ss_cons (ss_if (st_not (st_val (se_call (fv := (m__law_same 6)) (io := [false, false]) (((okV__law_same (P := P) (w := w) (base := base) T) 6).mono (by decide)) hr (by rfl) T.g__law_same T.F__law_same.kp T.b__law_same (sa_cons (so_e (se_callKw (fv := m_rest_of) (io := [false, false, false]) ((okV_rest_of (P := P) (w := w) (base := base) T).mono (by decide)) hr (by rfl) T.g_rest_of T.F_rest_of.kp T.k_rest_of (sk_cons (so_s 3 (pv 3)) (sk_cons (so_s 4 (pv 4)) (sk_cons (so_s 5 (pv 5)) sk_nil))))) (sa_cons (so_s 9 (pv 9)) sa_nil)))))
  (ss_one (ss_ret (se_d (d := .bool false) pe_bl (fun _ _ => .bl _))))
  ss_nil)
  (ss_one (ss_if (st_w (sw_and (st_gt (so_e (se_len (by rfl) T.z_len (so_s 4 (pv 4)))) (so_e (se_d (d := .int 0) pe_int (fun _ _ => .int _)))) (sw_and1 (st_not (st_val (se_call (fv := (m__law_same 6)) (io := [false, false]) (((okV__law_same (P := P) (w := w) (base := base) T) 6).mono (by decide)) hr (by rfl) T.g__law_same T.F__law_same.kp T.b__law_same (sa_cons (so_e (se_callKw (fv := m_past_of) (io := [false, false, false]) ((okV_past_of (P := P) (w := w) (base := base) T).mono (by decide)) hr (by rfl) T.g_past_of T.F_past_of.kp T.k_past_of (sk_cons (so_s 3 (pv 3)) (sk_cons (so_s 4 (pv 4)) (sk_cons (so_e (se_div (so_e (se_len (by rfl) T.z_len (so_s 4 (pv 4)))) (so_e (se_d (d := .int 3) pe_int (fun _ _ => .int _))))) sk_nil))))) (sa_cons (so_e (se_call (fv := m__law_past) (io := [false, false, false]) ((okV__law_past (P := P) (w := w) (base := base) T).mono (by decide)) hr (by rfl) T.g__law_past T.F__law_past.kp T.b__law_past (sa_cons (so_s 3 (pv 3)) (sa_cons (so_s 4 (pv 4)) (sa_cons (so_e (se_div (so_e (se_len (by rfl) T.z_len (so_s 4 (pv 4)))) (so_e (se_d (d := .int 3) pe_int (fun _ _ => .int _))))) sa_nil))))) sa_nil))))))))
  (ss_one (ss_ret (se_d (d := .bool false) pe_bl (fun _ _ => .bl _))))
  ss_nil)))))
  (ss_one (ss_ret (se_d (d := .bool true) pe_bl (fun _ _ => .bl _)))))))
theorem okV_law (T : Top K mg) : FnOk P w K mg base CX0 9 T.f_law T.d_law ["script"] (spV K 1 m_law) :=
  fn_V (k := 8) T.F_law sc_law fun cdv A outer s H E hr => by
    have hu := hu64 hr
    exact (ss_one (ss_ret (se_and (se_call (fv := m__law_part_one) (io := [false]) ((okV__law_part_one (P := P) (w := w) (base := base) T).mono (by decide)) hr (by rfl) T.g__law_part_one T.F__law_part_one.kp T.b__law_part_one (sa_cons (so_e (se_n (sn_step (by decide) (so_s 0 (pv 0))))) sa_nil)) (se_one (se_call (fv := m__law_part_two) (io := [false]) ((okV__law_part_two (P := P) (w := w) (base := base) T).mono (by decide)) hr (by rfl) T.g__law_part_two T.F__law_part_two.kp T.b__law_part_two (sa_cons (so_e (se_n (sn_step (by decide) (so_s 0 (pv 0))))) sa_nil))))))
end
end K13
set_option maxRecDepth 100000
set_option maxHeartbeats 4000000
namespace K13
open PySem PySem.Spec PyProof.Rows L2 ML
theorem all_mk {l : PySem.W.OpenLaw} {w : World} {K : PySem.W.Frag} {h : Heap} {mg : Str → Option Value} {fa : Addr} (X : K.In h) (G : h.Ns mainGlobals mg) (hfa : mg "law" = some (.ref fa))
    {f0 : Addr} {od0 an0 : Option Addr} {sl0 : Array (Option Value)} {oc0 kV0 dc0 pm0 cd0 ct0 : Value}
    (a0 : PySem.W.nsIn K mainGlobals "shut_hands" = some (some (.ref f0))) (l0 : K.lookup f0 = some ⟨oc0, od0, .func (PySem.W.fnOf "shut_hands" "shut_hands" (defArgs s_shut_hands) (defBody s_shut_hands) (defScope s_shut_hands) .none kV0 dc0 pm0 an0 cd0 ct0), sl0⟩) (c0 : PySem.W.codeIn K cd0 "shut_hands" = true) (k0 : PySem.W.keepIn K (.ref f0) = true)
    {f1 : Addr} {od1 an1 : Option Addr} {sl1 : Array (Option Value)} {oc1 kV1 dc1 pm1 cd1 ct1 : Value}
    (a1 : PySem.W.nsIn K mainGlobals "seen_events" = some (some (.ref f1))) (l1 : K.lookup f1 = some ⟨oc1, od1, .func (PySem.W.fnOf "seen_events" "seen_events" (defArgs s_seen_events) (defBody s_seen_events) (defScope s_seen_events) .none kV1 dc1 pm1 an1 cd1 ct1), sl1⟩) (c1 : PySem.W.codeIn K cd1 "seen_events" = true) (k1 : PySem.W.keepIn K (.ref f1) = true)
    {f2 : Addr} {od2 an2 : Option Addr} {sl2 : Array (Option Value)} {oc2 kV2 dc2 pm2 cd2 ct2 : Value}
    (a2 : PySem.W.nsIn K mainGlobals "_law_box" = some (some (.ref f2))) (l2 : K.lookup f2 = some ⟨oc2, od2, .func (PySem.W.fnOf "_law_box" "_law_box" (defArgs s__law_box) (defBody s__law_box) (defScope s__law_box) .none kV2 dc2 pm2 an2 cd2 ct2), sl2⟩) (c2 : PySem.W.codeIn K cd2 "_law_box" = true) (k2 : PySem.W.keepIn K (.ref f2) = true)
    {f3 : Addr} {od3 an3 : Option Addr} {sl3 : Array (Option Value)} {oc3 kV3 dc3 pm3 cd3 ct3 : Value}
    (a3 : PySem.W.nsIn K mainGlobals "_law_take" = some (some (.ref f3))) (l3 : K.lookup f3 = some ⟨oc3, od3, .func (PySem.W.fnOf "_law_take" "_law_take" (defArgs s__law_take) (defBody s__law_take) (defScope s__law_take) .none kV3 dc3 pm3 an3 cd3 ct3), sl3⟩) (c3 : PySem.W.codeIn K cd3 "_law_take" = true) (k3 : PySem.W.keepIn K (.ref f3) = true)
    {f4 : Addr} {od4 an4 : Option Addr} {sl4 : Array (Option Value)} {oc4 kV4 dc4 pm4 cd4 ct4 : Value}
    (a4 : PySem.W.nsIn K mainGlobals "_law_same" = some (some (.ref f4))) (l4 : K.lookup f4 = some ⟨oc4, od4, .func (PySem.W.fnOf "_law_same" "_law_same" (defArgs s__law_same) (defBody s__law_same) (defScope s__law_same) .none kV4 dc4 pm4 an4 cd4 ct4), sl4⟩) (c4 : PySem.W.codeIn K cd4 "_law_same" = true) (k4 : PySem.W.keepIn K (.ref f4) = true)
    {f5 : Addr} {od5 an5 : Option Addr} {sl5 : Array (Option Value)} {oc5 kV5 dc5 pm5 cd5 ct5 : Value}
    (a5 : PySem.W.nsIn K mainGlobals "_law_marks" = some (some (.ref f5))) (l5 : K.lookup f5 = some ⟨oc5, od5, .func (PySem.W.fnOf "_law_marks" "_law_marks" (defArgs s__law_marks) (defBody s__law_marks) (defScope s__law_marks) .none kV5 dc5 pm5 an5 cd5 ct5), sl5⟩) (c5 : PySem.W.codeIn K cd5 "_law_marks" = true) (k5 : PySem.W.keepIn K (.ref f5) = true)
    {f6 : Addr} {od6 an6 : Option Addr} {sl6 : Array (Option Value)} {oc6 kV6 dc6 pm6 cd6 ct6 : Value}
    (a6 : PySem.W.nsIn K mainGlobals "_law_lanes" = some (some (.ref f6))) (l6 : K.lookup f6 = some ⟨oc6, od6, .func (PySem.W.fnOf "_law_lanes" "_law_lanes" (defArgs s__law_lanes) (defBody s__law_lanes) (defScope s__law_lanes) .none kV6 dc6 pm6 an6 cd6 ct6), sl6⟩) (c6 : PySem.W.codeIn K cd6 "_law_lanes" = true) (k6 : PySem.W.keepIn K (.ref f6) = true)
    {f7 : Addr} {od7 an7 : Option Addr} {sl7 : Array (Option Value)} {oc7 kV7 dc7 pm7 cd7 ct7 : Value}
    (a7 : PySem.W.nsIn K mainGlobals "_law_first" = some (some (.ref f7))) (l7 : K.lookup f7 = some ⟨oc7, od7, .func (PySem.W.fnOf "_law_first" "_law_first" (defArgs s__law_first) (defBody s__law_first) (defScope s__law_first) .none kV7 dc7 pm7 an7 cd7 ct7), sl7⟩) (c7 : PySem.W.codeIn K cd7 "_law_first" = true) (k7 : PySem.W.keepIn K (.ref f7) = true)
    {f8 : Addr} {od8 an8 : Option Addr} {sl8 : Array (Option Value)} {oc8 kV8 dc8 pm8 cd8 ct8 : Value}
    (a8 : PySem.W.nsIn K mainGlobals "_law_part" = some (some (.ref f8))) (l8 : K.lookup f8 = some ⟨oc8, od8, .func (PySem.W.fnOf "_law_part" "_law_part" (defArgs s__law_part) (defBody s__law_part) (defScope s__law_part) .none kV8 dc8 pm8 an8 cd8 ct8), sl8⟩) (c8 : PySem.W.codeIn K cd8 "_law_part" = true) (k8 : PySem.W.keepIn K (.ref f8) = true)
    {f9 : Addr} {od9 an9 : Option Addr} {sl9 : Array (Option Value)} {oc9 kV9 dc9 pm9 cd9 ct9 : Value}
    (a9 : PySem.W.nsIn K mainGlobals "first_place" = some (some (.ref f9))) (l9 : K.lookup f9 = some ⟨oc9, od9, .func (PySem.W.fnOf "first_place" "first_place" (defArgs s_first_place) (defBody s_first_place) (defScope s_first_place) .none kV9 dc9 pm9 an9 cd9 ct9), sl9⟩) (c9 : PySem.W.codeIn K cd9 "first_place" = true) (k9 : PySem.W.keepIn K (.ref f9) = true)
    {f10 : Addr} {od10 an10 : Option Addr} {sl10 : Array (Option Value)} {oc10 kV10 dc10 pm10 cd10 ct10 : Value}
    (a10 : PySem.W.nsIn K mainGlobals "_law_pick" = some (some (.ref f10))) (l10 : K.lookup f10 = some ⟨oc10, od10, .func (PySem.W.fnOf "_law_pick" "_law_pick" (defArgs s__law_pick) (defBody s__law_pick) (defScope s__law_pick) .none kV10 dc10 pm10 an10 cd10 ct10), sl10⟩) (c10 : PySem.W.codeIn K cd10 "_law_pick" = true) (k10 : PySem.W.keepIn K (.ref f10) = true)
    {f11 : Addr} {od11 an11 : Option Addr} {sl11 : Array (Option Value)} {oc11 kV11 dc11 pm11 cd11 ct11 : Value}
    (a11 : PySem.W.nsIn K mainGlobals "_law_mixed" = some (some (.ref f11))) (l11 : K.lookup f11 = some ⟨oc11, od11, .func (PySem.W.fnOf "_law_mixed" "_law_mixed" (defArgs s__law_mixed) (defBody s__law_mixed) (defScope s__law_mixed) .none kV11 dc11 pm11 an11 cd11 ct11), sl11⟩) (c11 : PySem.W.codeIn K cd11 "_law_mixed" = true) (k11 : PySem.W.keepIn K (.ref f11) = true)
    {f12 : Addr} {od12 an12 : Option Addr} {sl12 : Array (Option Value)} {oc12 kV12 dc12 pm12 cd12 ct12 : Value}
    (a12 : PySem.W.nsIn K mainGlobals "_law_least" = some (some (.ref f12))) (l12 : K.lookup f12 = some ⟨oc12, od12, .func (PySem.W.fnOf "_law_least" "_law_least" (defArgs s__law_least) (defBody s__law_least) (defScope s__law_least) .none kV12 dc12 pm12 an12 cd12 ct12), sl12⟩) (c12 : PySem.W.codeIn K cd12 "_law_least" = true) (k12 : PySem.W.keepIn K (.ref f12) = true)
    {f13 : Addr} {od13 an13 : Option Addr} {sl13 : Array (Option Value)} {oc13 kV13 dc13 pm13 cd13 ct13 : Value}
    (a13 : PySem.W.nsIn K mainGlobals "least_form" = some (some (.ref f13))) (l13 : K.lookup f13 = some ⟨oc13, od13, .func (PySem.W.fnOf "least_form" "least_form" (defArgs s_least_form) (defBody s_least_form) (defScope s_least_form) .none kV13 dc13 pm13 an13 cd13 ct13), sl13⟩) (c13 : PySem.W.codeIn K cd13 "least_form" = true) (k13 : PySem.W.keepIn K (.ref f13) = true)
    {f14 : Addr} {od14 an14 : Option Addr} {sl14 : Array (Option Value)} {oc14 kV14 dc14 pm14 cd14 ct14 : Value}
    (a14 : PySem.W.nsIn K mainGlobals "_law_web" = some (some (.ref f14))) (l14 : K.lookup f14 = some ⟨oc14, od14, .func (PySem.W.fnOf "_law_web" "_law_web" (defArgs s__law_web) (defBody s__law_web) (defScope s__law_web) .none kV14 dc14 pm14 an14 cd14 ct14), sl14⟩) (c14 : PySem.W.codeIn K cd14 "_law_web" = true) (k14 : PySem.W.keepIn K (.ref f14) = true)
    {f15 : Addr} {od15 an15 : Option Addr} {sl15 : Array (Option Value)} {oc15 kV15 dc15 pm15 cd15 ct15 : Value}
    (a15 : PySem.W.nsIn K mainGlobals "_law_lane_web" = some (some (.ref f15))) (l15 : K.lookup f15 = some ⟨oc15, od15, .func (PySem.W.fnOf "_law_lane_web" "_law_lane_web" (defArgs s__law_lane_web) (defBody s__law_lane_web) (defScope s__law_lane_web) .none kV15 dc15 pm15 an15 cd15 ct15), sl15⟩) (c15 : PySem.W.codeIn K cd15 "_law_lane_web" = true) (k15 : PySem.W.keepIn K (.ref f15) = true)
    {f16 : Addr} {od16 an16 : Option Addr} {sl16 : Array (Option Value)} {oc16 kV16 dc16 pm16 cd16 ct16 : Value}
    (a16 : PySem.W.nsIn K mainGlobals "_law_bag" = some (some (.ref f16))) (l16 : K.lookup f16 = some ⟨oc16, od16, .func (PySem.W.fnOf "_law_bag" "_law_bag" (defArgs s__law_bag) (defBody s__law_bag) (defScope s__law_bag) .none kV16 dc16 pm16 an16 cd16 ct16), sl16⟩) (c16 : PySem.W.codeIn K cd16 "_law_bag" = true) (k16 : PySem.W.keepIn K (.ref f16) = true)
    {f17 : Addr} {od17 an17 : Option Addr} {sl17 : Array (Option Value)} {oc17 kV17 dc17 pm17 cd17 ct17 : Value}
    (a17 : PySem.W.nsIn K mainGlobals "_law_eye" = some (some (.ref f17))) (l17 : K.lookup f17 = some ⟨oc17, od17, .func (PySem.W.fnOf "_law_eye" "_law_eye" (defArgs s__law_eye) (defBody s__law_eye) (defScope s__law_eye) .none kV17 dc17 pm17 an17 cd17 ct17), sl17⟩) (c17 : PySem.W.codeIn K cd17 "_law_eye" = true) (k17 : PySem.W.keepIn K (.ref f17) = true)
    {f18 : Addr} {od18 an18 : Option Addr} {sl18 : Array (Option Value)} {oc18 kV18 dc18 pm18 cd18 ct18 : Value}
    (a18 : PySem.W.nsIn K mainGlobals "_law_view" = some (some (.ref f18))) (l18 : K.lookup f18 = some ⟨oc18, od18, .func (PySem.W.fnOf "_law_view" "_law_view" (defArgs s__law_view) (defBody s__law_view) (defScope s__law_view) .none kV18 dc18 pm18 an18 cd18 ct18), sl18⟩) (c18 : PySem.W.codeIn K cd18 "_law_view" = true) (k18 : PySem.W.keepIn K (.ref f18) = true)
    {f19 : Addr} {od19 an19 : Option Addr} {sl19 : Array (Option Value)} {oc19 kV19 dc19 pm19 cd19 ct19 : Value}
    (a19 : PySem.W.nsIn K mainGlobals "_law_past" = some (some (.ref f19))) (l19 : K.lookup f19 = some ⟨oc19, od19, .func (PySem.W.fnOf "_law_past" "_law_past" (defArgs s__law_past) (defBody s__law_past) (defScope s__law_past) .none kV19 dc19 pm19 an19 cd19 ct19), sl19⟩) (c19 : PySem.W.codeIn K cd19 "_law_past" = true) (k19 : PySem.W.keepIn K (.ref f19) = true)
    {f20 : Addr} {od20 an20 : Option Addr} {sl20 : Array (Option Value)} {oc20 kV20 dc20 pm20 cd20 ct20 : Value}
    (a20 : PySem.W.nsIn K mainGlobals "view_of" = some (some (.ref f20))) (l20 : K.lookup f20 = some ⟨oc20, od20, .func (PySem.W.fnOf "view_of" "view_of" (defArgs s_view_of) (defBody s_view_of) (defScope s_view_of) .none kV20 dc20 pm20 an20 cd20 ct20), sl20⟩) (c20 : PySem.W.codeIn K cd20 "view_of" = true) (k20 : PySem.W.keepIn K (.ref f20) = true)
    {f21 : Addr} {od21 an21 : Option Addr} {sl21 : Array (Option Value)} {oc21 kV21 dc21 pm21 cd21 ct21 : Value}
    (a21 : PySem.W.nsIn K mainGlobals "rest_of" = some (some (.ref f21))) (l21 : K.lookup f21 = some ⟨oc21, od21, .func (PySem.W.fnOf "rest_of" "rest_of" (defArgs s_rest_of) (defBody s_rest_of) (defScope s_rest_of) .none kV21 dc21 pm21 an21 cd21 ct21), sl21⟩) (c21 : PySem.W.codeIn K cd21 "rest_of" = true) (k21 : PySem.W.keepIn K (.ref f21) = true)
    {f22 : Addr} {od22 an22 : Option Addr} {sl22 : Array (Option Value)} {oc22 kV22 dc22 pm22 cd22 ct22 : Value}
    (a22 : PySem.W.nsIn K mainGlobals "past_of" = some (some (.ref f22))) (l22 : K.lookup f22 = some ⟨oc22, od22, .func (PySem.W.fnOf "past_of" "past_of" (defArgs s_past_of) (defBody s_past_of) (defScope s_past_of) .none kV22 dc22 pm22 an22 cd22 ct22), sl22⟩) (c22 : PySem.W.codeIn K cd22 "past_of" = true) (k22 : PySem.W.keepIn K (.ref f22) = true)
    {f23 : Addr} {od23 an23 : Option Addr} {sl23 : Array (Option Value)} {oc23 kV23 dc23 pm23 cd23 ct23 : Value}
    (a23 : PySem.W.nsIn K mainGlobals "_law_any_web" = some (some (.ref f23))) (l23 : K.lookup f23 = some ⟨oc23, od23, .func (PySem.W.fnOf "_law_any_web" "_law_any_web" (defArgs s__law_any_web) (defBody s__law_any_web) (defScope s__law_any_web) .none kV23 dc23 pm23 an23 cd23 ct23), sl23⟩) (c23 : PySem.W.codeIn K cd23 "_law_any_web" = true) (k23 : PySem.W.keepIn K (.ref f23) = true)
    {f24 : Addr} {od24 an24 : Option Addr} {sl24 : Array (Option Value)} {oc24 kV24 dc24 pm24 cd24 ct24 : Value}
    (a24 : PySem.W.nsIn K mainGlobals "_law_row" = some (some (.ref f24))) (l24 : K.lookup f24 = some ⟨oc24, od24, .func (PySem.W.fnOf "_law_row" "_law_row" (defArgs s__law_row) (defBody s__law_row) (defScope s__law_row) .none kV24 dc24 pm24 an24 cd24 ct24), sl24⟩) (c24 : PySem.W.codeIn K cd24 "_law_row" = true) (k24 : PySem.W.keepIn K (.ref f24) = true)
    {f25 : Addr} {od25 an25 : Option Addr} {sl25 : Array (Option Value)} {oc25 kV25 dc25 pm25 cd25 ct25 : Value}
    (a25 : PySem.W.nsIn K mainGlobals "_law_part_one" = some (some (.ref f25))) (l25 : K.lookup f25 = some ⟨oc25, od25, .func (PySem.W.fnOf "_law_part_one" "_law_part_one" (defArgs s__law_part_one) (defBody s__law_part_one) (defScope s__law_part_one) .none kV25 dc25 pm25 an25 cd25 ct25), sl25⟩) (c25 : PySem.W.codeIn K cd25 "_law_part_one" = true) (k25 : PySem.W.keepIn K (.ref f25) = true)
    {f26 : Addr} {od26 an26 : Option Addr} {sl26 : Array (Option Value)} {oc26 kV26 dc26 pm26 cd26 ct26 : Value}
    (a26 : PySem.W.nsIn K mainGlobals "_law_asked_rest" = some (some (.ref f26))) (l26 : K.lookup f26 = some ⟨oc26, od26, .func (PySem.W.fnOf "_law_asked_rest" "_law_asked_rest" (defArgs s__law_asked_rest) (defBody s__law_asked_rest) (defScope s__law_asked_rest) .none kV26 dc26 pm26 an26 cd26 ct26), sl26⟩) (c26 : PySem.W.codeIn K cd26 "_law_asked_rest" = true) (k26 : PySem.W.keepIn K (.ref f26) = true)
    {f27 : Addr} {od27 an27 : Option Addr} {sl27 : Array (Option Value)} {oc27 kV27 dc27 pm27 cd27 ct27 : Value}
    (a27 : PySem.W.nsIn K mainGlobals "_law_asked_past" = some (some (.ref f27))) (l27 : K.lookup f27 = some ⟨oc27, od27, .func (PySem.W.fnOf "_law_asked_past" "_law_asked_past" (defArgs s__law_asked_past) (defBody s__law_asked_past) (defScope s__law_asked_past) .none kV27 dc27 pm27 an27 cd27 ct27), sl27⟩) (c27 : PySem.W.codeIn K cd27 "_law_asked_past" = true) (k27 : PySem.W.keepIn K (.ref f27) = true)
    {f28 : Addr} {od28 an28 : Option Addr} {sl28 : Array (Option Value)} {oc28 kV28 dc28 pm28 cd28 ct28 : Value}
    (a28 : PySem.W.nsIn K mainGlobals "_law_part_two" = some (some (.ref f28))) (l28 : K.lookup f28 = some ⟨oc28, od28, .func (PySem.W.fnOf "_law_part_two" "_law_part_two" (defArgs s__law_part_two) (defBody s__law_part_two) (defScope s__law_part_two) .none kV28 dc28 pm28 an28 cd28 ct28), sl28⟩) (c28 : PySem.W.codeIn K cd28 "_law_part_two" = true) (k28 : PySem.W.keepIn K (.ref f28) = true)
    {f29 : Addr} {od29 an29 : Option Addr} {sl29 : Array (Option Value)} {oc29 kV29 dc29 pm29 cd29 ct29 : Value}
    (a29 : PySem.W.nsIn K mainGlobals "law" = some (some (.ref f29))) (l29 : K.lookup f29 = some ⟨oc29, od29, .func (PySem.W.fnOf "law" "law" (defArgs s_law) (defBody s_law) (defScope s_law) .none kV29 dc29 pm29 an29 cd29 ct29), sl29⟩) (c29 : PySem.W.codeIn K cd29 "law" = true) (k29 : PySem.W.keepIn K (.ref f29) = true)
    (z_abs : PySem.W.nsIn K mainGlobals "abs" = some none)
    (z_bool : PySem.W.nsIn K mainGlobals "bool" = some none)
    (z_enumerate : PySem.W.nsIn K mainGlobals "enumerate" = some none)
    (z_int : PySem.W.nsIn K mainGlobals "int" = some none)
    (z_isinstance : PySem.W.nsIn K mainGlobals "isinstance" = some none)
    (z_len : PySem.W.nsIn K mainGlobals "len" = some none)
    (z_list : PySem.W.nsIn K mainGlobals "list" = some none)
    (z_min : PySem.W.nsIn K mainGlobals "min" = some none)
    (z_range : PySem.W.nsIn K mainGlobals "range" = some none)
    (z_reversed : PySem.W.nsIn K mainGlobals "reversed" = some none)
    (z_sorted : PySem.W.nsIn K mainGlobals "sorted" = some none)
    (z_str : PySem.W.nsIn K mainGlobals "str" = some none)
    (z_tuple : PySem.W.nsIn K mainGlobals "tuple" = some none)
    (z_zip : PySem.W.nsIn K mainGlobals "zip" = some none)
    : ∃ fd : FuncData, (∀ (s : Shared) (v : Value), BindsTo s fd ⟨[v], []⟩ [("script", v)]) ∧ ∀ base : Heap, K.In base → base.Ns mainGlobals mg → FnOk l.prog w K mg base CX0 9 fa fd ["script"] (spV K 1 m_law) := by
  have e := hfa.symm.trans (PySem.W.mg_of X G a29)
  cases e
  have F0 := fun_mk (st := s_shut_hands) l0 c0 k0
  have b0 := F0.binds (ps := ["web", "shut", "letter"]) fun _ _ _ _ _ _ us hl => match us, hl with | [_, _, _], _ => rfl
  have F1 := fun_mk (st := s_seen_events) l1 c1 k1
  have b1 := F1.binds (ps := ["web", "row", "eye"]) fun _ _ _ _ _ _ us hl => match us, hl with | [_, _, _], _ => rfl
  have F2 := fun_mk (st := s__law_box) l2 c2 k2
  have b2 := F2.binds (ps := ["script", "k"]) fun _ _ _ _ _ _ us hl => match us, hl with | [_, _], _ => rfl
  have F3 := fun_mk (st := s__law_take) l3 c3 k3
  have b3 := F3.binds (ps := ["box", "many"]) fun _ _ _ _ _ _ us hl => match us, hl with | [_, _], _ => rfl
  have F4 := fun_mk (st := s__law_same) l4 c4 k4
  have b4 := F4.binds (ps := ["told", "due"]) fun _ _ _ _ _ _ us hl => match us, hl with | [_, _], _ => rfl
  have F5 := fun_mk (st := s__law_marks) l5 c5 k5
  have b5 := F5.binds (ps := ["web", "row", "eye"]) fun _ _ _ _ _ _ us hl => match us, hl with | [_, _, _], _ => rfl
  have F6 := fun_mk (st := s__law_lanes) l6 c6 k6
  have b6 := F6.binds (ps := ["web", "row"]) fun _ _ _ _ _ _ us hl => match us, hl with | [_, _], _ => rfl
  have F7 := fun_mk (st := s__law_first) l7 c7 k7
  have b7 := F7.binds (ps := ["web", "lanes", "spots"]) fun _ _ _ _ _ _ us hl => match us, hl with | [_, _, _], _ => rfl
  have F8 := fun_mk (st := s__law_part) l8 c8 k8
  have b8 := F8.binds (ps := ["row", "marks", "is_in"]) fun _ _ _ _ _ _ us hl => match us, hl with | [_, _, _], _ => rfl
  have F9 := fun_mk (st := s_first_place) l9 c9 k9
  have b9 := F9.binds (ps := ["web", "left"]) fun _ _ _ _ _ _ us hl => match us, hl with | [_, _], _ => rfl
  have F10 := fun_mk (st := s__law_pick) l10 c10 k10
  have b10 := F10.binds (ps := ["box", "some"]) fun _ _ _ _ _ _ us hl => match us, hl with | [_, _], _ => rfl
  have F11 := fun_mk (st := s__law_mixed) l11 c11 k11
  have b11 := F11.binds (ps := ["box", "some"]) fun _ _ _ _ _ _ us hl => match us, hl with | [_, _], _ => rfl
  have F12 := fun_mk (st := s__law_least) l12 c12 k12
  have b12 := F12.binds (ps := ["web", "row"]) fun _ _ _ _ _ _ us hl => match us, hl with | [_, _], _ => rfl
  have F13 := fun_mk (st := s_least_form) l13 c13 k13
  have b13 := F13.binds (ps := ["web", "row"]) fun _ _ _ _ _ _ us hl => match us, hl with | [_, _], _ => rfl
  have F14 := fun_mk (st := s__law_web) l14 c14 k14
  have b14 := F14.binds (ps := ["box", "hands", "letters"]) fun _ _ _ _ _ _ us hl => match us, hl with | [_, _, _], _ => rfl
  have F15 := fun_mk (st := s__law_lane_web) l15 c15 k15
  have b15 := F15.binds (ps := ["box"]) fun _ _ _ _ _ _ us hl => match us, hl with | [_], _ => rfl
  have F16 := fun_mk (st := s__law_bag) l16 c16 k16
  have b16 := F16.binds (ps := ["box", "web"]) fun _ _ _ _ _ _ us hl => match us, hl with | [_, _], _ => rfl
  have F17 := fun_mk (st := s__law_eye) l17 c17 k17
  have b17 := F17.binds (ps := ["box", "web"]) fun _ _ _ _ _ _ us hl => match us, hl with | [_, _], _ => rfl
  have F18 := fun_mk (st := s__law_view) l18 c18 k18
  have b18 := F18.binds (ps := ["web", "row", "eye"]) fun _ _ _ _ _ _ us hl => match us, hl with | [_, _, _], _ => rfl
  have F19 := fun_mk (st := s__law_past) l19 c19 k19
  have b19 := F19.binds (ps := ["web", "row", "place"]) fun _ _ _ _ _ _ us hl => match us, hl with | [_, _, _], _ => rfl
  have F20 := fun_mk (st := s_view_of) l20 c20 k20
  have b20 := F20.binds (ps := ["web", "row", "eye"]) fun _ _ _ _ _ _ us hl => match us, hl with | [_, _, _], _ => rfl
  have kb20 := kb_all F20 (ps := ["web", "row", "eye"]) (by simp) fun _ _ _ _ _ _ us hl => match us, hl with | [_, _, _], _ => rfl
  have F21 := fun_mk (st := s_rest_of) l21 c21 k21
  have b21 := F21.binds (ps := ["web", "row", "eye"]) fun _ _ _ _ _ _ us hl => match us, hl with | [_, _, _], _ => rfl
  have kb21 := kb_all F21 (ps := ["web", "row", "eye"]) (by simp) fun _ _ _ _ _ _ us hl => match us, hl with | [_, _, _], _ => rfl
  have F22 := fun_mk (st := s_past_of) l22 c22 k22
  have b22 := F22.binds (ps := ["web", "row", "place"]) fun _ _ _ _ _ _ us hl => match us, hl with | [_, _, _], _ => rfl
  have kb22 := kb_all F22 (ps := ["web", "row", "place"]) (by simp) fun _ _ _ _ _ _ us hl => match us, hl with | [_, _, _], _ => rfl
  have F23 := fun_mk (st := s__law_any_web) l23 c23 k23
  have b23 := F23.binds (ps := ["box", "k"]) fun _ _ _ _ _ _ us hl => match us, hl with | [_, _], _ => rfl
  have F24 := fun_mk (st := s__law_row) l24 c24 k24
  have b24 := F24.binds (ps := ["box", "web", "many"]) fun _ _ _ _ _ _ us hl => match us, hl with | [_, _, _], _ => rfl
  have F25 := fun_mk (st := s__law_part_one) l25 c25 k25
  have b25 := F25.binds (ps := ["script"]) fun _ _ _ _ _ _ us hl => match us, hl with | [_], _ => rfl
  have F26 := fun_mk (st := s__law_asked_rest) l26 c26 k26
  have b26 := F26.binds (ps := ["web", "row", "eye"]) fun _ _ _ _ _ _ us hl => match us, hl with | [_, _, _], _ => rfl
  have F27 := fun_mk (st := s__law_asked_past) l27 c27 k27
  have b27 := F27.binds (ps := ["web", "row", "place"]) fun _ _ _ _ _ _ us hl => match us, hl with | [_, _, _], _ => rfl
  have F28 := fun_mk (st := s__law_part_two) l28 c28 k28
  have b28 := F28.binds (ps := ["script"]) fun _ _ _ _ _ _ us hl => match us, hl with | [_], _ => rfl
  have F29 := fun_mk (st := s_law) l29 c29 k29
  have b29 := F29.binds (ps := ["script"]) fun _ _ _ _ _ _ us hl => match us, hl with | [_], _ => rfl
  let T : Top K mg := { f_shut_hands := _, d_shut_hands := _, F_shut_hands := F0, b_shut_hands := b0, g_shut_hands := PySem.W.mg_of X G a0, f_seen_events := _, d_seen_events := _, F_seen_events := F1, b_seen_events := b1, g_seen_events := PySem.W.mg_of X G a1, f__law_box := _, d__law_box := _, F__law_box := F2, b__law_box := b2, g__law_box := PySem.W.mg_of X G a2, f__law_take := _, d__law_take := _, F__law_take := F3, b__law_take := b3, g__law_take := PySem.W.mg_of X G a3, f__law_same := _, d__law_same := _, F__law_same := F4, b__law_same := b4, g__law_same := PySem.W.mg_of X G a4, f__law_marks := _, d__law_marks := _, F__law_marks := F5, b__law_marks := b5, g__law_marks := PySem.W.mg_of X G a5, f__law_lanes := _, d__law_lanes := _, F__law_lanes := F6, b__law_lanes := b6, g__law_lanes := PySem.W.mg_of X G a6, f__law_first := _, d__law_first := _, F__law_first := F7, b__law_first := b7, g__law_first := PySem.W.mg_of X G a7, f__law_part := _, d__law_part := _, F__law_part := F8, b__law_part := b8, g__law_part := PySem.W.mg_of X G a8, f_first_place := _, d_first_place := _, F_first_place := F9, b_first_place := b9, g_first_place := PySem.W.mg_of X G a9, f__law_pick := _, d__law_pick := _, F__law_pick := F10, b__law_pick := b10, g__law_pick := PySem.W.mg_of X G a10, f__law_mixed := _, d__law_mixed := _, F__law_mixed := F11, b__law_mixed := b11, g__law_mixed := PySem.W.mg_of X G a11, f__law_least := _, d__law_least := _, F__law_least := F12, b__law_least := b12, g__law_least := PySem.W.mg_of X G a12, f_least_form := _, d_least_form := _, F_least_form := F13, b_least_form := b13, g_least_form := PySem.W.mg_of X G a13, f__law_web := _, d__law_web := _, F__law_web := F14, b__law_web := b14, g__law_web := PySem.W.mg_of X G a14, f__law_lane_web := _, d__law_lane_web := _, F__law_lane_web := F15, b__law_lane_web := b15, g__law_lane_web := PySem.W.mg_of X G a15, f__law_bag := _, d__law_bag := _, F__law_bag := F16, b__law_bag := b16, g__law_bag := PySem.W.mg_of X G a16, f__law_eye := _, d__law_eye := _, F__law_eye := F17, b__law_eye := b17, g__law_eye := PySem.W.mg_of X G a17, f__law_view := _, d__law_view := _, F__law_view := F18, b__law_view := b18, g__law_view := PySem.W.mg_of X G a18, f__law_past := _, d__law_past := _, F__law_past := F19, b__law_past := b19, g__law_past := PySem.W.mg_of X G a19, f_view_of := _, d_view_of := _, F_view_of := F20, b_view_of := b20, g_view_of := PySem.W.mg_of X G a20, k_view_of := kb20, f_rest_of := _, d_rest_of := _, F_rest_of := F21, b_rest_of := b21, g_rest_of := PySem.W.mg_of X G a21, k_rest_of := kb21, f_past_of := _, d_past_of := _, F_past_of := F22, b_past_of := b22, g_past_of := PySem.W.mg_of X G a22, k_past_of := kb22, f__law_any_web := _, d__law_any_web := _, F__law_any_web := F23, b__law_any_web := b23, g__law_any_web := PySem.W.mg_of X G a23, f__law_row := _, d__law_row := _, F__law_row := F24, b__law_row := b24, g__law_row := PySem.W.mg_of X G a24, f__law_part_one := _, d__law_part_one := _, F__law_part_one := F25, b__law_part_one := b25, g__law_part_one := PySem.W.mg_of X G a25, f__law_asked_rest := _, d__law_asked_rest := _, F__law_asked_rest := F26, b__law_asked_rest := b26, g__law_asked_rest := PySem.W.mg_of X G a26, f__law_asked_past := _, d__law_asked_past := _, F__law_asked_past := F27, b__law_asked_past := b27, g__law_asked_past := PySem.W.mg_of X G a27, f__law_part_two := _, d__law_part_two := _, F__law_part_two := F28, b__law_part_two := b28, g__law_part_two := PySem.W.mg_of X G a28, f_law := _, d_law := _, F_law := F29, b_law := b29, g_law := PySem.W.mg_of X G a29, z_abs := PySem.W.mg_none_of X G z_abs, z_bool := PySem.W.mg_none_of X G z_bool, z_enumerate := PySem.W.mg_none_of X G z_enumerate, z_int := PySem.W.mg_none_of X G z_int, z_isinstance := PySem.W.mg_none_of X G z_isinstance, z_len := PySem.W.mg_none_of X G z_len, z_list := PySem.W.mg_none_of X G z_list, z_min := PySem.W.mg_none_of X G z_min, z_range := PySem.W.mg_none_of X G z_range, z_reversed := PySem.W.mg_none_of X G z_reversed, z_sorted := PySem.W.mg_none_of X G z_sorted, z_str := PySem.W.mg_none_of X G z_str, z_tuple := PySem.W.mg_none_of X G z_tuple, z_zip := PySem.W.mg_none_of X G z_zip }
  exact ⟨_, fun s v => .of_eq rfl, fun base _ _ => okV_law T⟩
end K13
open PySem PySem.W PyProof.Rows
set_option maxHeartbeats 0 in
theorem PySem.Challenge.cw_liarsandall_k13_whole_what_an_eye_has_se_holds : PySem.Challenge.rw_liarsandall_k13_whole_what_an_eye_has_se.Holds := by
  w_on; o_law; k_head; (case hw => w_witness2)
  k_fill
  refine L2.walk_of (l := PySem.Challenge.rw_liarsandall_k13_whole_what_an_eye_has_se) (n := 63) (k := 9) (x := "script") (CX := fun _ => L2.CX0) (sp := fun w => ML.spV _ 1 K13.m_law) rfl (by decide) rfl ⟨rfl, by decide, by decide⟩ (fun w h Y => PySem.W.kIn_of Y) ?F (fun _ _ a ns hl _ hS => ML.law_sp (K13.main ns hl) hS) (fun _ _ _ _ _ h => h)
  case F =>
    intro w mg fa h KX G hmg
    refine' K13.all_mk KX G hmg ?a0 ?l0 ?c0 ?k0 ?a1 ?l1 ?c1 ?k1 ?a2 ?l2 ?c2 ?k2 ?a3 ?l3 ?c3 ?k3 ?a4 ?l4 ?c4 ?k4 ?a5 ?l5 ?c5 ?k5 ?a6 ?l6 ?c6 ?k6 ?a7 ?l7 ?c7 ?k7 ?a8 ?l8 ?c8 ?k8 ?a9 ?l9 ?c9 ?k9 ?a10 ?l10 ?c10 ?k10 ?a11 ?l11 ?c11 ?k11 ?a12 ?l12 ?c12 ?k12 ?a13 ?l13 ?c13 ?k13 ?a14 ?l14 ?c14 ?k14 ?a15 ?l15 ?c15 ?k15 ?a16 ?l16 ?c16 ?k16 ?a17 ?l17 ?c17 ?k17 ?a18 ?l18 ?c18 ?k18 ?a19 ?l19 ?c19 ?k19 ?a20 ?l20 ?c20 ?k20 ?a21 ?l21 ?c21 ?k21 ?a22 ?l22 ?c22 ?k22 ?a23 ?l23 ?c23 ?k23 ?a24 ?l24 ?c24 ?k24 ?a25 ?l25 ?c25 ?k25 ?a26 ?l26 ?c26 ?k26 ?a27 ?l27 ?c27 ?k27 ?a28 ?l28 ?c28 ?k28 ?a29 ?l29 ?c29 ?k29 ?z_abs ?z_bool ?z_enumerate ?z_int ?z_isinstance ?z_len ?z_list ?z_min ?z_range ?z_reversed ?z_sorted ?z_str ?z_tuple ?z_zip
    (case a0 => k_is); (case l0 => k_is); (case c0 => k_is); (case k0 => k_is); (case a1 => k_is); (case l1 => k_is); (case c1 => k_is); (case k1 => k_is); (case a2 => k_is); (case l2 => k_is); (case c2 => k_is); (case k2 => k_is); (case a3 => k_is); (case l3 => k_is); (case c3 => k_is); (case k3 => k_is); (case a4 => k_is); (case l4 => k_is); (case c4 => k_is); (case k4 => k_is); (case a5 => k_is); (case l5 => k_is); (case c5 => k_is); (case k5 => k_is); (case a6 => k_is); (case l6 => k_is); (case c6 => k_is); (case k6 => k_is); (case a7 => k_is); (case l7 => k_is); (case c7 => k_is); (case k7 => k_is); (case a8 => k_is); (case l8 => k_is); (case c8 => k_is); (case k8 => k_is); (case a9 => k_is); (case l9 => k_is); (case c9 => k_is); (case k9 => k_is); (case a10 => k_is); (case l10 => k_is); (case c10 => k_is); (case k10 => k_is); (case a11 => k_is); (case l11 => k_is); (case c11 => k_is); (case k11 => k_is); (case a12 => k_is); (case l12 => k_is); (case c12 => k_is); (case k12 => k_is); (case a13 => k_is); (case l13 => k_is); (case c13 => k_is); (case k13 => k_is); (case a14 => k_is); (case l14 => k_is); (case c14 => k_is); (case k14 => k_is); (case a15 => k_is); (case l15 => k_is); (case c15 => k_is); (case k15 => k_is); (case a16 => k_is); (case l16 => k_is); (case c16 => k_is); (case k16 => k_is); (case a17 => k_is); (case l17 => k_is); (case c17 => k_is); (case k17 => k_is); (case a18 => k_is); (case l18 => k_is); (case c18 => k_is); (case k18 => k_is); (case a19 => k_is); (case l19 => k_is); (case c19 => k_is); (case k19 => k_is); (case a20 => k_is); (case l20 => k_is); (case c20 => k_is); (case k20 => k_is); (case a21 => k_is); (case l21 => k_is); (case c21 => k_is); (case k21 => k_is); (case a22 => k_is); (case l22 => k_is); (case c22 => k_is); (case k22 => k_is); (case a23 => k_is); (case l23 => k_is); (case c23 => k_is); (case k23 => k_is); (case a24 => k_is); (case l24 => k_is); (case c24 => k_is); (case k24 => k_is); (case a25 => k_is); (case l25 => k_is); (case c25 => k_is); (case k25 => k_is); (case a26 => k_is); (case l26 => k_is); (case c26 => k_is); (case k26 => k_is); (case a27 => k_is); (case l27 => k_is); (case c27 => k_is); (case k27 => k_is); (case a28 => k_is); (case l28 => k_is); (case c28 => k_is); (case k28 => k_is); (case a29 => k_is); (case l29 => k_is); (case c29 => k_is); (case k29 => k_is); (case z_abs => k_is); (case z_bool => k_is); (case z_enumerate => k_is); (case z_int => k_is); (case z_isinstance => k_is); (case z_len => k_is); (case z_list => k_is); (case z_min => k_is); (case z_range => k_is); (case z_reversed => k_is); (case z_sorted => k_is); (case z_str => k_is); (case z_tuple => k_is); (case z_zip => k_is)
