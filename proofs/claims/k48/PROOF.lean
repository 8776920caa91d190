import PyProof.Rows.All
import Wide.All
import OpenK.AllK
import Wide.FinOn
import HandS.ForMost
import HandS.TupAny
import HandS.Style
import HandS.SetKeys
import HandS.IsInst
import HandS.StrMore
import HandS.Wide
import HandS.WideMore
import HandS.Zip
import HandS.Deep
import KE.DataEq
import KE.DataFind
import KE.KDictList
import HandS.ListItems
import HandS.Strs
import HandS.SetFor
import HandS.Small
import HandS.Conv
import HandS.AnyAll
import HandS.WordsDict
import KE.GoesEnum
import KE.GoesZip
import KE.KRevSl
import PySem.Challenge.RW_twigscripts_k48_whole_scripts_that_lose
import HandS.ExcInit
import HandS.WordsExc
import HandS.HeadEnd
import HandS.HeadHook1
import HandS.HeadHook2
import HandS.Head0
import HandS.Head1
import HandS.Head2
set_option Elab.async false
set_option linter.all false
set_option maxRecDepth 100000
set_option maxHeartbeats 4000000
/-! CLa: a layer of plain data over HandS: values D, the store of what changes, the lifts of readings. -/
namespace CL
open PySem PySem.Spec PyProof.Rows L2

/-- plain data: tuples by value, what changes by its place -/
inductive D where
  | non | bl (b : Bool) | int (i : Int) | str (x : Str) | tup (xs : List D) | ref (a : Addr)
  /-- a tuple that is a dict's key, and nothing else -/
  | key (k : List Key)

def tupO (us : List Value) : Obj := { cls := .type "tuple", data := .seq us.toArray }

/-- a tuple whose object is known, so that it is known to bear no dict -/
def TupN (K : PySem.W.Frag) (H : Hp) (a : Addr) (xs : List V) : Prop :=
  (∃ us : List Value, H a = some (.frz (tupO us) (.tup xs))) ∨
    ∃ (its : Array Value) (n : Nat), K.lookup a = some { cls := .type "tuple", data := .seq its n } ∧ its.size ≤ sizeLine ∧ Vals xs its.toList
theorem TupN.sq {K : PySem.W.Frag} {H : Hp} {a : Addr} {xs : List V} (h : TupN K H a xs) : SqT K H a xs := by
  rcases h with ⟨us, h⟩ | ⟨its, n, h1, h5, h6⟩
  · exact .inl (.inr ⟨_, h⟩)
  · exact .inr ⟨_, its, n, h1, rfl, rfl, h5, h6⟩

mutual
inductive Rep (K : PySem.W.Frag) (H : Hp) : V → D → Prop
  | non : Rep K H .non .non
  | bl (b : Bool) : Rep K H (.bl b) (.bl b)
  | int (i : Int) : Rep K H (.int i) (.int i)
  | str (x : Str) : Rep K H (.str x) (.str x)
  | ref (a : Addr) : Rep K H (.ref a) (.ref a)
  | tup {a : Addr} {xs : List V} {ds : List D} : TupN K H a xs → RepL K H xs ds → Rep K H (.ref a) (.tup ds)
  | key {a : Addr} (k : List Key) : H a = some (.tup (k.map kV)) → Rep K H (.ref a) (.key k)
inductive RepL (K : PySem.W.Frag) (H : Hp) : List V → List D → Prop
  | nil : RepL K H [] []
  | cons {v : V} {vs : List V} {d : D} {ds : List D} : Rep K H v d → RepL K H vs ds → RepL K H (v :: vs) (d :: ds)
end

/-- the tuples stay -/
def isTup : HO → Prop
  | .tup _ => True
  | .frz _ (.tup _) => True
  | _ => False
def Ext (H H' : Hp) : Prop := ∀ (a : Addr) (o : HO), isTup o → H a = some o → H' a = some o
theorem Ext.refl (H : Hp) : Ext H H := fun _ _ _ h => h
theorem Ext.trans {H H1 H2 : Hp} (e : Ext H H1) (f : Ext H1 H2) : Ext H H2 := fun a o t h => f a o t (e a o t h)
theorem Ext.new {H : Hp} {p : Addr} {o : HO} (h : H p = none) : Ext H (upd H p o) := fun a u _ e => by
  rw [upd_ne (ne_of_none e h)]
  exact e
theorem Ext.put {H : Hp} {p : Addr} {o u : HO} (h : H p = some u) (n : ¬ isTup u) : Ext H (upd H p o) := fun a v t e => by
  have q : a ≠ p := fun z => by
    subst z
    rw [h] at e; cases e
    exact n t
  rw [upd_ne q]
  exact e
theorem TupN.mono {K : PySem.W.Frag} {H H' : Hp} {a : Addr} {xs : List V} (h : TupN K H a xs) (e : Ext H H') : TupN K H' a xs := by
  rcases h with ⟨us, h⟩ | h
  · exact .inl ⟨us, e _ _ trivial h⟩
  · exact .inr h

mutual
theorem Rep.mono {K : PySem.W.Frag} {H H' : Hp} (e : Ext H H') : ∀ {v : V} {d : D}, Rep K H v d → Rep K H' v d
  | _, _, .non => .non
  | _, _, .bl b => .bl b
  | _, _, .int i => .int i
  | _, _, .str x => .str x
  | _, _, .ref a => .ref a
  | _, _, .tup t r => .tup (t.mono e) (RepL.mono e r)
  | _, _, .key k h => .key k (e _ _ trivial h)
theorem RepL.mono {K : PySem.W.Frag} {H H' : Hp} (e : Ext H H') : ∀ {v : List V} {d : List D}, RepL K H v d → RepL K H' v d
  | _, _, .nil => .nil
  | _, _, .cons r t => .cons (Rep.mono e r) (RepL.mono e t)
end

section
variable {K : PySem.W.Frag} {H : Hp}
theorem RepL.length : ∀ {xs : List V} {ds : List D}, RepL K H xs ds → xs.length = ds.length
  | _, _, .nil => rfl
  | _, _, .cons _ t => by rw [List.length_cons, List.length_cons, RepL.length t]
theorem RepL.get : ∀ {xs : List V} {ds : List D} {i : Nat} {d : D}, RepL K H xs ds → ds[i]? = some d → ∃ v, xs[i]? = some v ∧ Rep K H v d
  | _, _, _, _, .nil, e => by simp at e
  | _, _, 0, _, .cons r _, e => by simp at e; subst e; exact ⟨_, rfl, r⟩
  | _, _, i + 1, _, .cons _ t, e => by
    obtain ⟨v, h1, h2⟩ := RepL.get (i := i) t (by simpa using e)
    exact ⟨v, by simpa using h1, h2⟩
theorem RepL.getV : ∀ {xs : List V} {ds : List D} {i : Nat} {v : V}, RepL K H xs ds → xs[i]? = some v → ∃ d, ds[i]? = some d ∧ Rep K H v d
  | _, _, _, _, .nil, e => by simp at e
  | _, _, 0, _, .cons r _, e => by simp at e; subst e; exact ⟨_, rfl, r⟩
  | _, _, i + 1, _, .cons _ t, e => by
    obtain ⟨v, h1, h2⟩ := RepL.getV (i := i) t (by simpa using e)
    exact ⟨v, by simpa using h1, h2⟩
theorem RepL.append : ∀ {xs ys : List V} {ds es : List D}, RepL K H xs ds → RepL K H ys es → RepL K H (xs ++ ys) (ds ++ es)
  | _, _, _, _, .nil, s => s
  | _, _, _, _, .cons r t, s => .cons r (RepL.append t s)
theorem RepL.snoc {xs : List V} {ds : List D} {v : V} {d : D} (h : RepL K H xs ds) (r : Rep K H v d) : RepL K H (xs ++ [v]) (ds ++ [d]) := h.append (.cons r .nil)
theorem RepL.take : ∀ {xs : List V} {ds : List D} (n : Nat), RepL K H xs ds → RepL K H (xs.take n) (ds.take n)
  | _, _, 0, _ => .nil
  | _, _, _ + 1, .nil => .nil
  | _, _, n + 1, .cons r t => .cons r (RepL.take n t)
theorem RepL.drop : ∀ {xs : List V} {ds : List D} (n : Nat), RepL K H xs ds → RepL K H (xs.drop n) (ds.drop n)
  | _, _, 0, r => r
  | _, _, _ + 1, .nil => .nil
  | _, _, n + 1, .cons _ t => RepL.drop n t
theorem RepL.set {v : V} {d : D} (r : Rep K H v d) : ∀ {xs : List V} {ds : List D} (i : Nat), RepL K H xs ds → RepL K H (xs.set i v) (ds.set i d)
  | _, _, _, .nil => .nil
  | _, _, 0, .cons _ t => .cons r t
  | _, _, i + 1, .cons q t => .cons q (RepL.set r i t)
theorem RepL.eraseIdx : ∀ {xs : List V} {ds : List D} (i : Nat), RepL K H xs ds → RepL K H (xs.eraseIdx i) (ds.eraseIdx i)
  | _, _, _, .nil => .nil
  | _, _, 0, .cons _ t => t
  | _, _, i + 1, .cons r t => .cons r (RepL.eraseIdx i t)
theorem RepL.dropLast {xs : List V} {ds : List D} (h : RepL K H xs ds) : RepL K H xs.dropLast ds.dropLast := by
  rw [List.dropLast_eq_take, List.dropLast_eq_take, h.length]
  exact h.take _
theorem RepL.reverse : ∀ {xs : List V} {ds : List D}, RepL K H xs ds → RepL K H xs.reverse ds.reverse
  | _, _, .nil => .nil
  | _, _, .cons r t => by
    rw [List.reverse_cons, List.reverse_cons]
    exact (RepL.reverse t).append (.cons r .nil)
theorem RepL.nil_iff {xs : List V} {ds : List D} (h : RepL K H xs ds) : xs = [] ↔ ds = [] := by
  cases h with
  | nil => simp
  | cons _ _ => simp
theorem RepL.rep {xs : List V} {ds : List D} (h : RepL K H xs ds) : ∀ k : Nat, RepL K H (List.replicate k xs).flatten (List.replicate k ds).flatten
  | 0 => .nil
  | k + 1 => by
    rw [List.replicate_succ, List.replicate_succ, List.flatten_cons, List.flatten_cons]
    exact h.append (RepL.rep h k)
end

/-! ### the store -/
inductive MO where
  | lst (xs : List D)
  | dic (kvs : List (Key × D))
  | dct (kvs : List (List Key × D))
  /-- a dict that is walked: the very object, what it holds -/
  | lck (o : Obj) (vs : List (Key × V)) (kvs : List (Key × D))
abbrev GH := Addr → Option MO
def gupd (g : GH) (a : Addr) (o : MO) : GH := fun b => if b = a then some o else g b
theorem gupd_same {g : GH} {a : Addr} {o : MO} : gupd g a o a = some o := by unfold gupd; rw [if_pos rfl]
theorem gupd_ne {g : GH} {a b : Addr} {o : MO} (h : b ≠ a) : gupd g a o b = g b := by unfold gupd; rw [if_neg h]
theorem gupd_gupd {g : GH} {a : Addr} {o u : MO} : gupd (gupd g a o) a u = gupd g a u := by
  funext b; unfold gupd; split <;> rfl
theorem gne_none {g : GH} {a b : Addr} {o : MO} (h : g a = some o) (h' : g b = none) : a ≠ b := by
  intro e; subst e; rw [h] at h'; cases h'
abbrev KVr {κ : Type} (K : PySem.W.Frag) (H : Hp) : List (κ × V) → List (κ × D) → Prop := Paired fun (p : κ × V) (q : κ × D) => p.1 = q.1 ∧ Rep K H p.2 q.2
def RepO (K : PySem.W.Frag) (H : Hp) : HO → MO → Prop
  | .lst xs, .lst ds => RepL K H xs ds
  | .dK kvs, .dic ds => KVr K H kvs ds
  | .dT kvs, .dct ds => KVr K H kvs ds
  | .frz o' (.dK kvs), .lck o vs ds => o' = o ∧ kvs = vs ∧ KVr K H vs ds
  | _, _ => False
theorem KVr.mono {κ : Type} {K : PySem.W.Frag} {H H' : Hp} (e : Ext H H') {ks : List (κ × V)} {ds : List (κ × D)} (h : KVr K H ks ds) : KVr K H' ks ds :=
  Paired.mapP h fun _ _ z => ⟨z.1, z.2.mono e⟩
theorem RepO.mono {K : PySem.W.Frag} {H H' : Hp} (e : Ext H H') {o : HO} {m : MO} (h : RepO K H o m) : RepO K H' o m := by
  unfold RepO at h ⊢
  split at h
  · exact RepL.mono e h
  · exact KVr.mono e h
  · exact KVr.mono e h
  · exact ⟨h.1, h.2.1, KVr.mono e h.2.2⟩
  · exact h.elim
def RG (K : PySem.W.Frag) (H : Hp) (g : GH) : Prop := ∀ a m, g a = some m → ∃ h, H a = some h ∧ RepO K H h m
theorem RG.free {K : PySem.W.Frag} {H : Hp} {g : GH} (r : RG K H g) {p : Addr} (h : H p = none) : g p = none := by
  cases e : g p with
  | none => rfl
  | some m =>
    obtain ⟨o, ho, _⟩ := r p m e
    rw [h] at ho; cases ho
theorem RG.lst {K : PySem.W.Frag} {H : Hp} {g : GH} (r : RG K H g) {p : Addr} {ds : List D} (h : g p = some (.lst ds)) : ∃ xs, H p = some (.lst xs) ∧ RepL K H xs ds := by
  obtain ⟨o, ho, q⟩ := r p _ h
  unfold RepO at q
  split at q
  · rename_i e
    cases e
    exact ⟨_, ho, q⟩
  · rename_i e; cases e
  · rename_i e; cases e
  · rename_i e; cases e
  · exact q.elim
theorem RG.dic {K : PySem.W.Frag} {H : Hp} {g : GH} (r : RG K H g) {p : Addr} {ds : List (Key × D)} (h : g p = some (.dic ds)) : ∃ xs, H p = some (.dK xs) ∧ KVr K H xs ds := by
  obtain ⟨o, ho, q⟩ := r p _ h
  unfold RepO at q
  split at q
  · rename_i e; cases e
  · rename_i e
    cases e
    exact ⟨_, ho, q⟩
  · rename_i e; cases e
  · rename_i e; cases e
  · exact q.elim
theorem RG.dct {K : PySem.W.Frag} {H : Hp} {g : GH} (r : RG K H g) {p : Addr} {ds : List (List Key × D)} (h : g p = some (.dct ds)) : ∃ xs, H p = some (.dT xs) ∧ KVr K H xs ds := by
  obtain ⟨o, ho, q⟩ := r p _ h
  unfold RepO at q
  split at q
  · rename_i e; cases e
  · rename_i e; cases e
  · rename_i e
    cases e
    exact ⟨_, ho, q⟩
  · rename_i e; cases e
  · exact q.elim
theorem RG.lck {K : PySem.W.Frag} {H : Hp} {g : GH} (r : RG K H g) {p : Addr} {o : Obj} {vs : List (Key × V)} {ds : List (Key × D)} (h : g p = some (.lck o vs ds)) : H p = some (.frz o (.dK vs)) ∧ KVr K H vs ds := by
  obtain ⟨o, ho, q⟩ := r p _ h
  unfold RepO at q
  split at q
  · rename_i e; cases e
  · rename_i e; cases e
  · rename_i e; cases e
  · rename_i e
    cases e
    obtain ⟨rfl, rfl, q⟩ := q
    exact ⟨ho, q⟩
  · exact q.elim
/-- all that the store knows may stand in the tuples' way nowhere -/
theorem RG.mono {K : PySem.W.Frag} {H H' : Hp} {g : GH} (r : RG K H g) (e : Ext H H') (s : ∀ a o, H a = some o → H' a = some o) : RG K H' g := fun a m h => by
  obtain ⟨o, ho, q⟩ := r a m h
  exact ⟨o, s a o ho, q.mono e⟩
theorem upd_old {H : Hp} {p : Addr} {o : HO} (h : H p = none) : ∀ a u, H a = some u → upd H p o a = some u := fun a u e => by
  rw [upd_ne (ne_of_none e h)]
  exact e
/-- a new object, unknown to the store -/
theorem RG.beside {K : PySem.W.Frag} {H : Hp} {g : GH} (r : RG K H g) {p : Addr} {o : HO} (h : H p = none) : RG K (upd H p o) g := r.mono (.new h) (upd_old h)
/-- a new object that the store takes up -/
theorem RG.laid {K : PySem.W.Frag} {H : Hp} {g : GH} (r : RG K H g) {p : Addr} {o : HO} {m : MO} (h : H p = none) (q : RepO K (upd H p o) o m) : RG K (upd H p o) (gupd g p m) := fun a m' e => by
  by_cases hp : a = p
  · subst hp
    rw [gupd_same] at e; cases e
    exact ⟨o, upd_same, q⟩
  · rw [gupd_ne hp] at e
    exact r.beside h a m' e
/-- an object of the store is changed -/
theorem RG.put {K : PySem.W.Frag} {H : Hp} {g : GH} (r : RG K H g) {p : Addr} {o u : HO} {m : MO} (h : H p = some u) (n : ¬ isTup u) (q : RepO K (upd H p o) o m) : RG K (upd H p o) (gupd g p m) := fun a m' e => by
  by_cases hp : a = p
  · subst hp
    rw [gupd_same] at e; cases e
    exact ⟨o, upd_same, q⟩
  · rw [gupd_ne hp] at e
    obtain ⟨o', ho, z⟩ := r a m' e
    exact ⟨o', by rw [upd_ne hp]; exact ho, z.mono (.put h n)⟩
/-- the store may forget -/
def Sub (g g' : GH) : Prop := ∀ a m, g a = some m → g' a = some m
theorem Sub.refl (g : GH) : Sub g g := fun _ _ h => h
theorem Sub.trans {g g1 g2 : GH} (a : Sub g g1) (b : Sub g1 g2) : Sub g g2 := fun x m h => b x m (a x m h)
theorem Sub.new {g : GH} {p : Addr} {m : MO} (h : g p = none) : Sub g (gupd g p m) := fun a u e => by
  rw [gupd_ne (gne_none e h)]
  exact e
theorem RG.sub {K : PySem.W.Frag} {H : Hp} {g g' : GH} (r : RG K H g') (s : Sub g g') : RG K H g := fun a m h => r a m (s a m h)

/-! ### slots -/
abbrev CSt := List (Option D)
def RS (K : PySem.W.Frag) (H : Hp) : L2.St → CSt → Prop := Paired fun (o : Option V) (o' : Option D) => ∀ d, o' = some d → ∃ v, o = some v ∧ Rep K H v d
section
variable {K : PySem.W.Frag} {H H' : Hp}
theorem RS.mono {σ : L2.St} {s : CSt} (h : RS K H σ s) (e : Ext H H') : RS K H' σ s := Paired.mapP h fun _ _ z d hd => let ⟨v, hv, r⟩ := z d hd; ⟨v, hv, r.mono e⟩
theorem RS.get : ∀ {σ : L2.St} {s : CSt} {i : Nat} {d : D}, RS K H σ s → s[i]? = some (some d) → ∃ v, σ[i]? = some (some v) ∧ Rep K H v d
  | _, _, _, _, .nil, e => by simp at e
  | _, _, 0, _, .cons r _, e => by
    simp at e
    obtain ⟨v, hv, q⟩ := r _ e
    exact ⟨v, by simp [hv], q⟩
  | _, _, i + 1, _, .cons _ t, e => by
    obtain ⟨v, h1, h2⟩ := RS.get (i := i) t (by simpa using e)
    exact ⟨v, by simpa using h1, h2⟩
theorem RS.set {v : V} {d : D} (r : Rep K H v d) : ∀ {σ : L2.St} {s : CSt} (i : Nat), RS K H σ s → RS K H (σ.set i (some v)) (s.set i (some d))
  | _, _, _, .nil => .nil
  | _, _, 0, .cons _ t => .cons (fun d' e => by cases e; exact ⟨v, rfl, r⟩) t
  | _, _, i + 1, .cons q t => .cons q (RS.set r i t)
theorem RS.unset : ∀ {σ : L2.St} {s : CSt} (i : Nat) (o : Option V), RS K H σ s → RS K H (σ.set i o) (s.set i none)
  | _, _, _, _, .nil => .nil
  | _, _, 0, _, .cons _ t => .cons (fun d' e => by cases e) t
  | _, _, i + 1, o, .cons q t => .cons q (RS.unset i o t)
def cwipe (s : CSt) : List Nat → CSt
  | [] => s
  | v :: vs => (cwipe s vs).set v none
theorem RS.wipe {σ : L2.St} {s : CSt} (h : RS K H σ s) : ∀ vs : List Nat, RS K H (L2.wipe σ vs) (cwipe s vs)
  | [] => h
  | v :: vs => RS.unset v _ (RS.wipe h vs)
theorem RS.length {σ : L2.St} {s : CSt} (h : RS K H σ s) : σ.length = s.length := Paired.length h
end

/-! ### what clean code means -/
abbrev CQ := D → GH → Prop
abbrev CE := CSt → GH → CQ → Prop
abbrev CT := CSt → GH → (Bool → GH → Prop) → Prop
abbrev CA := CSt → GH → (List D → GH → Prop) → Prop
structure CEnds where
  nx : CSt → GH → Prop
  rt : CQ
  bk : CSt → GH → Prop := fun _ _ => False
  ct : CSt → GH → Prop := fun _ _ => False
abbrev CS := CEnds → CSt → GH → Prop

/-! ### the lifts -/
def LQ (K : PySem.W.Frag) (H : Hp) (P : CQ) (Q : VK) : Prop := ∀ d g' H' v, P d g' → Ext H H' → RG K H' g' → Rep K H' v d → Q v H'
theorem LQ.mono {K : PySem.W.Frag} {H H1 : Hp} {P : CQ} {Q : VK} (l : LQ K H P Q) (e : Ext H H1) : LQ K H1 P Q := fun d g' H' v p e' r q => l d g' H' v p (e.trans e') r q
def liftE (K : PySem.W.Frag) (c : CE) : TE := fun σ H Q => ∃ s g P, RS K H σ s ∧ RG K H g ∧ c s g P ∧ LQ K H P Q
def liftT (K : PySem.W.Frag) (c : CT) : TT := fun σ H Q => ∃ s g P, RS K H σ s ∧ RG K H g ∧ c s g P ∧ ∀ b g' H', P b g' → Ext H H' → RG K H' g' → Q b H'
def liftA (K : PySem.W.Frag) (c : CA) : TA := fun σ H Q => ∃ s g P, RS K H σ s ∧ RG K H g ∧ c s g P ∧ ∀ ds g' H' vs, P ds g' → Ext H H' → RG K H' g' → RepL K H' vs ds → Q vs H'
structure LD (K : PySem.W.Frag) (H : Hp) (C : CEnds) (E : Ends) : Prop where
  nx : ∀ s g' H' σ, C.nx s g' → Ext H H' → RG K H' g' → RS K H' σ s → E.nx σ H'
  rt : ∀ d g' H' v, C.rt d g' → Ext H H' → RG K H' g' → Rep K H' v d → E.rt v H'
  bk : ∀ s g' H' σ, C.bk s g' → Ext H H' → RG K H' g' → RS K H' σ s → E.bk σ H'
  ct : ∀ s g' H' σ, C.ct s g' → Ext H H' → RG K H' g' → RS K H' σ s → E.ct σ H'
theorem LD.mono {K : PySem.W.Frag} {H H1 : Hp} {C : CEnds} {E : Ends} (l : LD K H C E) (e : Ext H H1) : LD K H1 C E :=
  ⟨fun s g' H' σ p e' => l.nx s g' H' σ p (e.trans e'), fun s g' H' σ p e' => l.rt s g' H' σ p (e.trans e'), fun s g' H' σ p e' => l.bk s g' H' σ p (e.trans e'), fun s g' H' σ p e' => l.ct s g' H' σ p (e.trans e')⟩
def liftS (K : PySem.W.Frag) (c : CS) : TS := fun E σ H => ∃ s g C, RS K H σ s ∧ RG K H g ∧ c C s g ∧ LD K H C E

section
variable {X : Cx}
theorem PE.imp {e : Expr} {t t' : TE} (h : PE X e t) (f : ∀ σ H Q, t' σ H Q → t σ H Q) : PE X e t' := ⟨fun pins s σ H Q I q => h.run pins s σ H Q I (f σ H Q q)⟩
theorem PT.imp {e : Expr} {t t' : TT} (h : PT X e t) (f : ∀ σ H Q, t' σ H Q → t σ H Q) : PT X e t' := ⟨fun pins s σ H Q I q => h.run pins s σ H Q I (f σ H Q q)⟩
theorem PA.imp {e : List Expr} {t t' : TA} (h : PA X e t) (f : ∀ σ H Q, t' σ H Q → t σ H Q) : PA X e t' := ⟨fun pos pins s σ H Q I q => h.run pos pins s σ H Q I (f σ H Q q)⟩
theorem PS.imp {e : Stmt} {t t' : TS} (h : PS X e t) (f : ∀ E σ H, t' E σ H → t E σ H) : PS X e t' := ⟨fun pins s σ H Q I q => h.run pins s σ H Q I (f Q σ H q)⟩
theorem PSs.imp {e : List Stmt} {t t' : TS} (h : PSs X e t) (f : ∀ E σ H, t' E σ H → t E σ H) : PSs X e t' := ⟨fun pins s σ H Q I q => h.run pins s σ H Q I (f Q σ H q)⟩
end

/-! ### names, constants -/
def cVar (i : Nat) : CE := fun s g P => ∃ d, s[i]? = some (some d) ∧ P d g
def cC (d : D) : CE := fun _ g P => P d g
/-- data without places -/
def D.scal : D → Option V
  | .non => some .non
  | .bl b => some (.bl b)
  | .int i => some (.int i)
  | .str x => some (.str x)
  | _ => none
section
variable {X : Cx} {K : PySem.W.Frag}
theorem kv (i : Nat) {x : Str} {pos : Pos} (hN : X.N[i]? = some x := by rfl) (hv : Vis X.env.scope x := by first | exact Or.inl rfl | exact Or.inr (Or.inl rfl) | exact Or.inr (Or.inr rfl)) (hd : (x == ("__debug__" : Str)) = false := by decide)
    (hcd : (x == ("__classdict__" : Str)) = false := by decide) : PE X (.Name x pos) (liftE X.K (cVar i)) :=
  PE.imp (pe_var hN hv hd hcd) fun σ H Q ⟨s, g, P, rs, rg, ⟨d, e, p⟩, l⟩ => by
    obtain ⟨v, hv, r⟩ := rs.get e
    exact ⟨v, hv, l d g H v p (.refl H) rg r⟩
theorem kC {v : V} {d : D} (r : ∀ H, Rep K H v d) : ∀ σ H Q, liftE K (cC d) σ H Q → tC v σ H Q := fun σ H Q ⟨s, g, P, rs, rg, p, l⟩ => l d g H v p (.refl H) rg (r H)
theorem kint {i j pos} : PE X (.Constant (.int i) j pos) (liftE X.K (cC (.int i))) := PE.imp pe_int (kC fun _ => .int i)
theorem kbl {i j pos} : PE X (.Constant (.bool i) j pos) (liftE X.K (cC (.bl i))) := PE.imp pe_bl (kC fun _ => .bl i)
theorem kstr {i j pos} : PE X (.Constant (.str i) j pos) (liftE X.K (cC (.str i))) := PE.imp pe_str (kC fun _ => .str i)
theorem knon {j pos} : PE X (.Constant .none j pos) (liftE X.K (cC .non)) := PE.imp pe_non (kC fun _ => .non)
end

/-! ### two-place operations -/
abbrev CR := D → D → GH → CQ → Prop
def cOp (f : CR) (a b : CE) : CE := fun s g P => a s g fun x g1 => b s g1 fun y g2 => f x y g2 P
/-- a rule of values says what the clean one asks -/
def Rel2 (K : PySem.W.Frag) (f : CR) (r : R2) : Prop := ∀ x y dx dy H g P Q, Rep K H x dx → Rep K H y dy → RG K H g → f dx dy g P → LQ K H P Q → r x y H Q
section
variable {X : Cx} {K : PySem.W.Frag}
theorem lift_bin {f : CR} {ca cb : CE} {R : V → V → Hp → VK → Prop} (hr : Rel2 K f R) : ∀ σ H Q, liftE K (cOp f ca cb) σ H Q → liftE K ca σ H fun x H1 => liftE K cb σ H1 fun y H2 => R x y H2 Q := by
  rintro σ H Q ⟨s, g, P, rs, rg, p, l⟩
  refine ⟨s, g, _, rs, rg, p, ?_⟩
  intro d g1 H1 v p1 e1 rg1 r1
  refine ⟨s, g1, _, rs.mono e1, rg1, p1, ?_⟩
  intro d2 g2 H2 v2 p2 e2 rg2 r2
  exact hr v v2 d d2 H2 g2 P Q (r1.mono e2) r2 rg2 p2 (l.mono (e1.trans e2))
theorem kop {op : Operator} {r : R2} {f : CR} {a b : Expr} {ca cb : CE} {pos : Pos} (ho : OpR X (binaryOp op) r) (hr : Rel2 X.K f r) (ha : PE X a (liftE X.K ca)) (hb : PE X b (liftE X.K cb)) : PE X (.BinOp a op b pos) (liftE X.K (cOp f ca cb)) :=
  PE.imp (pe_op ho ha hb) fun σ H Q h => lift_bin hr σ H Q h
theorem kcmp {op : CmpOp} {r : R2} {f : CR} {a b : Expr} {ca cb : CE} {pos : Pos} (ho : OpR X (compareOp op) r) (hr : Rel2 X.K f r) (ha : PE X a (liftE X.K ca)) (hb : PE X b (liftE X.K cb)) (hm : behindInMarks op b = false := by first | exact nomark _ | rfl) :
    PE X (.Compare a [op] [b] pos) (liftE X.K (cOp f ca cb)) := PE.imp (pe_cmpR ho ha hb hm) fun σ H Q h => lift_bin hr σ H Q h
theorem kix {r : R2} {f : CR} {a b : Expr} {ca cb : CE} {pos : Pos} (ho : IxR X r) (hr : Rel2 X.K f r) (ha : PE X a (liftE X.K ca)) (hb : PE X b (liftE X.K cb)) (hs : PlainIx b := by exact fun _ _ => rfl) :
    PE X (.Subscript a b pos) (liftE X.K (cOp f ca cb)) := PE.imp (pe_ix ho ha hb hs) fun σ H Q h => lift_bin hr σ H Q h
/-- a test by a value -/
def cB (c : CE) : CT := fun s g P => c s g fun d g' => ∃ b, d = .bl b ∧ P b g'
theorem lift_test {c : CE} : ∀ σ H Q, liftT K (cB c) σ H Q → liftE K c σ H fun x H' => ∃ k, x = .bl k ∧ Q k H' := by
  rintro σ H Q ⟨s, g, P, rs, rg, p, l⟩
  refine ⟨s, g, _, rs, rg, p, ?_⟩
  rintro d g1 H1 v ⟨b, rfl, p1⟩ e1 rg1 r1
  cases r1
  exact ⟨b, rfl, l b g1 H1 p1 e1 rg1⟩
theorem ktest {e : Expr} {c : CE} (h : PE X e (liftE X.K c)) (he : ∀ whole, isTrue e X.env whole = (do let v ← whole; standAt e.pos; holding [v] (truthy v)) := by intro _; rfl) : PT X e (liftT X.K (cB c)) :=
  PT.imp (pt_val h he) fun σ H Q q => lift_test σ H Q q
theorem ktcmp {op : CmpOp} {r : R2} {f : CR} {a b : Expr} {ca cb : CE} {pos : Pos} (ho : OpR X (compareOp op) r) (hr : Rel2 X.K f r) (ha : PE X a (liftE X.K ca)) (hb : PE X b (liftE X.K cb)) (hm : behindInMarks op b = false := by first | exact nomark _ | rfl) :
    PT X (.Compare a [op] [b] pos) (liftT X.K (cB (cOp f ca cb))) := by
  refine PT.imp (pt_cmpR ho ha hb hm) ?_
  rintro σ H Q ⟨s, g, P, rs, rg, p, l⟩
  refine lift_bin (Q := fun x H' => ∃ k, x = .bl k ∧ Q k H') hr σ H ⟨s, g, _, rs, rg, p, ?_⟩
  rintro d g1 H1 v ⟨b, rfl, p1⟩ e1 rg1 r1
  cases r1
  exact ⟨b, rfl, l b g1 H1 p1 e1 rg1⟩
def cNot (c : CT) : CT := fun s g P => c s g fun b g' => P (!b) g'
theorem knot {a : Expr} {c : CT} {pos : Pos} (h : PT X a (liftT X.K c)) : PT X (.UnaryOp .Not a pos) (liftT X.K (cNot c)) := by
  refine PT.imp (pt_not h) ?_
  rintro σ H Q ⟨s, g, P, rs, rg, p, l⟩
  exact ⟨s, g, _, rs, rg, p, fun b g1 H1 p1 e1 rg1 => l _ g1 H1 p1 e1 rg1⟩
def cAnd (a b : CT) : CT := fun s g P => a s g fun k g1 => if k = true then b s g1 P else P false g1
def cOr (a b : CT) : CT := fun s g P => a s g fun k g1 => if k = true then P true g1 else b s g1 P
theorem kand {a b : Expr} {rest : List Expr} {ca cb : CT} {pos : Pos} (ha : PT X a (liftT X.K ca)) (hb : PW X (.BoolOp .And (b :: rest) pos) (liftT X.K cb)) : PW X (.BoolOp .And (a :: b :: rest) pos) (liftT X.K (cAnd ca cb)) := by
  refine ⟨fun wh pins s0 σ H Q I q => (pw_and ha hb).run wh pins s0 σ H Q I ?_⟩
  obtain ⟨s, g, P, rs, rg, p, l⟩ := q
  refine ⟨s, g, _, rs, rg, p, ?_⟩
  intro k g1 H1 p1 e1 rg1
  cases k with
  | true => exact ⟨s, g1, P, rs.mono e1, rg1, p1, fun b g2 H2 p2 e2 => l b g2 H2 p2 (e1.trans e2)⟩
  | false => exact l _ g1 H1 p1 e1 rg1
theorem kor {a b : Expr} {rest : List Expr} {ca cb : CT} {pos : Pos} (ha : PT X a (liftT X.K ca)) (hb : PW X (.BoolOp .Or (b :: rest) pos) (liftT X.K cb)) : PW X (.BoolOp .Or (a :: b :: rest) pos) (liftT X.K (cOr ca cb)) := by
  refine ⟨fun wh pins s0 σ H Q I q => (pw_or ha hb).run wh pins s0 σ H Q I ?_⟩
  obtain ⟨s, g, P, rs, rg, p, l⟩ := q
  refine ⟨s, g, _, rs, rg, p, ?_⟩
  intro k g1 H1 p1 e1 rg1
  cases k with
  | false => exact ⟨s, g1, P, rs.mono e1, rg1, p1, fun b g2 H2 p2 e2 => l b g2 H2 p2 (e1.trans e2)⟩
  | true => exact l _ g1 H1 p1 e1 rg1
/-- as values -/
def cAndV (a b : CE) : CE := fun s g P => a s g fun x g1 => ∃ k, x = .bl k ∧ if k = true then b s g1 P else P (.bl false) g1
def cOrV (a b : CE) : CE := fun s g P => a s g fun x g1 => ∃ k, x = .bl k ∧ if k = true then P (.bl true) g1 else b s g1 P
def cNotV (a : CE) : CE := fun s g P => a s g fun x g1 => ∃ k, x = .bl k ∧ P (.bl (!k)) g1
theorem kandV {a b : Expr} {rest : List Expr} {ca cb : CE} {pos : Pos} (ha : PE X a (liftE X.K ca)) (hb : PE X (.BoolOp .And (b :: rest) pos) (liftE X.K cb)) : PE X (.BoolOp .And (a :: b :: rest) pos) (liftE X.K (cAndV ca cb)) := by
  refine PE.imp (pe_and ha hb) ?_
  rintro σ H Q ⟨s, g, P, rs, rg, p, l⟩
  refine ⟨s, g, _, rs, rg, p, ?_⟩
  rintro d g1 H1 v ⟨k, rfl, p1⟩ e1 rg1 r1
  cases r1
  refine ⟨k, rfl, ?_⟩
  cases k with
  | true => exact ⟨s, g1, P, rs.mono e1, rg1, p1, l.mono e1⟩
  | false => exact l _ g1 H1 _ p1 e1 rg1 (.bl _)
theorem korV {a b : Expr} {rest : List Expr} {ca cb : CE} {pos : Pos} (ha : PE X a (liftE X.K ca)) (hb : PE X (.BoolOp .Or (b :: rest) pos) (liftE X.K cb)) : PE X (.BoolOp .Or (a :: b :: rest) pos) (liftE X.K (cOrV ca cb)) := by
  refine PE.imp (pe_or ha hb) ?_
  rintro σ H Q ⟨s, g, P, rs, rg, p, l⟩
  refine ⟨s, g, _, rs, rg, p, ?_⟩
  rintro d g1 H1 v ⟨k, rfl, p1⟩ e1 rg1 r1
  cases r1
  refine ⟨k, rfl, ?_⟩
  cases k with
  | false => exact ⟨s, g1, P, rs.mono e1, rg1, p1, l.mono e1⟩
  | true => exact l _ g1 H1 _ p1 e1 rg1 (.bl _)
theorem knotV {a : Expr} {c : CE} {pos : Pos} (h : PE X a (liftE X.K c)) : PE X (.UnaryOp .Not a pos) (liftE X.K (cNotV c)) := by
  refine PE.imp (pe_not h) ?_
  rintro σ H Q ⟨s, g, P, rs, rg, p, l⟩
  refine ⟨s, g, _, rs, rg, p, ?_⟩
  rintro d g1 H1 v ⟨k, rfl, p1⟩ e1 rg1 r1
  cases r1
  exact ⟨k, rfl, l _ g1 H1 _ p1 e1 rg1 (.bl _)⟩
def cIf (t : CT) (a b : CE) : CE := fun s g P => t s g fun k g1 => if k = true then a s g1 P else b s g1 P
theorem kif {t a b : Expr} {ct : CT} {ca cb : CE} {pos : Pos} (ht : PT X t (liftT X.K ct)) (ha : PE X a (liftE X.K ca)) (hb : PE X b (liftE X.K cb)) : PE X (.IfExp t a b pos) (liftE X.K (cIf ct ca cb)) := by
  refine PE.imp (pe_ifExp ht ha hb) ?_
  rintro σ H Q ⟨s, g, P, rs, rg, p, l⟩
  refine ⟨s, g, _, rs, rg, p, ?_⟩
  intro k g1 H1 p1 e1 rg1
  cases k with
  | true => exact ⟨s, g1, P, rs.mono e1, rg1, p1, l.mono e1⟩
  | false => exact ⟨s, g1, P, rs.mono e1, rg1, p1, l.mono e1⟩
end

/-! ### argument lists, calls -/
def cNil : CA := fun _ g P => P [] g
def cCons (a : CE) (r : CA) : CA := fun s g P => a s g fun x g1 => r s g1 fun xs g2 => P (x :: xs) g2
section
variable {X : Cx}
theorem knil : PA X [] (liftA X.K cNil) := PA.imp pa_nil fun σ H Q ⟨s, g, P, rs, rg, p, l⟩ => l [] g H [] p (.refl H) rg .nil
theorem kcons {e : Expr} {es : List Expr} {c : CE} {r : CA} (ha : PE X e (liftE X.K c)) (hr : PA X es (liftA X.K r)) (hs : starEach (e :: es) X.env = (false, eval e X.env) :: starEach es X.env := by rfl) : PA X (e :: es) (liftA X.K (cCons c r)) := by
  refine PA.imp (pa_cons ha hr hs) ?_
  rintro σ H Q ⟨s, g, P, rs, rg, p, l⟩
  refine ⟨s, g, _, rs, rg, p, ?_⟩
  intro d g1 H1 v p1 e1 rg1 r1
  refine ⟨s, g1, _, rs.mono e1, rg1, p1, ?_⟩
  intro ds g2 H2 vs p2 e2 rg2 r2
  exact l _ g2 H2 _ p2 (e1.trans e2) rg2 (.cons (r1.mono e2) r2)
/-- a promise in plain data -/
abbrev CSp := List D → GH → CQ → Prop
def liftSp (K : PySem.W.Frag) (c : CSp) : Sp := fun vs H Q _ => ∃ ds g P, RepL K H vs ds ∧ RG K H g ∧ c ds g P ∧ LQ K H P Q
def cCall (sp : CSp) (a : CA) : CE := fun s g P => a s g fun ds g1 => sp ds g1 P
theorem lift_call {K : PySem.W.Frag} {sp : CSp} {ca : CA} {E : XK} : ∀ σ H Q, liftE K (cCall sp ca) σ H Q → tCall (liftSp K sp) [] E (liftA K ca) σ H Q := by
  rintro σ H Q ⟨s, g, P, rs, rg, p, l⟩
  refine ⟨s, g, _, rs, rg, p, ?_⟩
  intro ds g1 H1 vs p1 e1 rg1 r1
  rw [List.append_nil]
  exact ⟨ds, g1, P, r1, rg1, p1, l.mono e1⟩
theorem kcall {e : Expr} {es : List Expr} {x : Str} {p pos : Pos} {k : Nat} {f : Addr} {fd : FuncData} {ps : List Str} {sp : CSp} {ca : CA} (F : FnOk X.prog X.w X.K X.mg X.base CX0 k f fd ps (liftSp X.K sp)) (hr : Room k X.A) (hg : Gl X x) (hm : X.mg x = some (.ref f))
    (hk : PySem.W.keepIn X.K (.ref f) = true) (hb : Binds X.K fd ps []) (ha : PA X (e :: es) (liftA X.K ca)) (hdb : (x == ("__debug__" : Str)) = false := by decide)
    (he : starEach (e :: es) X.env = (false, eval e X.env) :: starEach es X.env := by rfl) (hpl : (backTo pos (starEach es X.env)).any (·.1) = false := by rfl) : PE X (.Call (.Name x p) (e :: es) [] pos) (liftE X.K (cCall sp ca)) :=
  PE.imp (pe_call F hr hg hm hk hb .nil pass0 ha hdb he hpl) fun σ H Q h => lift_call σ H Q h
/-- a built-in by values -/
def RelC (K : PySem.W.Frag) (f : CSp) (r : List V → Hp → VK → Prop) : Prop := ∀ xs ds H g P Q, RepL K H xs ds → RG K H g → f ds g P → LQ K H P Q → r xs H Q
theorem lift_cb {K : PySem.W.Frag} {f : CSp} {r : List V → Hp → VK → Prop} {ca : CA} (hr : RelC K f r) : ∀ σ H Q, liftE K (cCall f ca) σ H Q → tCB r (liftA K ca) σ H Q := by
  rintro σ H Q ⟨s, g, P, rs, rg, p, l⟩
  refine ⟨s, g, _, rs, rg, p, ?_⟩
  intro ds g1 H1 vs p1 e1 rg1 r1
  exact hr vs ds H1 g1 P Q r1 rg1 p1 (l.mono e1)
theorem kcb {id : String} {r : List V → Hp → VK → Prop} {f : CSp} {ca : CA} {x : Str} {p pos : Pos} {e : Expr} {es : List Expr} (hc : CallR X (.builtin id) r) (hr : RelC X.K f r) (hg : Gl X x) (hm : X.mg x = none) (hv : bootBuiltins x = some (.builtin id)) (ha : PA X (e :: es) (liftA X.K ca)) (hn : x ≠ "__name__" := by decide) (hdb : (x == ("__debug__" : Str)) = false := by decide)
    (he : starEach (e :: es) X.env = (false, eval e X.env) :: starEach es X.env := by rfl) (hpl : (backTo pos (starEach es X.env)).any (·.1) = false := by rfl) : PE X (.Call (.Name x p) (e :: es) [] pos) (liftE X.K (cCall f ca)) :=
  PE.imp (pe_callB hc hg hm hv ha hn hdb he hpl) fun σ H Q h => lift_cb hr σ H Q h
theorem kcty {T : String} {r : List V → Hp → VK → Prop} {f : CSp} {ca : CA} {x : Str} {p pos : Pos} {e : Expr} {es : List Expr} (hc : CallR X (.type T) r) (hr : RelC X.K f r) (hg : Gl X x) (hm : X.mg x = none) (hv : bootBuiltins x = some (.type T)) (ha : PA X (e :: es) (liftA X.K ca)) (hn : x ≠ "__name__" := by decide) (hdb : (x == ("__debug__" : Str)) = false := by decide)
    (he : starEach (e :: es) X.env = (false, eval e X.env) :: starEach es X.env := by rfl) (hpl : (backTo pos (starEach es X.env)).any (·.1) = false := by rfl) : PE X (.Call (.Name x p) (e :: es) [] pos) (liftE X.K (cCall f ca)) :=
  PE.imp (pe_callTy hc hg hm hv ha hn hdb he hpl) fun σ H Q h => lift_cb hr σ H Q h
end

/-! ### displays -/
theorem tup_at {us : List Value} {h : Heap} : (h.push (tupO us)).get? h.objs.size = some (tupO us) := Heap.get?_push_size _ rfl
section
variable {X : Cx}
/-- a new tuple, its object known -/
theorem laid_tup {pins : List (Addr × Obj)} {σ : L2.St} {H : Hp} {s : Shared} {xs : List V} {us : List Value} (I : Inv X pins σ H s) (r : Vals xs us) (z : xs.length ≤ sizeLine) :
    Inv X pins σ (upd H s.heap.objs.size (.frz (tupO us) (.tup xs))) { s with heap := s.heap.push { cls := .type "tuple", data := .seq us.toArray } } :=
  I.laid (t' := s.toks) (o := .frz (tupO us) (.tup xs)) (fun b u e => Heap.get?_push_of_some _ e) (Nat.le_refl _) ⟨Heap.get?_push_size _ rfl, z, us, r, ⟨_, Heap.get?_push_size _ rfl, rfl, _, rfl⟩⟩
def tTupN (t : TA) : TE := fun σ H Q => t σ H fun xs H1 => xs.length ≤ sizeLine ∧ ∀ p us, H1 p = none → Q (.ref p) (upd H1 p (.frz (tupO us) (.tup xs)))
theorem pe_tupN {es : List Expr} {t : TA} {x1 pos} (h : PA X es t) : PE X (.Tuple es x1 pos) (tTupN t) := by
  refine ⟨fun pins s σ H Q I hq => ?_⟩
  refine wpAny_Tuple_spliced (thn (h.run pos pins s σ H _ I hq) fun us s1 ⟨xs, H1, I1, r, z, q⟩ => ⟨by rw [← r.length]; exact z, ?_⟩)
  have hf : H1 s1.heap.objs.size = none := I1.hok.fresh (Nat.le_refl _)
  exact ⟨.ref s1.heap.objs.size, _, laid_tup I1 r z, rfl, q _ us hf⟩
/-- the line of sizes, as a number that never unfolds -/
def lim (n : Nat) : Prop := n ≤ 1000000
theorem lim.ok {n : Nat} (h : lim n) : n ≤ sizeLine := Nat.le_trans h (by rw [sizeLine_eq]; decide)
theorem lim.lt {n : Nat} (h : lim n) : n < sizeLine := Nat.lt_of_le_of_lt h (by rw [sizeLine_eq]; decide)
/-- a fresh tuple in plain data -/
theorem new_tup {K : PySem.W.Frag} {H : Hp} {g : GH} {P : CQ} {Q : VK} {xs : List V} {ds : List D} {us : List Value} {p : Addr} (r : RepL K H xs ds) (rg : RG K H g) (q : P (.tup ds) g) (l : LQ K H P Q) (hp : H p = none) : Q (.ref p) (upd H p (.frz (tupO us) (.tup xs))) :=
  l (.tup ds) g _ _ q (.new hp) (rg.beside hp) (.tup (.inl ⟨us, upd_same⟩) (r.mono (.new hp)))
def cTup (a : CA) : CE := fun s g P => a s g fun ds g1 => lim ds.length ∧ P (.tup ds) g1
def cLst (a : CA) : CE := fun s g P => a s g fun ds g1 => lim ds.length ∧ ∀ p, g1 p = none → P (.ref p) (gupd g1 p (.lst ds))
theorem ktup {es : List Expr} {c : CA} {x1 pos} (h : PA X es (liftA X.K c)) : PE X (.Tuple es x1 pos) (liftE X.K (cTup c)) := by
  refine PE.imp (pe_tupN h) ?_
  rintro σ H Q ⟨s, g, P, rs, rg, p, l⟩
  refine ⟨s, g, _, rs, rg, p, ?_⟩
  rintro ds g1 H1 vs ⟨z, p1⟩ e1 rg1 r1
  exact ⟨by rw [r1.length]; exact z.ok, fun p us hp => new_tup r1 rg1 p1 (l.mono e1) hp⟩
theorem new_lst {K : PySem.W.Frag} {H : Hp} {g : GH} {P : CQ} {Q : VK} {xs : List V} {ds : List D} {p : Addr} (r : RepL K H xs ds) (rg : RG K H g) (q : ∀ p, g p = none → P (.ref p) (gupd g p (.lst ds))) (l : LQ K H P Q) (hp : H p = none) : Q (.ref p) (upd H p (.lst xs)) :=
  l (.ref p) _ _ _ (q p (rg.free hp)) (.new hp) (rg.laid hp (show RepL K _ xs ds from r.mono (.new hp))) (.ref p)
theorem klst {es : List Expr} {c : CA} {pos} (h : PA X es (liftA X.K c)) : PE X (.List es pos) (liftE X.K (cLst c)) := by
  refine PE.imp (pe_lst h) ?_
  rintro σ H Q ⟨s, g, P, rs, rg, p, l⟩
  refine ⟨s, g, _, rs, rg, p, ?_⟩
  rintro ds g1 H1 vs ⟨z, p1⟩ e1 rg1 r1
  exact ⟨by rw [r1.length]; exact z.ok, fun p hp => new_lst r1 rg1 p1 (l.mono e1) hp⟩
end
end CL

/-! CLb: statements, loops, comprehensions, defs in plain data. -/
namespace CL
open PySem PySem.Spec PyProof.Rows L2

/-! ### blocks and small statements -/
def cSkip : CS := fun C s g => C.nx s g
def cSeq (a b : CS) : CS := fun C s g => a { C with nx := fun s' g' => b C s' g' } s g
def cDrop (e : CE) : CS := fun C s g => e s g fun _ g' => C.nx s g'
def cRet (e : CE) : CS := fun C s g => e s g fun d g' => C.rt d g'
def cRetN : CS := fun C _ g => C.rt .non g
def cIfS (t : CT) (a b : CS) : CS := fun C s g => t s g fun k g1 => if k = true then a C s g1 else b C s g1
/-- targets -/
abbrev CG := D → CSt → GH → (CSt → GH → Prop) → Prop
def gnm (i : Nat) : CG := fun d s g Q => Q (s.set i (some d)) g
/-- (a, b, ..) = a tuple -/
def setAll : List Nat → List D → CSt → CSt
  | i :: is, d :: ds, s => setAll is ds (s.set i (some d))
  | _, _, s => s
def cSet (i : Nat) (e : CE) : CS := fun C s g => e s g fun d g' => C.nx (s.set i (some d)) g'
def cSetT (is : List Nat) (e : CE) : CS := fun C s g => e s g fun d g' => ∃ ds, d = .tup ds ∧ ds.length = is.length ∧ C.nx (setAll is ds s) g'
def cPar (i j : Nat) (a : CA) : CS := fun C s g => a s g fun ds g' => ∃ x y, ds = [x, y] ∧ C.nx ((s.set i (some x)).set j (some y)) g'

section
variable {X : Cx} {K : PySem.W.Frag}
theorem snil : PSs X [] (liftS X.K cSkip) := PSs.imp pss_nil fun E σ H ⟨s, g, C, rs, rg, p, l⟩ => l.nx s g H σ p (.refl H) rg rs
theorem scons {st : Stmt} {rest : List Stmt} {a b : CS} (h1 : PS X st (liftS X.K a)) (h2 : PSs X rest (liftS X.K b)) : PSs X (st :: rest) (liftS X.K (cSeq a b)) := by
  refine PSs.imp (pss_cons h1 h2) ?_
  rintro E σ H ⟨s, g, C, rs, rg, p, l⟩
  exact ⟨s, g, _, rs, rg, p, ⟨fun s' g' H' σ' p' e' rg' rs' => ⟨s', g', C, rs', rg', p', l.mono e'⟩, l.rt, l.bk, l.ct⟩⟩
theorem sone {st : Stmt} {a : CS} (h1 : PS X st (liftS X.K a)) : PSs X [st] (liftS X.K a) := pss_one h1
theorem sdrop {e : Expr} {c : CE} {pos : Pos} (h : PE X e (liftE X.K c)) (hs : swapsWith e none pos.line X.env = pure false := by rfl) : PS X (.Expr e pos) (liftS X.K (cDrop c)) := by
  refine PS.imp (ps_expr h hs) ?_
  rintro E σ H ⟨s, g, C, rs, rg, p, l⟩
  exact ⟨s, g, _, rs, rg, p, fun d g1 H1 v p1 e1 rg1 r1 => l.nx s g1 H1 σ p1 e1 rg1 (rs.mono e1)⟩
theorem sret {e : Expr} {c : CE} {pos : Pos} (h : PE X e (liftE X.K c)) : PS X (.Return (some e) pos) (liftS X.K (cRet c)) := by
  refine PS.imp (ps_ret h) ?_
  rintro E σ H ⟨s, g, C, rs, rg, p, l⟩
  exact ⟨s, g, _, rs, rg, p, fun d g1 H1 v p1 e1 rg1 r1 => l.rt d g1 H1 v p1 e1 rg1 r1⟩
theorem sretN {pos : Pos} : PS X (.Return none pos) (liftS X.K cRetN) := by
  refine PS.imp ps_retN ?_
  rintro E σ H ⟨s, g, C, rs, rg, p, l⟩
  exact l.rt .non g H .non p (.refl H) rg .non
theorem sif {t : Expr} {a b : List Stmt} {ct : CT} {ca cb : CS} {pos : Pos} (ht : PT X t (liftT X.K ct)) (ha : PSs X a (liftS X.K ca)) (hb : PSs X b (liftS X.K cb)) : PS X (.If t a b pos) (liftS X.K (cIfS ct ca cb)) := by
  refine PS.imp (ps_if ht ha hb) ?_
  rintro E σ H ⟨s, g, C, rs, rg, p, l⟩
  refine ⟨s, g, _, rs, rg, p, ?_⟩
  intro k g1 H1 p1 e1 rg1
  cases k with
  | true => exact ⟨s, g1, C, rs.mono e1, rg1, p1, l.mono e1⟩
  | false => exact ⟨s, g1, C, rs.mono e1, rg1, p1, l.mono e1⟩
/-- x = e -/
theorem sset {i : Nat} {x : Str} {e : Expr} {c : CE} {pos pos' : Pos} (hN : X.N.Nodup) (he : PE X e (liftE X.K c)) (hi : X.N[i]? = some x := by rfl) (hx : Loc X.env.scope x := by first | exact Or.inl rfl | exact Or.inr rfl) (hs : swapsWith e (some (.Name x pos')) pos.line X.env = pure false := by rfl)
    (hf : X.fn x = true ∨ X.env.scope.names.lookup x = some .local := by first | exact .inl rfl | exact .inr rfl) :
    PS X (.Assign [.Name x pos'] e pos) (liftS X.K (cSet i c)) := by
  refine PS.imp (ps_set hN hi hx he hs hf) ?_
  rintro E σ H ⟨s, g, C, rs, rg, p, l⟩
  exact ⟨s, g, _, rs, rg, p, fun d g1 H1 v p1 e1 rg1 r1 => l.nx _ g1 H1 _ p1 e1 rg1 ((rs.mono e1).set r1 i)⟩
/-- names told in a row -/
structure Tgs (X : Cx) (es : List Expr) (is : List Nat) (t : TGs) : Prop where
  pg : PGs X es t
  does : ∀ (H : Hp) (vs : List V) (ds : List D) (σ : L2.St) (s : CSt) (Q : L2.St → Hp → Prop), RepL X.K H vs ds → RS X.K H σ s → ds.length = is.length → (∀ σ', RS X.K H σ' (setAll is ds s) → Q σ' H) → t vs σ H Q
theorem tgnil : Tgs X [] [] gNil := ⟨pgs_nil, fun H vs ds σ s Q r rs hl q => by
  cases ds with
  | nil =>
    cases r
    exact ⟨rfl, q σ rs⟩
  | cons d ds => simp at hl⟩
theorem tgcons {i : Nat} {is : List Nat} {x : Str} {pos : Pos} {es : List Expr} {t : TGs} (hN : X.N.Nodup) (h : Tgs X es is t) (hi : X.N[i]? = some x := by rfl) (hx : Loc X.env.scope x := by first | exact Or.inl rfl | exact Or.inr rfl)
    (hf : X.fn x = true ∨ X.env.scope.names.lookup x = some .local := by first | exact .inl rfl | exact .inr rfl)
    (hs : (assignEach (.Name x pos :: es) X.env).map (·.2) = assign (.Name x pos) X.env :: (assignEach es X.env).map (·.2) := by rfl) : Tgs X (.Name x pos :: es) (i :: is) (gCons (gName i) t) :=
  ⟨pgs_cons (pg_name hN hi hx hf) h.pg hs, fun H vs ds σ s Q r rs hl q => by
    cases r with
    | nil => simp at hl
    | cons r1 rr => exact ⟨_, _, rfl, h.does H _ _ _ _ Q rr (rs.set r1 i) (by simpa using hl) q⟩⟩
/-- a, b = e, e a tuple -/
theorem ssetT {is : List Nat} {es : List Expr} {e : Expr} {c : CE} {t : TGs} {kk : Nat} {pos pos' : Pos} (hc : X.calm = true) (he : PE X e (liftE X.K c)) (ht : Tgs X es is t) (hn : (assignEach es X.env).length = is.length := by rfl) (hst : (assignEach es X.env).findIdx? (·.1) = none := by rfl)
    (hs : swapsWithSole [.Tuple es kk pos'] e pos.line X.env = pure false := by rfl) (hw : swappedStores [.Tuple es kk pos'] e X.env = pure none := by rfl)
    (h1 : (assignEach [.Tuple es kk pos'] X.env).map (·.2) = [assign (.Tuple es kk pos') X.env] := by rfl) : PS X (.Assign [.Tuple es kk pos'] e pos) (liftS X.K (cSetT is c)) := by
  refine PS.imp (ps_asg he (pg_tup hc ht.pg hn hst) hs hw h1) ?_
  rintro E σ H ⟨s, g, C, rs, rg, p, l⟩
  refine ⟨s, g, _, rs, rg, p, ?_⟩
  rintro d g1 H1 v ⟨ds, rfl, hl, p1⟩ e1 rg1 r1
  cases r1 with
  | tup tn r1 => exact ⟨_, _, rfl, tn.sq, by rw [r1.length, hl], ht.does H1 _ _ _ _ _ r1 (rs.mono e1) hl fun σ' rs' => l.nx _ g1 H1 _ p1 e1 rg1 rs'⟩
theorem spar {i j : Nat} {x y : Str} {a b : Expr} {ca : CA} {px py pt pos : Pos} {kt k2 : Nat} {pt2 : Pos} (hc : X.calm = true) (hN : X.N.Nodup) (hij : i ≠ j) (ha : PA X [a, b] (liftA X.K ca)) (hi : X.N[i]? = some x := by rfl) (hj : X.N[j]? = some y := by rfl)
    (hx : X.env.scope.names.lookup x = some .local := by rfl) (hy : X.env.scope.names.lookup y = some .local := by rfl)
    (hw : swappedStores [.Tuple [.Name x px, .Name y py] kt pt] (.Tuple [a, b] k2 pt2) X.env = pure (some [x, y]) := by rfl)
    (hs : swapsWithSole [.Tuple [.Name x px, .Name y py] kt pt] (.Tuple [a, b] k2 pt2) pos.line X.env = pure false := by rfl) :
    PS X (.Assign [.Tuple [.Name x px, .Name y py] kt pt] (.Tuple [a, b] k2 pt2) pos) (liftS X.K (cPar i j ca)) := by
  refine PS.imp (ps_par hc hN hi hj hij hx hy ha hw hs) ?_
  rintro E σ H ⟨s, g, C, rs, rg, p, l⟩
  refine ⟨s, g, _, rs, rg, p, ?_⟩
  rintro ds g1 H1 vs ⟨x', y', rfl, p1⟩ e1 rg1 r1
  cases r1 with
  | cons r1 rr =>
    cases rr with
    | cons r2 rr =>
      cases rr
      exact ⟨_, _, rfl, l.nx _ g1 H1 _ p1 e1 rg1 (((rs.mono e1).set r1 i).set r2 j)⟩
end

/-! ### while -/
def cWhile (t : CT) (b : CS) : CS := fun C s g => ∃ W : Nat → CSt → GH → Prop, (∃ m, W m s g) ∧ ∀ m s g, W m s g →
  t s g fun k g1 => if k = true then b { C with nx := fun s' g' => ∃ m', m' < m ∧ W m' s' g', ct := fun s' g' => ∃ m', m' < m ∧ W m' s' g', bk := C.nx } s g1 else C.nx s g1
section
variable {X : Cx}
theorem swhile {t : Expr} {b : List Stmt} {ct : CT} {cb : CS} {pos : Pos} (hp : PassesOwn (model X.prog X.w) X.A X.env X.xe) (ht : PT X t (liftT X.K ct)) (hb : PSs X b (liftS X.K cb)) : PS X (.While t b [] pos) (liftS X.K (cWhile ct cb)) := by
  refine PS.imp (ps_while hp ht hb) ?_
  rintro E σ H0 ⟨s0, g0, C, rs0, rg0, ⟨W, ⟨m0, w0⟩, turn⟩, l⟩
  refine ⟨fun m σ H => ∃ s g, Ext H0 H ∧ RS X.K H σ s ∧ RG X.K H g ∧ W m s g, ⟨m0, s0, g0, .refl _, rs0, rg0, w0⟩, ?_⟩
  rintro m σ H ⟨s, g, e, rs, rg, w⟩
  refine ⟨s, g, _, rs, rg, turn m s g w, ?_⟩
  intro k g1 H1 p1 e1 rg1
  cases k with
  | true =>
    refine ⟨fun σ' H' => ∃ m', m' < m ∧ ∃ s g, Ext H0 H' ∧ RS X.K H' σ' s ∧ RG X.K H' g ∧ W m' s g, fun σ' H' q => q, ?_⟩
    have l' := l.mono (e.trans e1)
    refine ⟨s, g1, _, rs.mono e1, rg1, p1, ⟨?_, l'.rt, l'.nx, ?_⟩⟩
    · rintro s' g' H' σ' ⟨m', hm, w'⟩ e' rg' rs'
      exact ⟨m', hm, s', g', (e.trans e1).trans e', rs', rg', w'⟩
    · rintro s' g' H' σ' ⟨m', hm, w'⟩ e' rg' rs'
      exact ⟨m', hm, s', g', (e.trans e1).trans e', rs', rg', w'⟩
  | false => exact l.nx s g1 H1 σ p1 (e.trans e1) rg1 (rs.mono e1)
end

/-! ### what is walked: each turn stores (tg : CSt → CSt), while chk stands -/
abbrev TgF := CSt → CSt
structure WalkJ (K : PySem.W.Frag) (J : It) (gt : TG) (H0 : Hp) (chk : GH → Prop) (tgs : List TgF) : Prop where
  go : ∀ i t H g, Ext H0 H → RG K H g → chk g → tgs[i]? = some t → J.go i H ∧ ∀ x H', J.yld i H x H' → ∀ σ s, RS K H σ s → ∀ Qn : L2.St → Hp → Prop, (∀ σ2 H2, Ext H H2 → (∀ a o, H a = some o → H2 a = some o) → RG K H2 g → RS K H2 σ2 (t s) → Qn σ2 H2) → gt x σ H' Qn
  stop : ∀ H g, Ext H0 H → RG K H g → chk g → J.stop tgs.length H
/-- a source: what it is walked by -/
abbrev CI := CSt → GH → (List TgF → (GH → Prop) → GH → Prop) → Prop
def RelI (K : PySem.W.Frag) (c : CI) (wi : TI) (gt : TG) : Prop := ∀ σ H s g (P : List TgF → (GH → Prop) → GH → Prop) (R : It → Hp → Prop), RS K H σ s → RG K H g → c s g P →
  (∀ tgs chk g1 H1 J, P tgs chk g1 → Ext H H1 → RG K H1 g1 → WalkJ K J gt H1 chk tgs → R J H1) → wi σ H R
def cLoop (b : CS) (C : CEnds) (chk : GH → Prop) : List TgF → CSt → GH → Prop
  | [], s, g => chk g ∧ C.nx s g
  | t :: ts, s, g => chk g ∧ b { C with nx := fun s' g' => cLoop b C chk ts s' g', ct := fun s' g' => cLoop b C chk ts s' g', bk := C.nx } (t s) g
def cFor (src : CI) (b : CS) : CS := fun C s g => src s g fun tgs chk g1 => cLoop b C chk tgs s g1
section
variable {X : Cx}
theorem sfor {tg iter : Expr} {body : List Stmt} {wi : TI} {gt : TG} {c : CI} {cb : CS} {pos : Pos} (hp : PassesOwn (model X.prog X.w) X.A X.env X.xe) (hc : X.calm = true) (hi : PI X tg iter wi) (hg : PG X tg gt) (hr : RelI X.K c wi gt) (hb : PSs X body (liftS X.K cb))
    (hs : ∀ x, foldedSetIterable iter X.env x = pure x := by intro _; rfl) : PS X (.For tg iter body [] pos) (liftS X.K (cFor c cb)) := by
  refine PS.imp (ps_for hp hc hi hg hb hs) ?_
  rintro E σ H ⟨s, g, C, rs, rg, p, l⟩
  refine hr σ H s g _ _ rs rg p ?_
  intro tgs chk g1 H1 J p1 e1 rg1 w
  refine ⟨fun i m σ' H' => m + i = tgs.length ∧ ∃ s' g', Ext H1 H' ∧ RS X.K H' σ' s' ∧ RG X.K H' g' ∧ cLoop cb C chk (tgs.drop i) s' g', ⟨tgs.length, rfl, s, g1, .refl _, rs.mono e1, rg1, p1⟩, ?_⟩
  rintro i m σ' H' ⟨hm, s', g', e', rs', rg', p'⟩
  cases hd : tgs.drop i with
  | nil =>
    rw [hd] at p'
    have hi : i = tgs.length := by
      have := congrArg List.length hd
      rw [List.length_drop] at this
      simp at this
      omega
    refine .inl ⟨?_, l.nx s' g' H' σ' p'.2 (e1.trans e') rg' rs'⟩
    rw [hi]
    exact w.stop H' g' e' rg' p'.1
  | cons t ts =>
    rw [hd] at p'
    have hlt : i < tgs.length := by
      have := congrArg List.length hd
      rw [List.length_drop] at this
      simp at this
      omega
    have ht : tgs[i]? = some t := by
      have := congrArg List.head? hd
      rw [List.head?_drop] at this
      simpa using this
    have hts : tgs.drop (i + 1) = ts := by
      have := congrArg List.tail hd
      rw [List.tail_drop] at this
      simpa using this
    obtain ⟨hgo, hy⟩ := w.go i t H' g' e' rg' p'.1 ht
    refine .inr ⟨hgo, fun σ2 H2 => ∃ m', m' < m ∧ m' + (i + 1) = tgs.length ∧ ∃ s2 g2, Ext H1 H2 ∧ RS X.K H2 σ2 s2 ∧ RG X.K H2 g2 ∧ cLoop cb C chk (tgs.drop (i + 1)) s2 g2, fun σ2 H2 q => q, ?_⟩
    intro x H2 y
    refine hy x H2 y σ' s' rs' _ ?_
    intro σ2 H3 e3 _ rg3 rs3
    have l' := l.mono ((e1.trans e').trans e3)
    refine ⟨t s', g', _, rs3, rg3, p'.2, ⟨?_, l'.rt, l'.nx, ?_⟩⟩
    · intro s4 g4 H4 σ4 p4 e4 rg4 rs4
      exact ⟨m - 1, by omega, by omega, s4, g4, (e'.trans e3).trans e4, rs4, rg4, by rw [hts]; exact p4⟩
    · intro s4 g4 H4 σ4 p4 e4 rg4 rs4
      exact ⟨m - 1, by omega, by omega, s4, g4, (e'.trans e3).trans e4, rs4, rg4, by rw [hts]; exact p4⟩
end

/-! ### comprehensions: the new list stands from the start -/
def cYes : CT := fun _ g P => P true g
def lcLoop (t : CT) (e : CE) (l : Addr) (s : CSt) (chk : GH → Prop) (P : GH → Prop) : List TgF → List D → GH → Prop
  | [], _, g => chk g ∧ P g
  | f :: fs, acc, g => chk g ∧ t (f s) g fun k g1 => if k = true then e (f s) g1 fun d g2 => g2 l = some (.lst acc) ∧ lim acc.length ∧ lcLoop t e l s chk P fs (acc ++ [d]) (gupd g2 l (.lst (acc ++ [d]))) else lcLoop t e l s chk P fs acc g1
def cLc (src : CI) (vs : List Nat) (t : CT) (e : CE) : CE := fun s g P => src s g fun tgs chk g1 => ∀ l, g1 l = none → lcLoop t e l (cwipe s vs) chk (P (.ref l)) tgs [] (gupd g1 l (.lst []))
/-- the targets store own names alone -/
def Own (vs : List Nat) (gt : TG) : Prop := ∀ x σ H Q, gt x (L2.wipe σ vs) H Q → gt x (L2.wipe σ vs) H fun σ2 H2 => L2.wipe σ2 vs = L2.wipe σ vs ∧ Q σ2 H2
section
variable {K : PySem.W.Frag}
theorem lift_lc {c : CI} {wi : TI} {gt : TG} {t : CT} {e : CE} {vs : List Nat} (hr : RelI K c wi gt) (ho : Own vs gt) : ∀ σ H Q, liftE K (cLc c vs t e) σ H Q → tLc wi gt (liftT K t) (liftE K e) vs σ H Q := by
  rintro σ H Q ⟨s, g, P, rs, rg, p, l⟩
  refine hr σ H s g _ _ rs rg p ?_
  intro tgs chk g1 H1 J p1 e1 rg1 w
  intro Dl hD
  have pl := p1 Dl (rg1.free hD)
  refine ⟨fun i m H' => m + i = tgs.length ∧ ∃ acc g', Ext H1 H' ∧ RG K H' g' ∧ lcLoop t e Dl (cwipe s vs) chk (P (.ref Dl)) (tgs.drop i) acc g', ⟨tgs.length, rfl, [], _, .new hD, rg1.laid (m := .lst []) hD (show RepL K _ [] [] from .nil), pl⟩, ?_⟩
  rintro i m H' ⟨hm, acc, g', e', rg', p'⟩
  cases hd : tgs.drop i with
  | nil =>
    rw [hd] at p'
    have hi : i = tgs.length := by
      have := congrArg List.length hd
      rw [List.length_drop] at this
      simp at this
      omega
    refine .inl ⟨?_, l _ g' H' _ p'.2 (e1.trans e') rg' (.ref Dl)⟩
    rw [hi]
    exact w.stop H' g' e' rg' p'.1
  | cons f fs =>
    rw [hd] at p'
    have hlt : i < tgs.length := by
      have := congrArg List.length hd
      rw [List.length_drop] at this
      simp at this
      omega
    have ht : tgs[i]? = some f := by
      have := congrArg List.head? hd
      rw [List.head?_drop] at this
      simpa using this
    have hts : tgs.drop (i + 1) = fs := by
      have := congrArg List.tail hd
      rw [List.tail_drop] at this
      simpa using this
    obtain ⟨hgo, hy⟩ := w.go i f H' g' e' rg' p'.1 ht
    refine .inr ⟨hgo, fun H2 => ∃ m', m' < m ∧ m' + (i + 1) = tgs.length ∧ ∃ acc g2, Ext H1 H2 ∧ RG K H2 g2 ∧ lcLoop t e Dl (cwipe s vs) chk (P (.ref Dl)) (tgs.drop (i + 1)) acc g2, fun H2 q => q, ?_⟩
    intro x H2 y
    refine ho x σ H2 _ (hy x H2 y _ _ ((rs.mono (e1.trans e')).wipe vs) _ ?_)
    intro σ2 H3 e3 s3 rg3 rs3
    refine ⟨f (cwipe s vs), g', _, rs3, rg3, p'.2, ?_⟩
    intro k g4 H4 p4 e4 rg4
    cases k with
    | true =>
      refine ⟨f (cwipe s vs), g4, _, rs3.mono e4, rg4, p4, ?_⟩
      rintro d g5 H5 v ⟨ga5, hz, p5⟩ e5 rg5 r5
      obtain ⟨xs, hx, rx⟩ := rg5.lst ga5
      refine ⟨xs, hx, by rw [rx.length]; exact hz.lt, ?_⟩
      have e6 : Ext H5 (upd H5 Dl (.lst (xs ++ [v]))) := .put hx id
      refine ⟨m - 1, by omega, by omega, acc ++ [d], _, (((e'.trans e3).trans e4).trans e5).trans e6, rg5.put (m := .lst (acc ++ [d])) hx id (show RepL K _ (xs ++ [v]) (acc ++ [d]) from (RepL.mono e6 rx).snoc (r5.mono e6)), ?_⟩
      rw [hts]
      exact p5
    | false =>
      refine ⟨m - 1, by omega, by omega, acc, g4, (e'.trans e3).trans e4, rg4, ?_⟩
      rw [hts]
      exact p4
end
end CL

/-! CLc: comprehensions' rules, the sources, a def by its clean body. -/
namespace CL
open PySem PySem.Spec PyProof.Rows L2

section
variable {X : Cx}
theorem PTs.imp {e : List Expr} {t t' : TT} (h : PTs X e t) (f : ∀ σ H Q, t' σ H Q → t σ H Q) : PTs X e t' := ⟨fun pins s σ H Q I q => h.run pins s σ H Q I (f σ H Q q)⟩
theorem ktsnil : PTs X [] (liftT X.K cYes) := PTs.imp pts_nil fun σ H Q ⟨s, g, P, rs, rg, p, l⟩ => l true g H p (.refl H) rg
theorem ktsone {c : Expr} {t : CT} (h : PT X c (liftT X.K t)) : PTs X [c] (liftT X.K t) := pts_one h
/-- the targets' own names -/
theorem wipe_out1 {j : Nat} {o : Option V} : ∀ (ws : List Nat) (τ : L2.St), j ∉ ws → L2.wipe (τ.set j o) ws = (L2.wipe τ ws).set j o
  | [], _, _ => rfl
  | w :: ws, τ, hw => by
    simp only [List.mem_cons, not_or] at hw
    show (L2.wipe (τ.set j o) ws).set w none = ((L2.wipe τ ws).set w none).set j o
    rw [wipe_out1 ws τ hw.2, List.set_comm _ _ hw.1]
theorem wipe_set {j : Nat} {o : Option V} : ∀ (vs : List Nat) (σ : L2.St), j ∈ vs → L2.wipe (σ.set j o) vs = L2.wipe σ vs
  | [], _, hj => by simp at hj
  | v :: vs, σ, hj => by
    show (L2.wipe (σ.set j o) vs).set v none = (L2.wipe σ vs).set v none
    by_cases hv : j ∈ vs
    · rw [wipe_set vs σ hv]
    · have e : j = v := by
        rcases List.mem_cons.mp hj with e | e
        · exact e
        · exact absurd e hv
      subst e
      rw [wipe_out1 vs σ hv, List.set_set]
theorem wipe_idem : ∀ (vs : List Nat) (σ : L2.St), L2.wipe (L2.wipe σ vs) vs = L2.wipe σ vs
  | [], _ => rfl
  | v :: vs, σ => by
    show (L2.wipe ((L2.wipe σ vs).set v none) vs).set v none = (L2.wipe σ vs).set v none
    by_cases hv : v ∈ vs
    · rw [wipe_set vs _ hv, wipe_idem vs]
    · rw [wipe_out1 vs _ hv, wipe_idem vs, List.set_set]
theorem own_name {vs : List Nat} {j : Nat} (h : j ∈ vs) : Own vs (gName j) := fun x σ H Q q => ⟨by rw [wipe_set vs _ h, wipe_idem], q⟩
theorem klc {elt tg iter : Expr} {ifs : List Expr} {scope : Scope} {own : List (Str × Nat)} {pos : Pos} {wi : TI} {gt : TG} {c : CI} {t : CT} {e : CE} (hc : X.calm = true) (hN : X.N.Nodup) (hi : PI X tg iter wi) (hr : RelI X.K c wi gt) (ho : Own (own.map (·.2)) gt) (ok : BlkOk X.N X.env.scope scope own)
    (hg : ∀ (s : Shared) (H : Hp) (C : Addr) (cl : List (Str × Addr)) (fp : List Addr), PG (X.blk s H scope (compEnvC scope cl C X.env) fp) tg gt) (ht : ∀ (s : Shared) (H : Hp) (C : Addr) (cl : List (Str × Addr)) (fp : List Addr), PTs (X.blk s H scope (compEnvC scope cl C X.env) fp) ifs (liftT X.K t))
    (he : ∀ (s : Shared) (H : Hp) (C : Addr) (cl : List (Str × Addr)) (fp : List Addr), PE (X.blk s H scope (compEnvC scope cl C X.env) fp) elt (liftE X.K e)) (hs : ∀ x, foldedSetIterable iter X.env x = pure x := by intro _; rfl) :
    PE X (.ListComp elt [⟨tg, iter, ifs, 0⟩] scope pos) (liftE X.K (cLc c (own.map (·.2)) t e)) :=
  PE.imp (pe_lc hc hN hi ok hg ht he hs) fun σ H Q q => lift_lc hr ho σ H Q q
theorem slc {i : Nat} {y : Str} {py : Pos} {elt tg iter : Expr} {ifs : List Expr} {scope : Scope} {own : List (Str × Nat)} {pos spos : Pos} {wi : TI} {gt : TG} {c : CI} {t : CT} {e : CE} (hc : X.calm = true) (hN : X.N.Nodup) (hi : PI X tg iter wi) (hr : RelI X.K c wi gt) (ho : Own (own.map (·.2)) gt) (ok : BlkOk X.N X.env.scope scope own)
    (hg : ∀ (s : Shared) (H : Hp) (C : Addr) (cl : List (Str × Addr)) (fp : List Addr), PG (X.blk s H scope (compEnvC scope cl C X.env) fp) tg gt) (ht : ∀ (s : Shared) (H : Hp) (C : Addr) (cl : List (Str × Addr)) (fp : List Addr), PTs (X.blk s H scope (compEnvC scope cl C X.env) fp) ifs (liftT X.K t))
    (he : ∀ (s : Shared) (H : Hp) (C : Addr) (cl : List (Str × Addr)) (fp : List Addr), PE (X.blk s H scope (compEnvC scope cl C X.env) fp) elt (liftE X.K e))
    (hy : X.N[i]? = some y := by rfl) (hyl : X.env.scope.names.lookup y = some .local := by rfl)
    (hsw : swapsWith (.ListComp elt [⟨tg, iter, ifs, 0⟩] scope pos) (some (.Name y py)) spos.line X.env = pure true := by exact sw_true rfl rfl rfl (by decide +kernel)) (hs : ∀ x, foldedSetIterable iter X.env x = pure x := by intro _; rfl) :
    PS X (.Assign [.Name y py] (.ListComp elt [⟨tg, iter, ifs, 0⟩] scope pos) spos) (liftS X.K (cSet i (cLc c (own.map (·.2)) t e))) := by
  refine PS.imp (ps_setLc hc hN hy hyl hsw hi ok hg ht he hs) ?_
  rintro E σ H ⟨s, g, C, rs, rg, p, l⟩
  refine lift_lc (Q := fun x H1 => gName i x σ H1 E.nx) hr ho σ H ⟨s, g, _, rs, rg, p, ?_⟩
  intro d g1 H1 v p1 e1 rg1 r1
  exact l.nx _ g1 H1 _ p1 e1 rg1 ((rs.mono e1).set r1 i)
end

/-! ### the sources -/
def onEach (j : Nat) (ds : List D) : List TgF := ds.map fun d s => s.set j (some d)
theorem onEach_get {j : Nat} {ds : List D} {i : Nat} {t : TgF} (h : (onEach j ds)[i]? = some t) : ∃ d, ds[i]? = some d ∧ t = fun s => s.set j (some d) := by
  unfold onEach at h
  rw [List.getElem?_map] at h
  cases e : ds[i]? with
  | none => rw [e] at h; cases h
  | some d =>
    rw [e] at h
    cases h
    exact ⟨d, rfl, rfl⟩
theorem onEach_len {j : Nat} {ds : List D} : (onEach j ds).length = ds.length := List.length_map _
def kD : Key → D
  | .inl i => .int i
  | .inr x => .str x
def iT (j : Nat) (e : CE) : CI := fun s g P => e s g fun d g1 => ∃ ds, d = .tup ds ∧ P (onEach j ds) (fun _ => True) g1
def iL (j : Nat) (e : CE) : CI := fun s g P => e s g fun d g1 => ∃ a ds, d = .ref a ∧ g1 a = some (.lst ds) ∧ P (onEach j ds) (fun g => g a = some (.lst ds)) g1
def iStrS (j : Nat) (e : CE) : CI := fun s g P => e s g fun d g1 => ∃ x : Str, d = .str x ∧ P (onEach j (x.cps.toList.map fun c => D.str ⟨#[c]⟩)) (fun _ => True) g1
def iR1 (j : Nat) (a : CA) : CI := fun s g P => a s g fun ds g1 => ∃ n : Int, ds = [.int n] ∧ -1000000 ≤ n ∧ n ≤ 1000000 ∧ P (onEach j ((List.range n.toNat).map fun k => D.int (k : Nat))) (fun _ => True) g1
def iR2 (j : Nat) (a : CA) : CI := fun s g P => a s g fun ds g1 => ∃ m n : Int, ds = [.int m, .int n] ∧ -1000000 ≤ m ∧ m ≤ 1000000 ∧ -1000000 ≤ n ∧ n ≤ 1000000 ∧ P (onEach j ((List.range (n - m).toNat).map fun k => D.int (m + (k : Nat)))) (fun _ => True) g1
def iKeysL (j : Nat) (e : CE) : CI := fun s g P => e s g fun d g1 => ∃ a o vs kvs, d = .ref a ∧ g1 a = some (.lck o vs kvs) ∧ P (onEach j (kvs.map fun kv => kD kv.1)) (fun g => g a = some (.lck o vs kvs)) g1
section
variable {X : Cx} {K : PySem.W.Frag}
theorem rel_T {j : Nat} {e : CE} : RelI K (iT j e) (iTup K (liftE K e)) (gName j) := by
  intro σ H s g P R rs rg p q
  refine ⟨s, g, _, rs, rg, p, ?_⟩
  rintro d g1 H1 v ⟨ds, rfl, p1⟩ e1 rg1 r1
  cases r1 with
  | tup tn rl =>
    rename_i a xs
    refine ⟨a, rfl, ⟨xs, tn.sq⟩, q _ _ g1 H1 _ p1 e1 rg1 ⟨fun i t H2 g2 e2 rg2 _ ht => ?_, fun H2 g2 e2 rg2 _ => ?_⟩⟩
    · obtain ⟨d, hd, rfl⟩ := onEach_get ht
      obtain ⟨v, hv, rv⟩ := rl.get hd
      have hq : SqT K H2 a xs := (tn.mono e2).sq
      refine ⟨⟨xs, v, hq, hv⟩, ?_⟩
      rintro x H3 ⟨rfl, y⟩ σ2 s2 rs2 Qn k
      have e := y xs hq
      rw [hv] at e
      cases e
      exact k _ _ (.refl _) (fun _ _ z => z) rg2 (rs2.set (rv.mono e2) j)
    · refine ⟨xs, (tn.mono e2).sq, ?_⟩
      rw [onEach_len, rl.length]
      exact Nat.le_refl _
theorem rel_L {j : Nat} {e : CE} : RelI K (iL j e) (iList K (liftE K e)) (gName j) := by
  intro σ H s g P R rs rg p q
  refine ⟨s, g, _, rs, rg, p, ?_⟩
  rintro d g1 H1 v ⟨a, ds, rfl, ga, p1⟩ e1 rg1 r1
  cases r1
  obtain ⟨xs0, hx0, _⟩ := rg1.lst ga
  refine ⟨a, rfl, ⟨xs0, .of hx0⟩, q _ _ g1 H1 _ p1 e1 rg1 ⟨fun i t H2 g2 e2 rg2 ch ht => ?_, fun H2 g2 e2 rg2 ch => ?_⟩⟩
  · obtain ⟨d, hd, rfl⟩ := onEach_get ht
    obtain ⟨xs, hx, rl⟩ := rg2.lst ch
    obtain ⟨v, hv, rv⟩ := rl.get hd
    refine ⟨⟨xs, v, .of hx, hv⟩, ?_⟩
    rintro x H3 ⟨rfl, y⟩ σ2 s2 rs2 Qn k
    have e := y xs (.of hx)
    rw [hv] at e
    cases e
    exact k _ _ (.refl _) (fun _ _ z => z) rg2 (rs2.set rv j)
  · obtain ⟨xs, hx, rl⟩ := rg2.lst ch
    refine ⟨xs, .of hx, ?_⟩
    rw [onEach_len, rl.length]
    exact Nat.le_refl _
theorem rel_S {j : Nat} {e : CE} : RelI K (iStrS j e) (iStr (liftE K e)) (gName j) := by
  intro σ H s g P R rs rg p q
  refine ⟨s, g, _, rs, rg, p, ?_⟩
  rintro d g1 H1 v ⟨x, rfl, p1⟩ e1 rg1 r1
  cases r1
  refine ⟨x, rfl, q _ _ g1 H1 _ p1 e1 rg1 ⟨fun i t H2 g2 e2 rg2 _ ht => ?_, fun H2 g2 e2 rg2 _ => ?_⟩⟩
  · obtain ⟨d, hd, rfl⟩ := onEach_get ht
    rw [List.getElem?_map] at hd
    have hl : i < x.cps.size := by
      cases ec : x.cps.toList[i]? with
      | none => rw [ec] at hd; cases hd
      | some c =>
        have := (List.getElem?_eq_some_iff.mp ec).1
        simpa using this
    refine ⟨hl, ?_⟩
    rintro v H3 ⟨rfl, c, hc, rfl⟩ σ2 s2 rs2 Qn k
    have hc' : x.cps.toList[i]? = some c := by rw [Array.getElem?_toList]; exact hc
    rw [hc'] at hd
    cases hd
    exact k _ _ (.refl _) (fun _ _ z => z) rg2 (rs2.set (.str _) j)
  · show x.cps.size ≤ _
    rw [onEach_len, List.length_map]
    simp
theorem rel_R1 {j : Nat} {a : CA} : RelI K (iR1 j a) (iRng1 (liftA K a)) (gName j) := by
  intro σ H s g P R rs rg p q
  refine ⟨s, g, _, rs, rg, p, ?_⟩
  rintro ds g1 H1 vs ⟨n, rfl, h0, h1, p1⟩ e1 rg1 r1
  cases r1 with
  | cons r rr =>
    cases r; cases rr
    refine ⟨n, rfl, by omega, by omega, q _ _ g1 H1 _ p1 e1 rg1 ⟨fun i t H2 g2 e2 rg2 _ ht => ?_, fun H2 g2 e2 rg2 _ => ?_⟩⟩
    · obtain ⟨d, hd, rfl⟩ := onEach_get ht
      rw [List.getElem?_map] at hd
      have hl : i < n.toNat := by
        cases ec : (List.range n.toNat)[i]? with
        | none => rw [ec] at hd; cases hd
        | some c =>
          have := (List.getElem?_eq_some_iff.mp ec).1
          simpa using this
      rw [List.getElem?_range hl] at hd
      cases hd
      refine ⟨hl, ?_⟩
      rintro v H3 ⟨rfl, rfl⟩ σ2 s2 rs2 Qn k
      have e : (0 : Int) + (i : Nat) = (i : Nat) := Int.zero_add _
      show Qn (σ2.set j (some (.int ((0 : Int) + (i : Nat))))) H3
      rw [e]
      exact k _ _ (.refl _) (fun _ _ z => z) rg2 (rs2.set (.int _) j)
    · show n.toNat ≤ _
      rw [onEach_len, List.length_map, List.length_range]
      exact Nat.le_refl _
theorem rel_R2 {j : Nat} {a : CA} : RelI K (iR2 j a) (iRng2 (liftA K a)) (gName j) := by
  intro σ H s g P R rs rg p q
  refine ⟨s, g, _, rs, rg, p, ?_⟩
  rintro ds g1 H1 vs ⟨m, n, rfl, h0, h1, h2, h3, p1⟩ e1 rg1 r1
  cases r1 with
  | cons r rr =>
    cases rr with
    | cons r' rr =>
      cases r; cases r'; cases rr
      refine ⟨m, n, rfl, ⟨by omega, by omega, by omega, by omega⟩, q _ _ g1 H1 _ p1 e1 rg1 ⟨fun i t H2 g2 e2 rg2 _ ht => ?_, fun H2 g2 e2 rg2 _ => ?_⟩⟩
      · obtain ⟨d, hd, rfl⟩ := onEach_get ht
        rw [List.getElem?_map] at hd
        have hl : i < (n - m).toNat := by
          cases ec : (List.range (n - m).toNat)[i]? with
          | none => rw [ec] at hd; cases hd
          | some c =>
            have := (List.getElem?_eq_some_iff.mp ec).1
            simpa using this
        rw [List.getElem?_range hl] at hd
        cases hd
        refine ⟨hl, ?_⟩
        rintro v H3 ⟨rfl, rfl⟩ σ2 s2 rs2 Qn k
        exact k _ _ (.refl _) (fun _ _ z => z) rg2 (rs2.set (.int _) j)
      · show (n - m).toNat ≤ _
        rw [onEach_len, List.length_map, List.length_range]
        exact Nat.le_refl _
theorem KVr.get {κ : Type} {H : Hp} : ∀ {ks : List (κ × V)} {ds : List (κ × D)} {i : Nat} {k : κ} {v : V}, KVr K H ks ds → ks[i]? = some (k, v) → ∃ d, ds[i]? = some (k, d) ∧ Rep K H v d
  | _, _, _, _, _, .nil, e => by simp at e
  | (_ :: _), ((b1, b2) :: _), 0, k, v, .cons r _, e => by
    have e := Option.some.inj e
    subst e
    obtain ⟨h1, h2⟩ := r
    have h1 : k = b1 := h1
    subst h1
    exact ⟨b2, rfl, h2⟩
  | _, _, i + 1, _, _, .cons _ t, e => by
    obtain ⟨d, h1, h2⟩ := KVr.get (i := i) t (by simpa using e)
    exact ⟨d, by simpa using h1, h2⟩
theorem KVr.getD {κ : Type} {H : Hp} : ∀ {ks : List (κ × V)} {ds : List (κ × D)} {i : Nat} {k : κ} {v : D}, KVr K H ks ds → ds[i]? = some (k, v) → ∃ d, ks[i]? = some (k, d) ∧ Rep K H d v
  | _, _, _, _, _, .nil, e => by simp at e
  | ((b1, b2) :: _), (_ :: _), 0, k, v, .cons r _, e => by
    have e := Option.some.inj e
    subst e
    obtain ⟨h1, h2⟩ := r
    have h1 : b1 = k := h1
    subst h1
    exact ⟨b2, rfl, h2⟩
  | _, _, i + 1, _, _, .cons _ t, e => by
    obtain ⟨d, h1, h2⟩ := KVr.getD (i := i) t (by simpa using e)
    exact ⟨d, by simpa using h1, h2⟩
theorem KVr.len {κ : Type} {H : Hp} {ks : List (κ × V)} {ds : List (κ × D)} (h : KVr K H ks ds) : ks.length = ds.length := Paired.length h
theorem rep_key {H : Hp} (k : Key) : Rep K H (kV k) (kD k) := by
  cases k with
  | inl i => exact .int i
  | inr x => exact .str x
theorem rel_keys {j : Nat} {e : CE} : RelI K (iKeysL j e) (iKeysM (liftE K e)) (gName j) := by
  intro σ H s g P R rs rg p q
  refine ⟨s, g, _, rs, rg, p, ?_⟩
  rintro d g1 H1 v ⟨a, o, vs, ds, rfl, ga, p1⟩ e1 rg1 r1
  cases r1
  obtain ⟨hx0, rk⟩ := rg1.lck ga
  refine ⟨a, o, vs, rfl, hx0, q _ _ g1 H1 _ p1 e1 rg1 ⟨fun i t H2 g2 e2 rg2 ch ht => ?_, fun H2 g2 e2 rg2 ch => ?_⟩⟩
  · obtain ⟨d, hd, rfl⟩ := onEach_get ht
    rw [List.getElem?_map] at hd
    obtain ⟨hx, _⟩ := rg2.lck ch
    cases ek : ds[i]? with
    | none => rw [ek] at hd; cases hd
    | some kd =>
      obtain ⟨k, dd⟩ := kd
      rw [ek] at hd
      cases hd
      obtain ⟨v', hv', _⟩ := rk.getD ek
      refine ⟨⟨hx, (List.getElem?_eq_some_iff.mp hv').1⟩, ?_⟩
      rintro x H3 ⟨rfl, k', v2, hk, rfl⟩ σ2 s2 rs2 Qn kk
      rw [hv'] at hk
      cases hk
      exact kk _ _ (.refl _) (fun _ _ z => z) rg2 (rs2.set (rep_key _) j)
  · obtain ⟨hx, _⟩ := rg2.lck ch
    refine ⟨hx, ?_⟩
    rw [onEach_len, List.length_map, ← rk.len]
    exact Nat.le_refl _
/-- a dict is walked within: it is read, not changed -/
def cLock (i : Nat) (c : CE) : CE := fun s g P => ∃ a kvs, s[i]? = some (some (.ref a)) ∧ g a = some (.dic kvs) ∧ ∀ o vs, c s (gupd g a (.lck o vs kvs)) fun d g' => g' a = some (.lck o vs kvs) ∧ P d (gupd g' a (.dic kvs))
theorem klock {e : Expr} {i : Nat} {c : CE} (h : PE X e (liftE X.K c)) : PE X e (liftE X.K (cLock i c)) := by
  refine PE.imp (pe_lock h) ?_
  rintro σ H Q ⟨s, g, P, rs, rg, ⟨a, kvs, hi, ga, p⟩, l⟩
  obtain ⟨vs, hx, rk⟩ := rg.dic ga
  refine ⟨a, .dK vs, hx, trivial, fun od => ?_⟩
  have e1 : Ext H (upd H a (.frz od (.dK vs))) := .put hx id
  refine ⟨s, _, _, rs.mono e1, rg.put (m := .lck od vs kvs) hx id ⟨rfl, rfl, rk.mono e1⟩, p od vs, ?_⟩
  rintro d g2 H2 v ⟨ga2, p2⟩ e2 rg2 r2
  obtain ⟨hx2, rk2⟩ := rg2.lck ga2
  have e3 : Ext H2 (upd H2 a (.dK vs)) := .put hx2 id
  exact ⟨hx2, l d _ _ v p2 ((e1.trans e2).trans e3) (rg2.put (m := .dic kvs) hx2 id (show KVr X.K _ vs kvs from rk2.mono e3)) (r2.mono e3)⟩
end

/-! ### the pairs of a dict just made -/
/-- e gives a dict; from then on it stands still -/
def tFrz (t : TE) : TE := fun σ H Q => t σ H fun x H1 => ∃ d u, H1 d = some u ∧ Mut (some u) ∧ ∀ od, Q x (upd H1 d (.frz od u))
theorem pe_frz {X : Cx} {e : Expr} {t : TE} (h : PE X e t) : PE X e (tFrz t) := by
  refine ⟨fun pins s σ H Q I hw => ?_⟩
  refine thn (h.run pins s σ H _ I hw) fun v s1 ⟨x, H1, I1, r, d, u, hd, mu, q⟩ => ?_
  obtain ⟨od, I2⟩ := I1.lock hd mu
  exact ⟨x, _, I2, r, q od⟩
/-- each pair stores two names -/
def onTwo (i j : Nat) (ds : List (D × D)) : List TgF := ds.map fun d s => (s.set i (some d.1)).set j (some d.2)
theorem onTwo_get {i j : Nat} {ds : List (D × D)} {n : Nat} {t : TgF} (h : (onTwo i j ds)[n]? = some t) : ∃ d, ds[n]? = some d ∧ t = fun s => (s.set i (some d.1)).set j (some d.2) := by
  unfold onTwo at h
  rw [List.getElem?_map] at h
  cases e : ds[n]? with
  | none => rw [e] at h; cases h
  | some d =>
    rw [e] at h
    cases h
    exact ⟨d, rfl, rfl⟩
theorem onTwo_len {i j : Nat} {ds : List (D × D)} : (onTwo i j ds).length = ds.length := List.length_map _
abbrev gTwo (K : PySem.W.Frag) (i j : Nat) : TG := gTup K 2 (gCons (gName i) (gCons (gName j) gNil))
/-- a pair that an iterator hands out goes into two names -/
theorem two_does {K : PySem.W.Frag} {i j : Nat} {H : Hp} {g : GH} {T : Addr} {x y : V} {a b : D} {σ : L2.St} {s : CSt} {Qn : L2.St → Hp → Prop} (rg : RG K H g) (hT : H T = none) (rx : Rep K H x a) (ry : Rep K H y b) (rs : RS K H σ s)
    (k : ∀ σ2 H2, Ext H H2 → (∀ a o, H a = some o → H2 a = some o) → RG K H2 g → RS K H2 σ2 ((s.set i (some a)).set j (some b)) → Qn σ2 H2) : gTwo K i j (.ref T) σ (upd H T (.tup [x, y])) Qn := by
  have e : Ext H (upd H T (.tup [x, y])) := .new hT
  exact ⟨T, [x, y], rfl, .of upd_same, rfl, x, [y], rfl, y, [], rfl, rfl, k _ _ e (upd_old hT) (rg.beside hT) (((rs.mono e).set (rx.mono e) i).set (ry.mono e) j)⟩
theorem own_two {K : PySem.W.Frag} {vs : List Nat} {i j : Nat} (hi : i ∈ vs) (hj : j ∈ vs) : Own vs (gTwo K i j) := by
  rintro v σ H Q ⟨a, xs, rfl, hq, hl, x, r, rfl, h⟩
  obtain ⟨y, r2, rfl, e, h⟩ := h
  exact ⟨a, _, rfl, hq, hl, x, _, rfl, y, r2, rfl, e, by rw [wipe_set vs _ hj, wipe_set vs _ hi, wipe_idem], h⟩
/-- for k, v in e.items(), e a dict just made that nobody else changes -/
def iItemsN (i j : Nat) (e : CE) : CI := fun s g P => e s g fun d g1 => ∃ a kvs, d = .ref a ∧ g1 a = some (.dic kvs) ∧ ∀ o vs, P (onTwo i j (kvs.map fun kv => (kD kv.1, kv.2))) (fun g => g a = some (.lck o vs kvs)) (gupd g1 a (.lck o vs kvs))
theorem rel_items {K : PySem.W.Frag} {i j : Nat} {e : CE} : RelI K (iItemsN i j e) (iItems (tFrz (liftE K e))) (gTwo K i j) := by
  intro σ H s g P R rs rg p q
  refine ⟨s, g, _, rs, rg, p, ?_⟩
  rintro d g1 H1 v ⟨a, ds, rfl, ga, p1⟩ e1 rg1 r1
  cases r1
  obtain ⟨vs, hx0, rk⟩ := rg1.dic ga
  refine ⟨a, .dK vs, hx0, trivial, fun od => ⟨a, od, vs, rfl, upd_same, ?_⟩⟩
  have e2 : Ext H1 (upd H1 a (.frz od (.dK vs))) := .put hx0 id
  refine q _ _ _ _ _ (p1 od vs) (e1.trans e2) (rg1.put (m := .lck od vs ds) hx0 id ⟨rfl, rfl, rk.mono e2⟩) ⟨fun n t H2 g2 e3 rg2 ch ht => ?_, fun H2 g2 e3 rg2 ch => ?_⟩
  · obtain ⟨d, hd, rfl⟩ := onTwo_get ht
    rw [List.getElem?_map] at hd
    obtain ⟨hx, rk2⟩ := rg2.lck ch
    cases ek : ds[n]? with
    | none => rw [ek] at hd; cases hd
    | some kd =>
      obtain ⟨k, dd⟩ := kd
      rw [ek] at hd
      cases hd
      obtain ⟨v', hv', rv⟩ := rk2.getD ek
      refine ⟨⟨hx, (List.getElem?_eq_some_iff.mp hv').1⟩, ?_⟩
      rintro x H3 ⟨T, k', v2, hk, rfl, hT, rfl⟩ σ2 s2 rs2 Qn kk
      rw [hv'] at hk
      cases hk
      exact two_does rg2 hT (rep_key _) rv rs2 kk
  · obtain ⟨hx, rk2⟩ := rg2.lck ch
    refine ⟨hx, ?_⟩
    rw [onTwo_len, List.length_map, ← rk2.len]
    exact Nat.le_refl _

/-! ### a def by its clean body -/
def cstart (N : List Str) (ds : List D) : CSt := ds.map some ++ List.replicate (N.length - ds.length) none
theorem rs_start {K : PySem.W.Frag} {H : Hp} {N : List Str} {vs : List V} {ds : List D} (r : RepL K H vs ds) : RS K H (L2.start N vs) (cstart N ds) := by
  unfold L2.start cstart
  rw [r.length]
  have tail : ∀ n : Nat, RS K H (List.replicate n none) (List.replicate n none) := by
    intro n
    induction n with
    | zero => exact .nil
    | succ n ih => exact .cons (fun d e => by cases e) ih
  have app : ∀ {vs : List V} {ds : List D} {σ : L2.St} {s : CSt}, RepL K H vs ds → RS K H σ s → RS K H (vs.map some ++ σ) (ds.map some ++ s) := by
    intro vs
    induction vs with
    | nil => intro ds σ s r h; cases r; exact h
    | cons v vs ih =>
      intro ds σ s r h
      cases r with
      | cons r t => exact .cons (fun d e => by cases e; exact ⟨v, rfl, r⟩) (ih t h)
  exact app r (tail _)
/-- what is wanted behind a def: the store may have grown -/
def Fin (P : CQ) : CQ := fun d g' => ∃ g0, Sub g0 g' ∧ P d g0
theorem LQ.fin {K : PySem.W.Frag} {H : Hp} {P : CQ} {Q : VK} (l : LQ K H P Q) : LQ K H (Fin P) Q := fun d g' H' v ⟨g0, hs, p⟩ e rg r => l d g0 H' v p e (rg.sub hs) r
theorem kfn {P : Program} {w : World} {K : PySem.W.Frag} {mg : Str → Option Value} {base : Heap} {x qual : Str} {st : Stmt} {f : Addr} {fd : FuncData} {N ps : List Str} {k : Nat} {sp : CSp} {c : CS} (F : Fun K x qual st f fd) (S : FnScope N ps (defScope st))
    (len : ∀ ds g Q, sp ds g Q → ds.length = ps.length)
    (body : ∀ (cdv : Value) (A : Around) (outer : List Env) (s : Shared) (H : Hp) (E : XK), Room k (A.deeper (envOfC qual (defScope st) s.heap.objs.size f cdv)) → PSs (cxOf CX0 P w K mg base N qual (defScope st) f cdv A outer s H E).nox (defBody st) (liftS K c))
    (pure : ∀ ds g Q, sp ds g Q → c { nx := fun _ g' => Fin Q .non g', rt := Fin Q } (cstart N ds) g) : FnOk P w K mg base CX0 (k + 1) f fd ps (liftSp K sp) := by
  refine F.ok S ?_ ?_
  · rintro vs H Q E ⟨ds, g, P, r, rg, p, l⟩
    rw [r.length]
    exact len _ _ _ p
  · rintro cdv A outer s H vs Q E hr ⟨ds, g, P, r, rg, p, l⟩
    refine ⟨liftS K c, body cdv A outer s H E hr, cstart N ds, g, _, rs_start r, rg, pure ds g P p, ?_⟩
    exact ⟨fun s' g' H' σ' q e rg' _ => l.fin .non g' H' .non q e rg' .non, fun d g' H' v q e rg' r' => l.fin d g' H' v q e rg' r', fun _ _ _ _ q _ _ _ => q.elim, fun _ _ _ _ q _ _ _ => q.elim⟩
end CL

/-! CLd: operators, comparisons, indices, slices in plain data. -/
namespace CL
open PySem PySem.Spec PyProof.Rows L2

/-! ### + -/
def rCatN (K : PySem.W.Frag) : R2 := fun x y H Q => ∃ a b xs ys, x = .ref a ∧ y = .ref b ∧ SqT K H a xs ∧ SqT K H b ys ∧ xs.length + ys.length ≤ sizeLine ∧
  (xs = [] → Q (.ref b) H) ∧ (xs ≠ [] → ys = [] → Q (.ref a) H) ∧ (xs ≠ [] → ys ≠ [] → ∀ p us, H p = none → Q (.ref p) (upd H p (.frz (tupO us) (.tup (xs ++ ys)))))
theorem op_catN {X : Cx} : OpR X (binaryOp .Add) (rCatN X.K) := by
  intro pins s σ H x y v u Q I rx ry h
  obtain ⟨a, b, xs, ys, rfl, rfl, ha, hb, hz, q0, q1, q2⟩ := h
  cases rx
  cases ry
  obtain ⟨its, r1, p1, _⟩ := I.tuple ha
  obtain ⟨its2, r2, p2, _⟩ := I.tuple hb
  by_cases hx : xs = []
  · subst hx
    cases r1
    exact cat_tup0 p1 p2 ⟨.ref b, H, I, rfl, q0 rfl⟩
  · refine HT.cat_tup p1 p2 (fun z => hx (r1.nil_iff.mp z)) (fun z => ⟨.ref a, H, I, rfl, q1 hx (r2.nil_iff.mp z)⟩) (fun z => ?_) (by rw [← r1.length, ← r2.length]; exact hz)
    exact ⟨.ref s.heap.objs.size, _, laid_tup I (r1.append r2) (by rw [List.length_append]; exact hz), rfl, q2 hx (fun w => z (r2.nil_iff.mpr w)) _ _ (I.hok.fresh (Nat.le_refl _))⟩
def fAdd : CR := fun x y g P => match x, y with
  | .int i, .int j => P (.int (i + j)) g
  | .str i, .str j => lim (i.length + j.length) ∧ P (.str (i ++ j)) g
  | .tup xs, .tup ys => lim (xs.length + ys.length) ∧ P (.tup (xs ++ ys)) g
  | .ref a, .ref b => ∃ xs ys, g a = some (.lst xs) ∧ g b = some (.lst ys) ∧ lim (xs.length + ys.length) ∧ ∀ p, g p = none → P (.ref p) (gupd g p (.lst (xs ++ ys)))
  | _, _ => False
abbrev rAddAll (K : PySem.W.Frag) : R2 := fun x y H Q => (∃ i j, x = V.int i ∧ y = V.int j ∧ Q (.int (i + j)) H) ∨ (∃ i j, x = V.str i ∧ y = V.str j ∧ i.length + j.length ≤ sizeLine ∧ Q (.str (i ++ j)) H) ∨ rCatN K x y H Q ∨ rCat x y H Q
theorem op_addAll {X : Cx} : OpR X (binaryOp .Add) (rAddAll X.K) := .or op_add (.or op_add_str (.or op_catN op_cat))
section
variable {K : PySem.W.Frag}
theorem rel_add : Rel2 K fAdd (rAddAll K) := by
  intro x y dx dy H g P Q rx ry rg f l
  unfold fAdd at f
  split at f
  · cases rx; cases ry
    exact .inl ⟨_, _, rfl, rfl, l _ g H _ f (.refl H) rg (.int _)⟩
  · cases rx; cases ry
    exact .inr (.inl ⟨_, _, rfl, rfl, f.1.ok, l _ g H _ f.2 (.refl H) rg (.str _)⟩)
  · cases rx with
    | tup tx lx =>
      cases ry with
      | tup ty ly =>
        obtain ⟨z, p⟩ := f
        refine .inr (.inr (.inl ⟨_, _, _, _, rfl, rfl, tx.sq, ty.sq, by rw [lx.length, ly.length]; exact z.ok, fun e => ?_, fun _ e => ?_, fun _ _ q us hq => ?_⟩))
        · have := lx.nil_iff.mp e
          subst this
          exact l _ g H _ p (.refl H) rg (.tup ty (by simpa using ly))
        · have := ly.nil_iff.mp e
          subst this
          exact l _ g H _ p (.refl H) rg (.tup tx (by simpa using lx))
        · exact new_tup (lx.append ly) rg p l hq
  · cases rx; cases ry
    obtain ⟨xs, ys, ga, gb, z, p⟩ := f
    obtain ⟨us, hu, ru⟩ := rg.lst ga
    obtain ⟨ws, hw, rw'⟩ := rg.lst gb
    exact .inr (.inr (.inr ⟨_, _, us, ws, rfl, rfl, hu, hw, by rw [ru.length, rw'.length]; exact z.ok, fun q hq => new_lst (ru.append rw') rg p l hq⟩))
  · exact f.elim

/-! ### numbers -/
def fI (C : Int → Int → Prop) (h : Int → Int → D) : CR := fun x y g P => match x, y with
  | .int i, .int j => C i j ∧ P (h i j) g
  | _, _ => False
theorem rel_I {C : Int → Int → Prop} {hv : Int → Int → V} {hd : Int → Int → D} (r : ∀ H i j, Rep K H (hv i j) (hd i j)) : Rel2 K (fI C hd) (rI C hv) := by
  intro x y dx dy H g P Q rx ry rg f l
  unfold fI at f
  split at f
  · cases rx; cases ry
    exact ⟨_, _, rfl, rfl, f.1, l _ g H _ f.2 (.refl H) rg (r H _ _)⟩
  · exact f.elim
theorem rel_I0 {hv : Int → Int → V} {hd : Int → Int → D} (r : ∀ H i j, Rep K H (hv i j) (hd i j)) : Rel2 K (fI (fun _ _ => True) hd) (rI0 hv) := by
  intro x y dx dy H g P Q rx ry rg f l
  unfold fI at f
  split at f
  · cases rx; cases ry
    exact ⟨_, _, rfl, rfl, l _ g H _ f.2 (.refl H) rg (r H _ _)⟩
  · exact f.elim
abbrev fSub : CR := fI (fun _ _ => True) fun i j => .int (i - j)
abbrev fLt : CR := fI (fun _ _ => True) fun i j => .bl (decide (i < j))
abbrev fLe : CR := fI (fun _ _ => True) fun i j => .bl (decide (i ≤ j))
abbrev fGt : CR := fI (fun _ _ => True) fun i j => .bl (decide (j < i))
abbrev fGe : CR := fI (fun _ _ => True) fun i j => .bl (decide (j ≤ i))
abbrev fMod : CR := fI (fun _ j => 0 < j) fun i j => .int (i % j)
abbrev fDivW : CR := fI CDivW fun i j => .int (i / j)
abbrev fMulW : CR := fI CMulW fun i j => .int (i * j)
abbrev fPow : CR := fI CPow fun i j => .int (i ^ j.toNat)
/-- i * j, xs * k -/
def fMul : CR := fun x y g P => match x, y with
  | .int i, .int j => CMul i j ∧ P (.int (i * j)) g
  | .ref a, .int k => ∃ xs, g a = some (.lst xs) ∧ 0 ≤ k ∧ k ≤ 1000000 ∧ lim (xs.length * k.toNat) ∧ ∀ p, g p = none → P (.ref p) (gupd g p (.lst (List.replicate k.toNat xs).flatten))
  | _, _ => False
theorem rel_mul : Rel2 K fMul (fun x y H Q => rI CMul (fun i j => .int (i * j)) x y H Q ∨ rRep x y H Q) := by
  intro x y dx dy H g P Q rx ry rg f l
  unfold fMul at f
  split at f
  · cases rx; cases ry
    exact .inl ⟨_, _, rfl, rfl, f.1, l _ g H _ f.2 (.refl H) rg (.int _)⟩
  · cases rx; cases ry
    obtain ⟨xs, ga, h0, h1, z, p⟩ := f
    obtain ⟨us, hu, ru⟩ := rg.lst ga
    exact .inr ⟨_, _, us, rfl, rfl, hu, by omega, by omega, by rw [ru.length]; exact z.ok, fun q hq => new_lst (ru.rep _) rg p l hq⟩
  · exact f.elim
theorem op_mulAll {X : Cx} : OpR X (binaryOp .Mult) (fun x y H Q => rI CMul (fun i j => .int (i * j)) x y H Q ∨ rRep x y H Q) := .or op_mul op_rep

/-! ### ==, != -/
mutual
def toPy : D → PyData
  | .non => .none
  | .bl b => .bool b
  | .int i => .int i
  | .str x => .str x
  | .tup xs => .tuple (toPys xs)
  | .ref _ => .dict []
  | .key _ => .dict []
def toPys : List D → List PyData
  | [] => []
  | x :: xs => toPy x :: toPys xs
end
mutual
/-- no places within -/
def okPy : D → Bool
  | .non => true
  | .bl _ => true
  | .int _ => true
  | .str _ => true
  | .tup xs => okPys xs
  | .ref _ => false
  | .key _ => false
def okPys : List D → Bool
  | [] => true
  | x :: xs => okPy x && okPys xs
end
mutual
theorem dp_of {H : Hp} : ∀ {d : D} {v : V}, Rep K H v d → okPy d = true → Dp K H v (toPy d) ∧ (toPy d).plain = true
  | .non, _, r, _ => by cases r; exact ⟨.non, rfl⟩
  | .bl b, _, r, _ => by cases r; exact ⟨.bl b, rfl⟩
  | .int i, _, r, _ => by cases r; exact ⟨.int i, rfl⟩
  | .str x, _, r, _ => by cases r; exact ⟨.str x, rfl⟩
  | .tup xs, _, r, h => by
    cases r with
    | tup t rl =>
      obtain ⟨h1, h2⟩ := dps_of rl h
      exact ⟨.tup t.sq h1, h2⟩
  | .ref _, _, _, h => by cases h
  | .key _, _, _, h => by cases h
theorem dps_of {H : Hp} : ∀ {ds : List D} {vs : List V}, RepL K H vs ds → okPys ds = true → DpAll K H vs (toPys ds) ∧ PyData.plainAll (toPys ds) = true
  | [], _, r, _ => by cases r; exact ⟨.nil, rfl⟩
  | d :: ds, _, r, h => by
    cases r with
    | cons r t =>
      have h' : okPy d = true ∧ okPys ds = true := by simpa [okPys] using h
      obtain ⟨h1, h2⟩ := dp_of r h'.1
      obtain ⟨h3, h4⟩ := dps_of t h'.2
      exact ⟨.cons h1 h3, by simp only [toPys, PyData.plainAll, h2, h4, Bool.and_self]⟩
end
end
def rEqP (K : PySem.W.Frag) (neg : Bool) : R2 := fun x y H Q => ∃ d e, Dp K H x d ∧ Dp K H y e ∧ d.plain = true ∧ e.plain = true ∧ min d.depth e.depth ≤ 64 ∧ Q (.bl (if neg then !PyData.eqv d e else PyData.eqv d e)) H
theorem op_eqP {X : Cx} (hu : X.A.units + 64 < cLine) : OpR X (compareOp .Eq) (rEqP X.K false) := by
  intro pins s σ H x y v u Q I rx ry h
  obtain ⟨d, e, hd, he, sd, se, hz, q⟩ := h
  obtain ⟨as, r1⟩ := Dp.reads I d x v hd rx
  obtain ⟨bs, r2⟩ := Dp.reads I e y u he ry
  exact SeqAt.eq_plain r1 r2 sd se (by omega) ⟨.bl _, H, I, rfl, q⟩
theorem op_neP {X : Cx} (hu : X.A.units + 64 < cLine) : OpR X (compareOp .NotEq) (rEqP X.K true) := by
  intro pins s σ H x y v u Q I rx ry h
  obtain ⟨d, e, hd, he, sd, se, hz, q⟩ := h
  obtain ⟨as, r1⟩ := Dp.reads I d x v hd rx
  obtain ⟨bs, r2⟩ := Dp.reads I e y u he ry
  exact SeqAt.ne_plain r1 r2 sd se (by omega) ⟨.bl _, H, I, rfl, q⟩
/-- equality of data, the answer b or its contrary -/
def fEq (neg : Bool) : CR := fun x y g P => match x, y with
  | .int i, .int j => P (.bl (if neg then !decide (i = j) else decide (i = j))) g
  | .str i, .str j => P (.bl (if neg then !decide (i = j) else decide (i = j))) g
  | .bl i, .bl j => P (.bl (if neg then !decide (i = j) else decide (i = j))) g
  | .ref a, .ref b => ∃ xs, g a = some (.lst xs) ∧ g b = some (.lst []) ∧ okPys xs = true ∧ P (.bl (if neg then !xs.isEmpty else xs.isEmpty)) g
  | .tup xs, .tup ys => okPys xs = true ∧ okPys ys = true ∧ min (toPy (.tup xs)).depth (toPy (.tup ys)).depth ≤ 64 ∧ P (.bl (if neg then !PyData.eqvAll (toPys xs) (toPys ys) else PyData.eqvAll (toPys xs) (toPys ys))) g
  | _, _ => False
theorem depth_nil : PyData.depth (.list []) ≤ 64 := by decide
section
variable {K : PySem.W.Frag}
theorem rel_eq (neg : Bool) : Rel2 K (fEq neg) (rEqP K neg) := by
  intro x y dx dy H g P Q rx ry rg f l
  unfold fEq at f
  split at f
  · cases rx; cases ry
    rename_i i j
    refine ⟨.int i, .int j, .int _, .int _, rfl, rfl, by simp [PyData.depth], ?_⟩
    have e : PyData.eqv (.int i) (.int j) = decide (i = j) := by simp only [PyData.eqv, Bool.beq_eq_decide_eq]
    rw [e]
    exact l _ g H _ f (.refl H) rg (.bl _)
  · cases rx; cases ry
    rename_i i j
    refine ⟨.str i, .str j, .str _, .str _, rfl, rfl, by simp [PyData.depth], ?_⟩
    have e : PyData.eqv (.str i) (.str j) = decide (i = j) := by simp only [PyData.eqv, Bool.beq_eq_decide_eq]
    rw [e]
    exact l _ g H _ f (.refl H) rg (.bl _)
  · cases rx; cases ry
    rename_i i j
    refine ⟨.bool i, .bool j, .bl _, .bl _, rfl, rfl, by simp [PyData.depth], ?_⟩
    have e : PyData.eqv (.bool i) (.bool j) = decide (i = j) := by simp only [PyData.eqv, Bool.beq_eq_decide_eq]
    rw [e]
    exact l _ g H _ f (.refl H) rg (.bl _)
  · cases rx; cases ry
    obtain ⟨xs, ga, gb, ok, p⟩ := f
    obtain ⟨us, hu, ru⟩ := rg.lst ga
    obtain ⟨ws, hw, rw'⟩ := rg.lst gb
    cases rw'
    obtain ⟨d1, d2⟩ := dps_of ru ok
    refine ⟨.list (toPys xs), .list [], .lst (.of hu) d1, .lst (.of hw) .nil, by simpa [PyData.plain] using d2, rfl, Nat.le_trans (Nat.min_le_right _ _) depth_nil, ?_⟩
    have e : PyData.eqv (.list (toPys xs)) (.list []) = xs.isEmpty := by
      cases xs with
      | nil => rfl
      | cons x xs => rfl
    rw [e]
    exact l _ g H _ p (.refl H) rg (.bl _)
  · obtain ⟨o1, o2, z, p⟩ := f
    obtain ⟨d1, d2⟩ := dp_of rx (by simpa [okPy] using o1)
    obtain ⟨e1, e2⟩ := dp_of ry (by simpa [okPy] using o2)
    refine ⟨_, _, d1, e1, d2, e2, z, ?_⟩
    rename_i xs ys
    have e : PyData.eqv (toPy (.tup xs)) (toPy (.tup ys)) = PyData.eqvAll (toPys xs) (toPys ys) := by simp only [toPy, PyData.eqv]
    rw [e]
    exact l _ g H _ p (.refl H) rg (.bl _)
  · exact f.elim

/-! ### in, not in: flat items -/
def flatD : D → Bool
  | .int _ => true
  | .str _ => true
  | _ => false
def eqF : D → D → Bool
  | .int i, .int j => decide (i = j)
  | .str i, .str j => decide (i = j)
  | _, _ => false
def memF (x : D) (xs : List D) : Bool := xs.any fun y => eqF y x
theorem flat_V {H : Hp} {v : V} {d : D} (r : Rep K H v d) (f : flatD d = true) : flatV v = true := by
  cases d with
  | int i => cases r; rfl
  | str i => cases r; rfl
  | _ => cases f
theorem flats_V {H : Hp} : ∀ {vs : List V} {ds : List D}, RepL K H vs ds → ds.all flatD = true → vs.all flatV = true
  | _, _, .nil, _ => rfl
  | _, _, .cons r t, f => by
    rw [List.all_cons, Bool.and_eq_true] at f
    rw [List.all_cons, flat_V r f.1, flats_V t f.2]
    rfl
theorem eqV_F {H : Hp} {v w : V} {d e : D} (r : Rep K H v d) (r' : Rep K H w e) (f : flatD d = true) (f' : flatD e = true) : eqV v w = eqF d e := by
  cases d with
  | int i =>
    cases r
    cases e with
    | int j => cases r'; simp only [eqV, eqF, Bool.beq_eq_decide_eq]
    | str j => cases r'; rfl
    | _ => cases f'
  | str i =>
    cases r
    cases e with
    | int j => cases r'; rfl
    | str j => cases r'; simp only [eqV, eqF, Bool.beq_eq_decide_eq]
    | _ => cases f'
  | _ => cases f
theorem inV_F {H : Hp} {w : V} {e : D} (r' : Rep K H w e) (f' : flatD e = true) : ∀ {vs : List V} {ds : List D}, RepL K H vs ds → ds.all flatD = true → inV w vs = memF e ds
  | _, _, .nil, _ => rfl
  | _, _, .cons r t, f => by
    rw [List.all_cons, Bool.and_eq_true] at f
    have h := inV_F r' f' t f.2
    unfold inV memF at h ⊢
    rw [List.any_cons, List.any_cons, eqV_F r r' f.1 f', h]
def fIn (neg : Bool) : CR := fun x y g P => flatD x = true ∧ match y with
  | .tup ys => ys.all flatD = true ∧ P (.bl (if neg then !memF x ys else memF x ys)) g
  | .ref a => ∃ ys, g a = some (.lst ys) ∧ ys.all flatD = true ∧ P (.bl (if neg then !memF x ys else memF x ys)) g
  | _ => False
theorem rel_in (neg : Bool) : Rel2 K (fIn neg) (rIn K neg) := by
  intro x y dx dy H g P Q rx ry rg f l
  obtain ⟨fx, f⟩ := f
  split at f
  · cases ry with
    | tup ty ly =>
      refine ⟨_, _, rfl, .inr ty.sq, flat_V rx fx, flats_V ly f.1, ?_⟩
      rw [inV_F rx fx ly f.1]
      exact l _ g H _ f.2 (.refl H) rg (.bl _)
  · cases ry
    obtain ⟨ys, ga, fy, p⟩ := f
    obtain ⟨us, hu, ru⟩ := rg.lst ga
    refine ⟨_, us, rfl, .inl (.of hu), flat_V rx fx, flats_V ru fy, ?_⟩
    rw [inV_F rx fx ru fy]
    exact l _ g H _ p (.refl H) rg (.bl _)
  · exact f.elim

/-! ### is None -/
def isNonD : D → Bool
  | .non => true
  | _ => false
theorem nonV {H : Hp} {v : V} {d : D} (r : Rep K H v d) : decide (v = .non) = isNonD d := by
  cases r with
  | non => rfl
  | bl _ => rfl
  | int _ => rfl
  | str _ => rfl
  | ref _ => rfl
  | tup _ _ => rfl
  | key _ _ => rfl
def fIs (neg : Bool) : CR := fun x y g P => isNonD y = true ∧ P (.bl (if neg then !isNonD x else isNonD x)) g
theorem rel_is : Rel2 K (fIs false) (fun x y H Q => y = .non ∧ Q (.bl (decide (x = .non))) H) := by
  intro x y dx dy H g P Q rx ry rg f l
  refine ⟨?_, ?_⟩
  · have := nonV ry
    rw [f.1] at this
    exact of_decide_eq_true this
  · rw [nonV rx]
    exact l _ g H _ f.2 (.refl H) rg (.bl _)
theorem rel_isnt : Rel2 K (fIs true) (fun x y H Q => y = .non ∧ Q (.bl (!decide (x = .non))) H) := by
  intro x y dx dy H g P Q rx ry rg f l
  refine ⟨?_, ?_⟩
  · have := nonV ry
    rw [f.1] at this
    exact of_decide_eq_true this
  · rw [nonV rx]
    exact l _ g H _ f.2 (.refl H) rg (.bl _)

/-! ### x[i] -/
def fIx : CR := fun x y g P => match x, y with
  | .tup xs, .int i => ∃ d, atI xs i = some d ∧ P d g
  | .str z, .int i => ∃ c, lim z.length ∧ atI z.cps.toList i = some c ∧ P (.str ⟨#[c]⟩) g
  | .ref a, .int i => ∃ xs d, g a = some (.lst xs) ∧ atI xs i = some d ∧ P d g
  | _, _ => False
theorem atI_rep {H : Hp} {vs : List V} {ds : List D} {i : Int} {d : D} (r : RepL K H vs ds) (h : atI ds i = some d) : ∃ v, atI vs i = some v ∧ Rep K H v d := by
  unfold atI at h ⊢
  rw [r.length]
  cases e : ixN ds.length i with
  | none => rw [e] at h; cases h
  | some j =>
    rw [e] at h
    exact r.get h
theorem rel_ix : Rel2 K fIx (rIx K) := by
  intro x y dx dy H g P Q rx ry rg f l
  unfold fIx at f
  split at f
  · cases ry
    cases rx with
    | tup tx lx =>
      obtain ⟨d, h, p⟩ := f
      obtain ⟨v, hv, rv⟩ := atI_rep lx h
      exact .inr (.inl ⟨_, _, _, v, rfl, rfl, tx.sq, hv, l _ g H _ p (.refl H) rg rv⟩)
  · cases rx; cases ry
    obtain ⟨c, z, h, p⟩ := f
    exact .inr (.inr ⟨_, _, c, rfl, rfl, z.ok, h, l _ g H _ p (.refl H) rg (.str _)⟩)
  · cases rx; cases ry
    obtain ⟨xs, d, ga, h, p⟩ := f
    obtain ⟨us, hu, ru⟩ := rg.lst ga
    obtain ⟨v, hv, rv⟩ := atI_rep ru h
    exact .inl ⟨_, _, _, v, rfl, rfl, .of hu, hv, l _ g H _ p (.refl H) rg rv⟩
  · exact f.elim
end

/-! ### slices -/
abbrev CO := CSt → GH → (Option Int → GH → Prop) → Prop
def liftO (K : PySem.W.Frag) (c : CO) : TO := fun σ H Q => ∃ s g P, RS K H σ s ∧ RG K H g ∧ c s g P ∧ ∀ o g' H', P o g' → Ext H H' → RG K H' g' → Q o H'
def oNone : CO := fun _ g P => P none g
def oSome (c : CE) : CO := fun s g P => c s g fun d g1 => ∃ i, d = .int i ∧ P (some i) g1
def cutG {α : Type} (xs : List α) (lo hi : Option Int) : List α := (xs.drop (HT.sIx xs.length 0 lo)).take (HT.sIx xs.length xs.length hi - HT.sIx xs.length 0 lo)
def fSl : D → Option Int → Option Int → GH → CQ → Prop := fun x lo hi g P => match x with
  | .tup xs => P (.tup (cutG xs lo hi)) g
  | .str z => lim z.length ∧ P (.str (cutS z lo hi)) g
  | .ref a => ∃ xs, g a = some (.lst xs) ∧ ∀ p, g p = none → P (.ref p) (gupd g p (.lst (cutG xs lo hi)))
  | _ => False
def cSl (e : CE) (lo hi : CO) : CE := fun s g P => e s g fun x g1 => lo s g1 fun a g2 => hi s g2 fun b g3 => fSl x a b g3 P
def rSlN (K : PySem.W.Frag) : V → Option Int → Option Int → Hp → VK → Prop := fun x lo hi H Q => ∃ a xs, x = .ref a ∧ SqT K H a xs ∧
  (HT.sIx xs.length 0 lo = 0 ∧ HT.sIx xs.length xs.length hi = xs.length → Q (.ref a) H) ∧ (¬ (HT.sIx xs.length 0 lo = 0 ∧ HT.sIx xs.length xs.length hi = xs.length) → ∀ p us, H p = none → Q (.ref p) (upd H p (.frz (tupO us) (.tup (cutV xs lo hi)))))
theorem sl_tupN {X : Cx} : SlR X (rSlN X.K) := by
  intro pins s σ H x v vl vu lo hi sl Q I rx hs pl pu h
  obtain ⟨a, xs, rfl, hx, q1, q2⟩ := h
  cases rx
  obtain ⟨its, r, ht, hz⟩ := I.tuple hx
  have hlen : its.toArray.size = xs.length := by rw [List.size_toArray]; exact r.length.symm
  refine ⟨"tuple", _, PyProof.Rows.slot_tuple_getitem.lookup, ht.typeIs, ?_⟩
  by_cases hw : HT.sIx xs.length 0 lo = 0 ∧ HT.sIx xs.length xs.length hi = xs.length
  · exact getItem_tuple_whole ht hs pl pu (by rw [hlen]; exact hw) ⟨.ref a, H, I, rfl, q1 hw⟩
  · refine HT.getItem_tuple_cut ht hs pl pu (by rw [hlen]; exact hw) ?_ (by rw [hlen]; exact hz)
    rw [hlen]
    exact ⟨.ref s.heap.objs.size, _, laid_tup I ((r.drop (HT.sIx xs.length 0 lo)).take (HT.sIx xs.length xs.length hi - HT.sIx xs.length 0 lo)) (Nat.le_trans (cutV_length xs lo hi) hz), rfl, q2 hw _ _ (I.hok.fresh (Nat.le_refl _))⟩
section
variable {X : Cx} {K : PySem.W.Frag}
theorem cut_rep {H : Hp} {vs : List V} {ds : List D} {lo hi : Option Int} (r : RepL K H vs ds) : RepL K H (cutV vs lo hi) (cutG ds lo hi) := by
  unfold cutV cutG
  rw [r.length]
  exact (r.drop _).take _
theorem cut_whole {α : Type} {xs : List α} {lo hi : Option Int} (h : HT.sIx xs.length 0 lo = 0 ∧ HT.sIx xs.length xs.length hi = xs.length) : cutG xs lo hi = xs := by
  unfold cutG
  rw [h.1, h.2]
  simp
theorem konone : PO X none (liftO X.K oNone) := ⟨fun pins s σ H Q I ⟨s0, g, P, rs, rg, p, l⟩ => po_none.run pins s σ H Q I (l none g H p (.refl H) rg)⟩
theorem kosome {e : Expr} {c : CE} (h : PE X e (liftE X.K c)) : PO X (some e) (liftO X.K (oSome c)) := ⟨fun pins s σ H Q I ⟨s0, g, P, rs, rg, p, l⟩ => (po_some h).run pins s σ H Q I ⟨s0, g, _, rs, rg, p, by
  rintro d g1 H1 v ⟨i, rfl, p1⟩ e1 rg1 r1
  cases r1
  exact ⟨i, rfl, l _ g1 H1 p1 e1 rg1⟩⟩⟩
abbrev rSlAll (K : PySem.W.Frag) : V → Option Int → Option Int → Hp → VK → Prop := fun x lo hi H Q => rSlN K x lo hi H Q ∨ rSlL K x lo hi H Q ∨ rSlS x lo hi H Q
theorem sl_all : SlR X (rSlAll X.K) := .or sl_tupN (.or sl_list sl_str)
theorem kslice {e : Expr} {lo hi : Option Expr} {c : CE} {cl ch : CO} {p2 pos : Pos} (he : PE X e (liftE X.K c)) (hl : PO X lo (liftO X.K cl)) (hh : PO X hi (liftO X.K ch)) : PE X (.Subscript e (.Slice lo hi none p2) pos) (liftE X.K (cSl c cl ch)) := by
  refine PE.imp (pe_slice sl_all he hl hh) ?_
  rintro σ H Q ⟨s, g, P, rs, rg, p, l⟩
  refine ⟨s, g, _, rs, rg, p, ?_⟩
  intro x g1 H1 v p1 e1 rg1 r1
  refine ⟨s, g1, _, rs.mono e1, rg1, p1, ?_⟩
  intro a g2 H2 p2 e2 rg2
  refine ⟨s, g2, _, rs.mono (e1.trans e2), rg2, p2, ?_⟩
  intro b g3 H3 p3 e3 rg3
  have r3 := (r1.mono e2).mono e3
  have l3 := l.mono ((e1.trans e2).trans e3)
  unfold fSl at p3
  split at p3
  · cases r3 with
    | tup t rl =>
      refine .inl ⟨_, _, rfl, t.sq, fun hw => ?_, fun _ q us hq => new_tup (cut_rep rl) rg3 p3 l3 hq⟩
      rw [rl.length] at hw
      rw [cut_whole hw] at p3
      exact l3 _ g3 H3 _ p3 (.refl _) rg3 (.tup t rl)
  · cases r3
    exact .inr (.inr ⟨_, rfl, p3.1.ok, l3 _ g3 H3 _ p3.2 (.refl _) rg3 (.str _)⟩)
  · cases r3
    obtain ⟨xs, ga, p3⟩ := p3
    obtain ⟨us, hu, ru⟩ := rg3.lst ga
    exact .inr (.inl ⟨_, us, rfl, .of hu, fun q hq => new_lst (cut_rep ru) rg3 p3 l3 hq⟩)
  · exact p3.elim
end
end CL

/-! CLe: methods of lists and tuples, built-in functions. -/
namespace CL
open PySem PySem.Spec PyProof.Rows L2

/-! ### a tuple's object -/
theorem TupN.at {X : Cx} {pins : List (Addr × Obj)} {σ : L2.St} {H : Hp} {s : Shared} {a : Addr} {xs : List V} (h : TupN X.K H a xs) (I : Inv X pins σ H s) : ∃ (its : List Value) (n : Nat), Vals xs its ∧ xs.length ≤ sizeLine ∧ s.heap.get? a = some { cls := .type "tuple", data := .seq its.toArray n } := by
  rcases h with ⟨us, h⟩ | ⟨its, n, h1, h2, h3⟩
  · obtain ⟨e, z, its, r, o, ho, hc, n, hd⟩ := (show ObjOk X.prog X.w H s.heap a (.frz (tupO us) (.tup xs)) from I.hok a _ h)
    rw [e] at ho
    cases ho
    injection hd with e1 e2
    refine ⟨its, 0, r, z, ?_⟩
    rw [e, ← e1]
    rfl
  · refine ⟨its.toList, n, h3, ?_, ?_⟩
    · have e := h3.length
      simp only [Array.length_toList] at e
      omega
    · rw [Array.toArray_toList]
      exact I.kIn a _ h1

/-! ### where x stands first -/
def idxF (y : D) (ds : List D) : Option Nat := ds.findIdx? fun d => eqF d y
theorem idx_V {K : PySem.W.Frag} {H : Hp} {vs : List V} {ds : List D} {y : V} {e : D} {j : Nat} (r : RepL K H vs ds) (ry : Rep K H y e) (fy : flatD e = true) (fs : ds.all flatD = true) (h : idxF e ds = some j) :
    ∃ z, vs[j]? = some z ∧ eqV z y = true ∧ ∀ (m : Nat) (z' : V), m < j → vs[m]? = some z' → eqV z' y = false := by
  unfold idxF at h
  rw [List.findIdx?_eq_some_iff_getElem] at h
  obtain ⟨hj, h1, h2⟩ := h
  obtain ⟨z, hz, rz⟩ := r.get (List.getElem?_eq_getElem hj)
  have fl : ∀ (m : Nat) (hm : m < ds.length), flatD ds[m] = true := fun m hm => List.all_eq_true.mp fs _ (List.getElem_mem hm)
  refine ⟨z, hz, by rw [eqV_F rz ry (fl j hj) fy]; exact h1, fun m z' hm hz' => ?_⟩
  obtain ⟨d, hd, rd⟩ := r.getV hz'
  obtain ⟨hml, rfl⟩ := List.getElem?_eq_some_iff.mp hd
  rw [eqV_F rd ry (fl m hml) fy]
  have := h2 m hm
  simpa using this

/-! ### t.index(x) -/
def tTIx (K : PySem.W.Frag) (to te : TE) : TE := fun σ H Q => to σ H fun x H1 => ∃ a xs0, x = .ref a ∧ TupN K H1 a xs0 ∧ te σ H1 fun y H2 => ∃ xs j z, TupN K H2 a xs ∧ flatV y = true ∧ xs.all flatV = true ∧ xs[j]? = some z ∧ eqV z y = true ∧
  (∀ (m : Nat) (z' : V), m < j → xs[m]? = some z' → eqV z' y = false) ∧ Q (.int (j : Nat)) H2
section
variable {X : Cx} {K : PySem.W.Frag}
theorem call_tix {pins : List (Addr × Obj)} {s : Shared} {σ : L2.St} {H : Hp} {a : Addr} {y : V} {u : Value} {xs : List V} {j : Nat} {z : V} {Q : VK} (I : Inv X pins σ H s) (ry : RelV y u) (h : TupN X.K H a xs) (fy : flatV y = true) (fs : xs.all flatV = true) (hj : xs[j]? = some z) (hz : eqV z y = true)
    (hno : ∀ (m : Nat) (z' : V), m < j → xs[m]? = some z' → eqV z' y = false) (q : Q (.int (j : Nat)) H) : wpAny (model X.prog X.w) X.A (call (.builtin "tuple.index") [.ref a, u]) (EP X pins σ Q) X.xe s := by
  obtain ⟨its, n, r, hz0, ho⟩ := h.at I
  have hl : its.toArray.size = xs.length := by rw [List.size_toArray, ← r.length]
  have hj' : j < its.toArray.size := by rw [hl]; exact (List.getElem?_eq_some_iff.mp hj).1
  have at' : ∀ (m : Nat) (hm : m < its.toArray.size), ∃ y', xs[m]? = some y' ∧ RelV y' its.toArray[m] := fun m hm => by
    have hm' : m < xs.length := by rw [← hl]; exact hm
    obtain ⟨w, hw, rw'⟩ := r.get (i := m) (x := xs[m]) (by simp [hm'])
    refine ⟨xs[m], List.getElem?_eq_getElem hm', ?_⟩
    have e := (List.getElem?_eq_some_iff.mp hw).2
    have e2 : its.toArray[m] = w := by rw [← e]; simp
    rw [e2]
    exact rw'
  refine call_meets PySem.F.slot_tuple_index ⟨_, ho, rfl⟩ PySem.F.entry_tuple_index (PySem.F.args_tuple_index_2 _ _) (_root_.TI.tuple_indexAt a its.toArray n none #[] u (eqU y) j hj' ?_ ?_)
    ⟨ho, fun w hw => mem_eqAt ry fy r fs w (by simpa using hw), ⟨.int (j : Nat), H, I.tok _, ⟨_, rfl⟩, q⟩⟩
  · obtain ⟨y', h1, h2⟩ := at' j hj'
    rw [hj] at h1
    cases h1
    rw [eqU_of h2 (List.all_eq_true.mp fs _ (List.mem_of_getElem? hj))]
    exact hz
  · intro m hm hmj
    obtain ⟨y', h1, h2⟩ := at' m hm
    rw [eqU_of h2 (List.all_eq_true.mp fs _ (List.mem_of_getElem? h1))]
    exact hno m y' hmj h1
theorem pe_tix {o e : Expr} {to te : TE} {apos cpos : Pos} (ho : PE X o to) (he : PE X e te) (hbase : attributeBase o "index" X.env (eval o X.env) = eval o X.env := by rfl)
    (hfew : ((backTo cpos (starEach [e] X.env)).all (fun x => !x.1) && (backToKw cpos (keywordEach [] X.env)).all (fun x => x.1.isSome)
      && decide (([e] : List Expr).length + ([] : List Keyword).length + (if ([] : List Keyword).isEmpty then 0 else 1) < 30)) = true := by rfl)
    (hline : (apos.endLine == cpos.line) = true := by rfl) (hs : starEach [e] X.env = (false, eval e X.env) :: starEach [] X.env := by rfl) (hplain : (backTo cpos (starEach [] X.env)).any (·.1) = false := by rfl) :
    PE X (.Call (.Attribute o "index" apos) [e] [] cpos) (tTIx X.K to te) := by
  refine ⟨fun pins s σ H Q I h => ?_⟩
  refine wpAny_Call_method_late hbase hfew hline rfl (thn (ho.run pins s σ H _ I h) fun v s1 ⟨x, H1, I1, r1, a, xs0, ex, ht, q1⟩ => ?_)
  subst ex
  cases (show v = Value.ref a from r1)
  obtain ⟨its, n, rv, hz, hob⟩ := ht.at I1
  refine ⟨"tuple", _, PySem.F.plainAttrs_tuple, PySem.F.slot_tuple_index, PySem.F.type_tuple_index, ⟨_, hob, rfl⟩, fun b e => ?_, ?_⟩
  · cases e
    exact ⟨_, hob, rfl⟩
  rw [hs]
  refine Calls.callWith_builtin (by show (false || (backTo cpos (starEach [] X.env)).any (·.1)) = false; rw [hplain] <;> rfl) (Calls.evalArgs_plain ?_)
  show wpAny _ _ (spliced ((false, eval e X.env) :: backTo cpos (starEach [] X.env))) _ _ s1
  refine Calls.spliced_cons (thn (he.run pins s1 σ H1 _ I1 q1) fun u s2 ⟨y, H2, I2, ry, q2⟩ => ?_)
  refine Calls.spliced_nil ?_
  obtain ⟨xs, j, z, h1, h2, h3, h4, h5, h6, q⟩ := q2
  exact call_tix I2 ry h1 h2 h3 h4 h5 h6 q
def cTIx (o e : CE) : CE := fun s g P => o s g fun x g1 => ∃ ds, x = .tup ds ∧ e s g1 fun y g2 => flatD y = true ∧ ds.all flatD = true ∧ ∃ j : Nat, idxF y ds = some j ∧ P (.int (j : Nat)) g2
theorem ktix {o e : Expr} {co ce : CE} {apos cpos : Pos} (ho : PE X o (liftE X.K co)) (he : PE X e (liftE X.K ce)) (hbase : attributeBase o "index" X.env (eval o X.env) = eval o X.env := by rfl)
    (hfew : ((backTo cpos (starEach [e] X.env)).all (fun x => !x.1) && (backToKw cpos (keywordEach [] X.env)).all (fun x => x.1.isSome)
      && decide (([e] : List Expr).length + ([] : List Keyword).length + (if ([] : List Keyword).isEmpty then 0 else 1) < 30)) = true := by rfl)
    (hline : (apos.endLine == cpos.line) = true := by rfl) (hs : starEach [e] X.env = (false, eval e X.env) :: starEach [] X.env := by rfl) (hplain : (backTo cpos (starEach [] X.env)).any (·.1) = false := by rfl) :
    PE X (.Call (.Attribute o "index" apos) [e] [] cpos) (liftE X.K (cTIx co ce)) := by
  refine PE.imp (pe_tix ho he hbase hfew hline hs hplain) ?_
  rintro σ H Q ⟨s, g, P, rs, rg, p, l⟩
  refine ⟨s, g, _, rs, rg, p, ?_⟩
  rintro d g1 H1 v ⟨ds, rfl, p1⟩ e1 rg1 r1
  cases r1 with
  | tup tn rl =>
    rename_i a xs
    refine ⟨a, xs, rfl, tn, s, g1, _, rs.mono e1, rg1, p1, ?_⟩
    rintro y g2 H2 w ⟨fy, fs, j, hj, p2⟩ e2 rg2 r2
    obtain ⟨z, hz, h1, h2⟩ := idx_V (RepL.mono e2 rl) r2 fy fs hj
    exact ⟨xs, j, z, tn.mono e2, flat_V r2 fy, flats_V rl fs, hz, h1, h2, l _ g2 H2 _ p2 (e1.trans e2) rg2 (.int _)⟩
end

/-! ### methods of lists -/
abbrev CM := D → List D → GH → CQ → Prop
def cMet (f : CM) (o : CE) (a : CA) : CE := fun s g P => o s g fun x g1 => (∃ a ds, x = .ref a ∧ g1 a = some (.lst ds)) ∧ a s g1 fun xs g2 => f x xs g2 P
def RelM (K : PySem.W.Frag) (f : CM) (r : V → List V → Hp → VK → Prop) : Prop := ∀ x dx xs ds H g P Q, Rep K H x dx → RepL K H xs ds → RG K H g → f dx ds g P → LQ K H P Q → r x xs H Q
section
variable {X : Cx} {K : PySem.W.Frag}
theorem lift_met {f : CM} {r : V → List V → Hp → VK → Prop} {co : CE} {ca : CA} (hr : RelM K f r) : ∀ σ H Q, liftE K (cMet f co ca) σ H Q → tBM K "list" r (liftE K co) (liftA K ca) σ H Q := by
  rintro σ H Q ⟨s, g, P, rs, rg, p, l⟩
  refine ⟨s, g, _, rs, rg, p, ?_⟩
  rintro d g1 H1 v ⟨⟨a, ds, rfl, ga⟩, p1⟩ e1 rg1 r1
  cases r1
  obtain ⟨xs, hx, rx⟩ := rg1.lst ga
  refine ⟨.inl ⟨rfl, xs, .of hx⟩, s, g1, _, rs.mono e1, rg1, p1, ?_⟩
  intro ds2 g2 H2 vs p2 e2 rg2 r2
  exact hr _ _ vs ds2 H2 g2 P Q (.ref a) r2 rg2 p2 (l.mono (e1.trans e2))
theorem kmet {o e : Expr} {es : List Expr} {co : CE} {ca : CA} {f : CM} {r : V → List V → Hp → VK → Prop} {name : Str} {id : String} {apos cpos : Pos} (slot : Slot "list" name id) (hty : typeOf (.builtin id) = pure (.type "method_descriptor")) (hm : MtR X id r) (hr : RelM X.K f r)
    (ho : PE X o (liftE X.K co)) (ha : PA X (e :: es) (liftA X.K ca)) (hbase : attributeBase o name X.env (eval o X.env) = eval o X.env := by rfl)
    (hfew : ((backTo cpos (starEach (e :: es) X.env)).all (fun x => !x.1) && (backToKw cpos (keywordEach [] X.env)).all (fun x => x.1.isSome)
      && decide ((e :: es).length + ([] : List Keyword).length + (if ([] : List Keyword).isEmpty then 0 else 1) < 30)) = true := by rfl)
    (hline : (apos.endLine == cpos.line) = true := by rfl) (hs : starEach (e :: es) X.env = (false, eval e X.env) :: starEach es X.env := by rfl) (hplain : (backTo cpos (starEach es X.env)).any (·.1) = false := by rfl) :
    PE X (.Call (.Attribute o name apos) (e :: es) [] cpos) (liftE X.K (cMet f co ca)) :=
  PE.imp (pe_bm PySem.F.plainAttrs_list slot hty hm ho ha hbase hfew hline hs hplain) fun σ H Q h => lift_met hr σ H Q h
theorem kmet0 {o : Expr} {co : CE} {f : CM} {r : V → List V → Hp → VK → Prop} {name : Str} {id : String} {apos cpos : Pos} (slot : Slot "list" name id) (hty : typeOf (.builtin id) = pure (.type "method_descriptor")) (hm : MtR X id r) (hr : RelM X.K f r)
    (ho : PE X o (liftE X.K co)) (hbase : attributeBase o name X.env (eval o X.env) = eval o X.env := by rfl) (hline : (apos.endLine == cpos.line) = true := by rfl) :
    PE X (.Call (.Attribute o name apos) [] [] cpos) (liftE X.K (cMet f co cNil)) := by
  refine PE.imp (pe_bm0 PySem.F.plainAttrs_list slot hty hm ho hbase hline) ?_
  rintro σ H Q ⟨s, g, P, rs, rg, p, l⟩
  refine ⟨s, g, _, rs, rg, p, ?_⟩
  rintro d g1 H1 v ⟨⟨a, ds, rfl, ga⟩, p1⟩ e1 rg1 r1
  cases r1
  obtain ⟨xs, hx, rx⟩ := rg1.lst ga
  exact ⟨.inl ⟨rfl, xs, .of hx⟩, hr _ _ [] [] H1 g1 P Q (.ref a) .nil rg1 p1 (l.mono e1)⟩
end
/-- a list of the store is another -/
theorem put_lst {K : PySem.W.Frag} {H : Hp} {g : GH} {P : CQ} {Q : VK} {a : Addr} {xs ys : List V} {es : List D} {v : V} {d : D} (rg : RG K H g) (hx : H a = some (.lst xs)) (r : RepL K H ys es) (rd : Rep K H v d) (q : P d (gupd g a (.lst es))) (l : LQ K H P Q) : Q v (upd H a (.lst ys)) :=
  have e : Ext H (upd H a (.lst ys)) := .put hx id
  l d _ _ v q e (rg.put (m := .lst es) hx id (show RepL K _ ys es from RepL.mono e r)) (rd.mono e)
def fAppend : CM := fun x ds g P => match x, ds with
  | .ref a, [d] => ∃ xs, g a = some (.lst xs) ∧ lim xs.length ∧ P .non (gupd g a (.lst (xs ++ [d])))
  | _, _ => False
def fExtend : CM := fun x ds g P => match x, ds with
  | .ref a, [.tup zs] => ∃ xs, g a = some (.lst xs) ∧ lim (xs.length + zs.length) ∧ P .non (gupd g a (.lst (xs ++ zs)))
  | .ref a, [.ref b] => ∃ xs zs, g a = some (.lst xs) ∧ g b = some (.lst zs) ∧ lim (xs.length + zs.length) ∧ P .non (gupd g a (.lst (xs ++ zs)))
  | _, _ => False
def fPop : CM := fun x ds g P => match x, ds with
  | .ref a, [] => ∃ xs d, g a = some (.lst xs) ∧ xs[xs.length - 1]? = some d ∧ P d (gupd g a (.lst xs.dropLast))
  | .ref a, [.int i] => ∃ xs d, g a = some (.lst xs) ∧ 0 ≤ i ∧ i ≤ 1000000 ∧ xs[i.toNat]? = some d ∧ P d (gupd g a (.lst (xs.eraseIdx i.toNat)))
  | _, _ => False
def fInsert : CM := fun x ds g P => match x, ds with
  | .ref a, [.int i, d] => ∃ xs, g a = some (.lst xs) ∧ lim xs.length ∧ 0 ≤ i ∧ i ≤ 1000000 ∧ P .non (gupd g a (.lst (xs.take i.toNat ++ [d] ++ xs.drop i.toNat)))
  | _, _ => False
def fIndexL : CM := fun x ds g P => match x, ds with
  | .ref a, [y] => ∃ xs, ∃ j : Nat, g a = some (.lst xs) ∧ flatD y = true ∧ xs.all flatD = true ∧ idxF y xs = some j ∧ P (.int (j : Nat)) g
  | _, _ => False
def fRemove : CM := fun x ds g P => match x, ds with
  | .ref a, [y] => ∃ xs, ∃ j : Nat, g a = some (.lst xs) ∧ flatD y = true ∧ xs.all flatD = true ∧ idxF y xs = some j ∧ P .non (gupd g a (.lst (xs.eraseIdx j)))
  | _, _ => False
/-- xs.extend(t) -/
def rExtT (K : PySem.W.Frag) : V → List V → Hp → VK → Prop := fun x vs H Q => ∃ l b xs zs, x = .ref l ∧ vs = [.ref b] ∧ H l = some (.lst xs) ∧ TupN K H b zs ∧ xs.length + zs.length ≤ sizeLine ∧ Q .non (upd H l (.lst (xs ++ zs)))
theorem MtR.or {X : Cx} {id : String} {r r' : V → List V → Hp → VK → Prop} (h : MtR X id r) (h' : MtR X id r') : MtR X id (fun x xs H Q => r x xs H Q ∨ r' x xs H Q) := fun pins s σ H x xs v us Q I rx rxs q => by
  rcases q with q | q
  · exact h pins s σ H x xs v us Q I rx rxs q
  · exact h' pins s σ H x xs v us Q I rx rxs q
section
variable {X : Cx} {K : PySem.W.Frag}
theorem mt_extT : MtR X "list.extend" (rExtT X.K) := by
  intro pins s σ H x vs v us Q I rx rv h
  obtain ⟨l, b, xs, zs, rfl, rfl, hH, hB, hz, q⟩ := h
  cases rx
  obtain ⟨u, rfl, ru⟩ := rv.one
  cases ru
  obtain ⟨z, its, n, r, hl, e⟩ := I.lstM hH
  obtain ⟨its2, n2, r2, z2, e2⟩ := hB.at I
  have hl2 := r2.length
  have hsz : its.toArray.size + its2.toArray.size ≤ sizeLine := by rw [List.size_toArray, List.size_toArray]; omega
  have hlong : ¬ (!its.toArray.isEmpty && Builtin.List.listTooLong (its.toArray.size + its2.toArray.size)) = true := by
    rw [notLongL hsz, Bool.and_false]
    exact Bool.false_ne_true
  refine call_meets F.slot_list_extend ⟨_, e, rfl⟩ F.entry_list_extend (F.args_list_extend_2 _ _)
    (AutoSeq1.list_extend_list_tuple_0 l its.toArray n b its2.toArray n2 hlong (by rw [List.size_toArray]; omega) (by omega)) ⟨e, e2, ?_⟩
  refine ⟨.non, _, I.lset (its' := its ++ its2) hH e (by simp) (r.append r2) ?_, rfl, q⟩
  rw [List.length_append]
  omega
theorem rel_append : RelM K fAppend rAppend := by
  intro x dx xs ds H g P Q rx rs rg f l
  unfold fAppend at f
  split at f
  · cases rx
    cases rs with
    | cons r t =>
      cases t
      obtain ⟨xs, ga, z, p⟩ := f
      obtain ⟨us, hu, ru⟩ := rg.lst ga
      exact ⟨_, us, _, rfl, rfl, hu, by rw [ru.length]; exact z.lt, put_lst rg hu (ru.snoc r) .non p l⟩
  · exact f.elim
theorem rel_extend : RelM K fExtend (fun x xs H Q => rExtT K x xs H Q ∨ rExtend x xs H Q) := by
  intro x dx xs ds H g P Q rx rs rg f l
  unfold fExtend at f
  split at f
  · cases rx
    cases rs with
    | cons r t =>
      cases t
      obtain ⟨xs, ga, z, p⟩ := f
      obtain ⟨us, hu, ru⟩ := rg.lst ga
      cases r with
      | tup tn rl => exact .inl ⟨_, _, us, _, rfl, rfl, hu, tn, by rw [ru.length, rl.length]; exact z.ok, put_lst rg hu (ru.append rl) .non p l⟩
  · cases rx
    cases rs with
    | cons r t =>
      cases t
      cases r
      obtain ⟨xs, zs, ga, gb, z, p⟩ := f
      obtain ⟨us, hu, ru⟩ := rg.lst ga
      obtain ⟨ws, hw, rw'⟩ := rg.lst gb
      exact .inr ⟨_, _, us, ws, rfl, rfl, hu, hw, by rw [ru.length, rw'.length]; exact z.ok, put_lst rg hu (ru.append rw') .non p l⟩
  · exact f.elim
theorem mt_extAll : MtR X "list.extend" (fun x xs H Q => rExtT X.K x xs H Q ∨ rExtend x xs H Q) := .or mt_extT mt_extend
theorem mt_popAll : MtR X "list.pop" (fun x xs H Q => rPop x xs H Q ∨ rPopAt x xs H Q) := .or mt_pop mt_popAt
theorem seqIx {i : Int} {n : Nat} (h0 : 0 ≤ i) (h : i.toNat < n) : seqIndex? i n = some i.toNat := by
  unfold seqIndex?
  have e1 : (if i < 0 then i + (n : Int) else i) = i := if_neg (by omega)
  simp only [e1]
  rw [if_pos (by simp only [Bool.and_eq_true, decide_eq_true_eq]; omega)]
theorem rel_pop : RelM K fPop (fun x xs H Q => rPop x xs H Q ∨ rPopAt x xs H Q) := by
  intro x dx xs ds H g P Q rx rs rg f l
  unfold fPop at f
  split at f
  · cases rx
    cases rs
    obtain ⟨xs, d, ga, hd, p⟩ := f
    obtain ⟨us, hu, ru⟩ := rg.lst ga
    obtain ⟨v, hv, rv⟩ := ru.get hd
    rw [← ru.length] at hv
    exact .inl ⟨_, us, v, rfl, rfl, hu, hv, put_lst rg hu ru.dropLast rv p l⟩
  · cases rx
    cases rs with
    | cons r t =>
      cases t
      cases r
      obtain ⟨xs, d, ga, h0, h1, hd, p⟩ := f
      obtain ⟨us, hu, ru⟩ := rg.lst ga
      obtain ⟨v, hv, rv⟩ := ru.get hd
      exact .inr ⟨_, us, _, _, v, rfl, rfl, hu, by omega, by omega, seqIx h0 (List.getElem?_eq_some_iff.mp hv).1, hv, put_lst rg hu (ru.eraseIdx _) rv p l⟩
  · exact f.elim
theorem rel_insert : RelM K fInsert (fun x vs H Q => ∃ (l : Addr) (xs : List V) (i : Int) (y : V), x = .ref l ∧ vs = [.int i, y] ∧ H l = some (.lst xs) ∧ xs.length < sizeLine ∧ 0 ≤ i ∧ i < 2 ^ 63 ∧ Q .non (upd H l (.lst (xs.take i.toNat ++ [y] ++ xs.drop i.toNat)))) := by
  intro x dx xs ds H g P Q rx rs rg f l
  unfold fInsert at f
  split at f
  · cases rx
    cases rs with
    | cons r t =>
      cases r
      cases t with
      | cons r t =>
        cases t
        obtain ⟨xs, ga, z, h0, h1, p⟩ := f
        obtain ⟨us, hu, ru⟩ := rg.lst ga
        exact ⟨_, us, _, _, rfl, rfl, hu, by rw [ru.length]; exact z.lt, h0, by omega, put_lst rg hu (((ru.take _).append (.cons r .nil)).append (ru.drop _)) .non p l⟩
  · exact f.elim
theorem rel_indexL : RelM K fIndexL (rIndex K) := by
  intro x dx xs ds H g P Q rx rs rg f l
  unfold fIndexL at f
  split at f
  · cases rx
    cases rs with
    | cons r t =>
      cases t
      obtain ⟨xs, j, ga, fy, fs, hj, p⟩ := f
      obtain ⟨us, hu, ru⟩ := rg.lst ga
      obtain ⟨z, hz, h1, h2⟩ := idx_V ru r fy fs hj
      exact ⟨_, us, _, j, z, rfl, rfl, .of hu, flat_V r fy, flats_V ru fs, hz, h1, h2, l _ g H _ p (.refl H) rg (.int _)⟩
  · exact f.elim
def rRem : V → List V → Hp → VK → Prop := fun x xs H Q => ∃ (l : Addr) (ys : List V) (y : V) (j : Nat) (z : V), x = .ref l ∧ xs = [y] ∧ H l = some (.lst ys) ∧ flatV y = true ∧ ys.all flatV = true ∧ ys[j]? = some z ∧ eqV z y = true ∧
  (∀ (m : Nat) (z' : V), m < j → ys[m]? = some z' → eqV z' y = false) ∧ Q .non (upd H l (.lst (ys.eraseIdx j)))
theorem mt_rem : MtR X "list.remove" rRem := by
  intro pins s σ H x xs v us Q I rx rxs h
  obtain ⟨l, ys, y, j, z, rfl, rfl, hH, fy, fs, hj, hz, hno, q⟩ := h
  cases rx
  obtain ⟨u, rfl, ru⟩ := rxs.one
  obtain ⟨z0, its, n, r, hl0, e⟩ := I.lstM hH
  have hl : its.toArray.size = ys.length := by rw [List.size_toArray, ← r.length]
  have hj' : j < its.toArray.size := by rw [hl]; exact (List.getElem?_eq_some_iff.mp hj).1
  have at' : ∀ (m : Nat) (hm : m < its.toArray.size), ∃ y', ys[m]? = some y' ∧ RelV y' its.toArray[m] := fun m hm => by
    have hm' : m < ys.length := by rw [← hl]; exact hm
    obtain ⟨w, hw, rw'⟩ := r.get (i := m) (x := ys[m]) (by simp [hm'])
    refine ⟨ys[m], List.getElem?_eq_getElem hm', ?_⟩
    have e := (List.getElem?_eq_some_iff.mp hw).2
    have e2 : its.toArray[m] = w := by rw [← e]; simp
    rw [e2]
    exact rw'
  refine call_meets PySem.F.slot_list_remove ⟨_, e, rfl⟩ PySem.F.entry_list_remove (PySem.F.args_list_remove_2 _ _)
    (SeqAt.list_removeAt l its.toArray n none #[] u (eqU y) j hj' ?_ ?_ (by rw [hl]; omega)) ⟨e, fun w hw => mem_eqAt ru fy r fs w (by simpa using hw), ?_⟩
  · obtain ⟨y', h1, h2⟩ := at' j hj'
    rw [hj] at h1
    cases h1
    rw [eqU_of h2 (List.all_eq_true.mp fs _ (List.mem_of_getElem? hj))]
    exact hz
  · intro m hm hmj
    obtain ⟨y', h1, h2⟩ := at' m hm
    rw [eqU_of h2 (List.all_eq_true.mp fs _ (List.mem_of_getElem? h1))]
    exact hno m y' hmj h1
  · refine ⟨.non, _, I.lset (its' := its.eraseIdx j) (t' := s.toks) hH e ?_ (r.eraseIdx j) ?_, rfl, q⟩
    · show its.toArray.eraseIdxIfInBounds j = (its.eraseIdx j).toArray
      rw [List.eraseIdxIfInBounds_toArray]
    · have z2 := len_erase ys j
      omega
theorem rel_remove : RelM K fRemove rRem := by
  intro x dx xs ds H g P Q rx rs rg f l
  unfold fRemove at f
  split at f
  · cases rx
    cases rs with
    | cons r t =>
      cases t
      obtain ⟨xs, j, ga, fy, fs, hj, p⟩ := f
      obtain ⟨us, hu, ru⟩ := rg.lst ga
      obtain ⟨z, hz, h1, h2⟩ := idx_V ru r fy fs hj
      exact ⟨_, us, _, j, z, rfl, rfl, hu, flat_V r fy, flats_V ru fs, hz, h1, h2, put_lst rg hu (ru.eraseIdx j) .non p l⟩
  · exact f.elim
end
end CL

/-! CLf: calls of built-in functions, dicts, stores. -/
namespace CL
open PySem PySem.Spec PyProof.Rows L2

section
variable {X : Cx} {K : PySem.W.Frag}

/-! ### len -/
def fLen : CSp := fun ds g P => match ds with
  | [.str z] => lim z.length ∧ P (.int (z.length : Nat)) g
  | [.tup xs] => P (.int (xs.length : Nat)) g
  | [.ref a] => (∃ xs, g a = some (.lst xs) ∧ P (.int (xs.length : Nat)) g) ∨ ∃ kvs, g a = some (.dic kvs) ∧ P (.int (kvs.length : Nat)) g
  | _ => False
abbrev rLenAll (K : PySem.W.Frag) : List V → Hp → VK → Prop := fun xs H Q => (∃ p ys, xs = [V.ref p] ∧ (SqL K H p ys ∨ SqT K H p ys) ∧ Q (.int ys.length) H) ∨ (∃ z, xs = [V.str z] ∧ z.length ≤ sizeLine ∧ Q (.int z.length) H) ∨ ∃ a kvs, xs = [V.ref a] ∧ H a = some (.dK kvs) ∧ Q (.int kvs.length) H
theorem call_lenAll : CallR X (.builtin "len") (rLenAll X.K) := .or call_len_seq (.or call_len_str call_lenD)
theorem rel_len : RelC K fLen (rLenAll K) := by
  intro xs ds H g P Q rs rg f l
  unfold fLen at f
  split at f
  · cases rs with
    | cons r t =>
      cases t; cases r
      exact .inr (.inl ⟨_, rfl, f.1.ok, l _ g H _ f.2 (.refl H) rg (.int _)⟩)
  · cases rs with
    | cons r t =>
      cases t
      cases r with
      | tup tn rl => exact .inl ⟨_, _, rfl, .inr tn.sq, by rw [rl.length]; exact l _ g H _ f (.refl H) rg (.int _)⟩
  · cases rs with
    | cons r t =>
      cases t; cases r
      rcases f with ⟨xs, ga, p⟩ | ⟨kvs, ga, p⟩
      · obtain ⟨us, hu, ru⟩ := rg.lst ga
        exact .inl ⟨_, us, rfl, .inl (.of hu), by rw [ru.length]; exact l _ g H _ p (.refl H) rg (.int _)⟩
      · obtain ⟨us, hu, ru⟩ := rg.dic ga
        exact .inr (.inr ⟨_, us, rfl, hu, by rw [ru.len]; exact l _ g H _ p (.refl H) rg (.int _)⟩)
  · exact f.elim

/-! ### all, any -/
def fAll : CSp := fun ds g P => match ds with
  | [.ref a] => ∃ bs : List Bool, g a = some (.lst (bs.map D.bl)) ∧ P (.bl (bs.all id)) g
  | _ => False
def fAny : CSp := fun ds g P => match ds with
  | [.ref a] => ∃ bs : List Bool, g a = some (.lst (bs.map D.bl)) ∧ P (.bl (bs.any id)) g
  | _ => False
theorem bls_rep {H : Hp} : ∀ {vs : List V} {bs : List Bool}, RepL K H vs (bs.map D.bl) → vs = bs.map V.bl
  | [], [], _ => rfl
  | _, _ :: _, .cons r t => by
    cases r
    rw [bls_rep t]
    rfl
  | _ :: _, [], h => by cases h
theorem rel_all : RelC K fAll (rAll K) := by
  intro xs ds H g P Q rs rg f l
  unfold fAll at f
  split at f
  · cases rs with
    | cons r t =>
      cases t; cases r
      obtain ⟨bs, ga, p⟩ := f
      obtain ⟨us, hu, ru⟩ := rg.lst ga
      have := bls_rep ru
      subst this
      exact ⟨_, bs, rfl, .of hu, l _ g H _ p (.refl H) rg (.bl _)⟩
  · exact f.elim
theorem rel_any : RelC K fAny (rAny K) := by
  intro xs ds H g P Q rs rg f l
  unfold fAny at f
  split at f
  · cases rs with
    | cons r t =>
      cases t; cases r
      obtain ⟨bs, ga, p⟩ := f
      obtain ⟨us, hu, ru⟩ := rg.lst ga
      have := bls_rep ru
      subst this
      exact ⟨_, bs, rfl, .of hu, l _ g H _ p (.refl H) rg (.bl _)⟩
  · exact f.elim

/-! ### abs, int -/
def fAbs : CSp := fun ds g P => match ds with
  | [.int i] => P (.int (if i < 0 then -i else i)) g
  | _ => False
theorem rel_abs : RelC K fAbs (fun xs H Q => ∃ i, xs = [V.int i] ∧ Q (.int (if i < 0 then -i else i)) H) := by
  intro xs ds H g P Q rs rg f l
  unfold fAbs at f
  split at f
  · cases rs with
    | cons r t =>
      cases t; cases r
      exact ⟨_, rfl, l _ g H _ f (.refl H) rg (.int _)⟩
  · exact f.elim
def fInt : CSp := fun ds g P => match ds with
  | [.int i] => P (.int i) g
  | [.bl b] => P (.int (if b then 1 else 0)) g
  | _ => False
theorem rel_int : RelC K fInt (fun xs H Q => (∃ i, xs = [V.int i] ∧ Q (.int i) H) ∨ ∃ k, xs = [V.bl k] ∧ Q (.int (if k then 1 else 0)) H) := by
  intro xs ds H g P Q rs rg f l
  unfold fInt at f
  split at f
  · cases rs with
    | cons r t =>
      cases t; cases r
      exact .inl ⟨_, rfl, l _ g H _ f (.refl H) rg (.int _)⟩
  · cases rs with
    | cons r t =>
      cases t; cases r
      exact .inr ⟨_, rfl, l _ g H _ f (.refl H) rg (.int _)⟩
  · exact f.elim

/-! ### tuple(xs) -/
def rTupN (K : PySem.W.Frag) : List V → Hp → VK → Prop := fun xs H Q => ∃ p ys, xs = [V.ref p] ∧ ((H p = some (.lst ys) ∧ ∀ l us, H l = none → Q (.ref l) (upd H l (.frz (tupO us) (.tup ys)))) ∨ (SqT K H p ys ∧ Q (.ref p) H))
theorem call_tupleN : CallR X (.type "tuple") (rTupN X.K) := by
  intro pins s σ H xs us Q I r h
  obtain ⟨p, ys, rfl, h⟩ := h
  obtain ⟨u, rfl, rx⟩ := vals1 r
  cases rx
  rcases h with ⟨hq, q⟩ | ⟨hq, q⟩
  · obtain ⟨its, r', pl, hz⟩ := I.list (.of hq)
    have hlen := r'.length
    refine call_tuple_list pl.isList (fun h' kp => ?_) (by simp only [List.size_toArray] <;> omega)
    have I1 : Inv X pins σ H { s with heap := h' } := I.kept (t' := s.toks) kp
    exact ⟨.ref h'.objs.size, _, laid_tup I1 r' hz, rfl, q _ _ (I1.hok.fresh (Nat.le_refl _))⟩
  · obtain ⟨its, r', pl, hz⟩ := I.tuple hq
    exact call_tuple_same pl ⟨.ref p, H, I, rfl, q⟩
def fTupOf : CSp := fun ds g P => match ds with
  | [.tup xs] => P (.tup xs) g
  | [.ref a] => ∃ xs, g a = some (.lst xs) ∧ P (.tup xs) g
  | _ => False
theorem rel_tupOf : RelC K fTupOf (rTupN K) := by
  intro xs ds H g P Q rs rg f l
  unfold fTupOf at f
  split at f
  · cases rs with
    | cons r t =>
      cases t
      cases r with
      | tup tn rl => exact ⟨_, _, rfl, .inr ⟨tn.sq, l _ g H _ f (.refl H) rg (.tup tn rl)⟩⟩
  · cases rs with
    | cons r t =>
      cases t; cases r
      obtain ⟨xs, ga, p⟩ := f
      obtain ⟨us, hu, ru⟩ := rg.lst ga
      exact ⟨_, us, rfl, .inl ⟨hu, fun q us hq => new_tup ru rg p l hq⟩⟩
  · exact f.elim
/-- a tuple that will be a dict's key -/
def fKeyOf : CSp := fun ds g P => match ds with
  | [.ref a] => ∃ ks : List Key, g a = some (.lst (ks.map kD)) ∧ P (.key ks) g
  | _ => False
theorem keys_rep {H : Hp} : ∀ {vs : List V} {ks : List Key}, RepL K H vs (ks.map kD) → vs = ks.map kV
  | [], [], _ => rfl
  | v :: vs, k :: ks, h => by
    cases h with
    | cons r t =>
      rw [keys_rep t]
      cases k with
      | inl i => cases r; rfl
      | inr x => cases r; rfl
  | [], _ :: _, h => by cases h
  | _ :: _, [], h => by cases h
theorem rel_keyOf : RelC K fKeyOf (fun xs H Q => ∃ p ys, xs = [V.ref p] ∧ ((SqL K H p ys ∧ ∀ l, H l = none → Q (.ref l) (upd H l (.tup ys))) ∨ (SqT K H p ys ∧ Q (.ref p) H))) := by
  intro xs ds H g P Q rs rg f l
  unfold fKeyOf at f
  split at f
  · cases rs with
    | cons r t =>
      cases t; cases r
      obtain ⟨ks, ga, p⟩ := f
      obtain ⟨us, hu, ru⟩ := rg.lst ga
      have := keys_rep ru
      subst this
      exact ⟨_, _, rfl, .inl ⟨.of hu, fun q hq => l _ g _ _ p (.new hq) (rg.beside hq) (.key ks upd_same)⟩⟩
  · exact f.elim

/-! ### list(xs) -/
def fLstOf : CSp := fun ds g P => match ds with
  | [.tup xs] => ∀ p, g p = none → P (.ref p) (gupd g p (.lst xs))
  | [.ref a] => ∃ xs, g a = some (.lst xs) ∧ ∀ p, g p = none → P (.ref p) (gupd g p (.lst xs))
  | _ => False
theorem rel_lstOf : RelC K fLstOf (fun xs H Q => ∃ p ys, xs = [V.ref p] ∧ (SqL K H p ys ∨ SqT K H p ys) ∧ ∀ l, H l = none → Q (.ref l) (upd H l (.lst ys))) := by
  intro xs ds H g P Q rs rg f l
  unfold fLstOf at f
  split at f
  · cases rs with
    | cons r t =>
      cases t
      cases r with
      | tup tn rl => exact ⟨_, _, rfl, .inr tn.sq, fun q hq => new_lst rl rg f l hq⟩
  · cases rs with
    | cons r t =>
      cases t; cases r
      obtain ⟨xs, ga, p⟩ := f
      obtain ⟨us, hu, ru⟩ := rg.lst ga
      exact ⟨_, us, rfl, .inl (.of hu), fun q hq => new_lst ru rg p l hq⟩
  · exact f.elim

/-! ### sorted(xs), strs -/
def fSortS : CSp := fun ds g P => match ds with
  | [.ref a] => ∃ xs : List Str, g a = some (.lst (xs.map D.str)) ∧ xs.length < 64 ∧ ∀ (ys : List Str) p, ys.Perm xs → sortedS ys = true → g p = none → P (.ref p) (gupd g p (.lst (ys.map D.str)))
  | _ => False
theorem strs_rep {H : Hp} : ∀ {vs : List V} {xs : List Str}, RepL K H vs (xs.map D.str) → vs = xs.map V.str
  | [], [], _ => rfl
  | _, _ :: _, .cons r t => by
    cases r
    rw [strs_rep t]
    rfl
  | _ :: _, [], h => by cases h
theorem rep_strs {H : Hp} : ∀ xs : List Str, RepL K H (xs.map V.str) (xs.map D.str)
  | [] => .nil
  | x :: xs => .cons (.str x) (rep_strs xs)
theorem rel_sortS : RelC K fSortS (rSortedS K) := by
  intro xs ds H g P Q rs rg f l
  unfold fSortS at f
  split at f
  · cases rs with
    | cons r t =>
      cases t; cases r
      obtain ⟨xs, ga, h, p⟩ := f
      obtain ⟨us, hu, ru⟩ := rg.lst ga
      have := strs_rep ru
      subst this
      exact ⟨_, xs, rfl, .of hu, h, fun ys q hy hs hq => l _ _ _ _ (p ys q hy hs (rg.free hq)) (.new hq) (rg.laid hq (show RepL K _ _ _ from rep_strs ys)) (.ref q)⟩
  · exact f.elim
end

/-! ### isinstance(x, T) -/
def tyD : D → String
  | .int _ => "int"
  | .str _ => "str"
  | .tup _ => "tuple"
  | .bl _ => "bool"
  | .non => "NoneType"
  | _ => ""
def okTy : D → Bool
  | .int _ => true
  | .str _ => true
  | .tup _ => true
  | _ => false
def cIsi (T : String) (e : CE) : CE := fun s g P => e s g fun d g1 => okTy d = true ∧ P (.bl (decide (tyD d = T))) g1
theorem kit3 : ∀ T ∈ ["int", "str", "tuple"], ∀ U ∈ ["int", "str", "tuple"], kitB U T = some (decide (U = T)) := by decide +kernel
section
variable {X : Cx} {K : PySem.W.Frag}
theorem ty_rep {H : Hp} {v : V} {d : D} (r : Rep K H v d) (o : okTy d = true) : TyX K H v (.type (tyD d)) ∧ tyD d ∈ ["int", "str", "tuple"] := by
  cases d with
  | int i => cases r; exact ⟨.base (.int _), by simp [tyD]⟩
  | str i => cases r; exact ⟨.base (.str _), by simp [tyD]⟩
  | tup xs =>
    cases r with
    | tup tn rl =>
      refine ⟨?_, by simp [tyD]⟩
      rcases tn with ⟨us, h⟩ | ⟨its, n, h, _⟩
      · exact .fTuple h
      · exact .kTuple h rfl
  | _ => cases o
theorem kisi {T : String} {nm : Str} {e : Expr} {c : CE} {p1 p2 pos : Pos} (hT : T ∈ ["int", "str", "tuple"]) (hg : Gl X "isinstance") (hm : X.mg "isinstance" = none) (hg2 : Gl X nm) (hm2 : X.mg nm = none) (hv2 : bootBuiltins nm = some (.type T)) (he : PE X e (liftE X.K c))
    (hn2 : nm ≠ "__name__" := by decide) (hd2 : (nm == ("__debug__" : Str)) = false := by decide)
    (hs : starEach [e, .Name nm p2] X.env = (false, eval e X.env) :: starEach [.Name nm p2] X.env := by rfl) (hs2 : starEach [.Name nm p2] X.env = (false, eval (.Name nm p2) X.env) :: starEach [] X.env := by rfl) (hpl : (backTo pos (starEach [.Name nm p2] X.env)).any (·.1) = false := by rfl) :
    PE X (.Call (.Name "isinstance" p1) [e, .Name nm p2] [] pos) (liftE X.K (cIsi T c)) := by
  refine PE.imp (pe_callB call_isi hg hm (by decide +kernel) (pa_cons he (pa_cons (pe_bltn (v := .ty T) hg2 hm2 hv2 rfl hn2 hd2) pa_nil hs2) hs) (by decide) (by decide) hs hpl) ?_
  rintro σ H Q ⟨s, g, P, rs, rg, p, l⟩
  refine ⟨s, g, _, rs, rg, p, ?_⟩
  rintro d g1 H1 v ⟨o, p1⟩ e1 rg1 r1
  obtain ⟨t1, t2⟩ := ty_rep r1 o
  exact ⟨v, .ty T, _, _, _, rfl, .ty T, t1, kit_ty (kit3 T hT _ t2), l _ g1 H1 _ p1 e1 rg1 (.bl _)⟩

/-! ### methods of strs -/
def cStr1 (f : Str → D → GH → CQ → Prop) (o e : CE) : CE := fun s g P => o s g fun x g1 => ∃ z, x = .str z ∧ e s g1 fun y g2 => f z y g2 P
def RelS (K : PySem.W.Frag) (f : Str → D → GH → CQ → Prop) (r : V → List V → Hp → VK → Prop) : Prop := ∀ z y dy H g P Q, Rep K H y dy → RG K H g → f z dy g P → LQ K H P Q → r (.str z) [y] H Q
theorem kstr1 {o e : Expr} {co ce : CE} {f : Str → D → GH → CQ → Prop} {id : String} {name : Str} {apos pos : Pos} {r : V → List V → Hp → VK → Prop} (slot : Slot "str" name id) (ty : typeOf (.builtin id) = pure (.type "method_descriptor")) (rule : MtR X id r) (hr : RelS X.K f r)
    (ho : PE X o (liftE X.K co)) (he : PE X e (liftE X.K ce)) (hs : starEach [e] X.env = [(false, eval e X.env)] := by rfl) (hbase : attributeBase o name X.env (eval o X.env) = eval o X.env := by rfl) (hline : (apos.endLine == pos.line) = true := by rfl) :
    PE X (.Call (.Attribute o name apos) [e] [] pos) (liftE X.K (cStr1 f co ce)) := by
  refine PE.imp (pe_m1 slot ty rule ho he hs hbase hline) ?_
  rintro σ H Q ⟨s, g, P, rs, rg, p, l⟩
  refine ⟨s, g, _, rs, rg, p, ?_⟩
  rintro d g1 H1 v ⟨z, rfl, p1⟩ e1 rg1 r1
  cases r1
  refine ⟨⟨z, rfl⟩, s, g1, _, rs.mono e1, rg1, p1, ?_⟩
  intro y g2 H2 w p2 e2 rg2 r2
  exact hr z w y H2 g2 P Q r2 rg2 p2 (l.mono (e1.trans e2))
def fStrip : Str → D → GH → CQ → Prop := fun z y g P => match y with
  | .str b => lim z.length ∧ P (.str (Txt.stripChars z b)) g
  | _ => False
theorem rel_strip : RelS K fStrip (fun x xs H Q => ∃ a b, x = .str a ∧ xs = [.str b] ∧ a.length ≤ sizeLine ∧ Q (.str (Txt.stripChars a b)) H) := by
  intro z y dy H g P Q ry rg f l
  unfold fStrip at f
  split at f
  · cases ry
    exact ⟨z, _, rfl, rfl, f.1.ok, l _ g H _ f.2 (.refl H) rg (.str _)⟩
  · exact f.elim
def fJoin : Str → D → GH → CQ → Prop := fun z y g P => match y with
  | .ref a => ∃ ys : List Str, g a = some (.lst (ys.map D.str)) ∧ (ys.map (·.length)).sum + ys.length * z.length ≤ 16777216 ∧ P (.str (Txt.join z ys)) g
  | _ => False
theorem rel_join : RelS K fJoin (fun x xs H Q => ∃ a p, ∃ ys : List Str, x = .str a ∧ xs = [.ref p] ∧ (SqL K H p (ys.map V.str) ∨ SqT K H p (ys.map V.str)) ∧ (ys.map (·.length)).sum + ys.length * a.length ≤ 16777216 ∧ Q (.str (Txt.join a ys)) H) := by
  intro z y dy H g P Q ry rg f l
  unfold fJoin at f
  split at f
  · cases ry
    obtain ⟨ys, ga, h, p⟩ := f
    obtain ⟨us, hu, ru⟩ := rg.lst ga
    have := strs_rep ru
    subst this
    exact ⟨z, _, ys, rfl, rfl, .inl (.of hu), h, l _ g H _ p (.refl H) rg (.str _)⟩
  · exact f.elim
end

/-! ### x[::-1] -/
def tRevN (K : PySem.W.Frag) (te : TE) : TE := fun σ H Q => te σ H fun x H1 => ∃ a xs, x = .ref a ∧ ((H1 a = some (.lst xs) ∧ ∀ p, H1 p = none → Q (.ref p) (upd H1 p (.lst xs.reverse))) ∨ (SqT K H1 a xs ∧ ∀ p us, H1 p = none → Q (.ref p) (upd H1 p (.frz (tupO us) (.tup xs.reverse)))))

/-! ### dicts -/
section
variable {κ : Type} [DecidableEq κ]
def valD (kvs : List (κ × D)) (k : κ) : Option D := (kvs.find? fun kv => decide (kv.1 = k)).map (·.2)
def putD (kvs : List (κ × D)) (k : κ) (v : D) : List (κ × D) :=
  if (kvs.any fun kv => decide (kv.1 = k)) = true then kvs.map (fun kv => if kv.1 = k then (kv.1, v) else kv) else kvs ++ [(k, v)]
variable {K : PySem.W.Frag} {H : Hp}
theorem val_rep (k : κ) : ∀ {vs : List (κ × V)} {ds : List (κ × D)}, KVr K H vs ds → (valV vs k = none ∧ valD ds k = none) ∨ ∃ v d, valV vs k = some v ∧ valD ds k = some d ∧ Rep K H v d
  | _, _, .nil => .inl ⟨rfl, rfl⟩
  | (a, v) :: vs, (b, d) :: ds, .cons r t => by
    obtain ⟨h1, h2⟩ := r
    have h1 : a = b := h1
    subst h1
    by_cases e : a = k
    · exact .inr ⟨v, d, valV_pos (p := (a, v)) e, by simp [valD, List.find?_cons, e], h2⟩
    · have e1 : valV ((a, v) :: vs) k = valV vs k := valV_neg (p := (a, v)) e
      have e2 : valD ((a, d) :: ds) k = valD ds k := by simp [valD, List.find?_cons, e]
      rw [e1, e2]
      exact val_rep k t
theorem any_rep (k : κ) : ∀ {vs : List (κ × V)} {ds : List (κ × D)}, KVr K H vs ds → (vs.any fun kv => decide (kv.1 = k)) = (ds.any fun kv => decide (kv.1 = k))
  | _, _, .nil => rfl
  | (a, v) :: vs, (b, d) :: ds, .cons r t => by
    have h1 : a = b := r.1
    subst h1
    rw [List.any_cons, List.any_cons, any_rep k t]
theorem map_rep (k : κ) {v : V} {d : D} (r : Rep K H v d) : ∀ {vs : List (κ × V)} {ds : List (κ × D)}, KVr K H vs ds → KVr K H (vs.map fun kv => if kv.1 = k then (kv.1, v) else kv) (ds.map fun kv => if kv.1 = k then (kv.1, d) else kv)
  | _, _, .nil => .nil
  | (a, v') :: vs, (b, d') :: ds, .cons r' t => by
    have h1 : a = b := r'.1
    subst h1
    refine .cons ?_ (map_rep k r t)
    by_cases e : a = k
    · show (if a = k then (a, v) else (a, v')).1 = (if a = k then (a, d) else (a, d')).1 ∧ Rep K H (if a = k then (a, v) else (a, v')).2 (if a = k then (a, d) else (a, d')).2
      rw [if_pos e, if_pos e]
      exact ⟨rfl, r⟩
    · show (if a = k then (a, v) else (a, v')).1 = (if a = k then (a, d) else (a, d')).1 ∧ Rep K H (if a = k then (a, v) else (a, v')).2 (if a = k then (a, d) else (a, d')).2
      rw [if_neg e, if_neg e]
      exact ⟨rfl, r'.2⟩
theorem snoc_rep {k : κ} {v : V} {d : D} (r : Rep K H v d) : ∀ {vs : List (κ × V)} {ds : List (κ × D)}, KVr K H vs ds → KVr K H (vs ++ [(k, v)]) (ds ++ [(k, d)])
  | _, _, .nil => .cons ⟨rfl, r⟩ .nil
  | _, _, .cons r' t => .cons r' (snoc_rep r t)
theorem put_rep (k : κ) {v : V} {d : D} (r : Rep K H v d) {vs : List (κ × V)} {ds : List (κ × D)} (h : KVr K H vs ds) : KVr K H (putK vs k v) (putD ds k d) := by
  unfold putK putD
  rw [any_rep k h]
  split
  · exact map_rep k r h
  · exact snoc_rep r h
end
theorem kV_kD {K : PySem.W.Frag} {H : Hp} {v : V} {k : Key} (r : Rep K H v (kD k)) : v = kV k := by
  cases k with
  | inl i => cases r; rfl
  | inr x => cases r; rfl
/-- what stands under a key -/
def DG (g : GH) (d y : D) (o : Option D) : Prop :=
  (∃ a kvs k, d = .ref a ∧ (g a = some (.dic kvs) ∨ ∃ ob vs, g a = some (.lck ob vs kvs)) ∧ y = kD k ∧ o = valD kvs k) ∨ ∃ a kvs k, d = .ref a ∧ g a = some (.dct kvs) ∧ y = .key k ∧ o = valD kvs k
/-- the store behind d[y] = v -/
def DP (g : GH) (d y v : D) (g' : GH) : Prop :=
  (∃ a kvs k, d = .ref a ∧ g a = some (.dic kvs) ∧ y = kD k ∧ lim kvs.length ∧ g' = gupd g a (.dic (putD kvs k v))) ∨ ∃ a kvs k, d = .ref a ∧ g a = some (.dct kvs) ∧ y = .key k ∧ lim kvs.length ∧ g' = gupd g a (.dct (putD kvs k v))
section
variable {K : PySem.W.Frag}
theorem dg_rep {H : Hp} {g : GH} {x y : V} {dx dy : D} {o : Option D} (rg : RG K H g) (rx : Rep K H x dx) (ry : Rep K H y dy) (h : DG g dx dy o) : ∃ a ov, x = .ref a ∧ DGet H a y ov ∧ ((ov = none ∧ o = none) ∨ ∃ v d, ov = some v ∧ o = some d ∧ Rep K H v d) := by
  rcases h with ⟨a, kvs, k, rfl, ha, rfl, rfl⟩ | ⟨a, kvs, k, rfl, ha, rfl, rfl⟩
  · cases rx
    have hy := kV_kD ry
    subst hy
    rcases ha with ha | ⟨ob, ws, ha⟩
    · obtain ⟨vs, hv, rk⟩ := rg.dic ha
      refine ⟨a, valV vs k, rfl, .k hv, ?_⟩
      rcases val_rep k rk with ⟨h1, h2⟩ | ⟨v, d, h1, h2, r⟩
      · exact .inl ⟨h1, h2⟩
      · exact .inr ⟨v, d, h1, h2, r⟩
    · obtain ⟨hv, rk⟩ := rg.lck ha
      refine ⟨a, valV ws k, rfl, .inl ⟨ws, k, .inr ⟨ob, hv⟩, rfl, rfl⟩, ?_⟩
      rcases val_rep k rk with ⟨h1, h2⟩ | ⟨v, d, h1, h2, r⟩
      · exact .inl ⟨h1, h2⟩
      · exact .inr ⟨v, d, h1, h2, r⟩
  · cases rx
    cases ry with
    | key _ hk =>
      obtain ⟨vs, hv, rk⟩ := rg.dct ha
      refine ⟨a, valV vs k, rfl, .t hv hk, ?_⟩
      rcases val_rep k rk with ⟨h1, h2⟩ | ⟨v, d, h1, h2, r⟩
      · exact .inl ⟨h1, h2⟩
      · exact .inr ⟨v, d, h1, h2, r⟩
theorem isD_rep {H : Hp} {g : GH} {a : Addr} {kvs : List (Key × D)} (rg : RG K H g) (ha : g a = some (.dic kvs) ∨ ∃ ob vs, g a = some (.lck ob vs kvs)) : IsD H a := by
  rcases ha with ha | ⟨ob, ws, ha⟩
  · obtain ⟨vs, hv, rk⟩ := rg.dic ha
    exact .inl ⟨vs, .inl hv⟩
  · obtain ⟨hv, rk⟩ := rg.lck ha
    exact .inl ⟨ws, .inr ⟨ob, hv⟩⟩
theorem dp_rep {H : Hp} {g g' : GH} {x y v : V} {dx dy dv : D} (rg : RG K H g) (rx : Rep K H x dx) (ry : Rep K H y dy) (rv : Rep K H v dv) (h : DP g dx dy dv g') : ∃ a H', x = .ref a ∧ DPut H a y v H' ∧ Ext H H' ∧ RG K H' g' := by
  rcases h with ⟨a, kvs, k, rfl, ha, rfl, z, rfl⟩ | ⟨a, kvs, k, rfl, ha, rfl, z, rfl⟩
  · cases rx
    have hy := kV_kD ry
    subst hy
    obtain ⟨vs, hv, rk⟩ := rg.dic ha
    have e : Ext H (upd H a (.dK (putK vs k v))) := .put hv id
    exact ⟨a, _, rfl, .k hv (by rw [rk.len]; exact z.lt), e, rg.put (m := .dic _) hv id (show KVr K _ _ _ from (put_rep k rv rk).mono e)⟩
  · cases rx
    cases ry with
    | key _ hk =>
      obtain ⟨vs, hv, rk⟩ := rg.dct ha
      have e : Ext H (upd H a (.dT (putK vs k v))) := .put hv id
      exact ⟨a, _, rfl, .t hv hk (by rw [rk.len]; exact z.lt), e, rg.put (m := .dct _) hv id (show KVr K _ _ _ from (put_rep k rv rk).mono e)⟩
end
def cDGet (d y : CE) : CE := fun s g P => d s g fun x g1 => y s g1 fun k g2 => ∃ v, DG g2 x k (some v) ∧ P v g2
def cDGet2 (d y z : CE) : CE := fun s g P => d s g fun x g1 => (∃ a kvs, x = .ref a ∧ (g1 a = some (.dic kvs) ∨ ∃ ob vs, g1 a = some (.lck ob vs kvs))) ∧ y s g1 fun k g2 => z s g2 fun w g3 => ∃ o, DG g3 x k o ∧ P (o.getD w) g3
def cDIn (neg : Bool) (y d : CE) : CE := fun s g P => y s g fun k g1 => d s g1 fun x g2 => ∃ o : Option D, DG g2 x k o ∧ P (.bl (if neg then !o.isSome else o.isSome)) g2
def cDPut (d y v : CE) : CS := fun C s g => v s g fun w g1 => d s g1 fun x g2 => y s g2 fun k g3 => ∃ g4, DP g3 x k w g4 ∧ C.nx s g4
def cDSetd (d y z : CE) : CE := fun s g P => d s g fun x g1 => (∃ a kvs, x = .ref a ∧ g1 a = some (.dic kvs)) ∧ y s g1 fun k g2 => z s g2 fun w g3 => ∃ a kvs q, x = .ref a ∧ g3 a = some (.dic kvs) ∧ k = kD q ∧ lim kvs.length ∧ match valD kvs q with
  | some v => P v g3
  | none => P w (gupd g3 a (.dic (putD kvs q w)))
section
variable {X : Cx}
theorem kdget {d y : Expr} {cd cy : CE} {pos : Pos} (hu : X.A.units + 1 < cLine) (hd : PE X d (liftE X.K cd)) (hy : PE X y (liftE X.K cy)) (hs : NoSl y := by exact fun _ _ => rfl) : PE X (.Subscript d y pos) (liftE X.K (cDGet cd cy)) := by
  refine PE.imp (pe_dget hu hd hy hs) ?_
  rintro σ H Q ⟨s, g, P, rs, rg, p, l⟩
  refine ⟨s, g, _, rs, rg, p, ?_⟩
  intro x g1 H1 vx p1 e1 rg1 r1
  refine ⟨s, g1, _, rs.mono e1, rg1, p1, ?_⟩
  rintro k g2 H2 vk ⟨v, h, p2⟩ e2 rg2 r2
  obtain ⟨a, ov, rfl, hg, hh⟩ := dg_rep rg2 (r1.mono e2) r2 h
  rcases hh with ⟨_, h2⟩ | ⟨w, dd, rfl, h2, rw'⟩
  · cases h2
  · cases h2
    exact ⟨a, w, rfl, hg, l _ g2 H2 _ p2 (e1.trans e2) rg2 rw'⟩
theorem lift_din (neg : Bool) {cd cy : CE} {K : PySem.W.Frag} : ∀ σ H Q, liftE K (cDIn neg cy cd) σ H Q → liftE K cy σ H fun y H1 => liftE K cd σ H1 fun x H2 => ∃ a o, x = .ref a ∧ DGet H2 a y o ∧ Q (.bl (if neg then !o.isSome else o.isSome)) H2 := by
  rintro σ H Q ⟨s, g, P, rs, rg, p, l⟩
  refine ⟨s, g, _, rs, rg, p, ?_⟩
  intro k g1 H1 vk p1 e1 rg1 r1
  refine ⟨s, g1, _, rs.mono e1, rg1, p1, ?_⟩
  rintro x g2 H2 vx ⟨o, h, p2⟩ e2 rg2 r2
  obtain ⟨a, ov, rfl, hg, hh⟩ := dg_rep rg2 r2 (r1.mono e2) h
  refine ⟨a, ov, rfl, hg, ?_⟩
  rcases hh with ⟨rfl, rfl⟩ | ⟨w, dd, rfl, rfl, rw'⟩
  · exact l _ g2 H2 _ p2 (e1.trans e2) rg2 (.bl _)
  · exact l _ g2 H2 _ p2 (e1.trans e2) rg2 (.bl _)
theorem kdinC {d y : Expr} {cd cy : CE} (hu : X.A.units + 1 < cLine) (hd : PE X d (liftE X.K cd)) (hy : PE X y (liftE X.K cy)) : PC X .In y d (liftE X.K (cDIn false cy cd)) :=
  ⟨fun pins s σ H Q I q => (pc_din hu hy hd).run pins s σ H Q I (lift_din false σ H Q q)⟩
theorem kdninC {d y : Expr} {cd cy : CE} (hu : X.A.units + 1 < cLine) (hd : PE X d (liftE X.K cd)) (hy : PE X y (liftE X.K cy)) : PC X .NotIn y d (liftE X.K (cDIn true cy cd)) :=
  ⟨fun pins s σ H Q I q => (pc_dnotin hu hy hd).run pins s σ H Q I (lift_din true σ H Q q)⟩
theorem kdin {d y : Expr} {cd cy : CE} {pos : Pos} (hu : X.A.units + 1 < cLine) (hy : PE X y (liftE X.K cy)) (hd : PE X d (liftE X.K cd)) (h1 : behindInMarks .In d = false := by rfl) : PE X (.Compare y [.In] [d] pos) (liftE X.K (cDIn false cy cd)) := pe_cmp (kdinC hu hd hy) h1
theorem kdnin {d y : Expr} {cd cy : CE} {pos : Pos} (hu : X.A.units + 1 < cLine) (hy : PE X y (liftE X.K cy)) (hd : PE X d (liftE X.K cd)) (h1 : behindInMarks .NotIn d = false := by rfl) : PE X (.Compare y [.NotIn] [d] pos) (liftE X.K (cDIn true cy cd)) := pe_cmp (kdninC hu hd hy) h1
theorem ktdin {d y : Expr} {cd cy : CE} {pos : Pos} (hu : X.A.units + 1 < cLine) (hy : PE X y (liftE X.K cy)) (hd : PE X d (liftE X.K cd)) (h1 : behindInMarks .In d = false := by rfl) : PT X (.Compare y [.In] [d] pos) (liftT X.K (cB (cDIn false cy cd))) :=
  PT.imp (pt_cmp (kdinC hu hd hy) h1) fun σ H Q q => lift_test σ H Q q
theorem ktdnin {d y : Expr} {cd cy : CE} {pos : Pos} (hu : X.A.units + 1 < cLine) (hy : PE X y (liftE X.K cy)) (hd : PE X d (liftE X.K cd)) (h1 : behindInMarks .NotIn d = false := by rfl) : PT X (.Compare y [.NotIn] [d] pos) (liftT X.K (cB (cDIn true cy cd))) :=
  PT.imp (pt_cmp (kdninC hu hd hy) h1) fun σ H Q q => lift_test σ H Q q
theorem kdget2 {o e f : Expr} {cd cy cz : CE} {apos cpos : Pos} (hu : X.A.units + 1 < cLine) (ho : PE X o (liftE X.K cd)) (he : PE X e (liftE X.K cy)) (hf : PE X f (liftE X.K cz)) (m : M2 X o "get" apos e f cpos) : PE X (.Call (.Attribute o "get" apos) [e, f] [] cpos) (liftE X.K (cDGet2 cd cy cz)) := by
  refine PE.imp (pe_dget2 hu ho he hf m) ?_
  rintro σ H Q ⟨s, g, P, rs, rg, p, l⟩
  refine ⟨s, g, _, rs, rg, p, ?_⟩
  rintro x g1 H1 vx ⟨⟨a, kvs, rfl, ha⟩, p1⟩ e1 rg1 r1
  cases r1
  refine ⟨a, rfl, isD_rep rg1 ha, s, g1, _, rs.mono e1, rg1, p1, ?_⟩
  intro k g2 H2 vk p2 e2 rg2 r2
  refine ⟨s, g2, _, rs.mono (e1.trans e2), rg2, p2, ?_⟩
  rintro w g3 H3 vw ⟨o, h, p3⟩ e3 rg3 r3
  obtain ⟨a', ov, ea, hg, hh⟩ := dg_rep rg3 (.ref a) (r2.mono e3) h
  cases ea
  refine ⟨ov, hg, ?_⟩
  rcases hh with ⟨rfl, rfl⟩ | ⟨w', dd, rfl, rfl, rw'⟩
  · exact l _ g3 H3 _ p3 ((e1.trans e2).trans e3) rg3 r3
  · exact l _ g3 H3 _ p3 ((e1.trans e2).trans e3) rg3 rw'
theorem kdsetd {o e f : Expr} {cd cy cz : CE} {apos cpos : Pos} (ho : PE X o (liftE X.K cd)) (he : PE X e (liftE X.K cy)) (hf : PE X f (liftE X.K cz)) (m : M2 X o "setdefault" apos e f cpos) : PE X (.Call (.Attribute o "setdefault" apos) [e, f] [] cpos) (liftE X.K (cDSetd cd cy cz)) := by
  refine PE.imp (pe_dsetd ho he hf m) ?_
  rintro σ H Q ⟨s, g, P, rs, rg, p, l⟩
  refine ⟨s, g, _, rs, rg, p, ?_⟩
  rintro x g1 H1 vx ⟨⟨a, kvs, rfl, ha⟩, p1⟩ e1 rg1 r1
  cases r1
  refine ⟨a, rfl, isD_rep rg1 (.inl ha), s, g1, _, rs.mono e1, rg1, p1, ?_⟩
  intro k g2 H2 vk p2 e2 rg2 r2
  refine ⟨s, g2, _, rs.mono (e1.trans e2), rg2, p2, ?_⟩
  rintro w g3 H3 vw ⟨a', kvs', q, ea, ha', rfl, z, p3⟩ e3 rg3 r3
  cases ea
  have hy := kV_kD (r2.mono e3)
  subst hy
  obtain ⟨vs, hv, rk⟩ := rg3.dic ha'
  refine ⟨vs, q, hv, rfl, by rw [rk.len]; exact z.lt, ?_, ?_⟩
  · intro v hvv
    rcases val_rep q rk with ⟨h1, h2⟩ | ⟨v', d', h1, h2, r'⟩
    · rw [h1] at hvv; cases hvv
    · rw [h1] at hvv; cases hvv
      rw [h2] at p3
      exact l _ g3 H3 _ p3 ((e1.trans e2).trans e3) rg3 r'
  · intro hvv
    rcases val_rep q rk with ⟨h1, h2⟩ | ⟨v', d', h1, h2, r'⟩
    · rw [h2] at p3
      have e : Ext H3 (upd H3 a (.dK (putK vs q vw))) := .put hv id
      exact l _ _ _ _ p3 (((e1.trans e2).trans e3).trans e) (rg3.put (m := .dic _) hv id (show KVr X.K _ _ _ from (put_rep q r3 rk).mono e)) (r3.mono e)
    · rw [h1] at hvv; cases hvv
theorem sdput {o i value : Expr} {cd cy cv : CE} {pos pos' : Pos} (hu : X.A.units + 1 < cLine) (ho : PE X o (liftE X.K cd)) (hi : PE X i (liftE X.K cy)) (hv : PE X value (liftE X.K cv)) (hs : swapsWith value (some (.Subscript o i pos')) pos.line X.env = pure false := by rfl) :
    PS X (.Assign [.Subscript o i pos'] value pos) (liftS X.K (cDPut cd cy cv)) := by
  refine PS.imp (ps_dput hu ho hi hv hs) ?_
  rintro E σ H ⟨s, g, C, rs, rg, p, l⟩
  refine ⟨s, g, _, rs, rg, p, ?_⟩
  intro w g1 H1 vw p1 e1 rg1 r1
  refine ⟨s, g1, _, rs.mono e1, rg1, p1, ?_⟩
  intro x g2 H2 vx p2 e2 rg2 r2
  refine ⟨s, g2, _, rs.mono (e1.trans e2), rg2, p2, ?_⟩
  rintro k g3 H3 vk ⟨g4, h, p3⟩ e3 rg3 r3
  obtain ⟨a, H4, rfl, hd, e4, rg4⟩ := dp_rep rg3 (r2.mono e3) r3 (r1.mono (e2.trans e3)) h
  exact ⟨a, H4, rfl, hd, l.nx s g4 H4 σ p3 (((e1.trans e2).trans e3).trans e4) rg4 (rs.mono (((e1.trans e2).trans e3).trans e4))⟩

/-! ### {}, {k: v, ..} -/
def cDNewK : CE := fun _ g P => ∀ p, g p = none → P (.ref p) (gupd g p (.dic []))
def cDNewT : CE := fun _ g P => ∀ p, g p = none → P (.ref p) (gupd g p (.dct []))
theorem kdnewK {pos : Pos} : PE X (.Dict [] [] pos) (liftE X.K cDNewK) := by
  refine PE.imp pe_dnewK ?_
  rintro σ H Q ⟨s, g, P, rs, rg, p, l⟩ q hq
  exact l _ _ _ _ (p q (rg.free hq)) (.new hq) (rg.laid hq (show KVr X.K _ [] [] from .nil)) (.ref q)
theorem kdnewT {pos : Pos} : PE X (.Dict [] [] pos) (liftE X.K cDNewT) := by
  refine PE.imp pe_dnewT ?_
  rintro σ H Q ⟨s, g, P, rs, rg, p, l⟩ q hq
  exact l _ _ _ _ (p q (rg.free hq)) (.new hq) (rg.laid hq (show KVr X.K _ [] [] from .nil)) (.ref q)
def mergeD (kvs more : List (Key × D)) : List (Key × D) := more.foldl (fun acc kv => putD acc kv.1 kv.2) kvs
def cPairs : List (CE × CE) → CSt → GH → (List (D × D) → GH → Prop) → Prop
  | [], _, g, P => P [] g
  | (k, v) :: r, s, g, P => k s g fun x g1 => v s g1 fun y g2 => cPairs r s g2 fun ps g3 => P ((x, y) :: ps) g3
def cDisp (prs : List (CE × CE)) : CE := fun s g P => ∀ p, g p = none → cPairs prs s (gupd g p (.dic [])) fun ps g2 => g2 p = some (.dic []) ∧ ∃ kvs : List (Key × D), ps = kvs.map (fun kv => (kD kv.1, kv.2)) ∧ kvs.length ≤ 15 ∧ P (.ref p) (gupd g2 p (.dic (mergeD [] kvs)))
abbrev RPs (K : PySem.W.Frag) (H : Hp) : List (V × V) → List (D × D) → Prop := Paired fun p q => Rep K H p.1 q.1 ∧ Rep K H p.2 q.2
theorem pairs_rep {K : PySem.W.Frag} : ∀ (prs : List (CE × CE)) (σ : L2.St) (H : Hp) (s : CSt) (g : GH) (P : List (D × D) → GH → Prop) (Q : List (V × V) → Hp → Prop), RS K H σ s → RG K H g → cPairs prs s g P →
    (∀ ds g' H' vs, P ds g' → Ext H H' → RG K H' g' → RPs K H' vs ds → Q vs H') → tPairs (prs.map fun p => (liftE K p.1, liftE K p.2)) σ H Q
  | [], σ, H, s, g, P, Q, rs, rg, p, l => l [] g H [] p (.refl H) rg .nil
  | (k, v) :: r, σ, H, s, g, P, Q, rs, rg, p, l => by
    refine ⟨s, g, _, rs, rg, p, ?_⟩
    intro x g1 H1 vx p1 e1 rg1 r1
    refine ⟨s, g1, _, rs.mono e1, rg1, p1, ?_⟩
    intro y g2 H2 vy p2 e2 rg2 r2
    refine pairs_rep r σ H2 s g2 _ _ (rs.mono (e1.trans e2)) rg2 p2 ?_
    intro ds g3 H3 vs p3 e3 rg3 r3
    exact l _ g3 H3 _ p3 ((e1.trans e2).trans e3) rg3 (.cons ⟨(r1.mono e2).mono e3, r2.mono e3⟩ r3)
theorem merge_rep {K : PySem.W.Frag} {H : Hp} : ∀ {ms : List (Key × V)} {ns : List (Key × D)} {vs : List (Key × V)} {ds : List (Key × D)}, KVr K H ms ns → KVr K H vs ds → KVr K H (mergeK vs ms) (mergeD ds ns)
  | _, _, _, _, .nil, h => h
  | (a, v) :: ms, (b, d) :: ns, vs, ds, .cons r t, h => by
    obtain ⟨h1, h2⟩ := r
    have h1 : a = b := h1
    subst h1
    exact merge_rep (vs := putK vs a v) (ds := putD ds a d) t (put_rep a h2 h)
theorem keyed {K : PySem.W.Frag} {H : Hp} : ∀ {ps : List (V × V)} {kvs : List (Key × D)}, RPs K H ps (kvs.map fun kv => (kD kv.1, kv.2)) → ∃ ks : List (Key × V), ps = ks.map (fun kv => (kV kv.1, kv.2)) ∧ KVr K H ks kvs
  | [], [], _ => ⟨[], rfl, .nil⟩
  | (x, y) :: ps, (k, d) :: kvs, .cons r t => by
    obtain ⟨ks, h1, h2⟩ := keyed t
    have hx : x = kV k := kV_kD r.1
    subst hx
    exact ⟨(k, y) :: ks, by rw [h1]; rfl, .cons ⟨rfl, r.2⟩ h2⟩
  | [], _ :: _, h => by cases h
  | _ :: _, [], h => by cases h
theorem kdisp {keys : List (Option Expr)} {values : List Expr} {pos : Pos} {prs : List (CE × CE)} (h : PPs X pos keys values (prs.map fun p => (liftE X.K p.1, liftE X.K p.2))) (hall : keys.all (·.isSome) = true := by rfl) (hl : keys.length = values.length := by rfl) (h0 : keys ≠ [] := by exact List.cons_ne_nil _ _)
    (h15 : keys.length ≤ 15 := by decide) : PE X (.Dict keys values pos) (liftE X.K (cDisp prs)) := by
  refine PE.imp (pe_disp h hall hl h0 h15) ?_
  rintro σ H Q ⟨s, g, P, rs, rg, p, l⟩ q hq
  have e0 : Ext H (upd H q (.dK [])) := .new hq
  refine pairs_rep prs σ _ s _ _ _ (rs.mono e0) (rg.laid (m := .dic []) hq (show KVr X.K _ [] [] from .nil)) (p q (rg.free hq)) ?_
  rintro ds g2 H2 vs ⟨gq, kvs, rfl, h15', p2⟩ e2 rg2 r2
  obtain ⟨vs0, hv, rk⟩ := rg2.dic gq
  cases rk
  obtain ⟨ks, rfl, rk⟩ := keyed r2
  have e3 : Ext H2 (upd H2 q (.dK (mergeK [] ks))) := .put hv id
  refine ⟨hv, ks, rfl, by rw [rk.len]; exact h15', ?_⟩
  exact l _ _ _ _ p2 ((e0.trans e2).trans e3) (rg2.put (m := .dic _) hv id (show KVr X.K _ _ _ from (merge_rep (vs := []) (ds := []) rk .nil).mono e3)) (.ref q)

/-! ### xs[i] = e -/
def cLPut (o i e : CE) : CS := fun C s g => e s g fun d g1 => o s g1 fun x g2 => i s g2 fun y g3 => ∃ a xs k j, x = .ref a ∧ y = .int k ∧ g3 a = some (.lst xs) ∧ ixN xs.length k = some j ∧ C.nx s (gupd g3 a (.lst (xs.set j d)))
theorem slput {o i e : Expr} {co ci ce : CE} {pos pos' : Pos} (ho : PE X o (liftE X.K co)) (hi : PE X i (liftE X.K ci)) (he : PE X e (liftE X.K ce)) (hs : swapsWithSole [.Subscript o i pos'] e pos.line X.env = pure false := by rfl) (hw : swappedStores [.Subscript o i pos'] e X.env = pure none := by rfl)
    (h1 : (assignEach [.Subscript o i pos'] X.env).map (·.2) = [assign (.Subscript o i pos') X.env] := by rfl)
    (ha : ∀ v, assign (.Subscript o i pos') X.env v = (do
      let ov ← holding [v] (eval o X.env)
      let iv ← holding [v, ov] (eval i X.env)
      standAt pos'
      holding [v, ov, iv] (setItem ov iv v)
      release [v, ov, iv] []) := by intro _; rfl) : PS X (.Assign [.Subscript o i pos'] e pos) (liftS X.K (cLPut co ci ce)) := by
  refine PS.imp (ps_asg he (pg_sub ho hi set_list ha) hs hw h1) ?_
  rintro E σ H ⟨s, g, C, rs, rg, p, l⟩
  refine ⟨s, g, _, rs, rg, p, ?_⟩
  intro d g1 H1 v p1 e1 rg1 r1
  refine ⟨s, g1, _, rs.mono e1, rg1, p1, ?_⟩
  intro x g2 H2 vx p2 e2 rg2 r2
  refine ⟨s, g2, _, rs.mono (e1.trans e2), rg2, p2, ?_⟩
  rintro y g3 H3 vy ⟨a, xs, k, j, rfl, rfl, ga, hj, p3⟩ e3 rg3 r3
  cases r2
  cases r3
  obtain ⟨us, hu, ru⟩ := rg3.lst ga
  have e4 : Ext H3 (upd H3 a (.lst (us.set j v))) := .put hu id
  exact ⟨a, us, k, j, rfl, rfl, hu, by rw [ru.length]; exact hj, l.nx s _ _ σ p3 (((e1.trans e2).trans e3).trans e4) (rg3.put (m := .lst _) hu id (show RepL X.K _ _ _ from RepL.mono e4 (RepL.set (r1.mono (e2.trans e3)) j ru))) (rs.mono (((e1.trans e2).trans e3).trans e4))⟩

/-! ### a tuple of the module -/
theorem kglobT {x : Str} {a : Addr} {its : Array Value} {n : Nat} {ds : List D} {vs : List V} {pos : Pos} (hg : Gl X x) (hm : X.mg x = some (.ref a)) (hk : X.K.lookup a = some { cls := .type "tuple", data := .seq its n }) (hz : its.size ≤ sizeLine) (hv : Vals vs its.toList) (hr : ∀ H, RepL X.K H vs ds) (hd : (x == ("__debug__" : Str)) = false := by decide) :
    PE X (.Name x pos) (liftE X.K (cC (.tup ds))) :=
  PE.imp (pe_glob (v := .ref a) hg hm rfl hd) (kC fun H => .tup (.inr ⟨its, n, hk, hz, hv⟩) (hr H))
end
end CL

/-! CLg: enumerate(tuple), zip, list(d.keys()), x[::-1], two clauses. -/
namespace CL
open PySem PySem.Spec PyProof.Rows L2

/-! ### enumerate(t) -/
def IteT (K : PySem.W.Frag) (a : Addr) : It :=
  ⟨fun i H => ∃ (xs : List V) (x : V), SqT K H a xs ∧ xs[i]? = some x, fun i H v H' => ∃ T x, v = .ref T ∧ H T = none ∧ H' = upd H T (.tup [.int (i : Nat), x]) ∧ ∀ xs, SqT K H a xs → xs[i]? = some x, fun i H => ∃ xs : List V, SqT K H a xs ∧ xs.length = i⟩
theorem tup_ne {h : Heap} {a e : Addr} {its : Array Value} {o : Obj} (p : h.IsTuple a its) (he : h.get? e = some o) (hc : o.cls ≠ .type "tuple") : e ≠ a := fun z => by
  subst z
  obtain ⟨o', e', c', _⟩ := p
  rw [he] at e'
  cases e'
  exact hc c'
theorem turn_enumT {P : Program} {w : World} {K : PySem.W.Frag} {elts : List Expr} {kk : Nat} {tpos : Pos} (a e it : Addr) :
    Turn P w K (.Tuple elts kk tpos) (IteT K a) [e, it] e (fun i h => (∃ old, IsEnum h e it ((i : Nat) : Int) old) ∧ h.IsTupleIter it a i ∧ e ≠ it) where
  mem := by simp
  obj := fun i h st b hb => by
    obtain ⟨⟨old, he⟩, ⟨o, ho, hc, hd⟩, _⟩ := st
    have e' : b = e ∨ b = it := by simpa using hb
    rcases e' with z | z
    · rw [z]; exact ⟨_, he, fun v q => nomatch q⟩
    · rw [z]; exact ⟨o, ho, fun v q => by rw [hd] at q; cases q⟩
  keep := fun i h h' st k => let ⟨⟨old, he⟩, hi, hne⟩ := st; ⟨⟨old, k e (by simp) _ he⟩, hi.at fun o q => k it (by simp) o q, hne⟩
  item := by
    intro X hP hw hK hc i pins s σ H E I hf st hg
    subst hP hw hK
    obtain ⟨⟨old, he⟩, hit, hne⟩ := st
    obtain ⟨xs, x, hq, hx⟩ := hg
    obtain ⟨its, rv, p, hz⟩ := I.tuple hq
    obtain ⟨u, hu, ru⟩ := rv.get hx
    have hel : e < s.heap.objs.size := Heap.lt_size he
    have hil : it < s.heap.objs.size := by obtain ⟨_, q, _⟩ := hit; exact Heap.lt_size q
    have nea : e ≠ a := tup_ne p he (show Value.type "enumerate" ≠ Value.type "tuple" by decide)
    have nia : it ≠ a := by
      obtain ⟨oi, q, qc, _⟩ := id hit
      exact tup_ne p q (by rw [qc]; decide)
    have hlen : i < its.toArray.size := by
      rw [List.size_toArray]
      exact (List.getElem?_eq_some_iff.mp hu).1
    have hhd : X.A.in1.handled = none := by simp [I.ok.hd hc]
    refine wpAny_pyNext_enum_itemD (Draws.tuple hhd it a nia.symm its.toArray) he ⟨hit, p⟩ hlen hne (by simp [hne, nea]) fun x2 h' tk hx2 ho hst' hT hsz hk => ?_
    have hx3 : x2 = u := by
      have q : its.toArray[i]? = some u := by simpa using hu
      rw [q] at hx2
      exact (Option.some.inj hx2).symm
    subst hx3
    refine ⟨_, rfl, wpAny_letOwnedTupleGo_enum (s := { s with heap := h', toks := tk + 1 }) ho fun h'' he' sb => ?_⟩
    have hT2 : h''.get? s.heap.objs.size = some { cls := .type "tuple", data := .seq #[.int i tk, x2] } := (sb.2 _ (Nat.ne_of_gt hel)).trans hT
    have new : ObjOk X.prog X.w (upd H s.heap.objs.size (.tup [.int (i : Nat), x])) h'' s.heap.objs.size (.tup [.int (i : Nat), x]) :=
      ⟨by show 2 ≤ sizeLine; decide, [.int i tk, x2], .cons ⟨_, rfl⟩ (.cons ru .nil), ⟨_, hT2, rfl, _, rfl⟩⟩
    have I1 : Inv X pins σ (upd H s.heap.objs.size (.tup [.int (i : Nat), x])) { s with heap := h'', toks := tk + 1 } :=
      I.turnedNew (ch := [e, it]) (fun b ob hb q => (sb.2 b (fun z => hb (by simp [z]))).trans (hk b ob (fun z => hb (by simp [z])) (fun z => hb (by simp [z])) q)) hf (Nat.le_refl _) new
    refine ⟨.ref s.heap.objs.size, _, I1, rfl, ⟨_, x, rfl, I.hok.fresh (Nat.le_refl _), rfl, fun ys hy => by rw [I.tuple_inj hy hq]; exact hx⟩, ⟨⟨x2, ?_⟩, hst'.1.at fun o q => (sb.2 it (Ne.symm hne)).trans q, hne⟩, fun b hb => ?_⟩
    · have e1 : ((i + 1 : Nat) : Int) = (i : Int) + 1 := by omega
      rw [e1]; exact he'
    · have hb' : b < s.heap.objs.size := by
        have e' : b = e ∨ b = it := by simpa using hb
        rcases e' with z | z
        · rw [z]; exact hel
        · rw [z]; exact hil
      rw [upd_ne (Nat.ne_of_lt hb')]
      exact (hf b hb).1
  done := by
    intro X hP hw hK hc i pins s σ H E I hf st hg
    subst hP hw hK
    obtain ⟨⟨old, he⟩, hit, hne⟩ := st
    obtain ⟨xs, hq, hx⟩ := hg
    obtain ⟨its, rv, p, hz⟩ := I.tuple hq
    obtain ⟨f0, f1, f2, f3, f4, f5⟩ := hf it (by simp)
    have hl := rv.length
    have nia : it ≠ a := by
      obtain ⟨oi, q, qc, _⟩ := id hit
      exact tup_ne p q (by rw [qc]; decide)
    have hhd : X.A.in1.handled = none := by simp [I.ok.hd hc]
    have hn : i = its.toArray.size := by rw [List.size_toArray]; omega
    subst hn
    exact wpAny_pyNext_enum_endD (Draws.tuple hhd it a nia.symm its.toArray) he ⟨hit, p⟩ fun h' eb => ⟨rfl, I.turned (t' := s.toks) (fun b o hb q => eb b o hb q) f0 f1 f3 f4 f5⟩
  self := fun A i s Q E st h => let ⟨⟨_, he⟩, _⟩ := st; wpAny_pyIter_enum he h
theorem meets_enumerate_newT {v : Value} {o : Obj} {H : Heap → Prop} (B : Begins v o H) :
    Meets (Builtin.«enumerate.__new__» ⟨[.type "enumerate", v], []⟩) (fun _ R s => H s.heap ∧
      R (.ok (.ret (.ref (s.heap.push o).objs.size))) { s with heap := (s.heap.push o).push { cls := .type "enumerate", data := .fields #[.none, .bool false, .ref s.heap.objs.size, rawInt 0, .none, .none] } }) :=
  .of_wp fun prog w A R s h => by
    obtain ⟨hp, g, d, tk, os⟩ := s; obtain ⟨h1, h⟩ := h
    have hsub := sub_enumerate
    have q1 : ∀ {A' : Around} {E : Value → Shared → Prop} {Q : Value → Shared → Prop}, Q (.ref hp.objs.size) ⟨hp.push o, g, d, tk, os⟩ → wpAny (model prog w) A' (pyIter v) Q E ⟨hp, g, d, tk, os⟩ :=
      fun q => B.iter prog w _ _ ⟨hp, g, d, tk, os⟩ _ h1 q
    wp_walk using q1
    refine wpAny_stack_any fun st => wpAny_pure ?_
    split
    · rename_i c _ _ _ _ _
      cases (c == Value.type "enumerate")
      · wp_walk using q1
        exact ⟨_, rfl, h⟩
      · wp_walk using q1
        exact ⟨_, rfl, h⟩
    · wp_walk using q1
      exact ⟨_, rfl, h⟩
theorem call_enumT {prog : Program} {w : World} {A : Around} {E : Value → Shared → Prop} {s : Shared} {v : Value} {o : Obj} {H : Heap → Prop} {Q : Value → Shared → Prop} (B : Begins v o H) (h1 : H s.heap)
    (h : ∀ h', IsEnum h' (s.heap.objs.size + 1) s.heap.objs.size 0 .none → h'.get? s.heap.objs.size = some o → h'.objs.size = s.heap.objs.size + 2 →
      (∀ b o, s.heap.get? b = some o → h'.get? b = some o) → Q (.ref (s.heap.objs.size + 1)) { s with heap := h' }) :
    wpAny (model prog w) A (call (.type "enumerate") [v]) Q E s := by
  refine callType_new PySem.F.called_enumerate (by decide) (PySem.F.typeCall_enumerate_1 _) (PySem.F.newCall_enumerate_1 _) (fun obj => PySem.F.args_object_init_2 obj _) PySem.F.entry_enumerate_new
    (meets_enumerate_newT B) ⟨h1, ?_⟩
  have hz : (s.heap.push o).objs.size = s.heap.objs.size + 1 := Heap.size_push ..
  show _ ∧ _
  rw [hz]
  have he : IsEnum ((s.heap.push o).push { cls := .type "enumerate", data := .fields #[.none, .bool false, .ref s.heap.objs.size, rawInt 0, .none, .none] }) (s.heap.objs.size + 1) s.heap.objs.size 0 .none := by
    have := Heap.get?_push_size (s.heap.push o) (o := { cls := .type "enumerate", data := .fields #[.none, .bool false, .ref s.heap.objs.size, rawInt 0, .none, .none] }) rfl
    rw [hz] at this; exact this
  refine ⟨⟨_, he, rfl⟩, h _ he (Heap.get?_push_of_some _ (Heap.get?_push_size _ B.free)) (by rw [Heap.size_push, hz]) fun b o x => Heap.get?_push_of_some _ (Heap.get?_push_of_some _ x)⟩
def iEnumT (K : PySem.W.Frag) (ta : TA) : TI := fun σ H R => ta σ H fun vs H1 => ∃ a xs, vs = [.ref a] ∧ SqT K H1 a xs ∧ R (IteT K a) H1
theorem pi_enumT {X : Cx} {e : Expr} {ta : TA} {p pos tpos : Pos} {elts : List Expr} {kk : Nat} (hg : Gl X "enumerate") (hm : X.mg "enumerate" = none) (ha : PA X [e] ta) (hs : starEach [e] X.env = [(false, eval e X.env)] := by rfl) :
    PI X (.Tuple elts kk tpos) (.Call (.Name "enumerate" p) [e] [] pos) (iEnumT X.K ta) := by
  refine ⟨fun pins s σ H R I h => ?_⟩
  refine Call_ (ld_blt I hg hm boot_enumerate (PyProof.Rows.callWith_type1 (thn (ha.run pos pins s σ H _ I h) fun us s1 ⟨vs, H1, I1, r1, q1⟩ => ?_) hs rfl))
  obtain ⟨a, xs, ex, hq, q⟩ := q1
  subst ex
  cases r1 with
  | cons r rr =>
    cases rr
    cases r
    obtain ⟨its, rv, p', hz⟩ := I1.tuple hq
    refine call_enumT (begins_tuple a its.toArray) p' fun h' he hit hsz hk => wpAny_pyIter_enum he ?_
    have I2 : Inv X pins σ H1 { s1 with heap := h' } := I1.kept (t' := s1.toks) hk
    refine ⟨s1.heap.objs.size + 1, [s1.heap.objs.size + 1, s1.heap.objs.size], _, _, H1, rfl, I2, turn_enumT a (s1.heap.objs.size + 1) s1.heap.objs.size, ⟨⟨.none, he⟩, ⟨_, hit, rfl, rfl⟩, Nat.succ_ne_self _⟩, fun b hb => ?_, q⟩
    have e' : b = s1.heap.objs.size + 1 ∨ b = s1.heap.objs.size := by simpa using hb
    have hle : s1.heap.objs.size ≤ b := by
      rcases e' with z | z
      · rw [z]; exact Nat.le_add_right _ _
      · rw [z]; exact Nat.le_refl _
    exact I1.fpOk hle (I1.hok.fresh hle)
/-- for i, x in enumerate(t) -/
def iEnm (i j : Nat) (e : CE) : CI := fun s g P => e s g fun d g1 => ∃ ds, d = .tup ds ∧ P (onTwo i j (ds.zipIdx.map fun p => (D.int (p.2 : Nat), p.1))) (fun _ => True) g1
theorem rel_enm {K : PySem.W.Frag} {i j : Nat} {e : CE} : RelI K (iEnm i j e) (iEnumT K (tCons (liftE K e) tNil)) (gTwo K i j) := by
  intro σ H s g P R rs rg p q
  refine ⟨s, g, _, rs, rg, p, ?_⟩
  rintro d g1 H1 v ⟨ds, rfl, p1⟩ e1 rg1 r1
  cases r1 with
  | tup tn rl =>
    rename_i a xs
    refine ⟨a, xs, rfl, tn.sq, q _ _ g1 H1 _ p1 e1 rg1 ⟨fun n t H2 g2 e2 rg2 _ ht => ?_, fun H2 g2 e2 rg2 _ => ?_⟩⟩
    · obtain ⟨d, hd, rfl⟩ := onTwo_get ht
      rw [List.getElem?_map, List.getElem?_zipIdx] at hd
      cases ed : ds[n]? with
      | none => rw [ed] at hd; cases hd
      | some dd =>
        rw [ed] at hd
        have hd := (Option.some.inj hd).symm
        subst hd
        obtain ⟨v, hv, rv⟩ := rl.get ed
        have hq : SqT K H2 a xs := (tn.mono e2).sq
        refine ⟨⟨xs, v, hq, hv⟩, ?_⟩
        rintro x H3 ⟨T, y, rfl, hT, rfl, hy⟩ σ2 s2 rs2 Qn k
        have e := hy xs hq
        rw [hv] at e
        cases e
        exact two_does rg2 hT (.int _) (rv.mono e2) rs2 (by simpa using k)
    · refine ⟨xs, (tn.mono e2).sq, ?_⟩
      rw [onTwo_len, List.length_map, List.length_zipIdx, rl.length]

/-! ### zip of two tuples -/
def iZipTT (i j : Nat) (a b : CE) : CI := fun s g P => a s g fun x g1 => b s g1 fun y g2 => ∃ xs ys, x = .tup xs ∧ y = .tup ys ∧ P (onTwo i j (xs.zip ys)) (fun _ => True) g2
theorem zip_get {α β : Type} {xs : List α} {ys : List β} {n : Nat} {p : α × β} (h : (xs.zip ys)[n]? = some p) : xs[n]? = some p.1 ∧ ys[n]? = some p.2 := List.getElem?_zip_eq_some.mp h
theorem rel_zipTT {K : PySem.W.Frag} {i j : Nat} {a b : CE} : RelI K (iZipTT i j a b) (RZ.iZipA K (tCons (liftE K a) (tCons (liftE K b) tNil))) (gTwo K i j) := by
  intro σ H s g P R rs rg p q
  refine ⟨s, g, _, rs, rg, p, ?_⟩
  intro x g1 H1 vx p1 e1 rg1 r1
  refine ⟨s, g1, _, rs.mono e1, rg1, p1, ?_⟩
  rintro y g2 H2 vy ⟨xs, ys, rfl, rfl, p2⟩ e2 rg2 r2
  cases r1 with
  | tup tx lx =>
    cases r2 with
    | tup ty ly =>
      rename_i A xs' B ys'
      refine ⟨A, B, xs', ys', rfl, .inr ⟨(tx.mono e2).sq, ty.sq, q _ _ g2 H2 _ p2 (e1.trans e2) rg2 ⟨fun n t H3 g3 e3 rg3 _ ht => ?_, fun H3 g3 e3 rg3 _ => ?_⟩⟩⟩
      · obtain ⟨d, hd, rfl⟩ := onTwo_get ht
        obtain ⟨h1, h2⟩ := zip_get hd
        obtain ⟨v1, hv1, rv1⟩ := lx.get h1
        obtain ⟨v2, hv2, rv2⟩ := ly.get h2
        have q1 : SqT K H3 A xs' := ((tx.mono e2).mono e3).sq
        have q2 : SqT K H3 B ys' := (ty.mono e3).sq
        refine ⟨⟨xs', ys', v1, v2, q1, q2, hv1, hv2⟩, ?_⟩
        rintro z H4 ⟨T, y1, y2, rfl, hT, rfl, hy1, hy2⟩ σ2 s2 rs2 Qn k
        have ea := hy1 xs' q1
        rw [hv1] at ea
        cases ea
        have eb := hy2 ys' q2
        rw [hv2] at eb
        cases eb
        exact two_does rg3 hT ((rv1.mono e2).mono e3) (rv2.mono e3) rs2 k
      · refine ⟨xs', ys', ((tx.mono e2).mono e3).sq, (ty.mono e3).sq, ?_⟩
        rw [onTwo_len, List.length_zip, lx.length, ly.length]
        omega

/-! ### zip of a tuple and a list -/
def ItzM (K : PySem.W.Frag) (a b : Addr) : It :=
  ⟨fun i H => ∃ (xs ys : List V) (x y : V), SqT K H a xs ∧ SqL K H b ys ∧ xs[i]? = some x ∧ ys[i]? = some y,
    fun i H v H' => ∃ T x y, v = .ref T ∧ H T = none ∧ H' = upd H T (.tup [x, y]) ∧ (∀ xs, SqT K H a xs → xs[i]? = some x) ∧ ∀ ys, SqL K H b ys → ys[i]? = some y,
    fun i H => ∃ xs ys : List V, SqT K H a xs ∧ SqL K H b ys ∧ i ≤ xs.length ∧ i ≤ ys.length ∧ (i = xs.length ∨ i = ys.length)⟩
theorem sep_of {z TI TO i1 i2 a b : Addr} (D : ZipApart z TI TO i1 i2 a b) : ZipSep2 z TI TO i1 i2 [i1, a] [i2, b] where
  TIz := D.TIz
  TOz := D.TOz
  TITO := D.TITO
  TIi1 := D.TIi1
  mem1 := by simp
  zf1 := by simp [D.i1z.symm, D.l1z.symm]
  Tf1 := by simp [D.TOi1, D.l1TO.symm]
  TIi2 := D.TIi2
  mem2 := by simp
  zf2 := by simp [D.i2z.symm, D.l2z.symm]
  Tf2 := by simp [D.TOi2, D.l2TO.symm]
  sep1_2 := by simp [D.i12, D.l2i1.symm]
  sep2_1 := by simp [D.i12.symm, D.l1i2.symm]
theorem turn_zipM {P : Program} {w : World} {K : PySem.W.Frag} {elts : List Expr} {kk : Nat} {tpos : Pos} {a b z TI TO i1 i2 : Addr} (D : ZipApart z TI TO i1 i2 a b) :
    Turn P w K (.Tuple elts kk tpos) (ItzM K a b) [z, TI, TO, i1, i2] z (fun i h => IsZip h z TI TO .none ∧ IsPair h TI (.ref i1) (.ref i2) ∧ (∃ x y, IsPair h TO x y) ∧ h.IsTupleIter i1 a i ∧ h.IsListIter i2 b i) where
  mem := by simp
  obj := fun i h st c hc => by
    obtain ⟨hz, hTI, ⟨x, y, hTO⟩, ⟨o1, e1, _, d1⟩, ⟨o2, e2, _, d2⟩⟩ := st
    have e' : c = z ∨ c = TI ∨ c = TO ∨ c = i1 ∨ c = i2 := by simpa using hc
    rcases e' with q | q | q | q | q
    · rw [q]; exact ⟨_, hz, fun v q => nomatch q⟩
    · rw [q]; exact ⟨_, hTI, fun v q => nomatch q⟩
    · rw [q]; exact ⟨_, hTO, fun v q => nomatch q⟩
    · rw [q]; exact ⟨o1, e1, fun v q => by rw [d1] at q; cases q⟩
    · rw [q]; exact ⟨o2, e2, fun v q => by rw [d2] at q; cases q⟩
  keep := fun i h h' st k => by
    obtain ⟨hz, hTI, ⟨x, y, hTO⟩, h1, h2⟩ := st
    exact ⟨k z (by simp) _ hz, k TI (by simp) _ hTI, ⟨x, y, k TO (by simp) _ hTO⟩, h1.at fun o q => k i1 (by simp) o q, h2.at fun o q => k i2 (by simp) o q⟩
  item := by
    intro X hP hw hK hc i pins s σ H E I hf st hg
    subst hP hw hK
    obtain ⟨hz, hTI, ⟨x0, y0, hTO⟩, h1, h2⟩ := st
    obtain ⟨xs, ys, x, y, hqx, hqy, hx, hy⟩ := hg
    obtain ⟨its, rv, p, _⟩ := I.tuple hqx
    obtain ⟨its2, rv2, p2, _⟩ := I.list hqy
    obtain ⟨u, hu, ru⟩ := rv.get hx
    obtain ⟨u2, hu2, ru2⟩ := rv2.get hy
    have hzl : z < s.heap.objs.size := Heap.lt_size hz
    have hhd : X.A.in1.handled = none := by simp [I.ok.hd hc]
    have hl1 : i < its.toArray.size := by rw [List.size_toArray]; exact (List.getElem?_eq_some_iff.mp hu).1
    have hl2 : i < its2.toArray.size := by rw [List.size_toArray]; exact (List.getElem?_eq_some_iff.mp hu2).1
    refine wpAny_pyNext_zipD2_item (sep_of D) (Draws.tuple hhd i1 a D.l1i1 its.toArray) (Draws.list hhd i2 b D.l2i2 its2.toArray) hz hTI hTO ⟨h1, p⟩ ⟨h2, p2.isList⟩ hl1 hl2 fun v1 v2 h' tk g1 g2 z' TO' st1 st2 hT hsz hk => ?_
    have q1 : v1 = u := by
      have q : its.toArray[i]? = some u := by simpa using hu
      rw [q] at g1
      exact (Option.some.inj g1).symm
    have q2 : v2 = u2 := by
      have q : its2.toArray[i]? = some u2 := by simpa using hu2
      rw [q] at g2
      exact (Option.some.inj g2).symm
    subst q1 q2
    refine ⟨_, rfl, wpAny_letOwnedTupleGo_zip (s := { s with heap := h', toks := tk }) z' fun h'' z'' sb => ?_⟩
    have hT2 : h''.get? s.heap.objs.size = some { cls := .type "tuple", data := .seq #[v1, v2] } := (sb.2 _ (Nat.ne_of_gt hzl)).trans hT
    have new : ObjOk X.prog X.w (upd H s.heap.objs.size (.tup [x, y])) h'' s.heap.objs.size (.tup [x, y]) :=
      ⟨by show 2 ≤ sizeLine; decide, [v1, v2], .cons ru (.cons ru2 .nil), ⟨_, hT2, rfl, _, rfl⟩⟩
    have I1 : Inv X pins σ (upd H s.heap.objs.size (.tup [x, y])) { s with heap := h'', toks := tk } :=
      I.turnedNew (t' := tk) (ch := [z, TI, TO, i1, i2]) (fun c o hb q => (sb.2 c (fun q' => hb (by simp [q']))).trans (hk c o (fun q' => hb (by simp [q'])) (fun q' => hb (by simp [q'])) (fun q' => hb (by simp [q'])) (fun q' => hb (by simp [q'])) q)) hf (Nat.le_refl _) new
    refine ⟨.ref s.heap.objs.size, _, I1, rfl, ⟨_, x, y, rfl, I.hok.fresh (Nat.le_refl _), rfl, fun l hl => by rw [I.tuple_inj hl hqx]; exact hx, fun l hl => by rw [I.list_inj hl hqy]; exact hy⟩, ⟨z'', ?_, ⟨v1, v2, ?_⟩, ?_, ?_⟩, fun c hcm => ?_⟩
    · exact (sb.2 _ D.TIz).trans (hk _ _ D.TIz D.TITO D.TIi1 D.TIi2 hTI)
    · exact (sb.2 _ D.TOz).trans TO'
    · exact st1.1.at fun o q => (sb.2 _ D.i1z).trans q
    · exact st2.1.at fun o q => (sb.2 _ D.i2z).trans q
    · have hlt : c < s.heap.objs.size := by
        have e' : c = z ∨ c = TI ∨ c = TO ∨ c = i1 ∨ c = i2 := by simpa using hcm
        rcases e' with q | q | q | q | q
        · rw [q]; exact hzl
        · rw [q]; exact Heap.lt_size hTI
        · rw [q]; exact Heap.lt_size hTO
        · rw [q]; obtain ⟨_, e1, _⟩ := h1; exact Heap.lt_size e1
        · rw [q]; obtain ⟨_, e2, _⟩ := h2; exact Heap.lt_size e2
      rw [upd_ne (Nat.ne_of_lt hlt)]
      exact (hf c hcm).1
  done := by
    intro X hP hw hK hc i pins s σ H E I hf st hg
    subst hP hw hK
    obtain ⟨hz, hTI, ⟨x0, y0, hTO⟩, h1, h2⟩ := st
    obtain ⟨xs, ys, hqx, hqy, hle1, hle2, hend⟩ := hg
    obtain ⟨its, rv, p, _⟩ := I.tuple hqx
    obtain ⟨its2, rv2, p2, _⟩ := I.list hqy
    have l1 := rv.length
    have l2 := rv2.length
    have hhd : X.A.in1.handled = none := by simp [I.ok.hd hc]
    refine wpAny_pyNext_zipD2_end (sep_of D) (Draws.tuple hhd i1 a D.l1i1 its.toArray) (Draws.list hhd i2 b D.l2i2 its2.toArray) hz hTI hTO ⟨h1, p⟩ ⟨h2, p2.isList⟩ (by rw [List.size_toArray]; omega) (by rw [List.size_toArray]; omega) (by rw [List.size_toArray, List.size_toArray]; omega) fun h' tk hk => ⟨rfl, I.turnedL (t' := tk) (ch := [z, TI, TO, i1, i2]) (fun c o hb q =>
      hk c o (fun q' => hb (by simp [q'])) (fun q' => hb (by simp [q'])) (fun q' => hb (by simp [q'])) (fun q' => hb (by simp [q'])) q) hf⟩
  self := fun A i s Q E st h => wpAny_pyIter_zip st.1 h
def iZipM (K : PySem.W.Frag) (ta : TA) : TI := fun σ H R => ta σ H fun vs H1 => ∃ a b xs ys, vs = [.ref a, .ref b] ∧ SqT K H1 a xs ∧ SqL K H1 b ys ∧ R (ItzM K a b) H1
theorem pi_zipM {X : Cx} {e e2 : Expr} {ta : TA} {p pos tpos : Pos} {elts : List Expr} {kk : Nat} (hg : Gl X "zip") (hm : X.mg "zip" = none) (ha : PA X [e, e2] ta)
    (hs : starEach [e, e2] X.env = (false, eval e X.env) :: starEach [e2] X.env := by rfl) (hpl : (backTo pos (starEach [e2] X.env)).any (·.1) = false := by rfl) :
    PI X (.Tuple elts kk tpos) (.Call (.Name "zip" p) [e, e2] [] pos) (iZipM X.K ta) := by
  refine ⟨fun pins s σ H R I h => ?_⟩
  refine Call_ (ld_blt I hg hm PyProof.Rows.boot_zip (PyProof.Rows.callWith_type1 (thn (ha.run pos pins s σ H _ I h) fun us s1 ⟨vs, H1, I1, r1, q1⟩ => ?_) hs hpl))
  obtain ⟨a, b, xs, ys, ex, hqx, hqy, q⟩ := q1
  subst ex
  cases r1 with
  | cons r rr =>
    cases rr with
    | cons r' rr =>
      cases rr
      cases r
      cases r'
      have fresh5 : ∀ c, c ∈ [s1.heap.objs.size + 4, s1.heap.objs.size + 2, s1.heap.objs.size + 3, s1.heap.objs.size, s1.heap.objs.size + 1] → FpOk X pins H1 c := fun c hcm => by
        have e' : c = s1.heap.objs.size + 4 ∨ c = s1.heap.objs.size + 2 ∨ c = s1.heap.objs.size + 3 ∨ c = s1.heap.objs.size ∨ c = s1.heap.objs.size + 1 := by simpa using hcm
        have hle : s1.heap.objs.size ≤ c := by
          rcases e' with z | z | z | z | z
          · rw [z]; exact Nat.le_add_right _ _
          · rw [z]; exact Nat.le_add_right _ _
          · rw [z]; exact Nat.le_add_right _ _
          · rw [z]; exact Nat.le_refl _
          · rw [z]; exact Nat.le_add_right _ _
        exact I1.fpOk hle (I1.hok.fresh hle)
      obtain ⟨its, rv, p1, _⟩ := I1.tuple hqx
      obtain ⟨its2, rv2, p2, _⟩ := I1.list hqy
      obtain ⟨o1, ho1, _⟩ := id p1
      refine zip_begins2 (begins_tuple a its.toArray) (begins_list b its2.toArray) p1 p2.isList fun h' hz hTI hTO h1 h2 hsz hk => wpAny_pyIter_zip hz ?_
      have I2 : Inv X pins σ H1 { s1 with heap := h' } := I1.kept (t' := s1.toks) hk
      exact ⟨s1.heap.objs.size + 4, [s1.heap.objs.size + 4, s1.heap.objs.size + 2, s1.heap.objs.size + 3, s1.heap.objs.size, s1.heap.objs.size + 1], _, _, H1, rfl, I2, turn_zipM (PySem.W.ktu_apart s1.heap.objs.size a b (Heap.lt_size ho1) p2.lt), ⟨hz, hTI, ⟨_, _, hTO⟩, ⟨_, h1, rfl, rfl⟩, ⟨_, h2, rfl, rfl⟩⟩, fresh5, q⟩
def iZipTL (i j : Nat) (a b : CE) : CI := fun s g P => a s g fun x g1 => b s g1 fun y g2 => ∃ xs B ys, x = .tup xs ∧ y = .ref B ∧ g2 B = some (.lst ys) ∧ P (onTwo i j (xs.zip ys)) (fun g => g B = some (.lst ys)) g2
theorem rel_zipTL {K : PySem.W.Frag} {i j : Nat} {a b : CE} : RelI K (iZipTL i j a b) (iZipM K (tCons (liftE K a) (tCons (liftE K b) tNil))) (gTwo K i j) := by
  intro σ H s g P R rs rg p q
  refine ⟨s, g, _, rs, rg, p, ?_⟩
  intro x g1 H1 vx p1 e1 rg1 r1
  refine ⟨s, g1, _, rs.mono e1, rg1, p1, ?_⟩
  rintro y g2 H2 vy ⟨xs, B, ys, rfl, rfl, gB, p2⟩ e2 rg2 r2
  cases r2
  cases r1 with
  | tup tx lx =>
    rename_i A xs'
    obtain ⟨us0, hu0, _⟩ := rg2.lst gB
    refine ⟨A, B, xs', us0, rfl, (tx.mono e2).sq, .of hu0, q _ _ g2 H2 _ p2 (e1.trans e2) rg2 ⟨fun n t H3 g3 e3 rg3 ch ht => ?_, fun H3 g3 e3 rg3 ch => ?_⟩⟩
    · obtain ⟨d, hd, rfl⟩ := onTwo_get ht
      obtain ⟨h1, h2⟩ := zip_get hd
      obtain ⟨us, hu, ru⟩ := rg3.lst ch
      obtain ⟨v1, hv1, rv1⟩ := lx.get h1
      obtain ⟨v2, hv2, rv2⟩ := ru.get h2
      have q1 : SqT K H3 A xs' := ((tx.mono e2).mono e3).sq
      refine ⟨⟨xs', us, v1, v2, q1, .of hu, hv1, hv2⟩, ?_⟩
      rintro z H4 ⟨T, y1, y2, rfl, hT, rfl, hy1, hy2⟩ σ2 s2 rs2 Qn k
      have ea := hy1 xs' q1
      rw [hv1] at ea
      cases ea
      have eb := hy2 us (.of hu)
      rw [hv2] at eb
      cases eb
      exact two_does rg3 hT ((rv1.mono e2).mono e3) rv2 rs2 k
    · obtain ⟨us, hu, ru⟩ := rg3.lst ch
      have e1' := lx.length
      have e2' := ru.length
      refine ⟨xs', us, ((tx.mono e2).mono e3).sq, .of hu, ?_⟩
      rw [onTwo_len, List.length_zip]
      omega
end CL

/-! CLh: x[::-1], list(d.keys()), two clauses. -/
namespace CL
open PySem PySem.Spec PyProof.Rows L2

/-! ### x[::-1] -/
theorem adjust_rev (n : Nat) : Builtin.Slice.sliceAdjust none none (-1) (n : Int) = ((n : Int) - 1, -1) := by
  unfold Builtin.Slice.sliceAdjust
  have h1 : ((-1 : Int) < 0) := by decide
  simp only [h1, if_true]
theorem places_rev (n : Nat) : Builtin.Slice.slicePlaces ((n : Int) - 1) (-1) (-1) = n := by
  unfold Builtin.Slice.slicePlaces
  have h1 : ¬ ((-1 : Int) > 0) := by decide
  have h2 : (- -1 : Int) = 1 := by decide
  simp only [h1, if_false, h2, Int.ediv_one]
  split <;> omega
theorem pick_rev (xs : Array Value) : ((List.range xs.size).filterMap fun (m : Nat) => xs[(((xs.size : Nat) : Int) - 1 + (m : Int) * (-1)).toNat]?).toArray = xs.toList.reverse.toArray := by
  have h := PySem.W.krv_pick xs
  unfold slicePick at h
  rw [PySem.W.krv_bounds] at h
  have h : ((sliceRange ((xs.size : Int) - 1) (-1) (-1)).filterMap (xs[·]?)).toArray = xs.toList.reverse.toArray := h
  rw [PySem.W.krv_sliceRange, List.filterMap_map] at h
  rw [← h]
  congr 1
  refine congrArg (fun f => List.filterMap f (List.range xs.size)) ?_
  funext m
  have e : (((xs.size : Nat) : Int) - 1 + (m : Int) * (-1)).toNat = xs.size - 1 - m := by omega
  show xs[(((xs.size : Nat) : Int) - 1 + (m : Int) * (-1)).toNat]? = xs[xs.size - 1 - m]?
  rw [e]
section
variable {prog : Program} {w : World} {A : Around} {E : Value → Shared → Prop} {s : Shared}
theorem sliceApplied_rev {sl : Addr} {vl vu vs : Value} {n : Nat} {Q : Int × Int × Nat → Shared → Prop} (hs : s.heap.IsSliceOf sl vl vu vs) (pl : IsPart vl none) (pu : IsPart vu none) (ps : IsPart vs (some (-1)))
    (h : Q ((n : Int) - 1, -1, n) s) : wpAny (model prog w) A (Builtin.Slice.sliceApplied (.ref sl) (pure (n : Int))) Q E s := by
  obtain ⟨os, hos, hcs, hds⟩ := id hs
  unfold Builtin.Slice.sliceApplied Builtin.Slice.sliceFields
  refine wpAny_bind (wpAny_bind (wpAny_field hos hds (x := vl) rfl (wpAny_bind (wpAny_field hos hds (x := vu) rfl (wpAny_bind (wpAny_field hos hds (x := vs) rfl (wpAny_pure ?_)))))))
  refine wpAny_bind (HT.slicePart_ ps ?_)
  show wpAny _ _ (if ((-1 : Int) == 0) = true then _ else _) _ _ s
  rw [if_neg (by decide)]
  refine wpAny_bind (HT.slicePart_ pl (wpAny_bind (HT.slicePart_ pu (wpAny_bind (wpAny_pure ?_)))))
  show wpAny _ _ (match Builtin.Slice.sliceAdjust none none (-1) (n : Int) with | (lo, hi) => pure (lo, (-1 : Int), Builtin.Slice.slicePlaces lo hi (-1))) _ _ s
  rw [adjust_rev n]
  show wpAny _ _ (pure ((n : Int) - 1, (-1 : Int), Builtin.Slice.slicePlaces ((n : Int) - 1) (-1) (-1))) _ _ s
  rw [places_rev]
  exact wpAny_pure h
theorem getItem_tuple_rev {t sl : Addr} {items : Array Value} {vl vu vs : Value} {Q : Value → Shared → Prop} (ht : IsTup s.heap t items) (hs : s.heap.IsSliceOf sl vl vu vs) (pl : IsPart vl none) (pu : IsPart vu none) (ps : IsPart vs (some (-1)))
    (h : Q (.ref s.heap.objs.size) { s with heap := s.heap.push { cls := .type "tuple", data := .seq items.toList.reverse.toArray } })
    (hsz : items.size ≤ sizeLine) : wpAny (model prog w) A (getItem (.ref t) (.ref sl)) Q E s := by
  have htake : sizeOk (.seq items.toList.reverse.toArray) := by
    show items.toList.reverse.toArray.size ≤ sizeLine
    rw [List.size_toArray, List.length_reverse, Array.length_toList]
    exact hsz
  obtain ⟨os, hos, hcs, hds⟩ := id hs
  have hTs : s.TypeIs (.ref sl) "slice" := ⟨os, hos, hcs⟩
  unfold getItem
  try with_reducible refine wpAny_holding ?_
  first | refine wpAny_bind (wpAny_pure ?_) | skip
  refine wpAny_bind (wpAny_sequenceKey ht.typeIs (by decide) ?_)
  refine wpAny_bind (wpAny_callSpecial?_slot (name := Str.ofString "__getitem__") ht.typeIs PyProof.Rows.slot_tuple_getitem
    (wpAny_call_entry PyProof.Rows.slot_tuple_getitem ht.typeIs entry_tuple_getitem ?_ (args_tuple_getitem _ _)))
  show wpAny _ _ (Builtin.Tuple.tupleItemsOf (.ref t) >>= _) _ _ s
  refine wpAny_bind (tupleItemsOf_ ht ?_)
  refine wpAny_bind (wpAny_typeOf hTs ?_)
  rw [if_pos (by decide)]
  refine wpAny_bind (sliceApplied_rev hs pl pu ps ?_)
  have hno : ¬ (((((items.size : Nat) : Int) - 1) == 0 && (-1 : Int) == 1 && items.size == items.size) = true) := by
    intro q
    rw [Bool.and_eq_true, Bool.and_eq_true] at q
    exact absurd q.1.2 (by decide)
  show wpAny _ _ (if ((((items.size : Nat) : Int) - 1) == 0 && (-1 : Int) == 1 && items.size == items.size) = true then _ else _) _ _ s
  rw [if_neg hno, pick_rev]
  first
    | exact wpAny_bind (m := Builtin.Tuple.tupleExact _) (wpAny_newObj_type (wpAny_pure ⟨_, rfl, wpAny_pure h⟩) htake)
    | exact wpAny_bind (m := Builtin.Tuple.tupleExact _) (wpAny_newObj_type (wpAny_bind (wpAny_pure (wpAny_pure ⟨_, rfl, wpAny_pure h⟩))) htake)
    | exact wpAny_bind (wpAny_bind (m := Builtin.Tuple.tupleExact _) (wpAny_newObj_type (wpAny_pure (wpAny_pure ⟨_, rfl, wpAny_pure h⟩)) htake))
    | exact wpAny_bind (wpAny_bind (m := Builtin.Tuple.tupleExact _) (wpAny_newObj_type (wpAny_pure ⟨_, rfl, wpAny_pure h⟩) htake))
end
def tRevT (K : PySem.W.Frag) (te : TE) : TE := fun σ H Q => te σ H fun x H1 => ∃ a xs, x = .ref a ∧ SqT K H1 a xs ∧ ∀ p us, H1 p = none → Q (.ref p) (upd H1 p (.frz (tupO us) (.tup xs.reverse)))
section
variable {X : Cx}
theorem pe_revT {e : Expr} {te : TE} {k : Nat} {p1 p2 p3 pos : Pos} (he : PE X e te) : PE X (.Subscript e (.Slice none none (some (.UnaryOp .USub (.Constant (.int 1) k p1) p2)) p3) pos) (tRevT X.K te) := by
  refine ⟨fun pins s σ H Q I h => ?_⟩
  refine Subscript_ (thn (he.run pins s σ H _ I h) fun v s1 ⟨x, H1, I1, r1, q1⟩ => ?_)
  obtain ⟨a, xs, ex, hx, q⟩ := q1
  subst ex
  cases r1
  have hst : PO X (some (.UnaryOp .USub (.Constant (.int 1) k p1) p2)) (tPart (tUn (rU fun i => .int (-i)) (tC (.int 1)))) := po_some (pe_un un_neg pe_int)
  refine wpAny_Slice (thn (po_none.run pins s1 σ H1 (fun o H2 => o = none ∧ H2 = H1) I1 ⟨rfl, rfl⟩) fun vl s2 ⟨l, H2, I2, pl, el, e2⟩ => ?_)
  subst el e2
  refine thn (po_none.run pins s2 σ H2 (fun o H3 => o = none ∧ H3 = H2) I2 ⟨rfl, rfl⟩) fun vu s3 ⟨u, H3, I3, pu, eu, e3⟩ => ?_
  subst eu e3
  refine thn (hst.run pins s3 σ H3 (fun o H4 => o = some (-1) ∧ H4 = H3) I3 ⟨1, rfl, -1, rfl, rfl, rfl⟩) fun vs s4 ⟨o, H4, I4, ps, eo, e4⟩ => ?_
  subst eo e4
  have I5 : Inv X pins σ H4 { s4 with heap := s4.heap.push { cls := .type "slice", data := .fields #[vl, vu, vs] } } := I4.kept (t' := s4.toks) fun b ob q => Heap.get?_push_of_some _ q
  obtain ⟨its, r, ht, hz⟩ := I5.tuple hx
  have hlen := r.length
  show wpAny (model X.prog X.w) X.A (subscriptTail e (.Slice none none (some (.UnaryOp .USub (.Constant (.int 1) k p1) p2)) p3) (.ref a) (.ref s4.heap.objs.size)) (EP X pins σ Q) X.xe { s4 with heap := s4.heap.push { cls := .type "slice", data := .fields #[vl, vu, vs] } }
  refine tail_any (ops := [.ref a, .ref s4.heap.objs.size]) ht.typeIs (PyProof.Rows.slot_tuple_getitem.lookup) ?_ (by with_unfolding_all rfl)
  refine getItem_tuple_rev ht (Heap.IsSliceOf.new _ vl vu vs) pl pu ps ?_ (by rw [List.size_toArray]; omega)
  exact ⟨.ref _, _, laid_tup I5 r.reverse (by rw [List.length_reverse]; exact hz), rfl, q _ _ (I5.hok.fresh (Nat.le_refl _))⟩
def cRevT (e : CE) : CE := fun s g P => e s g fun d g1 => ∃ xs, d = .tup xs ∧ P (.tup xs.reverse) g1
def cRevL (e : CE) : CE := fun s g P => e s g fun d g1 => ∃ a xs, d = .ref a ∧ g1 a = some (.lst xs) ∧ ∀ p, g1 p = none → P (.ref p) (gupd g1 p (.lst xs.reverse))
theorem krevT {e : Expr} {c : CE} {k : Nat} {p1 p2 p3 pos : Pos} (he : PE X e (liftE X.K c)) : PE X (.Subscript e (.Slice none none (some (.UnaryOp .USub (.Constant (.int 1) k p1) p2)) p3) pos) (liftE X.K (cRevT c)) := by
  refine PE.imp (pe_revT he) ?_
  rintro σ H Q ⟨s, g, P, rs, rg, p, l⟩
  refine ⟨s, g, _, rs, rg, p, ?_⟩
  rintro d g1 H1 v ⟨xs, rfl, p1⟩ e1 rg1 r1
  cases r1 with
  | tup tn rl => exact ⟨_, _, rfl, tn.sq, fun p us hp => new_tup rl.reverse rg1 p1 (l.mono e1) hp⟩
theorem krevL {e : Expr} {c : CE} {k : Nat} {p1 p2 p3 pos : Pos} (he : PE X e (liftE X.K c)) : PE X (.Subscript e (.Slice none none (some (.UnaryOp .USub (.Constant (.int 1) k p1) p2)) p3) pos) (liftE X.K (cRevL c)) := by
  refine PE.imp (pe_revL he) ?_
  rintro σ H Q ⟨s, g, P, rs, rg, p, l⟩
  refine ⟨s, g, _, rs, rg, p, ?_⟩
  rintro d g1 H1 v ⟨a, xs, rfl, ga, p1⟩ e1 rg1 r1
  cases r1
  obtain ⟨us, hu, ru⟩ := rg1.lst ga
  exact ⟨_, us, rfl, .of hu, fun p hp => new_lst ru.reverse rg1 p1 (l.mono e1) hp⟩
end

/-! ### list(d.keys()) -/
def tListKeys (te : TE) : TE := fun σ H Q => te σ H fun x H1 => ∃ d kvs, x = .ref d ∧ H1 d = some (.dK kvs) ∧ ∀ q, H1 q = none → Q (.ref q) (upd H1 q (.lst (kvs.map fun kv => kV kv.1)))
section
variable {X : Cx} {e : Expr} {te : TE} {p apos cpos pos : Pos}
theorem pe_listKeys (hc : X.calm = true) (he : PE X e te) (hg : Gl X "list") (hm : X.mg "list" = none) (hv : bootBuiltins "list" = some (.type "list")) (hbase : attributeBase e "keys" X.env (eval e X.env) = eval e X.env := by rfl) (hline : (apos.endLine == cpos.line) = true := by rfl)
    (hs : starEach [.Call (.Attribute e "keys" apos) [] [] cpos] X.env = (false, eval (.Call (.Attribute e "keys" apos) [] [] cpos) X.env) :: starEach [] X.env := by rfl) :
    PE X (.Call (.Name "list" p) [.Call (.Attribute e "keys" apos) [] [] cpos] [] pos) (tListKeys te) := by
  refine ⟨fun pins s σ H Q I hq => ?_⟩
  refine wpAny_Call_Name_kw (ld_blt I hg hm hv ?_)
  refine PyProof.Rows.callWith_type1 ?_ hs rfl
  rw [hs]
  show wpAny _ _ (spliced ((false, eval (.Call (.Attribute e "keys" apos) [] [] cpos) X.env) :: backTo pos (starEach [] X.env))) _ _ s
  refine Calls.spliced_cons ?_
  refine wpAny_Call_method (T := "dict") (id := "dict.keys") hbase rfl hline F.plainAttrs_dict F.slot_dict_keys F.type_dict_keys (thn (he.run pins s σ H _ I hq) fun u s1 ⟨x, H1, I1, rx, d, kvs, ex, hd, q⟩ => ?_)
  subst ex
  obtain rfl : u = Value.ref d := rx
  obtain ⟨hz, hs0, vs, kv, hdo⟩ := I1.hok d _ hd
  obtain ⟨ep, hat⟩ := hdo.dictAt
  have lk : kvs.length = vs.length := Paired.length kv
  have I2 : Inv X pins σ H1 { s1 with heap := s1.heap.push { cls := .type "dict_keys", data := .fields #[.ref d] } } := I1.kept (t' := s1.toks) fun b ob q => Heap.get?_push_of_some _ q
  refine ⟨hdo.typeIs, hdo.mapOf.noDict, ?_⟩
  show wpAny _ _ (callWith cpos (.builtin "dict.keys") [.ref d] [] []) _ X.xe s1
  refine method_meetsIn F.slot_dict_keys F.entry_dict_keys rfl (PySem.evalArgs_none ⟨rfl, hdo.typeIs, F.args_dict_keys_1 _, _, PySem.W.kdl_meets_keys (mixKind X.prog X.w) d hs0, ⟨vs, hdo⟩, ?_⟩)
  refine Calls.spliced_nil ?_
  refine PySem.W.kdl_call (PySem.W.kdl_keys (knd := mixKind X.prog X.w) (d := d) (kvs := vs) (ep := ep)) (I1.ok.hd hc) ⟨⟨_, Heap.get?_push_size _ rfl, rfl, rfl⟩, hat.push _⟩ (by omega) fun h' tk acc' c' hkeep hS hacc => ?_
  have hf2 : H1 (s1.heap.push { cls := .type "dict_keys", data := .fields #[.ref d] }).objs.size = none := I2.hok.fresh (Nat.le_refl _)
  refine ⟨.ref _, upd H1 (s1.heap.push { cls := .type "dict_keys", data := .fields #[.ref d] }).objs.size (.lst (kvs.map fun kv => kV kv.1)), I2.laid hkeep (Nat.le_refl _) (show ObjOk X.prog X.w _ _ _ (.lst (kvs.map fun kv => kV kv.1)) from ⟨?_, acc'.toList, c', ?_, ?_⟩), rfl, q _ hf2⟩
  · rw [List.length_map]; exact hz
  · have el : acc'.toList.length = acc'.size := by simp
    refine L2.vals_of_at (by rw [List.length_map, el, hacc.1, lk]) fun j x w h1 h2 => ?_
    obtain ⟨k, y, hky, hi⟩ := hacc.2 j w (by rw [← Array.getElem?_toList]; exact h2)
    have e1 : (kvs.map (·.1))[j]? = some k := by
      rw [KV.keys kv, List.getElem?_map, hky] <;> rfl
    have e2 : (kvs.map fun kv => kV kv.1)[j]? = some (kV k) := by
      have e3 : (kvs.map fun kv => kV kv.1) = (kvs.map (·.1)).map kV := by rw [List.map_map] <;> rfl
      rw [e3, List.getElem?_map, e1] <;> rfl
    rw [e2] at h1
    cases h1
    exact keyIs_rel (show keyIs k w = true from hi)
  · rw [Array.toArray_toList]
    exact hS
def cLstKeys (e : CE) : CE := fun s g P => e s g fun d g1 => ∃ a kvs, d = .ref a ∧ g1 a = some (.dic kvs) ∧ ∀ p, g1 p = none → P (.ref p) (gupd g1 p (.lst (kvs.map fun kv => kD kv.1)))
theorem keysL_rep {K : PySem.W.Frag} {H : Hp} : ∀ {vs : List (Key × V)} {ds : List (Key × D)}, KVr K H vs ds → RepL K H (vs.map fun kv => kV kv.1) (ds.map fun kv => kD kv.1)
  | _, _, .nil => .nil
  | (a, v) :: vs, (b, d) :: ds, .cons r t => by
    have h1 : a = b := r.1
    subst h1
    exact .cons (rep_key _) (keysL_rep t)
theorem klistKeys {c : CE} (hc : X.calm = true) (he : PE X e (liftE X.K c)) (hg : Gl X "list") (hm : X.mg "list" = none) (hbase : attributeBase e "keys" X.env (eval e X.env) = eval e X.env := by rfl) (hline : (apos.endLine == cpos.line) = true := by rfl)
    (hs : starEach [.Call (.Attribute e "keys" apos) [] [] cpos] X.env = (false, eval (.Call (.Attribute e "keys" apos) [] [] cpos) X.env) :: starEach [] X.env := by rfl) :
    PE X (.Call (.Name "list" p) [.Call (.Attribute e "keys" apos) [] [] cpos] [] pos) (liftE X.K (cLstKeys c)) := by
  refine PE.imp (pe_listKeys hc he hg hm (by decide +kernel) hbase hline hs) ?_
  rintro σ H Q ⟨s, g, P, rs, rg, p, l⟩
  refine ⟨s, g, _, rs, rg, p, ?_⟩
  rintro d g1 H1 v ⟨a, kvs, rfl, ga, p1⟩ e1 rg1 r1
  cases r1
  obtain ⟨us, hu, ru⟩ := rg1.dic ga
  exact ⟨a, us, rfl, hu, fun q hq => new_lst (keysL_rep ru) rg1 p1 (l.mono e1) hq⟩
end

/-! ### [e for x in A for y in B] -/
def lcIn (t : CT) (e : CE) (l : Addr) (s : CSt) (chk : GH → Prop) (Kk : List D → GH → Prop) : List TgF → List D → GH → Prop
  | [], acc, g => chk g ∧ Kk acc g
  | f :: fs, acc, g => chk g ∧ t (f s) g fun k g1 => if k = true then e (f s) g1 fun d g2 => g2 l = some (.lst acc) ∧ lim acc.length ∧ lcIn t e l s chk Kk fs (acc ++ [d]) (gupd g2 l (.lst (acc ++ [d]))) else lcIn t e l s chk Kk fs acc g1
def lcOut (t : CT) (src1 : CI) (vs1 : List Nat) (t1 : CT) (e : CE) (l : Addr) (s : CSt) (chk : GH → Prop) (P : GH → Prop) : List TgF → List D → GH → Prop
  | [], _, g => chk g ∧ P g
  | f :: fs, acc, g => chk g ∧ t (f s) g fun k g1 => if k = true then src1 (f s) g1 fun tgs1 chk1 g2 => lcIn t1 e l (cwipe (f s) vs1) chk1 (fun acc' g' => lcOut t src1 vs1 t1 e l s chk P fs acc' g') tgs1 acc g2 else lcOut t src1 vs1 t1 e l s chk P fs acc g1
def cLc2 (src : CI) (vs : List Nat) (t : CT) (src1 : CI) (vs1 : List Nat) (t1 : CT) (e : CE) : CE := fun s g P => src s g fun tgs chk g1 => ∀ l, g1 l = none → lcOut t src1 vs1 t1 e l (cwipe s vs) chk (P (.ref l)) tgs [] (gupd g1 l (.lst []))
section
variable {K : PySem.W.Frag}
theorem lift_lc2 {c c1 : CI} {wi wi1 : TI} {gt gt1 : TG} {t t1 : CT} {e : CE} {vs vs1 : List Nat} (hr : RelI K c wi gt) (ho : Own vs gt) (hr1 : RelI K c1 wi1 gt1) (ho1 : Own vs1 gt1) : ∀ σ H Q, liftE K (cLc2 c vs t c1 vs1 t1 e) σ H Q → tLc2 wi gt (liftT K t) wi1 gt1 (liftT K t1) (liftE K e) vs vs1 σ H Q := by
  rintro σ H Q ⟨s, g, P, rs, rg, p, l⟩
  refine hr σ H s g _ _ rs rg p ?_
  intro tgs chk g1 H1 J p1 e1 rg1 w
  intro Dl hD
  have pl := p1 Dl (rg1.free hD)
  refine ⟨fun i m H' => m + i = tgs.length ∧ ∃ acc g', Ext H1 H' ∧ RG K H' g' ∧ lcOut t c1 vs1 t1 e Dl (cwipe s vs) chk (P (.ref Dl)) (tgs.drop i) acc g', ⟨tgs.length, rfl, [], _, .new hD, rg1.laid (m := .lst []) hD (show RepL K _ [] [] from .nil), pl⟩, ?_⟩
  rintro i m H' ⟨hm, acc, g', e', rg', p'⟩
  cases hd : tgs.drop i with
  | nil =>
    rw [hd] at p'
    have hi : i = tgs.length := by
      have := congrArg List.length hd
      rw [List.length_drop] at this
      simp at this
      omega
    refine .inl ⟨?_, l _ g' H' _ p'.2 (e1.trans e') rg' (.ref Dl)⟩
    rw [hi]
    exact w.stop H' g' e' rg' p'.1
  | cons f fs =>
    rw [hd] at p'
    have hlt : i < tgs.length := by
      have := congrArg List.length hd
      rw [List.length_drop] at this
      simp at this
      omega
    have ht : tgs[i]? = some f := by
      have := congrArg List.head? hd
      rw [List.head?_drop] at this
      simpa using this
    have hts : tgs.drop (i + 1) = fs := by
      have := congrArg List.tail hd
      rw [List.tail_drop] at this
      simpa using this
    obtain ⟨hgo, hy⟩ := w.go i f H' g' e' rg' p'.1 ht
    refine .inr ⟨hgo, fun H2 => ∃ m', m' < m ∧ m' + (i + 1) = tgs.length ∧ ∃ acc g2, Ext H1 H2 ∧ RG K H2 g2 ∧ lcOut t c1 vs1 t1 e Dl (cwipe s vs) chk (P (.ref Dl)) (tgs.drop (i + 1)) acc g2, fun H2 q => q, ?_⟩
    intro x H2 y
    refine ho x σ H2 _ (hy x H2 y _ _ ((rs.mono (e1.trans e')).wipe vs) _ ?_)
    intro σ2 H3 e3 s3 rg3 rs3
    refine ⟨f (cwipe s vs), g', _, rs3, rg3, p'.2, ?_⟩
    intro k g4 H4 p4 e4 rg4
    cases k with
    | true =>
      refine hr1 σ2 H4 (f (cwipe s vs)) g4 _ _ (rs3.mono e4) rg4 p4 ?_
      intro tgs1 chk1 g5 H5 J1 p5 e5 rg5 w1
      refine ⟨fun j k H6 => k + j = tgs1.length ∧ ∃ acc g6, Ext H5 H6 ∧ RG K H6 g6 ∧ lcIn t1 e Dl (cwipe (f (cwipe s vs)) vs1) chk1 (fun acc' g' => lcOut t c1 vs1 t1 e Dl (cwipe s vs) chk (P (.ref Dl)) fs acc' g') (tgs1.drop j) acc g6, ⟨tgs1.length, rfl, acc, g5, .refl _, rg5, p5⟩, ?_⟩
      rintro j k H6 ⟨hk, acc6, g6, e6, rg6, p6⟩
      cases hd1 : tgs1.drop j with
      | nil =>
        rw [hd1] at p6
        have hj : j = tgs1.length := by
          have := congrArg List.length hd1
          rw [List.length_drop] at this
          simp at this
          omega
        refine .inl ⟨?_, m - 1, by omega, by omega, acc6, g6, (((e'.trans e3).trans e4).trans e5).trans e6, rg6, by rw [hts]; exact p6.2⟩
        rw [hj]
        exact w1.stop H6 g6 e6 rg6 p6.1
      | cons f1 fs1 =>
        rw [hd1] at p6
        have hlt1 : j < tgs1.length := by
          have := congrArg List.length hd1
          rw [List.length_drop] at this
          simp at this
          omega
        have ht1 : tgs1[j]? = some f1 := by
          have := congrArg List.head? hd1
          rw [List.head?_drop] at this
          simpa using this
        have hts1 : tgs1.drop (j + 1) = fs1 := by
          have := congrArg List.tail hd1
          rw [List.tail_drop] at this
          simpa using this
        obtain ⟨hgo1, hy1⟩ := w1.go j f1 H6 g6 e6 rg6 p6.1 ht1
        refine .inr ⟨hgo1, fun H7 => ∃ k', k' < k ∧ k' + (j + 1) = tgs1.length ∧ ∃ acc g7, Ext H5 H7 ∧ RG K H7 g7 ∧ lcIn t1 e Dl (cwipe (f (cwipe s vs)) vs1) chk1 (fun acc' g' => lcOut t c1 vs1 t1 e Dl (cwipe s vs) chk (P (.ref Dl)) fs acc' g') (tgs1.drop (j + 1)) acc g7, fun H7 q => q, ?_⟩
        intro x1 H7 y1
        refine ho1 x1 σ2 H7 _ (hy1 x1 H7 y1 _ _ ((((rs3.mono e4).mono e5).mono e6).wipe vs1) _ ?_)
        intro σ7 H8 e8 s8 rg8 rs8
        refine ⟨f1 (cwipe (f (cwipe s vs)) vs1), g6, _, rs8, rg8, p6.2, ?_⟩
        intro kk g9 H9 p9 e9 rg9
        cases kk with
        | true =>
          refine ⟨f1 (cwipe (f (cwipe s vs)) vs1), g9, _, rs8.mono e9, rg9, p9, ?_⟩
          rintro d ga Ha v ⟨gaD, hz, pa⟩ ea rga ra
          obtain ⟨xs, hx, rx⟩ := rga.lst gaD
          refine ⟨xs, hx, by rw [rx.length]; exact hz.lt, ?_⟩
          have eb : Ext Ha (upd Ha Dl (.lst (xs ++ [v]))) := .put hx id
          refine ⟨k - 1, by omega, by omega, acc6 ++ [d], _, ((((e6.trans e8).trans e9).trans ea).trans eb), rga.put (m := .lst (acc6 ++ [d])) hx id (show RepL K _ (xs ++ [v]) (acc6 ++ [d]) from (RepL.mono eb rx).snoc (ra.mono eb)), ?_⟩
          rw [hts1]
          exact pa
        | false =>
          refine ⟨k - 1, by omega, by omega, acc6, g9, (e6.trans e8).trans e9, rg9, ?_⟩
          rw [hts1]
          exact p9
    | false =>
      refine ⟨m - 1, by omega, by omega, acc, g4, (e'.trans e3).trans e4, rg4, ?_⟩
      rw [hts]
      exact p4
end
section
variable {X : Cx}
theorem klc2 {elt tg iter tg1 iter1 : Expr} {ifs ifs1 : List Expr} {scope : Scope} {own : List (Str × Nat)} {vs1 : List Nat} {pos : Pos} {wi wi1 : TI} {gt gt1 : TG} {c c1 : CI} {t t1 : CT} {e : CE} (hc : X.calm = true) (hN : X.N.Nodup) (hi : PI X tg iter wi) (hr : RelI X.K c wi gt) (ho : Own (own.map (·.2)) gt) (hr1 : RelI X.K c1 wi1 gt1) (ho1 : Own vs1 gt1)
    (ok : BlkOk X.N X.env.scope scope own) (hv : ∀ i ∈ vs1, i ∈ own.map (·.2))
    (hg : ∀ (s : Shared) (H : Hp) (C : Addr) (cl : List (Str × Addr)) (fp : List Addr), PG (X.blk s H scope (compEnvC scope cl C X.env) fp) tg gt) (ht : ∀ (s : Shared) (H : Hp) (C : Addr) (cl : List (Str × Addr)) (fp : List Addr), PTs (X.blk s H scope (compEnvC scope cl C X.env) fp) ifs (liftT X.K t))
    (hi1 : ∀ (s : Shared) (H : Hp) (C : Addr) (cl : List (Str × Addr)) (fp : List Addr), PI (X.blk s H scope (compEnvC scope cl C X.env) fp) tg1 iter1 wi1)
    (hg1 : ∀ (s : Shared) (H : Hp) (C : Addr) (cl : List (Str × Addr)) (fp : List Addr), PG (X.blk s H scope (compEnvC scope cl C X.env) fp) tg1 gt1) (ht1 : ∀ (s : Shared) (H : Hp) (C : Addr) (cl : List (Str × Addr)) (fp : List Addr), PTs (X.blk s H scope (compEnvC scope cl C X.env) fp) ifs1 (liftT X.K t1))
    (he : ∀ (s : Shared) (H : Hp) (C : Addr) (cl : List (Str × Addr)) (fp : List Addr), PE (X.blk s H scope (compEnvC scope cl C X.env) fp) elt (liftE X.K e)) (hs : ∀ x, foldedSetIterable iter X.env x = pure x := by intro _; rfl) (hs1 : ∀ env x, foldedSetIterable iter1 env x = pure x := by intro _ _; rfl) :
    PE X (.ListComp elt [⟨tg, iter, ifs, 0⟩, ⟨tg1, iter1, ifs1, 0⟩] scope pos) (liftE X.K (cLc2 c (own.map (·.2)) t c1 vs1 t1 e)) :=
  PE.imp (pe_lc2 hc hN hi ok hv hg ht hi1 hg1 ht1 he hs hs1) fun σ H Q q => lift_lc2 hr ho hr1 ho1 σ H Q q
end
end CL

/-! CLi: sorted(set(xs)), xs strs. Sets of strs as HandS.Set and HandS.SetFor treat sets of ints. -/
namespace CL
open PySem PySem.Spec PyProof.Rows L2

/-! ### what a set of strs is -/
def keyS (e : Int × Value) : Str := match e.2 with | .str k _ => k | _ => Str.empty
def GoodS (w : World) (e : Int × Value) : Prop := ∃ k tk, e.2 = Value.str k tk ∧ e.1 = hashStr w k

/-- the set of ints at a: S its members, n their number; its table rises and can be walked -/
def SetS (w : World) (h : Heap) (a : Addr) (S : Str → Bool) (n : Nat) : Prop :=
  ∃ o es ep t, h.get? a = some o ∧ o.ExactSet ∧ o.data = .set es ep t ∧ (∀ e ∈ es.toList, GoodS w e) ∧ (es.toList.map keyS).Nodup ∧ (∀ k, S k = true ↔ k ∈ es.toList.map keyS) ∧
    es.size < scanBound ∧ t.fits es.size = true ∧ es.size = n ∧ Ris t.place.toList ∧ (w.params.followText "set-order" = true ∨ t.led = true)

section
variable {P : Program} {w : World} {h h' : Heap} {a : Addr} {S : Str → Bool} {n : Nat}

theorem SetS.at (R : SetS w h a S n) (k : ∀ o, h.get? a = some o → h'.get? a = some o) : SetS w h' a S n := by
  obtain ⟨o, es, ep, t, ho, r⟩ := R
  exact ⟨o, es, ep, t, k o ho, r⟩
theorem SetS.lt (R : SetS w h a S n) : a < h.objs.size := by
  obtain ⟨o, es, ep, t, ho, r⟩ := R
  exact Heap.lt_size ho
theorem SetS.congr {S' : Str → Bool} (R : SetS w h a S n) (e : ∀ k, S' k = S k) : SetS w h a S' n := by
  have q : S' = S := funext e
  rw [q]; exact R
theorem goods_elems {l : List (Int × Value)} (g : ∀ e ∈ l, GoodS w e) : ElemsOf (PySem.strKind P w) l := fun e he => by
  obtain ⟨k, tk, h1, h2⟩ := g e he
  exact ⟨⟨k, by rw [h1]; exact PySem.strKind_is P w k tk, h2⟩, by rw [h1] <;> rfl⟩
theorem goods_is {e : Int × Value} (g : GoodS w e) (k : Str) : (PySem.strKind P w).is k e.2 = true ↔ keyS e = k := by
  obtain ⟨k0, tk, h1, _⟩ := g
  unfold keyS
  rw [h1]
  show ((k0 == k) = true) ↔ k0 = k
  exact beq_iff_eq
theorem goods_mem {l : List (Int × Value)} (g : ∀ e ∈ l, GoodS w e) (k : Str) : k ∈ l.map keyS ↔ ∃ e ∈ l, (PySem.strKind P w).is k e.2 = true := by
  rw [List.mem_map]
  constructor
  · rintro ⟨e, he, q⟩
    exact ⟨e, he, (goods_is (g e he) k).2 q⟩
  · rintro ⟨e, he, q⟩
    exact ⟨e, he, (goods_is (g e he) k).1 q⟩
theorem SetS.setOf (R : SetS w h a S n) : h.SetOf (PySem.strKind P w) a S n := by
  obtain ⟨o, es, ep, t, ho, hx, hd, g, nd, hm, hb, hf, hn, _⟩ := R
  exact ⟨o, es, ep, t, ho, hx, hd, goods_elems g, fun k => (hm k).trans (goods_mem g k), hb, hf, hn⟩
end

section
variable {P : Program} {w : World} {A : Around} {E : Value → Shared → Prop} {s : Shared} {a : Addr} {S : Str → Bool} {n : Nat}

/-! ### add -/
theorem store_at {h : Heap} {a : Addr} {o : Obj} {es es' : Array (Int × Value)} {ep : Nat} {t t' : SetTable} (ho : h.get? a = some o) (hd : o.data = .set es ep t) :
    (h.update a (Obj.putSet es' t')).get? a = some { o with data := .set es' (ep + 1) t' } := by
  have q := Heap.get?_update_self (Obj.putSet es' t') ho (by rw [putSet_of es' t' hd]; rfl)
  rw [putSet_of es' t' hd] at q
  exact q

theorem setS_add_tail {g : Bool → Sem Unit} (hg : ∀ (b : Bool) (s₁ : Shared) (Q' : Unit → Shared → Prop), Q' () s₁ → wpAny (model P w) A (g b) Q' E s₁)
    {o : Obj} {es : Array (Int × Value)} {ep : Nat} {t : SetTable} (ho : s.heap.get? a = some o) (hex : o.ExactSet) (hd : o.data = .set es ep t)
    {es1 : Array (Int × Value)} {t2 : SetTable} {S' : Str → Bool} (g1 : ∀ e ∈ es1.toList, GoodS w e) (nd1 : (es1.toList.map keyS).Nodup) (m1 : ∀ k, S' k = true ↔ k ∈ es1.toList.map keyS)
    (hb1 : es1.size < scanBound) (hf2 : t2.fits es1.size = true) (hr : Ris t2.place.toList) (hl : w.params.followText "set-order" = true ∨ t2.led = true) {wasDummy : Bool} {R : Option Bool → Shared → Prop}
    (hR : ∀ h', Heap.SameBut a s.heap h' → SetS w h' a S' es1.size → R (some true) { s with heap := h' }) :
    wpAny (model P w) A (do
        storeSet a es1 t2
        if (!wasDummy && t2.tooFull) = true then do
            g (relayAll t2 es1 (SetTable.grown es1.size)).2.2
            storeSet a (relayAll t2 es1 (SetTable.grown es1.size)).1 (relayAll t2 es1 (SetTable.grown es1.size)).2.1
            pure (some true)
          else pure (some true)) R E s := by
  refine wpAny_bind (wpAny_storeSet_of ho hd ?_ (fits_of_scanBound hb1))
  have ho1 := store_at (es' := es1) (t' := t2) ho hd
  have sb1 := Heap.SameBut.update s.heap a (Obj.putSet es1 t2)
  split
  · have pm := relayAll_perm t2 es1 (SetTable.grown es1.size)
    have hf3 := relayAll_fits t2 es1 (SetTable.grown es1.size)
    have hr3 := relayAll_ris t2 es1 (SetTable.grown es1.size)
    have hl3 := relayAll_led t2 es1 (SetTable.grown es1.size)
    generalize relayAll t2 es1 (SetTable.grown es1.size) = Z at pm hf3 hr3 hl3 ⊢
    obtain ⟨es2, t3, gave⟩ := Z
    dsimp only at pm hf3 hr3 hl3 ⊢
    have hsz : es2.size = es1.size := by rw [← Array.length_toList, pm.length_eq, Array.length_toList]
    have hb2 : es2.size < scanBound := by rw [hsz]; exact hb1
    refine wpAny_bind (hg _ _ _ ?_)
    refine wpAny_bind (wpAny_storeSet_of ho1 rfl ?_ (fits_of_scanBound hb2))
    have ho2 := store_at (es' := es2) (t' := t3) ho1 rfl
    refine wpAny_pure (hR _ (sb1.trans (Heap.SameBut.update _ a _)) ?_)
    exact ⟨_, es2, _, t3, ho2, hex, rfl, fun e he => g1 e (pm.mem_iff.mp he), (pm.map keyS).nodup_iff.mpr nd1, fun k => (m1 k).trans (pm.map keyS).mem_iff.symm, hb2, hf3, hsz, hr3,
      hl.imp id fun z => by rw [hl3]; exact z⟩
  · exact wpAny_pure (hR _ sb1 ⟨_, es1, _, t2, ho1, hex, rfl, g1, nd1, m1, hb1, hf2, rfl, hr, hl⟩)

theorem setS_add_hashed {k : Str} {tk : Tok} {Q : Bool → Shared → Prop} (R : SetS w s.heap a S n) (room : n + 1 < scanBound)
    (hQ : ∀ h', Heap.SameBut a s.heap h' → SetS w h' a (fun j => S j || decide (j = k)) (if S k = true then n else n + 1) → Q (!S k) { s with heap := h' }) :
    wpAny (model P w) A (setAddHashed a (.str k tk) ((PySem.strKind P w).hash k)) Q E s := by
  obtain ⟨o, es, ep, t, ho, hex, hd, g, nd, hm, hb, hf, hn, hr, hl⟩ := R
  have hkey : (PySem.strKind P w).is k (.str k tk) = true := PySem.strKind_is P w k tk
  have hsc : (Value.str k tk).scannable = true := rfl
  have hel : ElemsOf (PySem.strKind P w) es.toList := goods_elems g
  unfold setAddHashed setAddHashedIn
  refine wpAny_holding (wpAny_bind (wpAny_setState_of ho hd hf ?_))
  dsimp only
  rw [byScan_of hsc hb hel]
  simp only [↓reduceIte]
  unfold setAddByScan
  refine wpAny_bind ?_
  refine wpAny_bind (wpAny_rule ?_)
  refine wpAny_bind (wpAny_setScan_of hkey ho hd hf hel ?_)
  cases hfi : List.findIdx? (fun e => (PySem.strKind P w).is k e.2) es.toList with
  | some j =>
    dsimp only
    obtain ⟨hj, pj, _⟩ := List.findIdx?_eq_some_iff_getElem.mp hfi
    have hSk : S k = true := (hm k).2 ((goods_mem (P := P) (w := w) g k).2 ⟨es.toList[j], List.getElem_mem hj, pj⟩)
    refine wpAny_pure (wpAny_pure ?_)
    have q := hQ s.heap (Heap.SameBut.refl a s.heap) ⟨o, es, ep, t, ho, hex, hd, g, nd, fun i => by
      rw [Bool.or_eq_true, decide_eq_true_eq, ← hm i]
      exact ⟨fun z => z.elim id (fun e => e ▸ hSk), .inl⟩, hb, hf, by rw [if_pos hSk]; exact hn, hr, hl⟩
    rw [hSk] at q
    exact q
  | none =>
    dsimp only
    have hnk : k ∉ es.toList.map keyS := fun z => by
      obtain ⟨e, he, q⟩ := (goods_mem (P := P) (w := w) g k).1 z
      have c := List.findIdx?_eq_none_iff.mp hfi e he
      rw [q] at c
      cases c
    have hSk : S k = false := by
      cases q : S k with
      | false => rfl
      | true => exact absurd ((hm k).1 q) hnk
    have hgw : ∀ (b : Bool) {s₁ : Shared} {Q' : Unit → Shared → Prop}, Q' () s₁ → wpAny (model P w) A (match b with | true => rule "set.scan.the-table-gave-way" | false => pure ()) Q' E s₁ :=
      fun b s₁ Q' q => by cases b <;> first | exact wpAny_pure q | exact wpAny_rule q
    have pm := layNew_perm t es ((PySem.strKind P w).hash k) (.str k tk)
    have hf1 := layNew_fits t es ((PySem.strKind P w).hash k) (.str k tk)
    have hr1 := layNew_ris t es ((PySem.strKind P w).hash k) (.str k tk) hr
    have hl1 := layNew_led t es ((PySem.strKind P w).hash k) (.str k tk)
    generalize layNew t es ((PySem.strKind P w).hash k) (.str k tk) = Z at pm hf1 hr1 hl1 ⊢
    obtain ⟨es1, t1, wasDummy, gave⟩ := Z
    dsimp only at pm hf1 hr1 hl1 ⊢
    rw [Array.toList_push] at pm
    have pc : es1.toList.Perm (((PySem.strKind P w).hash k, Value.str k tk) :: es.toList) := pm.trans (List.perm_append_singleton _ _)
    have pk : (es1.toList.map keyS).Perm (k :: es.toList.map keyS) := pc.map keyS
    have g1 : ∀ e ∈ es1.toList, GoodS w e := fun e he => by
      rcases List.mem_cons.mp (pc.mem_iff.mp he) with z | z
      · rw [z]; exact ⟨k, tk, rfl, rfl⟩
      · exact g e z
    have nd1 : (es1.toList.map keyS).Nodup := pk.nodup_iff.mpr (List.nodup_cons.mpr ⟨hnk, nd⟩)
    have m1 : ∀ i, (S i || decide (i = k)) = true ↔ i ∈ es1.toList.map keyS := fun i => by
      rw [Bool.or_eq_true, decide_eq_true_eq, hm i, pk.mem_iff, List.mem_cons]
      exact Or.comm
    have hsz : es1.size = n + 1 := by rw [← Array.length_toList, pc.length_eq, List.length_cons, Array.length_toList, hn]
    have hb1 : es1.size < scanBound := by rw [hsz]; exact room
    have hled : w.params.followText "set-order" = true ∨ t1.led = true := hl.imp id fun z => by rw [hl1]; exact z
    have fin : ∀ h', Heap.SameBut a s.heap h' → SetS w h' a (fun j => S j || decide (j = k)) es1.size → Q true { s with heap := h' } := fun h' sb r => by
      have q := hQ h' sb
      rw [hSk] at q
      rw [hsz] at r
      exact q r
    refine wpAny_bind (hgw _ ?_)
    split
    · refine wpAny_bind ?_
      rw [hashByValue_scannable 8 hsc]
      refine wpAny_pure ?_
      refine setS_add_tail ?_ ho hex hd g1 nd1 m1 hb1 ?_ ?_ ?_ ?_
      · intro b s₁ Q' q; cases b <;> first | exact wpAny_pure q | exact wpAny_rule q
      · first | (split <;> first | exact hf1 | exact SetTable.fits_plain_off hf1) | exact hf1
      · first | (split <;> exact hr1) | exact hr1
      · first | (split <;> exact hled) | exact hled
      · intro h' sb r; dsimp only; exact wpAny_pure (fin h' sb r)
    · refine wpAny_bind (wpAny_pure ?_)
      simp only [↓reduceIte]
      refine setS_add_tail ?_ ho hex hd g1 nd1 m1 hb1 hf1 hr1 hled ?_
      · intro b s₁ Q' q; cases b <;> first | exact wpAny_pure q | exact wpAny_rule q
      · intro h' sb r; dsimp only; exact wpAny_pure (fin h' sb r)
end

/-! ### set(t) of strs -/
theorem setS_new_at {w : World} {h : Heap} {a : Addr} {ns : List Str} (ho : h.get? a = some { cls := .type "set", dict := none, data := .set #[] 0 (.fresh 0 0 (!w.params.followText "set-order")) }) : SetS w h a (fun j => decide (j ∈ ns.take 0)) 0 :=
  ⟨_, #[], 0, _, ho, ⟨rfl, rfl, rfl⟩, rfl, (fun e he => by simp at he), (by simp), (fun k => by simp), (by decide), (by rfl), rfl, List.Pairwise.nil, by
    show _ ∨ (!w.params.followText "set-order") = true
    cases w.params.followText "set-order"
    · exact .inr rfl
    · exact .inl rfl⟩
section
variable {P : Program} {w : World} {A : Around} {E : Value → Shared → Prop} {s : Shared}
theorem set_update_strs {I : Addr} {fp wr : List Addr} {G : Array GenState → Array GenState → Prop} {n : Nat} {Pv : Nat → Value → Prop} {St : Nat → Shared → Prop} {R : Result → Shared → Prop}
    (W : WalksS P w A.in1 I fp wr G n Pv St) (S : Addr) (hSf : S ∉ fp) (ns : List Str) (hn : n = ns.length) (hb : ns.length + 1 < scanBound) (hval : ∀ i v, Pv i v → ∃ k t, ns[i]? = some k ∧ v = .str k t) :
    ∀ (k i : Nat) (s : Shared), n - i = k → i ≤ n → St i s → (∃ c, c ≤ i ∧ SetS w s.heap S (fun j => decide (j ∈ ns.take i)) c) →
      (∀ s' c, Moved (S :: wr) G s s' → c ≤ n → SetS w s'.heap S (fun j => decide (j ∈ ns)) c → R (.ok (.ret .none)) s') →
      codeAny (model P w) A (.builtin "set.update.loop" ⟨[.ref S, .ref I], []⟩) R s := by
  have hSw : S ∉ wr := fun h => hSf (W.sub _ h)
  have hsub : ∀ b ∈ wr, b ∈ S :: wr := fun b hb => List.mem_cons_of_mem _ hb
  intro k
  induction k with
  | zero =>
    intro i s hk' hi hst ⟨c, hc, hS⟩ hR
    have hin : i = n := by omega
    subst hin
    refine codeAny_builtin F.entry_set_update_loop ?_
    rw [Around.under_plainId F.plain_set_update_loop _]
    show wpAny _ A.in1 (pyNext (.ref I) >>= _) _ _ s
    refine wpAny_bind (W.done s _ _ hst fun s' hm => ?_)
    show wpAny _ A.in1 (ret Value.none) _ _ s'
    have e : ns.take i = ns := List.take_of_length_le (by omega)
    rw [e] at hS
    exact wpAny_pure (hR s' c (hm.mono hsub) hc (hS.at fun o e => hm.heap S o hSw e))
  | succ k ih =>
    intro i s hk' hi hst ⟨c, hc, hS⟩ hR
    have hlt : i < n := by omega
    refine codeAny_builtin F.entry_set_update_loop ?_
    rw [Around.under_plainId F.plain_set_update_loop _]
    show wpAny _ A.in1 (pyNext (.ref I) >>= _) _ _ s
    refine wpAny_bind (W.item i s _ _ hlt hst fun v s' hP hst' hm => ?_)
    obtain ⟨z, t, hz, rfl⟩ := hval i v hP
    have hS' : SetS w s'.heap S (fun j => decide (j ∈ ns.take i)) c := hS.at fun o e => hm.heap S o hSw e
    show wpAny _ A.in1 (holding [Value.str z t] (setAdd S (.str z t)) >>= _) _ _ s'
    refine wpAny_bind (wpAny_holding ?_)
    unfold setAdd
    refine wpAny_holding ?_
    refine wpAny_bind ((PySem.strKind P w).pyHash (k := z) (PySem.strKind_is _ _ _ _) ?_)
    refine setS_add_hashed (s := { s' with toks := s'.toks + 1 }) hS' (by omega) fun h' hsb hS2 => ?_
    have hS3 : SetS w h' S (fun j => decide (j ∈ ns.take (i + 1))) (if decide (z ∈ ns.take i) = true then c else c + 1) := hS2.congr fun j => by
      rw [List.take_add_one, hz]
      simp [List.mem_append]
    have hc3 : (if decide (z ∈ ns.take i) = true then c else c + 1) ≤ i + 1 := by
      split <;> omega
    refine wpAny_pure ⟨plainId_quiet F.plain_set_update_loop _, ih (i + 1) _ (by omega) hlt (W.frame _ s' _ _ hst' (Nat.le_succ _) fun b hb o e => ?_) ⟨_, hc3, hS3⟩ fun s'' c2 hm'' hc'' hS'' => ?_⟩
    · rw [hsb.2 b (fun h : b = S => hSf (by rw [← h]; exact hb))]; exact e
    · refine hR s'' c2 (Moved.trans W.gtrans ((hm.mono hsub).then_heap (Nat.le_succ _) fun b o hb e => ?_) hm'') hc'' hS''
      rw [hsb.2 b (fun h : b = S => hb (by rw [h]; exact List.mem_cons_self))]; exact e

theorem call_set_tupS {l : Addr} {items : Array Value} (ns : List Str) {Q : Value → Shared → Prop} (hh : A.handled = none) (hl : s.heap.IsTuple l items) (hit : StrsAre items.toList ns) (hb : ns.length + 1 < scanBound)
    (h : ∀ (h' : Heap) (tk c : Nat), SetS w h' s.heap.objs.size (fun j => decide (j ∈ ns)) c → c ≤ ns.length → (∀ b o, s.heap.get? b = some o → h'.get? b = some o) → Q (.ref s.heap.objs.size) { s with heap := h', toks := tk }) :
    wpAny (model P w) A (call (.type "set") [.ref l]) Q E s := by
  have hisz : items.size = ns.length := by
    have q := StrsAre.length hit
    rw [Array.length_toList] at q
    exact q
  obtain ⟨c, tl, hmro⟩ := F.called_set.mro
  have hmade := F.called_set.made
  have hsub := F.called_set.sub
  refine wpAny_call (codeAny_of_tree ?_)
  show wpAny _ _ (callAny (.type "set") _) _ _ _
  refine wpAny_pure ⟨Code.quiet_builtin _ (by decide +kernel), codeAny_builtin F.entry_type_call ?_⟩
  rw [Around.under_plain (weight_type_call_type "set" [.ref l] []) rfl]
  have h1 := F.called_set.notType
  have h2 := F.called_set.canCreate
  have hct := F.typeCall_set_1 (.ref l)
  repeat (any_goals (first | assumption | wp_step))

  refine codeAny_mono (code_set_led1 (.ref l) (E := E) (Q₁ := fun obj s₁ => obj = .ref s.heap.objs.size ∧ s₁ = { s with heap := s.heap.push { cls := .type "set", dict := none, data := .set #[] 0 (.fresh 0 0 (!w.params.followText "set-order")) } }) ⟨rfl, rfl⟩) fun r s₁ hr => ?_
  cases r with
  | error e => exact hr
  | ok fl =>
    cases fl with
    | ret obj =>
      obtain ⟨rfl, rfl⟩ := hr
      have hS : (s.heap.push { cls := .type "set", dict := none, data := .set #[] 0 (.fresh 0 0 (!w.params.followText "set-order")) }).get? s.heap.objs.size = some { cls := .type "set", dict := none, data := .set #[] 0 (.fresh 0 0 (!w.params.followText "set-order")) } := Heap.get?_push_size _ rfl
      have hT : Shared.TypeIs { s with heap := s.heap.push { cls := .type "set", dict := none, data := .set #[] 0 (.fresh 0 0 (!w.params.followText "set-order")) } } (.ref s.heap.objs.size) "set" := ⟨_, hS, rfl⟩
      have hli := F.called_set.init.lookup
      have hbi := F.called_set.init.bind (.ref s.heap.objs.size)
      repeat (any_goals (first | assumption | wp_step))

      refine codeAny_mono (codeAny_call_builtin (R := wants (fun r s₂ => r = .none ∧ ∃ h' tk c, s₂ = { s with heap := h', toks := tk } ∧ SetS w h' s.heap.objs.size (fun j => decide (j ∈ ns)) c ∧ c ≤ ns.length ∧
          (∀ b o, s.heap.get? b = some o → h'.get? b = some o)) E) F.called_set.init.plain F.entry_set_init (check_set_init_1 hT ?_)) fun r₂ s₂ hr₂ => ?_
      · obtain ⟨ol, hol, hcl, nl, hdl⟩ := hl
        obtain ⟨ocls, odict, odata, oslots⟩ := ol
        simp only at hcl hdl
        subst hcl; subst hdl
        have hol' : (s.heap.push { cls := .type "set", dict := none, data := .set #[] 0 (.fresh 0 0 (!w.params.followText "set-order")) }).get? l = some { cls := .type "tuple", dict := odict, data := .seq items nl, slots := oslots } := Heap.get?_push_of_some _ hol
        have hsls := F.sub_tuple_set
        have hslf := F.sub_tuple_frozenset
        have hne : (Value.type "tuple" == Value.type "dict") = false := by decide
        have hl1 : (s.heap.push { cls := .type "set", dict := none, data := .set #[] 0 (.fresh 0 0 (!w.params.followText "set-order")) }).IsTuple l items := ⟨_, hol', rfl, nl, rfl⟩
        unfold Builtin.«set.__init__» noKeywords Builtin.Frozenset.updateFrom
        generalize hPI : pyIter = PI
        wp_walk
        subst hPI

        refine wpAny_pyIter_tuple hl1 ?_
        refine wpAny_bind (wpAny_runValue ?_)
        have hlS : l < s.heap.objs.size := Heap.lt_size hol
        have hh3 : A.in1.in1.in1.handled = none := by simp [hh]
        have hz1 : (s.heap.push { cls := .type "set", dict := none, data := .set #[] 0 (.fresh 0 0 (!w.params.followText "set-order")) }).objs.size = s.heap.objs.size + 1 := Heap.size_push ..
        have hneI : l ≠ (s.heap.push { cls := .type "set", dict := none, data := .set #[] 0 (.fresh 0 0 (!w.params.followText "set-order")) }).objs.size := by
          rw [Heap.size_push]; exact Nat.ne_of_lt (Nat.lt_succ_of_lt hlS)
        have hSf : s.heap.objs.size ∉ [(s.heap.push { cls := .type "set", dict := none, data := .set #[] 0 (.fresh 0 0 (!w.params.followText "set-order")) }).objs.size, l] := by
          rw [Heap.size_push]; simp only [List.mem_cons, List.mem_singleton, List.not_mem_nil, or_false, not_or]
          exact ⟨Nat.ne_of_lt (Nat.lt_succ_self _), Nat.ne_of_gt hlS⟩
        have hval : ∀ (i : Nat) (v : Value), items[i]? = some v → ∃ k t, ns[i]? = some k ∧ v = .str k t := fun i v hv => by
          obtain ⟨y, t, e1, e2⟩ := PyProof.Rows.StrsAre.item hit i v (by rw [Array.getElem?_toList]; exact hv)
          exact ⟨y, t, e2, e1⟩
        refine set_update_strs ((Walks.tuple hh3 _ l hneI items).toS) s.heap.objs.size
          hSf ns hisz hb hval (items.size - 0) 0 _ (by omega) (Nat.zero_le _)
          ⟨⟨_, Heap.get?_push_size _ rfl, rfl, rfl⟩, (hl1.push _)⟩ ?hS0 ?hR
        case hS0 =>
          have hget : ((s.heap.push { cls := .type "set", dict := none, data := .set #[] 0 (.fresh 0 0 (!w.params.followText "set-order")) }).push { cls := .type "tuple_iterator", data := .fields #[.ref l, .int 0 0] }).get? s.heap.objs.size
              = some { cls := .type "set", dict := none, data := .set #[] 0 (.fresh 0 0 (!w.params.followText "set-order")) } := Heap.get?_push_of_some _ hS
          exact ⟨0, Nat.le_refl 0, setS_new_at hget⟩
        case hR =>
          intro s' c' hm hc' hS'
          obtain ⟨h', g2, d', tk', os'⟩ := s'
          have eg : g2 = s.gens := hm.gens
          have ed : d' = s.drawn := hm.drawn
          have eo : os' = s.os := hm.os
          subst eg; subst ed; subst eo
          show wpAny _ _ _ _ _ _
          refine wpAny_pure ?_
          show wpAny _ _ (ret Value.none) _ _ _
          rw [hisz] at hc'
          refine wpAny_pure ⟨rfl, h', tk', c', rfl, hS', hc', fun b o e => ?_⟩
          have hb0 : b < s.heap.objs.size := Heap.lt_size e
          have hb1 : b ≠ s.heap.objs.size := Nat.ne_of_lt hb0
          have hb2 : b ≠ (s.heap.push { cls := .type "set", dict := none, data := .set #[] 0 (.fresh 0 0 (!w.params.followText "set-order")) }).objs.size := by
            rw [Heap.size_push]; exact Nat.ne_of_lt (Nat.lt_succ_of_lt hb0)
          exact hm.heap b o (by simp only [List.mem_cons, List.mem_singleton, List.not_mem_nil, or_false, not_or]; exact ⟨hb1, hb2⟩) (Heap.get?_push_of_some _ (Heap.get?_push_of_some _ e))

      · cases r₂ with
        | error e => exact hr₂
        | ok fl₂ =>
          cases fl₂ with
          | ret r =>
            obtain ⟨rfl, h', tk, c', rfl, hS', hc', hk'⟩ := hr₂
            repeat (any_goals (first | assumption | wp_step))
            exact h _ _ _ hS' hc' hk'
          | _ => exact hr₂.elim
    | _ => exact hr.elim


theorem call_set_lstS {l : Addr} {items : Array Value} (ns : List Str) {Q : Value → Shared → Prop} (hh : A.handled = none) (hl : s.heap.IsList l items) (hit : StrsAre items.toList ns) (hb : ns.length + 1 < scanBound)
    (h : ∀ (h' : Heap) (tk c : Nat), SetS w h' s.heap.objs.size (fun j => decide (j ∈ ns)) c → c ≤ ns.length → (∀ b o, s.heap.get? b = some o → h'.get? b = some o) → Q (.ref s.heap.objs.size) { s with heap := h', toks := tk }) :
    wpAny (model P w) A (call (.type "set") [.ref l]) Q E s := by
  have hisz : items.size = ns.length := by
    have q := StrsAre.length hit
    rw [Array.length_toList] at q
    exact q
  obtain ⟨c, tl, hmro⟩ := F.called_set.mro
  have hmade := F.called_set.made
  have hsub := F.called_set.sub
  refine wpAny_call (codeAny_of_tree ?_)
  show wpAny _ _ (callAny (.type "set") _) _ _ _
  refine wpAny_pure ⟨Code.quiet_builtin _ (by decide +kernel), codeAny_builtin F.entry_type_call ?_⟩
  rw [Around.under_plain (weight_type_call_type "set" [.ref l] []) rfl]
  have h1 := F.called_set.notType
  have h2 := F.called_set.canCreate
  have hct := F.typeCall_set_1 (.ref l)
  repeat (any_goals (first | assumption | wp_step))

  refine codeAny_mono (code_set_led1 (.ref l) (E := E) (Q₁ := fun obj s₁ => obj = .ref s.heap.objs.size ∧ s₁ = { s with heap := s.heap.push { cls := .type "set", dict := none, data := .set #[] 0 (.fresh 0 0 (!w.params.followText "set-order")) } }) ⟨rfl, rfl⟩) fun r s₁ hr => ?_
  cases r with
  | error e => exact hr
  | ok fl =>
    cases fl with
    | ret obj =>
      obtain ⟨rfl, rfl⟩ := hr
      have hS : (s.heap.push { cls := .type "set", dict := none, data := .set #[] 0 (.fresh 0 0 (!w.params.followText "set-order")) }).get? s.heap.objs.size = some { cls := .type "set", dict := none, data := .set #[] 0 (.fresh 0 0 (!w.params.followText "set-order")) } := Heap.get?_push_size _ rfl
      have hT : Shared.TypeIs { s with heap := s.heap.push { cls := .type "set", dict := none, data := .set #[] 0 (.fresh 0 0 (!w.params.followText "set-order")) } } (.ref s.heap.objs.size) "set" := ⟨_, hS, rfl⟩
      have hli := F.called_set.init.lookup
      have hbi := F.called_set.init.bind (.ref s.heap.objs.size)
      repeat (any_goals (first | assumption | wp_step))

      refine codeAny_mono (codeAny_call_builtin (R := wants (fun r s₂ => r = .none ∧ ∃ h' tk c, s₂ = { s with heap := h', toks := tk } ∧ SetS w h' s.heap.objs.size (fun j => decide (j ∈ ns)) c ∧ c ≤ ns.length ∧
          (∀ b o, s.heap.get? b = some o → h'.get? b = some o)) E) F.called_set.init.plain F.entry_set_init (check_set_init_1 hT ?_)) fun r₂ s₂ hr₂ => ?_
      · obtain ⟨ol, hol, hcl, nl, hdl⟩ := hl
        obtain ⟨ocls, odict, odata, oslots⟩ := ol
        simp only at hcl hdl
        subst hcl; subst hdl
        have hol' : (s.heap.push { cls := .type "set", dict := none, data := .set #[] 0 (.fresh 0 0 (!w.params.followText "set-order")) }).get? l = some { cls := .type "list", dict := odict, data := .seq items nl, slots := oslots } := Heap.get?_push_of_some _ hol
        have hsls := F.sub_list_set
        have hslf := F.sub_list_frozenset
        have hne : (Value.type "list" == Value.type "dict") = false := by decide
        have hl1 : (s.heap.push { cls := .type "set", dict := none, data := .set #[] 0 (.fresh 0 0 (!w.params.followText "set-order")) }).IsList l items := ⟨_, hol', rfl, nl, rfl⟩
        unfold Builtin.«set.__init__» noKeywords Builtin.Frozenset.updateFrom
        generalize hPI : pyIter = PI
        wp_walk
        subst hPI

        refine wpAny_pyIter_list hl1 ?_
        refine wpAny_bind (wpAny_runValue ?_)
        have hlS : l < s.heap.objs.size := Heap.lt_size hol
        have hh3 : A.in1.in1.in1.handled = none := by simp [hh]
        have hz1 : (s.heap.push { cls := .type "set", dict := none, data := .set #[] 0 (.fresh 0 0 (!w.params.followText "set-order")) }).objs.size = s.heap.objs.size + 1 := Heap.size_push ..
        have hneI : l ≠ (s.heap.push { cls := .type "set", dict := none, data := .set #[] 0 (.fresh 0 0 (!w.params.followText "set-order")) }).objs.size := by
          rw [Heap.size_push]; exact Nat.ne_of_lt (Nat.lt_succ_of_lt hlS)
        have hSf : s.heap.objs.size ∉ [(s.heap.push { cls := .type "set", dict := none, data := .set #[] 0 (.fresh 0 0 (!w.params.followText "set-order")) }).objs.size, l] := by
          rw [Heap.size_push]; simp only [List.mem_cons, List.mem_singleton, List.not_mem_nil, or_false, not_or]
          exact ⟨Nat.ne_of_lt (Nat.lt_succ_self _), Nat.ne_of_gt hlS⟩
        have hval : ∀ (i : Nat) (v : Value), items[i]? = some v → ∃ k t, ns[i]? = some k ∧ v = .str k t := fun i v hv => by
          obtain ⟨y, t, e1, e2⟩ := PyProof.Rows.StrsAre.item hit i v (by rw [Array.getElem?_toList]; exact hv)
          exact ⟨y, t, e2, e1⟩
        refine set_update_strs ((Walks.list hh3 _ l hneI items).toS) s.heap.objs.size
          hSf ns hisz hb hval (items.size - 0) 0 _ (by omega) (Nat.zero_le _)
          ⟨⟨_, Heap.get?_push_size _ rfl, rfl, rfl⟩, (hl1.push _)⟩ ?hS0 ?hR
        case hS0 =>
          have hget : ((s.heap.push { cls := .type "set", dict := none, data := .set #[] 0 (.fresh 0 0 (!w.params.followText "set-order")) }).push { cls := .type "list_iterator", data := .fields #[.ref l, .int 0 0] }).get? s.heap.objs.size
              = some { cls := .type "set", dict := none, data := .set #[] 0 (.fresh 0 0 (!w.params.followText "set-order")) } := Heap.get?_push_of_some _ hS
          exact ⟨0, Nat.le_refl 0, setS_new_at hget⟩
        case hR =>
          intro s' c' hm hc' hS'
          obtain ⟨h', g2, d', tk', os'⟩ := s'
          have eg : g2 = s.gens := hm.gens
          have ed : d' = s.drawn := hm.drawn
          have eo : os' = s.os := hm.os
          subst eg; subst ed; subst eo
          show wpAny _ _ _ _ _ _
          refine wpAny_pure ?_
          show wpAny _ _ (ret Value.none) _ _ _
          rw [hisz] at hc'
          refine wpAny_pure ⟨rfl, h', tk', c', rfl, hS', hc', fun b o e => ?_⟩
          have hb0 : b < s.heap.objs.size := Heap.lt_size e
          have hb1 : b ≠ s.heap.objs.size := Nat.ne_of_lt hb0
          have hb2 : b ≠ (s.heap.push { cls := .type "set", dict := none, data := .set #[] 0 (.fresh 0 0 (!w.params.followText "set-order")) }).objs.size := by
            rw [Heap.size_push]; exact Nat.ne_of_lt (Nat.lt_succ_of_lt hb0)
          exact hm.heap b o (by simp only [List.mem_cons, List.mem_singleton, List.not_mem_nil, or_false, not_or]; exact ⟨hb1, hb2⟩) (Heap.get?_push_of_some _ (Heap.get?_push_of_some _ e))

      · cases r₂ with
        | error e => exact hr₂
        | ok fl₂ =>
          cases fl₂ with
          | ret r =>
            obtain ⟨rfl, h', tk, c', rfl, hS', hc', hk'⟩ := hr₂
            repeat (any_goals (first | assumption | wp_step))
            exact h _ _ _ hS' hc' hk'
          | _ => exact hr₂.elim
    | _ => exact hr.elim

end
end CL

/-! CLj: sorted(set(xs)), xs strs. -/
namespace CL
open PySem PySem.Spec PyProof.Rows L2

theorem strs_of : ∀ (l : List Value), (∀ v ∈ l, ∃ k tk, v = Value.str k tk) → ∃ ss, StrsAre l ss
  | [], _ => ⟨[], .nil⟩
  | v :: l, h => by
    obtain ⟨k, tk, rfl⟩ := h v List.mem_cons_self
    obtain ⟨ss, q⟩ := strs_of l fun u hu => h u (List.mem_cons_of_mem _ hu)
    exact ⟨k :: ss, .cons k tk q⟩
theorem strs_keys (w : World) : ∀ {l : List (Int × Value)} {ss : List Str}, StrsAre (l.map (·.2)) ss → (∀ e ∈ l, GoodS w e) → ss = l.map keyS
  | [], _, .nil, _ => rfl
  | (h, v) :: l, s :: ss, r, g => by
    cases r with
    | cons k tk r =>
      rw [List.map_cons, strs_keys w r fun e he => g e (List.mem_cons_of_mem _ he)]
      rfl
theorem StrsAre.perm : ∀ {vs us : List Value}, vs.Perm us → ∀ {ss : List Str}, StrsAre vs ss → ∃ ts, StrsAre us ts ∧ ss.Perm ts
  | _, _, .nil, _, h => ⟨_, h, .refl _⟩
  | _, _, .cons x p, _, h => by
    cases h with
    | cons k t r =>
      obtain ⟨ts, h1, h2⟩ := StrsAre.perm p r
      exact ⟨_, .cons k t h1, h2.cons _⟩
  | _, _, .swap x y l, _, h => by
    cases h with
    | cons k t r =>
      cases r with
      | cons k2 t2 r => exact ⟨_, .cons k2 t2 (.cons k t r), .swap _ _ _⟩
  | _, _, .trans p q, _, h => by
    obtain ⟨ts, h1, h2⟩ := StrsAre.perm p h
    obtain ⟨us, h3, h4⟩ := StrsAre.perm q h1
    exact ⟨us, h3, h2.trans h4⟩
section
variable {P : Program} {w : World} {A : Around} {E : Value → Shared → Prop} {s : Shared} {a : Addr}
theorem sorted_setS {S : Str → Bool} {n : Nat} {Q : Value → Shared → Prop} (R : SetS w s.heap a S n) (hh : A.handled = none) (h64 : n < 64)
    (hQ : ∀ s' p (out : Array Value) (c : Nat) (ns : List Str), (∀ b o, s.heap.get? b = some o → s'.heap.get? b = some o) → s'.gens = s.gens → s'.os = s.os → s.heap.objs.size ≤ p →
      s'.heap.get? p = some (seqObj "list" out c) → StrsAre out.toList ns → sortedS ns = true → ns.Nodup → (∀ k, k ∈ ns ↔ S k = true) → ns.length = n → Q (.ref p) s') :
    wpAny (model P w) A (call (.builtin "sorted") [.ref a]) Q E s := by
  obtain ⟨o, es, ep, t, ho, hex, hd, g, nd, hm, hb, hf, hn, hr, hl⟩ := R
  refine Calls.call_function_entry kind_sorted plain_sorted entry_sorted (args_sorted1 _) ?_
  unfold Builtin.«sorted»
  refine wpAny_bind (m := checkCount "sorted" 1 1 _) (wpAny_pure ?_)
  refine wpAny_bind (collect_set (A := A.in1) hh ⟨o, ho, hex.1, hd⟩ hf hb hr hl fun s1 vs k1 hz g1 o1 pm => ?_)
  have hvl : vs.length = n := by rw [pm.length_eq, List.length_map, Array.length_toList]; exact hn
  obtain ⟨ss, hI⟩ := strs_of vs fun v hv => by
    obtain ⟨e, he, q⟩ := List.mem_map.mp (pm.mem_iff.mp hv)
    obtain ⟨k, tk, h1, _⟩ := g e he
    exact ⟨k, tk, by rw [← q]; exact h1⟩
  have pk : ss.Perm (es.toList.map keyS) := by
    obtain ⟨ts, h1, h2⟩ := StrsAre.perm pm hI
    rw [strs_keys w h1 g] at h2
    exact h2
  refine wpAny_bind (wpAny_newList ?_ (by rw [hvl, sizeLine_eq]; omega))
  have hoL : (s1.heap.push (seqObj "list" vs.toArray 0)).get? s1.heap.objs.size = some (seqObj "list" vs.toArray 0) := Heap.get?_push_size _ rfl
  refine wpAny_bind (wpAny_holding (wpAny_call_entry slot_list_sort ⟨_, hoL, rfl⟩ entry_list_sort (list_sort_treeK strKind_oneLt hoL hI.keysOf (fun v₁ v₂ rest e => keyKind_strs (by rw [← e]; exact hI)) (by rw [hvl]; exact h64) fun st' hp hs => ?_) (args_list_sort _)))
  obtain ⟨ns', a1, a2, a3⟩ := sorted_out_str hI hp hs
  obtain ⟨c, hc⟩ := sortedHeap_at (vs := vs) (out := (arrOf st').map (·.2)) hoL
  have pn : ns'.Perm (es.toList.map keyS) := a2.trans pk
  refine ⟨_, rfl, wpAny_pure ⟨_, rfl, hQ _ s1.heap.objs.size _ c ns' (fun b u e => ?_) g1 o1 hz hc a1 a3 (pn.nodup_iff.mpr nd) (fun k => by rw [pn.mem_iff, ← hm k]) ?_⟩⟩
  · have q := k1 b u e
    have hlt := Heap.lt_size q
    show (sortedHeap (s1.heap.push (seqObj "list" vs.toArray 0)) s1.heap.objs.size vs ((arrOf st').map (·.2))).get? b = some u
    rw [sortedHeap_old (Nat.ne_of_lt hlt) (by rw [size_push']; exact Nat.lt_succ_of_lt hlt)]
    exact Heap.get?_push_of_some _ q
  · rw [pn.length_eq, List.length_map, Array.length_toList]; exact hn
end
/-- sorted(set(e)) -/
def tSrtSet (K : PySem.W.Frag) (te : TE) : TE := fun σ H Q => te σ H fun x H1 => ∃ a, ∃ xs : List Str, x = .ref a ∧ (H1 a = some (.lst (xs.map V.str)) ∨ SqT K H1 a (xs.map V.str)) ∧ xs.length < 63 ∧
  ∀ (ns : List Str) (p : Addr), sortedS ns = true → ns.Nodup → (∀ k, k ∈ ns ↔ k ∈ xs) → H1 p = none → Q (.ref p) (upd H1 p (.lst (ns.map V.str)))
section
variable {X : Cx} {e : Expr} {te : TE} {p1 p2 pos q2 : Pos}
theorem set_fin {pins : List (Addr × Obj)} {σ : L2.St} {H : Hp} {s : Shared} {a : Addr} {c : Nat} {xs : List Str} {Q : VK} (hc : X.calm = true) (I : Inv X pins σ H s) (R : SetS X.w s.heap a (fun j => decide (j ∈ xs)) c) (hcl : c ≤ xs.length) (hl : xs.length < 63)
    (q1 : ∀ (ns : List Str) (p : Addr), sortedS ns = true → ns.Nodup → (∀ k, k ∈ ns ↔ k ∈ xs) → H p = none → Q (.ref p) (upd H p (.lst (ns.map V.str)))) : wpAny (model X.prog X.w) X.A (call (.builtin "sorted") [.ref a]) (EP X pins σ Q) X.xe s := by
  refine sorted_setS R (I.ok.hd hc) (by omega) fun s' p out c' ns k g o hp hg' hi hs hnd hmem hlen => ?_
  have hln : (ns.map V.str).length ≤ sizeLine := by rw [List.length_map, hlen, sizeLine_eq]; omega
  have hn : H p = none := I.hok.fresh hp
  have J : Inv X pins σ (upd H p (.lst (ns.map V.str))) { s with heap := s'.heap, gens := s'.gens, drawn := s'.drawn, toks := s'.toks } :=
    I.call (ch := []) (Un.laid k hp hn) (I.hok.laid k hp ⟨hln, out.toList, c', vals_of_strs hi, hg'⟩) (by rw [g]; exact I.bare) (fun _ z => nomatch z)
  have e : s' = { s with heap := s'.heap, gens := s'.gens, drawn := s'.drawn, toks := s'.toks } := by
    cases s'
    cases s
    cases o
    rfl
  rw [e]
  exact ⟨.ref p, _, J, rfl, q1 ns p hs hnd (fun k => by rw [hmem k]; simp) hn⟩
theorem pe_srtSet (hc : X.calm = true) (hg : Gl X "sorted") (hm : X.mg "sorted" = none) (hg2 : Gl X "set") (hm2 : X.mg "set" = none) (he : PE X e te)
    (na : starEach [e] X.env = (false, eval e X.env) :: starEach [] X.env := by rfl) : PE X (.Call (.Name "sorted" p1) [.Call (.Name "set" p2) [e] [] q2] [] pos) (tSrtSet X.K te) := by
  refine ⟨fun pins s σ H Q I h => ?_⟩
  refine Call_ (ld_blt I hg hm boot_sorted ?_)
  refine PyProof.Rows.callWith_builtin1 (PyProof.Rows.args_cons ?_ rfl) rfl rfl
  refine Call_ (ld_blt I hg2 hm2 boot_set ?_)
  refine PyProof.Rows.callWith_type1 (PyProof.Rows.args_cons (thn (he.run pins s σ H _ I h) fun v s1 ⟨x, H1, I1, r1, q1⟩ => PyProof.Rows.args_nil ?_) na) na rfl
  obtain ⟨a, xs, rfl, hq, hl, q1⟩ := q1
  cases r1
  rcases hq with hq | hq
  · obtain ⟨its, r, pl, hz⟩ := I1.list (.of hq)
    refine call_set_lstS xs (I1.ok.hd hc) pl.isList (by simpa using r.strs) (by unfold scanBound; omega) fun h' tk c R hcl hk => ?_
    refine PyProof.Rows.args_nil ?_
    exact set_fin hc (I1.kept fun b o e => hk b o e) R hcl hl q1
  · obtain ⟨its, r, pl, hz⟩ := I1.tuple hq
    refine call_set_tupS xs (I1.ok.hd hc) pl (by simpa using r.strs) (by unfold scanBound; omega) fun h' tk c R hcl hk => ?_
    refine PyProof.Rows.args_nil ?_
    exact set_fin hc (I1.kept fun b o e => hk b o e) R hcl hl q1
def cSrtSet (e : CE) : CE := fun s g P => e s g fun d g1 => ∃ xs : List Str, (d = .tup (xs.map D.str) ∨ ∃ a, d = .ref a ∧ g1 a = some (.lst (xs.map D.str))) ∧ xs.length < 63 ∧
  ∀ (ns : List Str) p, sortedS ns = true → ns.Nodup → (∀ k, k ∈ ns ↔ k ∈ xs) → g1 p = none → P (.ref p) (gupd g1 p (.lst (ns.map D.str)))
theorem ksrtSet {c : CE} (hc : X.calm = true) (hg : Gl X "sorted") (hm : X.mg "sorted" = none) (hg2 : Gl X "set") (hm2 : X.mg "set" = none) (he : PE X e (liftE X.K c))
    (na : starEach [e] X.env = (false, eval e X.env) :: starEach [] X.env := by rfl) : PE X (.Call (.Name "sorted" p1) [.Call (.Name "set" p2) [e] [] q2] [] pos) (liftE X.K (cSrtSet c)) := by
  refine PE.imp (pe_srtSet hc hg hm hg2 hm2 he na) ?_
  rintro σ H Q ⟨s, g, P, rs, rg, p, l⟩
  refine ⟨s, g, _, rs, rg, p, ?_⟩
  rintro d g1 H1 v ⟨xs, hd, hl, p1⟩ e1 rg1 r1
  have fin : ∀ (ns : List Str) (p : Addr), sortedS ns = true → ns.Nodup → (∀ k, k ∈ ns ↔ k ∈ xs) → H1 p = none → Q (.ref p) (upd H1 p (.lst (ns.map V.str))) := fun ns p h1 h2 h3 hp =>
    l _ _ _ _ (p1 ns p h1 h2 h3 (rg1.free hp)) (e1.trans (.new hp)) (rg1.laid hp (show RepL X.K _ _ _ from rep_strs ns)) (.ref p)
  rcases hd with rfl | ⟨a, rfl, ga⟩
  · cases r1 with
    | tup tn rl =>
      have h := strs_rep rl
      subst h
      exact ⟨_, xs, rfl, .inr tn.sq, hl, fin⟩
  · cases r1
    obtain ⟨us, hu, ru⟩ := rg1.lst ga
    have h := strs_rep ru
    subst h
    exact ⟨_, xs, rfl, .inl hu, hl, fin⟩
end
end CL

/-! CLk: short forms for the printed derivations. -/
namespace CL
open PySem PySem.Spec PyProof.Rows L2

/-- a def of the module, callable -/
structure CalC (P : Program) (w : World) (K : PySem.W.Frag) (mg : Str → Option Value) (base : Heap) (x : Str) (k : Nat) (ps : List Str) (sp : CSp) : Prop where
  ex : ∃ (f : Addr) (fd : FuncData), FnOk P w K mg base CX0 k f fd ps (liftSp K sp) ∧ mg x = some (.ref f) ∧ PySem.W.keepIn K (.ref f) = true ∧ Binds K fd ps []
/-- the built-in names stand -/
structure Bl (mg : Str → Option Value) : Prop where
  len : mg "len" = none
  all : mg "all" = none
  any : mg "any" = none
  abs : mg "abs" = none
  int : mg "int" = none
  str : mg "str" = none
  tup : mg "tuple" = none
  lst : mg "list" = none
  srt : mg "sorted" = none
  set : mg "set" = none
  enm : mg "enumerate" = none
  zip : mg "zip" = none
  rng : mg "range" = none
  isi : mg "isinstance" = none
section
variable {X : Cx}
theorem kc {e : Expr} {es : List Expr} {x : Str} {p pos : Pos} {j k : Nat} {ps : List Str} {sp : CSp} {ca : CA} (c : CalC X.prog X.w X.K X.mg X.base x k ps sp) (hk : k ≤ j) (hr : Room j X.A) (hg : Gl X x) (ha : PA X (e :: es) (liftA X.K ca)) (hdb : (x == ("__debug__" : Str)) = false := by decide)
    (he : starEach (e :: es) X.env = (false, eval e X.env) :: starEach es X.env := by rfl) (hpl : (backTo pos (starEach es X.env)).any (·.1) = false := by rfl) : PE X (.Call (.Name x p) (e :: es) [] pos) (liftE X.K (cCall sp ca)) := by
  obtain ⟨f, fd, F, hm, hkp, hb⟩ := c.ex
  exact kcall F (hr.mono hk) hg hm hkp hb ha hdb he hpl
structure CPs (X : Cx) (pos : Pos) (ks : List (Option Expr)) (vs : List Expr) (prs : List (CE × CE)) : Prop where
  pps : PPs X pos ks vs (prs.map fun p => (liftE X.K p.1, liftE X.K p.2))
theorem kpnil {pos : Pos} : CPs X pos [] [] [] := ⟨pps_nil⟩
theorem kpcons {pos : Pos} {k v : Expr} {ks : List (Option Expr)} {vs : List Expr} {ck cv : CE} {prs : List (CE × CE)} (hk : PE X k (liftE X.K ck)) (hv : PE X v (liftE X.K cv)) (hr : CPs X pos ks vs prs) : CPs X pos (some k :: ks) (v :: vs) ((ck, cv) :: prs) := ⟨pps_cons hk hv hr.pps⟩
theorem kdis {keys : List (Option Expr)} {values : List Expr} {pos : Pos} {prs : List (CE × CE)} (h : CPs X pos keys values prs) (hall : keys.all (·.isSome) = true := by rfl) (hl : keys.length = values.length := by rfl) (h0 : keys ≠ [] := by exact List.cons_ne_nil _ _)
    (h15 : keys.length ≤ 15 := by decide) : PE X (.Dict keys values pos) (liftE X.K (cDisp prs)) := kdisp h.pps hall hl h0 h15
def cNeg (e : CE) : CE := fun s g P => e s g fun d g1 => ∃ i, d = .int i ∧ P (.int (-i)) g1
theorem kneg {e : Expr} {c : CE} {pos : Pos} (h : PE X e (liftE X.K c)) : PE X (.UnaryOp .USub e pos) (liftE X.K (cNeg c)) := by
  refine PE.imp (pe_un un_neg h) ?_
  rintro σ H Q ⟨s, g, P, rs, rg, p, l⟩
  refine ⟨s, g, _, rs, rg, p, ?_⟩
  rintro d g1 H1 v ⟨i, rfl, p1⟩ e1 rg1 r1
  cases r1
  exact ⟨i, rfl, l _ g1 H1 _ p1 e1 rg1 (.int _)⟩
variable {e : Expr} {ca : CA} {ce : CE} {p pos : Pos}
theorem kLen (B : Bl X.mg) (hg : Gl X "len") (ha : PA X [e] (liftA X.K ca)) (he : starEach [e] X.env = (false, eval e X.env) :: starEach [] X.env := by rfl) (hpl : (backTo pos (starEach [] X.env)).any (·.1) = false := by rfl) : PE X (.Call (.Name "len" p) [e] [] pos) (liftE X.K (cCall fLen ca)) :=
  kcb call_lenAll rel_len hg B.len (by decide +kernel) ha (by decide) (by decide) he hpl
theorem kAll (hc : X.calm = true) (B : Bl X.mg) (hg : Gl X "all") (ha : PA X [e] (liftA X.K ca)) (he : starEach [e] X.env = (false, eval e X.env) :: starEach [] X.env := by rfl) (hpl : (backTo pos (starEach [] X.env)).any (·.1) = false := by rfl) : PE X (.Call (.Name "all" p) [e] [] pos) (liftE X.K (cCall fAll ca)) :=
  kcb (cr_all hc) rel_all hg B.all (by decide +kernel) ha (by decide) (by decide) he hpl
theorem kAny (hc : X.calm = true) (B : Bl X.mg) (hg : Gl X "any") (ha : PA X [e] (liftA X.K ca)) (he : starEach [e] X.env = (false, eval e X.env) :: starEach [] X.env := by rfl) (hpl : (backTo pos (starEach [] X.env)).any (·.1) = false := by rfl) : PE X (.Call (.Name "any" p) [e] [] pos) (liftE X.K (cCall fAny ca)) :=
  kcb (cr_any hc) rel_any hg B.any (by decide +kernel) ha (by decide) (by decide) he hpl
theorem kAbs (B : Bl X.mg) (hg : Gl X "abs") (ha : PA X [e] (liftA X.K ca)) (he : starEach [e] X.env = (false, eval e X.env) :: starEach [] X.env := by rfl) (hpl : (backTo pos (starEach [] X.env)).any (·.1) = false := by rfl) : PE X (.Call (.Name "abs" p) [e] [] pos) (liftE X.K (cCall fAbs ca)) :=
  kcb call_abs rel_abs hg B.abs (by decide +kernel) ha (by decide) (by decide) he hpl
theorem kInt (B : Bl X.mg) (hg : Gl X "int") (ha : PA X [e] (liftA X.K ca)) (he : starEach [e] X.env = (false, eval e X.env) :: starEach [] X.env := by rfl) (hpl : (backTo pos (starEach [] X.env)).any (·.1) = false := by rfl) : PE X (.Call (.Name "int" p) [e] [] pos) (liftE X.K (cCall fInt ca)) :=
  kcty call_int1 rel_int hg B.int (by decide +kernel) ha (by decide) (by decide) he hpl
theorem kTupOf (B : Bl X.mg) (hg : Gl X "tuple") (ha : PA X [e] (liftA X.K ca)) (he : starEach [e] X.env = (false, eval e X.env) :: starEach [] X.env := by rfl) (hpl : (backTo pos (starEach [] X.env)).any (·.1) = false := by rfl) : PE X (.Call (.Name "tuple" p) [e] [] pos) (liftE X.K (cCall fTupOf ca)) :=
  kcty call_tupleN rel_tupOf hg B.tup (by decide +kernel) ha (by decide) (by decide) he hpl
theorem kKeyOf (B : Bl X.mg) (hg : Gl X "tuple") (ha : PA X [e] (liftA X.K ca)) (he : starEach [e] X.env = (false, eval e X.env) :: starEach [] X.env := by rfl) (hpl : (backTo pos (starEach [] X.env)).any (·.1) = false := by rfl) : PE X (.Call (.Name "tuple" p) [e] [] pos) (liftE X.K (cCall fKeyOf ca)) :=
  kcty call_tuple_of rel_keyOf hg B.tup (by decide +kernel) ha (by decide) (by decide) he hpl
theorem kLstOf (B : Bl X.mg) (hg : Gl X "list") (ha : PA X [e] (liftA X.K ca)) (he : starEach [e] X.env = (false, eval e X.env) :: starEach [] X.env := by rfl) (hpl : (backTo pos (starEach [] X.env)).any (·.1) = false := by rfl) : PE X (.Call (.Name "list" p) [e] [] pos) (liftE X.K (cCall fLstOf ca)) :=
  kcty call_list_of rel_lstOf hg B.lst (by decide +kernel) ha (by decide) (by decide) he hpl
theorem kSortS (B : Bl X.mg) (hg : Gl X "sorted") (ha : PA X [e] (liftA X.K ca)) (he : starEach [e] X.env = (false, eval e X.env) :: starEach [] X.env := by rfl) (hpl : (backTo pos (starEach [] X.env)).any (·.1) = false := by rfl) : PE X (.Call (.Name "sorted" p) [e] [] pos) (liftE X.K (cCall fSortS ca)) :=
  kcb cr_sortedS rel_sortS hg B.srt (by decide +kernel) ha (by decide) (by decide) he hpl
/-- the tests' ends -/
theorem kand1 {a : Expr} {c : CT} (ha : PT X a (liftT X.K c)) : PW X (.BoolOp .And [a] pos) (liftT X.K c) := pw_and1 ha
theorem kor1 {a : Expr} {c : CT} (ha : PT X a (liftT X.K c)) : PW X (.BoolOp .Or [a] pos) (liftT X.K c) := pw_or1 ha
theorem kone {op : BoolOp} {a : Expr} {c : CE} (ha : PE X a (liftE X.K c)) : PE X (.BoolOp op [a] pos) (liftE X.K c) := pe_one ha
/-- two names for the pairs of a loop -/
theorem gtwo {i j : Nat} {x y : Str} {p1 p2 p3 : Pos} {kk : Nat} (hc : X.calm = true) (hN : X.N.Nodup) (hi : X.N[i]? = some x := by rfl) (hj : X.N[j]? = some y := by rfl) (hx : Loc X.env.scope x := by first | exact Or.inl rfl | exact Or.inr rfl) (hy : Loc X.env.scope y := by first | exact Or.inl rfl | exact Or.inr rfl)
    (hfx : X.fn x = true ∨ X.env.scope.names.lookup x = some .local := by first | exact .inl rfl | exact .inr rfl) (hfy : X.fn y = true ∨ X.env.scope.names.lookup y = some .local := by first | exact .inl rfl | exact .inr rfl)
    (hn : (assignEach [.Name x p1, .Name y p2] X.env).length = 2 := by rfl) (hst : (assignEach [.Name x p1, .Name y p2] X.env).findIdx? (·.1) = none := by rfl)
    (hs1 : (assignEach [.Name x p1, .Name y p2] X.env).map (·.2) = assign (.Name x p1) X.env :: (assignEach [.Name y p2] X.env).map (·.2) := by rfl)
    (hs2 : (assignEach [.Name y p2] X.env).map (·.2) = assign (.Name y p2) X.env :: (assignEach [] X.env).map (·.2) := by rfl) : PG X (.Tuple [.Name x p1, .Name y p2] kk p3) (gTwo X.K i j) :=
  pg_tup hc (pgs_cons (pg_name hN hi hx hfx) (pgs_cons (pg_name hN hj hy hfy) pgs_nil hs2) hs1) hn hst
end
end CL

/-! GA: the clean bodies and their derivations (printed by gen.py). -/
namespace CL
open PySem PySem.Spec PyProof.Rows L2
def topS (i : Nat) : Stmt := PySem.Challenge.pw_twigscripts_k48_whole_scripts_that_lose.main.body.getD i (.Pass ⟨0, 0, 0, 0⟩)
/-- a tuple of the module, as data -/
def GlobD (K : PySem.W.Frag) (mg : Str → Option Value) (x : Str) (d : D) : Prop := ∀ (X : Cx) (_ : X.K = K) (_ : X.mg = mg) (pos : Pos), Gl X x → PE X (.Name x pos) (liftE X.K (cC d))
section
variable {P : Program} {w : World} {K : PySem.W.Frag} {mg : Str → Option Value} {base : Heap}

/-! ### begin_of -/
abbrev s_begin_of : Stmt := topS 2
abbrev N_begin_of : List Str := ["name"]
theorem sc_begin_of : FnScope N_begin_of ["name"] (defScope s_begin_of) := ⟨rfl, rfl, rfl, by decide +kernel, rfl, by decide +kernel, by decide +kernel⟩
def c_begin_of   : CS :=
    (cRet (cOp fAdd (cC (.str "+")) (cVar 0)))
theorem d_begin_of {f : Addr} {k : Nat} (B : Bl mg)   (cdv : Value) (A : Around) (outer : List Env) (s : Shared) (H : Hp) (E : XK) (hr : Room k (A.deeper (envOfC "begin_of" (defScope s_begin_of) s.heap.objs.size f cdv))) :
    PSs (cxOf CX0 P w K mg base N_begin_of "begin_of" (defScope s_begin_of) f cdv A outer s H E).nox (defBody s_begin_of) (liftS K (c_begin_of )) := by
  have hN := sc_begin_of.nd
  have hu := hu_of hr
  exact (sone (sret (kop op_addAll rel_add kstr (kv 0))))

/-! ### end_of -/
abbrev s_end_of : Stmt := topS 3
abbrev N_end_of : List Str := ["name"]
theorem sc_end_of : FnScope N_end_of ["name"] (defScope s_end_of) := ⟨rfl, rfl, rfl, by decide +kernel, rfl, by decide +kernel, by decide +kernel⟩
def c_end_of   : CS :=
    (cRet (cOp fAdd (cC (.str "-")) (cVar 0)))
theorem d_end_of {f : Addr} {k : Nat} (B : Bl mg)   (cdv : Value) (A : Around) (outer : List Env) (s : Shared) (H : Hp) (E : XK) (hr : Room k (A.deeper (envOfC "end_of" (defScope s_end_of) s.heap.objs.size f cdv))) :
    PSs (cxOf CX0 P w K mg base N_end_of "end_of" (defScope s_end_of) f cdv A outer s H E).nox (defBody s_end_of) (liftS K (c_end_of )) := by
  have hN := sc_end_of.nd
  have hu := hu_of hr
  exact (sone (sret (kop op_addAll rel_add kstr (kv 0))))

/-! ### span -/
abbrev s_span : Stmt := topS 4
abbrev N_span : List Str := ["row", "name"]
theorem sc_span : FnScope N_span ["row", "name"] (defScope s_span) := ⟨rfl, rfl, rfl, by decide +kernel, rfl, by decide +kernel, by decide +kernel⟩
def c_span (p_end_of : CSp) (p_begin_of : CSp)  : CS :=
    (cRet (cTup (cCons (cTIx (cVar 0) (cCall p_begin_of (cCons (cVar 1) cNil))) (cCons (cOp fAdd (cTIx (cVar 0) (cCall p_end_of (cCons (cVar 1) cNil))) (cC (.int 1))) cNil))))
theorem d_span {f : Addr} {k : Nat} (B : Bl mg) {j_end_of : Nat} {q_end_of : List Str} {p_end_of : CSp} (g_end_of : CalC P w K mg base "end_of" j_end_of q_end_of p_end_of) (l_end_of : j_end_of ≤ k) {j_begin_of : Nat} {q_begin_of : List Str} {p_begin_of : CSp} (g_begin_of : CalC P w K mg base "begin_of" j_begin_of q_begin_of p_begin_of) (l_begin_of : j_begin_of ≤ k)  (cdv : Value) (A : Around) (outer : List Env) (s : Shared) (H : Hp) (E : XK) (hr : Room k (A.deeper (envOfC "span" (defScope s_span) s.heap.objs.size f cdv))) :
    PSs (cxOf CX0 P w K mg base N_span "span" (defScope s_span) f cdv A outer s H E).nox (defBody s_span) (liftS K (c_span p_end_of p_begin_of)) := by
  have hN := sc_span.nd
  have hu := hu_of hr
  exact (sone (sret (ktup (kcons (ktix (kv 0) (kc g_begin_of l_begin_of hr rfl (kcons (kv 1) knil))) (kcons (kop op_addAll rel_add (ktix (kv 0) (kc g_end_of l_end_of hr rfl (kcons (kv 1) knil))) kint) knil)))))

/-! ### is_there -/
abbrev s_is_there : Stmt := topS 5
abbrev N_is_there : List Str := ["row", "name"]
theorem sc_is_there : FnScope N_is_there ["row", "name"] (defScope s_is_there) := ⟨rfl, rfl, rfl, by decide +kernel, rfl, by decide +kernel, by decide +kernel⟩
def c_is_there (p_begin_of : CSp)  : CS :=
    (cRet (cOp (fIn false) (cCall p_begin_of (cCons (cVar 1) cNil)) (cVar 0)))
theorem d_is_there {f : Addr} {k : Nat} (B : Bl mg) {j_begin_of : Nat} {q_begin_of : List Str} {p_begin_of : CSp} (g_begin_of : CalC P w K mg base "begin_of" j_begin_of q_begin_of p_begin_of) (l_begin_of : j_begin_of ≤ k)  (cdv : Value) (A : Around) (outer : List Env) (s : Shared) (H : Hp) (E : XK) (hr : Room k (A.deeper (envOfC "is_there" (defScope s_is_there) s.heap.objs.size f cdv))) :
    PSs (cxOf CX0 P w K mg base N_is_there "is_there" (defScope s_is_there) f cdv A outer s H E).nox (defBody s_is_there) (liftS K (c_is_there p_begin_of)) := by
  have hN := sc_is_there.nd
  have hu := hu_of hr
  exact (sone (sret (kcmp op_in_seq (rel_in false) (kc g_begin_of l_begin_of hr rfl (kcons (kv 1) knil)) (kv 0))))

/-! ### is_within -/
abbrev s_is_within : Stmt := topS 6
abbrev N_is_within : List Str := ["row", "name", "other", "first", "behind"]
theorem sc_is_within : FnScope N_is_within ["row", "name", "other"] (defScope s_is_within) := ⟨rfl, rfl, rfl, by decide +kernel, rfl, by decide +kernel, by decide +kernel⟩
def c_is_within (p_span : CSp) (p_begin_of : CSp)  : CS :=
    (cSeq (cSetT [3, 4] (cCall p_span (cCons (cVar 0) (cCons (cVar 2) cNil))))
    (cRet (cOp (fIn false) (cCall p_begin_of (cCons (cVar 1) cNil)) (cSl (cVar 0) (oSome (cVar 3)) (oSome (cVar 4))))))
theorem d_is_within {f : Addr} {k : Nat} (B : Bl mg) {j_span : Nat} {q_span : List Str} {p_span : CSp} (g_span : CalC P w K mg base "span" j_span q_span p_span) (l_span : j_span ≤ k) {j_begin_of : Nat} {q_begin_of : List Str} {p_begin_of : CSp} (g_begin_of : CalC P w K mg base "begin_of" j_begin_of q_begin_of p_begin_of) (l_begin_of : j_begin_of ≤ k)  (cdv : Value) (A : Around) (outer : List Env) (s : Shared) (H : Hp) (E : XK) (hr : Room k (A.deeper (envOfC "is_within" (defScope s_is_within) s.heap.objs.size f cdv))) :
    PSs (cxOf CX0 P w K mg base N_is_within "is_within" (defScope s_is_within) f cdv A outer s H E).nox (defBody s_is_within) (liftS K (c_is_within p_span p_begin_of)) := by
  have hN := sc_is_within.nd
  have hu := hu_of hr
  exact (scons (ssetT rfl (kc g_span l_span hr rfl (kcons (kv 0) (kcons (kv 2) knil))) (tgcons (i := 3) hN (tgcons (i := 4) hN tgnil)))
    (sone (sret (kcmp op_in_seq (rel_in false) (kc g_begin_of l_begin_of hr rfl (kcons (kv 1) knil)) (kslice (kv 0) (kosome (kv 3)) (kosome (kv 4)))))))

/-! ### old_of -/
abbrev s_old_of : Stmt := topS 7
abbrev N_old_of : List Str := ["deed"]
theorem sc_old_of : FnScope N_old_of ["deed"] (defScope s_old_of) := ⟨rfl, rfl, rfl, by decide +kernel, rfl, by decide +kernel, by decide +kernel⟩
def c_old_of   : CS :=
    (cSeq (cIfS (cB (cOp (fEq false) (cOp fIx (cVar 0) (cC (.int 0))) (cC (.str "wrap")))) (cRet (cTup (cCons (cOp fIx (cVar 0) (cC (.int 1))) cNil))) cSkip)
    (cSeq (cIfS (cB (cOp (fEq false) (cOp fIx (cVar 0) (cC (.int 0))) (cC (.str "put")))) (cRet (cTup (cCons (cOp fIx (cVar 0) (cC (.int 2))) cNil))) cSkip)
    (cRet (cSl (cVar 0) (oSome (cC (.int 1))) oNone))))
theorem d_old_of {f : Addr} {k : Nat} (B : Bl mg)   (cdv : Value) (A : Around) (outer : List Env) (s : Shared) (H : Hp) (E : XK) (hr : Room k (A.deeper (envOfC "old_of" (defScope s_old_of) s.heap.objs.size f cdv))) :
    PSs (cxOf CX0 P w K mg base N_old_of "old_of" (defScope s_old_of) f cdv A outer s H E).nox (defBody s_old_of) (liftS K (c_old_of )) := by
  have hN := sc_old_of.nd
  have hu := hu_of hr
  exact (scons (sif (ktcmp (op_eqP hr.units) (rel_eq false) (kix ix_seq rel_ix (kv 0) kint) kstr) (sone (sret (ktup (kcons (kix ix_seq rel_ix (kv 0) kint) knil)))) snil)
    (scons (sif (ktcmp (op_eqP hr.units) (rel_eq false) (kix ix_seq rel_ix (kv 0) kint) kstr) (sone (sret (ktup (kcons (kix ix_seq rel_ix (kv 0) kint) knil)))) snil)
    (sone (sret (kslice (kv 0) (kosome kint) konone)))))

/-! ### new_of -/
abbrev s_new_of : Stmt := topS 8
abbrev N_new_of : List Str := ["deed"]
theorem sc_new_of : FnScope N_new_of ["deed"] (defScope s_new_of) := ⟨rfl, rfl, rfl, by decide +kernel, rfl, by decide +kernel, by decide +kernel⟩
def c_new_of   : CS :=
    (cSeq (cIfS (cB (cOp (fEq false) (cOp fIx (cVar 0) (cC (.int 0))) (cC (.str "wrap")))) (cRet (cTup (cCons (cOp fIx (cVar 0) (cC (.int 2))) cNil))) cSkip)
    (cRet (cIf (cB (cOp (fEq false) (cOp fIx (cVar 0) (cC (.int 0))) (cC (.str "put")))) (cTup (cCons (cOp fIx (cVar 0) (cC (.int 1))) cNil)) (cTup cNil))))
theorem d_new_of {f : Addr} {k : Nat} (B : Bl mg)   (cdv : Value) (A : Around) (outer : List Env) (s : Shared) (H : Hp) (E : XK) (hr : Room k (A.deeper (envOfC "new_of" (defScope s_new_of) s.heap.objs.size f cdv))) :
    PSs (cxOf CX0 P w K mg base N_new_of "new_of" (defScope s_new_of) f cdv A outer s H E).nox (defBody s_new_of) (liftS K (c_new_of )) := by
  have hN := sc_new_of.nd
  have hu := hu_of hr
  exact (scons (sif (ktcmp (op_eqP hr.units) (rel_eq false) (kix ix_seq rel_ix (kv 0) kint) kstr) (sone (sret (ktup (kcons (kix ix_seq rel_ix (kv 0) kint) knil)))) snil)
    (sone (sret (kif (ktcmp (op_eqP hr.units) (rel_eq false) (kix ix_seq rel_ix (kv 0) kint) kstr) (ktup (kcons (kix ix_seq rel_ix (kv 0) kint) knil)) (ktup knil)))))

/-! ### stop_of -/
abbrev s_stop_of : Stmt := topS 9
abbrev N_stop_of : List Str := ["row", "deed", "name", "word"]
theorem sc_stop_of : FnScope N_stop_of ["row", "deed"] (defScope s_stop_of) := ⟨rfl, rfl, rfl, by decide +kernel, rfl, by decide +kernel, by decide +kernel⟩
def c_stop_of (p_old_of : CSp) (p_is_there : CSp) (p_new_of : CSp) (p_is_within : CSp)  : CS :=
    (cSeq (cIfS (cNot (cB (cCall fAll (cCons (cLc (iT 2 (cCall p_old_of (cCons (cVar 1) cNil))) [2] cYes (cCall p_is_there (cCons (cVar 0) (cCons (cVar 2) cNil)))) cNil)))) (cRet (cC (.str "gone"))) cSkip)
    (cSeq (cIfS (cB (cCall fAny (cCons (cLc (iT 2 (cCall p_new_of (cCons (cVar 1) cNil))) [2] cYes (cCall p_is_there (cCons (cVar 0) (cCons (cVar 2) cNil)))) cNil))) (cRet (cC (.str "taken"))) cSkip)
    (cSeq (cSet 3 (cOp fIx (cVar 1) (cC (.int 0))))
    (cSeq (cIfS (cAnd (cB (cOp (fIn false) (cVar 3) (cTup (cCons (cC (.str "first")) (cCons (cC (.str "last")) (cCons (cC (.str "ahead")) (cCons (cC (.str "behind")) (cCons (cC (.str "pour")) cNil)))))))) (cB (cCall p_is_within (cCons (cVar 0) (cCons (cOp fIx (cVar 1) (cC (.int 2))) (cCons (cOp fIx (cVar 1) (cC (.int 1))) cNil)))))) (cRet (cC (.str "inside"))) cSkip)
    (cSeq (cIfS (cAnd (cB (cOp (fEq false) (cVar 3) (cC (.str "swap")))) (cOr (cB (cCall p_is_within (cCons (cVar 0) (cCons (cOp fIx (cVar 1) (cC (.int 1))) (cCons (cOp fIx (cVar 1) (cC (.int 2))) cNil))))) (cB (cCall p_is_within (cCons (cVar 0) (cCons (cOp fIx (cVar 1) (cC (.int 2))) (cCons (cOp fIx (cVar 1) (cC (.int 1))) cNil))))))) (cRet (cC (.str "inside"))) cSkip)
    (cRet (cC .non)))))))
theorem d_stop_of {f : Addr} {k : Nat} (B : Bl mg) {j_old_of : Nat} {q_old_of : List Str} {p_old_of : CSp} (g_old_of : CalC P w K mg base "old_of" j_old_of q_old_of p_old_of) (l_old_of : j_old_of ≤ k) {j_is_there : Nat} {q_is_there : List Str} {p_is_there : CSp} (g_is_there : CalC P w K mg base "is_there" j_is_there q_is_there p_is_there) (l_is_there : j_is_there ≤ k) {j_new_of : Nat} {q_new_of : List Str} {p_new_of : CSp} (g_new_of : CalC P w K mg base "new_of" j_new_of q_new_of p_new_of) (l_new_of : j_new_of ≤ k) {j_is_within : Nat} {q_is_within : List Str} {p_is_within : CSp} (g_is_within : CalC P w K mg base "is_within" j_is_within q_is_within p_is_within) (l_is_within : j_is_within ≤ k)  (cdv : Value) (A : Around) (outer : List Env) (s : Shared) (H : Hp) (E : XK) (hr : Room k (A.deeper (envOfC "stop_of" (defScope s_stop_of) s.heap.objs.size f cdv))) :
    PSs (cxOf CX0 P w K mg base N_stop_of "stop_of" (defScope s_stop_of) f cdv A outer s H E).nox (defBody s_stop_of) (liftS K (c_stop_of p_old_of p_is_there p_new_of p_is_within)) := by
  have hN := sc_stop_of.nd
  have hu := hu_of hr
  exact (scons (sif (knot (ktest (kAll rfl B rfl (kcons (klc (own := [("name", 2)]) rfl hN (pi_tup (kc g_old_of l_old_of hr rfl (kcons (kv 1) knil))) rel_T (own_name (by decide)) (blkOk_by (show blkC N_stop_of (defScope s_stop_of) _ _ = true by decide +kernel)) (fun _ _ _ _ _ => (pg_name (i := 2) hN rfl (by first | exact Or.inl rfl | exact Or.inr rfl) (by first | exact .inl rfl | exact .inr rfl))) (fun _ _ _ _ _ => ktsnil) (fun _ _ _ _ _ => (kc g_is_there l_is_there hr rfl (kcons (kv 0) (kcons (kv 2) knil))))) knil)))) (sone (sret kstr)) snil)
    (scons (sif (ktest (kAny rfl B rfl (kcons (klc (own := [("name", 2)]) rfl hN (pi_tup (kc g_new_of l_new_of hr rfl (kcons (kv 1) knil))) rel_T (own_name (by decide)) (blkOk_by (show blkC N_stop_of (defScope s_stop_of) _ _ = true by decide +kernel)) (fun _ _ _ _ _ => (pg_name (i := 2) hN rfl (by first | exact Or.inl rfl | exact Or.inr rfl) (by first | exact .inl rfl | exact .inr rfl))) (fun _ _ _ _ _ => ktsnil) (fun _ _ _ _ _ => (kc g_is_there l_is_there hr rfl (kcons (kv 0) (kcons (kv 2) knil))))) knil))) (sone (sret kstr)) snil)
    (scons (sset (i := 3) hN (kix ix_seq rel_ix (kv 1) kint))
    (scons (sif (PW.pt (kand (ktcmp op_in_seq (rel_in false) (kv 3) (ktup (kcons kstr (kcons kstr (kcons kstr (kcons kstr (kcons kstr knil))))))) (kand1 (ktest (kc g_is_within l_is_within hr rfl (kcons (kv 0) (kcons (kix ix_seq rel_ix (kv 1) kint) (kcons (kix ix_seq rel_ix (kv 1) kint) knil)))))))) (sone (sret kstr)) snil)
    (scons (sif (PW.pt (kand (ktcmp (op_eqP hr.units) (rel_eq false) (kv 3) kstr) (kand1 (PW.pt (kor (ktest (kc g_is_within l_is_within hr rfl (kcons (kv 0) (kcons (kix ix_seq rel_ix (kv 1) kint) (kcons (kix ix_seq rel_ix (kv 1) kint) knil))))) (kor1 (ktest (kc g_is_within l_is_within hr rfl (kcons (kv 0) (kcons (kix ix_seq rel_ix (kv 1) kint) (kcons (kix ix_seq rel_ix (kv 1) kint) knil))))))))))) (sone (sret kstr)) snil)
    (sone (sret knon)))))))

/-! ### moved -/
abbrev s_moved : Stmt := topS 10
abbrev N_moved : List Str := ["row", "deed", "first", "behind", "block", "rest", "word", "at"]
theorem sc_moved : FnScope N_moved ["row", "deed"] (defScope s_moved) := ⟨rfl, rfl, rfl, by decide +kernel, rfl, by decide +kernel, by decide +kernel⟩
def c_moved (p_span : CSp) (p_begin_of : CSp) (p_end_of : CSp)  : CS :=
    (cSeq (cSetT [2, 3] (cCall p_span (cCons (cVar 0) (cCons (cOp fIx (cVar 1) (cC (.int 1))) cNil))))
    (cSeq (cSet 4 (cSl (cVar 0) (oSome (cVar 2)) (oSome (cVar 3))))
    (cSeq (cSet 5 (cOp fAdd (cSl (cVar 0) oNone (oSome (cVar 2))) (cSl (cVar 0) (oSome (cVar 3)) oNone)))
    (cSeq (cSet 6 (cOp fIx (cVar 1) (cC (.int 0))))
    (cSeq (cIfS (cB (cOp (fEq false) (cVar 6) (cC (.str "front")))) (cSet 7 (cC (.int 0))) (cIfS (cB (cOp (fEq false) (cVar 6) (cC (.str "back")))) (cSet 7 (cCall fLen (cCons (cVar 5) cNil))) (cIfS (cB (cOp (fEq false) (cVar 6) (cC (.str "first")))) (cSet 7 (cOp fAdd (cTIx (cVar 5) (cCall p_begin_of (cCons (cOp fIx (cVar 1) (cC (.int 2))) cNil))) (cC (.int 1)))) (cIfS (cB (cOp (fEq false) (cVar 6) (cC (.str "last")))) (cSet 7 (cTIx (cVar 5) (cCall p_end_of (cCons (cOp fIx (cVar 1) (cC (.int 2))) cNil)))) (cIfS (cB (cOp (fEq false) (cVar 6) (cC (.str "ahead")))) (cSet 7 (cTIx (cVar 5) (cCall p_begin_of (cCons (cOp fIx (cVar 1) (cC (.int 2))) cNil)))) (cSet 7 (cOp fAdd (cTIx (cVar 5) (cCall p_end_of (cCons (cOp fIx (cVar 1) (cC (.int 2))) cNil))) (cC (.int 1)))))))))
    (cRet (cOp fAdd (cOp fAdd (cSl (cVar 5) oNone (oSome (cVar 7))) (cVar 4)) (cSl (cVar 5) (oSome (cVar 7)) oNone))))))))
theorem d_moved {f : Addr} {k : Nat} (B : Bl mg) {j_span : Nat} {q_span : List Str} {p_span : CSp} (g_span : CalC P w K mg base "span" j_span q_span p_span) (l_span : j_span ≤ k) {j_begin_of : Nat} {q_begin_of : List Str} {p_begin_of : CSp} (g_begin_of : CalC P w K mg base "begin_of" j_begin_of q_begin_of p_begin_of) (l_begin_of : j_begin_of ≤ k) {j_end_of : Nat} {q_end_of : List Str} {p_end_of : CSp} (g_end_of : CalC P w K mg base "end_of" j_end_of q_end_of p_end_of) (l_end_of : j_end_of ≤ k)  (cdv : Value) (A : Around) (outer : List Env) (s : Shared) (H : Hp) (E : XK) (hr : Room k (A.deeper (envOfC "moved" (defScope s_moved) s.heap.objs.size f cdv))) :
    PSs (cxOf CX0 P w K mg base N_moved "moved" (defScope s_moved) f cdv A outer s H E).nox (defBody s_moved) (liftS K (c_moved p_span p_begin_of p_end_of)) := by
  have hN := sc_moved.nd
  have hu := hu_of hr
  exact (scons (ssetT rfl (kc g_span l_span hr rfl (kcons (kv 0) (kcons (kix ix_seq rel_ix (kv 1) kint) knil))) (tgcons (i := 2) hN (tgcons (i := 3) hN tgnil)))
    (scons (sset (i := 4) hN (kslice (kv 0) (kosome (kv 2)) (kosome (kv 3))))
    (scons (sset (i := 5) hN (kop op_addAll rel_add (kslice (kv 0) konone (kosome (kv 2))) (kslice (kv 0) (kosome (kv 3)) konone)))
    (scons (sset (i := 6) hN (kix ix_seq rel_ix (kv 1) kint))
    (scons (sif (ktcmp (op_eqP hr.units) (rel_eq false) (kv 6) kstr) (sone (sset (i := 7) hN kint)) (sone (sif (ktcmp (op_eqP hr.units) (rel_eq false) (kv 6) kstr) (sone (sset (i := 7) hN (kLen B rfl (kcons (kv 5) knil)))) (sone (sif (ktcmp (op_eqP hr.units) (rel_eq false) (kv 6) kstr) (sone (sset (i := 7) hN (kop op_addAll rel_add (ktix (kv 5) (kc g_begin_of l_begin_of hr rfl (kcons (kix ix_seq rel_ix (kv 1) kint) knil))) kint))) (sone (sif (ktcmp (op_eqP hr.units) (rel_eq false) (kv 6) kstr) (sone (sset (i := 7) hN (ktix (kv 5) (kc g_end_of l_end_of hr rfl (kcons (kix ix_seq rel_ix (kv 1) kint) knil))))) (sone (sif (ktcmp (op_eqP hr.units) (rel_eq false) (kv 6) kstr) (sone (sset (i := 7) hN (ktix (kv 5) (kc g_begin_of l_begin_of hr rfl (kcons (kix ix_seq rel_ix (kv 1) kint) knil))))) (sone (sset (i := 7) hN (kop op_addAll rel_add (ktix (kv 5) (kc g_end_of l_end_of hr rfl (kcons (kix ix_seq rel_ix (kv 1) kint) knil))) kint))))))))))))
    (sone (sret (kop op_addAll rel_add (kop op_addAll rel_add (kslice (kv 5) konone (kosome (kv 7))) (kv 4)) (kslice (kv 5) (kosome (kv 7)) konone)))))))))

/-! ### swapped -/
abbrev s_swapped : Stmt := topS 11
abbrev N_swapped : List Str := ["row", "one", "other", "here", "there", "between"]
theorem sc_swapped : FnScope N_swapped ["row", "one", "other"] (defScope s_swapped) := ⟨rfl, rfl, rfl, by decide +kernel, rfl, by decide +kernel, by decide +kernel⟩
def c_swapped (p_span : CSp) (p_swapped : CSp)  : CS :=
    (cSeq (cPar 3 4 (cCons (cCall p_span (cCons (cVar 0) (cCons (cVar 1) cNil))) (cCons (cCall p_span (cCons (cVar 0) (cCons (cVar 2) cNil))) cNil)))
    (cSeq (cIfS (cB (cOp fLt (cOp fIx (cVar 4) (cC (.int 0))) (cOp fIx (cVar 3) (cC (.int 0))))) (cRet (cCall p_swapped (cCons (cVar 0) (cCons (cVar 2) (cCons (cVar 1) cNil))))) cSkip)
    (cSeq (cSet 5 (cSl (cVar 0) (oSome (cOp fIx (cVar 3) (cC (.int 1)))) (oSome (cOp fIx (cVar 4) (cC (.int 0))))))
    (cRet (cOp fAdd (cOp fAdd (cOp fAdd (cOp fAdd (cSl (cVar 0) oNone (oSome (cOp fIx (cVar 3) (cC (.int 0))))) (cSl (cVar 0) (oSome (cOp fIx (cVar 4) (cC (.int 0)))) (oSome (cOp fIx (cVar 4) (cC (.int 1)))))) (cVar 5)) (cSl (cVar 0) (oSome (cOp fIx (cVar 3) (cC (.int 0)))) (oSome (cOp fIx (cVar 3) (cC (.int 1)))))) (cSl (cVar 0) (oSome (cOp fIx (cVar 4) (cC (.int 1)))) oNone))))))
theorem d_swapped {f : Addr} {k : Nat} (B : Bl mg) {j_span : Nat} {q_span : List Str} {p_span : CSp} (g_span : CalC P w K mg base "span" j_span q_span p_span) (l_span : j_span ≤ k) {j_swapped : Nat} {q_swapped : List Str} {p_swapped : CSp} (g_swapped : CalC P w K mg base "swapped" j_swapped q_swapped p_swapped) (l_swapped : j_swapped ≤ k)  (cdv : Value) (A : Around) (outer : List Env) (s : Shared) (H : Hp) (E : XK) (hr : Room k (A.deeper (envOfC "swapped" (defScope s_swapped) s.heap.objs.size f cdv))) :
    PSs (cxOf CX0 P w K mg base N_swapped "swapped" (defScope s_swapped) f cdv A outer s H E).nox (defBody s_swapped) (liftS K (c_swapped p_span p_swapped)) := by
  have hN := sc_swapped.nd
  have hu := hu_of hr
  exact (scons (spar (i := 3) (j := 4) rfl hN (by decide) (kcons (kc g_span l_span hr rfl (kcons (kv 0) (kcons (kv 1) knil))) (kcons (kc g_span l_span hr rfl (kcons (kv 0) (kcons (kv 2) knil))) knil)))
    (scons (sif (ktcmp op_lt (rel_I0 fun _ _ _ => .bl _) (kix ix_seq rel_ix (kv 4) kint) (kix ix_seq rel_ix (kv 3) kint)) (sone (sret (kc g_swapped l_swapped hr rfl (kcons (kv 0) (kcons (kv 2) (kcons (kv 1) knil)))))) snil)
    (scons (sset (i := 5) hN (kslice (kv 0) (kosome (kix ix_seq rel_ix (kv 3) kint)) (kosome (kix ix_seq rel_ix (kv 4) kint))))
    (sone (sret (kop op_addAll rel_add (kop op_addAll rel_add (kop op_addAll rel_add (kop op_addAll rel_add (kslice (kv 0) konone (kosome (kix ix_seq rel_ix (kv 3) kint))) (kslice (kv 0) (kosome (kix ix_seq rel_ix (kv 4) kint)) (kosome (kix ix_seq rel_ix (kv 4) kint)))) (kv 5)) (kslice (kv 0) (kosome (kix ix_seq rel_ix (kv 3) kint)) (kosome (kix ix_seq rel_ix (kv 3) kint)))) (kslice (kv 0) (kosome (kix ix_seq rel_ix (kv 4) kint)) konone)))))))

/-! ### turned -/
abbrev s_turned : Stmt := topS 12
abbrev N_turned : List Str := ["row", "one", "other", "ends", "item"]
theorem sc_turned : FnScope N_turned ["row", "one", "other"] (defScope s_turned) := ⟨rfl, rfl, rfl, by decide +kernel, rfl, by decide +kernel, by decide +kernel⟩
def c_turned (p_begin_of : CSp) (p_end_of : CSp)  : CS :=
    (cSeq (cSet 3 (cDisp [((cCall p_begin_of (cCons (cVar 1) cNil)), (cCall p_begin_of (cCons (cVar 2) cNil))), ((cCall p_begin_of (cCons (cVar 2) cNil)), (cCall p_begin_of (cCons (cVar 1) cNil)))]))
    (cSeq (cDPut (cVar 3) (cCall p_end_of (cCons (cVar 1) cNil)) (cCall p_end_of (cCons (cVar 2) cNil)))
    (cSeq (cDPut (cVar 3) (cCall p_end_of (cCons (cVar 2) cNil)) (cCall p_end_of (cCons (cVar 1) cNil)))
    (cRet (cCall fTupOf (cCons (cLc (iT 4 (cVar 0)) [4] cYes (cDGet2 (cVar 3) (cVar 4) (cVar 4))) cNil))))))
theorem d_turned {f : Addr} {k : Nat} (B : Bl mg) {j_begin_of : Nat} {q_begin_of : List Str} {p_begin_of : CSp} (g_begin_of : CalC P w K mg base "begin_of" j_begin_of q_begin_of p_begin_of) (l_begin_of : j_begin_of ≤ k) {j_end_of : Nat} {q_end_of : List Str} {p_end_of : CSp} (g_end_of : CalC P w K mg base "end_of" j_end_of q_end_of p_end_of) (l_end_of : j_end_of ≤ k)  (cdv : Value) (A : Around) (outer : List Env) (s : Shared) (H : Hp) (E : XK) (hr : Room k (A.deeper (envOfC "turned" (defScope s_turned) s.heap.objs.size f cdv))) :
    PSs (cxOf CX0 P w K mg base N_turned "turned" (defScope s_turned) f cdv A outer s H E).nox (defBody s_turned) (liftS K (c_turned p_begin_of p_end_of)) := by
  have hN := sc_turned.nd
  have hu := hu_of hr
  exact (scons (sset (i := 3) hN (kdis (kpcons (kc g_begin_of l_begin_of hr rfl (kcons (kv 1) knil)) (kc g_begin_of l_begin_of hr rfl (kcons (kv 2) knil)) (kpcons (kc g_begin_of l_begin_of hr rfl (kcons (kv 2) knil)) (kc g_begin_of l_begin_of hr rfl (kcons (kv 1) knil)) kpnil))))
    (scons (sdput hu (kv 3) (kc g_end_of l_end_of hr rfl (kcons (kv 1) knil)) (kc g_end_of l_end_of hr rfl (kcons (kv 2) knil)))
    (scons (sdput hu (kv 3) (kc g_end_of l_end_of hr rfl (kcons (kv 2) knil)) (kc g_end_of l_end_of hr rfl (kcons (kv 1) knil)))
    (sone (sret (kTupOf B rfl (kcons (klc (own := [("item", 4)]) rfl hN (pi_tup (kv 0)) rel_T (own_name (by decide)) (blkOk_by (show blkC N_turned (defScope s_turned) _ _ = true by decide +kernel)) (fun _ _ _ _ _ => (pg_name (i := 4) hN rfl (by first | exact Or.inl rfl | exact Or.inr rfl) (by first | exact .inl rfl | exact .inr rfl))) (fun _ _ _ _ _ => ktsnil) (fun _ _ _ _ _ => (kdget2 hu (kv 3) (kv 4) (kv 4) ⟨rfl, rfl, rfl, rfl⟩))) knil)))))))

/-! ### poured -/
abbrev s_poured : Stmt := topS 13
abbrev N_poured : List Str := ["row", "one", "other", "first", "behind", "inside", "rest", "at"]
theorem sc_poured : FnScope N_poured ["row", "one", "other"] (defScope s_poured) := ⟨rfl, rfl, rfl, by decide +kernel, rfl, by decide +kernel, by decide +kernel⟩
def c_poured (p_span : CSp) (p_end_of : CSp)  : CS :=
    (cSeq (cSetT [3, 4] (cCall p_span (cCons (cVar 0) (cCons (cVar 1) cNil))))
    (cSeq (cSet 5 (cSl (cVar 0) (oSome (cOp fAdd (cVar 3) (cC (.int 1)))) (oSome (cOp fSub (cVar 4) (cC (.int 1))))))
    (cSeq (cSet 6 (cOp fAdd (cSl (cVar 0) oNone (oSome (cOp fAdd (cVar 3) (cC (.int 1))))) (cSl (cVar 0) (oSome (cOp fSub (cVar 4) (cC (.int 1)))) oNone)))
    (cSeq (cSet 7 (cTIx (cVar 6) (cCall p_end_of (cCons (cVar 2) cNil))))
    (cRet (cOp fAdd (cOp fAdd (cSl (cVar 6) oNone (oSome (cVar 7))) (cVar 5)) (cSl (cVar 6) (oSome (cVar 7)) oNone)))))))
theorem d_poured {f : Addr} {k : Nat} (B : Bl mg) {j_span : Nat} {q_span : List Str} {p_span : CSp} (g_span : CalC P w K mg base "span" j_span q_span p_span) (l_span : j_span ≤ k) {j_end_of : Nat} {q_end_of : List Str} {p_end_of : CSp} (g_end_of : CalC P w K mg base "end_of" j_end_of q_end_of p_end_of) (l_end_of : j_end_of ≤ k)  (cdv : Value) (A : Around) (outer : List Env) (s : Shared) (H : Hp) (E : XK) (hr : Room k (A.deeper (envOfC "poured" (defScope s_poured) s.heap.objs.size f cdv))) :
    PSs (cxOf CX0 P w K mg base N_poured "poured" (defScope s_poured) f cdv A outer s H E).nox (defBody s_poured) (liftS K (c_poured p_span p_end_of)) := by
  have hN := sc_poured.nd
  have hu := hu_of hr
  exact (scons (ssetT rfl (kc g_span l_span hr rfl (kcons (kv 0) (kcons (kv 1) knil))) (tgcons (i := 3) hN (tgcons (i := 4) hN tgnil)))
    (scons (sset (i := 5) hN (kslice (kv 0) (kosome (kop op_addAll rel_add (kv 3) kint)) (kosome (kop op_sub (rel_I0 fun _ _ _ => .int _) (kv 4) kint))))
    (scons (sset (i := 6) hN (kop op_addAll rel_add (kslice (kv 0) konone (kosome (kop op_addAll rel_add (kv 3) kint))) (kslice (kv 0) (kosome (kop op_sub (rel_I0 fun _ _ _ => .int _) (kv 4) kint)) konone)))
    (scons (sset (i := 7) hN (ktix (kv 6) (kc g_end_of l_end_of hr rfl (kcons (kv 2) knil))))
    (sone (sret (kop op_addAll rel_add (kop op_addAll rel_add (kslice (kv 6) konone (kosome (kv 7))) (kv 5)) (kslice (kv 6) (kosome (kv 7)) konone))))))))

/-! ### done -/
abbrev s_done : Stmt := topS 14
abbrev N_done : List Str := ["row", "deed", "word", "at", "first", "behind"]
theorem sc_done : FnScope N_done ["row", "deed"] (defScope s_done) := ⟨rfl, rfl, rfl, by decide +kernel, rfl, by decide +kernel, by decide +kernel⟩
def c_done (p_moved : CSp) (p_swapped : CSp) (p_turned : CSp) (p_poured : CSp) (p_end_of : CSp) (p_begin_of : CSp) (p_span : CSp) (v_MOVES : D) : CS :=
    (cSeq (cSet 2 (cOp fIx (cVar 1) (cC (.int 0))))
    (cSeq (cIfS (cB (cOp (fIn false) (cVar 2) (cC v_MOVES))) (cRet (cCall p_moved (cCons (cVar 0) (cCons (cVar 1) cNil)))) cSkip)
    (cSeq (cIfS (cB (cOp (fEq false) (cVar 2) (cC (.str "swap")))) (cRet (cCall p_swapped (cCons (cVar 0) (cCons (cOp fIx (cVar 1) (cC (.int 1))) (cCons (cOp fIx (cVar 1) (cC (.int 2))) cNil))))) cSkip)
    (cSeq (cIfS (cB (cOp (fEq false) (cVar 2) (cC (.str "turn")))) (cRet (cCall p_turned (cCons (cVar 0) (cCons (cOp fIx (cVar 1) (cC (.int 1))) (cCons (cOp fIx (cVar 1) (cC (.int 2))) cNil))))) cSkip)
    (cSeq (cIfS (cB (cOp (fEq false) (cVar 2) (cC (.str "pour")))) (cRet (cCall p_poured (cCons (cVar 0) (cCons (cOp fIx (cVar 1) (cC (.int 1))) (cCons (cOp fIx (cVar 1) (cC (.int 2))) cNil))))) cSkip)
    (cSeq (cIfS (cB (cOp (fEq false) (cVar 2) (cC (.str "put")))) (cSeq (cSet 3 (cTIx (cVar 0) (cCall p_end_of (cCons (cOp fIx (cVar 1) (cC (.int 2))) cNil))))
    (cRet (cOp fAdd (cOp fAdd (cSl (cVar 0) oNone (oSome (cVar 3))) (cTup (cCons (cCall p_begin_of (cCons (cOp fIx (cVar 1) (cC (.int 1))) cNil)) (cCons (cCall p_end_of (cCons (cOp fIx (cVar 1) (cC (.int 1))) cNil)) cNil)))) (cSl (cVar 0) (oSome (cVar 3)) oNone)))) cSkip)
    (cSeq (cSetT [4, 5] (cCall p_span (cCons (cVar 0) (cCons (cOp fIx (cVar 1) (cC (.int 1))) cNil))))
    (cSeq (cIfS (cB (cOp (fEq false) (cVar 2) (cC (.str "cut")))) (cRet (cOp fAdd (cSl (cVar 0) oNone (oSome (cVar 4))) (cSl (cVar 0) (oSome (cVar 5)) oNone))) cSkip)
    (cSeq (cIfS (cB (cOp (fEq false) (cVar 2) (cC (.str "lift")))) (cRet (cOp fAdd (cOp fAdd (cSl (cVar 0) oNone (oSome (cVar 4))) (cSl (cVar 0) (oSome (cOp fAdd (cVar 4) (cC (.int 1)))) (oSome (cOp fSub (cVar 5) (cC (.int 1)))))) (cSl (cVar 0) (oSome (cVar 5)) oNone))) cSkip)
    (cRet (cOp fAdd (cOp fAdd (cOp fAdd (cOp fAdd (cSl (cVar 0) oNone (oSome (cVar 4))) (cTup (cCons (cCall p_begin_of (cCons (cOp fIx (cVar 1) (cC (.int 2))) cNil)) cNil))) (cSl (cVar 0) (oSome (cVar 4)) (oSome (cVar 5)))) (cTup (cCons (cCall p_end_of (cCons (cOp fIx (cVar 1) (cC (.int 2))) cNil)) cNil))) (cSl (cVar 0) (oSome (cVar 5)) oNone))))))))))))
theorem d_done {f : Addr} {k : Nat} (B : Bl mg) {j_moved : Nat} {q_moved : List Str} {p_moved : CSp} (g_moved : CalC P w K mg base "moved" j_moved q_moved p_moved) (l_moved : j_moved ≤ k) {j_swapped : Nat} {q_swapped : List Str} {p_swapped : CSp} (g_swapped : CalC P w K mg base "swapped" j_swapped q_swapped p_swapped) (l_swapped : j_swapped ≤ k) {j_turned : Nat} {q_turned : List Str} {p_turned : CSp} (g_turned : CalC P w K mg base "turned" j_turned q_turned p_turned) (l_turned : j_turned ≤ k) {j_poured : Nat} {q_poured : List Str} {p_poured : CSp} (g_poured : CalC P w K mg base "poured" j_poured q_poured p_poured) (l_poured : j_poured ≤ k) {j_end_of : Nat} {q_end_of : List Str} {p_end_of : CSp} (g_end_of : CalC P w K mg base "end_of" j_end_of q_end_of p_end_of) (l_end_of : j_end_of ≤ k) {j_begin_of : Nat} {q_begin_of : List Str} {p_begin_of : CSp} (g_begin_of : CalC P w K mg base "begin_of" j_begin_of q_begin_of p_begin_of) (l_begin_of : j_begin_of ≤ k) {j_span : Nat} {q_span : List Str} {p_span : CSp} (g_span : CalC P w K mg base "span" j_span q_span p_span) (l_span : j_span ≤ k) {v_MOVES : D} (h_MOVES : GlobD K mg "MOVES" v_MOVES) (cdv : Value) (A : Around) (outer : List Env) (s : Shared) (H : Hp) (E : XK) (hr : Room k (A.deeper (envOfC "done" (defScope s_done) s.heap.objs.size f cdv))) :
    PSs (cxOf CX0 P w K mg base N_done "done" (defScope s_done) f cdv A outer s H E).nox (defBody s_done) (liftS K (c_done p_moved p_swapped p_turned p_poured p_end_of p_begin_of p_span v_MOVES)) := by
  have hN := sc_done.nd
  have hu := hu_of hr
  exact (scons (sset (i := 2) hN (kix ix_seq rel_ix (kv 1) kint))
    (scons (sif (ktcmp op_in_seq (rel_in false) (kv 2) (h_MOVES _ rfl rfl _ rfl)) (sone (sret (kc g_moved l_moved hr rfl (kcons (kv 0) (kcons (kv 1) knil))))) snil)
    (scons (sif (ktcmp (op_eqP hr.units) (rel_eq false) (kv 2) kstr) (sone (sret (kc g_swapped l_swapped hr rfl (kcons (kv 0) (kcons (kix ix_seq rel_ix (kv 1) kint) (kcons (kix ix_seq rel_ix (kv 1) kint) knil)))))) snil)
    (scons (sif (ktcmp (op_eqP hr.units) (rel_eq false) (kv 2) kstr) (sone (sret (kc g_turned l_turned hr rfl (kcons (kv 0) (kcons (kix ix_seq rel_ix (kv 1) kint) (kcons (kix ix_seq rel_ix (kv 1) kint) knil)))))) snil)
    (scons (sif (ktcmp (op_eqP hr.units) (rel_eq false) (kv 2) kstr) (sone (sret (kc g_poured l_poured hr rfl (kcons (kv 0) (kcons (kix ix_seq rel_ix (kv 1) kint) (kcons (kix ix_seq rel_ix (kv 1) kint) knil)))))) snil)
    (scons (sif (ktcmp (op_eqP hr.units) (rel_eq false) (kv 2) kstr) (scons (sset (i := 3) hN (ktix (kv 0) (kc g_end_of l_end_of hr rfl (kcons (kix ix_seq rel_ix (kv 1) kint) knil))))
    (sone (sret (kop op_addAll rel_add (kop op_addAll rel_add (kslice (kv 0) konone (kosome (kv 3))) (ktup (kcons (kc g_begin_of l_begin_of hr rfl (kcons (kix ix_seq rel_ix (kv 1) kint) knil)) (kcons (kc g_end_of l_end_of hr rfl (kcons (kix ix_seq rel_ix (kv 1) kint) knil)) knil)))) (kslice (kv 0) (kosome (kv 3)) konone))))) snil)
    (scons (ssetT rfl (kc g_span l_span hr rfl (kcons (kv 0) (kcons (kix ix_seq rel_ix (kv 1) kint) knil))) (tgcons (i := 4) hN (tgcons (i := 5) hN tgnil)))
    (scons (sif (ktcmp (op_eqP hr.units) (rel_eq false) (kv 2) kstr) (sone (sret (kop op_addAll rel_add (kslice (kv 0) konone (kosome (kv 4))) (kslice (kv 0) (kosome (kv 5)) konone)))) snil)
    (scons (sif (ktcmp (op_eqP hr.units) (rel_eq false) (kv 2) kstr) (sone (sret (kop op_addAll rel_add (kop op_addAll rel_add (kslice (kv 0) konone (kosome (kv 4))) (kslice (kv 0) (kosome (kop op_addAll rel_add (kv 4) kint)) (kosome (kop op_sub (rel_I0 fun _ _ _ => .int _) (kv 5) kint)))) (kslice (kv 0) (kosome (kv 5)) konone)))) snil)
    (sone (sret (kop op_addAll rel_add (kop op_addAll rel_add (kop op_addAll rel_add (kop op_addAll rel_add (kslice (kv 0) konone (kosome (kv 4))) (ktup (kcons (kc g_begin_of l_begin_of hr rfl (kcons (kix ix_seq rel_ix (kv 1) kint) knil)) knil))) (kslice (kv 0) (kosome (kv 4)) (kosome (kv 5)))) (ktup (kcons (kc g_end_of l_end_of hr rfl (kcons (kix ix_seq rel_ix (kv 1) kint) knil)) knil))) (kslice (kv 0) (kosome (kv 5)) konone)))))))))))))

/-! ### done_all -/
abbrev s_done_all : Stmt := topS 15
abbrev N_done_all : List Str := ["row", "deeds", "index", "deed", "word"]
theorem sc_done_all : FnScope N_done_all ["row", "deeds"] (defScope s_done_all) := ⟨rfl, rfl, rfl, by decide +kernel, rfl, by decide +kernel, by decide +kernel⟩
def c_done_all (p_stop_of : CSp) (p_done : CSp)  : CS :=
    (cSeq (cFor (iEnm 2 3 (cVar 1)) (cSeq (cSet 4 (cCall p_stop_of (cCons (cVar 0) (cCons (cVar 3) cNil))))
    (cSeq (cIfS (cB (cOp (fIs true) (cVar 4) (cC .non))) (cRet (cTup (cCons (cC (.str "stops")) (cCons (cVar 2) (cCons (cVar 4) cNil))))) cSkip)
    (cSet 0 (cCall p_done (cCons (cVar 0) (cCons (cVar 3) cNil)))))))
    (cRet (cTup (cCons (cC (.str "does")) (cCons (cVar 0) cNil)))))
theorem d_done_all {f : Addr} {k : Nat} (B : Bl mg) {j_stop_of : Nat} {q_stop_of : List Str} {p_stop_of : CSp} (g_stop_of : CalC P w K mg base "stop_of" j_stop_of q_stop_of p_stop_of) (l_stop_of : j_stop_of ≤ k) {j_done : Nat} {q_done : List Str} {p_done : CSp} (g_done : CalC P w K mg base "done" j_done q_done p_done) (l_done : j_done ≤ k)  (cdv : Value) (A : Around) (outer : List Env) (s : Shared) (H : Hp) (E : XK) (hr : Room k (A.deeper (envOfC "done_all" (defScope s_done_all) s.heap.objs.size f cdv))) :
    PSs (cxOf CX0 P w K mg base N_done_all "done_all" (defScope s_done_all) f cdv A outer s H E).nox (defBody s_done_all) (liftS K (c_done_all p_stop_of p_done)) := by
  have hN := sc_done_all.nd
  have hu := hu_of hr
  exact (scons (sfor PassesOwn.never rfl (pi_enumT rfl B.enm (pa_cons (kv 1) pa_nil)) (gtwo (i := 2) (j := 3) rfl hN) rel_enm (scons (sset (i := 4) hN (kc g_stop_of l_stop_of hr rfl (kcons (kv 0) (kcons (kv 3) knil))))
    (scons (sif (ktcmp op_notN rel_isnt (kv 4) knon) (sone (sret (ktup (kcons kstr (kcons (kv 2) (kcons (kv 4) knil)))))) snil)
    (sone (sset (i := 0) hN (kc g_done l_done hr rfl (kcons (kv 0) (kcons (kv 3) knil))))))))
    (sone (sret (ktup (kcons kstr (kcons (kv 0) knil))))))

/-! ### all_rows -/
abbrev s_all_rows : Stmt := topS 16
abbrev N_all_rows : List Str := ["names", "found", "waiting", "row", "still", "steps", "name", "after", "step"]
theorem sc_all_rows : FnScope N_all_rows ["names"] (defScope s_all_rows) := ⟨rfl, rfl, rfl, by decide +kernel, rfl, by decide +kernel, by decide +kernel⟩
def c_all_rows (p_begin_of : CSp) (p_end_of : CSp)  : CS :=
    (cSeq (cSet 1 (cLst cNil))
    (cSeq (cSet 2 (cLst (cCons (cTup (cCons (cTup cNil) (cCons (cTup cNil) cNil))) cNil)))
    (cSeq (cWhile (cB (cOp (fEq true) (cVar 2) (cLst cNil))) (cSeq (cSetT [3, 4] (cMet fPop (cVar 2) cNil))
    (cIfS (cB (cOp (fEq false) (cCall fLen (cCons (cVar 3) cNil)) (cOp fMul (cC (.int 2)) (cCall fLen (cCons (cVar 0) cNil))))) (cDrop (cMet fAppend (cVar 1) (cCons (cVar 3) cNil))) (cSeq (cSet 5 (cLc (iL 6 (cSrtSet (cVar 0))) [6] (cB (cOp (fIn true) (cCall p_begin_of (cCons (cVar 6) cNil)) (cVar 3))) (cCall p_begin_of (cCons (cVar 6) cNil))))
    (cSeq (cSet 7 (cLc (iL 8 (cVar 5)) [8] cYes (cTup (cCons (cOp fAdd (cVar 3) (cTup (cCons (cVar 8) cNil))) (cCons (cOp fAdd (cVar 4) (cTup (cCons (cSl (cVar 8) (oSome (cC (.int 1))) oNone) cNil))) cNil)))))
    (cSeq (cIfS (cB (cOp (fEq true) (cVar 4) (cTup cNil))) (cDrop (cMet fAppend (cVar 7) (cCons (cTup (cCons (cOp fAdd (cVar 3) (cTup (cCons (cCall p_end_of (cCons (cOp fIx (cVar 4) (cNeg (cC (.int 1)))) cNil)) cNil))) (cCons (cSl (cVar 4) oNone (oSome (cNeg (cC (.int 1))))) cNil))) cNil))) cSkip)
    (cDrop (cMet fExtend (cVar 2) (cCons (cRevL (cVar 7)) cNil)))))))))
    (cRet (cVar 1)))))
theorem d_all_rows {f : Addr} {k : Nat} (B : Bl mg) {j_begin_of : Nat} {q_begin_of : List Str} {p_begin_of : CSp} (g_begin_of : CalC P w K mg base "begin_of" j_begin_of q_begin_of p_begin_of) (l_begin_of : j_begin_of ≤ k) {j_end_of : Nat} {q_end_of : List Str} {p_end_of : CSp} (g_end_of : CalC P w K mg base "end_of" j_end_of q_end_of p_end_of) (l_end_of : j_end_of ≤ k)  (cdv : Value) (A : Around) (outer : List Env) (s : Shared) (H : Hp) (E : XK) (hr : Room k (A.deeper (envOfC "all_rows" (defScope s_all_rows) s.heap.objs.size f cdv))) :
    PSs (cxOf CX0 P w K mg base N_all_rows "all_rows" (defScope s_all_rows) f cdv A outer s H E).nox (defBody s_all_rows) (liftS K (c_all_rows p_begin_of p_end_of)) := by
  have hN := sc_all_rows.nd
  have hu := hu_of hr
  exact (scons (sset (i := 1) hN (klst knil))
    (scons (sset (i := 2) hN (klst (kcons (ktup (kcons (ktup knil) (kcons (ktup knil) knil))) knil)))
    (scons (swhile PassesOwn.never (ktcmp (op_neP hr.units) (rel_eq true) (kv 2) (klst knil)) (scons (ssetT rfl (kmet0 PySem.F.slot_list_pop PySem.F.type_list_pop mt_popAll rel_pop (kv 2)) (tgcons (i := 3) hN (tgcons (i := 4) hN tgnil)))
    (sone (sif (ktcmp (op_eqP hr.units) (rel_eq false) (kLen B rfl (kcons (kv 3) knil)) (kop op_mulAll rel_mul kint (kLen B rfl (kcons (kv 0) knil)))) (sone (sdrop (kmet PySem.F.slot_list_append PySem.F.type_list_append mt_append rel_append (kv 1) (kcons (kv 3) knil)))) (scons (slc (i := 5) (own := [("name", 6)]) rfl hN (pi_list (ksrtSet rfl rfl B.srt rfl B.set (kv 0))) rel_L (own_name (by decide)) (blkOk_by (show blkC N_all_rows (defScope s_all_rows) _ _ = true by decide +kernel)) (fun _ _ _ _ _ => (pg_name (i := 6) hN rfl (by first | exact Or.inl rfl | exact Or.inr rfl) (by first | exact .inl rfl | exact .inr rfl))) (fun _ _ _ _ _ => (ktsone (ktcmp op_notIn_seq (rel_in true) (kc g_begin_of l_begin_of hr rfl (kcons (kv 6) knil)) (kv 3)))) (fun _ _ _ _ _ => (kc g_begin_of l_begin_of hr rfl (kcons (kv 6) knil))))
    (scons (slc (i := 7) (own := [("step", 8)]) rfl hN (pi_list (kv 5)) rel_L (own_name (by decide)) (blkOk_by (show blkC N_all_rows (defScope s_all_rows) _ _ = true by decide +kernel)) (fun _ _ _ _ _ => (pg_name (i := 8) hN rfl (by first | exact Or.inl rfl | exact Or.inr rfl) (by first | exact .inl rfl | exact .inr rfl))) (fun _ _ _ _ _ => ktsnil) (fun _ _ _ _ _ => (ktup (kcons (kop op_addAll rel_add (kv 3) (ktup (kcons (kv 8) knil))) (kcons (kop op_addAll rel_add (kv 4) (ktup (kcons (kslice (kv 8) (kosome kint) konone) knil))) knil)))))
    (scons (sif (ktcmp (op_neP hr.units) (rel_eq true) (kv 4) (ktup knil)) (sone (sdrop (kmet PySem.F.slot_list_append PySem.F.type_list_append mt_append rel_append (kv 7) (kcons (ktup (kcons (kop op_addAll rel_add (kv 3) (ktup (kcons (kc g_end_of l_end_of hr rfl (kcons (kix ix_seq rel_ix (kv 4) (kneg kint)) knil)) knil))) (kcons (kslice (kv 4) konone (kosome (kneg kint))) knil))) knil)))) snil)
    (sone (sdrop (kmet PySem.F.slot_list_extend PySem.F.type_list_extend mt_extAll rel_extend (kv 2) (kcons (krevL (kv 7)) knil)))))))))))
    (sone (sret (kv 1))))))

/-! ### with_gaps -/
abbrev s_with_gaps : Stmt := topS 17
abbrev N_with_gaps : List Str := ["row", "found", "at", "end"]
theorem sc_with_gaps : FnScope N_with_gaps ["row"] (defScope s_with_gaps) := ⟨rfl, rfl, rfl, by decide +kernel, rfl, by decide +kernel, by decide +kernel⟩
def c_with_gaps   : CS :=
    (cSeq (cSet 1 (cTup (cCons (cC (.int 0)) cNil)))
    (cSeq (cFor (iEnm 2 3 (cVar 0)) (cSet 1 (cOp fAdd (cVar 1) (cTup (cCons (cVar 3) (cCons (cOp fAdd (cVar 2) (cC (.int 1))) cNil))))))
    (cRet (cVar 1))))
theorem d_with_gaps {f : Addr} {k : Nat} (B : Bl mg)   (cdv : Value) (A : Around) (outer : List Env) (s : Shared) (H : Hp) (E : XK) (hr : Room k (A.deeper (envOfC "with_gaps" (defScope s_with_gaps) s.heap.objs.size f cdv))) :
    PSs (cxOf CX0 P w K mg base N_with_gaps "with_gaps" (defScope s_with_gaps) f cdv A outer s H E).nox (defBody s_with_gaps) (liftS K (c_with_gaps )) := by
  have hN := sc_with_gaps.nd
  have hu := hu_of hr
  exact (scons (sset (i := 1) hN (ktup (kcons kint knil)))
    (scons (sfor PassesOwn.never rfl (pi_enumT rfl B.enm (pa_cons (kv 0) pa_nil)) (gtwo (i := 2) (j := 3) rfl hN) rel_enm (sone (sset (i := 1) hN (kop op_addAll rel_add (kv 1) (ktup (kcons (kv 3) (kcons (kop op_addAll rel_add (kv 2) kint) knil)))))))
    (sone (sret (kv 1)))))

/-! ### without_gaps -/
abbrev s_without_gaps : Stmt := topS 18
abbrev N_without_gaps : List Str := ["row", "item"]
theorem sc_without_gaps : FnScope N_without_gaps ["row"] (defScope s_without_gaps) := ⟨rfl, rfl, rfl, by decide +kernel, rfl, by decide +kernel, by decide +kernel⟩
def c_without_gaps   : CS :=
    (cRet (cCall fKeyOf (cCons (cLc (iT 1 (cVar 0)) [1] (cNot (cB (cIsi "int" (cVar 1)))) (cVar 1)) cNil)))
theorem d_without_gaps {f : Addr} {k : Nat} (B : Bl mg)   (cdv : Value) (A : Around) (outer : List Env) (s : Shared) (H : Hp) (E : XK) (hr : Room k (A.deeper (envOfC "without_gaps" (defScope s_without_gaps) s.heap.objs.size f cdv))) :
    PSs (cxOf CX0 P w K mg base N_without_gaps "without_gaps" (defScope s_without_gaps) f cdv A outer s H E).nox (defBody s_without_gaps) (liftS K (c_without_gaps )) := by
  have hN := sc_without_gaps.nd
  have hu := hu_of hr
  exact (sone (sret (kKeyOf B rfl (kcons (klc (own := [("item", 1)]) rfl hN (pi_tup (kv 0)) rel_T (own_name (by decide)) (blkOk_by (show blkC N_without_gaps (defScope s_without_gaps) _ _ = true by decide +kernel)) (fun _ _ _ _ _ => (pg_name (i := 1) hN rfl (by first | exact Or.inl rfl | exact Or.inr rfl) (by first | exact .inl rfl | exact .inr rfl))) (fun _ _ _ _ _ => (ktsone (knot (ktest (kisi (T := "int") (by decide) rfl B.isi rfl B.int (by decide +kernel) (kv 1)))))) (fun _ _ _ _ _ => (kv 1))) knil))))

/-! ### filled_row -/
abbrev s_filled_row : Stmt := topS 19
abbrev N_filled_row : List Str := ["row", "gaps", "found", "item"]
theorem sc_filled_row : FnScope N_filled_row ["row", "gaps"] (defScope s_filled_row) := ⟨rfl, rfl, rfl, by decide +kernel, rfl, by decide +kernel, by decide +kernel⟩
def c_filled_row   : CS :=
    (cSeq (cSet 2 (cTup cNil))
    (cSeq (cFor (iT 3 (cVar 0)) (cSet 2 (cOp fAdd (cVar 2) (cIf (cB (cIsi "int" (cVar 3))) (cOp fIx (cVar 1) (cVar 3)) (cTup (cCons (cVar 3) cNil))))))
    (cRet (cVar 2))))
theorem d_filled_row {f : Addr} {k : Nat} (B : Bl mg)   (cdv : Value) (A : Around) (outer : List Env) (s : Shared) (H : Hp) (E : XK) (hr : Room k (A.deeper (envOfC "filled_row" (defScope s_filled_row) s.heap.objs.size f cdv))) :
    PSs (cxOf CX0 P w K mg base N_filled_row "filled_row" (defScope s_filled_row) f cdv A outer s H E).nox (defBody s_filled_row) (liftS K (c_filled_row )) := by
  have hN := sc_filled_row.nd
  have hu := hu_of hr
  exact (scons (sset (i := 2) hN (ktup knil))
    (scons (sfor PassesOwn.never rfl (pi_tup (kv 0)) (pg_name (i := 3) hN rfl (by first | exact Or.inl rfl | exact Or.inr rfl) (by first | exact .inl rfl | exact .inr rfl)) rel_T (sone (sset (i := 2) hN (kop op_addAll rel_add (kv 2) (kif (ktest (kisi (T := "int") (by decide) rfl B.isi rfl B.int (by decide +kernel) (kv 3))) (kix ix_seq rel_ix (kv 1) (kv 3)) (ktup (kcons (kv 3) knil)))))))
    (sone (sret (kv 2)))))

/-! ### leaf -/
abbrev s_leaf : Stmt := topS 20
abbrev N_leaf : List Str := ["name"]
theorem sc_leaf : FnScope N_leaf ["name"] (defScope s_leaf) := ⟨rfl, rfl, rfl, by decide +kernel, rfl, by decide +kernel, by decide +kernel⟩
def c_leaf (p_end_of : CSp) (p_begin_of : CSp)  : CS :=
    (cRet (cTup (cCons (cCall p_begin_of (cCons (cVar 0) cNil)) (cCons (cCall p_end_of (cCons (cVar 0) cNil)) cNil))))
theorem d_leaf {f : Addr} {k : Nat} (B : Bl mg) {j_end_of : Nat} {q_end_of : List Str} {p_end_of : CSp} (g_end_of : CalC P w K mg base "end_of" j_end_of q_end_of p_end_of) (l_end_of : j_end_of ≤ k) {j_begin_of : Nat} {q_begin_of : List Str} {p_begin_of : CSp} (g_begin_of : CalC P w K mg base "begin_of" j_begin_of q_begin_of p_begin_of) (l_begin_of : j_begin_of ≤ k)  (cdv : Value) (A : Around) (outer : List Env) (s : Shared) (H : Hp) (E : XK) (hr : Room k (A.deeper (envOfC "leaf" (defScope s_leaf) s.heap.objs.size f cdv))) :
    PSs (cxOf CX0 P w K mg base N_leaf "leaf" (defScope s_leaf) f cdv A outer s H E).nox (defBody s_leaf) (liftS K (c_leaf p_end_of p_begin_of)) := by
  have hN := sc_leaf.nd
  have hu := hu_of hr
  exact (sone (sret (ktup (kcons (kc g_begin_of l_begin_of hr rfl (kcons (kv 0) knil)) (kcons (kc g_end_of l_end_of hr rfl (kcons (kv 0) knil)) knil)))))

/-! ### fresh -/
abbrev s_fresh : Stmt := topS 21
abbrev N_fresh : List Str := ["names", "many", "letters", "some", "one", "other", "name"]
theorem sc_fresh : FnScope N_fresh ["names", "many"] (defScope s_fresh) := ⟨rfl, rfl, rfl, by decide +kernel, rfl, by decide +kernel, by decide +kernel⟩
def c_fresh   : CS :=
    (cSeq (cSet 2 (cC (.str "xyzuvwstabcdefghijklmnopqr")))
    (cSeq (cSet 3 (cOp fAdd (cLc (iStrS 4 (cVar 2)) [4] cYes (cVar 4)) (cLc2 (iStrS 4 (cVar 2)) [4, 5] cYes (iL 5 (cLst (cCons (cC (.str "x")) cNil))) [5] cYes (cOp fAdd (cVar 4) (cVar 5)))))
    (cRet (cSl (cLc (iL 6 (cVar 3)) [6] (cB (cOp (fIn true) (cVar 6) (cVar 0))) (cVar 6)) oNone (oSome (cVar 1))))))
theorem d_fresh {f : Addr} {k : Nat} (B : Bl mg)   (cdv : Value) (A : Around) (outer : List Env) (s : Shared) (H : Hp) (E : XK) (hr : Room k (A.deeper (envOfC "fresh" (defScope s_fresh) s.heap.objs.size f cdv))) :
    PSs (cxOf CX0 P w K mg base N_fresh "fresh" (defScope s_fresh) f cdv A outer s H E).nox (defBody s_fresh) (liftS K (c_fresh )) := by
  have hN := sc_fresh.nd
  have hu := hu_of hr
  exact (scons (sset (i := 2) hN kstr)
    (scons (sset (i := 3) hN (kop op_addAll rel_add (klc (own := [("one", 4)]) rfl hN (pi_str (kv 2)) rel_S (own_name (by decide)) (blkOk_by (show blkC N_fresh (defScope s_fresh) _ _ = true by decide +kernel)) (fun _ _ _ _ _ => (pg_name (i := 4) hN rfl (by first | exact Or.inl rfl | exact Or.inr rfl) (by first | exact .inl rfl | exact .inr rfl))) (fun _ _ _ _ _ => ktsnil) (fun _ _ _ _ _ => (kv 4))) (klc2 (own := [("one", 4), ("other", 5)]) (vs1 := [5]) rfl hN (pi_str (kv 2)) rel_S (own_name (by decide)) rel_L (own_name (by decide)) (blkOk_by (show blkC N_fresh (defScope s_fresh) _ _ = true by decide +kernel)) (by decide) (fun _ _ _ _ _ => (pg_name (i := 4) hN rfl (by first | exact Or.inl rfl | exact Or.inr rfl) (by first | exact .inl rfl | exact .inr rfl))) (fun _ _ _ _ _ => ktsnil) (fun _ _ _ _ _ => (pi_list (klst (kcons kstr knil)))) (fun _ _ _ _ _ => (pg_name (i := 5) hN rfl (by first | exact Or.inl rfl | exact Or.inr rfl) (by first | exact .inl rfl | exact .inr rfl))) (fun _ _ _ _ _ => ktsnil) (fun _ _ _ _ _ => (kop op_addAll rel_add (kv 4) (kv 5))))))
    (sone (sret (kslice (klc (own := [("name", 6)]) rfl hN (pi_list (kv 3)) rel_L (own_name (by decide)) (blkOk_by (show blkC N_fresh (defScope s_fresh) _ _ = true by decide +kernel)) (fun _ _ _ _ _ => (pg_name (i := 6) hN rfl (by first | exact Or.inl rfl | exact Or.inr rfl) (by first | exact .inl rfl | exact .inr rfl))) (fun _ _ _ _ _ => (ktsone (ktcmp op_notIn_seq (rel_in true) (kv 6) (kv 0)))) (fun _ _ _ _ _ => (kv 6))) konone (kosome (kv 1)))))))

/-! ### row_of -/
abbrev s_row_of : Stmt := topS 26
abbrev N_row_of : List Str := ["wood", "found", "waiting", "item"]
theorem sc_row_of : FnScope N_row_of ["wood"] (defScope s_row_of) := ⟨rfl, rfl, rfl, by decide +kernel, rfl, by decide +kernel, by decide +kernel⟩
def c_row_of (p_begin_of : CSp) (p_end_of : CSp)  : CS :=
    (cSeq (cSet 1 (cLst cNil))
    (cSeq (cSet 2 (cCall fLstOf (cCons (cRevT (cVar 0)) cNil)))
    (cSeq (cWhile (cB (cOp (fEq true) (cVar 2) (cLst cNil))) (cSeq (cSet 3 (cMet fPop (cVar 2) cNil))
    (cIfS (cB (cIsi "str" (cVar 3))) (cDrop (cMet fAppend (cVar 1) (cCons (cVar 3) cNil))) (cSeq (cDrop (cMet fAppend (cVar 1) (cCons (cCall p_begin_of (cCons (cOp fIx (cVar 3) (cC (.int 0))) cNil)) cNil)))
    (cSeq (cDrop (cMet fAppend (cVar 2) (cCons (cCall p_end_of (cCons (cOp fIx (cVar 3) (cC (.int 0))) cNil)) cNil)))
    (cDrop (cMet fExtend (cVar 2) (cCons (cRevT (cOp fIx (cVar 3) (cC (.int 1)))) cNil))))))))
    (cRet (cCall fTupOf (cCons (cVar 1) cNil))))))
theorem d_row_of {f : Addr} {k : Nat} (B : Bl mg) {j_begin_of : Nat} {q_begin_of : List Str} {p_begin_of : CSp} (g_begin_of : CalC P w K mg base "begin_of" j_begin_of q_begin_of p_begin_of) (l_begin_of : j_begin_of ≤ k) {j_end_of : Nat} {q_end_of : List Str} {p_end_of : CSp} (g_end_of : CalC P w K mg base "end_of" j_end_of q_end_of p_end_of) (l_end_of : j_end_of ≤ k)  (cdv : Value) (A : Around) (outer : List Env) (s : Shared) (H : Hp) (E : XK) (hr : Room k (A.deeper (envOfC "row_of" (defScope s_row_of) s.heap.objs.size f cdv))) :
    PSs (cxOf CX0 P w K mg base N_row_of "row_of" (defScope s_row_of) f cdv A outer s H E).nox (defBody s_row_of) (liftS K (c_row_of p_begin_of p_end_of)) := by
  have hN := sc_row_of.nd
  have hu := hu_of hr
  exact (scons (sset (i := 1) hN (klst knil))
    (scons (sset (i := 2) hN (kLstOf B rfl (kcons (krevT (kv 0)) knil)))
    (scons (swhile PassesOwn.never (ktcmp (op_neP hr.units) (rel_eq true) (kv 2) (klst knil)) (scons (sset (i := 3) hN (kmet0 PySem.F.slot_list_pop PySem.F.type_list_pop mt_popAll rel_pop (kv 2)))
    (sone (sif (ktest (kisi (T := "str") (by decide) rfl B.isi rfl B.str (by decide +kernel) (kv 3))) (sone (sdrop (kmet PySem.F.slot_list_append PySem.F.type_list_append mt_append rel_append (kv 1) (kcons (kv 3) knil)))) (scons (sdrop (kmet PySem.F.slot_list_append PySem.F.type_list_append mt_append rel_append (kv 1) (kcons (kc g_begin_of l_begin_of hr rfl (kcons (kix ix_seq rel_ix (kv 3) kint) knil)) knil)))
    (scons (sdrop (kmet PySem.F.slot_list_append PySem.F.type_list_append mt_append rel_append (kv 2) (kcons (kc g_end_of l_end_of hr rfl (kcons (kix ix_seq rel_ix (kv 3) kint) knil)) knil)))
    (sone (sdrop (kmet PySem.F.slot_list_extend PySem.F.type_list_extend mt_extAll rel_extend (kv 2) (kcons (krevT (kix ix_seq rel_ix (kv 3) kint)) knil))))))))))
    (sone (sret (kTupOf B rfl (kcons (kv 1) knil)))))))

/-! ### wood_from -/
abbrev s_wood_from : Stmt := topS 27
abbrev N_wood_from : List Str := ["row", "still", "end", "inside"]
theorem sc_wood_from : FnScope N_wood_from ["row"] (defScope s_wood_from) := ⟨rfl, rfl, rfl, by decide +kernel, rfl, by decide +kernel, by decide +kernel⟩
def c_wood_from   : CS :=
    (cSeq (cSet 1 (cLst (cCons (cLst cNil) cNil)))
    (cSeq (cFor (iT 2 (cVar 0)) (cIfS (cB (cOp (fEq false) (cOp fIx (cVar 2) (cC (.int 0))) (cC (.str "+")))) (cDrop (cMet fAppend (cVar 1) (cCons (cLst cNil) cNil))) (cSeq (cSet 3 (cCall fTupOf (cCons (cMet fPop (cVar 1) cNil) cNil)))
    (cDrop (cMet fAppend (cOp fIx (cVar 1) (cNeg (cC (.int 1)))) (cCons (cTup (cCons (cSl (cVar 2) (oSome (cC (.int 1))) oNone) (cCons (cVar 3) cNil))) cNil))))))
    (cRet (cCall fTupOf (cCons (cOp fIx (cVar 1) (cC (.int 0))) cNil)))))
theorem d_wood_from {f : Addr} {k : Nat} (B : Bl mg)   (cdv : Value) (A : Around) (outer : List Env) (s : Shared) (H : Hp) (E : XK) (hr : Room k (A.deeper (envOfC "wood_from" (defScope s_wood_from) s.heap.objs.size f cdv))) :
    PSs (cxOf CX0 P w K mg base N_wood_from "wood_from" (defScope s_wood_from) f cdv A outer s H E).nox (defBody s_wood_from) (liftS K (c_wood_from )) := by
  have hN := sc_wood_from.nd
  have hu := hu_of hr
  exact (scons (sset (i := 1) hN (klst (kcons (klst knil) knil)))
    (scons (sfor PassesOwn.never rfl (pi_tup (kv 0)) (pg_name (i := 2) hN rfl (by first | exact Or.inl rfl | exact Or.inr rfl) (by first | exact .inl rfl | exact .inr rfl)) rel_T (sone (sif (ktcmp (op_eqP hr.units) (rel_eq false) (kix ix_seq rel_ix (kv 2) kint) kstr) (sone (sdrop (kmet PySem.F.slot_list_append PySem.F.type_list_append mt_append rel_append (kv 1) (kcons (klst knil) knil)))) (scons (sset (i := 3) hN (kTupOf B rfl (kcons (kmet0 PySem.F.slot_list_pop PySem.F.type_list_pop mt_popAll rel_pop (kv 1)) knil)))
    (sone (sdrop (kmet PySem.F.slot_list_append PySem.F.type_list_append mt_append rel_append (kix ix_seq rel_ix (kv 1) (kneg kint)) (kcons (ktup (kcons (kslice (kv 2) (kosome kint) konone) (kcons (kv 3) knil))) knil))))))))
    (sone (sret (kTupOf B rfl (kcons (kix ix_seq rel_ix (kv 1) kint) knil))))))

/-! ### makes -/
abbrev s_makes : Stmt := topS 29
abbrev N_makes : List Str := ["deed", "k"]
theorem sc_makes : FnScope N_makes ["deed", "k"] (defScope s_makes) := ⟨rfl, rfl, rfl, by decide +kernel, rfl, by decide +kernel, by decide +kernel⟩
def c_makes   : CS :=
    (cRet (cOrV (cAndV (cOp (fEq false) (cOp fIx (cVar 0) (cC (.int 0))) (cC (.str "wrap"))) (cOp (fEq false) (cVar 1) (cC (.int 2)))) (cAndV (cOp (fEq false) (cOp fIx (cVar 0) (cC (.int 0))) (cC (.str "put"))) (cOp (fEq false) (cVar 1) (cC (.int 1))))))
theorem d_makes {f : Addr} {k : Nat} (B : Bl mg)   (cdv : Value) (A : Around) (outer : List Env) (s : Shared) (H : Hp) (E : XK) (hr : Room k (A.deeper (envOfC "makes" (defScope s_makes) s.heap.objs.size f cdv))) :
    PSs (cxOf CX0 P w K mg base N_makes "makes" (defScope s_makes) f cdv A outer s H E).nox (defBody s_makes) (liftS K (c_makes )) := by
  have hN := sc_makes.nd
  have hu := hu_of hr
  exact (sone (sret (korV (kandV (kcmp (op_eqP hr.units) (rel_eq false) (kix ix_seq rel_ix (kv 0) kint) kstr) (kone (kcmp (op_eqP hr.units) (rel_eq false) (kv 1) kint))) (kone (kandV (kcmp (op_eqP hr.units) (rel_eq false) (kix ix_seq rel_ix (kv 0) kint) kstr) (kone (kcmp (op_eqP hr.units) (rel_eq false) (kv 1) kint)))))))

/-! ### roles -/
abbrev s_roles : Stmt := topS 30
abbrev N_roles : List Str := ["deeds", "found", "deed", "k", "item"]
theorem sc_roles : FnScope N_roles ["deeds"] (defScope s_roles) := ⟨rfl, rfl, rfl, by decide +kernel, rfl, by decide +kernel, by decide +kernel⟩
def c_roles (p_makes : CSp)  : CS :=
    (cSeq (cSet 1 cDNewK)
    (cSeq (cFor (iT 2 (cVar 0)) (cFor (iEnm 3 4 (cVar 2)) (cIfS (cB (cOp fGt (cVar 3) (cC (.int 0)))) (cDrop (cDSetd (cVar 1) (cVar 4) (cCall p_makes (cCons (cVar 2) (cCons (cVar 3) cNil))))) cSkip)))
    (cRet (cVar 1))))
theorem d_roles {f : Addr} {k : Nat} (B : Bl mg) {j_makes : Nat} {q_makes : List Str} {p_makes : CSp} (g_makes : CalC P w K mg base "makes" j_makes q_makes p_makes) (l_makes : j_makes ≤ k)  (cdv : Value) (A : Around) (outer : List Env) (s : Shared) (H : Hp) (E : XK) (hr : Room k (A.deeper (envOfC "roles" (defScope s_roles) s.heap.objs.size f cdv))) :
    PSs (cxOf CX0 P w K mg base N_roles "roles" (defScope s_roles) f cdv A outer s H E).nox (defBody s_roles) (liftS K (c_roles p_makes)) := by
  have hN := sc_roles.nd
  have hu := hu_of hr
  exact (scons (sset (i := 1) hN kdnewK)
    (scons (sfor PassesOwn.never rfl (pi_tup (kv 0)) (pg_name (i := 2) hN rfl (by first | exact Or.inl rfl | exact Or.inr rfl) (by first | exact .inl rfl | exact .inr rfl)) rel_T (sone (sfor PassesOwn.never rfl (pi_enumT rfl B.enm (pa_cons (kv 2) pa_nil)) (gtwo (i := 3) (j := 4) rfl hN) rel_enm (sone (sif (ktcmp op_gt (rel_I0 fun _ _ _ => .bl _) (kv 3) kint) (sone (sdrop (kdsetd (kv 1) (kv 4) (kc g_makes l_makes hr rfl (kcons (kv 2) (kcons (kv 3) knil))) ⟨rfl, rfl, rfl, rfl⟩))) snil)))))
    (sone (sret (kv 1)))))

/-! ### old_names -/
abbrev s_old_names : Stmt := topS 31
abbrev N_old_names : List Str := ["script", "name", "is_new"]
theorem sc_old_names : FnScope N_old_names ["script"] (defScope s_old_names) := ⟨rfl, rfl, rfl, by decide +kernel, rfl, by decide +kernel, by decide +kernel⟩
def c_old_names (p_roles : CSp)  : CS :=
    (cRet (cCall fTupOf (cCons (cCall fSortS (cCons (cLc (iItemsN 1 2 (cCall p_roles (cCons (cVar 0) cNil))) [1, 2] (cNot (cB (cVar 2))) (cVar 1)) cNil)) cNil)))
theorem d_old_names {f : Addr} {k : Nat} (B : Bl mg) {j_roles : Nat} {q_roles : List Str} {p_roles : CSp} (g_roles : CalC P w K mg base "roles" j_roles q_roles p_roles) (l_roles : j_roles ≤ k)  (cdv : Value) (A : Around) (outer : List Env) (s : Shared) (H : Hp) (E : XK) (hr : Room k (A.deeper (envOfC "old_names" (defScope s_old_names) s.heap.objs.size f cdv))) :
    PSs (cxOf CX0 P w K mg base N_old_names "old_names" (defScope s_old_names) f cdv A outer s H E).nox (defBody s_old_names) (liftS K (c_old_names p_roles)) := by
  have hN := sc_old_names.nd
  have hu := hu_of hr
  exact (sone (sret (kTupOf B rfl (kcons (kSortS B rfl (kcons (klc (own := [("name", 1), ("is_new", 2)]) rfl hN (pi_items (pe_frz (kc g_roles l_roles hr rfl (kcons (kv 0) knil)))) rel_items (own_two (by decide) (by decide)) (blkOk_by (show blkC N_old_names (defScope s_old_names) _ _ = true by decide +kernel)) (fun _ _ _ _ _ => (gtwo (i := 1) (j := 2) rfl hN)) (fun _ _ _ _ _ => (ktsone (knot (ktest (kv 2))))) (fun _ _ _ _ _ => (kv 1))) knil)) knil))))

/-! ### names_in -/
abbrev s_names_in : Stmt := topS 34
abbrev N_names_in : List Str := ["deeds", "found", "deed"]
theorem sc_names_in : FnScope N_names_in ["deeds"] (defScope s_names_in) := ⟨rfl, rfl, rfl, by decide +kernel, rfl, by decide +kernel, by decide +kernel⟩
def c_names_in   : CS :=
    (cSeq (cSet 1 (cLst cNil))
    (cSeq (cFor (iT 2 (cVar 0)) (cDrop (cMet fExtend (cVar 1) (cCons (cSl (cVar 2) (oSome (cC (.int 1))) oNone) cNil))))
    (cRet (cCall fTupOf (cCons (cSrtSet (cVar 1)) cNil)))))
theorem d_names_in {f : Addr} {k : Nat} (B : Bl mg)   (cdv : Value) (A : Around) (outer : List Env) (s : Shared) (H : Hp) (E : XK) (hr : Room k (A.deeper (envOfC "names_in" (defScope s_names_in) s.heap.objs.size f cdv))) :
    PSs (cxOf CX0 P w K mg base N_names_in "names_in" (defScope s_names_in) f cdv A outer s H E).nox (defBody s_names_in) (liftS K (c_names_in )) := by
  have hN := sc_names_in.nd
  have hu := hu_of hr
  exact (scons (sset (i := 1) hN (klst knil))
    (scons (sfor PassesOwn.never rfl (pi_tup (kv 0)) (pg_name (i := 2) hN rfl (by first | exact Or.inl rfl | exact Or.inr rfl) (by first | exact .inl rfl | exact .inr rfl)) rel_T (sone (sdrop (kmet PySem.F.slot_list_extend PySem.F.type_list_extend mt_extAll rel_extend (kv 1) (kcons (kslice (kv 2) (kosome kint) konone) knil)))))
    (sone (sret (kTupOf B rfl (kcons (ksrtSet rfl rfl B.srt rfl B.set (kv 1)) knil))))))

/-! ### wood_with -/
abbrev s_wood_with : Stmt := topS 35
abbrev N_wood_with : List Str := ["row", "gaps", "names", "leaves", "filling", "gap", "name"]
theorem sc_wood_with : FnScope N_wood_with ["row", "gaps", "names"] (defScope s_wood_with) := ⟨rfl, rfl, rfl, by decide +kernel, rfl, by decide +kernel, by decide +kernel⟩
def c_wood_with (p_fresh : CSp) (p_leaf : CSp) (p_with_gaps : CSp) (p_filled_row : CSp) (p_wood_from : CSp)  : CS :=
    (cSeq (cSet 3 (cCall p_fresh (cCons (cVar 2) (cCons (cCall fLen (cCons (cVar 1) cNil)) cNil))))
    (cSeq (cSet 4 (cOp fMul (cLst (cCons (cTup cNil) cNil)) (cOp fAdd (cCall fLen (cCons (cVar 0) cNil)) (cC (.int 1)))))
    (cSeq (cFor (iZipTL 5 6 (cVar 1) (cVar 3)) (cLPut (cVar 4) (cVar 5) (cCall p_leaf (cCons (cVar 6) cNil))))
    (cRet (cCall p_wood_from (cCons (cCall p_filled_row (cCons (cCall p_with_gaps (cCons (cVar 0) cNil)) (cCons (cVar 4) cNil))) cNil))))))
theorem d_wood_with {f : Addr} {k : Nat} (B : Bl mg) {j_fresh : Nat} {q_fresh : List Str} {p_fresh : CSp} (g_fresh : CalC P w K mg base "fresh" j_fresh q_fresh p_fresh) (l_fresh : j_fresh ≤ k) {j_leaf : Nat} {q_leaf : List Str} {p_leaf : CSp} (g_leaf : CalC P w K mg base "leaf" j_leaf q_leaf p_leaf) (l_leaf : j_leaf ≤ k) {j_with_gaps : Nat} {q_with_gaps : List Str} {p_with_gaps : CSp} (g_with_gaps : CalC P w K mg base "with_gaps" j_with_gaps q_with_gaps p_with_gaps) (l_with_gaps : j_with_gaps ≤ k) {j_filled_row : Nat} {q_filled_row : List Str} {p_filled_row : CSp} (g_filled_row : CalC P w K mg base "filled_row" j_filled_row q_filled_row p_filled_row) (l_filled_row : j_filled_row ≤ k) {j_wood_from : Nat} {q_wood_from : List Str} {p_wood_from : CSp} (g_wood_from : CalC P w K mg base "wood_from" j_wood_from q_wood_from p_wood_from) (l_wood_from : j_wood_from ≤ k)  (cdv : Value) (A : Around) (outer : List Env) (s : Shared) (H : Hp) (E : XK) (hr : Room k (A.deeper (envOfC "wood_with" (defScope s_wood_with) s.heap.objs.size f cdv))) :
    PSs (cxOf CX0 P w K mg base N_wood_with "wood_with" (defScope s_wood_with) f cdv A outer s H E).nox (defBody s_wood_with) (liftS K (c_wood_with p_fresh p_leaf p_with_gaps p_filled_row p_wood_from)) := by
  have hN := sc_wood_with.nd
  have hu := hu_of hr
  exact (scons (sset (i := 3) hN (kc g_fresh l_fresh hr rfl (kcons (kv 2) (kcons (kLen B rfl (kcons (kv 1) knil)) knil))))
    (scons (sset (i := 4) hN (kop op_mulAll rel_mul (klst (kcons (ktup knil) knil)) (kop op_addAll rel_add (kLen B rfl (kcons (kv 0) knil)) kint)))
    (scons (sfor PassesOwn.never rfl (pi_zipM rfl B.zip (pa_cons (kv 1) (pa_cons (kv 3) pa_nil))) (gtwo (i := 5) (j := 6) rfl hN) rel_zipTL (sone (slput (kv 4) (kv 5) (kc g_leaf l_leaf hr rfl (kcons (kv 6) knil)))))
    (sone (sret (kc g_wood_from l_wood_from hr rfl (kcons (kc g_filled_row l_filled_row hr rfl (kcons (kc g_with_gaps l_with_gaps hr rfl (kcons (kv 0) knil)) (kcons (kv 4) knil))) knil)))))))

/-! ### lost_gap -/
abbrev s_lost_gap : Stmt := topS 36
abbrev N_lost_gap : List Str := ["row", "template", "gap"]
theorem sc_lost_gap : FnScope N_lost_gap ["row", "template"] (defScope s_lost_gap) := ⟨rfl, rfl, rfl, by decide +kernel, rfl, by decide +kernel, by decide +kernel⟩
def c_lost_gap   : CS :=
    (cSeq (cFor (iR1 2 (cCons (cOp fAdd (cCall fLen (cCons (cVar 0) cNil)) (cC (.int 1))) cNil)) (cIfS (cB (cOp (fIn true) (cVar 2) (cVar 1))) (cRet (cVar 2)) cSkip))
    (cRet (cC .non)))
theorem d_lost_gap {f : Addr} {k : Nat} (B : Bl mg)   (cdv : Value) (A : Around) (outer : List Env) (s : Shared) (H : Hp) (E : XK) (hr : Room k (A.deeper (envOfC "lost_gap" (defScope s_lost_gap) s.heap.objs.size f cdv))) :
    PSs (cxOf CX0 P w K mg base N_lost_gap "lost_gap" (defScope s_lost_gap) f cdv A outer s H E).nox (defBody s_lost_gap) (liftS K (c_lost_gap )) := by
  have hN := sc_lost_gap.nd
  have hu := hu_of hr
  exact (scons (sfor PassesOwn.never rfl (pi_range1 rfl B.rng (kcons (kop op_addAll rel_add (kLen B rfl (kcons (kv 0) knil)) kint) knil)) (pg_name (i := 2) hN rfl (by first | exact Or.inl rfl | exact Or.inr rfl) (by first | exact .inl rfl | exact .inr rfl)) rel_R1 (sone (sif (ktcmp op_notIn_seq (rel_in true) (kv 2) (kv 1)) (sone (sret (kv 2))) snil)))
    (sone (sret knon)))

/-! ### joined_gaps -/
abbrev s_joined_gaps : Stmt := topS 37
abbrev N_joined_gaps : List Str := ["template", "here", "there"]
theorem sc_joined_gaps : FnScope N_joined_gaps ["template"] (defScope s_joined_gaps) := ⟨rfl, rfl, rfl, by decide +kernel, rfl, by decide +kernel, by decide +kernel⟩
def c_joined_gaps   : CS :=
    (cSeq (cFor (iZipTT 1 2 (cVar 0) (cSl (cVar 0) (oSome (cC (.int 1))) oNone)) (cIfS (cAnd (cB (cIsi "int" (cVar 1))) (cB (cIsi "int" (cVar 2)))) (cRet (cTup (cCons (cVar 1) (cCons (cVar 2) cNil)))) cSkip))
    (cRet (cC .non)))
theorem d_joined_gaps {f : Addr} {k : Nat} (B : Bl mg)   (cdv : Value) (A : Around) (outer : List Env) (s : Shared) (H : Hp) (E : XK) (hr : Room k (A.deeper (envOfC "joined_gaps" (defScope s_joined_gaps) s.heap.objs.size f cdv))) :
    PSs (cxOf CX0 P w K mg base N_joined_gaps "joined_gaps" (defScope s_joined_gaps) f cdv A outer s H E).nox (defBody s_joined_gaps) (liftS K (c_joined_gaps )) := by
  have hN := sc_joined_gaps.nd
  have hu := hu_of hr
  exact (scons (sfor PassesOwn.never rfl (RZ.pi_zipA rfl B.zip (pa_cons (kv 0) (pa_cons (kslice (kv 0) (kosome kint) konone) pa_nil))) (gtwo (i := 1) (j := 2) rfl hN) rel_zipTT (sone (sif (PW.pt (kand (ktest (kisi (T := "int") (by decide) rfl B.isi rfl B.int (by decide +kernel) (kv 1))) (kand1 (ktest (kisi (T := "int") (by decide) rfl B.isi rfl B.int (by decide +kernel) (kv 2)))))) (sone (sret (ktup (kcons (kv 1) (kcons (kv 2) knil))))) snil)))
    (sone (sret knon)))

/-! ### loses -/
abbrev s_loses : Stmt := topS 38
abbrev N_loses : List Str := ["script", "names", "seen", "gone", "beside", "row", "result", "named", "gap", "two"]
theorem sc_loses : FnScope N_loses ["script"] (defScope s_loses) := ⟨rfl, rfl, rfl, by decide +kernel, rfl, by decide +kernel, by decide +kernel⟩
def c_loses (p_names_in : CSp) (p_old_names : CSp) (p_all_rows : CSp) (p_with_gaps : CSp) (p_done_all : CSp) (p_without_gaps : CSp) (p_wood_from : CSp) (p_lost_gap : CSp) (p_joined_gaps : CSp) (p_wood_with : CSp)  : CS :=
    (cSeq (cSet 1 (cCall p_names_in (cCons (cVar 0) cNil)))
    (cSeq (cSet 2 cDNewT)
    (cSeq (cSet 3 (cC .non))
    (cSeq (cSet 4 (cC .non))
    (cSeq (cFor (iL 5 (cCall p_all_rows (cCons (cCall p_old_names (cCons (cVar 0) cNil)) cNil))) (cSeq (cSet 6 (cCall p_done_all (cCons (cCall p_with_gaps (cCons (cVar 5) cNil)) (cCons (cVar 0) cNil))))
    (cIfS (cB (cOp (fEq false) (cOp fIx (cVar 6) (cC (.int 0))) (cC (.str "does")))) (cSeq (cSet 7 (cCall p_without_gaps (cCons (cOp fIx (cVar 6) (cC (.int 1))) cNil)))
    (cSeq (cIfS (cB (cDIn false (cVar 7) (cVar 2))) (cRet (cTup (cCons (cCall p_wood_from (cCons (cDGet (cVar 2) (cVar 7)) cNil)) (cCons (cCall p_wood_from (cCons (cVar 5) cNil)) cNil)))) cSkip)
    (cSeq (cDPut (cVar 2) (cVar 7) (cVar 5))
    (cSeq (cSet 8 (cCall p_lost_gap (cCons (cVar 5) (cCons (cOp fIx (cVar 6) (cC (.int 1))) cNil))))
    (cSeq (cSet 9 (cCall p_joined_gaps (cCons (cOp fIx (cVar 6) (cC (.int 1))) cNil)))
    (cSeq (cIfS (cAnd (cB (cOp (fIs false) (cVar 3) (cC .non))) (cB (cOp (fIs true) (cVar 8) (cC .non)))) (cSet 3 (cTup (cCons (cCall p_wood_from (cCons (cVar 5) cNil)) (cCons (cCall p_wood_with (cCons (cVar 5) (cCons (cTup (cCons (cVar 8) cNil)) (cCons (cVar 1) cNil)))) cNil)))) cSkip)
    (cIfS (cAnd (cB (cOp (fIs false) (cVar 4) (cC .non))) (cB (cOp (fIs true) (cVar 9) (cC .non)))) (cSet 4 (cTup (cCons (cCall p_wood_with (cCons (cVar 5) (cCons (cSl (cVar 9) oNone (oSome (cC (.int 1)))) (cCons (cVar 1) cNil)))) (cCons (cCall p_wood_with (cCons (cVar 5) (cCons (cSl (cVar 9) (oSome (cC (.int 1))) oNone) (cCons (cVar 1) cNil)))) cNil)))) cSkip))))))) cSkip)))
    (cRet (cIf (cB (cOp (fIs false) (cVar 3) (cC .non))) (cVar 4) (cVar 3))))))))
theorem d_loses {f : Addr} {k : Nat} (B : Bl mg) {j_names_in : Nat} {q_names_in : List Str} {p_names_in : CSp} (g_names_in : CalC P w K mg base "names_in" j_names_in q_names_in p_names_in) (l_names_in : j_names_in ≤ k) {j_old_names : Nat} {q_old_names : List Str} {p_old_names : CSp} (g_old_names : CalC P w K mg base "old_names" j_old_names q_old_names p_old_names) (l_old_names : j_old_names ≤ k) {j_all_rows : Nat} {q_all_rows : List Str} {p_all_rows : CSp} (g_all_rows : CalC P w K mg base "all_rows" j_all_rows q_all_rows p_all_rows) (l_all_rows : j_all_rows ≤ k) {j_with_gaps : Nat} {q_with_gaps : List Str} {p_with_gaps : CSp} (g_with_gaps : CalC P w K mg base "with_gaps" j_with_gaps q_with_gaps p_with_gaps) (l_with_gaps : j_with_gaps ≤ k) {j_done_all : Nat} {q_done_all : List Str} {p_done_all : CSp} (g_done_all : CalC P w K mg base "done_all" j_done_all q_done_all p_done_all) (l_done_all : j_done_all ≤ k) {j_without_gaps : Nat} {q_without_gaps : List Str} {p_without_gaps : CSp} (g_without_gaps : CalC P w K mg base "without_gaps" j_without_gaps q_without_gaps p_without_gaps) (l_without_gaps : j_without_gaps ≤ k) {j_wood_from : Nat} {q_wood_from : List Str} {p_wood_from : CSp} (g_wood_from : CalC P w K mg base "wood_from" j_wood_from q_wood_from p_wood_from) (l_wood_from : j_wood_from ≤ k) {j_lost_gap : Nat} {q_lost_gap : List Str} {p_lost_gap : CSp} (g_lost_gap : CalC P w K mg base "lost_gap" j_lost_gap q_lost_gap p_lost_gap) (l_lost_gap : j_lost_gap ≤ k) {j_joined_gaps : Nat} {q_joined_gaps : List Str} {p_joined_gaps : CSp} (g_joined_gaps : CalC P w K mg base "joined_gaps" j_joined_gaps q_joined_gaps p_joined_gaps) (l_joined_gaps : j_joined_gaps ≤ k) {j_wood_with : Nat} {q_wood_with : List Str} {p_wood_with : CSp} (g_wood_with : CalC P w K mg base "wood_with" j_wood_with q_wood_with p_wood_with) (l_wood_with : j_wood_with ≤ k)  (cdv : Value) (A : Around) (outer : List Env) (s : Shared) (H : Hp) (E : XK) (hr : Room k (A.deeper (envOfC "loses" (defScope s_loses) s.heap.objs.size f cdv))) :
    PSs (cxOf CX0 P w K mg base N_loses "loses" (defScope s_loses) f cdv A outer s H E).nox (defBody s_loses) (liftS K (c_loses p_names_in p_old_names p_all_rows p_with_gaps p_done_all p_without_gaps p_wood_from p_lost_gap p_joined_gaps p_wood_with)) := by
  have hN := sc_loses.nd
  have hu := hu_of hr
  exact (scons (sset (i := 1) hN (kc g_names_in l_names_in hr rfl (kcons (kv 0) knil)))
    (scons (sset (i := 2) hN kdnewT)
    (scons (sset (i := 3) hN knon)
    (scons (sset (i := 4) hN knon)
    (scons (sfor PassesOwn.never rfl (pi_list (kc g_all_rows l_all_rows hr rfl (kcons (kc g_old_names l_old_names hr rfl (kcons (kv 0) knil)) knil))) (pg_name (i := 5) hN rfl (by first | exact Or.inl rfl | exact Or.inr rfl) (by first | exact .inl rfl | exact .inr rfl)) rel_L (scons (sset (i := 6) hN (kc g_done_all l_done_all hr rfl (kcons (kc g_with_gaps l_with_gaps hr rfl (kcons (kv 5) knil)) (kcons (kv 0) knil))))
    (sone (sif (ktcmp (op_eqP hr.units) (rel_eq false) (kix ix_seq rel_ix (kv 6) kint) kstr) (scons (sset (i := 7) hN (kc g_without_gaps l_without_gaps hr rfl (kcons (kix ix_seq rel_ix (kv 6) kint) knil)))
    (scons (sif (ktdin hu (kv 7) (kv 2)) (sone (sret (ktup (kcons (kc g_wood_from l_wood_from hr rfl (kcons (kdget hu (kv 2) (kv 7)) knil)) (kcons (kc g_wood_from l_wood_from hr rfl (kcons (kv 5) knil)) knil))))) snil)
    (scons (sdput hu (kv 2) (kv 7) (kv 5))
    (scons (sset (i := 8) hN (kc g_lost_gap l_lost_gap hr rfl (kcons (kv 5) (kcons (kix ix_seq rel_ix (kv 6) kint) knil))))
    (scons (sset (i := 9) hN (kc g_joined_gaps l_joined_gaps hr rfl (kcons (kix ix_seq rel_ix (kv 6) kint) knil)))
    (scons (sif (PW.pt (kand (ktcmp op_isN rel_is (kv 3) knon) (kand1 (ktcmp op_notN rel_isnt (kv 8) knon)))) (sone (sset (i := 3) hN (ktup (kcons (kc g_wood_from l_wood_from hr rfl (kcons (kv 5) knil)) (kcons (kc g_wood_with l_wood_with hr rfl (kcons (kv 5) (kcons (ktup (kcons (kv 8) knil)) (kcons (kv 1) knil)))) knil))))) snil)
    (sone (sif (PW.pt (kand (ktcmp op_isN rel_is (kv 4) knon) (kand1 (ktcmp op_notN rel_isnt (kv 9) knon)))) (sone (sset (i := 4) hN (ktup (kcons (kc g_wood_with l_wood_with hr rfl (kcons (kv 5) (kcons (kslice (kv 9) konone (kosome kint)) (kcons (kv 1) knil)))) (kcons (kc g_wood_with l_wood_with hr rfl (kcons (kv 5) (kcons (kslice (kv 9) (kosome kint) konone) (kcons (kv 1) knil)))) knil))))) snil)))))))) snil))))
    (sone (sret (kif (ktcmp op_isN rel_is (kv 3) knon) (kv 4) (kv 3)))))))))

/-! ### _law_draw -/
abbrev s__law_draw : Stmt := topS 41
abbrev N__law_draw : List Str := ["_law_deck_here", "_law_many_here", "_law_digit", "_law_mixed_here"]
theorem sc__law_draw : FnScope N__law_draw ["_law_deck_here", "_law_many_here"] (defScope s__law_draw) := ⟨rfl, rfl, rfl, by decide +kernel, rfl, by decide +kernel, by decide +kernel⟩
def c__law_draw   : CS :=
    (cSeq (cIfS (cB (cOp fGt (cOp fIx (cVar 0) (cC (.int 0))) (cC (.int 0)))) (cSeq (cSet 2 (cOp fMod (cCall fInt (cCons (cOp fIx (cVar 0) (cC (.int 0))) cNil)) (cVar 1)))
    (cSeq (cLPut (cVar 0) (cC (.int 0)) (cOp fDivW (cOp fIx (cVar 0) (cC (.int 0))) (cVar 1)))
    (cRet (cVar 2)))) cSkip)
    (cSeq (cLPut (cVar 0) (cC (.int 2)) (cOp fAdd (cOp fIx (cVar 0) (cC (.int 2))) (cC (.int 1))))
    (cSeq (cSet 3 (cOp fMod (cCall fInt (cCons (cOp fAdd (cOp fIx (cVar 0) (cC (.int 1))) (cOp fMul (cC (.int 11400714819323198485)) (cOp fIx (cVar 0) (cC (.int 2))))) cNil)) (cC (.int 18446744073709551557))))
    (cSeq (cSet 3 (cOp fMod (cCall fInt (cCons (cOp fMul (cVar 3) (cOp fAdd (cOp fMod (cVar 3) (cC (.int 4294967291))) (cC (.int 7)))) cNil)) (cC (.int 2305843009213693951))))
    (cRet (cOp fMod (cOp fDivW (cOp fMod (cCall fInt (cCons (cOp fMul (cVar 3) (cVar 3)) cNil)) (cC (.int 2305843009213693921))) (cC (.int 2048))) (cVar 1)))))))
theorem d__law_draw {f : Addr} {k : Nat} (B : Bl mg)   (cdv : Value) (A : Around) (outer : List Env) (s : Shared) (H : Hp) (E : XK) (hr : Room k (A.deeper (envOfC "_law_draw" (defScope s__law_draw) s.heap.objs.size f cdv))) :
    PSs (cxOf CX0 P w K mg base N__law_draw "_law_draw" (defScope s__law_draw) f cdv A outer s H E).nox (defBody s__law_draw) (liftS K (c__law_draw )) := by
  have hN := sc__law_draw.nd
  have hu := hu_of hr
  exact (scons (sif (ktcmp op_gt (rel_I0 fun _ _ _ => .bl _) (kix ix_seq rel_ix (kv 0) kint) kint) (scons (sset (i := 2) hN (kop op_mod (rel_I fun _ _ _ => .int _) (kInt B rfl (kcons (kix ix_seq rel_ix (kv 0) kint) knil)) (kv 1)))
    (scons (slput (kv 0) kint (kop op_fdivW (rel_I fun _ _ _ => .int _) (kix ix_seq rel_ix (kv 0) kint) (kv 1)))
    (sone (sret (kv 2))))) snil)
    (scons (slput (kv 0) kint (kop op_addAll rel_add (kix ix_seq rel_ix (kv 0) kint) kint))
    (scons (sset (i := 3) hN (kop op_mod (rel_I fun _ _ _ => .int _) (kInt B rfl (kcons (kop op_addAll rel_add (kix ix_seq rel_ix (kv 0) kint) (kop op_mulAll rel_mul kint (kix ix_seq rel_ix (kv 0) kint))) knil)) kint))
    (scons (sset (i := 3) hN (kop op_mod (rel_I fun _ _ _ => .int _) (kInt B rfl (kcons (kop op_mulAll rel_mul (kv 3) (kop op_addAll rel_add (kop op_mod (rel_I fun _ _ _ => .int _) (kv 3) kint) kint)) knil)) kint))
    (sone (sret (kop op_mod (rel_I fun _ _ _ => .int _) (kop op_fdivW (rel_I fun _ _ _ => .int _) (kop op_mod (rel_I fun _ _ _ => .int _) (kInt B rfl (kcons (kop op_mulAll rel_mul (kv 3) (kv 3)) knil)) kint) kint) (kv 1))))))))

/-! ### _law_pick -/
abbrev s__law_pick : Stmt := topS 42
abbrev N__law_pick : List Str := ["_law_deck_here", "_law_items"]
theorem sc__law_pick : FnScope N__law_pick ["_law_deck_here", "_law_items"] (defScope s__law_pick) := ⟨rfl, rfl, rfl, by decide +kernel, rfl, by decide +kernel, by decide +kernel⟩
def c__law_pick (p__law_draw : CSp)  : CS :=
    (cRet (cOp fIx (cVar 1) (cCall p__law_draw (cCons (cVar 0) (cCons (cCall fLen (cCons (cVar 1) cNil)) cNil)))))
theorem d__law_pick {f : Addr} {k : Nat} (B : Bl mg) {j__law_draw : Nat} {q__law_draw : List Str} {p__law_draw : CSp} (g__law_draw : CalC P w K mg base "_law_draw" j__law_draw q__law_draw p__law_draw) (l__law_draw : j__law_draw ≤ k)  (cdv : Value) (A : Around) (outer : List Env) (s : Shared) (H : Hp) (E : XK) (hr : Room k (A.deeper (envOfC "_law_pick" (defScope s__law_pick) s.heap.objs.size f cdv))) :
    PSs (cxOf CX0 P w K mg base N__law_pick "_law_pick" (defScope s__law_pick) f cdv A outer s H E).nox (defBody s__law_pick) (liftS K (c__law_pick p__law_draw)) := by
  have hN := sc__law_pick.nd
  have hu := hu_of hr
  exact (sone (sret (kix ix_seq rel_ix (kv 1) (kc g__law_draw l__law_draw hr rfl (kcons (kv 0) (kcons (kLen B rfl (kcons (kv 1) knil)) knil))))))

/-! ### _law_menu -/
abbrev s__law_menu : Stmt := topS 43
abbrev N__law_menu : List Str := ["_law_deck_here", "_law_many_here", "_law_menus", "_law_way", "_law_first", "_law_letters", "_law_text", "_law_k", "_law_at", "_law_begin", "_law_step", "_law_signs", "_law_sign"]
theorem sc__law_menu : FnScope N__law_menu ["_law_deck_here", "_law_many_here"] (defScope s__law_menu) := ⟨rfl, rfl, rfl, by decide +kernel, rfl, by decide +kernel, by decide +kernel⟩
def c__law_menu (p__law_draw : CSp) (p__law_pick : CSp)  : CS :=
    (cSeq (cSet 2 (cLst (cCons (cTup (cCons (cC (.str "a")) (cCons (cC (.str "b")) (cCons (cC (.str "c")) (cCons (cC (.str "d")) cNil))))) (cCons (cTup (cCons (cC (.str "x")) (cCons (cC (.str "xa")) (cCons (cC (.str "ab")) (cCons (cC (.str "b")) cNil))))) (cCons (cTup (cCons (cC (.str "aaaaaaaa")) (cCons (cC (.str "aaaaaaab")) (cCons (cC (.str "z")) (cCons (cC (.str "zz")) cNil))))) cNil)))))
    (cSeq (cDrop (cMet fAppend (cVar 2) (cCons (cTup (cCons (cC (.str "top")) (cCons (cC (.str "menu")) (cCons (cC (.str "it")) (cCons (cC (.str "d")) cNil))))) cNil)))
    (cSeq (cSet 3 (cCall p__law_draw (cCons (cVar 0) (cCons (cC (.int 8)) cNil))))
    (cSeq (cIfS (cB (cOp fLt (cVar 3) (cC (.int 4)))) (cSeq (cSet 4 (cCall p__law_draw (cCons (cVar 0) (cCons (cC (.int 4)) cNil))))
    (cRet (cSl (cOp fAdd (cOp fIx (cVar 2) (cVar 3)) (cOp fIx (cVar 2) (cVar 3))) (oSome (cVar 4)) (oSome (cOp fAdd (cVar 4) (cVar 1)))))) cSkip)
    (cSeq (cSet 5 (cC (.str "abcdefghijklmnopqrstuvwxyz")))
    (cSeq (cSet 6 (cStr1 fJoin (cC (.str "")) (cLc (iR1 7 (cCons (cOp fAdd (cC (.int 1)) (cCall p__law_draw (cCons (cVar 0) (cCons (cC (.int 8)) cNil)))) cNil)) [7] cYes (cCall p__law_pick (cCons (cVar 0) (cCons (cVar 5) cNil))))))
    (cSeq (cSetT [8, 9] (cTup (cCons (cCall p__law_draw (cCons (cVar 0) (cCons (cCall fLen (cCons (cVar 6) cNil)) cNil))) (cCons (cCall p__law_draw (cCons (cVar 0) (cCons (cC (.int 26)) cNil))) cNil))))
    (cSeq (cSet 10 (cOp fAdd (cC (.int 1)) (cOp fMul (cC (.int 2)) (cCall p__law_draw (cCons (cVar 0) (cCons (cC (.int 6)) cNil))))))
    (cSeq (cSet 11 (cLc (iR1 7 (cCons (cVar 1) cNil)) [7] cYes (cOp fIx (cVar 5) (cOp fMod (cCall fInt (cCons (cOp fAdd (cVar 9) (cOp fMul (cVar 10) (cVar 7))) cNil)) (cC (.int 26))))))
    (cRet (cCall fTupOf (cCons (cLc (iL 12 (cVar 11)) [12] cYes (cOp fAdd (cOp fAdd (cSl (cVar 6) oNone (oSome (cVar 8))) (cVar 12)) (cSl (cVar 6) (oSome (cOp fAdd (cVar 8) (cC (.int 1)))) oNone))) cNil))))))))))))
theorem d__law_menu {f : Addr} {k : Nat} (B : Bl mg) {j__law_draw : Nat} {q__law_draw : List Str} {p__law_draw : CSp} (g__law_draw : CalC P w K mg base "_law_draw" j__law_draw q__law_draw p__law_draw) (l__law_draw : j__law_draw ≤ k) {j__law_pick : Nat} {q__law_pick : List Str} {p__law_pick : CSp} (g__law_pick : CalC P w K mg base "_law_pick" j__law_pick q__law_pick p__law_pick) (l__law_pick : j__law_pick ≤ k)  (cdv : Value) (A : Around) (outer : List Env) (s : Shared) (H : Hp) (E : XK) (hr : Room k (A.deeper (envOfC "_law_menu" (defScope s__law_menu) s.heap.objs.size f cdv))) :
    PSs (cxOf CX0 P w K mg base N__law_menu "_law_menu" (defScope s__law_menu) f cdv A outer s H E).nox (defBody s__law_menu) (liftS K (c__law_menu p__law_draw p__law_pick)) := by
  have hN := sc__law_menu.nd
  have hu := hu_of hr
  exact (scons (sset (i := 2) hN (klst (kcons (ktup (kcons kstr (kcons kstr (kcons kstr (kcons kstr knil))))) (kcons (ktup (kcons kstr (kcons kstr (kcons kstr (kcons kstr knil))))) (kcons (ktup (kcons kstr (kcons kstr (kcons kstr (kcons kstr knil))))) knil)))))
    (scons (sdrop (kmet PySem.F.slot_list_append PySem.F.type_list_append mt_append rel_append (kv 2) (kcons (ktup (kcons kstr (kcons kstr (kcons kstr (kcons kstr knil))))) knil)))
    (scons (sset (i := 3) hN (kc g__law_draw l__law_draw hr rfl (kcons (kv 0) (kcons kint knil))))
    (scons (sif (ktcmp op_lt (rel_I0 fun _ _ _ => .bl _) (kv 3) kint) (scons (sset (i := 4) hN (kc g__law_draw l__law_draw hr rfl (kcons (kv 0) (kcons kint knil))))
    (sone (sret (kslice (kop op_addAll rel_add (kix ix_seq rel_ix (kv 2) (kv 3)) (kix ix_seq rel_ix (kv 2) (kv 3))) (kosome (kv 4)) (kosome (kop op_addAll rel_add (kv 4) (kv 1))))))) snil)
    (scons (sset (i := 5) hN kstr)
    (scons (sset (i := 6) hN (kstr1 PySem.F.slot_str_join PySem.F.type_str_join mt_join rel_join kstr (klc (own := [("_law_k", 7)]) rfl hN (pi_range1 rfl B.rng (kcons (kop op_addAll rel_add kint (kc g__law_draw l__law_draw hr rfl (kcons (kv 0) (kcons kint knil)))) knil)) rel_R1 (own_name (by decide)) (blkOk_by (show blkC N__law_menu (defScope s__law_menu) _ _ = true by decide +kernel)) (fun _ _ _ _ _ => (pg_name (i := 7) hN rfl (by first | exact Or.inl rfl | exact Or.inr rfl) (by first | exact .inl rfl | exact .inr rfl))) (fun _ _ _ _ _ => ktsnil) (fun _ _ _ _ _ => (kc g__law_pick l__law_pick hr rfl (kcons (kv 0) (kcons (kv 5) knil)))))))
    (scons (ssetT rfl (ktup (kcons (kc g__law_draw l__law_draw hr rfl (kcons (kv 0) (kcons (kLen B rfl (kcons (kv 6) knil)) knil))) (kcons (kc g__law_draw l__law_draw hr rfl (kcons (kv 0) (kcons kint knil))) knil))) (tgcons (i := 8) hN (tgcons (i := 9) hN tgnil)))
    (scons (sset (i := 10) hN (kop op_addAll rel_add kint (kop op_mulAll rel_mul kint (kc g__law_draw l__law_draw hr rfl (kcons (kv 0) (kcons kint knil))))))
    (scons (slc (i := 11) (own := [("_law_k", 7)]) rfl hN (pi_range1 rfl B.rng (kcons (kv 1) knil)) rel_R1 (own_name (by decide)) (blkOk_by (show blkC N__law_menu (defScope s__law_menu) _ _ = true by decide +kernel)) (fun _ _ _ _ _ => (pg_name (i := 7) hN rfl (by first | exact Or.inl rfl | exact Or.inr rfl) (by first | exact .inl rfl | exact .inr rfl))) (fun _ _ _ _ _ => ktsnil) (fun _ _ _ _ _ => (kix ix_seq rel_ix (kv 5) (kop op_mod (rel_I fun _ _ _ => .int _) (kInt B rfl (kcons (kop op_addAll rel_add (kv 9) (kop op_mulAll rel_mul (kv 10) (kv 7))) knil)) kint))))
    (sone (sret (kTupOf B rfl (kcons (klc (own := [("_law_sign", 12)]) rfl hN (pi_list (kv 11)) rel_L (own_name (by decide)) (blkOk_by (show blkC N__law_menu (defScope s__law_menu) _ _ = true by decide +kernel)) (fun _ _ _ _ _ => (pg_name (i := 12) hN rfl (by first | exact Or.inl rfl | exact Or.inr rfl) (by first | exact .inl rfl | exact .inr rfl))) (fun _ _ _ _ _ => ktsnil) (fun _ _ _ _ _ => (kop op_addAll rel_add (kop op_addAll rel_add (kslice (kv 6) konone (kosome (kv 8))) (kv 12)) (kslice (kv 6) (kosome (kop op_addAll rel_add (kv 8) kint)) konone)))) knil)))))))))))))

/-! ### _law_others -/
abbrev s__law_others : Stmt := topS 44
abbrev N__law_others : List Str := ["_law_called", "_law_many_here", "_law_some", "_law_name"]
theorem sc__law_others : FnScope N__law_others ["_law_called", "_law_many_here"] (defScope s__law_others) := ⟨rfl, rfl, rfl, by decide +kernel, rfl, by decide +kernel, by decide +kernel⟩
def c__law_others   : CS :=
    (cSeq (cSet 2 (cLst (cCons (cC (.str "p")) (cCons (cC (.str "q")) (cCons (cC (.str "pp")) (cCons (cC (.str "leaf")) (cCons (cC (.str "aaaaaaac")) (cCons (cC (.str "zzzzzzzz")) (cCons (cC (.str "za")) (cCons (cC (.str "m")) (cCons (cC (.str "mm")) (cCons (cC (.str "dd")) (cCons (cC (.str "over")) (cCons (cC (.str "side")) (cCons (cC (.str "n")) (cCons (cC (.str "nn")) cNil))))))))))))))))
    (cRet (cSl (cLc (iL 3 (cVar 2)) [3] (cB (cOp (fIn true) (cVar 3) (cVar 0))) (cVar 3)) oNone (oSome (cVar 1)))))
theorem d__law_others {f : Addr} {k : Nat} (B : Bl mg)   (cdv : Value) (A : Around) (outer : List Env) (s : Shared) (H : Hp) (E : XK) (hr : Room k (A.deeper (envOfC "_law_others" (defScope s__law_others) s.heap.objs.size f cdv))) :
    PSs (cxOf CX0 P w K mg base N__law_others "_law_others" (defScope s__law_others) f cdv A outer s H E).nox (defBody s__law_others) (liftS K (c__law_others )) := by
  have hN := sc__law_others.nd
  have hu := hu_of hr
  exact (scons (sset (i := 2) hN (klst (kcons kstr (kcons kstr (kcons kstr (kcons kstr (kcons kstr (kcons kstr (kcons kstr (kcons kstr (kcons kstr (kcons kstr (kcons kstr (kcons kstr (kcons kstr (kcons kstr knil))))))))))))))))
    (sone (sret (kslice (klc (own := [("_law_name", 3)]) rfl hN (pi_list (kv 2)) rel_L (own_name (by decide)) (blkOk_by (show blkC N__law_others (defScope s__law_others) _ _ = true by decide +kernel)) (fun _ _ _ _ _ => (pg_name (i := 3) hN rfl (by first | exact Or.inl rfl | exact Or.inr rfl) (by first | exact .inl rfl | exact .inr rfl))) (fun _ _ _ _ _ => (ktsone (ktcmp op_notIn_seq (rel_in true) (kv 3) (kv 0)))) (fun _ _ _ _ _ => (kv 3))) konone (kosome (kv 1))))))

/-! ### _law_mixed -/
abbrev s__law_mixed : Stmt := topS 45
abbrev N__law_mixed : List Str := ["_law_deck_here", "_law_items", "_law_left", "_law_found"]
theorem sc__law_mixed : FnScope N__law_mixed ["_law_deck_here", "_law_items"] (defScope s__law_mixed) := ⟨rfl, rfl, rfl, by decide +kernel, rfl, by decide +kernel, by decide +kernel⟩
def c__law_mixed (p__law_draw : CSp)  : CS :=
    (cSeq (cPar 2 3 (cCons (cCall fLstOf (cCons (cVar 1) cNil)) (cCons (cLst cNil) cNil)))
    (cSeq (cWhile (cB (cOp (fEq true) (cVar 2) (cLst cNil))) (cDrop (cMet fAppend (cVar 3) (cCons (cMet fPop (cVar 2) (cCons (cCall p__law_draw (cCons (cVar 0) (cCons (cCall fLen (cCons (cVar 2) cNil)) cNil))) cNil)) cNil))))
    (cRet (cCall fTupOf (cCons (cVar 3) cNil)))))
theorem d__law_mixed {f : Addr} {k : Nat} (B : Bl mg) {j__law_draw : Nat} {q__law_draw : List Str} {p__law_draw : CSp} (g__law_draw : CalC P w K mg base "_law_draw" j__law_draw q__law_draw p__law_draw) (l__law_draw : j__law_draw ≤ k)  (cdv : Value) (A : Around) (outer : List Env) (s : Shared) (H : Hp) (E : XK) (hr : Room k (A.deeper (envOfC "_law_mixed" (defScope s__law_mixed) s.heap.objs.size f cdv))) :
    PSs (cxOf CX0 P w K mg base N__law_mixed "_law_mixed" (defScope s__law_mixed) f cdv A outer s H E).nox (defBody s__law_mixed) (liftS K (c__law_mixed p__law_draw)) := by
  have hN := sc__law_mixed.nd
  have hu := hu_of hr
  exact (scons (spar (i := 2) (j := 3) rfl hN (by decide) (kcons (kLstOf B rfl (kcons (kv 1) knil)) (kcons (klst knil) knil)))
    (scons (swhile PassesOwn.never (ktcmp (op_neP hr.units) (rel_eq true) (kv 2) (klst knil)) (sone (sdrop (kmet PySem.F.slot_list_append PySem.F.type_list_append mt_append rel_append (kv 3) (kcons (kmet PySem.F.slot_list_pop PySem.F.type_list_pop mt_popAll rel_pop (kv 2) (kcons (kc g__law_draw l__law_draw hr rfl (kcons (kv 0) (kcons (kLen B rfl (kcons (kv 2) knil)) knil))) knil)) knil)))))
    (sone (sret (kTupOf B rfl (kcons (kv 3) knil))))))

/-! ### _law_is_name -/
abbrev s__law_is_name : Stmt := topS 46
abbrev N__law_is_name : List Str := ["_law_value"]
theorem sc__law_is_name : FnScope N__law_is_name ["_law_value"] (defScope s__law_is_name) := ⟨rfl, rfl, rfl, by decide +kernel, rfl, by decide +kernel, by decide +kernel⟩
def c__law_is_name   : CS :=
    (cSeq (cIfS (cOr (cNot (cB (cIsi "str" (cVar 0)))) (cOr (cB (cOp (fEq false) (cVar 0) (cC (.str "")))) (cB (cOp fGt (cCall fLen (cCons (cVar 0) cNil)) (cC (.int 8)))))) (cRet (cC (.bl false))) cSkip)
    (cRet (cOp (fEq false) (cStr1 fStrip (cVar 0) (cC (.str "abcdefghijklmnopqrstuvwxyz"))) (cC (.str "")))))
theorem d__law_is_name {f : Addr} {k : Nat} (B : Bl mg)   (cdv : Value) (A : Around) (outer : List Env) (s : Shared) (H : Hp) (E : XK) (hr : Room k (A.deeper (envOfC "_law_is_name" (defScope s__law_is_name) s.heap.objs.size f cdv))) :
    PSs (cxOf CX0 P w K mg base N__law_is_name "_law_is_name" (defScope s__law_is_name) f cdv A outer s H E).nox (defBody s__law_is_name) (liftS K (c__law_is_name )) := by
  have hN := sc__law_is_name.nd
  have hu := hu_of hr
  exact (scons (sif (PW.pt (kor (knot (ktest (kisi (T := "str") (by decide) rfl B.isi rfl B.str (by decide +kernel) (kv 0)))) (kor (ktcmp (op_eqP hr.units) (rel_eq false) (kv 0) kstr) (kor1 (ktcmp op_gt (rel_I0 fun _ _ _ => .bl _) (kLen B rfl (kcons (kv 0) knil)) kint))))) (sone (sret kbl)) snil)
    (sone (sret (kcmp (op_eqP hr.units) (rel_eq false) (kstr1 PySem.F.slot_str_strip PySem.F.type_str_strip mt_stripChars rel_strip (kv 0) kstr) kstr))))

/-! ### _law_is_wood -/
abbrev s__law_is_wood : Stmt := topS 47
abbrev N__law_is_wood : List Str := ["_law_value", "_law_waiting", "_law_called", "_law_some", "_law_tree"]
theorem sc__law_is_wood : FnScope N__law_is_wood ["_law_value"] (defScope s__law_is_wood) := ⟨rfl, rfl, rfl, by decide +kernel, rfl, by decide +kernel, by decide +kernel⟩
def c__law_is_wood (p__law_is_name : CSp)  : CS :=
    (cSeq (cPar 1 2 (cCons (cLst (cCons (cVar 0) cNil)) (cCons (cLst cNil) cNil)))
    (cSeq (cWhile (cB (cOp (fEq true) (cVar 1) (cLst cNil))) (cSeq (cSet 3 (cMet fPop (cVar 1) cNil))
    (cSeq (cIfS (cNot (cB (cIsi "tuple" (cVar 3)))) (cRet (cC (.bl false))) cSkip)
    (cFor (iT 4 (cVar 3)) (cSeq (cIfS (cOr (cNot (cB (cIsi "tuple" (cVar 4)))) (cB (cOp (fEq true) (cCall fLen (cCons (cVar 4) cNil)) (cC (.int 2))))) (cRet (cC (.bl false))) cSkip)
    (cSeq (cIfS (cOr (cNot (cB (cCall p__law_is_name (cCons (cOp fIx (cVar 4) (cC (.int 0))) cNil)))) (cB (cOp (fIn false) (cOp fIx (cVar 4) (cC (.int 0))) (cVar 2)))) (cRet (cC (.bl false))) cSkip)
    (cSeq (cDrop (cMet fAppend (cVar 2) (cCons (cOp fIx (cVar 4) (cC (.int 0))) cNil)))
    (cDrop (cMet fAppend (cVar 1) (cCons (cOp fIx (cVar 4) (cC (.int 1))) cNil))))))))))
    (cRet (cC (.bl true)))))
theorem d__law_is_wood {f : Addr} {k : Nat} (B : Bl mg) {j__law_is_name : Nat} {q__law_is_name : List Str} {p__law_is_name : CSp} (g__law_is_name : CalC P w K mg base "_law_is_name" j__law_is_name q__law_is_name p__law_is_name) (l__law_is_name : j__law_is_name ≤ k)  (cdv : Value) (A : Around) (outer : List Env) (s : Shared) (H : Hp) (E : XK) (hr : Room k (A.deeper (envOfC "_law_is_wood" (defScope s__law_is_wood) s.heap.objs.size f cdv))) :
    PSs (cxOf CX0 P w K mg base N__law_is_wood "_law_is_wood" (defScope s__law_is_wood) f cdv A outer s H E).nox (defBody s__law_is_wood) (liftS K (c__law_is_wood p__law_is_name)) := by
  have hN := sc__law_is_wood.nd
  have hu := hu_of hr
  exact (scons (spar (i := 1) (j := 2) rfl hN (by decide) (kcons (klst (kcons (kv 0) knil)) (kcons (klst knil) knil)))
    (scons (swhile PassesOwn.never (ktcmp (op_neP hr.units) (rel_eq true) (kv 1) (klst knil)) (scons (sset (i := 3) hN (kmet0 PySem.F.slot_list_pop PySem.F.type_list_pop mt_popAll rel_pop (kv 1)))
    (scons (sif (knot (ktest (kisi (T := "tuple") (by decide) rfl B.isi rfl B.tup (by decide +kernel) (kv 3)))) (sone (sret kbl)) snil)
    (sone (sfor PassesOwn.never rfl (pi_tup (kv 3)) (pg_name (i := 4) hN rfl (by first | exact Or.inl rfl | exact Or.inr rfl) (by first | exact .inl rfl | exact .inr rfl)) rel_T (scons (sif (PW.pt (kor (knot (ktest (kisi (T := "tuple") (by decide) rfl B.isi rfl B.tup (by decide +kernel) (kv 4)))) (kor1 (ktcmp (op_neP hr.units) (rel_eq true) (kLen B rfl (kcons (kv 4) knil)) kint)))) (sone (sret kbl)) snil)
    (scons (sif (PW.pt (kor (knot (ktest (kc g__law_is_name l__law_is_name hr rfl (kcons (kix ix_seq rel_ix (kv 4) kint) knil)))) (kor1 (ktcmp op_in_seq (rel_in false) (kix ix_seq rel_ix (kv 4) kint) (kv 2))))) (sone (sret kbl)) snil)
    (scons (sdrop (kmet PySem.F.slot_list_append PySem.F.type_list_append mt_append rel_append (kv 2) (kcons (kix ix_seq rel_ix (kv 4) kint) knil)))
    (sone (sdrop (kmet PySem.F.slot_list_append PySem.F.type_list_append mt_append rel_append (kv 1) (kcons (kix ix_seq rel_ix (kv 4) kint) knil))))))))))))
    (sone (sret kbl))))

/-! ### _law_kids -/
abbrev s__law_kids : Stmt := topS 48
abbrev N__law_kids : List Str := ["_law_wood_here", "_law_kids_here", "_law_tree", "_law_waiting", "_law_name", "_law_inside"]
theorem sc__law_kids : FnScope N__law_kids ["_law_wood_here"] (defScope s__law_kids) := ⟨rfl, rfl, rfl, by decide +kernel, rfl, by decide +kernel, by decide +kernel⟩
def c__law_kids   : CS :=
    (cSeq (cSet 1 (cDisp [((cC (.str "")), (cLc (iT 2 (cVar 0)) [2] cYes (cOp fIx (cVar 2) (cC (.int 0)))))]))
    (cSeq (cSet 3 (cCall fLstOf (cCons (cVar 0) cNil)))
    (cSeq (cWhile (cB (cOp (fEq true) (cVar 3) (cLst cNil))) (cSeq (cSetT [4, 5] (cMet fPop (cVar 3) cNil))
    (cSeq (cDPut (cVar 1) (cVar 4) (cLc (iT 2 (cVar 5)) [2] cYes (cOp fIx (cVar 2) (cC (.int 0)))))
    (cDrop (cMet fExtend (cVar 3) (cCons (cVar 5) cNil))))))
    (cRet (cVar 1)))))
theorem d__law_kids {f : Addr} {k : Nat} (B : Bl mg)   (cdv : Value) (A : Around) (outer : List Env) (s : Shared) (H : Hp) (E : XK) (hr : Room k (A.deeper (envOfC "_law_kids" (defScope s__law_kids) s.heap.objs.size f cdv))) :
    PSs (cxOf CX0 P w K mg base N__law_kids "_law_kids" (defScope s__law_kids) f cdv A outer s H E).nox (defBody s__law_kids) (liftS K (c__law_kids )) := by
  have hN := sc__law_kids.nd
  have hu := hu_of hr
  exact (scons (sset (i := 1) hN (kdis (kpcons kstr (klc (own := [("_law_tree", 2)]) rfl hN (pi_tup (kv 0)) rel_T (own_name (by decide)) (blkOk_by (show blkC N__law_kids (defScope s__law_kids) _ _ = true by decide +kernel)) (fun _ _ _ _ _ => (pg_name (i := 2) hN rfl (by first | exact Or.inl rfl | exact Or.inr rfl) (by first | exact .inl rfl | exact .inr rfl))) (fun _ _ _ _ _ => ktsnil) (fun _ _ _ _ _ => (kix ix_seq rel_ix (kv 2) kint))) kpnil)))
    (scons (sset (i := 3) hN (kLstOf B rfl (kcons (kv 0) knil)))
    (scons (swhile PassesOwn.never (ktcmp (op_neP hr.units) (rel_eq true) (kv 3) (klst knil)) (scons (ssetT rfl (kmet0 PySem.F.slot_list_pop PySem.F.type_list_pop mt_popAll rel_pop (kv 3)) (tgcons (i := 4) hN (tgcons (i := 5) hN tgnil)))
    (scons (sdput hu (kv 1) (kv 4) (klc (own := [("_law_tree", 2)]) rfl hN (pi_tup (kv 5)) rel_T (own_name (by decide)) (blkOk_by (show blkC N__law_kids (defScope s__law_kids) _ _ = true by decide +kernel)) (fun _ _ _ _ _ => (pg_name (i := 2) hN rfl (by first | exact Or.inl rfl | exact Or.inr rfl) (by first | exact .inl rfl | exact .inr rfl))) (fun _ _ _ _ _ => ktsnil) (fun _ _ _ _ _ => (kix ix_seq rel_ix (kv 2) kint))))
    (sone (sdrop (kmet PySem.F.slot_list_extend PySem.F.type_list_extend mt_extAll rel_extend (kv 3) (kcons (kv 5) knil)))))))
    (sone (sret (kv 1))))))

/-! ### _law_wood_of -/
abbrev s__law_wood_of : Stmt := topS 49
abbrev N__law_wood_of : List Str := ["_law_kids_here", "_law_name", "_law_kid"]
theorem sc__law_wood_of : FnScope N__law_wood_of ["_law_kids_here", "_law_name"] (defScope s__law_wood_of) := ⟨rfl, rfl, rfl, by decide +kernel, rfl, by decide +kernel, by decide +kernel⟩
def c__law_wood_of (p__law_wood_of : CSp)  : CS :=
    (cRet (cCall fTupOf (cCons (cLc (iL 2 (cDGet (cVar 0) (cVar 1))) [2] cYes (cTup (cCons (cVar 2) (cCons (cCall p__law_wood_of (cCons (cVar 0) (cCons (cVar 2) cNil))) cNil)))) cNil)))
theorem d__law_wood_of {f : Addr} {k : Nat} (B : Bl mg) {j__law_wood_of : Nat} {q__law_wood_of : List Str} {p__law_wood_of : CSp} (g__law_wood_of : CalC P w K mg base "_law_wood_of" j__law_wood_of q__law_wood_of p__law_wood_of) (l__law_wood_of : j__law_wood_of ≤ k)  (cdv : Value) (A : Around) (outer : List Env) (s : Shared) (H : Hp) (E : XK) (hr : Room k (A.deeper (envOfC "_law_wood_of" (defScope s__law_wood_of) s.heap.objs.size f cdv))) :
    PSs (cxOf CX0 P w K mg base N__law_wood_of "_law_wood_of" (defScope s__law_wood_of) f cdv A outer s H E).nox (defBody s__law_wood_of) (liftS K (c__law_wood_of p__law_wood_of)) := by
  have hN := sc__law_wood_of.nd
  have hu := hu_of hr
  exact (sone (sret (kTupOf B rfl (kcons (klc (own := [("_law_kid", 2)]) rfl hN (pi_list (kdget hu (kv 0) (kv 1))) rel_L (own_name (by decide)) (blkOk_by (show blkC N__law_wood_of (defScope s__law_wood_of) _ _ = true by decide +kernel)) (fun _ _ _ _ _ => (pg_name (i := 2) hN rfl (by first | exact Or.inl rfl | exact Or.inr rfl) (by first | exact .inl rfl | exact .inr rfl))) (fun _ _ _ _ _ => ktsnil) (fun _ _ _ _ _ => (ktup (kcons (kv 2) (kcons (kc g__law_wood_of l__law_wood_of hr rfl (kcons (kv 0) (kcons (kv 2) knil))) knil))))) knil))))

/-! ### _law_over -/
abbrev s__law_over : Stmt := topS 50
abbrev N__law_over : List Str := ["_law_kids_here", "_law_name", "_law_one"]
theorem sc__law_over : FnScope N__law_over ["_law_kids_here", "_law_name"] (defScope s__law_over) := ⟨rfl, rfl, rfl, by decide +kernel, rfl, by decide +kernel, by decide +kernel⟩
def c__law_over   : CS :=
    (cRet (cOp fIx (cLock 0 (cLc (iKeysL 2 (cVar 0)) [2] (cB (cOp (fIn false) (cVar 1) (cDGet (cVar 0) (cVar 2)))) (cVar 2))) (cC (.int 0))))
theorem d__law_over {f : Addr} {k : Nat} (B : Bl mg)   (cdv : Value) (A : Around) (outer : List Env) (s : Shared) (H : Hp) (E : XK) (hr : Room k (A.deeper (envOfC "_law_over" (defScope s__law_over) s.heap.objs.size f cdv))) :
    PSs (cxOf CX0 P w K mg base N__law_over "_law_over" (defScope s__law_over) f cdv A outer s H E).nox (defBody s__law_over) (liftS K (c__law_over )) := by
  have hN := sc__law_over.nd
  have hu := hu_of hr
  exact (sone (sret (kix ix_seq rel_ix (klock (i := 0) (klc (own := [("_law_one", 2)]) rfl hN (pi_keysM (kv 0)) rel_keys (own_name (by decide)) (blkOk_by (show blkC N__law_over (defScope s__law_over) _ _ = true by decide +kernel)) (fun _ _ _ _ _ => (pg_name (i := 2) hN rfl (by first | exact Or.inl rfl | exact Or.inr rfl) (by first | exact .inl rfl | exact .inr rfl))) (fun _ _ _ _ _ => (ktsone (ktcmp op_in_seq (rel_in false) (kv 1) (kdget hu (kv 0) (kv 2))))) (fun _ _ _ _ _ => (kv 2)))) kint)))

/-! ### _law_is_in -/
abbrev s__law_is_in : Stmt := topS 51
abbrev N__law_is_in : List Str := ["_law_kids_here", "_law_name", "_law_other"]
theorem sc__law_is_in : FnScope N__law_is_in ["_law_kids_here", "_law_name", "_law_other"] (defScope s__law_is_in) := ⟨rfl, rfl, rfl, by decide +kernel, rfl, by decide +kernel, by decide +kernel⟩
def c__law_is_in (p__law_over : CSp)  : CS :=
    (cSeq (cWhile (cAnd (cB (cOp (fEq true) (cVar 1) (cC (.str "")))) (cB (cOp (fEq true) (cVar 1) (cVar 2)))) (cSet 1 (cCall p__law_over (cCons (cVar 0) (cCons (cVar 1) cNil)))))
    (cRet (cOp (fEq false) (cVar 1) (cVar 2))))
theorem d__law_is_in {f : Addr} {k : Nat} (B : Bl mg) {j__law_over : Nat} {q__law_over : List Str} {p__law_over : CSp} (g__law_over : CalC P w K mg base "_law_over" j__law_over q__law_over p__law_over) (l__law_over : j__law_over ≤ k)  (cdv : Value) (A : Around) (outer : List Env) (s : Shared) (H : Hp) (E : XK) (hr : Room k (A.deeper (envOfC "_law_is_in" (defScope s__law_is_in) s.heap.objs.size f cdv))) :
    PSs (cxOf CX0 P w K mg base N__law_is_in "_law_is_in" (defScope s__law_is_in) f cdv A outer s H E).nox (defBody s__law_is_in) (liftS K (c__law_is_in p__law_over)) := by
  have hN := sc__law_is_in.nd
  have hu := hu_of hr
  exact (scons (swhile PassesOwn.never (PW.pt (kand (ktcmp (op_neP hr.units) (rel_eq true) (kv 1) kstr) (kand1 (ktcmp (op_neP hr.units) (rel_eq true) (kv 1) (kv 2))))) (sone (sset (i := 1) hN (kc g__law_over l__law_over hr rfl (kcons (kv 0) (kcons (kv 1) knil))))))
    (sone (sret (kcmp (op_eqP hr.units) (rel_eq false) (kv 1) (kv 2)))))

/-! ### _law_word -/
abbrev s__law_word : Stmt := topS 52
abbrev N__law_word : List Str := ["_law_kids_here", "_law_deed_here", "_law_word_here", "_law_old", "_law_name"]
theorem sc__law_word : FnScope N__law_word ["_law_kids_here", "_law_deed_here"] (defScope s__law_word) := ⟨rfl, rfl, rfl, by decide +kernel, rfl, by decide +kernel, by decide +kernel⟩
def c__law_word (p__law_is_in : CSp)  : CS :=
    (cSeq (cPar 2 3 (cCons (cOp fIx (cVar 1) (cC (.int 0))) (cCons (cSl (cVar 1) (oSome (cC (.int 1))) oNone) cNil)))
    (cSeq (cIfS (cB (cOp (fEq false) (cVar 2) (cC (.str "wrap")))) (cSet 3 (cSl (cVar 1) (oSome (cC (.int 1))) (oSome (cC (.int 2))))) cSkip)
    (cSeq (cIfS (cB (cOp (fEq false) (cVar 2) (cC (.str "put")))) (cSet 3 (cSl (cVar 1) (oSome (cC (.int 2))) oNone)) cSkip)
    (cSeq (cIfS (cB (cOp (fEq true) (cLc (iT 4 (cVar 3)) [4] (cB (cDIn true (cVar 4) (cVar 0))) (cVar 4)) (cLst cNil))) (cRet (cC (.str "gone"))) cSkip)
    (cSeq (cIfS (cOr (cAnd (cB (cOp (fEq false) (cVar 2) (cC (.str "wrap")))) (cB (cDIn false (cOp fIx (cVar 1) (cC (.int 2))) (cVar 0)))) (cAnd (cB (cOp (fEq false) (cVar 2) (cC (.str "put")))) (cB (cDIn false (cOp fIx (cVar 1) (cC (.int 1))) (cVar 0))))) (cRet (cC (.str "taken"))) cSkip)
    (cSeq (cIfS (cAnd (cB (cOp (fIn false) (cVar 2) (cTup (cCons (cC (.str "first")) (cCons (cC (.str "last")) (cCons (cC (.str "ahead")) (cCons (cC (.str "behind")) (cCons (cC (.str "pour")) cNil)))))))) (cB (cCall p__law_is_in (cCons (cVar 0) (cCons (cOp fIx (cVar 1) (cC (.int 2))) (cCons (cOp fIx (cVar 1) (cC (.int 1))) cNil)))))) (cRet (cC (.str "inside"))) cSkip)
    (cSeq (cIfS (cAnd (cB (cOp (fEq false) (cVar 2) (cC (.str "swap")))) (cB (cCall p__law_is_in (cCons (cVar 0) (cCons (cOp fIx (cVar 1) (cC (.int 1))) (cCons (cOp fIx (cVar 1) (cC (.int 2))) cNil)))))) (cRet (cC (.str "inside"))) cSkip)
    (cRet (cIf (cAnd (cB (cOp (fEq false) (cVar 2) (cC (.str "swap")))) (cB (cCall p__law_is_in (cCons (cVar 0) (cCons (cOp fIx (cVar 1) (cC (.int 2))) (cCons (cOp fIx (cVar 1) (cC (.int 1))) cNil)))))) (cC (.str "inside")) (cC .non))))))))))
theorem d__law_word {f : Addr} {k : Nat} (B : Bl mg) {j__law_is_in : Nat} {q__law_is_in : List Str} {p__law_is_in : CSp} (g__law_is_in : CalC P w K mg base "_law_is_in" j__law_is_in q__law_is_in p__law_is_in) (l__law_is_in : j__law_is_in ≤ k)  (cdv : Value) (A : Around) (outer : List Env) (s : Shared) (H : Hp) (E : XK) (hr : Room k (A.deeper (envOfC "_law_word" (defScope s__law_word) s.heap.objs.size f cdv))) :
    PSs (cxOf CX0 P w K mg base N__law_word "_law_word" (defScope s__law_word) f cdv A outer s H E).nox (defBody s__law_word) (liftS K (c__law_word p__law_is_in)) := by
  have hN := sc__law_word.nd
  have hu := hu_of hr
  exact (scons (spar (i := 2) (j := 3) rfl hN (by decide) (kcons (kix ix_seq rel_ix (kv 1) kint) (kcons (kslice (kv 1) (kosome kint) konone) knil)))
    (scons (sif (ktcmp (op_eqP hr.units) (rel_eq false) (kv 2) kstr) (sone (sset (i := 3) hN (kslice (kv 1) (kosome kint) (kosome kint)))) snil)
    (scons (sif (ktcmp (op_eqP hr.units) (rel_eq false) (kv 2) kstr) (sone (sset (i := 3) hN (kslice (kv 1) (kosome kint) konone))) snil)
    (scons (sif (ktcmp (op_neP hr.units) (rel_eq true) (klc (own := [("_law_name", 4)]) rfl hN (pi_tup (kv 3)) rel_T (own_name (by decide)) (blkOk_by (show blkC N__law_word (defScope s__law_word) _ _ = true by decide +kernel)) (fun _ _ _ _ _ => (pg_name (i := 4) hN rfl (by first | exact Or.inl rfl | exact Or.inr rfl) (by first | exact .inl rfl | exact .inr rfl))) (fun _ _ _ _ _ => (ktsone (ktdnin hu (kv 4) (kv 0)))) (fun _ _ _ _ _ => (kv 4))) (klst knil)) (sone (sret kstr)) snil)
    (scons (sif (PW.pt (kor (PW.pt (kand (ktcmp (op_eqP hr.units) (rel_eq false) (kv 2) kstr) (kand1 (ktdin hu (kix ix_seq rel_ix (kv 1) kint) (kv 0))))) (kor1 (PW.pt (kand (ktcmp (op_eqP hr.units) (rel_eq false) (kv 2) kstr) (kand1 (ktdin hu (kix ix_seq rel_ix (kv 1) kint) (kv 0)))))))) (sone (sret kstr)) snil)
    (scons (sif (PW.pt (kand (ktcmp op_in_seq (rel_in false) (kv 2) (ktup (kcons kstr (kcons kstr (kcons kstr (kcons kstr (kcons kstr knil))))))) (kand1 (ktest (kc g__law_is_in l__law_is_in hr rfl (kcons (kv 0) (kcons (kix ix_seq rel_ix (kv 1) kint) (kcons (kix ix_seq rel_ix (kv 1) kint) knil)))))))) (sone (sret kstr)) snil)
    (scons (sif (PW.pt (kand (ktcmp (op_eqP hr.units) (rel_eq false) (kv 2) kstr) (kand1 (ktest (kc g__law_is_in l__law_is_in hr rfl (kcons (kv 0) (kcons (kix ix_seq rel_ix (kv 1) kint) (kcons (kix ix_seq rel_ix (kv 1) kint) knil)))))))) (sone (sret kstr)) snil)
    (sone (sret (kif (PW.pt (kand (ktcmp (op_eqP hr.units) (rel_eq false) (kv 2) kstr) (kand1 (ktest (kc g__law_is_in l__law_is_in hr rfl (kcons (kv 0) (kcons (kix ix_seq rel_ix (kv 1) kint) (kcons (kix ix_seq rel_ix (kv 1) kint) knil)))))))) kstr knon))))))))))

/-! ### _law_placed -/
abbrev s__law_placed : Stmt := topS 53
abbrev N__law_placed : List Str := ["_law_kids_here", "_law_deed_here", "_law_word_here", "_law_name", "_law_row"]
theorem sc__law_placed : FnScope N__law_placed ["_law_kids_here", "_law_deed_here"] (defScope s__law_placed) := ⟨rfl, rfl, rfl, by decide +kernel, rfl, by decide +kernel, by decide +kernel⟩
def c__law_placed (p__law_over : CSp)  : CS :=
    (cSeq (cPar 2 3 (cCons (cOp fIx (cVar 1) (cC (.int 0))) (cCons (cOp fIx (cVar 1) (cC (.int 1))) cNil)))
    (cSeq (cDrop (cMet fRemove (cDGet (cVar 0) (cCall p__law_over (cCons (cVar 0) (cCons (cVar 3) cNil)))) (cCons (cVar 3) cNil)))
    (cIfS (cB (cOp (fEq false) (cVar 2) (cC (.str "front")))) (cDrop (cMet fInsert (cDGet (cVar 0) (cC (.str ""))) (cCons (cC (.int 0)) (cCons (cVar 3) cNil)))) (cIfS (cB (cOp (fEq false) (cVar 2) (cC (.str "back")))) (cDrop (cMet fAppend (cDGet (cVar 0) (cC (.str ""))) (cCons (cVar 3) cNil))) (cIfS (cB (cOp (fEq false) (cVar 2) (cC (.str "first")))) (cDrop (cMet fInsert (cDGet (cVar 0) (cOp fIx (cVar 1) (cC (.int 2)))) (cCons (cC (.int 0)) (cCons (cVar 3) cNil)))) (cIfS (cB (cOp (fEq false) (cVar 2) (cC (.str "last")))) (cDrop (cMet fAppend (cDGet (cVar 0) (cOp fIx (cVar 1) (cC (.int 2)))) (cCons (cVar 3) cNil))) (cSeq (cSet 4 (cDGet (cVar 0) (cCall p__law_over (cCons (cVar 0) (cCons (cOp fIx (cVar 1) (cC (.int 2))) cNil)))))
    (cDrop (cMet fInsert (cVar 4) (cCons (cOp fAdd (cMet fIndexL (cVar 4) (cCons (cOp fIx (cVar 1) (cC (.int 2))) cNil)) (cCall fInt (cCons (cOp (fEq false) (cVar 2) (cC (.str "behind"))) cNil))) (cCons (cVar 3) cNil)))))))))))
theorem d__law_placed {f : Addr} {k : Nat} (B : Bl mg) {j__law_over : Nat} {q__law_over : List Str} {p__law_over : CSp} (g__law_over : CalC P w K mg base "_law_over" j__law_over q__law_over p__law_over) (l__law_over : j__law_over ≤ k)  (cdv : Value) (A : Around) (outer : List Env) (s : Shared) (H : Hp) (E : XK) (hr : Room k (A.deeper (envOfC "_law_placed" (defScope s__law_placed) s.heap.objs.size f cdv))) :
    PSs (cxOf CX0 P w K mg base N__law_placed "_law_placed" (defScope s__law_placed) f cdv A outer s H E).nox (defBody s__law_placed) (liftS K (c__law_placed p__law_over)) := by
  have hN := sc__law_placed.nd
  have hu := hu_of hr
  exact (scons (spar (i := 2) (j := 3) rfl hN (by decide) (kcons (kix ix_seq rel_ix (kv 1) kint) (kcons (kix ix_seq rel_ix (kv 1) kint) knil)))
    (scons (sdrop (kmet PySem.F.slot_list_remove PySem.F.type_list_remove mt_rem rel_remove (kdget hu (kv 0) (kc g__law_over l__law_over hr rfl (kcons (kv 0) (kcons (kv 3) knil)))) (kcons (kv 3) knil)))
    (sone (sif (ktcmp (op_eqP hr.units) (rel_eq false) (kv 2) kstr) (sone (sdrop (kmet PySem.F.slot_list_insert PySem.F.type_list_insert mt_insert rel_insert (kdget hu (kv 0) kstr) (kcons kint (kcons (kv 3) knil))))) (sone (sif (ktcmp (op_eqP hr.units) (rel_eq false) (kv 2) kstr) (sone (sdrop (kmet PySem.F.slot_list_append PySem.F.type_list_append mt_append rel_append (kdget hu (kv 0) kstr) (kcons (kv 3) knil)))) (sone (sif (ktcmp (op_eqP hr.units) (rel_eq false) (kv 2) kstr) (sone (sdrop (kmet PySem.F.slot_list_insert PySem.F.type_list_insert mt_insert rel_insert (kdget hu (kv 0) (kix ix_seq rel_ix (kv 1) kint)) (kcons kint (kcons (kv 3) knil))))) (sone (sif (ktcmp (op_eqP hr.units) (rel_eq false) (kv 2) kstr) (sone (sdrop (kmet PySem.F.slot_list_append PySem.F.type_list_append mt_append rel_append (kdget hu (kv 0) (kix ix_seq rel_ix (kv 1) kint)) (kcons (kv 3) knil)))) (scons (sset (i := 4) hN (kdget hu (kv 0) (kc g__law_over l__law_over hr rfl (kcons (kv 0) (kcons (kix ix_seq rel_ix (kv 1) kint) knil)))))
    (sone (sdrop (kmet PySem.F.slot_list_insert PySem.F.type_list_insert mt_insert rel_insert (kv 4) (kcons (kop op_addAll rel_add (kmet PySem.F.slot_list_index PySem.F.type_list_index mt_index rel_indexL (kv 4) (kcons (kix ix_seq rel_ix (kv 1) kint) knil)) (kInt B rfl (kcons (kcmp (op_eqP hr.units) (rel_eq false) (kv 2) kstr) knil))) (kcons (kv 3) knil))))))))))))))))

/-! ### _law_ran -/
abbrev s__law_ran : Stmt := topS 56
abbrev N__law_ran : List Str := ["_law_wood_here", "_law_deeds", "_law_kids_here", "_law_index", "_law_deed_here", "_law_word_here"]
theorem sc__law_ran : FnScope N__law_ran ["_law_wood_here", "_law_deeds"] (defScope s__law_ran) := ⟨rfl, rfl, rfl, by decide +kernel, rfl, by decide +kernel, by decide +kernel⟩
def c__law_ran (p__law_kids : CSp) (p__law_word : CSp) (p__law_placed : CSp) (p__law_changed : CSp) (p__law_wood_of : CSp)  : CS :=
    (cSeq (cSet 2 (cCall p__law_kids (cCons (cVar 0) cNil)))
    (cSeq (cFor (iEnm 3 4 (cVar 1)) (cSeq (cSet 5 (cCall p__law_word (cCons (cVar 2) (cCons (cVar 4) cNil))))
    (cSeq (cIfS (cB (cOp (fIs true) (cVar 5) (cC .non))) (cRet (cTup (cCons (cC (.str "stops")) (cCons (cVar 3) (cCons (cVar 5) cNil))))) cSkip)
    (cIfS (cB (cOp (fIn false) (cOp fIx (cVar 4) (cC (.int 0))) (cTup (cCons (cC (.str "first")) (cCons (cC (.str "last")) (cCons (cC (.str "ahead")) (cCons (cC (.str "behind")) (cCons (cC (.str "front")) (cCons (cC (.str "back")) cNil))))))))) (cDrop (cCall p__law_placed (cCons (cVar 2) (cCons (cVar 4) cNil)))) (cDrop (cCall p__law_changed (cCons (cVar 2) (cCons (cVar 4) cNil))))))))
    (cRet (cTup (cCons (cC (.str "does")) (cCons (cCall p__law_wood_of (cCons (cVar 2) (cCons (cC (.str "")) cNil))) cNil))))))
theorem d__law_ran {f : Addr} {k : Nat} (B : Bl mg) {j__law_kids : Nat} {q__law_kids : List Str} {p__law_kids : CSp} (g__law_kids : CalC P w K mg base "_law_kids" j__law_kids q__law_kids p__law_kids) (l__law_kids : j__law_kids ≤ k) {j__law_word : Nat} {q__law_word : List Str} {p__law_word : CSp} (g__law_word : CalC P w K mg base "_law_word" j__law_word q__law_word p__law_word) (l__law_word : j__law_word ≤ k) {j__law_placed : Nat} {q__law_placed : List Str} {p__law_placed : CSp} (g__law_placed : CalC P w K mg base "_law_placed" j__law_placed q__law_placed p__law_placed) (l__law_placed : j__law_placed ≤ k) {j__law_changed : Nat} {q__law_changed : List Str} {p__law_changed : CSp} (g__law_changed : CalC P w K mg base "_law_changed" j__law_changed q__law_changed p__law_changed) (l__law_changed : j__law_changed ≤ k) {j__law_wood_of : Nat} {q__law_wood_of : List Str} {p__law_wood_of : CSp} (g__law_wood_of : CalC P w K mg base "_law_wood_of" j__law_wood_of q__law_wood_of p__law_wood_of) (l__law_wood_of : j__law_wood_of ≤ k)  (cdv : Value) (A : Around) (outer : List Env) (s : Shared) (H : Hp) (E : XK) (hr : Room k (A.deeper (envOfC "_law_ran" (defScope s__law_ran) s.heap.objs.size f cdv))) :
    PSs (cxOf CX0 P w K mg base N__law_ran "_law_ran" (defScope s__law_ran) f cdv A outer s H E).nox (defBody s__law_ran) (liftS K (c__law_ran p__law_kids p__law_word p__law_placed p__law_changed p__law_wood_of)) := by
  have hN := sc__law_ran.nd
  have hu := hu_of hr
  exact (scons (sset (i := 2) hN (kc g__law_kids l__law_kids hr rfl (kcons (kv 0) knil)))
    (scons (sfor PassesOwn.never rfl (pi_enumT rfl B.enm (pa_cons (kv 1) pa_nil)) (gtwo (i := 3) (j := 4) rfl hN) rel_enm (scons (sset (i := 5) hN (kc g__law_word l__law_word hr rfl (kcons (kv 2) (kcons (kv 4) knil))))
    (scons (sif (ktcmp op_notN rel_isnt (kv 5) knon) (sone (sret (ktup (kcons kstr (kcons (kv 3) (kcons (kv 5) knil)))))) snil)
    (sone (sif (ktcmp op_in_seq (rel_in false) (kix ix_seq rel_ix (kv 4) kint) (ktup (kcons kstr (kcons kstr (kcons kstr (kcons kstr (kcons kstr (kcons kstr knil)))))))) (sone (sdrop (kc g__law_placed l__law_placed hr rfl (kcons (kv 2) (kcons (kv 4) knil))))) (sone (sdrop (kc g__law_changed l__law_changed hr rfl (kcons (kv 2) (kcons (kv 4) knil))))))))))
    (sone (sret (ktup (kcons kstr (kcons (kc g__law_wood_of l__law_wood_of hr rfl (kcons (kv 2) (kcons kstr knil))) knil)))))))

/-! ### _law_roles -/
abbrev s__law_roles : Stmt := topS 57
abbrev N__law_roles : List Str := ["_law_deeds", "_law_old", "_law_new", "_law_deed_here", "_law_at_new", "_law_k"]
theorem sc__law_roles : FnScope N__law_roles ["_law_deeds"] (defScope s__law_roles) := ⟨rfl, rfl, rfl, by decide +kernel, rfl, by decide +kernel, by decide +kernel⟩
def c__law_roles   : CS :=
    (cSeq (cPar 1 2 (cCons (cLst cNil) (cCons (cLst cNil) cNil)))
    (cSeq (cFor (iT 3 (cVar 0)) (cSeq (cSet 4 (cDGet2 (cDisp [((cC (.str "wrap")), (cC (.int 2))), ((cC (.str "put")), (cC (.int 1)))]) (cOp fIx (cVar 3) (cC (.int 0))) (cC (.int 0))))
    (cFor (iR2 5 (cCons (cC (.int 1)) (cCons (cCall fLen (cCons (cVar 3) cNil)) cNil))) (cIfS (cAnd (cB (cOp (fIn true) (cOp fIx (cVar 3) (cVar 5)) (cOp fAdd (cVar 1) (cVar 2)))) (cB (cOp (fEq false) (cVar 5) (cVar 4)))) (cDrop (cMet fAppend (cVar 2) (cCons (cOp fIx (cVar 3) (cVar 5)) cNil))) (cIfS (cB (cOp (fIn true) (cOp fIx (cVar 3) (cVar 5)) (cOp fAdd (cVar 1) (cVar 2)))) (cDrop (cMet fAppend (cVar 1) (cCons (cOp fIx (cVar 3) (cVar 5)) cNil))) cSkip)))))
    (cRet (cTup (cCons (cCall fTupOf (cCons (cSrtSet (cVar 1)) cNil)) (cCons (cCall fTupOf (cCons (cSrtSet (cVar 2)) cNil)) cNil))))))
theorem d__law_roles {f : Addr} {k : Nat} (B : Bl mg)   (cdv : Value) (A : Around) (outer : List Env) (s : Shared) (H : Hp) (E : XK) (hr : Room k (A.deeper (envOfC "_law_roles" (defScope s__law_roles) s.heap.objs.size f cdv))) :
    PSs (cxOf CX0 P w K mg base N__law_roles "_law_roles" (defScope s__law_roles) f cdv A outer s H E).nox (defBody s__law_roles) (liftS K (c__law_roles )) := by
  have hN := sc__law_roles.nd
  have hu := hu_of hr
  exact (scons (spar (i := 1) (j := 2) rfl hN (by decide) (kcons (klst knil) (kcons (klst knil) knil)))
    (scons (sfor PassesOwn.never rfl (pi_tup (kv 0)) (pg_name (i := 3) hN rfl (by first | exact Or.inl rfl | exact Or.inr rfl) (by first | exact .inl rfl | exact .inr rfl)) rel_T (scons (sset (i := 4) hN (kdget2 hu (kdis (kpcons kstr kint (kpcons kstr kint kpnil))) (kix ix_seq rel_ix (kv 3) kint) kint ⟨rfl, rfl, rfl, rfl⟩))
    (sone (sfor PassesOwn.never rfl (pi_range2 rfl B.rng (kcons kint (kcons (kLen B rfl (kcons (kv 3) knil)) knil))) (pg_name (i := 5) hN rfl (by first | exact Or.inl rfl | exact Or.inr rfl) (by first | exact .inl rfl | exact .inr rfl)) rel_R2 (sone (sif (PW.pt (kand (ktcmp op_notIn_seq (rel_in true) (kix ix_seq rel_ix (kv 3) (kv 5)) (kop op_addAll rel_add (kv 1) (kv 2))) (kand1 (ktcmp (op_eqP hr.units) (rel_eq false) (kv 5) (kv 4))))) (sone (sdrop (kmet PySem.F.slot_list_append PySem.F.type_list_append mt_append rel_append (kv 2) (kcons (kix ix_seq rel_ix (kv 3) (kv 5)) knil)))) (sone (sif (ktcmp op_notIn_seq (rel_in true) (kix ix_seq rel_ix (kv 3) (kv 5)) (kop op_addAll rel_add (kv 1) (kv 2))) (sone (sdrop (kmet PySem.F.slot_list_append PySem.F.type_list_append mt_append rel_append (kv 1) (kcons (kix ix_seq rel_ix (kv 3) (kv 5)) knil)))) snil))))))))
    (sone (sret (ktup (kcons (kTupOf B rfl (kcons (ksrtSet rfl rfl B.srt rfl B.set (kv 1)) knil)) (kcons (kTupOf B rfl (kcons (ksrtSet rfl rfl B.srt rfl B.set (kv 2)) knil)) knil)))))))

/-! ### _law_deed -/
abbrev s__law_deed : Stmt := topS 58
abbrev N__law_deed : List Str := ["_law_deck_here", "_law_called", "_law_words", "_law_word_here", "_law_way", "_law_made", "_law_one", "_law_other"]
theorem sc__law_deed : FnScope N__law_deed ["_law_deck_here", "_law_called"] (defScope s__law_deed) := ⟨rfl, rfl, rfl, by decide +kernel, rfl, by decide +kernel, by decide +kernel⟩
def c__law_deed (p__law_draw : CSp) (p__law_pick : CSp)  : CS :=
    (cSeq (cSet 2 (cOp fAdd (cOp fMul (cLst (cCons (cC (.str "first")) (cCons (cC (.str "last")) (cCons (cC (.str "ahead")) (cCons (cC (.str "behind")) (cCons (cC (.str "front")) (cCons (cC (.str "back")) cNil))))))) (cC (.int 2))) (cLst (cCons (cC (.str "swap")) (cCons (cC (.str "turn")) (cCons (cC (.str "pour")) (cCons (cC (.str "pour")) (cCons (cC (.str "lift")) (cCons (cC (.str "cut")) cNil)))))))))
    (cSeq (cIfS (cB (cOp (fEq false) (cCall fLen (cCons (cVar 1) cNil)) (cC (.int 1)))) (cSet 2 (cLst (cCons (cC (.str "front")) (cCons (cC (.str "back")) (cCons (cC (.str "front")) (cCons (cC (.str "back")) (cCons (cC (.str "lift")) (cCons (cC (.str "cut")) (cCons (cC (.str "turn")) (cCons (cC (.str "last")) cNil)))))))))) cSkip)
    (cSeq (cPar 3 4 (cCons (cCall p__law_pick (cCons (cVar 0) (cCons (cVar 2) cNil))) (cCons (cCall p__law_draw (cCons (cVar 0) (cCons (cC (.int 8)) cNil))) cNil)))
    (cSeq (cSet 5 (cIf (cB (cOp fGt (cCall fLen (cCons (cVar 1) cNil)) (cC (.int 1)))) (cSl (cVar 1) (oSome (cNeg (cC (.int 2)))) oNone) (cTup (cCons (cC (.str "made")) cNil))))
    (cSeq (cPar 6 7 (cCons (cCall p__law_pick (cCons (cVar 0) (cCons (cVar 1) cNil))) (cCons (cCall p__law_pick (cCons (cVar 0) (cCons (cVar 1) cNil))) cNil)))
    (cSeq (cIfS (cAnd (cB (cOp (fEq false) (cVar 6) (cVar 7))) (cB (cOp fLt (cVar 4) (cC (.int 6))))) (cSet 7 (cOp fIx (cVar 1) (cOp fMod (cOp fAdd (cTIx (cVar 1) (cVar 6)) (cC (.int 1))) (cCall fLen (cCons (cVar 1) cNil))))) cSkip)
    (cSeq (cIfS (cB (cOp (fEq false) (cVar 4) (cC (.int 0)))) (cRet (cTup (cCons (cC (.str "wrap")) (cCons (cVar 6) (cCons (cCall p__law_pick (cCons (cVar 0) (cCons (cVar 5) cNil))) cNil))))) cSkip)
    (cSeq (cIfS (cB (cOp (fEq false) (cVar 4) (cC (.int 1)))) (cRet (cTup (cCons (cC (.str "put")) (cCons (cCall p__law_pick (cCons (cVar 0) (cCons (cVar 5) cNil))) (cCons (cVar 7) cNil))))) cSkip)
    (cRet (cIf (cB (cOp (fIn false) (cVar 3) (cTup (cCons (cC (.str "front")) (cCons (cC (.str "back")) (cCons (cC (.str "lift")) (cCons (cC (.str "cut")) cNil))))))) (cTup (cCons (cVar 3) (cCons (cVar 6) cNil))) (cTup (cCons (cVar 3) (cCons (cVar 6) (cCons (cVar 7) cNil))))))))))))))
theorem d__law_deed {f : Addr} {k : Nat} (B : Bl mg) {j__law_draw : Nat} {q__law_draw : List Str} {p__law_draw : CSp} (g__law_draw : CalC P w K mg base "_law_draw" j__law_draw q__law_draw p__law_draw) (l__law_draw : j__law_draw ≤ k) {j__law_pick : Nat} {q__law_pick : List Str} {p__law_pick : CSp} (g__law_pick : CalC P w K mg base "_law_pick" j__law_pick q__law_pick p__law_pick) (l__law_pick : j__law_pick ≤ k)  (cdv : Value) (A : Around) (outer : List Env) (s : Shared) (H : Hp) (E : XK) (hr : Room k (A.deeper (envOfC "_law_deed" (defScope s__law_deed) s.heap.objs.size f cdv))) :
    PSs (cxOf CX0 P w K mg base N__law_deed "_law_deed" (defScope s__law_deed) f cdv A outer s H E).nox (defBody s__law_deed) (liftS K (c__law_deed p__law_draw p__law_pick)) := by
  have hN := sc__law_deed.nd
  have hu := hu_of hr
  exact (scons (sset (i := 2) hN (kop op_addAll rel_add (kop op_mulAll rel_mul (klst (kcons kstr (kcons kstr (kcons kstr (kcons kstr (kcons kstr (kcons kstr knil))))))) kint) (klst (kcons kstr (kcons kstr (kcons kstr (kcons kstr (kcons kstr (kcons kstr knil)))))))))
    (scons (sif (ktcmp (op_eqP hr.units) (rel_eq false) (kLen B rfl (kcons (kv 1) knil)) kint) (sone (sset (i := 2) hN (klst (kcons kstr (kcons kstr (kcons kstr (kcons kstr (kcons kstr (kcons kstr (kcons kstr (kcons kstr knil))))))))))) snil)
    (scons (spar (i := 3) (j := 4) rfl hN (by decide) (kcons (kc g__law_pick l__law_pick hr rfl (kcons (kv 0) (kcons (kv 2) knil))) (kcons (kc g__law_draw l__law_draw hr rfl (kcons (kv 0) (kcons kint knil))) knil)))
    (scons (sset (i := 5) hN (kif (ktcmp op_gt (rel_I0 fun _ _ _ => .bl _) (kLen B rfl (kcons (kv 1) knil)) kint) (kslice (kv 1) (kosome (kneg kint)) konone) (ktup (kcons kstr knil))))
    (scons (spar (i := 6) (j := 7) rfl hN (by decide) (kcons (kc g__law_pick l__law_pick hr rfl (kcons (kv 0) (kcons (kv 1) knil))) (kcons (kc g__law_pick l__law_pick hr rfl (kcons (kv 0) (kcons (kv 1) knil))) knil)))
    (scons (sif (PW.pt (kand (ktcmp (op_eqP hr.units) (rel_eq false) (kv 6) (kv 7)) (kand1 (ktcmp op_lt (rel_I0 fun _ _ _ => .bl _) (kv 4) kint)))) (sone (sset (i := 7) hN (kix ix_seq rel_ix (kv 1) (kop op_mod (rel_I fun _ _ _ => .int _) (kop op_addAll rel_add (ktix (kv 1) (kv 6)) kint) (kLen B rfl (kcons (kv 1) knil)))))) snil)
    (scons (sif (ktcmp (op_eqP hr.units) (rel_eq false) (kv 4) kint) (sone (sret (ktup (kcons kstr (kcons (kv 6) (kcons (kc g__law_pick l__law_pick hr rfl (kcons (kv 0) (kcons (kv 5) knil))) knil)))))) snil)
    (scons (sif (ktcmp (op_eqP hr.units) (rel_eq false) (kv 4) kint) (sone (sret (ktup (kcons kstr (kcons (kc g__law_pick l__law_pick hr rfl (kcons (kv 0) (kcons (kv 5) knil))) (kcons (kv 7) knil)))))) snil)
    (sone (sret (kif (ktcmp op_in_seq (rel_in false) (kv 3) (ktup (kcons kstr (kcons kstr (kcons kstr (kcons kstr knil)))))) (ktup (kcons (kv 3) (kcons (kv 6) knil))) (ktup (kcons (kv 3) (kcons (kv 6) (kcons (kv 7) knil)))))))))))))))

/-! ### _law_script -/
abbrev s__law_script : Stmt := topS 59
abbrev N__law_script : List Str := ["_law_deck_here", "_law_called", "_law_most", "_law_k"]
theorem sc__law_script : FnScope N__law_script ["_law_deck_here", "_law_called", "_law_most"] (defScope s__law_script) := ⟨rfl, rfl, rfl, by decide +kernel, rfl, by decide +kernel, by decide +kernel⟩
def c__law_script (p__law_draw : CSp) (p__law_deed : CSp)  : CS :=
    (cRet (cCall fTupOf (cCons (cLc (iR1 3 (cCons (cCall p__law_draw (cCons (cVar 0) (cCons (cOp fAdd (cVar 2) (cC (.int 1))) cNil))) cNil)) [3] cYes (cCall p__law_deed (cCons (cVar 0) (cCons (cVar 1) cNil)))) cNil)))
theorem d__law_script {f : Addr} {k : Nat} (B : Bl mg) {j__law_draw : Nat} {q__law_draw : List Str} {p__law_draw : CSp} (g__law_draw : CalC P w K mg base "_law_draw" j__law_draw q__law_draw p__law_draw) (l__law_draw : j__law_draw ≤ k) {j__law_deed : Nat} {q__law_deed : List Str} {p__law_deed : CSp} (g__law_deed : CalC P w K mg base "_law_deed" j__law_deed q__law_deed p__law_deed) (l__law_deed : j__law_deed ≤ k)  (cdv : Value) (A : Around) (outer : List Env) (s : Shared) (H : Hp) (E : XK) (hr : Room k (A.deeper (envOfC "_law_script" (defScope s__law_script) s.heap.objs.size f cdv))) :
    PSs (cxOf CX0 P w K mg base N__law_script "_law_script" (defScope s__law_script) f cdv A outer s H E).nox (defBody s__law_script) (liftS K (c__law_script p__law_draw p__law_deed)) := by
  have hN := sc__law_script.nd
  have hu := hu_of hr
  exact (sone (sret (kTupOf B rfl (kcons (klc (own := [("_law_k", 3)]) rfl hN (pi_range1 rfl B.rng (kcons (kc g__law_draw l__law_draw hr rfl (kcons (kv 0) (kcons (kop op_addAll rel_add (kv 2) kint) knil))) knil)) rel_R1 (own_name (by decide)) (blkOk_by (show blkC N__law_script (defScope s__law_script) _ _ = true by decide +kernel)) (fun _ _ _ _ _ => (pg_name (i := 3) hN rfl (by first | exact Or.inl rfl | exact Or.inr rfl) (by first | exact .inl rfl | exact .inr rfl))) (fun _ _ _ _ _ => ktsnil) (fun _ _ _ _ _ => (kc g__law_deed l__law_deed hr rfl (kcons (kv 0) (kcons (kv 1) knil))))) knil))))

/-! ### _law_wood -/
abbrev s__law_wood : Stmt := topS 60
abbrev N__law_wood : List Str := ["_law_deck_here", "_law_called", "_law_kids_here", "_law_name", "_law_over_here", "_law_at", "_law_some", "_law_take"]
theorem sc__law_wood : FnScope N__law_wood ["_law_deck_here", "_law_called"] (defScope s__law_wood) := ⟨rfl, rfl, rfl, by decide +kernel, rfl, by decide +kernel, by decide +kernel⟩
def c__law_wood (p__law_draw : CSp) (p__law_wood_of : CSp)  : CS :=
    (cSeq (cSet 2 (cDisp [((cC (.str "")), (cLst cNil))]))
    (cSeq (cFor (iT 3 (cVar 1)) (cSeq (cSet 4 (cOp fIx (cLstKeys (cVar 2)) (cCall p__law_draw (cCons (cVar 0) (cCons (cCall fLen (cCons (cVar 2) cNil)) cNil)))))
    (cSeq (cSet 5 (cCall p__law_draw (cCons (cVar 0) (cCons (cOp fAdd (cCall fLen (cCons (cDGet (cVar 2) (cVar 4)) cNil)) (cC (.int 1))) cNil))))
    (cSeq (cSet 6 (cDGet (cVar 2) (cVar 4)))
    (cSeq (cSet 7 (cOp fMul (cOp fDivW (cCall p__law_draw (cCons (cVar 0) (cCons (cC (.int 4)) cNil))) (cC (.int 3))) (cCall p__law_draw (cCons (cVar 0) (cCons (cOp fAdd (cOp fSub (cCall fLen (cCons (cVar 6) cNil)) (cVar 5)) (cC (.int 1))) cNil)))))
    (cSeq (cDPut (cVar 2) (cVar 3) (cSl (cVar 6) (oSome (cVar 5)) (oSome (cOp fAdd (cVar 5) (cVar 7)))))
    (cDPut (cVar 2) (cVar 4) (cOp fAdd (cOp fAdd (cSl (cVar 6) oNone (oSome (cVar 5))) (cLst (cCons (cVar 3) cNil))) (cSl (cVar 6) (oSome (cOp fAdd (cVar 5) (cVar 7))) oNone)))))))))
    (cRet (cCall p__law_wood_of (cCons (cVar 2) (cCons (cC (.str "")) cNil))))))
theorem d__law_wood {f : Addr} {k : Nat} (B : Bl mg) {j__law_draw : Nat} {q__law_draw : List Str} {p__law_draw : CSp} (g__law_draw : CalC P w K mg base "_law_draw" j__law_draw q__law_draw p__law_draw) (l__law_draw : j__law_draw ≤ k) {j__law_wood_of : Nat} {q__law_wood_of : List Str} {p__law_wood_of : CSp} (g__law_wood_of : CalC P w K mg base "_law_wood_of" j__law_wood_of q__law_wood_of p__law_wood_of) (l__law_wood_of : j__law_wood_of ≤ k)  (cdv : Value) (A : Around) (outer : List Env) (s : Shared) (H : Hp) (E : XK) (hr : Room k (A.deeper (envOfC "_law_wood" (defScope s__law_wood) s.heap.objs.size f cdv))) :
    PSs (cxOf CX0 P w K mg base N__law_wood "_law_wood" (defScope s__law_wood) f cdv A outer s H E).nox (defBody s__law_wood) (liftS K (c__law_wood p__law_draw p__law_wood_of)) := by
  have hN := sc__law_wood.nd
  have hu := hu_of hr
  exact (scons (sset (i := 2) hN (kdis (kpcons kstr (klst knil) kpnil)))
    (scons (sfor PassesOwn.never rfl (pi_tup (kv 1)) (pg_name (i := 3) hN rfl (by first | exact Or.inl rfl | exact Or.inr rfl) (by first | exact .inl rfl | exact .inr rfl)) rel_T (scons (sset (i := 4) hN (kix ix_seq rel_ix (klistKeys rfl (kv 2) rfl B.lst) (kc g__law_draw l__law_draw hr rfl (kcons (kv 0) (kcons (kLen B rfl (kcons (kv 2) knil)) knil)))))
    (scons (sset (i := 5) hN (kc g__law_draw l__law_draw hr rfl (kcons (kv 0) (kcons (kop op_addAll rel_add (kLen B rfl (kcons (kdget hu (kv 2) (kv 4)) knil)) kint) knil))))
    (scons (sset (i := 6) hN (kdget hu (kv 2) (kv 4)))
    (scons (sset (i := 7) hN (kop op_mulAll rel_mul (kop op_fdivW (rel_I fun _ _ _ => .int _) (kc g__law_draw l__law_draw hr rfl (kcons (kv 0) (kcons kint knil))) kint) (kc g__law_draw l__law_draw hr rfl (kcons (kv 0) (kcons (kop op_addAll rel_add (kop op_sub (rel_I0 fun _ _ _ => .int _) (kLen B rfl (kcons (kv 6) knil)) (kv 5)) kint) knil)))))
    (scons (sdput hu (kv 2) (kv 3) (kslice (kv 6) (kosome (kv 5)) (kosome (kop op_addAll rel_add (kv 5) (kv 7)))))
    (sone (sdput hu (kv 2) (kv 4) (kop op_addAll rel_add (kop op_addAll rel_add (kslice (kv 6) konone (kosome (kv 5))) (klst (kcons (kv 3) knil))) (kslice (kv 6) (kosome (kop op_addAll rel_add (kv 5) (kv 7))) konone))))))))))
    (sone (sret (kc g__law_wood_of l__law_wood_of hr rfl (kcons (kv 2) (kcons kstr knil)))))))

/-! ### _law_fits -/
abbrev s__law_fits : Stmt := topS 61
abbrev N__law_fits : List Str := ["_law_wood_here", "_law_old", "_law_new", "_law_called", "_law_name"]
theorem sc__law_fits : FnScope N__law_fits ["_law_wood_here", "_law_old", "_law_new"] (defScope s__law_fits) := ⟨rfl, rfl, rfl, by decide +kernel, rfl, by decide +kernel, by decide +kernel⟩
def c__law_fits (p__law_is_wood : CSp) (p__law_kids : CSp)  : CS :=
    (cSeq (cIfS (cNot (cB (cCall p__law_is_wood (cCons (cVar 0) cNil)))) (cRet (cC (.bl false))) cSkip)
    (cSeq (cSet 3 (cLstKeys (cCall p__law_kids (cCons (cVar 0) cNil))))
    (cSeq (cIfS (cB (cOp (fEq true) (cLc (iT 4 (cVar 1)) [4] (cB (cOp (fIn true) (cVar 4) (cVar 3))) (cVar 4)) (cLst cNil))) (cRet (cC (.bl false))) cSkip)
    (cRet (cOp (fEq false) (cLc (iT 4 (cVar 2)) [4] (cB (cOp (fIn false) (cVar 4) (cVar 3))) (cVar 4)) (cLst cNil))))))
theorem d__law_fits {f : Addr} {k : Nat} (B : Bl mg) {j__law_is_wood : Nat} {q__law_is_wood : List Str} {p__law_is_wood : CSp} (g__law_is_wood : CalC P w K mg base "_law_is_wood" j__law_is_wood q__law_is_wood p__law_is_wood) (l__law_is_wood : j__law_is_wood ≤ k) {j__law_kids : Nat} {q__law_kids : List Str} {p__law_kids : CSp} (g__law_kids : CalC P w K mg base "_law_kids" j__law_kids q__law_kids p__law_kids) (l__law_kids : j__law_kids ≤ k)  (cdv : Value) (A : Around) (outer : List Env) (s : Shared) (H : Hp) (E : XK) (hr : Room k (A.deeper (envOfC "_law_fits" (defScope s__law_fits) s.heap.objs.size f cdv))) :
    PSs (cxOf CX0 P w K mg base N__law_fits "_law_fits" (defScope s__law_fits) f cdv A outer s H E).nox (defBody s__law_fits) (liftS K (c__law_fits p__law_is_wood p__law_kids)) := by
  have hN := sc__law_fits.nd
  have hu := hu_of hr
  exact (scons (sif (knot (ktest (kc g__law_is_wood l__law_is_wood hr rfl (kcons (kv 0) knil)))) (sone (sret kbl)) snil)
    (scons (sset (i := 3) hN (klistKeys rfl (kc g__law_kids l__law_kids hr rfl (kcons (kv 0) knil)) rfl B.lst))
    (scons (sif (ktcmp (op_neP hr.units) (rel_eq true) (klc (own := [("_law_name", 4)]) rfl hN (pi_tup (kv 1)) rel_T (own_name (by decide)) (blkOk_by (show blkC N__law_fits (defScope s__law_fits) _ _ = true by decide +kernel)) (fun _ _ _ _ _ => (pg_name (i := 4) hN rfl (by first | exact Or.inl rfl | exact Or.inr rfl) (by first | exact .inl rfl | exact .inr rfl))) (fun _ _ _ _ _ => (ktsone (ktcmp op_notIn_seq (rel_in true) (kv 4) (kv 3)))) (fun _ _ _ _ _ => (kv 4))) (klst knil)) (sone (sret kbl)) snil)
    (sone (sret (kcmp (op_eqP hr.units) (rel_eq false) (klc (own := [("_law_name", 4)]) rfl hN (pi_tup (kv 2)) rel_T (own_name (by decide)) (blkOk_by (show blkC N__law_fits (defScope s__law_fits) _ _ = true by decide +kernel)) (fun _ _ _ _ _ => (pg_name (i := 4) hN rfl (by first | exact Or.inl rfl | exact Or.inr rfl) (by first | exact .inl rfl | exact .inr rfl))) (fun _ _ _ _ _ => (ktsone (ktcmp op_in_seq (rel_in false) (kv 4) (kv 3)))) (fun _ _ _ _ _ => (kv 4))) (klst knil)))))))

/-! ### _law_many -/
abbrev s__law_many : Stmt := topS 62
abbrev N__law_many : List Str := ["_law_wood_here"]
theorem sc__law_many : FnScope N__law_many ["_law_wood_here"] (defScope s__law_many) := ⟨rfl, rfl, rfl, by decide +kernel, rfl, by decide +kernel, by decide +kernel⟩
def c__law_many (p__law_kids : CSp)  : CS :=
    (cRet (cOp fSub (cCall fLen (cCons (cCall p__law_kids (cCons (cVar 0) cNil)) cNil)) (cC (.int 1))))
theorem d__law_many {f : Addr} {k : Nat} (B : Bl mg) {j__law_kids : Nat} {q__law_kids : List Str} {p__law_kids : CSp} (g__law_kids : CalC P w K mg base "_law_kids" j__law_kids q__law_kids p__law_kids) (l__law_kids : j__law_kids ≤ k)  (cdv : Value) (A : Around) (outer : List Env) (s : Shared) (H : Hp) (E : XK) (hr : Room k (A.deeper (envOfC "_law_many" (defScope s__law_many) s.heap.objs.size f cdv))) :
    PSs (cxOf CX0 P w K mg base N__law_many "_law_many" (defScope s__law_many) f cdv A outer s H E).nox (defBody s__law_many) (liftS K (c__law_many p__law_kids)) := by
  have hN := sc__law_many.nd
  have hu := hu_of hr
  exact (sone (sret (kop op_sub (rel_I0 fun _ _ _ => .int _) (kLen B rfl (kcons (kc g__law_kids l__law_kids hr rfl (kcons (kv 0) knil)) knil)) kint)))

/-! ### _law_other_wood -/
abbrev s__law_other_wood : Stmt := topS 64
abbrev N__law_other_wood : List Str := ["_law_deck_here", "_law_wood_here", "_law_called", "_law_k", "_law_one", "_law_other", "_law_deed_here", "_law_result"]
theorem sc__law_other_wood : FnScope N__law_other_wood ["_law_deck_here", "_law_wood_here", "_law_called"] (defScope s__law_other_wood) := ⟨rfl, rfl, rfl, by decide +kernel, rfl, by decide +kernel, by decide +kernel⟩
def c__law_other_wood (p__law_draw : CSp) (p__law_mixed : CSp) (p__law_wood : CSp) (p__law_pick : CSp) (p__law_ran : CSp)  : CS :=
    (cSeq (cIfS (cB (cOp (fEq false) (cCall p__law_draw (cCons (cVar 0) (cCons (cC (.int 3)) cNil))) (cC (.int 0)))) (cRet (cCall p__law_wood (cCons (cVar 0) (cCons (cCall p__law_mixed (cCons (cVar 0) (cCons (cVar 2) cNil))) cNil)))) cSkip)
    (cSeq (cFor (iR1 3 (cCons (cC (.int 2)) cNil)) (cSeq (cPar 4 5 (cCons (cCall p__law_pick (cCons (cVar 0) (cCons (cVar 2) cNil))) (cCons (cCall p__law_pick (cCons (cVar 0) (cCons (cVar 2) cNil))) cNil)))
    (cSeq (cSet 6 (cTup (cCons (cCall p__law_pick (cCons (cVar 0) (cCons (cLst (cCons (cC (.str "first")) (cCons (cC (.str "last")) (cCons (cC (.str "ahead")) (cCons (cC (.str "behind")) cNil))))) cNil))) (cCons (cVar 4) (cCons (cVar 5) cNil)))))
    (cSeq (cSet 7 (cCall p__law_ran (cCons (cVar 1) (cCons (cTup (cCons (cIf (cB (cOp fGt (cCall p__law_draw (cCons (cVar 0) (cCons (cC (.int 4)) cNil))) (cC (.int 0)))) (cVar 6) (cTup (cCons (cC (.str "front")) (cCons (cVar 4) cNil)))) cNil)) cNil))))
    (cIfS (cB (cOp (fEq false) (cOp fIx (cVar 7) (cC (.int 0))) (cC (.str "does")))) (cSet 1 (cOp fIx (cVar 7) (cC (.int 1)))) cSkip)))))
    (cRet (cVar 1))))
theorem d__law_other_wood {f : Addr} {k : Nat} (B : Bl mg) {j__law_draw : Nat} {q__law_draw : List Str} {p__law_draw : CSp} (g__law_draw : CalC P w K mg base "_law_draw" j__law_draw q__law_draw p__law_draw) (l__law_draw : j__law_draw ≤ k) {j__law_mixed : Nat} {q__law_mixed : List Str} {p__law_mixed : CSp} (g__law_mixed : CalC P w K mg base "_law_mixed" j__law_mixed q__law_mixed p__law_mixed) (l__law_mixed : j__law_mixed ≤ k) {j__law_wood : Nat} {q__law_wood : List Str} {p__law_wood : CSp} (g__law_wood : CalC P w K mg base "_law_wood" j__law_wood q__law_wood p__law_wood) (l__law_wood : j__law_wood ≤ k) {j__law_pick : Nat} {q__law_pick : List Str} {p__law_pick : CSp} (g__law_pick : CalC P w K mg base "_law_pick" j__law_pick q__law_pick p__law_pick) (l__law_pick : j__law_pick ≤ k) {j__law_ran : Nat} {q__law_ran : List Str} {p__law_ran : CSp} (g__law_ran : CalC P w K mg base "_law_ran" j__law_ran q__law_ran p__law_ran) (l__law_ran : j__law_ran ≤ k)  (cdv : Value) (A : Around) (outer : List Env) (s : Shared) (H : Hp) (E : XK) (hr : Room k (A.deeper (envOfC "_law_other_wood" (defScope s__law_other_wood) s.heap.objs.size f cdv))) :
    PSs (cxOf CX0 P w K mg base N__law_other_wood "_law_other_wood" (defScope s__law_other_wood) f cdv A outer s H E).nox (defBody s__law_other_wood) (liftS K (c__law_other_wood p__law_draw p__law_mixed p__law_wood p__law_pick p__law_ran)) := by
  have hN := sc__law_other_wood.nd
  have hu := hu_of hr
  exact (scons (sif (ktcmp (op_eqP hr.units) (rel_eq false) (kc g__law_draw l__law_draw hr rfl (kcons (kv 0) (kcons kint knil))) kint) (sone (sret (kc g__law_wood l__law_wood hr rfl (kcons (kv 0) (kcons (kc g__law_mixed l__law_mixed hr rfl (kcons (kv 0) (kcons (kv 2) knil))) knil))))) snil)
    (scons (sfor PassesOwn.never rfl (pi_range1 rfl B.rng (kcons kint knil)) (pg_name (i := 3) hN rfl (by first | exact Or.inl rfl | exact Or.inr rfl) (by first | exact .inl rfl | exact .inr rfl)) rel_R1 (scons (spar (i := 4) (j := 5) rfl hN (by decide) (kcons (kc g__law_pick l__law_pick hr rfl (kcons (kv 0) (kcons (kv 2) knil))) (kcons (kc g__law_pick l__law_pick hr rfl (kcons (kv 0) (kcons (kv 2) knil))) knil)))
    (scons (sset (i := 6) hN (ktup (kcons (kc g__law_pick l__law_pick hr rfl (kcons (kv 0) (kcons (klst (kcons kstr (kcons kstr (kcons kstr (kcons kstr knil))))) knil))) (kcons (kv 4) (kcons (kv 5) knil)))))
    (scons (sset (i := 7) hN (kc g__law_ran l__law_ran hr rfl (kcons (kv 1) (kcons (ktup (kcons (kif (ktcmp op_gt (rel_I0 fun _ _ _ => .bl _) (kc g__law_draw l__law_draw hr rfl (kcons (kv 0) (kcons kint knil))) kint) (kv 6) (ktup (kcons kstr (kcons (kv 4) knil)))) knil)) knil))))
    (sone (sif (ktcmp (op_eqP hr.units) (rel_eq false) (kix ix_seq rel_ix (kv 7) kint) kstr) (sone (sset (i := 1) hN (kix ix_seq rel_ix (kv 7) kint))) snil))))))
    (sone (sret (kv 1)))))

/-! ### _law_kept_right -/
abbrev s__law_kept_right : Stmt := topS 65
abbrev N__law_kept_right : List Str := ["_law_deck_here", "_law_deeds", "_law_called", "_law_wood_here", "_law_other", "_law_here", "_law_there"]
theorem sc__law_kept_right : FnScope N__law_kept_right ["_law_deck_here", "_law_deeds", "_law_called"] (defScope s__law_kept_right) := ⟨rfl, rfl, rfl, by decide +kernel, rfl, by decide +kernel, by decide +kernel⟩
def c__law_kept_right (p__law_mixed : CSp) (p__law_wood : CSp) (p__law_other_wood : CSp) (p__law_do : CSp)  : CS :=
    (cSeq (cIfS (cB (cOp (fEq false) (cVar 2) (cLst cNil))) (cRet (cC (.bl true))) cSkip)
    (cSeq (cSet 3 (cCall p__law_wood (cCons (cVar 0) (cCons (cCall p__law_mixed (cCons (cVar 0) (cCons (cVar 2) cNil))) cNil))))
    (cSeq (cSet 4 (cCall p__law_other_wood (cCons (cVar 0) (cCons (cVar 3) (cCons (cVar 2) cNil)))))
    (cSeq (cPar 5 6 (cCons (cCall p__law_do (cCons (cVar 3) (cCons (cVar 1) cNil))) (cCons (cCall p__law_do (cCons (cVar 4) (cCons (cVar 1) cNil))) cNil)))
    (cRet (cOrV (cOp (fEq false) (cOp fIx (cVar 5) (cC (.int 0))) (cC (.str "stops"))) (cOrV (cOp (fEq false) (cVar 3) (cVar 4)) (cOp (fEq true) (cVar 5) (cVar 6)))))))))
theorem d__law_kept_right {f : Addr} {k : Nat} (B : Bl mg) {j__law_mixed : Nat} {q__law_mixed : List Str} {p__law_mixed : CSp} (g__law_mixed : CalC P w K mg base "_law_mixed" j__law_mixed q__law_mixed p__law_mixed) (l__law_mixed : j__law_mixed ≤ k) {j__law_wood : Nat} {q__law_wood : List Str} {p__law_wood : CSp} (g__law_wood : CalC P w K mg base "_law_wood" j__law_wood q__law_wood p__law_wood) (l__law_wood : j__law_wood ≤ k) {j__law_other_wood : Nat} {q__law_other_wood : List Str} {p__law_other_wood : CSp} (g__law_other_wood : CalC P w K mg base "_law_other_wood" j__law_other_wood q__law_other_wood p__law_other_wood) (l__law_other_wood : j__law_other_wood ≤ k) {j__law_do : Nat} {q__law_do : List Str} {p__law_do : CSp} (g__law_do : CalC P w K mg base "_law_do" j__law_do q__law_do p__law_do) (l__law_do : j__law_do ≤ k)  (cdv : Value) (A : Around) (outer : List Env) (s : Shared) (H : Hp) (E : XK) (hr : Room k (A.deeper (envOfC "_law_kept_right" (defScope s__law_kept_right) s.heap.objs.size f cdv))) :
    PSs (cxOf CX0 P w K mg base N__law_kept_right "_law_kept_right" (defScope s__law_kept_right) f cdv A outer s H E).nox (defBody s__law_kept_right) (liftS K (c__law_kept_right p__law_mixed p__law_wood p__law_other_wood p__law_do)) := by
  have hN := sc__law_kept_right.nd
  have hu := hu_of hr
  exact (scons (sif (ktcmp (op_eqP hr.units) (rel_eq false) (kv 2) (klst knil)) (sone (sret kbl)) snil)
    (scons (sset (i := 3) hN (kc g__law_wood l__law_wood hr rfl (kcons (kv 0) (kcons (kc g__law_mixed l__law_mixed hr rfl (kcons (kv 0) (kcons (kv 2) knil))) knil))))
    (scons (sset (i := 4) hN (kc g__law_other_wood l__law_other_wood hr rfl (kcons (kv 0) (kcons (kv 3) (kcons (kv 2) knil)))))
    (scons (spar (i := 5) (j := 6) rfl hN (by decide) (kcons (kc g__law_do l__law_do hr rfl (kcons (kv 3) (kcons (kv 1) knil))) (kcons (kc g__law_do l__law_do hr rfl (kcons (kv 4) (kcons (kv 1) knil))) knil)))
    (sone (sret (korV (kcmp (op_eqP hr.units) (rel_eq false) (kix ix_seq rel_ix (kv 5) kint) kstr) (korV (kcmp (op_eqP hr.units) (rel_eq false) (kv 3) (kv 4)) (kone (kcmp (op_neP hr.units) (rel_eq true) (kv 5) (kv 6)))))))))))

/-! ### _law_lost_right -/
abbrev s__law_lost_right : Stmt := topS 66
abbrev N__law_lost_right : List Str := ["_law_deck_here", "_law_deeds", "_law_tail", "_law_found", "_law_here", "_law_old", "_law_new"]
theorem sc__law_lost_right : FnScope N__law_lost_right ["_law_deck_here", "_law_deeds", "_law_tail", "_law_found"] (defScope s__law_lost_right) := ⟨rfl, rfl, rfl, by decide +kernel, rfl, by decide +kernel, by decide +kernel⟩
def c__law_lost_right (p__law_do : CSp) (p__law_roles : CSp) (p__law_fits : CSp) (p_loses : CSp)  : CS :=
    (cSeq (cSet 4 (cCall p__law_do (cCons (cOp fIx (cVar 3) (cC (.int 0))) (cCons (cVar 1) cNil))))
    (cSeq (cIfS (cOr (cB (cOp (fEq true) (cOp fIx (cVar 4) (cC (.int 0))) (cC (.str "does")))) (cOr (cB (cOp (fEq true) (cCall p__law_do (cCons (cOp fIx (cVar 3) (cC (.int 1))) (cCons (cVar 1) cNil))) (cVar 4))) (cB (cOp (fEq false) (cOp fIx (cVar 3) (cC (.int 0))) (cOp fIx (cVar 3) (cC (.int 1))))))) (cRet (cC (.bl false))) cSkip)
    (cSeq (cSetT [5, 6] (cCall p__law_roles (cCons (cOp fAdd (cVar 1) (cVar 2)) cNil)))
    (cSeq (cIfS (cAnd (cB (cCall p__law_fits (cCons (cOp fIx (cVar 3) (cC (.int 0))) (cCons (cVar 5) (cCons (cVar 6) cNil))))) (cB (cCall p__law_fits (cCons (cOp fIx (cVar 3) (cC (.int 1))) (cCons (cVar 5) (cCons (cVar 6) cNil)))))) (cIfS (cB (cOp (fEq false) (cOp fIx (cCall p__law_do (cCons (cOp fIx (cVar 3) (cC (.int 0))) (cCons (cOp fAdd (cVar 1) (cVar 2)) cNil))) (cC (.int 0))) (cC (.str "does")))) (cRet (cOp (fIs true) (cCall p_loses (cCons (cOp fAdd (cVar 1) (cVar 2)) cNil)) (cC .non))) cSkip) cSkip)
    (cRet (cC (.bl true)))))))
theorem d__law_lost_right {f : Addr} {k : Nat} (B : Bl mg) {j__law_do : Nat} {q__law_do : List Str} {p__law_do : CSp} (g__law_do : CalC P w K mg base "_law_do" j__law_do q__law_do p__law_do) (l__law_do : j__law_do ≤ k) {j__law_roles : Nat} {q__law_roles : List Str} {p__law_roles : CSp} (g__law_roles : CalC P w K mg base "_law_roles" j__law_roles q__law_roles p__law_roles) (l__law_roles : j__law_roles ≤ k) {j__law_fits : Nat} {q__law_fits : List Str} {p__law_fits : CSp} (g__law_fits : CalC P w K mg base "_law_fits" j__law_fits q__law_fits p__law_fits) (l__law_fits : j__law_fits ≤ k) {j_loses : Nat} {q_loses : List Str} {p_loses : CSp} (g_loses : CalC P w K mg base "loses" j_loses q_loses p_loses) (l_loses : j_loses ≤ k)  (cdv : Value) (A : Around) (outer : List Env) (s : Shared) (H : Hp) (E : XK) (hr : Room k (A.deeper (envOfC "_law_lost_right" (defScope s__law_lost_right) s.heap.objs.size f cdv))) :
    PSs (cxOf CX0 P w K mg base N__law_lost_right "_law_lost_right" (defScope s__law_lost_right) f cdv A outer s H E).nox (defBody s__law_lost_right) (liftS K (c__law_lost_right p__law_do p__law_roles p__law_fits p_loses)) := by
  have hN := sc__law_lost_right.nd
  have hu := hu_of hr
  exact (scons (sset (i := 4) hN (kc g__law_do l__law_do hr rfl (kcons (kix ix_seq rel_ix (kv 3) kint) (kcons (kv 1) knil))))
    (scons (sif (PW.pt (kor (ktcmp (op_neP hr.units) (rel_eq true) (kix ix_seq rel_ix (kv 4) kint) kstr) (kor (ktcmp (op_neP hr.units) (rel_eq true) (kc g__law_do l__law_do hr rfl (kcons (kix ix_seq rel_ix (kv 3) kint) (kcons (kv 1) knil))) (kv 4)) (kor1 (ktcmp (op_eqP hr.units) (rel_eq false) (kix ix_seq rel_ix (kv 3) kint) (kix ix_seq rel_ix (kv 3) kint)))))) (sone (sret kbl)) snil)
    (scons (ssetT rfl (kc g__law_roles l__law_roles hr rfl (kcons (kop op_addAll rel_add (kv 1) (kv 2)) knil)) (tgcons (i := 5) hN (tgcons (i := 6) hN tgnil)))
    (scons (sif (PW.pt (kand (ktest (kc g__law_fits l__law_fits hr rfl (kcons (kix ix_seq rel_ix (kv 3) kint) (kcons (kv 5) (kcons (kv 6) knil))))) (kand1 (ktest (kc g__law_fits l__law_fits hr rfl (kcons (kix ix_seq rel_ix (kv 3) kint) (kcons (kv 5) (kcons (kv 6) knil)))))))) (sone (sif (ktcmp (op_eqP hr.units) (rel_eq false) (kix ix_seq rel_ix (kc g__law_do l__law_do hr rfl (kcons (kix ix_seq rel_ix (kv 3) kint) (kcons (kop op_addAll rel_add (kv 1) (kv 2)) knil))) kint) kstr) (sone (sret (kcmp op_notN rel_isnt (kc g_loses l_loses hr rfl (kcons (kop op_addAll rel_add (kv 1) (kv 2)) knil)) knon))) snil)) snil)
    (sone (sret kbl))))))

end
end CL

/-! M1: rows of ends and gaps: places, deeds, filling. Plain Lean. -/
namespace TM

inductive It (N : Type) where
  | n (b : Bool) (x : N)
  | g (k : Nat)
  deriving DecidableEq
section
variable {N : Type} [DecidableEq N]
abbrev It.b (x : N) : It N := .n true x
abbrev It.e (x : N) : It N := .n false x
abbrev Row (N : Type) := List (It N)
/-- where a stands first (the length where it stands nowhere) -/
def ix (a : It N) : Row N → Nat
  | [] => 0
  | z :: r => if z = a then 0 else ix a r + 1
theorem ix_le (a : It N) : ∀ r, ix a r ≤ r.length
  | [] => Nat.le_refl _
  | z :: r => by
    unfold ix
    split
    · exact Nat.zero_le _
    · exact Nat.succ_le_succ (ix_le a r)
theorem ix_lt {a : It N} : ∀ {r : Row N}, a ∈ r → ix a r < r.length
  | z :: r, h => by
    unfold ix
    split
    · exact Nat.succ_pos _
    · rename_i hz
      rcases List.mem_cons.mp h with e | h
      · exact absurd e.symm hz
      · exact Nat.succ_lt_succ (ix_lt h)
theorem ix_out {a : It N} : ∀ {u v : Row N}, a ∉ u → ix a (u ++ a :: v) = u.length
  | [], v, _ => by simp [ix]
  | z :: u, v, h => by
    have h1 : ¬ z = a := fun e => h (by rw [e]; exact List.mem_cons_self)
    have h2 : a ∉ u := fun e => h (List.mem_cons_of_mem _ e)
    show (if z = a then 0 else ix a (u ++ a :: v) + 1) = _
    rw [if_neg h1, ix_out h2]
    rfl
theorem ix_app {a : It N} : ∀ {u v : Row N}, a ∉ u → ix a (u ++ v) = u.length + ix a v
  | [], v, _ => by simp
  | z :: u, v, h => by
    have h1 : ¬ z = a := fun e => h (by rw [e]; exact List.mem_cons_self)
    have h2 : a ∉ u := fun e => h (List.mem_cons_of_mem _ e)
    show (if z = a then 0 else ix a (u ++ v) + 1) = _
    rw [if_neg h1, ix_app h2, List.length_cons]
    omega
theorem ix_in {a : It N} : ∀ {u v : Row N}, a ∈ u → ix a (u ++ v) = ix a u
  | z :: u, v, h => by
    show (if z = a then 0 else ix a (u ++ v) + 1) = (if z = a then 0 else ix a u + 1)
    split
    · rfl
    · rename_i hz
      rcases List.mem_cons.mp h with e | h
      · exact absurd e.symm hz
      · rw [ix_in h]

/-! ### a filling -/
/-- every item becomes a row -/
abbrev fillR (φ : It N → Row N) (r : Row N) : Row N := r.flatMap φ
/-- a stays itself, nothing else gives it -/
structure Fix (φ : It N → Row N) (a : It N) : Prop where
  one : φ a = [a]
  no : ∀ z, z ≠ a → a ∉ φ z
section
variable {φ : It N → Row N} {a : It N}
theorem Fix.tk (h : Fix φ a) : ∀ r, (fillR φ r).take (ix a (fillR φ r)) = fillR φ (r.take (ix a r))
  | [] => rfl
  | z :: r => by
    by_cases e : z = a
    · subst e
      simp [fillR, h.one, ix]
    · have hn := h.no z e
      have ih := h.tk r
      simp only [fillR, List.flatMap_cons] at ih ⊢
      rw [ix_app hn]
      have e2 : ix a (z :: r) = ix a r + 1 := if_neg e
      rw [e2, List.take_succ_cons, List.flatMap_cons, List.take_append, List.take_of_length_le (by omega)]
      congr 1
      rw [← ih]
      congr 1
      omega
theorem Fix.dk (h : Fix φ a) : ∀ r, (fillR φ r).drop (ix a (fillR φ r)) = fillR φ (r.drop (ix a r))
  | [] => rfl
  | z :: r => by
    by_cases e : z = a
    · subst e
      simp [fillR, h.one, ix]
    · have hn := h.no z e
      have ih := h.dk r
      simp only [fillR, List.flatMap_cons] at ih ⊢
      rw [ix_app hn]
      have e2 : ix a (z :: r) = ix a r + 1 := if_neg e
      rw [e2, List.drop_succ_cons, List.drop_append, List.drop_of_length_le (by omega), List.nil_append]
      rw [← ih]
      congr 1
      omega
theorem Fix.tk1 (h : Fix φ a) : ∀ r, (fillR φ r).take (ix a (fillR φ r) + 1) = fillR φ (r.take (ix a r + 1))
  | [] => rfl
  | z :: r => by
    by_cases e : z = a
    · subst e
      simp [fillR, h.one, ix]
    · have hn := h.no z e
      have ih := h.tk1 r
      simp only [fillR, List.flatMap_cons] at ih ⊢
      rw [ix_app hn]
      have e2 : ix a (z :: r) = ix a r + 1 := if_neg e
      rw [e2, List.take_succ_cons, List.flatMap_cons, List.take_append, List.take_of_length_le (by omega)]
      congr 1
      rw [← ih]
      congr 1
      omega
theorem Fix.dk1 (h : Fix φ a) : ∀ r, (fillR φ r).drop (ix a (fillR φ r) + 1) = fillR φ (r.drop (ix a r + 1))
  | [] => rfl
  | z :: r => by
    by_cases e : z = a
    · subst e
      simp [fillR, h.one, ix]
    · have hn := h.no z e
      have ih := h.dk1 r
      simp only [fillR, List.flatMap_cons] at ih ⊢
      rw [ix_app hn]
      have e2 : ix a (z :: r) = ix a r + 1 := if_neg e
      rw [e2, List.drop_succ_cons, List.drop_append, List.drop_of_length_le (by omega), List.nil_append]
      rw [← ih]
      congr 1
      omega
theorem Fix.mem (h : Fix φ a) {r : Row N} : a ∈ fillR φ r ↔ a ∈ r := by
  rw [List.mem_flatMap]
  constructor
  · rintro ⟨z, hz, ha⟩
    by_cases e : z = a
    · rw [← e]; exact hz
    · exact absurd ha (h.no z e)
  · intro ha
    exact ⟨a, ha, by rw [h.one]; exact List.mem_cons_self⟩
theorem fill_app (u v : Row N) : fillR φ (u ++ v) = fillR φ u ++ fillR φ v := List.flatMap_append
/-- places keep their order -/
theorem Fix.lt {c : It N} (h : Fix φ a) (h' : Fix φ c) (hne : a ≠ c) : ∀ r : Row N, a ∈ r → (ix a (fillR φ r) < ix c (fillR φ r) ↔ ix a r < ix c r)
  | z :: r, hm => by
    by_cases e : z = a
    · subst e
      have e1 : ix z (z :: r) = 0 := if_pos rfl
      have e2 : ix c (z :: r) = ix c r + 1 := if_neg hne
      have e3 : fillR φ (z :: r) = z :: fillR φ r := by simp [fillR, h.one]
      have e4 : ix z (z :: fillR φ r) = 0 := if_pos rfl
      have e5 : ix c (z :: fillR φ r) = ix c (fillR φ r) + 1 := if_neg hne
      rw [e3, e1, e2, e4, e5]
      omega
    · have hm' : a ∈ r := by
        rcases List.mem_cons.mp hm with q | q
        · exact absurd q.symm e
        · exact q
      have e1 : ix a (z :: r) = ix a r + 1 := if_neg e
      have e3 : fillR φ (z :: r) = φ z ++ fillR φ r := List.flatMap_cons
      by_cases f : z = c
      · subst f
        have e2 : ix z (z :: r) = 0 := if_pos rfl
        rw [e3, h'.one]
        have e4 : ix z ([z] ++ fillR φ r) = 0 := if_pos rfl
        rw [e4, e2]
        omega
      · have e2 : ix c (z :: r) = ix c r + 1 := if_neg f
        have ih := Fix.lt h h' hne r hm'
        rw [e3, ix_app (h.no z e), ix_app (h'.no z f), e1, e2]
        omega
end

/-! ### deeds on rows -/
inductive W where
  | first | last | ahead | behind | front | back | swap | turn | pour | put | wrap | lift | cut
  deriving DecidableEq
structure Deed (N : Type) where
  w : W
  x : N
  y : N
def W.two : W → Bool
  | .front => false
  | .back => false
  | .lift => false
  | .cut => false
  | _ => true
def W.mv : W → Bool
  | .first => true
  | .last => true
  | .ahead => true
  | .behind => true
  | .front => true
  | .back => true
  | _ => false
/-- five words do not go into what they move -/
def W.into : W → Bool
  | .first => true
  | .last => true
  | .ahead => true
  | .behind => true
  | .pour => true
  | _ => false
def Deed.old (d : Deed N) : List N := match d.w with
  | .wrap => [d.x]
  | .put => [d.y]
  | w => if w.two = true then [d.x, d.y] else [d.x]
def Deed.new (d : Deed N) : List N := match d.w with
  | .wrap => [d.y]
  | .put => [d.x]
  | _ => []
inductive St where
  | gone | taken | inside
  deriving DecidableEq
/-- from the begin to the end of x -/
def blk (r : Row N) (x : N) : Row N := (r.take (ix (.e x) r + 1)).drop (ix (.b x) (r.take (ix (.e x) r + 1)))
def mid (r : Row N) (x : N) : Row N := (r.take (ix (.e x) r)).drop (ix (.b x) (r.take (ix (.e x) r)) + 1)
def there (r : Row N) (x : N) : Bool := decide (It.b x ∈ r)
def within (r : Row N) (x y : N) : Bool := decide (It.b x ∈ blk r y)
def stop (r : Row N) (d : Deed N) : Option St :=
  if d.old.all (there r) = true then
    if d.new.any (there r) = true then some .taken
    else if (d.w.into && within r d.y d.x) = true then some .inside
    else if (decide (d.w = .swap) && (within r d.x d.y || within r d.y d.x)) = true then some .inside
    else none
  else some .gone
def ins (r : Row N) (at' : Nat) (z : Row N) : Row N := r.take at' ++ z ++ r.drop at'
def rest (r : Row N) (x : N) : Row N := r.take (ix (.b x) r) ++ r.drop (ix (.e x) r + 1)
def place (q : Row N) (d : Deed N) : Nat := match d.w with
  | .front => 0
  | .back => q.length
  | .first => ix (.b d.y) q + 1
  | .last => ix (.e d.y) q
  | .ahead => ix (.b d.y) q
  | _ => ix (.e d.y) q + 1
def moved (r : Row N) (d : Deed N) : Row N := ins (rest r d.x) (place (rest r d.x) d) (blk r d.x)
def btw (r : Row N) (x y : N) : Row N := (r.take (ix (.b y) r)).drop (ix (.e x) (r.take (ix (.b y) r)) + 1)
def sw (r : Row N) (x y : N) : Row N := r.take (ix (.b x) r) ++ blk r y ++ btw r x y ++ blk r x ++ r.drop (ix (.e y) r + 1)
def swapped (r : Row N) (x y : N) : Row N := if ix (.b y) r < ix (.b x) r then sw r y x else sw r x y
def ren (x y z : N) : N := if z = x then y else if z = y then x else z
def renI (x y : N) : It N → It N
  | .n b z => .n b (ren x y z)
  | .g k => .g k
def turned (r : Row N) (x y : N) : Row N := r.map (renI x y)
def emptied (r : Row N) (x : N) : Row N := r.take (ix (.b x) r + 1) ++ r.drop (ix (.e x) r)
def poured (r : Row N) (x y : N) : Row N := ins (emptied r x) (ix (.e y) (emptied r x)) (mid r x)
def done (r : Row N) (d : Deed N) : Row N := match d.w with
  | .swap => swapped r d.x d.y
  | .turn => turned r d.x d.y
  | .pour => poured r d.x d.y
  | .put => ins r (ix (.e d.y) r) [.b d.x, .e d.x]
  | .cut => rest r d.x
  | .lift => r.take (ix (.b d.x) r) ++ mid r d.x ++ r.drop (ix (.e d.x) r + 1)
  | .wrap => r.take (ix (.b d.x) r) ++ [.b d.y] ++ blk r d.x ++ [.e d.y] ++ r.drop (ix (.e d.x) r + 1)
  | _ => moved r d
inductive Res (N : Type) where
  | does (r : Row N)
  | stops (i : Nat) (w : St)
def doneAll (i : Nat) (r : Row N) : List (Deed N) → Res N
  | [] => .does r
  | d :: ds => match stop r d with
    | some w => .stops i w
    | none => doneAll (i + 1) (done r d) ds
/-- the names of a deed -/
def Deed.names (d : Deed N) : List N := if d.w.two = true then [d.x, d.y] else [d.x]

/-! ### filling and deeds -/
/-- φ fills the gaps and leaves the names of S -/
def FillS (φ : It N → Row N) (S : List N) : Prop := ∀ x ∈ S, ∀ b, Fix φ (.n b x)
section
variable {φ : It N → Row N}
theorem blk_fill {x : N} (hb : Fix φ (.b x)) (he : Fix φ (.e x)) (r : Row N) : blk (fillR φ r) x = fillR φ (blk r x) := by
  unfold blk
  rw [he.tk1 r, hb.dk]
theorem mid_fill {x : N} (hb : Fix φ (.b x)) (he : Fix φ (.e x)) (r : Row N) : mid (fillR φ r) x = fillR φ (mid r x) := by
  unfold mid
  rw [he.tk r, hb.dk1]
theorem rest_fill {x : N} (hb : Fix φ (.b x)) (he : Fix φ (.e x)) (r : Row N) : rest (fillR φ r) x = fillR φ (rest r x) := by
  unfold rest
  rw [hb.tk r, he.dk1, fill_app]
theorem emptied_fill {x : N} (hb : Fix φ (.b x)) (he : Fix φ (.e x)) (r : Row N) : emptied (fillR φ r) x = fillR φ (emptied r x) := by
  unfold emptied
  rw [hb.tk1 r, he.dk, fill_app]
theorem btw_fill {x y : N} (hb : Fix φ (.b y)) (he : Fix φ (.e x)) (r : Row N) : btw (fillR φ r) x y = fillR φ (btw r x y) := by
  unfold btw
  rw [hb.tk r, he.dk1]
theorem there_fill {x : N} (hb : Fix φ (.b x)) (r : Row N) : there (fillR φ r) x = there r x := by
  unfold there
  rw [decide_eq_decide, hb.mem]
theorem within_fill {x y : N} (hx : Fix φ (.b x)) (hb : Fix φ (.b y)) (he : Fix φ (.e y)) (r : Row N) : within (fillR φ r) x y = within r x y := by
  unfold within
  rw [blk_fill hb he, decide_eq_decide, hx.mem]
theorem ins_fill_ix {a : It N} (h : Fix φ a) (q z : Row N) : ins (fillR φ q) (ix a (fillR φ q)) (fillR φ z) = fillR φ (ins q (ix a q) z) := by
  unfold ins
  rw [h.tk q, h.dk, fill_app, fill_app]
theorem ins_fill_ix1 {a : It N} (h : Fix φ a) (q z : Row N) : ins (fillR φ q) (ix a (fillR φ q) + 1) (fillR φ z) = fillR φ (ins q (ix a q + 1) z) := by
  unfold ins
  rw [h.tk1 q, h.dk1, fill_app, fill_app]
theorem sw_fill {x y : N} (hx : ∀ b, Fix φ (.n b x)) (hy : ∀ b, Fix φ (.n b y)) (r : Row N) : sw (fillR φ r) x y = fillR φ (sw r x y) := by
  unfold sw
  rw [(hx true).tk r, blk_fill (hy true) (hy false), btw_fill (hy true) (hx false), blk_fill (hx true) (hx false), (hy false).dk1, fill_app, fill_app, fill_app, fill_app]
theorem two_names {d : Deed N} (h : d.w.two = true) : d.x ∈ d.names ∧ d.y ∈ d.names := by
  unfold Deed.names
  rw [if_pos h]
  simp
theorem x_names (d : Deed N) : d.x ∈ d.names := by
  unfold Deed.names
  split <;> simp
theorem old_names' {d : Deed N} : ∀ z ∈ d.old, z ∈ d.names := by
  intro z hz
  unfold Deed.old at hz
  unfold Deed.names
  cases hw : d.w <;> rw [hw] at hz <;> simp [W.two] at hz ⊢ <;> first | exact hz | exact .inl hz | exact .inr hz
theorem new_names {d : Deed N} : ∀ z ∈ d.new, z ∈ d.names := by
  intro z hz
  unfold Deed.new at hz
  unfold Deed.names
  cases hw : d.w <;> rw [hw] at hz <;> simp [W.two] at hz ⊢ <;> first | exact .inl hz | exact .inr hz
theorem all_congr {l : List N} {p q : N → Bool} (h : ∀ z ∈ l, p z = q z) : l.all p = l.all q := by
  induction l with
  | nil => rfl
  | cons z l ih => rw [List.all_cons, List.all_cons, h z List.mem_cons_self, ih fun u hu => h u (List.mem_cons_of_mem _ hu)]
theorem any_congr {l : List N} {p q : N → Bool} (h : ∀ z ∈ l, p z = q z) : l.any p = l.any q := by
  induction l with
  | nil => rfl
  | cons z l ih => rw [List.any_cons, List.any_cons, h z List.mem_cons_self, ih fun u hu => h u (List.mem_cons_of_mem _ hu)]
theorem stop_fill {d : Deed N} (h : FillS φ d.names) (r : Row N) : stop (fillR φ r) d = stop r d := by
  have hx := h d.x (x_names d)
  unfold stop
  rw [all_congr (p := there (fillR φ r)) (q := there r) fun z hz => there_fill (h z (old_names' z hz) true) r, any_congr (p := there (fillR φ r)) (q := there r) fun z hz => there_fill (h z (new_names z hz) true) r]
  have e1 : (d.w.into && within (fillR φ r) d.y d.x) = (d.w.into && within r d.y d.x) := by
    cases hw : d.w.into with
    | false => rfl
    | true =>
      have ht : d.w.two = true := by revert hw; cases d.w <;> simp [W.into, W.two]
      have hy := h d.y (two_names ht).2
      rw [within_fill (hy true) (hx true) (hx false)]
  have e2 : (decide (d.w = .swap) && (within (fillR φ r) d.x d.y || within (fillR φ r) d.y d.x)) = (decide (d.w = .swap) && (within r d.x d.y || within r d.y d.x)) := by
    by_cases hw : d.w = .swap
    · have hy := h d.y (two_names (by rw [hw]; rfl)).2
      rw [within_fill (hx true) (hy true) (hy false), within_fill (hy true) (hx true) (hx false)]
    · simp [hw]
  rw [e1, e2]
/-- turning and filling -/
theorem turned_fill {x y : N} (hx : ∀ b, Fix φ (.n b x)) (hy : ∀ b, Fix φ (.n b y)) (r : Row N) : turned (fillR φ r) x y = fillR φ (turned r x y) := by
  unfold turned
  induction r with
  | nil => rfl
  | cons z r ih =>
    simp only [fillR, List.flatMap_cons, List.map_append, List.map_cons] at ih ⊢
    rw [ih]
    congr 1
    by_cases h : ∃ b, z = .n b x ∨ z = .n b y
    · obtain ⟨b, h | h⟩ := h
      · subst h
        have e : renI x y (.n b x) = .n b y := by simp [renI, ren]
        rw [(hx b).one, e, (hy b).one]
        simp [renI, ren]
      · subst h
        have e : renI x y (.n b y) = .n b x := by
          simp only [renI, ren]
          by_cases q : y = x
          · simp [q]
          · simp [q]
        rw [(hy b).one, e, (hx b).one, List.map_cons, List.map_nil, e]
    · have nx : ∀ b, z ≠ .n b x := fun b e => h ⟨b, .inl e⟩
      have ny : ∀ b, z ≠ .n b y := fun b e => h ⟨b, .inr e⟩
      have e : renI x y z = z := by
        cases z with
        | g k => rfl
        | n b u =>
          have h1 : ¬ u = x := fun q => nx b (by rw [q])
          have h2 : ¬ u = y := fun q => ny b (by rw [q])
          simp [renI, ren, h1, h2]
      rw [e]
      have e2 : ∀ u ∈ φ z, renI x y u = u := fun u hu => by
        cases u with
        | g k => rfl
        | n b v =>
          have h1 : ¬ v = x := fun q => (hx b).no z (nx b) (by rw [← q]; exact hu)
          have h2 : ¬ v = y := fun q => (hy b).no z (ny b) (by rw [← q]; exact hu)
          simp [renI, ren, h1, h2]
      calc (φ z).map (renI x y) = (φ z).map id := List.map_congr_left e2
        _ = φ z := List.map_id _
theorem place_fill {d : Deed N} (hm : d.w.mv = true) (h : FillS φ d.names) (q z : Row N) : ins (fillR φ q) (place (fillR φ q) d) (fillR φ z) = fillR φ (ins q (place q d) z) := by
  unfold place
  cases hw : d.w <;> simp only [hw] at hm ⊢ <;> first | (exact absurd hm (by decide)) | skip
  · exact ins_fill_ix1 (h d.y (two_names (by rw [hw]; rfl)).2 true) q z
  · exact ins_fill_ix (h d.y (two_names (by rw [hw]; rfl)).2 false) q z
  · exact ins_fill_ix (h d.y (two_names (by rw [hw]; rfl)).2 true) q z
  · exact ins_fill_ix1 (h d.y (two_names (by rw [hw]; rfl)).2 false) q z
  · simp [ins, fillR]
  · show (fillR φ q).take (fillR φ q).length ++ fillR φ z ++ (fillR φ q).drop (fillR φ q).length = fillR φ (q.take q.length ++ z ++ q.drop q.length)
    rw [List.take_length, List.drop_length, List.take_length, List.drop_length, fill_app, fill_app]
    rfl
theorem done_fill {d : Deed N} (h : FillS φ d.names) (r : Row N) (hs : stop r d = none) : done (fillR φ r) d = fillR φ (done r d) := by
  have hx := h d.x (x_names d)
  have ho : d.old.all (there r) = true := by
    unfold stop at hs
    split at hs
    · assumption
    · cases hs
  have mvd : d.w.mv = true → moved (fillR φ r) d = fillR φ (moved r d) := fun hm => by
    unfold moved
    rw [rest_fill (hx true) (hx false), blk_fill (hx true) (hx false)]
    exact place_fill hm h _ _
  unfold done
  cases hw : d.w <;> simp only [hw]
  case swap =>
    have hy := h d.y (two_names (by rw [hw]; rfl)).2
    unfold swapped
    have hty : It.b d.y ∈ r := by
      unfold Deed.old at ho
      rw [hw] at ho
      simp [W.two, there] at ho
      exact ho.2
    by_cases e : d.y = d.x
    · rw [e]
      simp only [Nat.lt_irrefl, if_false]
      exact sw_fill hx hx r
    · have q := Fix.lt (hy true) (hx true) (fun z => e (by injection z)) r hty
      by_cases c : ix (.b d.y) r < ix (.b d.x) r
      · rw [if_pos c, if_pos (q.mpr c)]
        exact sw_fill hy hx r
      · rw [if_neg c, if_neg (fun z => c (q.mp z))]
        exact sw_fill hx hy r
  case turn => exact turned_fill hx (h d.y (two_names (by rw [hw]; rfl)).2) r
  case pour =>
    have hy := h d.y (two_names (by rw [hw]; rfl)).2
    unfold poured
    rw [emptied_fill (hx true) (hx false), mid_fill (hx true) (hx false)]
    exact ins_fill_ix (hy false) _ _
  case put =>
    have hy := h d.y (two_names (by rw [hw]; rfl)).2
    have e : fillR φ [It.b d.x, It.e d.x] = [It.b d.x, It.e d.x] := by simp [fillR, (hx true).one, (hx false).one]
    have q := ins_fill_ix (hy false) r [It.b d.x, It.e d.x]
    rw [e] at q
    exact q
  case wrap =>
    have hy := h d.y (two_names (by rw [hw]; rfl)).2
    rw [(hx true).tk r, blk_fill (hx true) (hx false), (hx false).dk1, fill_app, fill_app, fill_app, fill_app]
    simp [fillR, (hy true).one, (hy false).one]
  case lift => rw [(hx true).tk r, mid_fill (hx true) (hx false), (hx false).dk1, fill_app, fill_app]
  case cut => exact rest_fill (hx true) (hx false) r
  all_goals exact mvd (by rw [hw]; rfl)
def fillRes (φ : It N → Row N) : Res N → Res N
  | .does r => .does (fillR φ r)
  | .stops i w => .stops i w
/-- the deeds commute with a filling -/
theorem doneAll_fill : ∀ (ds : List (Deed N)) (i : Nat) (r : Row N), (∀ d ∈ ds, FillS φ d.names) → doneAll i (fillR φ r) ds = fillRes φ (doneAll i r ds)
  | [], _, _, _ => rfl
  | d :: ds, i, r, h => by
    have hd := h d List.mem_cons_self
    unfold doneAll
    rw [stop_fill hd]
    cases hs : stop r d with
    | some w => rfl
    | none =>
      dsimp only
      rw [done_fill hd r hs]
      exact doneAll_fill ds (i + 1) _ fun e he => h e (List.mem_cons_of_mem _ he)
end
end
end TM

/-! M2: right rows: each begin has its end, nested; the deeds keep that. Plain Lean. -/
namespace TM
section
variable {N : Type} [DecidableEq N]
def run : List N → Row N → Option (List N)
  | st, [] => some st
  | st, .n true x :: r => run (x :: st) r
  | st, .n false x :: r => match st with
    | [] => none
    | m :: st' => if m = x then run st' r else none
  | st, .g _ :: r => run st r
theorem run_app : ∀ (u v : Row N) (st : List N), run st (u ++ v) = (run st u).bind fun s => run s v
  | [], v, st => rfl
  | .n true x :: u, v, st => run_app u v (x :: st)
  | .n false x :: u, v, [] => rfl
  | .n false x :: u, v, m :: st => by
    show (if m = x then run st (u ++ v) else none) = (if m = x then run st u else none).bind fun s => run s v
    split
    · exact run_app u v st
    · rfl
  | .g _ :: u, v, st => run_app u v st
theorem run_ext : ∀ (u : Row N) {st s : List N} (t : List N), run st u = some s → run (st ++ t) u = some (s ++ t)
  | [], st, s, t, h => by
    have h : st = s := Option.some.inj h
    rw [h]
    rfl
  | .n true x :: u, st, s, t, h => run_ext u (st := x :: st) t h
  | .n false x :: u, [], s, t, h => by cases h
  | .n false x :: u, m :: st, s, t, h => by
    have h : (if m = x then run st u else none) = some s := h
    show (if m = x then run (st ++ t) u else none) = some (s ++ t)
    split at h
    · rename_i e
      rw [if_pos e]
      exact run_ext u t h
    · cases h
  | .g _ :: u, st, s, t, h => run_ext u t h
def Bal (z : Row N) : Prop := ∀ st, run st z = some st
theorem bal_of {z : Row N} (h : run [] z = some []) : Bal z := fun st => run_ext z (st := []) (s := []) st h
theorem bal_nil : Bal ([] : Row N) := fun _ => rfl
theorem bal_app {u v : Row N} (hu : Bal u) (hv : Bal v) : Bal (u ++ v) := fun st => by
  rw [run_app, hu st]
  exact hv st
theorem bal_wrap {m : Row N} (h : Bal m) (x : N) : Bal (.b x :: (m ++ [.e x])) := fun st => by
  show run (x :: st) (m ++ [.e x]) = some st
  rw [run_app, h (x :: st)]
  show (if x = x then run st [] else none) = some st
  rw [if_pos rfl]
  rfl
theorem run_ins {z : Row N} (h : Bal z) (u v : Row N) (st : List N) : run st (u ++ z ++ v) = run st (u ++ v) := by
  rw [List.append_assoc, run_app, run_app u v]
  cases run st u with
  | none => rfl
  | some s =>
    show run s (z ++ v) = run s v
    rw [run_app, h s]
    rfl
theorem run_close : ∀ (v : Row N) (s : List N) {x : N} {t t' : List N}, run (s ++ x :: t) v = some t' → t'.length ≤ t.length → ∃ m w, v = m ++ .e x :: w ∧ run s m = some [] ∧ run t w = some t'
  | [], s, x, t, t', h, hl => by
    have h : s ++ x :: t = t' := Option.some.inj h
    have := congrArg List.length h
    simp at this
    omega
  | .n true y :: v, s, x, t, t', h, hl => by
    obtain ⟨m, w, rfl, h1, h2⟩ := run_close v (y :: s) h hl
    exact ⟨.n true y :: m, w, rfl, h1, h2⟩
  | .n false y :: v, [], x, t, t', h, hl => by
    have h2 : (if x = y then run t v else none) = some t' := h
    by_cases e : x = y
    · rw [if_pos e] at h2
      subst e
      exact ⟨[], v, rfl, rfl, h2⟩
    · rw [if_neg e] at h2
      cases h2
  | .n false y :: v, z :: s, x, t, t', h, hl => by
    have h3 : (if z = y then run (s ++ x :: t) v else none) = some t' := h
    by_cases e : z = y
    · rw [if_pos e] at h3
      subst e
      obtain ⟨m, w, rfl, h1, h2⟩ := run_close v s h3 hl
      refine ⟨.n false z :: m, w, rfl, ?_, h2⟩
      show (if z = z then run s m else none) = some []
      rw [if_pos rfl]
      exact h1
    · rw [if_neg e] at h3
      cases h3
  | .g k :: v, s, x, t, t', h, hl => by
    obtain ⟨m, w, rfl, h1, h2⟩ := run_close v s h hl
    exact ⟨.g k :: m, w, rfl, h1, h2⟩
theorem run_cut {u v : Row N} {x : N} {st : List N} (h : run st (u ++ .b x :: v) = some []) : ∃ m w s, v = m ++ .e x :: w ∧ Bal m ∧ run st u = some s ∧ run s w = some [] := by
  rw [run_app] at h
  cases e : run st u with
  | none => rw [e] at h; cases h
  | some s =>
    rw [e] at h
    have h : run (x :: s) v = some [] := h
    obtain ⟨m, w, h1, h2, h3⟩ := run_close v [] h (Nat.zero_le _)
    exact ⟨m, w, s, h1, bal_of h2, rfl, h3⟩
theorem end_begin : ∀ (r : Row N) {st s : List N} {x : N}, run st r = some s → It.e x ∈ r → x ∉ st → It.b x ∈ r
  | .n true y :: r, st, s, x, h, he, hx => by
    by_cases e : y = x
    · rw [e]; exact List.mem_cons_self
    · have he' : It.e x ∈ r := by
        rcases List.mem_cons.mp he with q | q
        · injection q with q1 q2
          cases q1
        · exact q
      exact List.mem_cons_of_mem _ (end_begin r h he' fun z => by
        rcases List.mem_cons.mp z with q | q
        · exact e q.symm
        · exact hx q)
  | .n false y :: r, [], s, x, h, he, hx => by cases h
  | .n false y :: r, m :: st, s, x, h, he, hx => by
    have h : (if m = y then run st r else none) = some s := h
    split at h
    · rename_i e
      have he' : It.e x ∈ r := by
        rcases List.mem_cons.mp he with q | q
        · injection q with q1 q2
          exact absurd (by rw [e, ← q2]; exact List.mem_cons_self) hx
        · exact q
      exact List.mem_cons_of_mem _ (end_begin r h he' fun z => hx (List.mem_cons_of_mem _ z))
    · cases h
  | .g k :: r, st, s, x, h, he, hx => by
    have he' : It.e x ∈ r := by
      rcases List.mem_cons.mp he with q | q
      · cases q
      · exact q
    exact List.mem_cons_of_mem _ (end_begin r h he' hx)

/-- a right row -/
structure Good (r : Row N) : Prop where
  bal : run [] r = some []
  nd : r.Nodup
theorem nd_split {a : It N} {u v : Row N} (h : (u ++ a :: v).Nodup) : a ∉ u ∧ a ∉ v := by
  obtain ⟨h1, h2, h3⟩ := List.nodup_append.mp h
  exact ⟨fun z => h3 a z a List.mem_cons_self rfl, (List.nodup_cons.mp h2).1⟩
/-- where x lies in r -/
structure Span (r : Row N) (x : N) (u m w : Row N) (s : List N) : Prop where
  eq : r = u ++ .b x :: (m ++ .e x :: w)
  bal : Bal m
  ru : run [] u = some s
  rw' : run s w = some []
  nb : It.b x ∉ u
  ne : It.e x ∉ u ++ .b x :: m
theorem be_ne (x y : N) : It.b x ≠ It.e y := fun e => by cases e
theorem Good.span {r : Row N} (g : Good r) {x : N} (h : It.b x ∈ r) : ∃ u m w s, Span r x u m w s := by
  obtain ⟨u, v, rfl⟩ := List.append_of_mem h
  obtain ⟨m, w, s, rfl, h1, h2, h3⟩ := run_cut g.bal
  refine ⟨u, m, w, s, rfl, h1, h2, h3, (nd_split g.nd).1, ?_⟩
  have q := g.nd
  have e : u ++ It.b x :: (m ++ It.e x :: w) = (u ++ It.b x :: m) ++ It.e x :: w := by simp
  rw [e] at q
  exact (nd_split q).1
section
variable {r u m w : Row N} {x : N} {s : List N}
theorem Span.eq2 (S : Span r x u m w s) : r = (u ++ .b x :: m) ++ .e x :: w := by rw [S.eq]; simp
theorem Span.eq3 (S : Span r x u m w s) : r = u ++ (.b x :: (m ++ [.e x])) ++ w := by rw [S.eq]; simp
theorem Span.ixb (S : Span r x u m w s) : ix (.b x) r = u.length := by rw [S.eq]; exact ix_out S.nb
theorem Span.ixe (S : Span r x u m w s) : ix (.e x) r = u.length + 1 + m.length := by
  rw [S.eq2, ix_out S.ne]
  simp
  omega
theorem Span.tke (S : Span r x u m w s) : r.take (ix (.e x) r) = u ++ .b x :: m := by
  rw [S.ixe, S.eq2]
  have e : u.length + 1 + m.length = (u ++ It.b x :: m).length := by simp; omega
  rw [e, List.take_left]
theorem Span.tke1 (S : Span r x u m w s) : r.take (ix (.e x) r + 1) = u ++ .b x :: (m ++ [.e x]) := by
  rw [S.ixe, S.eq3]
  have e : u.length + 1 + m.length + 1 = (u ++ It.b x :: (m ++ [It.e x])).length := by simp; omega
  rw [e, List.take_left]
theorem Span.dke1 (S : Span r x u m w s) : r.drop (ix (.e x) r + 1) = w := by
  rw [S.ixe, S.eq3]
  have e : u.length + 1 + m.length + 1 = (u ++ It.b x :: (m ++ [It.e x])).length := by simp; omega
  rw [e, List.drop_left]
theorem Span.dke (S : Span r x u m w s) : r.drop (ix (.e x) r) = .e x :: w := by
  rw [S.ixe, S.eq2]
  have e : u.length + 1 + m.length = (u ++ It.b x :: m).length := by simp; omega
  rw [e, List.drop_left]
theorem Span.tkb (S : Span r x u m w s) : r.take (ix (.b x) r) = u := by
  rw [S.ixb, S.eq, List.take_left]
theorem Span.tkb1 (S : Span r x u m w s) : r.take (ix (.b x) r + 1) = u ++ [.b x] := by
  rw [S.ixb, S.eq]
  have e : u ++ It.b x :: (m ++ It.e x :: w) = (u ++ [It.b x]) ++ (m ++ It.e x :: w) := by simp
  have e2 : u.length + 1 = (u ++ [It.b x]).length := by simp
  rw [e, e2, List.take_left]
theorem Span.blk (S : Span r x u m w s) : blk r x = .b x :: (m ++ [.e x]) := by
  unfold TM.blk
  rw [S.tke1, ix_out S.nb, List.drop_left]
theorem Span.mid (S : Span r x u m w s) : mid r x = m := by
  unfold TM.mid
  rw [S.tke, ix_out S.nb]
  have e : u ++ It.b x :: m = (u ++ [It.b x]) ++ m := by simp
  have e2 : u.length + 1 = (u ++ [It.b x]).length := by simp
  rw [e, e2, List.drop_left]
theorem Span.rest (S : Span r x u m w s) : rest r x = u ++ w := by
  unfold TM.rest
  rw [S.tkb, S.dke1]
theorem Span.emptied (S : Span r x u m w s) : emptied r x = u ++ [.b x, .e x] ++ w := by
  unfold TM.emptied
  rw [S.tkb1, S.dke]
  simp
theorem Span.bblk (S : Span r x u m w s) : Bal (.b x :: (m ++ [.e x])) := bal_wrap S.bal x
theorem Span.brest (S : Span r x u m w s) : run [] (u ++ w) = some [] := by
  rw [run_app, S.ru]
  exact S.rw'
end

/-! ### the deeds keep right rows -/
theorem ins_perm (q z : Row N) (i : Nat) : (ins q i z).Perm (z ++ q) := by
  unfold ins
  have h : (q.take i ++ z ++ q.drop i).Perm (z ++ q.take i ++ q.drop i) := List.Perm.append_right _ List.perm_append_comm
  rw [List.append_assoc z, List.take_append_drop] at h
  exact h
theorem ins_bal {q z : Row N} (hz : Bal z) (h : run [] q = some []) (i : Nat) : run [] (ins q i z) = some [] := by
  unfold ins
  rw [run_ins hz, List.take_append_drop]
  exact h
theorem Span.perm {r u m w : Row N} {x : N} {s : List N} (S : Span r x u m w s) : r.Perm ((.b x :: (m ++ [.e x])) ++ (u ++ w)) := by
  rw [S.eq3]
  have h : (u ++ (It.b x :: (m ++ [It.e x])) ++ w).Perm ((It.b x :: (m ++ [It.e x])) ++ u ++ w) := List.Perm.append_right _ List.perm_append_comm
  rw [List.append_assoc] at h
  rw [List.append_assoc] at h
  rw [List.append_assoc]
  exact h
theorem stop_there {r : Row N} {d : Deed N} (h : stop r d = none) : (∀ z ∈ d.old, It.b z ∈ r) ∧ (∀ z ∈ d.new, It.b z ∉ r) ∧ (d.w.into = true → It.b d.y ∉ blk r d.x) ∧ (d.w = .swap → It.b d.x ∉ blk r d.y ∧ It.b d.y ∉ blk r d.x) := by
  unfold stop at h
  split at h
  · rename_i h1
    split at h
    · cases h
    · rename_i h2
      split at h
      · cases h
      · rename_i h3
        split at h
        · cases h
        · rename_i h4
          refine ⟨fun z hz => ?_, fun z hz q => h2 ?_, fun hw q => h3 ?_, fun hw => ⟨fun q => h4 ?_, fun q => h4 ?_⟩⟩
          · have := List.all_eq_true.mp h1 z hz
            unfold there at this
            exact of_decide_eq_true this
          · exact List.any_eq_true.mpr ⟨z, hz, decide_eq_true q⟩
          · rw [hw]
            exact decide_eq_true q
          · rw [hw]
            simp [within, q]
          · rw [hw]
            simp [within, q]
  · cases h
theorem x_there {r : Row N} {d : Deed N} (h : stop r d = none) (hw : d.w ≠ .put) : It.b d.x ∈ r := by
  refine (stop_there h).1 d.x ?_
  unfold Deed.old
  cases hd : d.w <;> simp [W.two] <;> exact absurd hd hw
theorem y_there {r : Row N} {d : Deed N} (h : stop r d = none) (hw : d.w.two = true) (hw2 : d.w ≠ .wrap) : It.b d.y ∈ r := by
  refine (stop_there h).1 d.y ?_
  unfold Deed.old
  cases hd : d.w <;> rw [hd] at hw <;> simp [W.two] at hw ⊢ <;> exact absurd hd hw2
/-- two blocks apart -/
structure Apart (r : Row N) (x y : N) (u m v m2 w : Row N) (s s2 : List N) : Prop where
  eq : r = u ++ (.b x :: (m ++ [.e x])) ++ v ++ (.b y :: (m2 ++ [.e y])) ++ w
  bal : Bal m
  bal2 : Bal m2
  ru : run [] u = some s
  rv : run s v = some s2
  rw' : run s2 w = some []
  spx : Span r x u m (v ++ (.b y :: (m2 ++ [.e y])) ++ w) s
  spy : Span r y (u ++ (.b x :: (m ++ [.e x])) ++ v) m2 w s2
theorem Good.apart {r : Row N} (g : Good r) {x y : N} (hx : It.b x ∈ r) (hy : It.b y ∈ r) (hlt : ix (.b x) r < ix (.b y) r) (hn : It.b y ∉ blk r x) : ∃ u m v m2 w s s2, Apart r x y u m v m2 w s s2 := by
  obtain ⟨u, m, w0, s, S⟩ := g.span hx
  rw [S.blk] at hn
  have hyu : It.b y ∉ u := fun z => by
    have q := ix_lt z
    have e : ix (.b y) r = ix (.b y) u := by rw [S.eq]; exact ix_in z
    rw [S.ixb, e] at hlt
    omega
  have hyw : It.b y ∈ w0 := by
    rw [S.eq3] at hy
    rcases List.mem_append.mp hy with q | q
    · rcases List.mem_append.mp q with q | q
      · exact absurd q hyu
      · exact absurd q hn
    · exact q
  obtain ⟨v, t, rfl⟩ := List.append_of_mem hyw
  obtain ⟨m2, w, s2, rfl, b2, r1, r2⟩ := run_cut S.rw'
  have e : r = u ++ (.b x :: (m ++ [.e x])) ++ v ++ (.b y :: (m2 ++ [.e y])) ++ w := by rw [S.eq]; simp
  have e1 : v ++ It.b y :: (m2 ++ It.e y :: w) = v ++ (.b y :: (m2 ++ [.e y])) ++ w := by simp
  have nd := g.nd
  refine ⟨u, m, v, m2, w, s, s2, e, S.bal, b2, S.ru, r1, r2, by rw [← e1]; exact S, ⟨?_, b2, ?_, r2, ?_, ?_⟩⟩
  · rw [e]; simp
  · rw [run_ins S.bblk, run_app, S.ru]
    exact r1
  · have e2 : r = (u ++ (.b x :: (m ++ [.e x])) ++ v) ++ .b y :: (m2 ++ .e y :: w) := by rw [e]; simp
    rw [e2] at nd
    exact (nd_split nd).1
  · have e2 : r = ((u ++ (.b x :: (m ++ [.e x])) ++ v) ++ .b y :: m2) ++ .e y :: w := by rw [e]; simp
    rw [e2] at nd
    exact (nd_split nd).1
section
variable {r u m v m2 w : Row N} {x y : N} {s s2 : List N}
theorem Apart.sw (A : Apart r x y u m v m2 w s s2) : TM.sw r x y = u ++ (.b y :: (m2 ++ [.e y])) ++ v ++ (.b x :: (m ++ [.e x])) ++ w := by
  have hb : btw r x y = v := by
    unfold btw
    rw [A.spy.tkb]
    have e : u ++ (It.b x :: (m ++ [It.e x])) ++ v = (u ++ .b x :: m) ++ .e x :: v := by simp
    rw [e, ix_out A.spx.ne]
    have e2 : (u ++ It.b x :: m) ++ It.e x :: v = ((u ++ .b x :: m) ++ [.e x]) ++ v := by simp
    have e3 : (u ++ It.b x :: m).length + 1 = ((u ++ It.b x :: m) ++ [It.e x]).length := by simp; omega
    rw [e2, e3, List.drop_left]
  unfold TM.sw
  rw [A.spx.tkb, A.spy.blk, hb, A.spx.blk, A.spy.dke1]
theorem Apart.good (A : Apart r x y u m v m2 w s s2) (g : Good r) : Good (TM.sw r x y) := by
  rw [A.sw]
  refine ⟨?_, ?_⟩
  · have e : u ++ (It.b y :: (m2 ++ [It.e y])) ++ v ++ (It.b x :: (m ++ [It.e x])) ++ w = u ++ (It.b y :: (m2 ++ [It.e y])) ++ (v ++ (It.b x :: (m ++ [It.e x])) ++ w) := by simp
    rw [e, run_ins A.spy.bblk, ← List.append_assoc, ← List.append_assoc, run_ins A.spx.bblk, List.append_assoc, run_app, A.ru]
    show run s (v ++ w) = _
    rw [run_app, A.rv]
    exact A.rw'
  · have nd := g.nd
    rw [A.eq] at nd
    refine (List.Perm.nodup_iff ?_).mpr nd
    have p1 : ∀ X Y : Row N, (u ++ X ++ v ++ Y ++ w).Perm (u ++ Y ++ v ++ X ++ w) := fun X Y => by
      refine List.Perm.append_right w ?_
      rw [List.append_assoc, List.append_assoc, List.append_assoc, List.append_assoc]
      refine List.Perm.append_left u ?_
      have a1 : (X ++ (v ++ Y)).Perm ((v ++ Y) ++ X) := List.perm_append_comm
      have a2 : ((v ++ Y) ++ X).Perm ((Y ++ v) ++ X) := List.Perm.append_right X List.perm_append_comm
      have a3 := a1.trans a2
      rw [List.append_assoc Y] at a3
      exact a3
    exact p1 _ _
end
theorem ren_inj {x y : N} : ∀ {a b : N}, ren x y a = ren x y b → a = b := by
  intro a b h
  unfold ren at h
  split at h <;> split at h <;> (try split at h) <;> (try split at h) <;> simp_all
theorem renI_inj {x y : N} {a b : It N} (h : renI x y a = renI x y b) : a = b := by
  cases a with
  | g k =>
    cases b with
    | g j =>
      have h : It.g (N := N) k = .g j := h
      exact h
    | n c v => cases h
  | n c v =>
    cases b with
    | g j => cases h
    | n d z =>
      have h : It.n c (ren x y v) = .n d (ren x y z) := h
      injection h with h1 h2
      rw [h1, ren_inj h2]
theorem run_ren (x y : N) : ∀ (r : Row N) (st : List N), run (st.map (ren x y)) (r.map (renI x y)) = (run st r).map fun s => s.map (ren x y)
  | [], st => rfl
  | .n true z :: r, st => run_ren x y r (z :: st)
  | .n false z :: r, [] => rfl
  | .n false z :: r, m :: st => by
    show (if ren x y m = ren x y z then run (st.map (ren x y)) (r.map (renI x y)) else none) = (if m = z then run st r else none).map _
    by_cases e : m = z
    · rw [if_pos e, if_pos (by rw [e])]
      exact run_ren x y r st
    · rw [if_neg e, if_neg fun q => e (ren_inj q)]
      rfl
  | .g k :: r, st => run_ren x y r st
theorem turned_good {r : Row N} (g : Good r) (x y : N) : Good (turned r x y) := by
  refine ⟨?_, ?_⟩
  · have h := run_ren x y r []
    rw [g.bal] at h
    exact h
  · exact List.Pairwise.map _ (fun a b (h : a ≠ b) q => h (renI_inj q)) g.nd
theorem sub_nodup {l : Row N} {r : Row N} (h : r.Perm l) (g : r.Nodup) : l.Nodup := h.nodup_iff.mp g
theorem done_good {r : Row N} {d : Deed N} (g : Good r) (h : stop r d = none) : Good (done r d) := by
  have mv : d.w.mv = true → Good (moved r d) := fun hm => by
    have hx : It.b d.x ∈ r := x_there h (by intro e; rw [e] at hm; exact absurd hm (by decide))
    obtain ⟨u, m, w, s, S⟩ := g.span hx
    unfold moved
    rw [S.rest, S.blk]
    exact ⟨ins_bal S.bblk S.brest _, (ins_perm _ _ _).nodup_iff.mpr (sub_nodup S.perm g.nd)⟩
  have dsw : ∀ {x y : N}, It.b x ∈ r → It.b y ∈ r → x ≠ y → It.b y ∉ blk r x → ¬ ix (.b y) r < ix (.b x) r → Good (sw r x y) := fun {x y} hx hy hne hn hlt => by
    have hl : ix (.b x) r < ix (.b y) r := by
      rcases Nat.lt_or_ge (ix (.b x) r) (ix (.b y) r) with c | c
      · exact c
      · have e : ix (.b x) r = ix (.b y) r := by omega
        obtain ⟨u, m, w, s, S⟩ := g.span hx
        obtain ⟨u2, m2, w2, s2, S2⟩ := g.span hy
        have e1 := S.ixb
        have e2 := S2.ixb
        have e3 : u.length = u2.length := by omega
        have e4 := S.eq.symm.trans S2.eq
        obtain ⟨_, e5⟩ := List.append_inj e4 e3
        injection e5 with e6 _
        injection e6 with _ e7
        exact absurd e7 hne
    obtain ⟨u, m, v, m2, w, s, s2, A⟩ := g.apart hx hy hl hn
    exact A.good g
  obtain ⟨st1, st2, st3, st4⟩ := stop_there h
  unfold done
  cases hw : d.w <;> simp only
  case swap =>
    have hx := x_there h (by rw [hw]; decide)
    have hy := y_there h (by rw [hw]; decide) (by rw [hw]; decide)
    obtain ⟨n1, n2⟩ := st4 hw
    have hne : d.x ≠ d.y := fun e => by
      rw [e] at n1
      obtain ⟨u, m, w, s, S⟩ := g.span hy
      rw [S.blk] at n1
      exact n1 List.mem_cons_self
    unfold swapped
    split
    · rename_i c
      exact dsw hy hx hne.symm n1 (by omega)
    · rename_i c
      exact dsw hx hy hne n2 c
  case turn => exact turned_good g _ _
  case pour =>
    have hx := x_there h (by rw [hw]; decide)
    obtain ⟨u, m, w, s, S⟩ := g.span hx
    unfold poured
    rw [S.emptied, S.mid]
    refine ⟨ins_bal S.bal ?_ _, (ins_perm _ _ _).nodup_iff.mpr ?_⟩
    · have e : u ++ [It.b d.x, It.e d.x] ++ w = u ++ (It.b d.x :: ([] ++ [It.e d.x])) ++ w := by simp
      rw [e, run_ins (bal_wrap bal_nil d.x)]
      exact S.brest
    · refine sub_nodup ?_ g.nd
      rw [S.eq]
      have e : u ++ It.b d.x :: (m ++ It.e d.x :: w) = (u ++ [It.b d.x]) ++ m ++ ([It.e d.x] ++ w) := by simp
      have e2 : m ++ (u ++ [It.b d.x, It.e d.x] ++ w) = m ++ (u ++ [It.b d.x]) ++ ([It.e d.x] ++ w) := by simp
      rw [e, e2]
      exact List.Perm.append_right _ List.perm_append_comm
  case put =>
    have hn := st2 d.x (by unfold Deed.new; rw [hw]; simp)
    have hne : It.e d.x ∉ r := fun q => hn (end_begin r g.bal q (by simp))
    refine ⟨ins_bal (z := [It.b d.x, It.e d.x]) (by have := bal_wrap bal_nil d.x; simpa using this) g.bal _, (ins_perm _ _ _).nodup_iff.mpr ?_⟩
    show (It.b d.x :: It.e d.x :: r).Nodup
    refine List.nodup_cons.mpr ⟨fun q => ?_, List.nodup_cons.mpr ⟨hne, g.nd⟩⟩
    rcases List.mem_cons.mp q with q | q
    · exact be_ne _ _ q
    · exact hn q
  case cut =>
    have hx := x_there h (by rw [hw]; decide)
    obtain ⟨u, m, w, s, S⟩ := g.span hx
    rw [S.rest]
    exact ⟨S.brest, (List.nodup_append.mp (sub_nodup S.perm g.nd)).2.1⟩
  case lift =>
    have hx := x_there h (by rw [hw]; decide)
    obtain ⟨u, m, w, s, S⟩ := g.span hx
    rw [S.tkb, S.mid, S.dke1]
    refine ⟨?_, ?_⟩
    · rw [run_ins S.bal]
      exact S.brest
    · have nd := g.nd
      rw [S.eq] at nd
      refine List.Nodup.sublist ?_ nd
      rw [List.append_assoc]
      refine List.Sublist.append_left ?_ u
      refine List.Sublist.cons _ ?_
      exact List.Sublist.append_left (List.Sublist.cons _ (List.Sublist.refl _)) m
  case wrap =>
    have hx := x_there h (by rw [hw]; decide)
    have hn := st2 d.y (by unfold Deed.new; rw [hw]; simp)
    have hne : It.e d.y ∉ r := fun q => hn (end_begin r g.bal q (by simp))
    obtain ⟨u, m, w, s, S⟩ := g.span hx
    rw [S.tkb, S.blk, S.dke1]
    refine ⟨?_, ?_⟩
    · have e : u ++ [It.b d.y] ++ It.b d.x :: (m ++ [It.e d.x]) ++ [It.e d.y] ++ w = u ++ (It.b d.y :: ((It.b d.x :: (m ++ [It.e d.x])) ++ [It.e d.y])) ++ w := by simp
      rw [e, run_ins (bal_wrap S.bblk d.y)]
      exact S.brest
    · have p : (It.b d.y :: It.e d.y :: r).Perm (u ++ [It.b d.y] ++ It.b d.x :: (m ++ [It.e d.x]) ++ [It.e d.y] ++ w) := by
        have e : u ++ [It.b d.y] ++ It.b d.x :: (m ++ [It.e d.x]) ++ [It.e d.y] ++ w = u ++ It.b d.y :: ((It.b d.x :: (m ++ [It.e d.x])) ++ It.e d.y :: w) := by simp
        rw [e]
        refine List.Perm.trans ?_ List.perm_middle.symm
        refine List.Perm.cons _ ?_
        rw [← List.append_assoc]
        refine List.Perm.trans ?_ List.perm_middle.symm
        refine List.Perm.cons _ ?_
        rw [S.eq3]
      refine sub_nodup p ?_
      refine List.nodup_cons.mpr ⟨fun q => ?_, List.nodup_cons.mpr ⟨hne, g.nd⟩⟩
      rcases List.mem_cons.mp q with q | q
      · exact be_ne _ _ q
      · exact hn q
  all_goals exact mv (by rw [hw]; rfl)
/-- what stands in a row after a deed -/
theorem mem_ins {a : It N} {q z : Row N} {i : Nat} : a ∈ ins q i z ↔ a ∈ z ∨ a ∈ q := by
  rw [(ins_perm q z i).mem_iff, List.mem_append]
theorem mem_sub {a : It N} {r : Row N} {i j : Nat} (h : a ∈ (r.take i).drop j) : a ∈ r := List.mem_of_mem_take (List.mem_of_mem_drop h)
theorem mem_blk {a : It N} {r : Row N} {x : N} (h : a ∈ blk r x) : a ∈ r := mem_sub h
theorem mem_mid {a : It N} {r : Row N} {x : N} (h : a ∈ mid r x) : a ∈ r := mem_sub h
theorem mem_rest {a : It N} {r : Row N} {x : N} (h : a ∈ rest r x) : a ∈ r := by
  rcases List.mem_append.mp h with q | q
  · exact List.mem_of_mem_take q
  · exact List.mem_of_mem_drop q
theorem mem_emptied {a : It N} {r : Row N} {x : N} (h : a ∈ emptied r x) : a ∈ r := by
  rcases List.mem_append.mp h with q | q
  · exact List.mem_of_mem_take q
  · exact List.mem_of_mem_drop q
theorem mem_sw {a : It N} {r : Row N} {x y : N} (h : a ∈ sw r x y) : a ∈ r := by
  unfold sw at h
  simp only [List.mem_append] at h
  rcases h with (((q | q) | q) | q) | q
  · exact List.mem_of_mem_take q
  · exact mem_blk q
  · exact mem_sub q
  · exact mem_blk q
  · exact List.mem_of_mem_drop q
theorem done_gap {r : Row N} {d : Deed N} {k : Nat} (h : It.g k ∈ done r d) : It.g k ∈ r := by
  have mv : It.g k ∈ moved r d → It.g k ∈ r := fun q => by
    rcases mem_ins.mp q with q | q
    · exact mem_blk q
    · exact mem_rest q
  unfold done at h
  cases hw : d.w <;> rw [hw] at h <;> simp only at h
  case swap =>
    unfold swapped at h
    split at h <;> exact mem_sw h
  case turn =>
    obtain ⟨z, hz, e⟩ := List.mem_map.mp h
    cases z with
    | g j =>
      have e : It.g (N := N) j = .g k := e
      rw [← e]; exact hz
    | n b v => cases e
  case pour =>
    rcases mem_ins.mp h with q | q
    · exact mem_mid q
    · exact mem_emptied q
  case put =>
    rcases mem_ins.mp h with q | q
    · simp at q
    · exact q
  case cut => exact mem_rest h
  case lift =>
    simp only [List.mem_append] at h
    rcases h with (q | q) | q
    · exact List.mem_of_mem_take q
    · exact mem_mid q
    · exact List.mem_of_mem_drop q
  case wrap =>
    simp only [List.mem_append] at h
    rcases h with (((q | q) | q) | q) | q
    · exact List.mem_of_mem_take q
    · simp at q
    · exact mem_blk q
    · simp at q
    · exact List.mem_of_mem_drop q
  all_goals exact mv h
theorem done_end {r : Row N} {d : Deed N} {b : Bool} {z : N} (h : It.n b z ∈ done r d) : It.n b z ∈ r ∨ z ∈ d.names := by
  have mv : It.n b z ∈ moved r d → It.n b z ∈ r := fun q => by
    rcases mem_ins.mp q with q | q
    · exact mem_blk q
    · exact mem_rest q
  unfold done at h
  cases hw : d.w <;> rw [hw] at h <;> simp only at h
  case swap =>
    unfold swapped at h
    split at h <;> exact .inl (mem_sw h)
  case turn =>
    have t2 := two_names (d := d) (by rw [hw]; rfl)
    obtain ⟨u, hu, e⟩ := List.mem_map.mp h
    cases u with
    | g j => cases e
    | n c v =>
      have e : It.n c (ren d.x d.y v) = .n b z := e
      injection e with e1 e2
      unfold ren at e2
      split at e2
      · exact .inr (by rw [← e2]; exact t2.2)
      · split at e2
        · exact .inr (by rw [← e2]; exact t2.1)
        · exact .inl (by rw [← e1, ← e2]; exact hu)
  case pour =>
    rcases mem_ins.mp h with q | q
    · exact .inl (mem_mid q)
    · exact .inl (mem_emptied q)
  case put =>
    rcases mem_ins.mp h with q | q
    · refine .inr ?_
      have : z = d.x := by
        simp only [List.mem_cons, List.not_mem_nil, or_false] at q
        rcases q with q | q <;> injection q
      rw [this]
      exact x_names d
    · exact .inl q
  case cut => exact .inl (mem_rest h)
  case lift =>
    simp only [List.mem_append] at h
    rcases h with (q | q) | q
    · exact .inl (List.mem_of_mem_take q)
    · exact .inl (mem_mid q)
    · exact .inl (List.mem_of_mem_drop q)
  case wrap =>
    have t2 := two_names (d := d) (by rw [hw]; rfl)
    simp only [List.mem_append] at h
    rcases h with (((q | q) | q) | q) | q
    · exact .inl (List.mem_of_mem_take q)
    · refine .inr ?_
      simp only [List.mem_cons, List.not_mem_nil, or_false] at q
      injection q with _ q
      rw [q]; exact t2.2
    · exact .inl (mem_blk q)
    · refine .inr ?_
      simp only [List.mem_cons, List.not_mem_nil, or_false] at q
      injection q with _ q
      rw [q]; exact t2.2
    · exact .inl (List.mem_of_mem_drop q)
  all_goals exact .inl (mv h)
theorem ins_len (q z : Row N) (i : Nat) : (ins q i z).length = z.length + q.length := by
  rw [(ins_perm q z i).length_eq, List.length_append]
theorem done_len {r : Row N} {d : Deed N} (g : Good r) (h : stop r d = none) : (done r d).length ≤ r.length + 2 := by
  have sp : ∀ {x}, It.b x ∈ r → (blk r x).length + (rest r x).length = r.length := fun {x} hx => by
    obtain ⟨u, m, w, s, S⟩ := g.span hx
    have := S.perm.length_eq
    rw [S.blk, S.rest, this, List.length_append (as := It.b x :: (m ++ [It.e x]))]
  have mv : d.w.mv = true → (moved r d).length ≤ r.length + 2 := fun hm => by
    have hx : It.b d.x ∈ r := x_there h (by intro e; rw [e] at hm; exact absurd hm (by decide))
    have := sp hx
    unfold moved
    rw [ins_len]
    omega
  unfold done
  cases hw : d.w <;> simp only
  case swap =>
    have hx := x_there h (by rw [hw]; decide)
    have hy := y_there h (by rw [hw]; decide) (by rw [hw]; decide)
    obtain ⟨n1, n2⟩ := (stop_there h).2.2.2 hw
    have hne : d.x ≠ d.y := fun e => by
      rw [e] at n1
      obtain ⟨u, m, w, s, S⟩ := g.span hy
      rw [S.blk] at n1
      exact n1 List.mem_cons_self
    have key : ∀ {x y : N}, It.b x ∈ r → It.b y ∈ r → ix (.b x) r < ix (.b y) r → It.b y ∉ blk r x → (sw r x y).length ≤ r.length + 2 := fun {x y} hx hy hl hn => by
      obtain ⟨u, m, v, m2, w, s, s2, A⟩ := g.apart hx hy hl hn
      rw [A.sw]
      have e := congrArg List.length A.eq
      simp only [List.length_append, List.length_cons] at e ⊢
      omega
    unfold swapped
    split
    · rename_i c
      exact key hy hx c n1
    · rename_i c
      rcases Nat.lt_or_ge (ix (.b d.x) r) (ix (.b d.y) r) with q | q
      · exact key hx hy q n2
      · have e : ix (.b d.x) r = ix (.b d.y) r := by omega
        obtain ⟨u, m, w, s, S⟩ := g.span hx
        obtain ⟨u2, m2, w2, s2, S2⟩ := g.span hy
        have e1 := S.ixb
        have e2 := S2.ixb
        have e3 : u.length = u2.length := by omega
        have e4 := S.eq.symm.trans S2.eq
        obtain ⟨_, e5⟩ := List.append_inj e4 e3
        injection e5 with e6 _
        injection e6 with _ e7
        exact absurd e7 hne
  case turn =>
    unfold turned
    rw [List.length_map]
    omega
  case pour =>
    have hx := x_there h (by rw [hw]; decide)
    obtain ⟨u, m, w, s, S⟩ := g.span hx
    unfold poured
    rw [ins_len, S.mid, S.emptied, S.eq]
    simp only [List.length_append, List.length_cons, List.length_nil]
    omega
  case put =>
    rw [ins_len]
    simp only [List.length_cons, List.length_nil]
    omega
  case cut =>
    have hx := x_there h (by rw [hw]; decide)
    have := sp hx
    omega
  case lift =>
    have hx := x_there h (by rw [hw]; decide)
    obtain ⟨u, m, w, s, S⟩ := g.span hx
    rw [S.tkb, S.mid, S.dke1, S.eq]
    simp only [List.length_append, List.length_cons]
    omega
  case wrap =>
    have hx := x_there h (by rw [hw]; decide)
    obtain ⟨u, m, w, s, S⟩ := g.span hx
    rw [S.tkb, S.blk, S.dke1, S.eq]
    simp only [List.length_append, List.length_cons, List.length_nil]
    omega
  all_goals exact mv (by rw [hw]; rfl)
end
end TM

/-! M3: gaps, skeletons, all rows, what is lost. Plain Lean. -/
namespace TM
section
variable {N : Type} [DecidableEq N]
/-! ### lists -/
theorem nodup_len {α : Type} [DecidableEq α] : ∀ (l m : List α), l.Nodup → (∀ x ∈ l, x ∈ m) → l.length ≤ m.length
  | [], m, _, _ => Nat.zero_le _
  | x :: l, m, h, hs => by
    obtain ⟨h1, h2⟩ := List.nodup_cons.mp h
    have hx : x ∈ m := hs x List.mem_cons_self
    have ih := nodup_len l (m.erase x) h2 fun y hy => by
      have hne : y ≠ x := fun e => h1 (e ▸ hy)
      exact (List.mem_erase_of_ne hne).mpr (hs y (List.mem_cons_of_mem _ hy))
    have e := List.length_erase_of_mem hx
    have p : 0 < m.length := List.length_pos_of_mem hx
    rw [List.length_cons]
    omega
theorem nodup_full {α : Type} [DecidableEq α] {l m : List α} (h : l.Nodup) (hs : ∀ x ∈ l, x ∈ m) (hl : m.length ≤ l.length) : ∀ x ∈ m, x ∈ l := by
  intro x hx
  refine Classical.byContradiction fun hn => ?_
  have ih := nodup_len l (m.erase x) h fun y hy => by
    have hne : y ≠ x := fun e => hn (e ▸ hy)
    exact (List.mem_erase_of_ne hne).mpr (hs y hy)
  have e := List.length_erase_of_mem hx
  have p : 0 < m.length := List.length_pos_of_mem hx
  omega

/-! ### gaps -/
def It.isG : It N → Bool
  | .g _ => true
  | _ => false
/-- no gaps -/
def Whole (r : Row N) : Prop := ∀ z ∈ r, z.isG = false
def wg : Nat → Row N → Row N
  | i, [] => [.g i]
  | i, z :: r => .g i :: z :: wg (i + 1) r
/-- the gaps are told by f -/
def ff (f : Nat → Row N) : It N → Row N
  | .g k => f k
  | z => [z]
def fil (f : Nat → Row N) (r : Row N) : Row N := fillR (ff f) r
theorem fil_nil (f : Nat → Row N) : fil f [] = [] := rfl
theorem fil_g (f : Nat → Row N) (k : Nat) (r : Row N) : fil f (.g k :: r) = f k ++ fil f r := rfl
theorem fil_n (f : Nat → Row N) (b : Bool) (x : N) (r : Row N) : fil f (.n b x :: r) = .n b x :: fil f r := rfl
theorem fil_app (f : Nat → Row N) (u v : Row N) : fil f (u ++ v) = fil f u ++ fil f v := fill_app u v
theorem whole_tail {z : It N} {r : Row N} (h : Whole (z :: r)) : Whole r := fun u hu => h u (List.mem_cons_of_mem _ hu)
theorem wg_gap : ∀ (r : Row N) (i : Nat), Whole r → ∀ k, It.g k ∈ wg i r ↔ i ≤ k ∧ k ≤ i + r.length
  | [], i, _, k => by
    simp only [wg, List.mem_cons, List.not_mem_nil, or_false, List.length_nil]
    constructor
    · intro h
      injection h with h
      omega
    · intro h
      rw [show k = i by omega]
  | z :: r, i, h, k => by
    have hz := h z List.mem_cons_self
    have ih := wg_gap r (i + 1) (whole_tail h) k
    simp only [wg, List.mem_cons, List.length_cons]
    constructor
    · rintro (q | q | q)
      · injection q with q
        omega
      · rw [← q] at hz
        cases hz
      · have := ih.mp q
        omega
    · intro q
      by_cases e : k = i
      · rw [e]; exact .inl rfl
      · exact .inr (.inr (ih.mpr (by omega)))
theorem wg_end : ∀ (r : Row N) (i : Nat) (b : Bool) (x : N), It.n b x ∈ wg i r ↔ It.n b x ∈ r
  | [], i, b, x => by simp [wg]
  | z :: r, i, b, x => by simp [wg, wg_end r (i + 1) b x]
theorem run_wg : ∀ (r : Row N) (i : Nat) (st : List N), Whole r → run st (wg i r) = run st r
  | [], _, _, _ => rfl
  | .n true x :: r, i, st, h => run_wg r (i + 1) (x :: st) (whole_tail h)
  | .n false x :: r, i, [], h => rfl
  | .n false x :: r, i, m :: st, h => by
    show (if m = x then run st (wg (i + 1) r) else none) = (if m = x then run st r else none)
    rw [run_wg r (i + 1) st (whole_tail h)]
  | .g k :: r, i, st, h => by
    have := h _ List.mem_cons_self
    cases this
theorem wg_nodup : ∀ (r : Row N) (i : Nat), Whole r → r.Nodup → (wg i r).Nodup
  | [], i, _, _ => by simp [wg]
  | z :: r, i, h, nd => by
    obtain ⟨h1, h2⟩ := List.nodup_cons.mp nd
    have ih := wg_nodup r (i + 1) (whole_tail h) h2
    have hz := h z List.mem_cons_self
    show (It.g i :: z :: wg (i + 1) r).Nodup
    refine List.nodup_cons.mpr ⟨fun q => ?_, List.nodup_cons.mpr ⟨fun q => ?_, ih⟩⟩
    · rcases List.mem_cons.mp q with q | q
      · rw [← q] at hz
        cases hz
      · have := (wg_gap r (i + 1) (whole_tail h) i).mp q
        omega
    · cases z with
      | g k => cases hz
      | n b x => exact h1 ((wg_end r (i + 1) b x).mp q)
theorem wg_good {r : Row N} (g : Good r) (h : Whole r) : Good (wg 0 r) := ⟨by rw [run_wg r 0 [] h]; exact g.bal, wg_nodup r 0 h g.nd⟩
theorem fil_wg_congr : ∀ (r : Row N) (i : Nat) (f f' : Nat → Row N), Whole r → (∀ k, i ≤ k → f k = f' k) → fil f (wg i r) = fil f' (wg i r)
  | [], i, f, f', _, h => by
    show f i ++ [] = f' i ++ []
    rw [h i (Nat.le_refl _)]
  | .n b x :: r, i, f, f', w, h => by
    show f i ++ (.n b x :: fil f (wg (i + 1) r)) = f' i ++ (.n b x :: fil f' (wg (i + 1) r))
    rw [h i (Nat.le_refl _), fil_wg_congr r (i + 1) f f' (whole_tail w) fun k hk => h k (by omega)]
  | .g k :: r, i, f, f', w, h => by
    have := w _ List.mem_cons_self
    cases this
theorem fil_none : ∀ (r : Row N) (i : Nat), Whole r → fil (fun _ => []) (wg i r) = r
  | [], i, _ => rfl
  | .n b x :: r, i, h => by
    show .n b x :: fil (fun _ => []) (wg (i + 1) r) = _
    rw [fil_none r (i + 1) (whole_tail h)]
  | .g k :: r, i, h => by
    have := h _ List.mem_cons_self
    cases this
/-- a leaf at one gap -/
def at1 (k : Nat) (z : Row N) : Nat → Row N := fun j => if j = k then z else []
theorem fil_at1 : ∀ (r : Row N) (i k : Nat) (z : Row N), Whole r → i ≤ k → k ≤ i + r.length → fil (at1 k z) (wg i r) = ins r (k - i) z
  | [], i, k, z, _, h1, h2 => by
    have e : k = i := by simp at h2; omega
    subst e
    show (if k = k then z else []) ++ [] = _
    simp [ins]
  | .n b x :: r, i, k, z, w, h1, h2 => by
    show (if i = k then z else []) ++ (.n b x :: fil (at1 k z) (wg (i + 1) r)) = _
    by_cases e : i = k
    · subst e
      have q : fil (at1 i z) (wg (i + 1) r) = fil (fun _ => []) (wg (i + 1) r) := fil_wg_congr r (i + 1) _ _ (whole_tail w) fun k hk => by
        unfold at1
        rw [if_neg (by omega)]
      rw [if_pos rfl, q, fil_none r (i + 1) (whole_tail w)]
      simp [ins]
    · rw [if_neg e, fil_at1 r (i + 1) k z (whole_tail w) (by omega) (by simp at h2; omega)]
      have e2 : k - i = (k - (i + 1)) + 1 := by omega
      rw [e2]
      simp [ins]
  | .g k :: r, i, _, z, w, _, _ => by
    have := w _ List.mem_cons_self
    cases this
theorem fil_none_filter : ∀ (r : Row N), fil (fun _ => []) r = r.filter fun z => !z.isG
  | [] => rfl
  | .n b x :: r => by
    show It.n b x :: fil (fun _ => []) r = _
    rw [fil_none_filter r]
    rfl
  | .g k :: r => by
    show fil (fun _ => []) r = _
    rw [fil_none_filter r]
    rfl
/-- what is foreign to S -/
def Far (S : List N) (r : Row N) : Prop := ∀ z ∈ r, ∃ b y, z = It.n b y ∧ y ∉ S
theorem far_nil (S : List N) : Far S ([] : Row N) := fun z hz => by cases hz
theorem fillS_of {S : List N} {f : Nat → Row N} (h : ∀ k, Far S (f k)) : FillS (ff f) S := fun x hx b => ⟨rfl, fun z hz q => by
  cases z with
  | g k =>
    obtain ⟨c, y, e, hy⟩ := h k _ q
    injection e with _ e2
    exact hy (e2 ▸ hx)
  | n c y =>
    have q : It.n b x ∈ [It.n c y] := q
    rw [List.mem_singleton] at q
    exact hz q.symm⟩
theorem FillS.sub {φ : It N → Row N} {S T : List N} (h : FillS φ S) (hs : ∀ x ∈ T, x ∈ S) : FillS φ T := fun x hx => h x (hs x hx)

/-! ### the skeleton -/
def inS (S : List N) : It N → Bool
  | .n _ x => decide (x ∈ S)
  | .g _ => false
def skel (S : List N) (r : Row N) : Row N := r.filter (inS S)
theorem run_skel (S : List N) : ∀ (r : Row N) (st s : List N), run st r = some s → run (st.filter fun x => decide (x ∈ S)) (skel S r) = some (s.filter fun x => decide (x ∈ S))
  | [], st, s, h => by
    have h : st = s := Option.some.inj h
    rw [h]
    rfl
  | .n true x :: r, st, s, h => by
    have ih := run_skel S r (x :: st) s h
    by_cases hx : x ∈ S
    · have e : skel S (.n true x :: r) = .n true x :: skel S r := by simp [skel, inS, hx]
      rw [e]
      have e2 : (x :: st).filter (fun x => decide (x ∈ S)) = x :: st.filter fun x => decide (x ∈ S) := by simp [hx]
      rw [e2] at ih
      exact ih
    · have e : skel S (.n true x :: r) = skel S r := by simp [skel, inS, hx]
      rw [e]
      have e2 : (x :: st).filter (fun x => decide (x ∈ S)) = st.filter fun x => decide (x ∈ S) := by simp [hx]
      rw [e2] at ih
      exact ih
  | .n false x :: r, [], s, h => by cases h
  | .n false x :: r, m :: st, s, h => by
    have hq : (if m = x then run st r else none) = some s := h
    by_cases e : m = x
    · rw [if_pos e] at hq
      subst e
      have ih := run_skel S r st s hq
      by_cases hx : m ∈ S
      · have e : skel S (.n false m :: r) = .n false m :: skel S r := by simp [skel, inS, hx]
        have e2 : (m :: st).filter (fun x => decide (x ∈ S)) = m :: st.filter fun x => decide (x ∈ S) := by simp [hx]
        rw [e, e2]
        show (if m = m then run _ _ else none) = _
        rw [if_pos rfl]
        exact ih
      · have e : skel S (.n false m :: r) = skel S r := by simp [skel, inS, hx]
        have e2 : (m :: st).filter (fun x => decide (x ∈ S)) = st.filter fun x => decide (x ∈ S) := by simp [hx]
        rw [e, e2]
        exact ih
    · rw [if_neg e] at hq
      cases hq
  | .g k :: r, st, s, h => run_skel S r st s h
theorem skel_good {S : List N} {r : Row N} (g : Good r) : Good (skel S r) := ⟨run_skel S r [] [] g.bal, g.nd.filter _⟩
theorem skel_whole (S : List N) (r : Row N) : Whole (skel S r) := fun z hz => by
  have := (List.mem_filter.mp hz).2
  cases z with
  | g k => cases this
  | n b x => rfl
theorem skel_mem {S : List N} {r : Row N} {b : Bool} {x : N} : It.n b x ∈ skel S r ↔ It.n b x ∈ r ∧ x ∈ S := by
  unfold skel
  rw [List.mem_filter]
  simp [inS]
/-- a row is its skeleton, filled -/
theorem skel_fil (S : List N) : ∀ (r : Row N) (i : Nat), Whole r → ∃ f : Nat → Row N, (∀ k, Far S (f k)) ∧ fil f (wg i (skel S r)) = r
  | [], i, _ => ⟨fun _ => [], fun _ => far_nil S, rfl⟩
  | .g k :: r, i, h => by
    have := h _ List.mem_cons_self
    cases this
  | .n b x :: r, i, h => by
    by_cases hx : x ∈ S
    · obtain ⟨f, hf, e⟩ := skel_fil S r (i + 1) (whole_tail h)
      refine ⟨fun k => if k = i then [] else f k, fun k => ?_, ?_⟩
      · by_cases q : k = i
        · simp only [q, if_true]
          exact far_nil S
        · simp only [q, if_false]
          exact hf k
      · have e1 : skel S (.n b x :: r) = .n b x :: skel S r := by simp [skel, inS, hx]
        rw [e1]
        show (if i = i then [] else f i) ++ (It.n b x :: fil _ (wg (i + 1) (skel S r))) = _
        rw [if_pos rfl, fil_wg_congr (skel S r) (i + 1) _ f (skel_whole S r) fun k hk => by rw [if_neg (by omega)], e]
        rfl
    · obtain ⟨f, hf, e⟩ := skel_fil S r i (whole_tail h)
      refine ⟨fun k => if k = i then .n b x :: f i else f k, fun k => ?_, ?_⟩
      · by_cases q : k = i
        · simp only [q, if_true]
          intro z hz
          rcases List.mem_cons.mp hz with w | w
          · exact ⟨b, x, w, hx⟩
          · exact hf i z w
        · simp only [q, if_false]
          exact hf k
      · have e1 : skel S (.n b x :: r) = skel S r := by simp [skel, inS, hx]
        rw [e1]
        have key : ∀ s : Row N, Whole s → fil (fun k => if k = i then .n b x :: f i else f k) (wg i s) = .n b x :: fil f (wg i s) := by
          intro s hs
          cases s with
          | nil =>
            show (if i = i then .n b x :: f i else f i) ++ [] = .n b x :: (f i ++ [])
            rw [if_pos rfl]
            rfl
          | cons z s =>
            have w : fil (fun k => if k = i then .n b x :: f i else f k) (wg (i + 1) s) = fil f (wg (i + 1) s) := fil_wg_congr s (i + 1) _ f (whole_tail hs) fun k hk => by rw [if_neg (by omega)]
            cases z with
            | g k =>
              have := hs _ List.mem_cons_self
              cases this
            | n c y =>
              show (if i = i then .n b x :: f i else f i) ++ (.n c y :: fil _ (wg (i + 1) s)) = .n b x :: (f i ++ (.n c y :: fil f (wg (i + 1) s)))
              rw [if_pos rfl, w]
              rfl
        rw [key _ (skel_whole S r), e]

/-! ### fillings told by the filled row -/
/-- gaps and ends of S in turn, no gap beside a gap -/
def Loose : Row N → Prop
  | .g _ :: .g _ :: _ => False
  | _ :: r => Loose r
  | [] => True
theorem loose_tail {z : It N} {r : Row N} (h : Loose (z :: r)) : Loose r := by
  cases z with
  | n b x => exact h
  | g k =>
    cases r with
    | nil => trivial
    | cons y r =>
      cases y with
      | g j => exact h.elim
      | n b x => exact h
/-- up to the first end of S -/
theorem far_split {S : List N} {b : Bool} {x : N} (hx : x ∈ S) : ∀ {u u' v v' : Row N}, Far S u → Far S u' → u ++ .n b x :: v = u' ++ .n b x :: v' → u = u' ∧ v = v'
  | [], [], v, v', _, _, e => by
    injection e with _ e
    exact ⟨rfl, e⟩
  | [], z :: u', v, v', _, h', e => by
    injection e with e1 _
    obtain ⟨c, y, q, hy⟩ := h' z List.mem_cons_self
    rw [q] at e1
    injection e1 with _ e2
    exact absurd (e2 ▸ hx) hy
  | z :: u, [], v, v', h, _, e => by
    injection e with e1 _
    obtain ⟨c, y, q, hy⟩ := h z List.mem_cons_self
    rw [q] at e1
    injection e1 with _ e2
    exact absurd (e2 ▸ hx) hy
  | z :: u, z' :: u', v, v', h, h', e => by
    injection e with e1 e2
    obtain ⟨q1, q2⟩ := far_split hx (fun y hy => h y (List.mem_cons_of_mem _ hy)) (fun y hy => h' y (List.mem_cons_of_mem _ hy)) e2
    exact ⟨by rw [e1, q1], q2⟩
/-- ends in S -/
def EndsIn (S : List N) (t : Row N) : Prop := ∀ b x, It.n b x ∈ t → x ∈ S
theorem fil_inj {S : List N} {f f' : Nat → Row N} (hf : ∀ k, Far S (f k)) (hf' : ∀ k, Far S (f' k)) : ∀ t : Row N, EndsIn S t → Loose t → fil f t = fil f' t → ∀ k, It.g k ∈ t → f k = f' k
  | [], _, _, _, k, hk => by cases hk
  | .n b x :: t, he, hl, e, k, hk => by
    have e : It.n b x :: fil f t = It.n b x :: fil f' t := e
    injection e with _ e
    refine fil_inj hf hf' t (fun c y hy => he c y (List.mem_cons_of_mem _ hy)) (loose_tail hl) e k ?_
    rcases List.mem_cons.mp hk with q | q
    · cases q
    · exact q
  | [.g j], he, hl, e, k, hk => by
    have e : f j ++ [] = f' j ++ [] := e
    rw [List.append_nil, List.append_nil] at e
    rw [List.mem_singleton] at hk
    injection hk with hk
    rw [hk]
    exact e
  | .g j :: .g i :: t, he, hl, e, k, hk => hl.elim
  | .g j :: .n b x :: t, he, hl, e, k, hk => by
    have e : f j ++ .n b x :: fil f t = f' j ++ .n b x :: fil f' t := e
    have hx : x ∈ S := he b x (by simp)
    obtain ⟨q1, q2⟩ := far_split hx (hf j) (hf' j) e
    rcases List.mem_cons.mp hk with q | q
    · injection q with q
      rw [q]
      exact q1
    · refine fil_inj hf hf' t (fun c y hy => he c y (List.mem_cons_of_mem _ (List.mem_cons_of_mem _ hy))) (loose_tail (loose_tail hl)) q2 k ?_
      rcases List.mem_cons.mp q with q | q
      · cases q
      · exact q
theorem fil_congr {f f' : Nat → Row N} : ∀ t : Row N, (∀ k, It.g k ∈ t → f k = f' k) → fil f t = fil f' t
  | [], _ => rfl
  | .g j :: t, h => by
    show f j ++ fil f t = f' j ++ fil f' t
    rw [h j List.mem_cons_self, fil_congr t fun k hk => h k (List.mem_cons_of_mem _ hk)]
  | .n b x :: t, h => by
    show .n b x :: fil f t = .n b x :: fil f' t
    rw [fil_congr t fun k hk => h k (List.mem_cons_of_mem _ hk)]
/-- the ends of S in a filled row are those of the template -/
theorem fil_skel {S : List N} {f : Nat → Row N} (hf : ∀ k, Far S (f k)) : ∀ t : Row N, EndsIn S t → skel S (fil f t) = t.filter fun z => !z.isG
  | [], _ => rfl
  | .g j :: t, h => by
    have ih := fil_skel hf t fun c y hy => h c y (List.mem_cons_of_mem _ hy)
    show skel S (f j ++ fil f t) = _
    unfold skel at ih ⊢
    rw [List.filter_append, ih]
    have e : (f j).filter (inS S) = [] := List.filter_eq_nil_iff.mpr fun z hz => by
      obtain ⟨b, y, q, hy⟩ := hf j z hz
      rw [q]
      simp [inS, hy]
    rw [e]
    rfl
  | .n b x :: t, h => by
    have ih := fil_skel hf t fun c y hy => h c y (List.mem_cons_of_mem _ hy)
    have hx : x ∈ S := h b x List.mem_cons_self
    show skel S (.n b x :: fil f t) = _
    have e : skel S (.n b x :: fil f t) = .n b x :: skel S (fil f t) := by simp [skel, inS, hx]
    rw [e, ih]
    rfl

/-! ### all the rows -/
def rf (ns : List N) : Nat → Row N → List N → List (Row N)
  | 0, row, _ => [row]
  | n + 1, row, st => ((ns.filter fun x => decide (It.b x ∉ row)).flatMap fun x => rf ns n (row ++ [.b x]) (x :: st)) ++ match st with
    | [] => []
    | x :: st' => rf ns n (row ++ [.e x]) st'
def allRows (ns : List N) : List (Row N) := rf ns (2 * ns.length) [] []
/-- the whole right rows with the names of ns -/
structure RowOf (ns : List N) (r : Row N) : Prop where
  good : Good r
  whole : Whole r
  nm : ∀ x, It.b x ∈ r ↔ x ∈ ns
theorem rf_complete (ns : List N) : ∀ (t row : Row N) (st : List N), run st t = some [] → (row ++ t).Nodup → Whole t → (∀ x, It.b x ∈ t → x ∈ ns) → row ++ t ∈ rf ns t.length row st
  | [], row, st, _, _, _, _ => by simp [rf]
  | .n true x :: t, row, st, h, nd, w, hn => by
    have e : row ++ .n true x :: t = (row ++ [.b x]) ++ t := by simp
    have ih := rf_complete ns t (row ++ [.b x]) (x :: st) h (by rw [← e]; exact nd) (whole_tail w) fun y hy => hn y (List.mem_cons_of_mem _ hy)
    show _ ∈ ((ns.filter fun x => decide (It.b x ∉ row)).flatMap fun x => rf ns t.length (row ++ [.b x]) (x :: st)) ++ _
    refine List.mem_append_left _ (List.mem_flatMap.mpr ⟨x, List.mem_filter.mpr ⟨hn x List.mem_cons_self, ?_⟩, by rw [e]; exact ih⟩)
    exact decide_eq_true (nd_split nd).1
  | .n false x :: t, row, [], h, nd, w, hn => by cases h
  | .n false x :: t, row, m :: st, h, nd, w, hn => by
    have hq : (if m = x then run st t else none) = some [] := h
    by_cases q : m = x
    · rw [if_pos q] at hq
      subst q
      have e : row ++ .n false m :: t = (row ++ [.e m]) ++ t := by simp
      have ih := rf_complete ns t (row ++ [.e m]) st hq (by rw [← e]; exact nd) (whole_tail w) fun y hy => hn y (List.mem_cons_of_mem _ hy)
      show _ ∈ _ ++ rf ns t.length (row ++ [.e m]) st
      exact List.mem_append_right _ (by rw [e]; exact ih)
    · rw [if_neg q] at hq
      cases hq
  | .g k :: t, row, st, h, nd, w, hn => by
    have := w _ List.mem_cons_self
    cases this
/-- a row on its way -/
structure Way (ns : List N) (row : Row N) (st : List N) : Prop where
  run : TM.run [] row = some st
  nd : row.Nodup
  whole : Whole row
  inn : ∀ b x, It.n b x ∈ row → x ∈ ns
  stn : st.Nodup
  sto : ∀ x ∈ st, It.b x ∈ row ∧ It.e x ∉ row
theorem Way.nil (ns : List N) : Way ns [] [] where
  run := rfl
  nd := List.nodup_nil
  whole := fun z hz => nomatch hz
  inn := fun b x h => nomatch h
  stn := List.nodup_nil
  sto := fun x h => nomatch h
theorem Way.open' {ns : List N} {row : Row N} {st : List N} (h : Way ns row st) {x : N} (hx : x ∈ ns) (hn : It.b x ∉ row) : Way ns (row ++ [.b x]) (x :: st) := by
  have he : It.e x ∉ row := fun q => hn (end_begin row h.run q (by simp))
  refine ⟨?_, ?_, ?_, ?_, ?_, ?_⟩
  · rw [run_app, h.run]
    rfl
  · refine List.nodup_append.mpr ⟨h.nd, by simp, fun a ha b hb => ?_⟩
    rw [List.mem_singleton] at hb
    rw [hb]
    exact fun q => hn (q ▸ ha)
  · intro z hz
    rcases List.mem_append.mp hz with q | q
    · exact h.whole z q
    · rw [List.mem_singleton] at q
      rw [q]
      rfl
  · intro b y hy
    rcases List.mem_append.mp hy with q | q
    · exact h.inn b y q
    · rw [List.mem_singleton] at q
      injection q with _ q
      rw [q]
      exact hx
  · exact List.nodup_cons.mpr ⟨fun q => hn (h.sto x q).1, h.stn⟩
  · intro y hy
    rcases List.mem_cons.mp hy with q | q
    · rw [q]
      refine ⟨by simp, fun w => ?_⟩
      rcases List.mem_append.mp w with w | w
      · exact he w
      · rw [List.mem_singleton] at w
        exact be_ne _ _ w.symm
    · refine ⟨List.mem_append_left _ (h.sto y q).1, fun w => ?_⟩
      rcases List.mem_append.mp w with w | w
      · exact (h.sto y q).2 w
      · rw [List.mem_singleton] at w
        exact be_ne _ _ w.symm
theorem Way.close {ns : List N} {row : Row N} {x : N} {st : List N} (h : Way ns row (x :: st)) : Way ns (row ++ [.e x]) st := by
  obtain ⟨hb, he⟩ := h.sto x List.mem_cons_self
  obtain ⟨s1, s2⟩ := List.nodup_cons.mp h.stn
  refine ⟨?_, ?_, ?_, ?_, s2, ?_⟩
  · rw [run_app, h.run]
    show (if x = x then some st else none) = some st
    rw [if_pos rfl]
  · refine List.nodup_append.mpr ⟨h.nd, by simp, fun a ha b hb => ?_⟩
    rw [List.mem_singleton] at hb
    rw [hb]
    exact fun q => he (q ▸ ha)
  · intro z hz
    rcases List.mem_append.mp hz with q | q
    · exact h.whole z q
    · rw [List.mem_singleton] at q
      rw [q]
      rfl
  · intro b y hy
    rcases List.mem_append.mp hy with q | q
    · exact h.inn b y q
    · rw [List.mem_singleton] at q
      injection q with _ q
      rw [q]
      exact h.inn true x hb
  · intro y hy
    refine ⟨List.mem_append_left _ (h.sto y (List.mem_cons_of_mem _ hy)).1, fun w => ?_⟩
    rcases List.mem_append.mp w with w | w
    · exact (h.sto y (List.mem_cons_of_mem _ hy)).2 w
    · rw [List.mem_singleton] at w
      injection w with _ w
      exact s1 (w ▸ hy)
theorem Way.full {ns : List N} (hns : ns.Nodup) {row : Row N} {st : List N} (h : Way ns row st) (hl : row.length = 2 * ns.length) : RowOf ns row := by
  have sub : ∀ z ∈ row, z ∈ ns.map It.b ++ ns.map It.e := fun z hz => by
    cases z with
    | g k =>
      have := h.whole _ hz
      cases this
    | n b x =>
      have := h.inn b x hz
      cases b
      · exact List.mem_append_right _ (List.mem_map.mpr ⟨x, this, rfl⟩)
      · exact List.mem_append_left _ (List.mem_map.mpr ⟨x, this, rfl⟩)
  have full := nodup_full h.nd sub (by rw [List.length_append, List.length_map, List.length_map]; omega)
  have hst : st = [] := by
    cases st with
    | nil => rfl
    | cons x st =>
      obtain ⟨h1, h2⟩ := h.sto x List.mem_cons_self
      exact absurd (full _ (List.mem_append_right _ (List.mem_map.mpr ⟨x, h.inn true x h1, rfl⟩))) h2
  refine ⟨⟨by have q := h.run; rw [hst] at q; exact q, h.nd⟩, h.whole, fun x => ⟨fun q => h.inn true x q, fun q => full _ (List.mem_append_left _ (List.mem_map.mpr ⟨x, q, rfl⟩))⟩⟩
theorem rf_sound {ns : List N} (hns : ns.Nodup) : ∀ (n : Nat) (row : Row N) (st : List N), Way ns row st → row.length + n = 2 * ns.length → ∀ s ∈ rf ns n row st, RowOf ns s
  | 0, row, st, h, hl, s, hs => by
    have e : s = row := by simpa [rf] using hs
    rw [e]
    exact h.full hns (by omega)
  | n + 1, row, st, h, hl, s, hs => by
    rcases List.mem_append.mp (show s ∈ ((ns.filter fun x => decide (It.b x ∉ row)).flatMap fun x => rf ns n (row ++ [.b x]) (x :: st)) ++ _ from hs) with q | q
    · obtain ⟨x, hx, q⟩ := List.mem_flatMap.mp q
      obtain ⟨hx1, hx2⟩ := List.mem_filter.mp hx
      exact rf_sound hns n _ _ (h.open' hx1 (of_decide_eq_true hx2)) (by rw [List.length_append, List.length_singleton]; omega) s q
    · cases st with
      | nil => cases q
      | cons x st => exact rf_sound hns n _ _ h.close (by rw [List.length_append, List.length_singleton]; omega) s q
theorem rowOf_len {ns : List N} (hns : ns.Nodup) {r : Row N} (h : RowOf ns r) : r.length = 2 * ns.length := by
  have hee : ∀ x, It.e x ∈ r → It.b x ∈ r := fun x q => end_begin r h.good.bal q (by simp)
  have hbe : ∀ x, It.b x ∈ r → It.e x ∈ r := fun x q => by
    obtain ⟨u, m, w, s, S⟩ := h.good.span q
    rw [S.eq]
    simp
  have nd2 : (ns.map It.b ++ ns.map It.e).Nodup := by
    refine List.nodup_append.mpr ⟨List.Pairwise.map _ (fun a b (q : a ≠ b) z => q (by injection z)) hns, List.Pairwise.map _ (fun a b (q : a ≠ b) z => q (by injection z)) hns, fun a ha b hb q => ?_⟩
    obtain ⟨x, _, rfl⟩ := List.mem_map.mp ha
    obtain ⟨y, _, rfl⟩ := List.mem_map.mp hb
    exact be_ne _ _ q
  have l1 := nodup_len r (ns.map It.b ++ ns.map It.e) h.good.nd fun z hz => by
    cases z with
    | g k =>
      have := h.whole _ hz
      cases this
    | n b x =>
      cases b
      · exact List.mem_append_right _ (List.mem_map.mpr ⟨x, (h.nm x).mp (hee x hz), rfl⟩)
      · exact List.mem_append_left _ (List.mem_map.mpr ⟨x, (h.nm x).mp hz, rfl⟩)
  have l2 := nodup_len (ns.map It.b ++ ns.map It.e) r nd2 fun z hz => by
    rcases List.mem_append.mp hz with q | q
    · obtain ⟨x, hx, rfl⟩ := List.mem_map.mp q
      exact (h.nm x).mpr hx
    · obtain ⟨x, hx, rfl⟩ := List.mem_map.mp q
      exact hbe x ((h.nm x).mpr hx)
  rw [List.length_append, List.length_map, List.length_map] at l1 l2
  omega
theorem mem_allRows {ns : List N} (hns : ns.Nodup) {r : Row N} : r ∈ allRows ns ↔ RowOf ns r := by
  constructor
  · exact fun h => rf_sound hns _ [] [] (.nil ns) (by simp) r h
  · intro h
    have q := rf_complete ns r [] [] h.good.bal (by simpa using h.good.nd) h.whole fun x hx => (h.nm x).mp hx
    rw [rowOf_len hns h] at q
    exact q
theorem rf_pre (ns : List N) : ∀ (n : Nat) (row : Row N) (st : List N), ∀ s ∈ rf ns n row st, ∃ t, s = row ++ t
  | 0, row, st, s, h => ⟨[], by simpa [rf] using h⟩
  | n + 1, row, st, s, h => by
    rcases List.mem_append.mp (show s ∈ ((ns.filter fun x => decide (It.b x ∉ row)).flatMap fun x => rf ns n (row ++ [.b x]) (x :: st)) ++ _ from h) with q | q
    · obtain ⟨x, hx, q⟩ := List.mem_flatMap.mp q
      obtain ⟨t, e⟩ := rf_pre ns n _ _ s q
      exact ⟨.b x :: t, by rw [e]; simp⟩
    · cases st with
      | nil => cases q
      | cons x st =>
        obtain ⟨t, e⟩ := rf_pre ns n _ _ s q
        exact ⟨.e x :: t, by rw [e]; simp⟩
theorem pre_ne {row : Row N} {a b : It N} {t u : Row N} (h : (row ++ [a]) ++ t = (row ++ [b]) ++ u) : a = b := by
  rw [List.append_assoc, List.append_assoc] at h
  have := List.append_cancel_left h
  injection this
theorem rf_nodup {ns : List N} (hns : ns.Nodup) : ∀ (n : Nat) (row : Row N) (st : List N), (rf ns n row st).Nodup
  | 0, row, st => by simp [rf]
  | n + 1, row, st => by
    show (((ns.filter fun x => decide (It.b x ∉ row)).flatMap fun x => rf ns n (row ++ [.b x]) (x :: st)) ++ _).Nodup
    refine List.nodup_append.mpr ⟨?_, ?_, ?_⟩
    · unfold List.Nodup
      rw [List.pairwise_flatMap]
      refine ⟨fun x _ => rf_nodup hns n _ _, ?_⟩
      refine List.Pairwise.imp ?_ (hns.filter _)
      intro x y hxy s hs s' hs' e
      obtain ⟨t, e1⟩ := rf_pre ns n _ _ s hs
      obtain ⟨t', e2⟩ := rf_pre ns n _ _ s' hs'
      have q := pre_ne (e1.symm.trans (e.trans e2))
      injection q with _ q
      exact hxy q
    · cases st with
      | nil => exact List.nodup_nil
      | cons x st => exact rf_nodup hns n _ _
    · intro s hs s' hs' e
      obtain ⟨x, hx, hs⟩ := List.mem_flatMap.mp hs
      obtain ⟨t, e1⟩ := rf_pre ns n _ _ s hs
      cases st with
      | nil => cases hs'
      | cons y st =>
        obtain ⟨t', e2⟩ := rf_pre ns n _ _ s' hs'
        exact be_ne _ _ (pre_ne (e1.symm.trans (e.trans e2)))
/-- how many: no node has more than ns.length + 1 children -/
theorem rf_few (ns : List N) : ∀ (n : Nat) (row : Row N) (st : List N), (rf ns n row st).length ≤ (ns.length + 1) ^ n
  | 0, row, st => by simp [rf]
  | n + 1, row, st => by
    have h1 : ∀ l : List N, (l.flatMap fun x => rf ns n (row ++ [.b x]) (x :: st)).length ≤ l.length * (ns.length + 1) ^ n := by
      intro l
      induction l with
      | nil => simp
      | cons x l ih =>
        rw [List.flatMap_cons, List.length_append, List.length_cons, Nat.succ_mul]
        have := rf_few ns n (row ++ [.b x]) (x :: st)
        omega
    have h2 := h1 (ns.filter fun x => decide (It.b x ∉ row))
    have h3 : (ns.filter fun x => decide (It.b x ∉ row)).length ≤ ns.length := List.length_filter_le _ _
    have h4 : (ns.filter fun x => decide (It.b x ∉ row)).length * (ns.length + 1) ^ n ≤ ns.length * (ns.length + 1) ^ n := Nat.mul_le_mul_right _ h3
    show (((ns.filter fun x => decide (It.b x ∉ row)).flatMap fun x => rf ns n (row ++ [.b x]) (x :: st)) ++ _).length ≤ _
    rw [List.length_append, Nat.pow_succ]
    have h5 : (match st with | [] => ([] : List (Row N)) | x :: st' => rf ns n (row ++ [It.e x]) st').length ≤ (ns.length + 1) ^ n := by
      cases st with
      | nil => exact Nat.zero_le _
      | cons x st => exact rf_few ns n _ _
    have h6 : (ns.length + 1) ^ n * (ns.length + 1) = ns.length * (ns.length + 1) ^ n + (ns.length + 1) ^ n := by
      rw [Nat.mul_add, Nat.mul_one, Nat.mul_comm]
    omega
end
end TM

/-! M4: roles; what is lost; a found pair; a turn ahead. Plain Lean. -/
namespace TM
section
variable {N : Type} [DecidableEq N]
/-! ### roles -/
def occ (d : Deed N) : List (N × Bool) := (d.x, decide (d.w = .put)) :: if d.w.two = true then [(d.y, decide (d.w = .wrap))] else []
def occs (ds : List (Deed N)) : List (N × Bool) := ds.flatMap occ
def role (l : List (N × Bool)) (x : N) : Option Bool := (l.find? fun p => decide (p.1 = x)).map (·.2)
def Old (ds : List (Deed N)) (x : N) : Prop := role (occs ds) x = some false
def New (ds : List (Deed N)) (x : N) : Prop := role (occs ds) x = some true
def Snm (ds : List (Deed N)) : List N := (occs ds).map (·.1)
theorem role_none {l : List (N × Bool)} {x : N} : role l x = none ↔ x ∉ l.map (·.1) := by
  unfold role
  rw [Option.map_eq_none_iff, List.find?_eq_none]
  constructor
  · intro h q
    obtain ⟨p, hp, e⟩ := List.mem_map.mp q
    have := h p hp
    simp at this
    exact this e
  · intro h p hp q
    exact h (List.mem_map.mpr ⟨p, hp, of_decide_eq_true q⟩)
theorem role_app (l m : List (N × Bool)) (x : N) : role (l ++ m) x = (role l x).or (role m x) := by
  unfold role
  rw [List.find?_append]
  cases List.find? (fun p => decide (p.1 = x)) l <;> rfl
theorem snm_or {ds : List (Deed N)} {x : N} : x ∈ Snm ds ↔ Old ds x ∨ New ds x := by
  unfold Old New Snm
  cases h : role (occs ds) x with
  | none => simp [role_none.mp h]
  | some b =>
    have : x ∈ (occs ds).map (·.1) := Classical.byContradiction fun q => by
      rw [role_none.mpr q] at h
      cases h
    cases b <;> simp [this]
theorem not_both {ds : List (Deed N)} {x : N} (h : Old ds x) (h' : New ds x) : False := by
  unfold Old at h
  unfold New at h'
  rw [h] at h'
  cases h'
theorem occ_names {d : Deed N} : (occ d).map (·.1) = d.names := by
  unfold occ Deed.names
  split <;> rfl
theorem names_sub {ds : List (Deed N)} {d : Deed N} (h : d ∈ ds) : ∀ x ∈ d.names, x ∈ Snm ds := fun x hx => by
  rw [← occ_names] at hx
  obtain ⟨p, hp, e⟩ := List.mem_map.mp hx
  exact List.mem_map.mpr ⟨p, List.mem_flatMap.mpr ⟨d, h, hp⟩, e⟩

/-! ### what stands behind the deeds -/
theorem doneAll_off : ∀ (ds : List (Deed N)) (i j : Nat) (r t : Row N), doneAll i r ds = .does t → doneAll j r ds = .does t
  | [], i, j, r, t, h => h
  | d :: ds, i, j, r, t, h => by
    unfold doneAll at h ⊢
    cases hs : stop r d with
    | some w => rw [hs] at h; cases h
    | none =>
      rw [hs] at h
      exact doneAll_off ds _ _ _ _ h
theorem doneAll_good : ∀ (ds : List (Deed N)) (i : Nat) (r t : Row N), Good r → doneAll i r ds = .does t → Good t
  | [], i, r, t, g, h => by
    injection h with h
    rw [← h]
    exact g
  | d :: ds, i, r, t, g, h => by
    unfold doneAll at h
    cases hs : stop r d with
    | some w => rw [hs] at h; cases h
    | none =>
      rw [hs] at h
      exact doneAll_good ds _ _ _ (done_good g hs) h
theorem doneAll_gap : ∀ (ds : List (Deed N)) (i : Nat) (r t : Row N) {k : Nat}, doneAll i r ds = .does t → It.g k ∈ t → It.g k ∈ r
  | [], i, r, t, k, h, hk => by
    injection h with h
    rw [h]
    exact hk
  | d :: ds, i, r, t, k, h, hk => by
    unfold doneAll at h
    cases hs : stop r d with
    | some w => rw [hs] at h; cases h
    | none =>
      rw [hs] at h
      exact done_gap (doneAll_gap ds _ _ _ h hk)
theorem doneAll_end : ∀ (ds : List (Deed N)) (i : Nat) (r t : Row N) {b : Bool} {z : N}, doneAll i r ds = .does t → It.n b z ∈ t → It.n b z ∈ r ∨ z ∈ Snm ds
  | [], i, r, t, b, z, h, hk => by
    injection h with h
    rw [h]
    exact .inl hk
  | d :: ds, i, r, t, b, z, h, hk => by
    unfold doneAll at h
    cases hs : stop r d with
    | some w => rw [hs] at h; cases h
    | none =>
      rw [hs] at h
      have sub : ∀ x ∈ Snm ds, x ∈ Snm (d :: ds) := fun x hx => by
        unfold Snm occs at hx ⊢
        rw [List.flatMap_cons, List.map_append]
        exact List.mem_append_right _ hx
      rcases doneAll_end ds _ _ _ h hk with q | q
      · rcases done_end q with w | w
        · exact .inl w
        · exact .inr (names_sub List.mem_cons_self _ w)
      · exact .inr (sub _ q)
theorem doneAll_app : ∀ (ds es : List (Deed N)) (i : Nat) (r t : Row N), doneAll i r ds = .does t → ∀ q, doneAll i r (ds ++ es) = .does q ↔ doneAll i t es = .does q
  | [], es, i, r, t, h, q => by
    injection h with h
    rw [h]
    rfl
  | d :: ds, es, i, r, t, h, q => by
    show doneAll i r (d :: (ds ++ es)) = .does q ↔ _
    unfold doneAll at h
    cases hs : stop r d with
    | some w => rw [hs] at h; cases h
    | none =>
      rw [hs] at h
      have e : doneAll i r (d :: (ds ++ es)) = doneAll (i + 1) (done r d) (ds ++ es) := by
        show (match stop r d with | some w => Res.stops i w | none => doneAll (i + 1) (done r d) (ds ++ es)) = _
        rw [hs]
      rw [e, doneAll_app ds es _ _ t h q]
      exact ⟨doneAll_off es _ _ _ _, doneAll_off es _ _ _ _⟩

/-! ### lost -/
def tpl (ds : List (Deed N)) (s : Row N) : Res N := doneAll 0 (wg 0 s) ds
def named (t : Row N) : Row N := t.filter fun z => !z.isG
structure Fits (ds : List (Deed N)) (r : Row N) : Prop where
  good : Good r
  whole : Whole r
  old : ∀ x, Old ds x → It.b x ∈ r
  new : ∀ x, New ds x → It.b x ∉ r
def Coll (ns : List N) (ds : List (Deed N)) : Prop := ∃ s s' t t', RowOf ns s ∧ RowOf ns s' ∧ s ≠ s' ∧ tpl ds s = .does t ∧ tpl ds s' = .does t' ∧ named t = named t'
def Gone (ns : List N) (ds : List (Deed N)) : Prop := ∃ s t, RowOf ns s ∧ tpl ds s = .does t ∧ ∃ k, k ≤ s.length ∧ It.g k ∉ t
def Beside (ns : List N) (ds : List (Deed N)) : Prop := ∃ s t, RowOf ns s ∧ tpl ds s = .does t ∧ ¬ Loose t
/-- the names of ns are the old ones -/
def OldIs (ns : List N) (ds : List (Deed N)) : Prop := ns.Nodup ∧ ∀ x, x ∈ ns ↔ Old ds x
theorem fits_skel {ns : List N} {ds : List (Deed N)} {r : Row N} (ho : OldIs ns ds) (h : Fits ds r) : RowOf ns (skel (Snm ds) r) := by
  refine ⟨skel_good h.good, skel_whole _ _, fun x => ?_⟩
  rw [skel_mem, ho.2 x]
  constructor
  · rintro ⟨h1, h2⟩
    rcases snm_or.mp h2 with q | q
    · exact q
    · exact absurd h1 (h.new x q)
  · intro q
    exact ⟨h.old x q, snm_or.mpr (.inl q)⟩
theorem fillS_ds {ds : List (Deed N)} {f : Nat → Row N} (h : ∀ k, Far (Snm ds) (f k)) : ∀ d ∈ ds, FillS (ff f) d.names := fun d hd => (fillS_of h).sub (names_sub hd)
/-- the deeds on a filled row -/
theorem does_fil {ds : List (Deed N)} {f : Nat → Row N} (h : ∀ k, Far (Snm ds) (f k)) (r : Row N) : doneAll 0 (fil f r) ds = fillRes (ff f) (doneAll 0 r ds) := doneAll_fill ds 0 r (fillS_ds h)
theorem ends_in {ns : List N} {ds : List (Deed N)} (ho : OldIs ns ds) {s t : Row N} (hs : RowOf ns s) (h : tpl ds s = .does t) : EndsIn (Snm ds) t := fun b x hx => by
  rcases doneAll_end ds _ _ _ h hx with q | q
  · have q := (wg_end s 0 b x).mp q
    have hb : It.b x ∈ s := by
      cases b
      · exact end_begin s hs.good.bal q (by simp)
      · exact q
    exact snm_or.mpr (.inl ((ho.2 x).mp ((hs.nm x).mp hb)))
  · exact q
/-- nothing lost: two woods that fit and come out alike are alike -/
theorem lossless {ns : List N} {ds : List (Deed N)} (ho : OldIs ns ds) (h1 : ¬ Coll ns ds) (h2 : ¬ Gone ns ds) (h3 : ¬ Beside ns ds) {r r' q : Row N} (hr : Fits ds r) (hr' : Fits ds r') (hd : doneAll 0 r ds = .does q) (hd' : doneAll 0 r' ds = .does q) : r = r' := by
  obtain ⟨f, hf, e⟩ := skel_fil (Snm ds) r 0 hr.whole
  obtain ⟨f', hf', e'⟩ := skel_fil (Snm ds) r' 0 hr'.whole
  have hs := fits_skel ho hr
  have hs' := fits_skel ho hr'
  generalize skel (Snm ds) r = s at e hs
  generalize skel (Snm ds) r' = s' at e' hs'
  rw [← e, does_fil hf] at hd
  rw [← e', does_fil hf'] at hd'
  cases ht : doneAll 0 (wg 0 s) ds with
  | stops i w => rw [ht] at hd; cases hd
  | does t =>
    cases ht' : doneAll 0 (wg 0 s') ds with
    | stops i w => rw [ht'] at hd'; cases hd'
    | does t' =>
      rw [ht] at hd
      rw [ht'] at hd'
      have hd : Res.does (fil f t) = .does q := hd
      have hd' : Res.does (fil f' t') = .does q := hd'
      injection hd with hd
      injection hd' with hd'
      have n1 := fil_skel hf t (ends_in ho hs ht)
      have n2 := fil_skel hf' t' (ends_in ho hs' ht')
      rw [hd] at n1
      rw [hd'] at n2
      have es : s = s' := Classical.byContradiction fun hne => h1 ⟨s, s', t, t', hs, hs', hne, ht, ht', n1.symm.trans n2⟩
      subst es
      rw [ht] at ht'
      injection ht' with et
      subst et
      have hl : Loose t := Classical.byContradiction fun hn => h3 ⟨s, t, hs, ht, hn⟩
      have hk := fil_inj hf hf' t (ends_in ho hs ht) hl (hd.trans hd'.symm)
      rw [← e, ← e']
      refine fil_congr _ fun k hg => hk k ?_
      exact Classical.byContradiction fun hn => h2 ⟨s, t, hs, ht, k, by have := (wg_gap s 0 hs.whole k).mp hg; omega, hn⟩
/-- two rows, unlike, that come out alike -/
structure Pair (ds : List (Deed N)) (r r' : Row N) : Prop where
  good : Good r
  good' : Good r'
  whole : Whole r
  whole' : Whole r'
  ne : r ≠ r'
  same : ∃ q, doneAll 0 r ds = .does q ∧ doneAll 0 r' ds = .does q
theorem far_none {S : List N} : ∀ k : Nat, Far S ((fun _ => []) k : Row N) := fun _ => far_nil S
theorem does_skel {ns : List N} {ds : List (Deed N)} {s t : Row N} (hs : RowOf ns s) (h : tpl ds s = .does t) : doneAll 0 s ds = .does (named t) := by
  have e := does_fil (ds := ds) (f := fun _ => []) far_none (wg 0 s)
  rw [fil_none s 0 hs.whole] at e
  have h : doneAll 0 (wg 0 s) ds = .does t := h
  rw [e, h]
  show Res.does (fil (fun _ => []) t) = _
  rw [fil_none_filter]
  rfl
theorem coll_pair {ns : List N} {ds : List (Deed N)} {s s' t t' : Row N} (hs : RowOf ns s) (hs' : RowOf ns s') (hne : s ≠ s') (h : tpl ds s = .does t) (h' : tpl ds s' = .does t') (he : named t = named t') : Pair ds s s' :=
  ⟨hs.good, hs'.good, hs.whole, hs'.whole, hne, named t, does_skel hs h, by rw [he]; exact does_skel hs' h'⟩
/-- a leaf in a row -/
def lf (x : N) : Row N := [.b x, .e x]
theorem far_at1 {S : List N} {x : N} (hx : x ∉ S) (k : Nat) : ∀ j, Far S (at1 k (lf x) j) := fun j => by
  unfold at1
  split
  · intro z hz
    simp only [lf, List.mem_cons, List.not_mem_nil, or_false] at hz
    rcases hz with q | q
    · exact ⟨true, x, q, hx⟩
    · exact ⟨false, x, q, hx⟩
  · exact far_nil S
theorem lf_good {r : Row N} (g : Good r) {x : N} (hx : It.b x ∉ r) (k : Nat) : Good (ins r k (lf x)) := by
  have he : It.e x ∉ r := fun q => hx (end_begin r g.bal q (by simp))
  refine ⟨ins_bal (z := lf x) (by have := bal_wrap bal_nil x; simpa [lf] using this) g.bal _, (ins_perm _ _ _).nodup_iff.mpr ?_⟩
  show (It.b x :: It.e x :: r).Nodup
  refine List.nodup_cons.mpr ⟨fun q => ?_, List.nodup_cons.mpr ⟨he, g.nd⟩⟩
  rcases List.mem_cons.mp q with q | q
  · exact be_ne _ _ q
  · exact hx q
theorem lf_whole {r : Row N} (w : Whole r) (x : N) (k : Nat) : Whole (ins r k (lf x)) := fun z hz => by
  rcases mem_ins.mp hz with q | q
  · simp only [lf, List.mem_cons, List.not_mem_nil, or_false] at q
    rcases q with q | q <;> rw [q] <;> rfl
  · exact w z q
theorem row_far {ns : List N} {ds : List (Deed N)} (ho : OldIs ns ds) {s : Row N} (hs : RowOf ns s) {x : N} (hx : x ∉ Snm ds) : It.b x ∉ s := fun q => hx (snm_or.mpr (.inl ((ho.2 x).mp ((hs.nm x).mp q))))
theorem leaf_does {ns : List N} {ds : List (Deed N)} {s t : Row N} (hs : RowOf ns s) (h : tpl ds s = .does t) {x : N} (hx : x ∉ Snm ds) {k : Nat} (hk : k ≤ s.length) : doneAll 0 (ins s k (lf x)) ds = .does (fil (at1 k (lf x)) t) := by
  have e := does_fil (ds := ds) (far_at1 hx k) (wg 0 s)
  rw [fil_at1 s 0 k (lf x) hs.whole (Nat.zero_le _) (by omega), Nat.sub_zero] at e
  have h : doneAll 0 (wg 0 s) ds = .does t := h
  rw [e, h]
  rfl
theorem fil_off {k : Nat} {z : Row N} : ∀ t : Row N, It.g k ∉ t → fil (at1 k z) t = named t := fun t h => by
  rw [fil_congr (f := at1 k z) (f' := fun _ => []) t fun j hj => by
    have hn : ¬ j = k := fun e => h (by rw [← e]; exact hj)
    unfold at1
    rw [if_neg hn], fil_none_filter]
  rfl
theorem gone_pair {ns : List N} {ds : List (Deed N)} (ho : OldIs ns ds) {s t : Row N} (hs : RowOf ns s) (h : tpl ds s = .does t) {k : Nat} (hk : k ≤ s.length) (hn : It.g k ∉ t) {x : N} (hx : x ∉ Snm ds) : Pair ds s (ins s k (lf x)) := by
  have hb := row_far ho hs hx
  refine ⟨hs.good, lf_good hs.good hb k, hs.whole, lf_whole hs.whole x k, fun e => hb ?_, named t, does_skel hs h, ?_⟩
  · rw [e]
    exact mem_ins.mpr (.inl (by simp [lf]))
  · rw [leaf_does hs h hx hk, fil_off t hn]
theorem ix_ins {s : Row N} {x : N} (hb : It.b x ∉ s) {k : Nat} (hk : k ≤ s.length) : ix (.b x) (ins s k (lf x)) = k := by
  unfold ins
  have e : s.take k ++ lf x ++ s.drop k = s.take k ++ .b x :: (.e x :: s.drop k) := by simp [lf]
  rw [e, ix_out fun q => hb (List.mem_of_mem_take q), List.length_take]
  omega
theorem not_loose : ∀ {t : Row N}, ¬ Loose t → ∃ u a c v, t = u ++ .g a :: .g c :: v
  | [], h => absurd trivial h
  | .g a :: .g c :: v, _ => ⟨[], a, c, v, rfl⟩
  | .n b x :: r, h => by
    obtain ⟨u, a, c, v, e⟩ := not_loose (t := r) h
    exact ⟨.n b x :: u, a, c, v, by rw [e]; rfl⟩
  | [.g a], h => absurd trivial h
  | .g a :: .n b x :: r, h => by
    obtain ⟨u, a', c, v, e⟩ := not_loose (t := r) h
    exact ⟨.g a :: .n b x :: u, a', c, v, by rw [e]; rfl⟩
theorem loose_not : ∀ {u v : Row N} {a c : Nat}, ¬ Loose (u ++ .g a :: .g c :: v)
  | [], v, a, c, h => h
  | z :: u, v, a, c, h => loose_not (u := u) (loose_tail h)
theorem beside_pair {ns : List N} {ds : List (Deed N)} (ho : OldIs ns ds) {s u v : Row N} {a c : Nat} (hs : RowOf ns s) (h : tpl ds s = .does (u ++ .g a :: .g c :: v)) {x : N} (hx : x ∉ Snm ds) : a ≤ s.length ∧ c ≤ s.length ∧ Pair ds (ins s a (lf x)) (ins s c (lf x)) := by
  have gd := doneAll_good ds _ _ _ (wg_good hs.good hs.whole) h
  have ha : a ≤ s.length := by
    have := (wg_gap s 0 hs.whole a).mp (doneAll_gap ds _ _ _ h (by simp))
    omega
  have hc : c ≤ s.length := by
    have := (wg_gap s 0 hs.whole c).mp (doneAll_gap ds _ _ _ h (by simp))
    omega
  have nd := gd.nd
  have n1 := nd_split nd
  have e2 : u ++ .g a :: .g c :: v = (u ++ [It.g a]) ++ .g c :: v := by simp
  rw [e2] at nd
  have n2 := nd_split nd
  have hac : a ≠ c := fun q => n2.1 (by rw [q]; simp)
  have hb := row_far ho hs hx
  have key : ∀ j, (j = a ∨ j = c) → fil (at1 j (lf x)) (u ++ .g a :: .g c :: v) = named u ++ lf x ++ named v := by
    rintro j (rfl | rfl)
    · have hv : It.g (N := N) j ∉ v := fun q => n1.2 (List.mem_cons_of_mem _ q)
      rw [fil_app, fil_g, fil_g, fil_off u n1.1, fil_off v hv]
      unfold at1
      rw [if_pos rfl, if_neg hac.symm]
      simp
    · have hu : It.g (N := N) j ∉ u := fun q => n2.1 (List.mem_append_left _ q)
      rw [fil_app, fil_g, fil_g, fil_off u hu, fil_off v n2.2]
      unfold at1
      rw [if_pos rfl, if_neg hac]
      simp
  refine ⟨ha, hc, lf_good hs.good hb a, lf_good hs.good hb c, lf_whole hs.whole x a, lf_whole hs.whole x c, fun e => hac ?_, _, leaf_does hs h hx ha, ?_⟩
  · rw [← ix_ins hb ha, e, ix_ins hb hc]
  · rw [leaf_does hs h hx hc, key a (.inl rfl), key c (.inr rfl)]
/-- what loses may answer -/
def LoseOut (ns : List N) (ds : List (Deed N)) : Option (Row N × Row N) → Prop
  | none => ¬ Coll ns ds ∧ ¬ Gone ns ds ∧ ¬ Beside ns ds
  | some (a, b) => Pair ds a b ∧ ((Coll ns ds ∧ a.length + b.length = 4 * ns.length) ∨ (¬ Coll ns ds ∧ Gone ns ds ∧ a.length + b.length = 4 * ns.length + 2) ∨ (¬ Coll ns ds ∧ ¬ Gone ns ds ∧ Beside ns ds ∧ a.length + b.length = 4 * ns.length + 4))
/-- what is found stands against woods of a longer script too -/
theorem found_loses {ns : List N} {ds es : List (Deed N)} (ho : OldIs ns (ds ++ es)) {r r' : Row N} (p : Pair ds r r') (h : Fits (ds ++ es) r) (h' : Fits (ds ++ es) r') {q : Row N} (hd : doneAll 0 r (ds ++ es) = .does q) {o : Option (Row N × Row N)} (lo : LoseOut ns (ds ++ es) o) : o ≠ none := by
  intro e
  subst e
  obtain ⟨h1, h2, h3⟩ := lo
  obtain ⟨t, d1, d2⟩ := p.same
  have a1 := (doneAll_app ds es 0 r t d1 q).mp hd
  have a2 := (doneAll_app ds es 0 r' t d2 q).mpr a1
  exact p.ne (lossless ho h1 h2 h3 h h' hd a2)

/-! ### a turn ahead -/
theorem ren_ren (x y z : N) : ren x y (ren x y z) = z := by
  unfold ren
  by_cases h1 : z = x
  · subst h1
    rw [if_pos rfl]
    by_cases h2 : y = z
    · rw [if_pos h2, h2]
    · rw [if_neg h2, if_pos rfl]
  · rw [if_neg h1]
    by_cases h2 : z = y
    · rw [if_pos h2, if_pos rfl, h2]
    · rw [if_neg h2, if_neg h1, if_neg h2]
theorem renI_renI (x y : N) (z : It N) : renI x y (renI x y z) = z := by
  cases z with
  | g k => rfl
  | n b u =>
    show It.n b (ren x y (ren x y u)) = _
    rw [ren_ren]
theorem turned_turned (s : Row N) (x y : N) : turned (turned s x y) x y = s := by
  unfold turned
  rw [List.map_map]
  calc s.map (renI x y ∘ renI x y) = s.map id := List.map_congr_left fun z _ => renI_renI x y z
    _ = s := List.map_id _
theorem wg_turned (x y : N) : ∀ (s : Row N) (i : Nat), turned (wg i s) x y = wg i (turned s x y)
  | [], i => rfl
  | z :: s, i => by
    show .g i :: renI x y z :: turned (wg (i + 1) s) x y = _
    rw [wg_turned x y s (i + 1)]
    rfl
theorem turned_row {ns : List N} {s : Row N} (h : RowOf ns s) {x y : N} (hx : x ∈ ns) (hy : y ∈ ns) : RowOf ns (turned s x y) := by
  have im : ∀ z, z ∈ ns → ren x y z ∈ ns := fun z hz => by
    unfold ren
    split
    · exact hy
    · split
      · exact hx
      · exact hz
  refine ⟨turned_good h.good x y, fun z hz => ?_, fun z => ⟨fun q => ?_, fun q => ?_⟩⟩
  · obtain ⟨u, hu, e⟩ := List.mem_map.mp hz
    have := h.whole u hu
    cases u with
    | g k => cases this
    | n b v => rw [← e]; rfl
  · obtain ⟨u, hu, e⟩ := List.mem_map.mp q
    cases u with
    | g k => cases e
    | n b v =>
      have e : It.n b (ren x y v) = .n true z := e
      injection e with e1 e2
      rw [e1] at hu
      rw [← e2]
      exact im v ((h.nm v).mp hu)
  · refine List.mem_map.mpr ⟨.b (ren x y z), (h.nm _).mpr (im z q), ?_⟩
    show It.n true (ren x y (ren x y z)) = _
    rw [ren_ren]
theorem tpl_turn {ns : List N} {ds : List (Deed N)} {s t : Row N} (h : RowOf ns s) {x y : N} (hx : x ∈ ns) (hy : y ∈ ns) : tpl (⟨.turn, x, y⟩ :: ds) s = .does t ↔ tpl ds (turned s x y) = .does t := by
  have hb : ∀ z ∈ ns, there (wg 0 s) z = true := fun z hz => decide_eq_true ((wg_end s 0 true z).mpr ((h.nm z).mpr hz))
  have hs : stop (wg 0 s) (⟨.turn, x, y⟩ : Deed N) = none := by
    unfold stop
    have e1 : (Deed.old (⟨.turn, x, y⟩ : Deed N)).all (there (wg 0 s)) = true := by
      show [x, y].all (there (wg 0 s)) = true
      simp [hb x hx, hb y hy]
    rw [if_pos e1]
    have e2 : ¬ (Deed.new (⟨.turn, x, y⟩ : Deed N)).any (there (wg 0 s)) = true := by simp [Deed.new]
    rw [if_neg e2]
    simp [W.into]
  unfold tpl
  have e : doneAll 0 (wg 0 s) (⟨.turn, x, y⟩ :: ds) = doneAll 1 (turned (wg 0 s) x y) ds := by
    show (match stop (wg 0 s) (⟨.turn, x, y⟩ : Deed N) with | some w => Res.stops 0 w | none => doneAll (0 + 1) (done (wg 0 s) ⟨.turn, x, y⟩) ds) = _
    rw [hs]
    rfl
  rw [e, wg_turned]
  exact ⟨doneAll_off ds _ _ _ _, doneAll_off ds _ _ _ _⟩
section
variable {ns : List N} {ds : List (Deed N)} {x y : N}
theorem turned_len (s : Row N) : (turned s x y).length = s.length := List.length_map _
theorem coll_turn (hx : x ∈ ns) (hy : y ∈ ns) : Coll ns (⟨.turn, x, y⟩ :: ds) ↔ Coll ns ds := by
  constructor
  · rintro ⟨s, s', t, t', h1, h2, h3, h4, h5, h6⟩
    exact ⟨turned s x y, turned s' x y, t, t', turned_row h1 hx hy, turned_row h2 hx hy, fun e => h3 (by rw [← turned_turned s x y, e, turned_turned]), (tpl_turn h1 hx hy).mp h4, (tpl_turn h2 hx hy).mp h5, h6⟩
  · rintro ⟨s, s', t, t', h1, h2, h3, h4, h5, h6⟩
    refine ⟨turned s x y, turned s' x y, t, t', turned_row h1 hx hy, turned_row h2 hx hy, fun e => h3 (by rw [← turned_turned s x y, e, turned_turned]), (tpl_turn (turned_row h1 hx hy) hx hy).mpr ?_, (tpl_turn (turned_row h2 hx hy) hx hy).mpr ?_, h6⟩
    · rw [turned_turned]; exact h4
    · rw [turned_turned]; exact h5
theorem gone_turn (hx : x ∈ ns) (hy : y ∈ ns) : Gone ns (⟨.turn, x, y⟩ :: ds) ↔ Gone ns ds := by
  constructor
  · rintro ⟨s, t, h1, h4, k, hk, h6⟩
    exact ⟨turned s x y, t, turned_row h1 hx hy, (tpl_turn h1 hx hy).mp h4, k, by rw [turned_len]; exact hk, h6⟩
  · rintro ⟨s, t, h1, h4, k, hk, h6⟩
    refine ⟨turned s x y, t, turned_row h1 hx hy, (tpl_turn (turned_row h1 hx hy) hx hy).mpr ?_, k, by rw [turned_len]; exact hk, h6⟩
    rw [turned_turned]; exact h4
theorem beside_turn (hx : x ∈ ns) (hy : y ∈ ns) : Beside ns (⟨.turn, x, y⟩ :: ds) ↔ Beside ns ds := by
  constructor
  · rintro ⟨s, t, h1, h4, h6⟩
    exact ⟨turned s x y, t, turned_row h1 hx hy, (tpl_turn h1 hx hy).mp h4, h6⟩
  · rintro ⟨s, t, h1, h4, h6⟩
    refine ⟨turned s x y, t, turned_row h1 hx hy, (tpl_turn (turned_row h1 hx hy) hx hy).mpr ?_, h6⟩
    rw [turned_turned]; exact h4
/-- rows with other lists of the same names -/
theorem rowOf_congr {ms : List N} (h : ∀ z, z ∈ ns ↔ z ∈ ms) {s : Row N} : RowOf ns s ↔ RowOf ms s := ⟨fun q => ⟨q.good, q.whole, fun z => (q.nm z).trans (h z)⟩, fun q => ⟨q.good, q.whole, fun z => (q.nm z).trans (h z).symm⟩⟩
theorem coll_congr {ms : List N} (h : ∀ z, z ∈ ns ↔ z ∈ ms) : Coll ns ds ↔ Coll ms ds := by
  unfold Coll
  simp only [rowOf_congr h]
theorem gone_congr {ms : List N} (h : ∀ z, z ∈ ns ↔ z ∈ ms) : Gone ns ds ↔ Gone ms ds := by
  unfold Gone
  simp only [rowOf_congr h]
theorem beside_congr {ms : List N} (h : ∀ z, z ∈ ns ↔ z ∈ ms) : Beside ns ds ↔ Beside ms ds := by
  unfold Beside
  simp only [rowOf_congr h]
theorem same_len {ms : List N} (h1 : ns.Nodup) (h2 : ms.Nodup) (h : ∀ z, z ∈ ns ↔ z ∈ ms) : ns.length = ms.length :=
  Nat.le_antisymm (nodup_len ns ms h1 fun z hz => (h z).mp hz) (nodup_len ms ns h2 fun z hz => (h z).mpr hz)
/-- the old names of a script with a turn of old names ahead -/
theorem old_turn (hx : Old ds x) (hy : Old ds y) (z : N) : Old (⟨.turn, x, y⟩ :: ds) z ↔ Old ds z := by
  unfold Old at *
  have e : occs (⟨.turn, x, y⟩ :: ds) = [(x, false), (y, false)] ++ occs ds := rfl
  rw [e, role_app]
  by_cases h1 : x = z
  · subst h1
    have e2 : role [(x, false), (y, false)] x = some false := by simp [role]
    rw [e2, hx]
    rfl
  · by_cases h2 : y = z
    · subst h2
      have e2 : role [(x, false), (y, false)] y = some false := by simp [role, h1]
      rw [e2]
      simp [hy]
    · have e2 : role [(x, false), (y, false)] z = none := by simp [role, h1, h2]
      rw [e2]
      rfl
/-- answers before and behind a turn: of one kind, of one size -/
theorem turn_out {ms : List N} (ho : OldIs ns ds) (ho' : OldIs ms (⟨.turn, x, y⟩ :: ds)) (hx : Old ds x) (hy : Old ds y) {o o' : Option (Row N × Row N)} (h : LoseOut ns ds o) (h' : LoseOut ms (⟨.turn, x, y⟩ :: ds) o') :
    (o = none ↔ o' = none) ∧ ∀ a b c d, o = some (a, b) → o' = some (c, d) → a.length + b.length = c.length + d.length := by
  have hz : ∀ z, z ∈ ns ↔ z ∈ ms := fun z => by rw [ho.2 z, ho'.2 z, old_turn hx hy]
  have xn := (ho.2 x).mpr hx
  have yn := (ho.2 y).mpr hy
  have el := same_len ho.1 ho'.1 hz
  have c1 : Coll ms (⟨.turn, x, y⟩ :: ds) ↔ Coll ns ds := (coll_congr hz).symm.trans (coll_turn xn yn)
  have c2 : Gone ms (⟨.turn, x, y⟩ :: ds) ↔ Gone ns ds := (gone_congr hz).symm.trans (gone_turn xn yn)
  have c3 : Beside ms (⟨.turn, x, y⟩ :: ds) ↔ Beside ns ds := (beside_congr hz).symm.trans (beside_turn xn yn)
  refine ⟨?_, ?_⟩
  · cases o with
    | none =>
      cases o' with
      | none => exact ⟨fun _ => rfl, fun _ => rfl⟩
      | some p =>
        obtain ⟨c, d⟩ := p
        obtain ⟨n1, n2, n3⟩ := h
        obtain ⟨_, q⟩ := h'
        rw [c1, c2, c3] at q
        rcases q with q | q | q
        · exact absurd q.1 n1
        · exact absurd q.2.1 n2
        · exact absurd q.2.2.1 n3
    | some p =>
      cases o' with
      | none =>
        obtain ⟨a, b⟩ := p
        obtain ⟨n1, n2, n3⟩ := h'
        rw [c1] at n1
        rw [c2] at n2
        rw [c3] at n3
        obtain ⟨_, q⟩ := h
        rcases q with q | q | q
        · exact absurd q.1 n1
        · exact absurd q.2.1 n2
        · exact absurd q.2.2.1 n3
      | some p' => exact ⟨fun e => (by cases e), fun e => (by cases e)⟩
  · rintro a b c d rfl rfl
    obtain ⟨_, q⟩ := h
    obtain ⟨_, q'⟩ := h'
    rw [c1, c2, c3] at q'
    rcases q with q | q | q <;> rcases q' with q' | q' | q'
    · omega
    · exact absurd q.1 q'.1
    · exact absurd q.1 q'.1
    · exact absurd q'.1 q.1
    · omega
    · exact absurd q.2.1 q'.2.1
    · exact absurd q'.1 q.1
    · exact absurd q'.2.1 q.2.1
    · omega
end
end
end TM

/-! P0: rows as data; loops and comprehensions in plain data. -/
namespace CL
open PySem PySem.Spec PyProof.Rows L2 TM

abbrev RowS := TM.Row Str
def eD : It Str → D
  | .n true x => .str ("+" ++ x)
  | .n false x => .str ("-" ++ x)
  | .g k => .int (k : Nat)
def rowD (r : RowS) : D := .tup (r.map eD)
def NmOk (x : Str) : Prop := 1 ≤ x.length ∧ x.length ≤ 100
theorem app_inj {a x y : Str} (h : a ++ x = a ++ y) : x = y := by
  have h1 := congrArg Str.cps h
  have e : ∀ z : Str, (a ++ z).cps = a.cps ++ z.cps := fun z => rfl
  rw [e, e] at h1
  have h2 := congrArg Array.toList h1
  rw [Array.toList_append, Array.toList_append] at h2
  have h3 := List.append_cancel_left h2
  cases x; cases y
  simp only at h3
  rw [Array.toList_inj.mp h3]
theorem head_ne (x y : Str) : ("+" : Str) ++ x ≠ ("-" : Str) ++ y := fun h => by
  have h1 := congrArg (fun z : Str => z.cps.toList.head?) h
  have e : ∀ a z : Str, (a ++ z).cps = a.cps ++ z.cps := fun a z => rfl
  simp only [e, Array.toList_append] at h1
  have p : ("+" : Str).cps.toList = [43] := by decide +kernel
  have m : ("-" : Str).cps.toList = [45] := by decide +kernel
  rw [p, m] at h1
  simp at h1
theorem eD_inj {a b : It Str} (h : eD a = eD b) : a = b := by
  cases a with
  | n c x =>
    cases b with
    | n d y =>
      cases c <;> cases d <;> simp only [eD] at h <;> injection h with h
      · rw [app_inj h]
      · exact absurd h.symm (head_ne _ _)
      · exact absurd h (head_ne _ _)
      · rw [app_inj h]
    | g k => cases c <;> cases h
  | g k =>
    cases b with
    | n d y => cases d <;> cases h
    | g j =>
      injection h with h
      have : k = j := by omega
      rw [this]
theorem flat_eD (a : It Str) : flatD (eD a) = true := by
  cases a with
  | n c x => cases c <;> rfl
  | g k => rfl
theorem flat_row (r : RowS) : (r.map eD).all flatD = true := by
  rw [List.all_map]
  exact List.all_eq_true.mpr fun z _ => flat_eD z
theorem eqF_eq {a b : D} (ha : flatD a = true) (hb : flatD b = true) : eqF a b = true ↔ a = b := by
  cases a <;> cases ha <;> cases b <;> cases hb <;> simp [eqF]
theorem eqF_eD (a b : It Str) : eqF (eD a) (eD b) = decide (a = b) := by
  rw [Bool.eq_iff_iff, eqF_eq (flat_eD a) (flat_eD b), decide_eq_true_eq]
  exact ⟨eD_inj, fun h => by rw [h]⟩
theorem mem_row (a : It Str) (r : RowS) : memF (eD a) (r.map eD) = decide (a ∈ r) := by
  unfold memF
  induction r with
  | nil => rfl
  | cons z r ih =>
    rw [List.map_cons, List.any_cons, ih, eqF_eD, Bool.eq_iff_iff, Bool.or_eq_true, decide_eq_true_eq, decide_eq_true_eq, decide_eq_true_eq, List.mem_cons]
    exact ⟨fun q => q.imp Eq.symm id, fun q => q.imp Eq.symm id⟩
theorem idx_row : ∀ {a : It Str} {r : RowS}, a ∈ r → idxF (eD a) (r.map eD) = some (ix a r)
  | a, z :: r, h => by
    unfold idxF
    rw [List.map_cons, List.findIdx?_cons, eqF_eD]
    by_cases e : z = a
    · simp [e, ix]
    · have h' : a ∈ r := by
        rcases List.mem_cons.mp h with q | q
        · exact absurd q.symm e
        · exact q
      have ih := idx_row h'
      unfold idxF at ih
      rw [ih]
      simp [e, ix]
theorem strs_mem (x : Str) (xs : List Str) : memF (.str x) (xs.map D.str) = decide (x ∈ xs) := by
  unfold memF
  induction xs with
  | nil => rfl
  | cons z xs ih =>
    rw [List.map_cons, List.any_cons, ih, Bool.eq_iff_iff, Bool.or_eq_true, decide_eq_true_eq, decide_eq_true_eq, List.mem_cons]
    show decide (z = x) = true ∨ _ ↔ _
    rw [decide_eq_true_eq]
    exact ⟨fun q => q.imp Eq.symm id, fun q => q.imp Eq.symm id⟩
theorem strs_flat (xs : List Str) : (xs.map D.str).all flatD = true := by
  rw [List.all_map]
  exact List.all_eq_true.mpr fun z _ => rfl

/-! ### slices -/
section
variable {α : Type}
theorem cut_t (xs : List α) (j : Nat) : cutG xs none (some (j : Int)) = xs.take j := by
  unfold cutG
  rw [HT.sIx_none, HT.sIx_nat, List.drop_zero, Nat.sub_zero, Nat.min_comm]
  exact List.take_eq_take_iff.mpr (by omega)
theorem cut_f (xs : List α) (i : Nat) : cutG xs (some (i : Int)) none = xs.drop i := by
  unfold cutG
  rw [HT.sIx_none, HT.sIx_nat]
  by_cases h : i ≤ xs.length
  · rw [Nat.min_eq_left h, List.take_of_length_le (by rw [List.length_drop]; exact Nat.le_refl _)]
  · rw [Nat.min_eq_right (by omega), List.drop_of_length_le (Nat.le_refl _), List.take_nil, List.drop_of_length_le (by omega)]
theorem cut_ft (xs : List α) (i j : Nat) : cutG xs (some (i : Int)) (some (j : Int)) = (xs.take j).drop i := by
  unfold cutG
  rw [HT.sIx_nat, HT.sIx_nat, List.drop_take]
  by_cases h : i ≤ xs.length
  · rw [Nat.min_eq_left h]
    refine List.take_eq_take_iff.mpr ?_
    rw [List.length_drop]
    omega
  · rw [Nat.min_eq_right (a := i) (by omega), List.drop_of_length_le (Nat.le_refl _), List.drop_of_length_le (by omega), List.take_nil, List.take_nil]
theorem cut_n (xs : List α) : cutG xs none none = xs := cut_whole ⟨rfl, rfl⟩
/-- all but the last -/
theorem cut_tn (xs : List α) (h : xs ≠ []) : cutG xs none (some (-1)) = xs.dropLast := by
  unfold cutG
  have p : 0 < xs.length := List.length_pos_iff.mpr h
  have e : HT.sIx xs.length xs.length (some (-1)) = xs.length - 1 := by
    have q : (-1 : Int) < 0 := by decide
    have q2 : HT.sIx xs.length xs.length (some (-1)) = ((-1 : Int) + (xs.length : Int)).toNat := by
      unfold HT.sIx
      dsimp only
      rw [if_pos q]
    rw [q2]
    omega
  rw [HT.sIx_none, e, List.drop_zero, Nat.sub_zero, List.dropLast_eq_take]
end

/-! ### comprehensions and loops -/
theorem gup_free {g : GH} {l a : Addr} {o m : MO} (h : g a = some m) (hl : g l = none) : gupd g l o a = some m := by
  rw [gupd_ne (gne_none h hl)]
  exact h
theorem lc_run {α : Type} {t : CT} {e : CE} {l : Addr} {s : CSt} {chk : GH → Prop} {P : GH → Prop} {g : GH} (tg : α → TgF) (b : α → Bool) (h : α → D) (hchk : ∀ ys, chk (gupd g l (.lst ys))) :
    ∀ (xs : List α) (acc : List D), acc.length + xs.length ≤ 1000000 → (∀ x ∈ xs, ∀ ys (R : Bool → GH → Prop), R (b x) (gupd g l (.lst ys)) → t (tg x s) (gupd g l (.lst ys)) R) →
      (∀ x ∈ xs, b x = true → ∀ ys (R : CQ), R (h x) (gupd g l (.lst ys)) → e (tg x s) (gupd g l (.lst ys)) R) → P (gupd g l (.lst (acc ++ (xs.filter b).map h))) → lcLoop t e l s chk P (xs.map tg) acc (gupd g l (.lst acc))
  | [], acc, _, _, _, p => ⟨hchk acc, by simpa using p⟩
  | x :: xs, acc, hl, ht, he, p => by
    refine ⟨hchk acc, ht x List.mem_cons_self acc _ ?_⟩
    cases hb : b x with
    | false =>
      rw [if_neg Bool.false_ne_true]
      refine lc_run tg b h hchk xs acc (by simp at hl; omega) (fun y hy => ht y (List.mem_cons_of_mem _ hy)) (fun y hy => he y (List.mem_cons_of_mem _ hy)) ?_
      rw [List.filter_cons_of_neg (by rw [hb]; exact Bool.false_ne_true)] at p
      exact p
    | true =>
      rw [if_pos rfl]
      refine he x List.mem_cons_self hb acc _ ⟨gupd_same, by unfold lim; simp at hl; omega, ?_⟩
      rw [gupd_gupd]
      refine lc_run tg b h hchk xs (acc ++ [h x]) (by simp at hl ⊢; omega) (fun y hy => ht y (List.mem_cons_of_mem _ hy)) (fun y hy => he y (List.mem_cons_of_mem _ hy)) ?_
      rw [List.filter_cons_of_pos hb] at p
      simpa using p
theorem onEach_map {α : Type} (j : Nat) (f : α → D) (xs : List α) : onEach j (xs.map f) = xs.map fun x s => s.set j (some (f x)) := by
  unfold onEach
  rw [List.map_map]
  rfl
theorem loop_run {α : Type} {b : CS} {C : CEnds} {chk : GH → Prop} (tg : α → TgF) (I : List α → CSt → GH → Prop)
    (step : ∀ x rest s g (Kk : CSt → GH → Prop), I (x :: rest) s g → (∀ s' g', I rest s' g' → Kk s' g') → chk g ∧ b { C with nx := Kk, ct := Kk, bk := C.nx } (tg x s) g) (fin : ∀ s g, I [] s g → chk g ∧ C.nx s g) :
    ∀ (xs : List α) (s : CSt) (g : GH), I xs s g → cLoop b C chk (xs.map tg) s g
  | [], s, g, h => fin s g h
  | x :: xs, s, g, h => step x xs s g _ h fun s' g' h' => loop_run tg I step fin xs s' g' h'
theorem lim_ok {n : Nat} (h : n ≤ 1000000) : lim n := h
theorem fin_of {Q : CQ} {d : D} {g : GH} (h : Q d g) : Fin Q d g := ⟨g, .refl g, h⟩
theorem fin_new {Q : CQ} {d : D} {g : GH} {l : Addr} {m : MO} (hl : g l = none) (h : Fin Q d g) : Fin Q d (gupd g l m) := by
  obtain ⟨g0, s0, q⟩ := h
  exact ⟨g0, s0.trans (.new hl), q⟩
end CL

/-! P1: what the defs of rows compute (printed from P1.src by pp.py). -/
namespace CL
open PySem PySem.Spec PyProof.Rows L2 TM

/-! ### begin_of, end_of -/
@[irreducible] def sp_begin_of : CSp := fun ds g Q => ∃ x : Str, ds = [.str x] ∧ NmOk x ∧ Q (eD (.b x)) g
@[irreducible] def sp_end_of : CSp := fun ds g Q => ∃ x : Str, ds = [.str x] ∧ NmOk x ∧ Q (eD (.e x)) g
theorem len1 (x : Str) (h : NmOk x) (c : Str) (hc : c.length = 1) : lim (c.length + x.length) := by
  unfold lim NmOk at *
  omega
theorem pu_begin_of : ∀ ds g Q, sp_begin_of ds g Q → c_begin_of  { nx := fun _ g' => Fin Q .non g', rt := Fin Q } (cstart N_begin_of ds) g := by
  intro ds g Q h
  unfold sp_begin_of at h
  obtain ⟨x, rfl, hx, q⟩ := h
  exact ⟨_, rfl, len1 x hx _ (by decide +kernel), fin_of q⟩
theorem pu_end_of : ∀ ds g Q, sp_end_of ds g Q → c_end_of  { nx := fun _ g' => Fin Q .non g', rt := Fin Q } (cstart N_end_of ds) g := by
  intro ds g Q h
  unfold sp_end_of at h
  obtain ⟨x, rfl, hx, q⟩ := h
  exact ⟨_, rfl, len1 x hx _ (by decide +kernel), fin_of q⟩
theorem sp_begin {x : Str} {g : GH} {Q : CQ} (h : NmOk x) (q : Q (eD (.b x)) g) : sp_begin_of [.str x] g Q := by
  unfold sp_begin_of
  exact ⟨x, rfl, h, q⟩
theorem sp_end {x : Str} {g : GH} {Q : CQ} (h : NmOk x) (q : Q (eD (.e x)) g) : sp_end_of [.str x] g Q := by
  unfold sp_end_of
  exact ⟨x, rfl, h, q⟩

/-! ### span -/
def natD (n : Nat) : D := .int (n : Int)
@[irreducible] def sp_span : CSp := fun ds g Q => ∃ (r : RowS) (x : Str), ds = [rowD r, .str x] ∧ NmOk x ∧ It.b x ∈ r ∧ It.e x ∈ r ∧ Q (.tup [natD (ix (.b x) r), natD (ix (.e x) r + 1)]) g
theorem pu_span : ∀ ds g Q, sp_span ds g Q → c_span sp_end_of sp_begin_of { nx := fun _ g' => Fin Q .non g', rt := Fin Q } (cstart N_span ds) g := by
  intro ds g Q h
  unfold sp_span at h
  obtain ⟨r, x, rfl, hx, hb, he, q⟩ := h
  refine ⟨_, rfl, _, rfl, _, rfl, sp_begin hx ?_⟩
  refine ⟨flat_eD _, flat_row r, _, idx_row hb, ?_⟩
  refine ⟨_, rfl, _, rfl, _, rfl, sp_end hx ?_⟩
  refine ⟨flat_eD _, flat_row r, _, idx_row he, ?_⟩
  exact ⟨lim_ok (by simp), fin_of q⟩
theorem e_mem {r : RowS} {x : Str} (G : Good r) (hb : It.b x ∈ r) : It.e x ∈ r := by
  obtain ⟨u, m, w, s, S⟩ := G.span hb
  rw [S.eq]
  simp
theorem spn {r : RowS} {x : Str} {g : GH} {Q : CQ} (h : NmOk x) (G : Good r) (hb : It.b x ∈ r) (q : Q (.tup [natD (ix (.b x) r), natD (ix (.e x) r + 1)]) g) : sp_span [rowD r, .str x] g Q := by
  unfold sp_span
  exact ⟨r, x, rfl, h, hb, e_mem G hb, q⟩

/-! ### is_there, is_within -/
@[irreducible] def sp_is_there : CSp := fun ds g Q => ∃ (r : RowS) (x : Str), ds = [rowD r, .str x] ∧ NmOk x ∧ Q (.bl (there r x)) g
theorem pu_is_there : ∀ ds g Q, sp_is_there ds g Q → c_is_there sp_begin_of { nx := fun _ g' => Fin Q .non g', rt := Fin Q } (cstart N_is_there ds) g := by
  intro ds g Q h
  unfold sp_is_there at h
  obtain ⟨r, x, rfl, hx, q⟩ := h
  refine ⟨_, rfl, sp_begin hx ?_⟩
  refine ⟨_, rfl, flat_eD _, flat_row r, ?_⟩
  show Fin Q (.bl (memF (eD (.b x)) (r.map eD))) g
  rw [mem_row]
  exact fin_of q
theorem sp_there {r : RowS} {x : Str} {g : GH} {Q : CQ} (h : NmOk x) (q : Q (.bl (there r x)) g) : sp_is_there [rowD r, .str x] g Q := by
  unfold sp_is_there
  exact ⟨r, x, rfl, h, q⟩
@[irreducible] def sp_is_within : CSp := fun ds g Q => ∃ (r : RowS) (x y : Str), ds = [rowD r, .str x, .str y] ∧ NmOk x ∧ NmOk y ∧ Good r ∧ It.b y ∈ r ∧ Q (.bl (within r x y)) g
theorem blk_py {r : RowS} {x : Str} (G : Good r) (hb : It.b x ∈ r) : (r.take (ix (.e x) r + 1)).drop (ix (.b x) r) = blk r x := by
  obtain ⟨u, m, w, s, S⟩ := G.span hb
  rw [S.tke1, S.ixb, S.blk, List.drop_left]
theorem cut_row {r : RowS} (i j : Nat) : cutG (r.map eD) (some (i : Int)) (some (j : Int)) = ((r.take j).drop i).map eD := by
  rw [cut_ft, List.map_drop, List.map_take]
theorem cut_rowT {r : RowS} (j : Nat) : cutG (r.map eD) none (some (j : Int)) = (r.take j).map eD := by
  rw [cut_t, List.map_take]
theorem cut_rowF {r : RowS} (i : Nat) : cutG (r.map eD) (some (i : Int)) none = (r.drop i).map eD := by
  rw [cut_f, List.map_drop]
theorem pu_is_within : ∀ ds g Q, sp_is_within ds g Q → c_is_within sp_span sp_begin_of { nx := fun _ g' => Fin Q .non g', rt := Fin Q } (cstart N_is_within ds) g := by
  intro ds g Q h
  unfold sp_is_within at h
  obtain ⟨r, x, y, rfl, hx, hy, G, hb, q⟩ := h
  refine ⟨_, rfl, _, rfl, spn hy G hb ?_⟩
  refine ⟨_, rfl, rfl, ?_⟩
  refine ⟨_, rfl, sp_begin hx ?_⟩
  refine ⟨_, rfl, _, rfl, _, rfl, _, rfl, _, rfl, ?_⟩
  refine ⟨flat_eD _, ?_⟩
  show (cutG (r.map eD) (some ((ix (.b y) r : Nat) : Int)) (some ((ix (.e y) r + 1 : Nat) : Int))).all flatD = true ∧ Fin Q (.bl (memF (eD (.b x)) (cutG (r.map eD) (some ((ix (.b y) r : Nat) : Int)) (some ((ix (.e y) r + 1 : Nat) : Int))))) g
  rw [cut_row, blk_py G hb]
  exact ⟨flat_row _, by rw [mem_row]; exact fin_of q⟩
theorem sp_within {r : RowS} {x y : Str} {g : GH} {Q : CQ} (h : NmOk x) (h' : NmOk y) (G : Good r) (hb : It.b y ∈ r) (q : Q (.bl (within r x y)) g) : sp_is_within [rowD r, .str x, .str y] g Q := by
  unfold sp_is_within
  exact ⟨r, x, y, rfl, h, h', G, hb, q⟩

/-! ### deeds as data -/
def wS : W → Str
  | .first => "first"
  | .last => "last"
  | .ahead => "ahead"
  | .behind => "behind"
  | .front => "front"
  | .back => "back"
  | .swap => "swap"
  | .turn => "turn"
  | .pour => "pour"
  | .put => "put"
  | .wrap => "wrap"
  | .lift => "lift"
  | .cut => "cut"
abbrev DeedS := Deed Str
def deedL (d : DeedS) : List D := .str (wS d.w) :: d.names.map D.str
def deedD (d : DeedS) : D := .tup (deedL d)
def DeedOk (d : DeedS) : Prop := NmOk d.x ∧ NmOk d.y
theorem names_ok {d : DeedS} (h : DeedOk d) : ∀ x ∈ d.names, NmOk x := fun x hx => by
  unfold Deed.names at hx
  split at hx
  · rcases List.mem_cons.mp hx with e | e
    · rw [e]; exact h.1
    · rw [List.mem_singleton.mp e]; exact h.2
  · rw [List.mem_singleton.mp hx]; exact h.1
/-- deed[0] -/
theorem deed0 (d : DeedS) : atI (deedL d) 0 = some (.str (wS d.w)) := by
  unfold deedL Deed.names
  split <;> rfl
theorem deed1 (d : DeedS) : atI (deedL d) 1 = some (.str d.x) := by
  unfold deedL Deed.names
  split <;> rfl
theorem deed2 {d : DeedS} (h : d.w.two = true) : atI (deedL d) 2 = some (.str d.y) := by
  unfold deedL Deed.names
  rw [if_pos h]
  rfl
@[irreducible] def sp_old_of : CSp := fun ds g Q => ∃ d : DeedS, ds = [deedD d] ∧ Q (.tup (d.old.map D.str)) g
@[irreducible] def sp_new_of : CSp := fun ds g Q => ∃ d : DeedS, ds = [deedD d] ∧ Q (.tup (d.new.map D.str)) g
/-- what a test of words asks -/
theorem w_eq (a b : W) : (wS a = wS b) ↔ a = b := by
  constructor
  · cases a <;> cases b <;> first | (intro _; rfl) | (intro h; exact absurd h (by decide +kernel))
  · intro h; rw [h]
theorem te {A B : Prop} {w c : W} (h1 : w = c → A) (h2 : w ≠ c → B) : if (if false = true then !decide (wS w = wS c) else decide (wS w = wS c)) = true then A else B := by
  have e : decide (wS w = wS c) = decide (w = c) := decide_eq_decide.mpr (w_eq w c)
  rw [if_neg Bool.false_ne_true, e]
  by_cases h : w = c
  · rw [if_pos (decide_eq_true h)]; exact h1 h
  · rw [decide_eq_false h, if_neg Bool.false_ne_true]; exact h2 h
theorem pu_old_of : ∀ ds g Q, sp_old_of ds g Q → c_old_of  { nx := fun _ g' => Fin Q .non g', rt := Fin Q } (cstart N_old_of ds) g := by
  intro ds g Q h
  unfold sp_old_of at h
  obtain ⟨d, rfl, q⟩ := h
  refine ⟨_, rfl, _, deed0 d, ?_⟩
  refine ⟨_, rfl, ?_⟩
  refine te (c := .wrap) (fun e => ?_) (fun e => ?_)
  · refine ⟨_, rfl, _, deed1 d, lim_ok (by simp), ?_⟩
    have e2 : d.old = [d.x] := by unfold Deed.old; rw [e]
    rw [e2] at q
    exact fin_of q
  · refine ⟨_, rfl, _, deed0 d, ?_⟩
    refine ⟨_, rfl, ?_⟩
    refine te (c := .put) (fun e' => ?_) (fun e' => ?_)
    · refine ⟨_, rfl, _, deed2 (by rw [e']; rfl), lim_ok (by simp), ?_⟩
      have e2 : d.old = [d.y] := by unfold Deed.old; rw [e']
      rw [e2] at q
      exact fin_of q
    · refine ⟨_, rfl, _, rfl, ?_⟩
      show Fin Q (.tup (cutG (deedL d) (some ((1 : Nat) : Int)) none)) g
      rw [cut_f]
      have e2 : d.old = d.names := by
        unfold Deed.old Deed.names
        cases hw : d.w <;> first | rfl | exact absurd hw e | exact absurd hw e'
      rw [e2] at q
      exact fin_of q
theorem pu_new_of : ∀ ds g Q, sp_new_of ds g Q → c_new_of  { nx := fun _ g' => Fin Q .non g', rt := Fin Q } (cstart N_new_of ds) g := by
  intro ds g Q h
  unfold sp_new_of at h
  obtain ⟨d, rfl, q⟩ := h
  refine ⟨_, rfl, _, deed0 d, ?_⟩
  refine ⟨_, rfl, ?_⟩
  refine te (c := .wrap) (fun e => ?_) (fun e => ?_)
  · refine ⟨_, rfl, _, deed2 (by rw [e]; rfl), lim_ok (by simp), ?_⟩
    have e2 : d.new = [d.y] := by unfold Deed.new; rw [e]
    rw [e2] at q
    exact fin_of q
  · refine ⟨_, rfl, _, deed0 d, ?_⟩
    refine ⟨_, rfl, ?_⟩
    refine te (c := .put) (fun e' => ?_) (fun e' => ?_)
    · refine ⟨_, rfl, _, deed1 d, lim_ok (by simp), ?_⟩
      have e2 : d.new = [d.x] := by unfold Deed.new; rw [e']
      rw [e2] at q
      exact fin_of q
    · have e2 : d.new = [] := by
        unfold Deed.new
        cases hw : d.w <;> first | rfl | exact absurd hw e | exact absurd hw e'
      rw [e2] at q
      exact ⟨lim_ok (by simp), fin_of q⟩
theorem sp_old {d : DeedS} {g : GH} {Q : CQ} (q : Q (.tup (d.old.map D.str)) g) : sp_old_of [deedD d] g Q := by
  unfold sp_old_of
  exact ⟨d, rfl, q⟩
theorem sp_new {d : DeedS} {g : GH} {Q : CQ} (q : Q (.tup (d.new.map D.str)) g) : sp_new_of [deedD d] g Q := by
  unfold sp_new_of
  exact ⟨d, rfl, q⟩

/-! ### stop_of -/
def stS : TM.St → Str
  | .gone => "gone"
  | .taken => "taken"
  | .inside => "inside"
def stopD : Option TM.St → D
  | none => .non
  | some s => .str (stS s)
theorem te2 {A B : Prop} {b : Bool} (h1 : b = true → A) (h2 : b = false → B) : if b = true then A else B := by
  cases b with
  | true => rw [if_pos rfl]; exact h1 rfl
  | false => rw [if_neg Bool.false_ne_true]; exact h2 rfl
theorem all_map_id {α : Type} (p : α → Bool) (l : List α) : (l.map p).all id = l.all p := by
  rw [List.all_map]
  rfl
theorem any_map_id {α : Type} (p : α → Bool) (l : List α) : (l.map p).any id = l.any p := by
  rw [List.any_map]
  rfl
theorem old_few (d : DeedS) : d.old.length ≤ 2 := by
  unfold Deed.old
  cases d.w <;> simp [W.two]
theorem new_few (d : DeedS) : d.new.length ≤ 2 := by
  unfold Deed.new
  cases d.w <;> simp
/-- [is_there(row, name) for name in names] -/
theorem there_list {xs : List Str} {r : RowS} {s : CSt} {j : Nat} {g : GH} {P : GH → Prop} {e : CE} (hj : ∀ x (g' : GH) (R : CQ), NmOk x → R (.bl (there r x)) g' → e (s.set j (some (.str x))) g' R) (hx : ∀ x ∈ xs, NmOk x) (hl : xs.length ≤ 1000) {l : Addr}
    (p : P (gupd g l (.lst ((xs.map (there r)).map D.bl)))) : lcLoop cYes e l s (fun _ => True) P (onEach j (xs.map D.str)) [] (gupd g l (.lst [])) := by
  rw [onEach_map]
  refine lc_run (fun x s => s.set j (some (D.str x))) (fun _ => true) (fun x => D.bl (there r x)) (fun _ => trivial) xs [] (by simp; omega) (fun x _ ys R q => q) (fun x hx' _ ys R q => hj x _ R (hx x hx') q) ?_
  rw [List.filter_eq_self.mpr (fun _ _ => rfl), List.nil_append]
  rw [List.map_map] at p
  exact p
/-! pure evaluation -/
def EvE (e : CE) (s : CSt) (g : GH) (d : D) : Prop := ∀ R : CQ, R d g → e s g R
def EvT (t : CT) (s : CSt) (g : GH) (b : Bool) : Prop := ∀ R : Bool → GH → Prop, R b g → t s g R
def EvA (a : CA) (s : CSt) (g : GH) (ds : List D) : Prop := ∀ R : List D → GH → Prop, R ds g → a s g R
section
variable {s : CSt} {g : GH}
theorem ev_var {i : Nat} {d : D} (h : s[i]? = some (some d) := by rfl) : EvE (cVar i) s g d := fun R q => ⟨d, h, q⟩
theorem ev_c {d : D} : EvE (cC d) s g d := fun R q => q
theorem ev_op {f : CR} {a b : CE} {x y z : D} (ha : EvE a s g x) (hb : EvE b s g y) (h : ∀ R : CQ, R z g → f x y g R) : EvE (cOp f a b) s g z := fun R q => ha _ (hb _ (h R q))
theorem ev_nil : EvA cNil s g [] := fun R q => q
theorem ev_cons {a : CE} {r : CA} {d : D} {ds : List D} (ha : EvE a s g d) (hr : EvA r s g ds) : EvA (cCons a r) s g (d :: ds) := fun R q => ha _ (hr _ q)
theorem ev_call {sp : CSp} {a : CA} {ds : List D} {z : D} (ha : EvA a s g ds) (h : ∀ R : CQ, R z g → sp ds g R) : EvE (cCall sp a) s g z := fun R q => ha _ (h R q)
theorem ev_B {e : CE} {b : Bool} (h : EvE e s g (.bl b)) : EvT (cB e) s g b := fun R q => h _ ⟨b, rfl, q⟩
theorem ev_not {t : CT} {b : Bool} (h : EvT t s g b) : EvT (cNot t) s g (!b) := fun R q => h _ q
theorem ev_and {a b : CT} {x y : Bool} (ha : EvT a s g x) (hb : x = true → EvT b s g y) : EvT (cAnd a b) s g (x && y) := fun R q => ha _ (te2 (fun e => hb e _ (by rw [e] at q; exact q)) fun e => by rw [e] at q; exact q)
theorem ev_or {a b : CT} {x y : Bool} (ha : EvT a s g x) (hb : x = false → EvT b s g y) : EvT (cOr a b) s g (x || y) := fun R q => ha _ (te2 (fun e => by rw [e] at q; exact q) fun e => hb e _ (by rw [e] at q; exact q))
theorem ev_if {t : CT} {a b : CS} {C : CEnds} {v : Bool} (ht : EvT t s g v) (h1 : v = true → a C s g) (h2 : v = false → b C s g) : cIfS t a b C s g := ht _ (te2 h1 h2)
theorem ev_ix {a : CE} {xs : List D} {d : D} {i : Int} {b : CE} (ha : EvE a s g (.tup xs)) (hb : EvE b s g (.int i)) (h : atI xs i = some d) : EvE (cOp fIx a b) s g d := ev_op ha hb fun R q => ⟨d, h, q⟩
theorem ev_eqS {a b : CE} {x y : Str} (ha : EvE a s g (.str x)) (hb : EvE b s g (.str y)) : EvE (cOp (fEq false) a b) s g (.bl (decide (x = y))) := ev_op ha hb fun R q => q
theorem ev_set {i : Nat} {e : CE} {C : CEnds} {d : D} (h : EvE e s g d) (k : C.nx (s.set i (some d)) g) : cSet i e C s g := h _ k
theorem ev_ret {e : CE} {C : CEnds} {d : D} (h : EvE e s g d) (k : C.rt d g) : cRet e C s g := h _ k
theorem ev_tup {a : CA} {ds : List D} (h : EvA a s g ds) (hl : lim ds.length) : EvE (cTup a) s g (.tup ds) := fun R q => h _ ⟨hl, q⟩
theorem ev_inT {neg : Bool} {a b : CE} {x : D} {ys : List D} (ha : EvE a s g x) (hb : EvE b s g (.tup ys)) (fx : flatD x = true) (fy : ys.all flatD = true) : EvE (cOp (fIn neg) a b) s g (.bl (if neg then !memF x ys else memF x ys)) := ev_op ha hb fun R q => ⟨fx, fy, q⟩
end
@[irreducible] def sp_stop_of : CSp := fun ds g Q => ∃ (r : RowS) (d : DeedS), ds = [rowD r, deedD d] ∧ Good r ∧ DeedOk d ∧ Q (stopD (stop r d)) g
theorem w_mem5 (w : W) : memF (.str (wS w)) ([W.first, .last, .ahead, .behind, .pour].map fun v => D.str (wS v)) = w.into := by
  cases w <;> decide +kernel
theorem w_dec (w c : W) : decide (wS w = wS c) = decide (w = c) := decide_eq_decide.mpr (w_eq w c)
theorem pu_stop_of : ∀ ds g Q, sp_stop_of ds g Q → c_stop_of sp_old_of sp_is_there sp_new_of sp_is_within { nx := fun _ g' => Fin Q .non g', rt := Fin Q } (cstart N_stop_of ds) g := by
  intro ds g Q h
  unfold sp_stop_of at h
  obtain ⟨r, d, rfl, G, hd, q⟩ := h
  have hno := names_ok hd
  have fin : ∀ {o : Option TM.St} {g'}, stop r d = o → Sub g g' → Fin Q (stopD o) g' := fun e hs => by
    rw [← e]
    exact ⟨g, hs, q⟩
  refine ⟨_, rfl, sp_old ?_⟩
  refine ⟨_, rfl, fun l hl => ?_⟩
  refine there_list (r := r) (fun x g' R hx q => ⟨_, rfl, _, rfl, sp_there hx q⟩) (fun x hx => hno x (old_names' x hx)) (by have := old_few d; omega) ?_
  refine ⟨_, gupd_same, ?_⟩
  refine ⟨_, rfl, ?_⟩
  rw [all_map_id]
  have s1 : Sub g (gupd g l (.lst ((d.old.map (there r)).map D.bl))) := .new hl
  generalize gupd g l (.lst ((d.old.map (there r)).map D.bl)) = g1 at s1
  refine te2 (fun h1 => ?_) (fun h1 => ?_)
  · have h1 : d.old.all (there r) = false := by simpa using h1
    have e : stop r d = some .gone := by unfold stop; rw [h1, if_neg Bool.false_ne_true]
    exact fin e s1
  have h1 : d.old.all (there r) = true := by simpa using h1
  refine ⟨_, rfl, sp_new ?_⟩
  refine ⟨_, rfl, fun l2 hl2 => ?_⟩
  refine there_list (r := r) (fun x g' R hx q => ⟨_, rfl, _, rfl, sp_there hx q⟩) (fun x hx => hno x (new_names x hx)) (by have := new_few d; omega) ?_
  refine ⟨_, gupd_same, ?_⟩
  refine ⟨_, rfl, ?_⟩
  rw [any_map_id]
  have s2 : Sub g (gupd g1 l2 (.lst ((d.new.map (there r)).map D.bl))) := s1.trans (.new hl2)
  generalize gupd g1 l2 (.lst ((d.new.map (there r)).map D.bl)) = g2 at s2
  refine te2 (fun h2 => ?_) (fun h2 => ?_)
  · have e : stop r d = some .taken := by unfold stop; rw [if_pos h1, if_pos h2]
    exact fin e s2
  have ot : ∀ z ∈ d.old, It.b z ∈ r := fun z hz => of_decide_eq_true (List.all_eq_true.mp h1 z hz)
  have h2' : ¬ (d.new.any (there r) = true) := by rw [h2]; exact Bool.false_ne_true
  refine ev_set (d := .str (wS d.w)) (ev_ix ev_var ev_c (deed0 d)) ?_
  have in5 : ∀ {s : CSt} {g'} {c : CE}, EvE c s g' (.str (wS d.w)) → EvT (cB (cOp (fIn false) c (cTup (cCons (cC (.str "first")) (cCons (cC (.str "last")) (cCons (cC (.str "ahead")) (cCons (cC (.str "behind")) (cCons (cC (.str "pour")) cNil)))))))) s g' d.w.into := fun hc => by
    have h := ev_B (ev_inT (neg := false) (x := .str (wS d.w)) (ys := ([W.first, .last, .ahead, .behind, .pour].map fun v => D.str (wS v))) hc (ev_tup (ev_cons ev_c (ev_cons ev_c (ev_cons ev_c (ev_cons ev_c (ev_cons ev_c ev_nil))))) (lim_ok (by simp))) rfl rfl)
    rw [if_neg Bool.false_ne_true] at h
    rw [← w_mem5 d.w]
    exact h
  have xo : d.w ≠ .put → d.w ≠ .wrap ∨ True → It.b d.x ∈ r := fun hw _ => by
    refine ot d.x ?_
    unfold Deed.old
    cases hd : d.w <;> simp [W.two] <;> exact absurd hd hw
  have yo : d.w.two = true → d.w ≠ .wrap → It.b d.y ∈ r := fun ht hw => by
    refine ot d.y ?_
    unfold Deed.old
    cases hd : d.w <;> rw [hd] at ht <;> simp [W.two] at ht ⊢ <;> exact absurd hd hw
  refine ev_if (v := d.w.into && within r d.y d.x) (ev_and (in5 ev_var) fun hi => ?_) (fun h3 => ?_) (fun h3 => ?_)
  · have ht : d.w.two = true := by revert hi; cases d.w <;> simp [W.into, W.two]
    have hp : d.w ≠ .put := by intro e; rw [e] at hi; cases hi
    exact ev_B (ev_call (ev_cons ev_var (ev_cons (ev_ix ev_var ev_c (deed2 ht)) (ev_cons (ev_ix ev_var ev_c (deed1 d)) ev_nil))) fun R w => sp_within hd.2 hd.1 G (xo hp (.inr trivial)) w)
  · have e : stop r d = some .inside := by unfold stop; rw [if_pos h1, if_neg h2', if_pos h3]
    exact fin e s2
  have h3' : ¬ ((d.w.into && within r d.y d.x) = true) := by rw [h3]; exact Bool.false_ne_true
  have sw : decide (wS d.w = wS .swap) = true → d.w = .swap := fun h => (w_eq _ _).mp (of_decide_eq_true h)
  refine ev_if (v := decide (wS d.w = wS .swap) && (within r d.x d.y || within r d.y d.x)) (ev_and (ev_B (ev_eqS ev_var ev_c)) fun hi => ?_) (fun h4 => ?_) (fun h4 => ?_)
  · have hw := sw hi
    have ht : d.w.two = true := by rw [hw]; rfl
    have hx := xo (by rw [hw]; decide) (.inr trivial)
    have hy := yo ht (by rw [hw]; decide)
    exact ev_or (ev_B (ev_call (ev_cons ev_var (ev_cons (ev_ix ev_var ev_c (deed1 d)) (ev_cons (ev_ix ev_var ev_c (deed2 ht)) ev_nil))) fun R w => sp_within hd.1 hd.2 G hy w))
      fun _ => ev_B (ev_call (ev_cons ev_var (ev_cons (ev_ix ev_var ev_c (deed2 ht)) (ev_cons (ev_ix ev_var ev_c (deed1 d)) ev_nil))) fun R w => sp_within hd.2 hd.1 G hx w)
  · rw [w_dec] at h4
    have e : stop r d = some .inside := by unfold stop; rw [if_pos h1, if_neg h2', if_neg h3', if_pos h4]
    exact fin e s2
  · rw [w_dec] at h4
    have e : stop r d = none := by unfold stop; rw [if_pos h1, if_neg h2', if_neg h3', if_neg (by rw [h4]; exact Bool.false_ne_true)]
    exact fin e s2
theorem sp_stop {r : RowS} {d : DeedS} {g : GH} {Q : CQ} (G : Good r) (hd : DeedOk d) (q : Q (stopD (stop r d)) g) : sp_stop_of [rowD r, deedD d] g Q := by
  unfold sp_stop_of
  exact ⟨r, d, rfl, G, hd, q⟩
end CL

/-! P2: the deeds on rows (printed from P2.src by pp.py). -/
namespace CL
open PySem PySem.Spec PyProof.Rows L2 TM

/-! ### more pure evaluation -/
def EvO (o : CO) (s : CSt) (g : GH) (v : Option Int) : Prop := ∀ R : Option Int → GH → Prop, R v g → o s g R
section
variable {s : CSt} {g : GH}
theorem ev_on : EvO oNone s g none := fun R q => q
theorem ev_os {e : CE} {n : Nat} (h : EvE e s g (natD n)) : EvO (oSome e) s g (some (n : Int)) := fun R q => h _ ⟨_, rfl, q⟩
theorem ev_slT {e : CE} {lo hi : CO} {xs : List D} {a b : Option Int} (he : EvE e s g (.tup xs)) (hl : EvO lo s g a) (hh : EvO hi s g b) : EvE (cSl e lo hi) s g (.tup (cutG xs a b)) := fun R q => he _ (hl _ (hh _ q))
theorem ev_rT {e h : CE} {r : RowS} {j : Nat} (he : EvE e s g (rowD r)) (hh : EvE h s g (natD j)) : EvE (cSl e oNone (oSome h)) s g (rowD (r.take j)) := by
  have q := ev_slT (xs := r.map eD) he ev_on (ev_os hh)
  rw [cut_rowT] at q
  exact q
theorem ev_rF {e h : CE} {r : RowS} {i : Nat} (he : EvE e s g (rowD r)) (hh : EvE h s g (natD i)) : EvE (cSl e (oSome h) oNone) s g (rowD (r.drop i)) := by
  have q := ev_slT (xs := r.map eD) he (ev_os hh) ev_on
  rw [cut_rowF] at q
  exact q
theorem ev_rFT {e h h' : CE} {r : RowS} {i j : Nat} (he : EvE e s g (rowD r)) (hh : EvE h s g (natD i)) (hh' : EvE h' s g (natD j)) : EvE (cSl e (oSome h) (oSome h')) s g (rowD ((r.take j).drop i)) := by
  have q := ev_slT (xs := r.map eD) he (ev_os hh) (ev_os hh')
  rw [cut_row] at q
  exact q
theorem ev_cat {a b : CE} {u v : RowS} (ha : EvE a s g (rowD u)) (hb : EvE b s g (rowD v)) (h : u.length + v.length ≤ 1000000) : EvE (cOp fAdd a b) s g (rowD (u ++ v)) := fun R q => by
  refine ha _ (hb _ ?_)
  refine ⟨by rw [List.length_map, List.length_map]; exact h, ?_⟩
  rw [← List.map_append]
  exact q
theorem ev_idx {o e : CE} {r : RowS} {a : It Str} (ho : EvE o s g (rowD r)) (he : EvE e s g (eD a)) (h : a ∈ r) : EvE (cTIx o e) s g (natD (ix a r)) := fun R q => ho _ ⟨_, rfl, he _ ⟨flat_eD a, flat_row r, _, idx_row h, q⟩⟩
theorem ev_beg {a : CE} {x : Str} (ha : EvE a s g (.str x)) (h : NmOk x) : EvE (cCall sp_begin_of (cCons a cNil)) s g (eD (.b x)) := ev_call (ev_cons ha ev_nil) fun R q => sp_begin h q
theorem ev_end {a : CE} {x : Str} (ha : EvE a s g (.str x)) (h : NmOk x) : EvE (cCall sp_end_of (cCons a cNil)) s g (eD (.e x)) := ev_call (ev_cons ha ev_nil) fun R q => sp_end h q
theorem ev_add1 {a : CE} {n : Nat} (ha : EvE a s g (natD n)) : EvE (cOp fAdd a (cC (.int 1))) s g (natD (n + 1)) := fun R q => ha _ q
theorem ev_sub1 {a : CE} {n : Nat} (ha : EvE a s g (natD (n + 1))) : EvE (cOp fSub a (cC (.int 1))) s g (natD n) := fun R q => ha _ ⟨trivial, by
  have e : ((n + 1 : Nat) : Int) - 1 = (n : Int) := by omega
  show R (.int (((n + 1 : Nat) : Int) - 1)) g
  rw [e]
  exact q⟩
theorem ev_setT {is : List Nat} {e : CE} {C : CEnds} {ds : List D} (h : EvE e s g (.tup ds)) (hl : ds.length = is.length) (k : C.nx (setAll is ds s) g) : cSetT is e C s g := h _ ⟨ds, rfl, hl, k⟩
theorem ev_par {i j : Nat} {a : CA} {C : CEnds} {x y : D} (h : EvA a s g [x, y]) (k : C.nx ((s.set i (some x)).set j (some y)) g) : cPar i j a C s g := h _ ⟨x, y, rfl, k⟩
theorem ev_w {c : CE} {w v : W} (h : EvE c s g (.str (wS w))) : EvT (cB (cOp (fEq false) c (cC (.str (wS v))))) s g (decide (w = v)) := by
  have q := ev_B (ev_eqS h (ev_c (d := .str (wS v))))
  rw [w_dec] at q
  exact q
theorem ev_seq {a b : CS} {C : CEnds} (I : CSt → GH → Prop) (h : ∀ Kk : CSt → GH → Prop, (∀ s' g', I s' g' → Kk s' g') → a { C with nx := Kk } s g) (hk : ∀ s' g', I s' g' → b C s' g') : cSeq a b C s g := h _ hk
theorem ev_span {a b : CE} {r : RowS} {x : Str} (ha : EvE a s g (rowD r)) (hb : EvE b s g (.str x)) (h : NmOk x) (G : Good r) (hx : It.b x ∈ r) : EvE (cCall sp_span (cCons a (cCons b cNil))) s g (.tup [natD (ix (.b x) r), natD (ix (.e x) r + 1)]) := ev_call (ev_cons ha (ev_cons hb ev_nil)) fun R q => spn h G hx q
theorem ev_lenT {a : CE} {xs : List D} (ha : EvE a s g (.tup xs)) : EvE (cCall fLen (cCons a cNil)) s g (natD xs.length) := ev_call (ev_cons ha ev_nil) fun R q => q
theorem ev_lenR {a : CE} {r : RowS} (ha : EvE a s g (rowD r)) : EvE (cCall fLen (cCons a cNil)) s g (natD r.length) := by
  have h := ev_lenT (xs := r.map eD) ha
  rw [List.length_map] at h
  exact h
end
theorem tk_len (r : RowS) (i : Nat) : (r.take i).length ≤ r.length := by rw [List.length_take]; omega
theorem dr_len (r : RowS) (i : Nat) : (r.drop i).length ≤ r.length := by rw [List.length_drop]; omega
theorem e_there {r : RowS} {x : Str} (G : Good r) (h : It.b x ∈ r) : It.e x ∈ r := e_mem G h

/-! ### moved -/
@[irreducible] def sp_moved : CSp := fun ds g Q => ∃ (r : RowS) (d : DeedS), ds = [rowD r, deedD d] ∧ Good r ∧ DeedOk d ∧ d.w.mv = true ∧ stop r d = none ∧ r.length ≤ 10000 ∧ Q (rowD (moved r d)) g
theorem pu_moved : ∀ ds g Q, sp_moved ds g Q → c_moved sp_span sp_begin_of sp_end_of { nx := fun _ g' => Fin Q .non g', rt := Fin Q } (cstart N_moved ds) g := by
  intro ds g Q h
  unfold sp_moved at h
  obtain ⟨r, d, rfl, G, hd, hm, hs, hl, q⟩ := h
  have hx : It.b d.x ∈ r := x_there hs (by intro e; rw [e] at hm; exact absurd hm (by decide))
  have hk1 : (rest r d.x).length ≤ r.length ∧ (blk r d.x).length ≤ r.length := by
    obtain ⟨u, m, w, s, S⟩ := G.span hx
    have := S.perm.length_eq
    rw [S.rest, S.blk]
    rw [List.length_append] at this
    omega
  refine ev_setT (ev_span ev_var (ev_ix ev_var ev_c (deed1 d)) hd.1 G hx) rfl ?_
  refine ev_set (ev_rFT (r := r) ev_var ev_var ev_var) ?_
  rw [blk_py G hx]
  refine ev_set (ev_cat (ev_rT (r := r) ev_var ev_var) (ev_rF (r := r) ev_var ev_var) (by have := tk_len r (ix (.b d.x) r); have := dr_len r (ix (.e d.x) r + 1); omega)) ?_
  refine ev_set (ev_ix ev_var ev_c (deed0 d)) ?_
  dsimp only
  have hy : d.w.two = true → It.b d.y ∈ rest r d.x ∧ It.e d.y ∈ rest r d.x := fun ht => by
    have hw : d.w ≠ .wrap := by intro e; rw [e] at hm; exact absurd hm (by decide)
    have hyr := y_there hs ht hw
    have hi : d.w.into = true := by revert hm ht; cases d.w <;> simp [W.mv, W.two, W.into]
    have hn := (stop_there hs).2.2.1 hi
    have gr : Good (rest r d.x) := by
      obtain ⟨u, m, w, s, S⟩ := G.span hx
      rw [S.rest]
      exact ⟨S.brest, (List.nodup_append.mp (sub_nodup S.perm G.nd)).2.1⟩
    have hyq : It.b d.y ∈ rest r d.x := by
      obtain ⟨u, m, w, s, S⟩ := G.span hx
      rw [S.blk] at hn
      rw [S.rest]
      have := S.perm.mem_iff.mp hyr
      rcases List.mem_append.mp this with z | z
      · exact absurd z hn
      · exact z
    exact ⟨hyq, e_mem gr hyq⟩
  refine ev_seq (fun s' g' => s' = [some (rowD r), some (deedD d), some (natD (ix (.b d.x) r)), some (natD (ix (.e d.x) r + 1)), some (rowD (blk r d.x)), some (rowD (rest r d.x)), some (.str (wS d.w)), some (natD (place (rest r d.x) d))] ∧ g' = g) (fun Kk hK => ?_) ?_
  · have st : ∀ n, n = place (rest r d.x) d → Kk [some (rowD r), some (deedD d), some (natD (ix (.b d.x) r)), some (natD (ix (.e d.x) r + 1)), some (rowD (blk r d.x)), some (rowD (rest r d.x)), some (.str (wS d.w)), some (natD n)] g := fun n e => hK _ _ ⟨by rw [e], rfl⟩
    refine ev_if (ev_w (v := .front) ev_var) (fun e => ?_) (fun e => ?_)
    · exact ev_set ev_c (st 0 (by unfold place; rw [of_decide_eq_true e]))
    have e1 := of_decide_eq_false e
    refine ev_if (ev_w (v := .back) ev_var) (fun e => ?_) (fun e => ?_)
    · exact ev_set (ev_lenR ev_var) (st _ (by unfold place; rw [of_decide_eq_true e]; rfl))
    have e2 := of_decide_eq_false e
    have ht : d.w.two = true := by revert hm; cases hw : d.w <;> simp [W.mv, W.two] <;> first | exact absurd hw e1 | exact absurd hw e2
    obtain ⟨hyb, hye⟩ := hy ht
    have d2 : EvE (cOp fIx (cVar 1) (cC (.int 2))) [some (rowD r), some (deedD d), some (natD (ix (.b d.x) r)), some (natD (ix (.e d.x) r + 1)), some (rowD (blk r d.x)), some (rowD (rest r d.x)), some (.str (wS d.w)), none] g (.str d.y) := ev_ix ev_var ev_c (deed2 ht)
    refine ev_if (ev_w (v := .first) ev_var) (fun e => ?_) (fun e => ?_)
    · exact ev_set (ev_add1 (ev_idx ev_var (ev_beg d2 hd.2) hyb)) (st _ (by unfold place; rw [of_decide_eq_true e]))
    have e3 := of_decide_eq_false e
    refine ev_if (ev_w (v := .last) ev_var) (fun e => ?_) (fun e => ?_)
    · exact ev_set (ev_idx ev_var (ev_end d2 hd.2) hye) (st _ (by unfold place; rw [of_decide_eq_true e]))
    have e4 := of_decide_eq_false e
    refine ev_if (ev_w (v := .ahead) ev_var) (fun e => ?_) (fun e => ?_)
    · exact ev_set (ev_idx ev_var (ev_beg d2 hd.2) hyb) (st _ (by unfold place; rw [of_decide_eq_true e]))
    have e5 := of_decide_eq_false e
    refine ev_set (ev_add1 (ev_idx ev_var (ev_end d2 hd.2) hye)) (st _ ?_)
    unfold place
    cases hw : d.w <;> first | exact absurd hw e1 | exact absurd hw e2 | exact absurd hw e3 | exact absurd hw e4 | exact absurd hw e5 | rfl
  · rintro s' g' ⟨rfl, rfl⟩
    refine ev_ret (ev_cat (ev_cat (ev_rT (r := rest r d.x) ev_var ev_var) ev_var ?_) (ev_rF (r := rest r d.x) ev_var ev_var) ?_) ?_
    · have := tk_len (rest r d.x) (place (rest r d.x) d)
      omega
    · have := tk_len (rest r d.x) (place (rest r d.x) d)
      have := dr_len (rest r d.x) (place (rest r d.x) d)
      rw [List.length_append]
      omega
    · exact fin_of q
theorem ev_moved {s : CSt} {g : GH} {a b : CE} {r : RowS} {d : DeedS} (ha : EvE a s g (rowD r)) (hb : EvE b s g (deedD d)) (G : Good r) (hd : DeedOk d) (hm : d.w.mv = true) (hs : stop r d = none) (hl : r.length ≤ 10000) : EvE (cCall sp_moved (cCons a (cCons b cNil))) s g (rowD (moved r d)) :=
  ev_call (ev_cons ha (ev_cons hb ev_nil)) fun R q => by
    unfold sp_moved
    exact ⟨r, d, rfl, G, hd, hm, hs, hl, q⟩

/-! ### swapped -/
@[irreducible] def sp_swapped0 : CSp := fun ds g Q => False
def SwOk (r : RowS) (x y : Str) : Prop := Good r ∧ NmOk x ∧ NmOk y ∧ It.b x ∈ r ∧ It.b y ∈ r ∧ x ≠ y ∧ It.b y ∉ blk r x ∧ It.b x ∉ blk r y ∧ r.length ≤ 10000
@[irreducible] def sp_swapped1 : CSp := fun ds g Q => ∃ (r : RowS) (x y : Str), ds = [rowD r, .str x, .str y] ∧ SwOk r x y ∧ ¬ ix (.b y) r < ix (.b x) r ∧ Q (rowD (sw r x y)) g
@[irreducible] def sp_swapped : CSp := fun ds g Q => ∃ (r : RowS) (x y : Str), ds = [rowD r, .str x, .str y] ∧ SwOk r x y ∧ Q (rowD (swapped r x y)) g
theorem ix_ne {r : RowS} (G : Good r) {x y : Str} (hx : It.b x ∈ r) (hy : It.b y ∈ r) (hne : x ≠ y) : ix (.b x) r ≠ ix (.b y) r := fun e => by
  obtain ⟨u, m, w, s, S⟩ := G.span hx
  obtain ⟨u2, m2, w2, s2, S2⟩ := G.span hy
  have e1 := S.ixb
  have e2 := S2.ixb
  have e3 : u.length = u2.length := by omega
  have e4 := S.eq.symm.trans S2.eq
  obtain ⟨_, e5⟩ := List.append_inj e4 e3
  injection e5 with e6 _
  injection e6 with _ e7
  exact hne e7
section
variable {s : CSt} {g : GH}
theorem ev_fst {a : CE} {x y : D} (h : EvE a s g (.tup [x, y])) : EvE (cOp fIx a (cC (.int 0))) s g x := ev_ix h ev_c rfl
theorem ev_snd {a : CE} {x y : D} (h : EvE a s g (.tup [x, y])) : EvE (cOp fIx a (cC (.int 1))) s g y := ev_ix h ev_c rfl
theorem ev_ltN {a b : CE} {i j : Nat} (ha : EvE a s g (natD i)) (hb : EvE b s g (natD j)) : EvT (cB (cOp fLt a b)) s g (decide (i < j)) := fun R q => ha _ (hb _ ⟨trivial, _, rfl, by
  have e : decide ((i : Int) < (j : Int)) = decide (i < j) := decide_eq_decide.mpr (by omega)
  rw [e]
  exact q⟩)
end
theorem sw_len {r : RowS} {x y : Str} (h : SwOk r x y) (hn : ¬ ix (.b y) r < ix (.b x) r) : ∃ u m v m2 w s s2, Apart r x y u m v m2 w s s2 := by
  obtain ⟨G, h1, h2, hx, hy, hne, n1, n2, hl⟩ := h
  have := ix_ne G hx hy hne
  exact G.apart hx hy (by omega) n1
theorem pu_sw_tail {r : RowS} {x y : Str} {Q : CQ} {g : GH} {sp : CSp} (h : SwOk r x y) (hn : ¬ ix (.b y) r < ix (.b x) r) (q : Q (rowD (sw r x y)) g) :
    (cSeq (cSet 5 (cSl (cVar 0) (oSome (cOp fIx (cVar 3) (cC (.int 1)))) (oSome (cOp fIx (cVar 4) (cC (.int 0))))))
    (cRet (cOp fAdd (cOp fAdd (cOp fAdd (cOp fAdd (cSl (cVar 0) oNone (oSome (cOp fIx (cVar 3) (cC (.int 0))))) (cSl (cVar 0) (oSome (cOp fIx (cVar 4) (cC (.int 0)))) (oSome (cOp fIx (cVar 4) (cC (.int 1)))))) (cVar 5)) (cSl (cVar 0) (oSome (cOp fIx (cVar 3) (cC (.int 0)))) (oSome (cOp fIx (cVar 3) (cC (.int 1)))))) (cSl (cVar 0) (oSome (cOp fIx (cVar 4) (cC (.int 1)))) oNone))))
      { nx := fun _ g' => Fin Q .non g', rt := Fin Q } [some (rowD r), some (.str x), some (.str y), some (.tup [natD (ix (.b x) r), natD (ix (.e x) r + 1)]), some (.tup [natD (ix (.b y) r), natD (ix (.e y) r + 1)]), none] g := by
  obtain ⟨u, m, v, m2, w, s, s2, A⟩ := sw_len h hn
  obtain ⟨G, h1, h2, hx, hy, hne, n1, n2, hl⟩ := h
  have eb : (r.take (ix (.b y) r)).drop (ix (.e x) r + 1) = v := by
    rw [A.spy.tkb, A.spx.ixe]
    have e2 : u ++ (It.b x :: (m ++ [It.e x])) ++ v = (u ++ (It.b x :: (m ++ [It.e x]))) ++ v := rfl
    have e3 : u.length + 1 + m.length + 1 = (u ++ (It.b x :: (m ++ [It.e x]))).length := by simp; omega
    rw [e2, e3, List.drop_left]
  have el := congrArg List.length A.eq
  simp only [List.length_append, List.length_cons, List.length_nil] at el
  refine ev_set (ev_rFT (r := r) ev_var (ev_snd ev_var) (ev_fst ev_var)) ?_
  rw [eb]
  refine ev_ret (ev_cat (ev_cat (ev_cat (ev_cat (ev_rT (r := r) ev_var (ev_fst ev_var)) (ev_rFT (r := r) ev_var (ev_fst ev_var) (ev_snd ev_var)) ?_) ev_var ?_) (ev_rFT (r := r) ev_var (ev_fst ev_var) (ev_snd ev_var)) ?_) (ev_rF (r := r) ev_var (ev_snd ev_var)) ?_) ?_
  · rw [A.spx.tkb, blk_py G hy, A.spy.blk]
    simp only [List.length_append, List.length_cons, List.length_nil]
    omega
  · rw [A.spx.tkb, blk_py G hy, A.spy.blk]
    simp only [List.length_append, List.length_cons, List.length_nil]
    omega
  · rw [A.spx.tkb, blk_py G hy, A.spy.blk, blk_py G hx, A.spx.blk]
    simp only [List.length_append, List.length_cons, List.length_nil]
    omega
  · rw [A.spx.tkb, blk_py G hy, A.spy.blk, blk_py G hx, A.spx.blk, A.spy.dke1]
    simp only [List.length_append, List.length_cons, List.length_nil]
    omega
  · rw [A.spx.tkb, blk_py G hy, A.spy.blk, blk_py G hx, A.spx.blk, A.spy.dke1, ← A.sw]
    exact fin_of q
theorem pu_swapped1 : ∀ ds g Q, sp_swapped1 ds g Q → c_swapped sp_span sp_swapped0 { nx := fun _ g' => Fin Q .non g', rt := Fin Q } (cstart N_swapped ds) g := by
  intro ds g Q h
  unfold sp_swapped1 at h
  obtain ⟨r, x, y, rfl, h, hn, q⟩ := h
  have ⟨G, h1, h2, hx, hy, hne, n1, n2, hl⟩ := h
  refine ev_par (ev_cons (ev_span ev_var ev_var h1 G hx) (ev_cons (ev_span ev_var ev_var h2 G hy) ev_nil)) ?_
  refine ev_if (ev_ltN (ev_fst ev_var) (ev_fst ev_var)) (fun e => ?_) (fun e => ?_)
  · exact absurd (of_decide_eq_true e) hn
  · exact pu_sw_tail (sp := sp_swapped0) h hn q
theorem SwOk.symm {r : RowS} {x y : Str} (h : SwOk r x y) : SwOk r y x := by
  obtain ⟨G, h1, h2, hx, hy, hne, n1, n2, hl⟩ := h
  exact ⟨G, h2, h1, hy, hx, hne.symm, n2, n1, hl⟩
theorem pu_swapped : ∀ ds g Q, sp_swapped ds g Q → c_swapped sp_span sp_swapped1 { nx := fun _ g' => Fin Q .non g', rt := Fin Q } (cstart N_swapped ds) g := by
  intro ds g Q h
  unfold sp_swapped at h
  obtain ⟨r, x, y, rfl, h, q⟩ := h
  have ⟨G, h1, h2, hx, hy, hne, n1, n2, hl⟩ := h
  refine ev_par (ev_cons (ev_span ev_var ev_var h1 G hx) (ev_cons (ev_span ev_var ev_var h2 G hy) ev_nil)) ?_
  refine ev_if (ev_ltN (ev_fst ev_var) (ev_fst ev_var)) (fun e => ?_) (fun e => ?_)
  · have c := of_decide_eq_true e
    refine ev_ret (d := rowD (sw r y x)) (ev_call (ev_cons ev_var (ev_cons ev_var (ev_cons ev_var ev_nil))) fun R w => ?_) ?_
    · unfold sp_swapped1
      exact ⟨r, y, x, rfl, h.symm, by omega, w⟩
    · unfold swapped at q
      rw [if_pos c] at q
      exact fin_of q
  · have c := of_decide_eq_false e
    unfold swapped at q
    rw [if_neg c] at q
    exact pu_sw_tail (sp := sp_swapped0) h c q

/-! ### turned -/
section
variable {κ : Type} [DecidableEq κ]
theorem valD_nil {k : κ} : valD ([] : List (κ × D)) k = none := rfl
theorem valD_cons {p : κ × D} {r : List (κ × D)} {k : κ} : valD (p :: r) k = if p.1 = k then some p.2 else valD r k := by
  by_cases e : p.1 = k
  · rw [if_pos e]
    simp [valD, List.find?_cons, e]
  · rw [if_neg e]
    simp [valD, List.find?_cons, e]
theorem valD_any (k : κ) : ∀ kvs : List (κ × D), (kvs.any fun kv => decide (kv.1 = k)) = (valD kvs k).isSome
  | [] => rfl
  | p :: r => by
    rw [List.any_cons, valD_cons]
    by_cases e : p.1 = k
    · simp [e]
    · rw [if_neg e, decide_eq_false e, Bool.false_or]
      exact valD_any k r
theorem valD_map (k j : κ) (y : D) : ∀ kvs : List (κ × D), valD (kvs.map fun kv => if kv.1 = k then (kv.1, y) else kv) j = (valD kvs j).map fun x => if j = k then y else x
  | [] => rfl
  | p :: r => by
    have ih := valD_map k j y r
    rw [List.map_cons, valD_cons, valD_cons, ih]
    by_cases h : p.1 = k
    · rw [if_pos h]
      by_cases e : p.1 = j
      · rw [if_pos e, if_pos e, Option.map_some, if_pos (e.symm.trans h)]
      · rw [if_neg e, if_neg e]
    · rw [if_neg h]
      by_cases e : p.1 = j
      · rw [if_pos e, if_pos e, Option.map_some, if_neg (fun z => h (e.trans z))]
      · rw [if_neg e, if_neg e]
theorem valD_snoc (k j : κ) (y : D) : ∀ kvs : List (κ × D), valD kvs k = none → valD (kvs ++ [(k, y)]) j = if j = k then some y else valD kvs j
  | [], _ => by
    rw [List.nil_append, valD_cons, valD_nil]
    by_cases e : k = j
    · rw [if_pos e, if_pos e.symm]
    · rw [if_neg e, if_neg (fun z => e z.symm)]
  | p :: r, hn => by
    rw [valD_cons] at hn
    have hk : ¬ p.1 = k := fun z => by rw [if_pos z] at hn; cases hn
    rw [if_neg hk] at hn
    rw [List.cons_append, valD_cons, valD_cons, valD_snoc k j y r hn]
    by_cases e : p.1 = j
    · rw [if_pos e, if_pos e, if_neg (fun z => hk (e.trans z))]
    · rw [if_neg e, if_neg e]
theorem valD_put (kvs : List (κ × D)) (k j : κ) (y : D) : valD (putD kvs k y) j = if j = k then some y else valD kvs j := by
  unfold putD
  rw [valD_any]
  cases h : valD kvs k with
  | none => exact valD_snoc k j y kvs h
  | some v =>
    rw [if_pos (show (some v).isSome = true from rfl), valD_map]
    by_cases e : j = k
    · rw [if_pos e, e, h, Option.map_some, if_pos rfl]
    · rw [if_neg e]
      cases valD kvs j with
      | none => rfl
      | some x => rw [Option.map_some, if_neg e]
theorem putD_len (kvs : List (κ × D)) (k : κ) (y : D) : (putD kvs k y).length ≤ kvs.length + 1 := by
  unfold putD
  split
  · rw [List.length_map]; omega
  · rw [List.length_append]; simp
end
def kIt : It Str → Key
  | .n true x => .inr ("+" ++ x)
  | .n false x => .inr ("-" ++ x)
  | .g k => .inl (k : Nat)
theorem kIt_D (a : It Str) : kD (kIt a) = eD a := by
  cases a with
  | n b x => cases b <;> rfl
  | g k => rfl
theorem kIt_inj {a b : It Str} (h : kIt a = kIt b) : a = b := eD_inj (by rw [← kIt_D, h, kIt_D])
/-- the names' table -/
def tblT (x y : Str) : List (Key × D) := putD (putD (mergeD [] [(kIt (.b x), eD (.b y)), (kIt (.b y), eD (.b x))]) (kIt (.e x)) (eD (.e y))) (kIt (.e y)) (eD (.e x))
theorem tblT_get (x y : Str) (a : It Str) : (valD (tblT x y) (kIt a)).getD (eD a) = eD (renI x y a) := by
  have e : tblT x y = putD (putD (putD (putD [] (kIt (.b x)) (eD (.b y))) (kIt (.b y)) (eD (.b x))) (kIt (.e x)) (eD (.e y))) (kIt (.e y)) (eD (.e x)) := rfl
  rw [e, valD_put, valD_put, valD_put, valD_put, valD_nil]
  have q : ∀ b : It Str, (kIt a = kIt b) = (a = b) := fun b => propext ⟨kIt_inj, fun h => by rw [h]⟩
  simp only [q]
  cases a with
  | g k => simp [renI]
  | n b z =>
    cases b
    · by_cases h1 : z = x
      · subst h1
        by_cases h2 : z = y
        · subst h2; simp [renI, ren]
        · simp [renI, ren, h2]
      · by_cases h2 : z = y
        · subst h2; simp [renI, ren, h1]
        · simp [renI, ren, h1, h2]
    · by_cases h1 : z = x
      · subst h1
        by_cases h2 : z = y
        · subst h2; simp [renI, ren]
        · simp [renI, ren, h2]
      · by_cases h2 : z = y
        · subst h2; simp [renI, ren, h1]
        · simp [renI, ren, h1, h2]
theorem tbl_few1 (x y : Str) : lim (mergeD [] [(kIt (.b x), eD (.b y)), (kIt (.b y), eD (.b x))]).length := by
  have h1 := putD_len (putD [] (kIt (.b x)) (eD (.b y))) (kIt (.b y)) (eD (.b x))
  have h2 := putD_len ([] : List (Key × D)) (kIt (.b x)) (eD (.b y))
  show (putD (putD [] (kIt (.b x)) (eD (.b y))) (kIt (.b y)) (eD (.b x))).length ≤ 1000000
  simp only [List.length_nil] at h2
  omega
theorem tbl_few2 (x y : Str) : lim (putD (mergeD [] [(kIt (.b x), eD (.b y)), (kIt (.b y), eD (.b x))]) (kIt (.e x)) (eD (.e y))).length := by
  have h0 := putD_len (putD (putD [] (kIt (.b x)) (eD (.b y))) (kIt (.b y)) (eD (.b x))) (kIt (.e x)) (eD (.e y))
  have h1 := putD_len (putD [] (kIt (.b x)) (eD (.b y))) (kIt (.b y)) (eD (.b x))
  have h2 := putD_len ([] : List (Key × D)) (kIt (.b x)) (eD (.b y))
  show (putD (putD (putD [] (kIt (.b x)) (eD (.b y))) (kIt (.b y)) (eD (.b x))) (kIt (.e x)) (eD (.e y))).length ≤ 1000000
  simp only [List.length_nil] at h2
  omega
@[irreducible] def sp_turned : CSp := fun ds g Q => ∃ (r : RowS) (x y : Str), ds = [rowD r, .str x, .str y] ∧ NmOk x ∧ NmOk y ∧ r.length ≤ 10000 ∧ Q (rowD (turned r x y)) g
theorem pu_turned : ∀ ds g Q, sp_turned ds g Q → c_turned sp_begin_of sp_end_of { nx := fun _ g' => Fin Q .non g', rt := Fin Q } (cstart N_turned ds) g := by
  intro ds g Q h
  unfold sp_turned at h
  obtain ⟨r, x, y, rfl, hx, hy, hl, q⟩ := h
  refine fun p hp => ?_
  refine ev_beg ev_var hx _ (ev_beg ev_var hy _ (ev_beg ev_var hy _ (ev_beg ev_var hx _ ?_)))
  refine ⟨gupd_same, [(kIt (.b x), eD (.b y)), (kIt (.b y), eD (.b x))], rfl, by simp, ?_⟩
  rw [gupd_gupd]
  refine ev_end ev_var hy _ (ev_var rfl _ (ev_end ev_var hx _ ?_))
  refine ⟨_, .inl ⟨p, _, kIt (.e x), rfl, gupd_same, rfl, ?_, rfl⟩, ?_⟩
  · exact tbl_few1 x y
  rw [gupd_gupd]
  refine ev_end ev_var hx _ (ev_var rfl _ (ev_end ev_var hy _ ?_))
  refine ⟨_, .inl ⟨p, _, kIt (.e y), rfl, gupd_same, rfl, ?_, rfl⟩, ?_⟩
  · exact tbl_few2 x y
  rw [gupd_gupd]
  have eT : putD (putD (mergeD [] [(kIt (.b x), eD (.b y)), (kIt (.b y), eD (.b x))]) (kIt (.e x)) (eD (.e y))) (kIt (.e y)) (eD (.e x)) = tblT x y := rfl
  rw [eT]
  have s1 : Sub g (gupd g p (.dic (tblT x y))) := .new hp
  have hd : (gupd g p (.dic (tblT x y))) p = some (.dic (tblT x y)) := gupd_same
  generalize gupd g p (.dic (tblT x y)) = g1 at s1 hd
  refine ⟨_, rfl, _, rfl, fun l hl' => ?_⟩
  have hpl : ∀ ys, (gupd g1 l (.lst ys)) p = some (.dic (tblT x y)) := fun ys => gup_free hd hl'
  show lcLoop _ _ _ _ _ _ (onEach 4 (r.map eD)) _ _
  rw [onEach_map]
  refine lc_run (fun a s => s.set 4 (some (eD a))) (fun _ => true) (fun a => eD (renI x y a)) (fun _ => trivial) r [] (by simp; omega) (fun a _ ys R w => w) (fun a _ _ ys R w => ?_) ?_
  · refine ev_var rfl _ ⟨⟨p, _, rfl, .inl (hpl ys)⟩, ev_var rfl _ (ev_var rfl _ ⟨valD (tblT x y) (kIt a), .inl ⟨p, _, kIt a, rfl, .inl (hpl ys), (kIt_D a).symm, rfl⟩, ?_⟩)⟩
    rw [tblT_get]
    exact w
  · rw [List.filter_eq_self.mpr (fun _ _ => rfl), List.nil_append]
    refine ⟨_, gupd_same, ?_⟩
    refine ⟨g, s1.trans (.new hl'), ?_⟩
    have e : r.map (fun a => eD (renI x y a)) = (turned r x y).map eD := by
      unfold turned
      rw [List.map_map]
      rfl
    rw [e]
    exact q

/-! ### poured -/
@[irreducible] def sp_poured : CSp := fun ds g Q => ∃ (r : RowS) (x y : Str), ds = [rowD r, .str x, .str y] ∧ NmOk x ∧ NmOk y ∧ Good r ∧ It.b x ∈ r ∧ It.b y ∈ r ∧ It.b y ∉ blk r x ∧ r.length ≤ 10000 ∧ Q (rowD (poured r x y)) g
theorem pu_poured : ∀ ds g Q, sp_poured ds g Q → c_poured sp_span sp_end_of { nx := fun _ g' => Fin Q .non g', rt := Fin Q } (cstart N_poured ds) g := by
  intro ds g Q h
  unfold sp_poured at h
  obtain ⟨r, x, y, rfl, hx, hy, G, bx, hby, hn, hl, q⟩ := h
  obtain ⟨u, m, w, s, S⟩ := G.span bx
  have em : (r.take (ix (.e x) r)).drop (ix (.b x) r + 1) = mid r x := by
    rw [S.tke, S.ixb, S.mid]
    have e : u ++ It.b x :: m = (u ++ [It.b x]) ++ m := by simp
    have e2 : u.length + 1 = (u ++ [It.b x]).length := by simp
    rw [e, e2, List.drop_left]
  have ee : r.take (ix (.b x) r + 1) ++ r.drop (ix (.e x) r) = emptied r x := rfl
  have hye : It.e y ∈ emptied r x := by
    have h1 : It.e y ∈ r := e_mem G hby
    rw [S.emptied]
    rw [S.blk] at hn
    have hyr := hby
    rw [S.eq3] at hyr
    have hyuw : It.b y ∈ u ++ w := by
      rcases List.mem_append.mp hyr with z | z
      · rcases List.mem_append.mp z with z | z
        · exact List.mem_append_left _ z
        · exact absurd z hn
      · exact List.mem_append_right _ z
    have gr : Good (u ++ w) := ⟨S.brest, (List.nodup_append.mp (sub_nodup S.perm G.nd)).2.1⟩
    have := e_mem gr hyuw
    rcases List.mem_append.mp this with z | z
    · exact List.mem_append_left _ (List.mem_append_left _ z)
    · exact List.mem_append_right _ z
  have l1 : (mid r x).length ≤ r.length ∧ (emptied r x).length ≤ r.length := by
    rw [S.mid, S.emptied, S.eq]
    simp only [List.length_append, List.length_cons, List.length_nil]
    omega
  refine ev_setT (ev_span ev_var ev_var hx G bx) rfl ?_
  refine ev_set (ev_rFT (r := r) ev_var (ev_add1 ev_var) (ev_sub1 ev_var)) ?_
  rw [em]
  refine ev_set (ev_cat (ev_rT (r := r) ev_var (ev_add1 ev_var)) (ev_rF (r := r) ev_var (ev_sub1 ev_var)) (by have := tk_len r (ix (.b x) r + 1); have := dr_len r (ix (.e x) r); omega)) ?_
  rw [ee]
  refine ev_set (ev_idx ev_var (ev_end ev_var hy) hye) ?_
  refine ev_ret (ev_cat (ev_cat (ev_rT (r := emptied r x) ev_var ev_var) ev_var ?_) (ev_rF (r := emptied r x) ev_var ev_var) ?_) ?_
  · have := tk_len (emptied r x) (ix (.e y) (emptied r x))
    omega
  · have := tk_len (emptied r x) (ix (.e y) (emptied r x))
    have := dr_len (emptied r x) (ix (.e y) (emptied r x))
    rw [List.length_append]
    omega
  · exact fin_of q
end CL

/-! P3: done, done_all, gaps (printed from P3.src by pp.py). -/
namespace CL
open PySem PySem.Spec PyProof.Rows L2 TM

/-! ### done -/
def v_MOVES : D := .tup ([W.first, .last, .ahead, .behind, .front, .back].map fun v => D.str (wS v))
theorem w_mem6 (w : W) : memF (.str (wS w)) ([W.first, .last, .ahead, .behind, .front, .back].map fun v => D.str (wS v)) = w.mv := by
  cases w <;> decide +kernel
section
variable {s : CSt} {g : GH}
theorem ev_isnt {a : CE} {x : D} (h : EvE a s g x) : EvT (cB (cOp (fIs true) a (cC .non))) s g (!isNonD x) := ev_B (ev_op h ev_c fun R w => ⟨rfl, w⟩)
theorem ev_is {a : CE} {x : D} (h : EvE a s g x) : EvT (cB (cOp (fIs false) a (cC .non))) s g (isNonD x) := ev_B (ev_op h ev_c fun R w => ⟨rfl, w⟩)
theorem ev_ifs {t : CT} {a rest : CS} {C : CEnds} {v : Bool} (ht : EvT t s g v) (h1 : v = true → a { C with nx := fun s' g' => rest C s' g' } s g) (h2 : v = false → rest C s g) : cSeq (cIfS t a cSkip) rest C s g := ht _ (te2 h1 h2)
theorem ev_sets {i : Nat} {e : CE} {rest : CS} {C : CEnds} {d : D} (h : EvE e s g d) (k : rest C (s.set i (some d)) g) : cSeq (cSet i e) rest C s g := h _ k
theorem ev_setTs {is : List Nat} {e : CE} {rest : CS} {C : CEnds} {ds : List D} (h : EvE e s g (.tup ds)) (hl : ds.length = is.length) (k : rest C (setAll is ds s) g) : cSeq (cSetT is e) rest C s g := h _ ⟨ds, rfl, hl, k⟩
theorem ev_pars {i j : Nat} {a : CA} {rest : CS} {C : CEnds} {x y : D} (h : EvA a s g [x, y]) (k : rest C ((s.set i (some x)).set j (some y)) g) : cSeq (cPar i j a) rest C s g := h _ ⟨x, y, rfl, k⟩
theorem ev_ixL {a b : CE} {A : Addr} {xs : List D} {i : Int} {d : D} (ha : EvE a s g (.ref A)) (hA : g A = some (.lst xs)) (hb : EvE b s g (.int i)) (h : atI xs i = some d) : EvE (cOp fIx a b) s g d := ev_op ha hb fun R q => ⟨xs, d, hA, h, q⟩
theorem ev_rtup {a : CA} {r : RowS} (h : EvA a s g (r.map eD)) (hl : r.length ≤ 1000) : EvE (cTup a) s g (rowD r) := ev_tup h (by rw [List.length_map]; exact Nat.le_trans hl (by decide))
end
@[irreducible] def sp_done : CSp := fun ds g Q => ∃ (r : RowS) (d : DeedS), ds = [rowD r, deedD d] ∧ Good r ∧ DeedOk d ∧ stop r d = none ∧ r.length ≤ 10000 ∧ Q (rowD (TM.done r d)) g
theorem pu_done : ∀ ds g Q, sp_done ds g Q → c_done sp_moved sp_swapped sp_turned sp_poured sp_end_of sp_begin_of sp_span v_MOVES { nx := fun _ g' => Fin Q .non g', rt := Fin Q } (cstart N_done ds) g := by
  intro ds g Q h
  unfold sp_done at h
  obtain ⟨r, d, rfl, G, hd, hs, hl, q⟩ := h
  have X1 : ∀ {s g}, s[1]? = some (some (deedD d)) → EvE (cOp fIx (cVar 1) (cC (.int 1))) s g (.str d.x) := fun h => ev_ix (ev_var h) ev_c (deed1 d)
  have X2 : d.w.two = true → ∀ {s g}, s[1]? = some (some (deedD d)) → EvE (cOp fIx (cVar 1) (cC (.int 2))) s g (.str d.y) := fun ht {s g} h => ev_ix (ev_var h) ev_c (deed2 ht)
  have call3 : ∀ {sp : CSp} {s g z}, d.w.two = true → s[0]? = some (some (rowD r)) → s[1]? = some (some (deedD d)) → (∀ R : CQ, R z g → sp [rowD r, .str d.x, .str d.y] g R) → EvE (cCall sp (cCons (cVar 0) (cCons (cOp fIx (cVar 1) (cC (.int 1))) (cCons (cOp fIx (cVar 1) (cC (.int 2))) cNil)))) s g z := fun ht h0 h1 h => ev_call (ev_cons (ev_var h0) (ev_cons (X1 h1) (ev_cons (X2 ht h1) ev_nil))) h
  refine ev_sets (ev_ix ev_var ev_c (deed0 d)) ?_
  refine ev_ifs (v := d.w.mv) ?_ (fun e => ?_) (fun e => ?_)
  · have h := ev_B (ev_inT (neg := false) (x := .str (wS d.w)) (ys := ([W.first, .last, .ahead, .behind, .front, .back].map fun v => D.str (wS v))) (s := (cstart N_done [rowD r, deedD d]).set 2 (some (.str (wS d.w)))) (g := g) (a := cVar 2) (b := cC v_MOVES) (ev_var rfl) ev_c rfl rfl)
    rw [if_neg Bool.false_ne_true, w_mem6] at h
    exact h
  · refine ev_ret (ev_moved ev_var ev_var G hd e hs hl) ?_
    have : TM.done r d = moved r d := by unfold TM.done; cases hw : d.w <;> rw [hw] at e <;> first | rfl | exact absurd e (by decide)
    rw [this] at q
    exact fin_of q
  refine ev_ifs (ev_w (v := .swap) ev_var) (fun e1 => ?_) (fun e1 => ?_)
  · have hw := of_decide_eq_true e1
    have ht : d.w.two = true := by rw [hw]; rfl
    have hx := x_there hs (by rw [hw]; decide)
    have hy := y_there hs ht (by rw [hw]; decide)
    obtain ⟨n1, n2⟩ := (stop_there hs).2.2.2 hw
    have hne : d.x ≠ d.y := fun e => by
      rw [e] at n1
      obtain ⟨u, m, w, s, S⟩ := G.span hy
      rw [S.blk] at n1
      exact n1 List.mem_cons_self
    refine ev_ret (call3 ht rfl rfl fun R w => ?_) (d := rowD (TM.swapped r d.x d.y)) ?_
    · unfold sp_swapped
      exact ⟨r, d.x, d.y, rfl, ⟨G, hd.1, hd.2, hx, hy, hne, n2, n1, hl⟩, w⟩
    · have : TM.done r d = TM.swapped r d.x d.y := by unfold TM.done; rw [hw]
      rw [this] at q
      exact fin_of q
  refine ev_ifs (ev_w (v := .turn) ev_var) (fun e2 => ?_) (fun e2 => ?_)
  · have hw := of_decide_eq_true e2
    refine ev_ret (call3 (by rw [hw]; rfl) rfl rfl fun R w => ?_) (d := rowD (TM.turned r d.x d.y)) ?_
    · unfold sp_turned
      exact ⟨r, d.x, d.y, rfl, hd.1, hd.2, hl, w⟩
    · have : TM.done r d = TM.turned r d.x d.y := by unfold TM.done; rw [hw]
      rw [this] at q
      exact fin_of q
  refine ev_ifs (ev_w (v := .pour) ev_var) (fun e3 => ?_) (fun e3 => ?_)
  · have hw := of_decide_eq_true e3
    have ht : d.w.two = true := by rw [hw]; rfl
    refine ev_ret (call3 ht rfl rfl fun R w => ?_) (d := rowD (TM.poured r d.x d.y)) ?_
    · unfold sp_poured
      exact ⟨r, d.x, d.y, rfl, hd.1, hd.2, G, x_there hs (by rw [hw]; decide), y_there hs ht (by rw [hw]; decide), (stop_there hs).2.2.1 (by rw [hw]; rfl), hl, w⟩
    · have : TM.done r d = TM.poured r d.x d.y := by unfold TM.done; rw [hw]
      rw [this] at q
      exact fin_of q
  refine ev_ifs (ev_w (v := .put) ev_var) (fun e4 => ?_) (fun e4 => ?_)
  · have hw := of_decide_eq_true e4
    have ht : d.w.two = true := by rw [hw]; rfl
    have hy : It.b d.y ∈ r := y_there hs ht (by rw [hw]; decide)
    refine ev_set (ev_idx (r := r) ev_var (ev_end (X2 ht rfl) hd.2) (e_mem G hy)) ?_
    refine ev_ret (ev_cat (ev_cat (ev_rT (r := r) ev_var ev_var) (ev_rtup (r := [It.b d.x, It.e d.x]) (ev_cons (ev_beg (X1 rfl) hd.1) (ev_cons (ev_end (X1 rfl) hd.1) ev_nil)) (by simp)) ?_) (ev_rF (r := r) ev_var ev_var) ?_) ?_
    · have := tk_len r (ix (.e d.y) r)
      simp only [List.length_cons, List.length_nil]
      omega
    · have := tk_len r (ix (.e d.y) r)
      have := dr_len r (ix (.e d.y) r)
      rw [List.length_append]
      simp only [List.length_cons, List.length_nil]
      omega
    · have : TM.done r d = ins r (ix (.e d.y) r) [.b d.x, .e d.x] := by unfold TM.done; rw [hw]
      rw [this] at q
      exact fin_of q
  have n4 := of_decide_eq_false e4
  have hx : It.b d.x ∈ r := x_there hs n4
  obtain ⟨u, m, w, s, S⟩ := G.span hx
  have el := congrArg List.length S.eq
  simp only [List.length_append, List.length_cons] at el
  refine ev_setTs (ev_span ev_var (X1 rfl) hd.1 G hx) rfl ?_
  refine ev_ifs (ev_w (v := .cut) ev_var) (fun e5 => ?_) (fun e5 => ?_)
  · have hw := of_decide_eq_true e5
    refine ev_ret (ev_cat (ev_rT (r := r) ev_var ev_var) (ev_rF (r := r) ev_var ev_var) ?_) ?_
    · have := tk_len r (ix (.b d.x) r)
      have := dr_len r (ix (.e d.x) r + 1)
      omega
    · have : TM.done r d = rest r d.x := by unfold TM.done; rw [hw]
      rw [this] at q
      exact fin_of q
  refine ev_ifs (ev_w (v := .lift) ev_var) (fun e6 => ?_) (fun e6 => ?_)
  · have hw := of_decide_eq_true e6
    have em : (r.take (ix (.e d.x) r)).drop (ix (.b d.x) r + 1) = mid r d.x := by
      rw [S.tke, S.ixb, S.mid]
      have e : u ++ It.b d.x :: m = (u ++ [It.b d.x]) ++ m := by simp
      have e2 : u.length + 1 = (u ++ [It.b d.x]).length := by simp
      rw [e, e2, List.drop_left]
    have : TM.done r d = r.take (ix (.b d.x) r) ++ mid r d.x ++ r.drop (ix (.e d.x) r + 1) := by unfold TM.done; rw [hw]
    rw [this, ← em] at q
    refine ev_ret (ev_cat (ev_cat (ev_rT (r := r) ev_var ev_var) (ev_rFT (r := r) ev_var (ev_add1 ev_var) (ev_sub1 ev_var)) ?_) (ev_rF (r := r) ev_var ev_var) ?_) (fin_of q)
    · rw [em, S.tkb, S.mid]
      omega
    · rw [em, S.tkb, S.mid, S.dke1, List.length_append]
      omega
  have hw : d.w = .wrap := by
    have n1 := of_decide_eq_false e1
    have n2 := of_decide_eq_false e2
    have n3 := of_decide_eq_false e3
    have n5 := of_decide_eq_false e5
    have n6 := of_decide_eq_false e6
    cases hw : d.w <;> first | rfl | exact absurd hw n1 | exact absurd hw n2 | exact absurd hw n3 | exact absurd hw n4 | exact absurd hw n5 | exact absurd hw n6 | (rw [hw] at e; exact absurd e (by decide))
  have ht : d.w.two = true := by rw [hw]; rfl
  have : TM.done r d = r.take (ix (.b d.x) r) ++ [.b d.y] ++ blk r d.x ++ [.e d.y] ++ r.drop (ix (.e d.x) r + 1) := by unfold TM.done; rw [hw]
  rw [this, ← blk_py G hx] at q
  refine ev_ret (ev_cat (ev_cat (ev_cat (ev_cat (ev_rT (r := r) ev_var ev_var) (ev_rtup (r := [It.b d.y]) (ev_cons (ev_beg (X2 ht rfl) hd.2) ev_nil) (by simp)) ?_) (ev_rFT (r := r) ev_var ev_var ev_var) ?_) (ev_rtup (r := [It.e d.y]) (ev_cons (ev_end (X2 ht rfl) hd.2) ev_nil) (by simp)) ?_) (ev_rF (r := r) ev_var ev_var) ?_) (fin_of q)
  all_goals simp only [blk_py G hx, S.tkb, S.blk, S.dke1, List.length_append, List.length_cons, List.length_nil]
  all_goals omega

/-! ### done_all -/
def resD : Res Str → D
  | .does r => .tup [.str "does", rowD r]
  | .stops i w => .tup [.str "stops", natD i, .str (stS w)]
theorem onTwo_enm {α : Type} (i j : Nat) (f : α → D) (xs : List α) (n : Nat) : onTwo i j (((xs.map f).zipIdx n).map fun p => (D.int (p.2 : Nat), p.1)) = (xs.zipIdx n).map fun p s => (s.set i (some (natD p.2))).set j (some (f p.1)) := by
  unfold onTwo
  rw [List.zipIdx_map, List.map_map, List.map_map]
  rfl
@[irreducible] def sp_done_all : CSp := fun ds g Q => ∃ (r : RowS) (es : List DeedS), ds = [rowD r, .tup (es.map deedD)] ∧ Good r ∧ (∀ d ∈ es, DeedOk d) ∧ r.length + 2 * es.length ≤ 10000 ∧ Q (resD (doneAll 0 r es)) g
theorem da_loop {C : CEnds} {D0 : D} {g : GH} : ∀ (es : List DeedS) (i : Nat) (r : RowS) (o2 o3 o4 : Option D), Good r → (∀ d ∈ es, DeedOk d) → r.length + 2 * es.length ≤ 10000 →
    (∀ r' o2 o3 o4, doneAll i r es = .does r' → C.nx [some (rowD r'), some D0, o2, o3, o4] g) → (∀ j w, doneAll i r es = .stops j w → C.rt (.tup [.str "stops", natD j, .str (stS w)]) g) →
    cLoop (cSeq (cSet 4 (cCall sp_stop_of (cCons (cVar 0) (cCons (cVar 3) cNil))))
    (cSeq (cIfS (cB (cOp (fIs true) (cVar 4) (cC .non))) (cRet (cTup (cCons (cC (.str "stops")) (cCons (cVar 2) (cCons (cVar 4) cNil))))) cSkip)
    (cSet 0 (cCall sp_done (cCons (cVar 0) (cCons (cVar 3) cNil)))))) C (fun _ => True) ((es.zipIdx i).map fun p s => (s.set 2 (some (natD p.2))).set 3 (some (deedD p.1))) [some (rowD r), some D0, o2, o3, o4] g
  | [], i, r, o2, o3, o4, _, _, _, hn, _ => ⟨trivial, hn r o2 o3 o4 rfl⟩
  | d :: es, i, r, o2, o3, o4, G, hd, hl, hn, hst => by
    have hd0 := hd d List.mem_cons_self
    refine ⟨trivial, ?_⟩
    refine ev_set (d := stopD (stop r d)) (ev_call (ev_cons ev_var (ev_cons ev_var ev_nil)) fun R w => sp_stop G hd0 w) ?_
    have unf : doneAll i r (d :: es) = match stop r d with | some w => Res.stops i w | none => doneAll (i + 1) (TM.done r d) es := rfl
    cases hs : stop r d with
    | some w =>
      rw [hs] at unf
      refine ev_if (ev_isnt (x := stopD (some w)) ev_var) (fun _ => ?_) (fun e => by cases e)
      exact ev_ret (ev_tup (ev_cons ev_c (ev_cons ev_var (ev_cons ev_var ev_nil))) (lim_ok (by simp))) (hst i w unf)
    | none =>
      rw [hs] at unf
      refine ev_if (ev_isnt (x := stopD none) ev_var) (fun e => by cases e) (fun _ => ?_)
      refine ev_set (d := rowD (TM.done r d)) (ev_call (ev_cons ev_var (ev_cons ev_var ev_nil)) fun R w => ?_) ?_
      · unfold sp_done
        exact ⟨r, d, rfl, G, hd0, hs, by simp at hl; omega, w⟩
      · have := done_len G hs
        exact da_loop es (i + 1) (TM.done r d) _ _ _ (done_good G hs) (fun e he => hd e (List.mem_cons_of_mem _ he)) (by simp at hl; omega) (fun r' a b c e => hn r' a b c (unf.trans e)) (fun j w e => hst j w (unf.trans e))
theorem pu_done_all : ∀ ds g Q, sp_done_all ds g Q → c_done_all sp_stop_of sp_done { nx := fun _ g' => Fin Q .non g', rt := Fin Q } (cstart N_done_all ds) g := by
  intro ds g Q h
  unfold sp_done_all at h
  obtain ⟨r, es, rfl, G, hd, hl, q⟩ := h
  refine ⟨_, rfl, _, rfl, ?_⟩
  rw [onTwo_enm]
  refine da_loop (D0 := .tup (es.map deedD)) es 0 r none none none G hd hl (fun r' a b c e => ?_) (fun j w e => ?_)
  · rw [e] at q
    exact ev_ret (ev_tup (ev_cons ev_c (ev_cons ev_var ev_nil)) (lim_ok (by simp))) (fin_of q)
  · rw [e] at q
    exact fin_of q
theorem sp_doneall {r : RowS} {es : List DeedS} {g : GH} {Q : CQ} (G : Good r) (hd : ∀ d ∈ es, DeedOk d) (hl : r.length + 2 * es.length ≤ 10000) (q : Q (resD (doneAll 0 r es)) g) : sp_done_all [rowD r, .tup (es.map deedD)] g Q := by
  unfold sp_done_all
  exact ⟨r, es, rfl, G, hd, hl, q⟩

/-! ### with_gaps -/
@[irreducible] def sp_with_gaps : CSp := fun ds g Q => ∃ r : RowS, ds = [rowD r] ∧ r.length ≤ 10000 ∧ Q (rowD (wg 0 r)) g
theorem wg_snoc : ∀ (r : RowS) (i : Nat) (z : It Str), wg i (r ++ [z]) = wg i r ++ [z, .g (i + r.length + 1)]
  | [], i, z => rfl
  | y :: r, i, z => by
    show It.g i :: y :: wg (i + 1) (r ++ [z]) = It.g i :: y :: (wg (i + 1) r ++ _)
    rw [wg_snoc r (i + 1) z]
    have e : i + 1 + r.length + 1 = i + (y :: r).length + 1 := by simp; omega
    rw [e]
theorem wg_len : ∀ (r : RowS) (i : Nat), (wg i r).length = 2 * r.length + 1
  | [], _ => rfl
  | z :: r, i => by
    show (wg (i + 1) r).length + 1 + 1 = _
    rw [wg_len r (i + 1), List.length_cons]
    omega
theorem wg_loop {C : CEnds} {D0 : D} {g : GH} : ∀ (r : RowS) (u : RowS) (o2 o3 : Option D), u.length + r.length ≤ 10000 → (∀ o2 o3, C.nx [some D0, some (rowD (wg 0 (u ++ r))), o2, o3] g) →
    cLoop (cSet 1 (cOp fAdd (cVar 1) (cTup (cCons (cVar 3) (cCons (cOp fAdd (cVar 2) (cC (.int 1))) cNil))))) C (fun _ => True) ((r.zipIdx u.length).map fun p s => (s.set 2 (some (natD p.2))).set 3 (some (eD p.1))) [some D0, some (rowD (wg 0 u)), o2, o3] g
  | [], u, o2, o3, _, hn => ⟨trivial, by have := hn o2 o3; rw [List.append_nil] at this; exact this⟩
  | z :: r, u, o2, o3, hl, hn => by
    refine ⟨trivial, ?_⟩
    refine ev_set (ev_cat (u := wg 0 u) (v := [z, .g (u.length + 1)]) ev_var (ev_rtup (r := [z, .g (u.length + 1)]) (ev_cons ev_var (ev_cons (ev_add1 ev_var) ev_nil)) (by simp)) ?_) ?_
    · rw [wg_len]
      simp at hl ⊢
      omega
    · have e : wg 0 u ++ [z, It.g (u.length + 1)] = wg 0 (u ++ [z]) := by rw [wg_snoc, Nat.zero_add]
      rw [e]
      have ih := wg_loop (C := C) (D0 := D0) (g := g) r (u ++ [z]) (some (natD u.length)) (some (eD z)) (by simp at hl ⊢; omega) (by simpa using hn)
      rw [List.length_append, List.length_singleton] at ih
      exact ih
theorem pu_with_gaps : ∀ ds g Q, sp_with_gaps ds g Q → c_with_gaps  { nx := fun _ g' => Fin Q .non g', rt := Fin Q } (cstart N_with_gaps ds) g := by
  intro ds g Q h
  unfold sp_with_gaps at h
  obtain ⟨r, rfl, hl, q⟩ := h
  refine ev_set (ev_rtup (r := [It.g 0]) (ev_cons ev_c ev_nil) (by simp)) ?_
  refine ⟨_, rfl, _, rfl, ?_⟩
  rw [onTwo_enm]
  refine wg_loop (D0 := rowD r) r [] none none (by simpa using hl) (fun o2 o3 => ?_)
  exact ev_ret ev_var (fin_of q)

/-! ### without_gaps -/
@[irreducible] def sp_without_gaps : CSp := fun ds g Q => ∃ r : RowS, ds = [rowD r] ∧ r.length ≤ 100000 ∧ Q (.key ((named r).map kIt)) g
theorem isi_int {s : CSt} {g : GH} {c : CE} {a : It Str} (h : EvE c s g (eD a)) : EvT (cB (cIsi "int" c)) s g a.isG := by
  have h1 : okTy (eD a) = true := by
    cases a with
    | n b x => cases b <;> rfl
    | g k => rfl
  have e : decide (tyD (eD a) = "int") = a.isG := by
    cases a with
    | n b x => cases b <;> rfl
    | g k => rfl
  refine ev_B fun R q => h _ ⟨h1, ?_⟩
  rw [e]
  exact q
theorem pu_without_gaps : ∀ ds g Q, sp_without_gaps ds g Q → c_without_gaps  { nx := fun _ g' => Fin Q .non g', rt := Fin Q } (cstart N_without_gaps ds) g := by
  intro ds g Q h
  unfold sp_without_gaps at h
  obtain ⟨r, rfl, hl, q⟩ := h
  refine ⟨_, rfl, _, rfl, fun l hl' => ?_⟩
  rw [onEach_map]
  refine lc_run (fun a s => s.set 1 (some (eD a))) (fun a => !a.isG) eD (fun _ => trivial) r [] (by simp; omega) (fun a _ ys R w => ev_not (isi_int (a := a) ev_var) R w) (fun a _ _ ys R w => ev_var rfl R w) ?_
  rw [List.nil_append]
  have e : (r.filter fun a => !a.isG).map eD = ((named r).map kIt).map kD := by
    unfold named
    rw [List.map_map]
    exact List.map_congr_left fun a _ => (kIt_D a).symm
  rw [e]
  refine ⟨_, gupd_same, ?_⟩
  exact ⟨g, .new hl', q⟩

/-! ### filled_row -/
/-- a list of rows, told by places -/
@[irreducible] def sp_filled_row : CSp := fun ds g Q => ∃ (r : RowS) (a : Addr) (fs : List RowS), ds = [rowD r, .ref a] ∧ g a = some (.lst (fs.map rowD)) ∧ (∀ k, It.g k ∈ r → k < fs.length) ∧ r.length ≤ 1000 ∧ (∀ z ∈ fs, z.length ≤ 100) ∧ Q (rowD (fil (fun k => fs.getD k []) r)) g
theorem fil_len {f : Nat → RowS} (hf : ∀ k, (f k).length ≤ 100) : ∀ r : RowS, (fil f r).length ≤ 100 * r.length
  | [] => Nat.zero_le _
  | .g k :: r => by
    rw [fil_g, List.length_append, List.length_cons]
    have := fil_len hf r
    have := hf k
    omega
  | .n b x :: r => by
    rw [fil_n, List.length_cons, List.length_cons]
    have := fil_len hf r
    omega
theorem getD_len {fs : List RowS} (h : ∀ z ∈ fs, z.length ≤ 100) (k : Nat) : (fs.getD k []).length ≤ 100 := by
  rw [List.getD_eq_getElem?_getD]
  cases e : fs[k]? with
  | none => exact Nat.zero_le _
  | some z => exact h z (List.mem_of_getElem? e)
theorem fr_loop {C : CEnds} {D0 : D} {g : GH} {a : Addr} {fs : List RowS} (ga : g a = some (.lst (fs.map rowD))) (hz : ∀ z ∈ fs, z.length ≤ 100) : ∀ (r u : RowS) (o3 : Option D), (∀ k, It.g k ∈ r → k < fs.length) → u.length + r.length ≤ 1000 →
    (∀ o3, C.nx [some D0, some (.ref a), some (rowD (fil (fun k => fs.getD k []) (u ++ r))), o3] g) →
    cLoop (cSet 2 (cOp fAdd (cVar 2) (cIf (cB (cIsi "int" (cVar 3))) (cOp fIx (cVar 1) (cVar 3)) (cTup (cCons (cVar 3) cNil))))) C (fun _ => True) (r.map fun z s => s.set 3 (some (eD z))) [some D0, some (.ref a), some (rowD (fil (fun k => fs.getD k []) u)), o3] g
  | [], u, o3, _, _, hn => ⟨trivial, by have := hn o3; rw [List.append_nil] at this; exact this⟩
  | z :: r, u, o3, hk, hl, hn => by
    have hlen := fil_len (getD_len hz) u
    have hl' : u.length + r.length + 1 ≤ 1000 := by simp at hl; omega
    have step : fil (fun k => fs.getD k []) (u ++ [z]) = fil (fun k => fs.getD k []) u ++ fil (fun k => fs.getD k []) [z] := fil_app _ _ _
    have e3 : EvE (cIf (cB (cIsi "int" (cVar 3))) (cOp fIx (cVar 1) (cVar 3)) (cTup (cCons (cVar 3) cNil))) [some D0, some (.ref a), some (rowD (fil (fun k => fs.getD k []) u)), some (eD z)] g (rowD (fil (fun k => fs.getD k []) [z])) := fun R q => by
      refine isi_int (a := z) ev_var _ ?_
      cases z with
      | n b x => exact ev_rtup (r := [It.n b x]) (ev_cons ev_var ev_nil) (by simp) _ q
      | g k =>
        have hkl := hk k List.mem_cons_self
        have hat : atI (fs.map rowD) (k : Int) = some (rowD (fs.getD k [])) := by
          have e : ixN (fs.map rowD).length (k : Int) = some k := by
            unfold ixN
            rw [List.length_map]
            have h0 : (0 : Int) ≤ (k : Int) := Int.natCast_nonneg k
            simp [h0, hkl]
          show (ixN (fs.map rowD).length (k : Int)).bind (fun j => (fs.map rowD)[j]?) = _
          rw [e]
          show (fs.map rowD)[k]? = _
          rw [List.getElem?_map, List.getD_eq_getElem?_getD, List.getElem?_eq_getElem hkl]
          rfl
        refine ev_ixL ev_var ga (ev_var (d := natD k)) hat _ ?_
        have e : fil (fun k => fs.getD k []) [It.g k] = fs.getD k [] := by
          show fs.getD k [] ++ [] = _
          rw [List.append_nil]
        rw [e] at q
        exact q
    have l1 : (fil (fun k => fs.getD k []) [z]).length ≤ 100 := by
      have := fil_len (getD_len hz) [z]
      simpa using this
    refine ⟨trivial, ?_⟩
    refine ev_set (ev_cat ev_var e3 (by omega)) ?_
    rw [← step]
    exact fr_loop ga hz r (u ++ [z]) _ (fun k hk' => hk k (List.mem_cons_of_mem _ hk')) (by simp; omega) (by simpa using hn)
theorem pu_filled_row : ∀ ds g Q, sp_filled_row ds g Q → c_filled_row  { nx := fun _ g' => Fin Q .non g', rt := Fin Q } (cstart N_filled_row ds) g := by
  intro ds g Q h
  unfold sp_filled_row at h
  obtain ⟨r, a, fs, rfl, ga, hk, hl, hz, q⟩ := h
  refine ev_set (ev_rtup (r := ([] : RowS)) ev_nil (by simp)) ?_
  refine ⟨_, rfl, _, rfl, ?_⟩
  rw [onEach_map]
  refine fr_loop (D0 := rowD r) ga hz r [] none hk (by simpa using hl) (fun o3 => ?_)
  exact ev_ret ev_var (fin_of q)

/-! ### leaf -/
@[irreducible] def sp_leaf : CSp := fun ds g Q => ∃ x : Str, ds = [.str x] ∧ NmOk x ∧ Q (rowD (lf x)) g
theorem pu_leaf : ∀ ds g Q, sp_leaf ds g Q → c_leaf sp_end_of sp_begin_of { nx := fun _ g' => Fin Q .non g', rt := Fin Q } (cstart N_leaf ds) g := by
  intro ds g Q h
  unfold sp_leaf at h
  obtain ⟨x, rfl, hx, q⟩ := h
  exact ev_ret (ev_rtup (r := lf x) (ev_cons (ev_beg ev_var hx) (ev_cons (ev_end ev_var hx) ev_nil)) (by simp [lf])) (fin_of q)
end CL

/-! P4: woods (printed from P4.src by pp.py). -/
namespace CL
open PySem PySem.Spec PyProof.Rows L2 TM

/-! ### woods -/
/-- a wood: the first tree's name, what it holds, the trees behind it -/
inductive F where
  | nil
  | cons (x : Str) (k r : F)
def ft : F → List D
  | .nil => []
  | .cons x k r => .tup [.str x, .tup (ft k)] :: ft r
def fr : F → RowS
  | .nil => []
  | .cons x k r => .b x :: (fr k ++ .e x :: fr r)
def F.names : F → List Str
  | .nil => []
  | .cons x k r => x :: (k.names ++ r.names)
theorem fr_whole : ∀ f, Whole (fr f)
  | .nil => fun z hz => nomatch hz
  | .cons x k r => fun z hz => by
    rcases List.mem_cons.mp hz with e | hz
    · rw [e]; rfl
    · rcases List.mem_append.mp hz with q | q
      · exact fr_whole k z q
      · rcases List.mem_cons.mp q with e | q
        · rw [e]; rfl
        · exact fr_whole r z q
theorem fr_bal : ∀ f, Bal (fr f)
  | .nil => bal_nil
  | .cons x k r => fun st => by
    have e : fr (.cons x k r) = (.b x :: (fr k ++ [.e x])) ++ fr r := by simp [fr]
    rw [e]
    exact bal_app (bal_wrap (fr_bal k) x) (fr_bal r) st
theorem fr_names : ∀ (f : F) (x : Str), It.b x ∈ fr f ↔ x ∈ f.names
  | .nil, x => by simp [fr, F.names]
  | .cons y k r, x => by
    simp only [fr, F.names, List.mem_cons, List.mem_append, fr_names k, fr_names r]
    constructor
    · rintro (q | q | q | q)
      · injection q with _ q; exact .inl q
      · exact .inr (.inl q)
      · cases q
      · exact .inr (.inr q)
    · rintro (q | q | q)
      · rw [q]; exact .inl rfl
      · exact .inr (.inl q)
      · exact .inr (.inr (.inr q))
theorem fr_len : ∀ f : F, (fr f).length = 2 * f.names.length
  | .nil => rfl
  | .cons x k r => by
    simp only [fr, F.names, List.length_cons, List.length_append, fr_len k, fr_len r]
    omega
/-- every right row is a wood's -/
theorem row_wood : ∀ (n : Nat) (r : RowS), r.length ≤ n → Whole r → run [] r = some [] → ∃ f, fr f = r
  | _, [], _, _, _ => ⟨.nil, rfl⟩
  | 0, z :: r, h, _, _ => by simp at h
  | n + 1, .n true x :: r, h, w, b => by
    obtain ⟨m, v, s, e, h1, h2, h3⟩ := run_cut (u := []) (x := x) (v := r) (st := []) b
    have hs : s = [] := (Option.some.inj h2).symm
    subst hs
    subst e
    have wm : Whole m := fun z hz => w z (by simp [hz])
    have wv : Whole v := fun z hz => w z (by simp [hz])
    simp only [List.length_cons, List.length_append] at h
    obtain ⟨k, hk⟩ := row_wood n m (by omega) wm (h1 [])
    obtain ⟨t, ht⟩ := row_wood n v (by omega) wv h3
    exact ⟨.cons x k t, by simp only [fr, hk, ht]⟩
  | n + 1, .n false x :: r, h, w, b => by cases b
  | n + 1, .g k :: r, h, w, b => by
    have := w _ List.mem_cons_self
    cases this
theorem fr_inj : ∀ {f f' : F}, fr f = fr f' → f = f'
  | .nil, .nil, _ => rfl
  | .nil, .cons _ _ _, h => by cases h
  | .cons _ _ _, .nil, h => by cases h
  | .cons x k r, .cons x' k' r', h => by
    simp only [fr] at h
    injection h with h1 h2
    injection h1 with _ hx
    subst hx
    have key : ∀ {m v m' v' : RowS}, Bal m → Bal m' → m ++ .e x :: v = m' ++ .e x :: v' → m = m' ∧ v = v' := by
      intro m v m' v' b b' e
      have aux : ∀ {a a' c c' : RowS}, Bal a → Bal a' → a.length ≤ a'.length → a ++ .e x :: c = a' ++ .e x :: c' → a = a' := by
        intro a a' c c' ba ba' hl e
        obtain ⟨t, rfl⟩ : ∃ t, a' = a ++ t := by
          have := List.append_eq_append_iff.mp e
          rcases this with ⟨t, h1, _⟩ | ⟨t, h1, _⟩
          · exact ⟨t, h1⟩
          · have hlen := congrArg List.length h1
            rw [List.length_append] at hlen
            have : t = [] := List.length_eq_zero_iff.mp (by omega)
            exact ⟨[], by rw [h1, this]; simp⟩
        cases t with
        | nil => simp
        | cons z t =>
          rw [List.append_assoc] at e
          have e2 := List.append_cancel_left e
          injection e2 with e3 e4
          subst e3
          have q := ba' []
          rw [run_app, ba []] at q
          cases q
      rcases Nat.le_total m.length m'.length with hl | hl
      · have q := aux b b' hl e
        subst q
        have e2 := List.append_cancel_left e
        injection e2 with _ e3
        exact ⟨rfl, e3⟩
      · have q := aux b' b hl e.symm
        subst q
        have e2 := List.append_cancel_left e
        injection e2 with _ e3
        exact ⟨rfl, e3⟩
    obtain ⟨q1, q2⟩ := key (fr_bal k) (fr_bal k') h2
    rw [fr_inj q1, fr_inj q2]
theorem ft_inj : ∀ {f f' : F}, ft f = ft f' → f = f'
  | .nil, .nil, _ => rfl
  | .nil, .cons _ _ _, h => by cases h
  | .cons _ _ _, .nil, h => by cases h
  | .cons x k r, .cons x' k' r', h => by
    simp only [ft] at h
    injection h with h1 h2
    injection h1 with h1
    injection h1 with h3 h4
    injection h3 with h3
    injection h4 with h4 _
    injection h4 with h4
    rw [h3, ft_inj h4, ft_inj h2]
def woodD (f : F) : D := .tup (ft f)
/-- names of a row are short -/
def RowNm (r : RowS) : Prop := ∀ b x, It.n b x ∈ r → NmOk x

/-! ### strs -/
theorem tail_plus (x : Str) (c : Str) (hc : c.length = 1) : cutS (c ++ x) (some 1) none = x := by
  unfold cutS
  have e : (c ++ x).cps = c.cps ++ x.cps := rfl
  have el : (c ++ x).length = 1 + x.length := by
    show (c.cps ++ x.cps).size = _
    rw [Array.size_append]
    have : c.cps.size = 1 := hc
    rw [this]
    rfl
  have e1 : HT.sIx (c ++ x).length 0 (some 1) = 1 := by
    have := HT.sIx_nat (c ++ x).length 0 1
    rw [show ((1 : Nat) : Int) = 1 from rfl] at this
    rw [this, el]
    omega
  rw [e1, HT.sIx_none, el, e, Array.toList_append]
  have hl : c.cps.toList.length = 1 := by rw [Array.length_toList]; exact hc
  have hx : x.cps.toList.length = x.length := Array.length_toList
  have e2 : (c.cps.toList ++ x.cps.toList).drop 1 = x.cps.toList := by
    rw [← hl, List.drop_left]
  rw [e2, List.take_of_length_le (by omega), Array.toArray_toList]
theorem plus1 : ("+" : Str).length = 1 := by decide +kernel
theorem minus1 : ("-" : Str).length = 1 := by decide +kernel
theorem head_at (c x : Str) (n : Nat) (hc : c.cps.toList = [n]) : atI (c ++ x).cps.toList 0 = some n := by
  have e : (c ++ x).cps.toList = n :: x.cps.toList := by
    show (c.cps ++ x.cps).toList = _
    rw [Array.toList_append, hc]
    rfl
  rw [e]
  show (ixN (n :: x.cps.toList).length 0).bind (fun j => (n :: x.cps.toList)[j]?) = _
  have h : ixN (n :: x.cps.toList).length 0 = some 0 := by
    unfold ixN
    simp
  rw [h]
  rfl
theorem app_len (c x : Str) (hc : c.length = 1) (hx : NmOk x) : lim (c ++ x).length := by
  have el : (c ++ x).length = 1 + x.length := by
    show (c.cps ++ x.cps).size = _
    rw [Array.size_append]
    have : c.cps.size = 1 := hc
    rw [this]
    rfl
  rw [el]
  unfold lim NmOk at *
  omega
section
variable {s : CSt} {g : GH}
/-- end[0] == '+' -/
theorem ev_isb {c : CE} {b : Bool} {x : Str} (h : EvE c s g (eD (.n b x))) (hx : NmOk x) : EvT (cB (cOp (fEq false) (cOp fIx c (cC (.int 0))) (cC (.str "+")))) s g b := by
  have h0 : EvE (cOp fIx c (cC (.int 0))) s g (.str (if b then "+" else "-")) := fun R q => h _ (by
    cases b with
    | true => exact ⟨43, app_len _ x plus1 hx, head_at _ x 43 (by decide +kernel), by
        have e : (⟨#[43]⟩ : Str) = "+" := by decide +kernel
        rw [e]
        exact q⟩
    | false => exact ⟨45, app_len _ x minus1 hx, head_at _ x 45 (by decide +kernel), by
        have e : (⟨#[45]⟩ : Str) = "-" := by decide +kernel
        rw [e]
        exact q⟩)
  have h1 := ev_B (ev_eqS h0 (ev_c (d := .str "+")))
  have e : decide ((if b then ("+" : Str) else "-") = "+") = b := by cases b <;> decide +kernel
  rw [e] at h1
  exact h1
/-- end[1:] -/
theorem ev_nm {c : CE} {b : Bool} {x : Str} (h : EvE c s g (eD (.n b x))) (hx : NmOk x) : EvE (cSl c (oSome (cC (.int 1))) oNone) s g (.str x) := fun R q => h _ (by
    cases b with
    | true => exact ⟨1, rfl, app_len _ x plus1 hx, by rw [tail_plus x _ plus1]; exact q⟩
    | false => exact ⟨1, rfl, app_len _ x minus1 hx, by rw [tail_plus x _ minus1]; exact q⟩)
end

/-! ### lists -/
section
variable {s : CSt} {g : GH} {o e : CE} {C : CEnds} {A : Addr} {xs : List D} {d : D}
theorem st_append (ho : EvE o s g (.ref A)) (hA : g A = some (.lst xs)) (he : EvE e s g d) (hl : xs.length ≤ 1000000) (k : C.nx s (gupd g A (.lst (xs ++ [d])))) : cDrop (cMet fAppend o (cCons e cNil)) C s g :=
  ho _ ⟨⟨A, xs, rfl, hA⟩, he _ ⟨xs, hA, hl, k⟩⟩
theorem st_appends {rs : CS} (ho : EvE o s g (.ref A)) (hA : g A = some (.lst xs)) (he : EvE e s g d) (hl : xs.length ≤ 1000000) (k : rs C s (gupd g A (.lst (xs ++ [d])))) : cSeq (cDrop (cMet fAppend o (cCons e cNil))) rs C s g :=
  ho _ ⟨⟨A, xs, rfl, hA⟩, he _ ⟨xs, hA, hl, k⟩⟩
/-- xs.append([]) -/
theorem st_append0 (ho : EvE o s g (.ref A)) (hA : g A = some (.lst xs)) (hl : xs.length ≤ 1000000) (k : ∀ p, g p = none → C.nx s (gupd (gupd g p (.lst [])) A (.lst (xs ++ [.ref p])))) : cDrop (cMet fAppend o (cCons (cLst cNil) cNil)) C s g :=
  ho _ ⟨⟨A, xs, rfl, hA⟩, lim_ok (by simp), fun p hp => ⟨xs, gup_free hA hp, hl, k p hp⟩⟩
theorem st_extT {zs : List D} (ho : EvE o s g (.ref A)) (hA : g A = some (.lst xs)) (he : EvE e s g (.tup zs)) (hl : xs.length + zs.length ≤ 1000000) (k : C.nx s (gupd g A (.lst (xs ++ zs)))) : cDrop (cMet fExtend o (cCons e cNil)) C s g :=
  ho _ ⟨⟨A, xs, rfl, hA⟩, he _ ⟨xs, hA, hl, k⟩⟩
theorem st_pops {i : Nat} {rs : CS} (ho : EvE o s g (.ref A)) (hA : g A = some (.lst (xs ++ [d]))) (k : rs C (s.set i (some d)) (gupd g A (.lst xs))) : cSeq (cSet i (cMet fPop o cNil)) rs C s g :=
  ho _ ⟨⟨A, _, rfl, hA⟩, xs ++ [d], d, hA, by
    rw [List.length_append, List.length_singleton, Nat.add_sub_cancel, List.getElem?_append_right (Nat.le_refl _)]
    simp, by rw [List.dropLast_concat]; exact k⟩
theorem ev_m1 : EvE (cNeg (cC (.int 1))) s g (.int (-1)) := fun R q => ⟨1, rfl, q⟩
/-- x = tuple(xs.pop()) -/
theorem st_tupPop {i : Nat} {rs : CS} {p : Addr} {zs : List D} (ho : EvE o s g (.ref A)) (hA : g A = some (.lst (xs ++ [.ref p]))) (hne : p ≠ A) (hp : g p = some (.lst zs)) (k : rs C (s.set i (some (.tup zs))) (gupd g A (.lst xs))) : cSeq (cSet i (cCall fTupOf (cCons (cMet fPop o cNil) cNil))) rs C s g :=
  ho _ ⟨⟨A, _, rfl, hA⟩, xs ++ [.ref p], .ref p, hA, by
    rw [List.length_append, List.length_singleton, Nat.add_sub_cancel, List.getElem?_append_right (Nat.le_refl _)]
    simp, by rw [List.dropLast_concat]; exact ⟨zs, by rw [gupd_ne hne]; exact hp, k⟩⟩
theorem ev_rev {zs : List D} (h : EvE e s g (.tup zs)) : EvE (cRevT e) s g (.tup zs.reverse) := fun R q => h _ ⟨zs, rfl, q⟩
theorem ev_neNil {R : Bool → GH → Prop} (ho : EvE o s g (.ref A)) (hA : g A = some (.lst xs)) (ok : okPys xs = true) (k : ∀ E, g E = none → R (!xs.isEmpty) (gupd g E (.lst []))) : cB (cOp (fEq true) o (cLst cNil)) s g R :=
  ho _ ⟨lim_ok (by simp), fun E hE => ⟨xs, gup_free hA hE, gupd_same, ok, _, rfl, k E hE⟩⟩
end
/-! ### wood_from -/
@[irreducible] def sp_wood_from : CSp := fun ds g Q => ∃ f : F, ds = [rowD (fr f)] ∧ (∀ x ∈ f.names, NmOk x) ∧ f.names.length ≤ 1000 ∧ Q (woodD f) g
abbrev wfBody : CS := cIfS (cB (cOp (fEq false) (cOp fIx (cVar 2) (cC (.int 0))) (cC (.str "+")))) (cDrop (cMet fAppend (cVar 1) (cCons (cLst cNil) cNil))) (cSeq (cSet 3 (cCall fTupOf (cCons (cMet fPop (cVar 1) cNil) cNil)))
    (cDrop (cMet fAppend (cOp fIx (cVar 1) (cNeg (cC (.int 1)))) (cCons (cTup (cCons (cSl (cVar 2) (oSome (cC (.int 1))) oNone) (cCons (cVar 3) cNil))) cNil))))
theorem last_at (xs : List D) (d : D) : atI (xs ++ [d]) (-1) = some d := by
  show (ixN (xs ++ [d]).length (-1)).bind (fun j => (xs ++ [d])[j]?) = _
  have h : ixN (xs ++ [d]).length (-1) = some xs.length := by
    unfold ixN
    rw [List.length_append, List.length_singleton]
    have h0 : ¬ ((0 : Int) ≤ -1) := by decide
    have h1 : (0 : Int) ≤ -1 + ((xs.length + 1 : Nat) : Int) := by omega
    have h2 : ((-1 : Int) + ((xs.length + 1 : Nat) : Int)).toNat = xs.length := by omega
    simp only [h0, h1, h2, if_false, if_true]
    simp
    omega
  rw [h]
  show (xs ++ [d])[xs.length]? = _
  rw [List.getElem?_append_right (Nat.le_refl _)]
  simp
theorem wf_loop {C : CEnds} {D0 : D} {L : Addr} : ∀ (f : F) (rs : RowS) (S : List D) (top : Addr) (xs : List D) (o2 o3 : Option D) (g : GH), (∀ x ∈ f.names, NmOk x) → S.length + f.names.length ≤ 10000 → xs.length + f.names.length ≤ 10000 → L ≠ top → g L = some (.lst (S ++ [.ref top])) → g top = some (.lst xs) →
    (∀ o2 o3 g', g' top = some (.lst (xs ++ ft f)) → (∀ a m, a ≠ top → g a = some m → g' a = some m) → cLoop wfBody C (fun _ => True) (rs.map fun z s => s.set 2 (some (eD z))) [some D0, some (.ref L), o2, o3] g') →
    cLoop wfBody C (fun _ => True) ((fr f ++ rs).map fun z s => s.set 2 (some (eD z))) [some D0, some (.ref L), o2, o3] g
  | .nil, rs, S, top, xs, o2, o3, g, _, _, _, hne, gL, gt, k => k o2 o3 g (by simpa [ft] using gt) fun _ _ _ h => h
  | .cons x kf r, rs, S, top, xs, o2, o3, g, hx, hS, hl, hne, gL, gt, k => by
    have hx0 := hx x (by simp [F.names])
    have hlen : (F.cons x kf r).names.length = 1 + (kf.names.length + r.names.length) := by simp [F.names]; omega
    have e : (fr (.cons x kf r) ++ rs) = .b x :: (fr kf ++ (.e x :: (fr r ++ rs))) := by simp [fr]
    rw [e]
    refine ⟨trivial, ?_⟩
    refine ev_if (ev_isb (b := true) (x := x) (ev_var rfl) hx0) (fun _ => ?_) (fun e => by cases e)
    -- still.append([])
    refine st_append0 (ev_var rfl) gL (by rw [List.length_append]; simp; omega) fun p hp => ?_
    have hpL : p ≠ L := fun q => by rw [q, gL] at hp; cases hp
    have hpt : p ≠ top := fun q => by rw [q, gt] at hp; cases hp
    have g1L : (gupd (gupd g p (.lst [])) L (.lst (S ++ [D.ref top] ++ [.ref p]))) L = some (.lst (S ++ [D.ref top] ++ [.ref p])) := gupd_same
    have g1p : (gupd (gupd g p (.lst [])) L (.lst (S ++ [D.ref top] ++ [.ref p]))) p = some (.lst []) := by rw [gupd_ne hpL, gupd_same]
    have g1o : ∀ a m, a ≠ L → g a = some m → (gupd (gupd g p (.lst [])) L (.lst (S ++ [D.ref top] ++ [.ref p]))) a = some m := fun a m ha hm => by
      rw [gupd_ne ha]
      exact gup_free hm hp
    generalize gupd (gupd g p (.lst [])) L (.lst (S ++ [D.ref top] ++ [.ref p])) = g1 at g1L g1p g1o
    refine wf_loop kf _ (S ++ [.ref top]) p [] _ _ g1 (fun y hy => hx y (by simp [F.names, hy])) (by rw [List.length_append]; simp; omega) (by simp; omega) hpL.symm g1L g1p ?_
    intro o2 o3 g2 g2p g2o
    rw [List.nil_append] at g2p
    have g2L := g2o L _ hpL.symm g1L
    have g2t : g2 top = some (.lst xs) := g2o top _ hpt.symm (g1o top _ hne.symm gt)
    refine ⟨trivial, ?_⟩
    refine ev_if (ev_isb (b := false) (x := x) (ev_var rfl) hx0) (fun e => by cases e) (fun _ => ?_)
    -- inside = tuple(still.pop())
    refine st_tupPop (ev_var rfl) g2L hpL g2p ?_
    have g3L : (gupd g2 L (.lst (S ++ [D.ref top]))) L = some (.lst (S ++ [.ref top])) := gupd_same
    have g3t : (gupd g2 L (.lst (S ++ [D.ref top]))) top = some (.lst xs) := by rw [gupd_ne hne.symm]; exact g2t
    have g3o : ∀ a m, a ≠ L → g2 a = some m → (gupd g2 L (.lst (S ++ [D.ref top]))) a = some m := fun a m ha hm => by rw [gupd_ne ha]; exact hm
    generalize gupd g2 L (.lst (S ++ [D.ref top])) = g3 at g3L g3t g3o
    -- still[-1].append((end[1:], inside))
    refine st_append (ev_ixL (ev_var rfl) g3L ev_m1 (last_at S (.ref top))) g3t (ev_tup (ev_cons (ev_nm (b := false) (x := x) (ev_var rfl) hx0) (ev_cons (ev_var rfl) ev_nil)) (lim_ok (by simp))) (by omega) ?_
    refine wf_loop r rs S top (xs ++ [.tup [.str x, .tup (ft kf)]]) _ _ _ (fun y hy => hx y (by simp [F.names, hy])) (by omega) (by rw [List.length_append]; simp; omega) hne (by rw [gupd_ne hne]; exact g3L) gupd_same ?_
    intro o2 o3 g4 g4t g4o
    refine k o2 o3 g4 (by rw [g4t]; simp [ft]) fun a m ha hm => ?_
    by_cases haL : a = L
    · subst haL
      rw [gL] at hm
      cases hm
      exact g4o a _ ha (by rw [gupd_ne ha]; exact g3L)
    · have hap : a ≠ p := fun q => by rw [q, hp] at hm; cases hm
      exact g4o a m ha (by rw [gupd_ne ha]; exact g3o a m haL (g2o a m hap (g1o a m haL hm)))
theorem pu_wood_from : ∀ ds g Q, sp_wood_from ds g Q → c_wood_from  { nx := fun _ g' => Fin Q .non g', rt := Fin Q } (cstart N_wood_from ds) g := by
  intro ds g Q h
  unfold sp_wood_from at h
  obtain ⟨f, rfl, hx, hl, q⟩ := h
  refine ⟨lim_ok (by simp), fun t ht => ?_⟩
  refine ⟨lim_ok (by simp), fun L hL => ?_⟩
  have hne : L ≠ t := fun e => by rw [e, gupd_same] at hL; cases hL
  have g1L : (gupd (gupd g t (.lst [])) L (.lst [.ref t])) L = some (.lst ([] ++ [.ref t])) := gupd_same
  have g1t : (gupd (gupd g t (.lst [])) L (.lst [D.ref t])) t = some (.lst []) := by rw [gupd_ne hne.symm, gupd_same]
  have s1 : Sub g (gupd (gupd g t (.lst [])) L (.lst [D.ref t])) := (Sub.new ht).trans (.new hL)
  have s1' : ∀ a m, g a = some m → a ≠ t := fun a m h e => by rw [e, ht] at h; cases h
  generalize gupd (gupd g t (.lst [])) L (.lst [D.ref t]) = g1 at g1L g1t s1
  refine ⟨_, rfl, _, rfl, ?_⟩
  rw [onEach_map]
  have w := wf_loop (C := { nx := fun s' g' => cRet (cCall fTupOf (cCons (cOp fIx (cVar 1) (cC (.int 0))) cNil)) { nx := fun _ g' => Fin Q .non g', rt := Fin Q } s' g', rt := Fin Q }) (D0 := rowD (fr f)) f [] [] t [] none none g1 hx (by simp; omega) (by simp; omega) hne g1L g1t ?_
  · rw [List.append_nil] at w
    exact w
  intro o2 o3 g2 g2t g2o
  refine ⟨trivial, ?_⟩
  have g2L := g2o L _ hne g1L
  refine ev_ixL (ev_var rfl) g2L ev_c (d := .ref t) rfl _ ?_
  rw [List.nil_append] at g2t
  refine ⟨_, g2t, ⟨g, fun a m h => g2o a m (s1' a m h) (s1 a m h), q⟩⟩

/-! ### row_of -/
@[irreducible] def sp_row_of : CSp := fun ds g Q => ∃ f : F, ds = [woodD f] ∧ (∀ x ∈ f.names, NmOk x) ∧ f.names.length ≤ 1000 ∧ Q (rowD (fr f)) g
/-- what waits: an end, or a tree -/
inductive Wt where
  | e (x : Str)
  | t (x : Str) (k : F)
def Wt.d : Wt → D
  | .e x => eD (.e x)
  | .t x k => .tup [.str x, .tup (ft k)]
def Wt.r : Wt → RowS
  | .e x => [.e x]
  | .t x k => .b x :: (fr k ++ [.e x])
def Wt.nm : Wt → Str
  | .e x => x
  | .t x _ => x
def Wt.ok : Wt → Prop
  | .e x => NmOk x
  | .t x k => NmOk x ∧ ∀ y ∈ k.names, NmOk y
def trees : F → List Wt
  | .nil => []
  | .cons x k r => .t x k :: trees r
theorem trees_d : ∀ f, (trees f).map Wt.d = ft f
  | .nil => rfl
  | .cons x k r => by
    show Wt.d (.t x k) :: (trees r).map Wt.d = _
    rw [trees_d r]
    rfl
theorem trees_r : ∀ f, (trees f).flatMap Wt.r = fr f
  | .nil => rfl
  | .cons x k r => by
    show Wt.r (.t x k) ++ (trees r).flatMap Wt.r = _
    rw [trees_r r]
    simp [Wt.r, fr]
theorem trees_ok : ∀ f : F, (∀ x ∈ f.names, NmOk x) → ∀ w ∈ trees f, w.ok
  | .nil, _, w, hw => nomatch hw
  | .cons x k r, h, w, hw => by
    rcases List.mem_cons.mp hw with e | hw
    · rw [e]
      exact ⟨h x (by simp [F.names]), fun y hy => h y (by simp [F.names, hy])⟩
    · exact trees_ok r (fun y hy => h y (by simp [F.names, hy])) w hw
theorem trees_len : ∀ f : F, (trees f).length ≤ f.names.length
  | .nil => Nat.le_refl _
  | .cons x k r => by
    have := trees_len r
    simp only [trees, F.names, List.length_cons, List.length_append]
    omega
theorem wt_pos (w : Wt) : 1 ≤ w.r.length := by
  cases w <;> simp [Wt.r]
theorem wt_isstr {s : CSt} {g : GH} {c : CE} {w : Wt} (h : EvE c s g w.d) : EvT (cB (cIsi "str" c)) s g (match w with | .e _ => true | .t _ _ => false) := by
  cases w with
  | e x => exact ev_B fun R q => h _ ⟨rfl, q⟩
  | t x k => exact ev_B fun R q => h _ ⟨rfl, q⟩
theorem flat_len (ws : List Wt) : ws.length ≤ (ws.flatMap Wt.r).length := by
  induction ws with
  | nil => exact Nat.le_refl _
  | cons w ws ih =>
    rw [List.flatMap_cons, List.length_append, List.length_cons]
    have := wt_pos w
    omega
theorem rev_flat (ws : List Wt) (w : Wt) : ((ws ++ [w]).reverse.flatMap Wt.r) = w.r ++ ws.reverse.flatMap Wt.r := by simp
theorem okF : ∀ f : F, okPys (ft f) = true
  | .nil => rfl
  | .cons x k r => by
    show ((true && (okPys (ft k) && true)) && okPys (ft r)) = true
    rw [okF k, okF r]
    rfl
theorem okWs : ∀ ws : List Wt, okPys (ws.map Wt.d) = true
  | [] => rfl
  | w :: ws => by
    show (okPy w.d && okPys (ws.map Wt.d)) = true
    rw [okWs ws, Bool.and_true]
    cases w with
    | e x => rfl
    | t x k =>
      show (true && (okPys (ft k) && true)) = true
      rw [okF k]
      rfl
theorem pu_row_of : ∀ ds g Q, sp_row_of ds g Q → c_row_of sp_begin_of sp_end_of { nx := fun _ g' => Fin Q .non g', rt := Fin Q } (cstart N_row_of ds) g := by
  intro ds g Q h
  unfold sp_row_of at h
  obtain ⟨f, rfl, hx, hl, q⟩ := h
  refine ⟨lim_ok (by simp), fun A hA => ?_⟩
  refine ⟨_, rfl, _, rfl, ?_⟩
  refine fun B hB => ?_
  have hne : B ≠ A := fun e => by rw [e, gupd_same] at hB; cases hB
  have gA : (gupd (gupd g A (.lst [])) B (.lst (ft f).reverse)) A = some (.lst (([] : RowS).map eD)) := by rw [gupd_ne hne.symm, gupd_same]; rfl
  have gB : (gupd (gupd g A (.lst [])) B (.lst (ft f).reverse)) B = some (.lst ((trees f).reverse.map Wt.d)) := by rw [gupd_same, List.map_reverse, trees_d]
  have s1 : ∀ a m, g a = some m → a ≠ A ∧ a ≠ B := fun a m h => ⟨fun e => (by rw [e, hA] at h; cases h), fun e => (by
    have := Sub.new (m := .lst []) hA a m h
    rw [e, hB] at this
    cases this)⟩
  have s2 : ∀ a m, g a = some m → (gupd (gupd g A (.lst [])) B (.lst (ft f).reverse)) a = some m := (Sub.new hA).trans (.new hB)
  generalize gupd (gupd g A (.lst [])) B (.lst (ft f).reverse) = g1 at gA gB s2
  refine ⟨fun m s g' => ∃ (u : RowS) (ws : List Wt) (o3 : Option D), s = [some (woodD f), some (.ref A), some (.ref B), o3] ∧ g' A = some (.lst (u.map eD)) ∧ g' B = some (.lst (ws.map Wt.d)) ∧ (∀ w ∈ ws, w.ok) ∧
    u ++ ws.reverse.flatMap Wt.r = fr f ∧ m = (ws.reverse.flatMap Wt.r).length ∧ ∀ a m, g a = some m → g' a = some m, ⟨_, [], (trees f).reverse, none, rfl, gA, gB, fun w hw => trees_ok f hx w (List.mem_reverse.mp hw), ?_, rfl, s2⟩, ?_⟩
  · rw [List.reverse_reverse, trees_r]; rfl
  rintro m s g' ⟨u, ws, o3, rfl, gA, gB, hok, hu, hm, s3⟩
  have hfl := congrArg List.length hu
  rw [List.length_append, fr_len] at hfl
  -- while waiting != []
  have okw : okPys (ws.map Wt.d) = true := by
    exact okWs ws
  refine ev_neNil (ev_var rfl) gB okw fun E hE => ?_
  have s4 : ∀ a m, g a = some m → (gupd g' E (.lst [])) a = some m := fun a m h => gup_free (s3 a m h) hE
  have gA4 : (gupd g' E (.lst [])) A = some (.lst (u.map eD)) := gup_free gA hE
  have gB4 : (gupd g' E (.lst [])) B = some (.lst (ws.map Wt.d)) := gup_free gB hE
  generalize gupd g' E (.lst []) = g2 at s4 gA4 gB4
  rcases List.eq_nil_or_concat ws with rfl | ⟨ws, w, rfl⟩
  · -- the end
    have hu' : u = fr f := by simpa using hu
    subst hu'
    refine te2 (fun e => by cases e) (fun _ => ?_)
    refine ev_var rfl _ ?_
    exact ⟨_, gA4, ⟨g, s4, q⟩⟩
  · simp only [List.concat_eq_append] at *
    have hem : ((ws ++ [w]).map Wt.d).isEmpty = false := by simp
    rw [hem]
    refine te2 (fun _ => ?_) (fun e => by cases e)
    rw [rev_flat] at hu hm hfl
    have hwok := hok w (by simp)
    -- item = waiting.pop()
    rw [List.map_append] at gB4
    refine st_pops (d := w.d) (ev_var rfl) gB4 ?_
    have g5A : (gupd g2 B (.lst (ws.map Wt.d))) A = some (.lst (u.map eD)) := by rw [gupd_ne hne.symm]; exact gA4
    have g5B : (gupd g2 B (.lst (ws.map Wt.d))) B = some (.lst (ws.map Wt.d)) := gupd_same
    have s5 : ∀ a m, g a = some m → (gupd g2 B (.lst (ws.map Wt.d))) a = some m := fun a m h => by rw [gupd_ne (s1 a m h).2]; exact s4 a m h
    generalize gupd g2 B (.lst (ws.map Wt.d)) = g5 at g5A g5B s5
    have hul : u.length ≤ 2000 := by rw [List.length_append] at hfl; omega
    refine ev_if (wt_isstr (w := w) (ev_var rfl)) (fun e => ?_) (fun e => ?_)
    · cases w with
      | t x k => cases e
      | e x =>
        refine st_append (ev_var rfl) g5A (ev_var rfl) (by rw [List.length_map]; omega) ?_
        refine ⟨_, ?_, u ++ [.e x], ws, _, rfl, ?_, ?_, fun v hv => hok v (by simp [hv]), ?_, rfl, ?_⟩
        · rw [hm, List.length_append]
          simp [Wt.r]
        · rw [gupd_same, List.map_append]
          rfl
        · rw [gupd_ne hne]; exact g5B
        · rw [← hu]; simp [Wt.r]
        · intro a m h
          rw [gupd_ne (s1 a m h).1]
          exact s5 a m h
    · cases w with
      | e x => cases e
      | t x k =>
        obtain ⟨hx0, hk⟩ := hwok
        -- found.append(begin_of(item[0]))
        refine st_appends (ev_var rfl) g5A (ev_beg (ev_ix (xs := [.str x, .tup (ft k)]) (ev_var rfl) ev_c (d := .str x) rfl) hx0) (by rw [List.length_map]; omega) ?_
        have g6A : (gupd g5 A (.lst (u.map eD ++ [eD (.b x)]))) A = some (.lst ((u ++ [It.b x]).map eD)) := by rw [gupd_same, List.map_append]; rfl
        have g6B : (gupd g5 A (.lst (u.map eD ++ [eD (.b x)]))) B = some (.lst (ws.map Wt.d)) := by rw [gupd_ne hne]; exact g5B
        have s6 : ∀ a m, g a = some m → (gupd g5 A (.lst (u.map eD ++ [eD (.b x)]))) a = some m := fun a m h => by rw [gupd_ne (s1 a m h).1]; exact s5 a m h
        generalize gupd g5 A (.lst (u.map eD ++ [eD (.b x)])) = g6 at g6A g6B s6
        have hws : ws.length ≤ 2000 := by
          have h1 := flat_len ws.reverse
          rw [List.length_reverse] at h1
          rw [List.length_append] at hfl
          omega
        -- waiting.append(end_of(item[0]))
        refine st_appends (ev_var rfl) g6B (ev_end (ev_ix (xs := [.str x, .tup (ft k)]) (ev_var rfl) ev_c (d := .str x) rfl) hx0) (by rw [List.length_map]; omega) ?_
        have g7A : (gupd g6 B (.lst (ws.map Wt.d ++ [eD (.e x)]))) A = some (.lst ((u ++ [It.b x]).map eD)) := by rw [gupd_ne hne.symm]; exact g6A
        have g7B : (gupd g6 B (.lst (ws.map Wt.d ++ [eD (.e x)]))) B = some (.lst ((ws ++ [Wt.e x]).map Wt.d)) := by rw [gupd_same, List.map_append]; rfl
        have s7 : ∀ a m, g a = some m → (gupd g6 B (.lst (ws.map Wt.d ++ [eD (.e x)]))) a = some m := fun a m h => by rw [gupd_ne (s1 a m h).2]; exact s6 a m h
        generalize gupd g6 B (.lst (ws.map Wt.d ++ [eD (.e x)])) = g7 at g7A g7B s7
        have hkl : k.names.length ≤ 1000 := by
          have h2 : (Wt.r (.t x k)).length = 2 * k.names.length + 2 := by
            simp only [Wt.r, List.length_cons, List.length_append, List.length_nil, fr_len]
          rw [List.length_append] at hfl
          omega
        -- waiting.extend(item[1][::-1])
        refine st_extT (ev_var rfl) g7B (ev_rev (ev_ix (xs := [.str x, .tup (ft k)]) (ev_var rfl) ev_c (d := .tup (ft k)) rfl)) ?_ ?_
        · have := trees_len k
          rw [← trees_d k, List.length_reverse, List.length_map, List.length_map, List.length_append]
          simp
          omega
        refine ⟨_, ?_, u ++ [.b x], ws ++ [.e x] ++ (trees k).reverse, _, rfl, ?_, ?_, ?_, ?_, rfl, ?_⟩
        · rw [hm]
          simp [Wt.r, trees_r]
        · rw [gupd_ne hne.symm]; exact g7A
        · rw [gupd_same, List.map_append (l₂ := (trees k).reverse), List.map_reverse, trees_d, List.map_append]
        · intro v hv
          rcases List.mem_append.mp hv with hv | hv
          · rcases List.mem_append.mp hv with hv | hv
            · exact hok v (by simp [hv])
            · rw [List.mem_singleton.mp hv]
              exact hx0
          · exact trees_ok k hk v (List.mem_reverse.mp hv)
        · rw [← hu]
          simp [Wt.r, trees_r]
        · intro a m h
          rw [gupd_ne (s1 a m h).2]
          exact s7 a m h
end CL

/-! P5: roles, names, gaps, leaves (printed from P5.src by pp.py). -/
namespace CL
open PySem PySem.Spec PyProof.Rows L2 TM

/-! ### makes, roles -/
@[irreducible] def sp_makes : CSp := fun ds g Q => ∃ (d : DeedS) (k : Nat), ds = [deedD d, natD k] ∧ Q (.bl ((decide (d.w = .wrap) && decide (k = 2)) || (decide (d.w = .put) && decide (k = 1)))) g
section
variable {s : CSt} {g : GH}
theorem ev_eqN {a b : CE} {i j : Nat} (ha : EvE a s g (natD i)) (hb : EvE b s g (natD j)) : EvE (cOp (fEq false) a b) s g (.bl (decide (i = j))) := ev_op ha hb fun R q => by
  have e : decide ((i : Int) = (j : Int)) = decide (i = j) := decide_eq_decide.mpr (by omega)
  show R (.bl (if false = true then !decide ((i : Int) = (j : Int)) else decide ((i : Int) = (j : Int)))) g
  rw [if_neg Bool.false_ne_true, e]
  exact q
theorem ev_wV {c : CE} {w v : W} (h : EvE c s g (.str (wS w))) : EvE (cOp (fEq false) c (cC (.str (wS v)))) s g (.bl (decide (w = v))) := by
  have q := ev_eqS h (ev_c (d := .str (wS v)))
  rw [w_dec] at q
  exact q
theorem ev_andV {a b : CE} {x y : Bool} (ha : EvE a s g (.bl x)) (hb : EvE b s g (.bl y)) : EvE (cAndV a b) s g (.bl (x && y)) := fun R q => ha _ ⟨x, rfl, te2 (fun e => hb _ (by rw [e] at q; exact q)) fun e => by rw [e] at q; exact q⟩
theorem ev_orV {a b : CE} {x y : Bool} (ha : EvE a s g (.bl x)) (hb : EvE b s g (.bl y)) : EvE (cOrV a b) s g (.bl (x || y)) := fun R q => ha _ ⟨x, rfl, te2 (fun e => by rw [e] at q; exact q) fun e => hb _ (by rw [e] at q; exact q)⟩
end
theorem pu_makes : ∀ ds g Q, sp_makes ds g Q → c_makes  { nx := fun _ g' => Fin Q .non g', rt := Fin Q } (cstart N_makes ds) g := by
  intro ds g Q h
  unfold sp_makes at h
  obtain ⟨d, k, rfl, q⟩ := h
  refine ev_ret (ev_orV (ev_andV (ev_wV (v := .wrap) (ev_ix ev_var ev_c (deed0 d))) (ev_eqN (i := k) (j := 2) ev_var ev_c)) (ev_andV (ev_wV (v := .put) (ev_ix ev_var ev_c (deed0 d))) (ev_eqN (i := k) (j := 1) ev_var ev_c))) (fin_of q)
/-- the roles found so far -/
def setd (L : List (Str × Bool)) (p : Str × Bool) : List (Str × Bool) := if p.1 ∈ L.map (·.1) then L else L ++ [p]
def encR (L : List (Str × Bool)) : List (Key × D) := L.map fun p => (.inr p.1, .bl p.2)
theorem role_setd (L : List (Str × Bool)) (p : Str × Bool) (x : Str) : role (setd L p) x = role (L ++ [p]) x := by
  unfold setd
  split
  · rename_i h
    rw [role_app]
    cases hr : role L x with
    | some b => rfl
    | none =>
      have hx : x ∉ L.map (·.1) := role_none.mp hr
      have hne : p.1 ≠ x := fun e => hx (e ▸ h)
      simp [role, hne]
  · rfl
theorem role_fold : ∀ (M L : List (Str × Bool)) (x : Str), role (M.foldl setd L) x = role (L ++ M) x
  | [], L, x => by simp
  | p :: M, L, x => by
    rw [List.foldl_cons, role_fold M, role_app, role_setd, role_app, role_app L (p :: M)]
    have : role (p :: M) x = (role [p] x).or (role M x) := by
      have := role_app [p] M x
      exact this
    rw [this]
    cases role L x <;> rfl
theorem setd_nodup {L : List (Str × Bool)} (h : (L.map (·.1)).Nodup) (p : Str × Bool) : ((setd L p).map (·.1)).Nodup := by
  unfold setd
  split
  · exact h
  · rename_i hn
    rw [List.map_append]
    refine List.nodup_append.mpr ⟨h, by simp, fun a ha b hb => ?_⟩
    simp at hb
    rw [hb]
    exact fun e => hn (e ▸ ha)
theorem setd_len (L : List (Str × Bool)) (p : Str × Bool) : (setd L p).length ≤ L.length + 1 := by
  unfold setd
  split
  · omega
  · rw [List.length_append]; simp
theorem encR_val (L : List (Str × Bool)) (x : Str) : valD (encR L) (.inr x) = (role L x).map D.bl := by
  induction L with
  | nil => rfl
  | cons p L ih =>
    show valD ((.inr p.1, .bl p.2) :: encR L) (.inr x) = _
    rw [valD_cons]
    by_cases e : p.1 = x
    · rw [if_pos (by rw [e])]
      simp [role, e]
    · rw [if_neg (fun q => e (by injection q)), ih]
      simp [role, e]
theorem encR_put {L : List (Str × Bool)} {p : Str × Bool} (h : role L p.1 = none) : putD (encR L) (.inr p.1) (.bl p.2) = encR (setd L p) := by
  have hn := role_none.mp h
  unfold putD setd
  rw [valD_any, encR_val, h, if_neg (by simp), if_neg hn]
  simp [encR]
@[irreducible] def sp_roles : CSp := fun ds g Q => ∃ es : List DeedS, ds = [.tup (es.map deedD)] ∧ es.length ≤ 1000 ∧ ∀ p, g p = none → Q (.ref p) (gupd g p (.dic (encR ((occs es).foldl setd []))))
theorem st_sd {o y z : CE} {s : CSt} {g : GH} {C : CEnds} {p : Addr} {kvs : List (Key × D)} {k w : D} {q : Key} (ho : EvE o s g (.ref p)) (hy : EvE y s g k) (hz : EvE z s g w) (hg : g p = some (.dic kvs)) (hk : k = kD q) (hl : lim kvs.length)
    (h : match valD kvs q with | some _ => C.nx s g | none => C.nx s (gupd g p (.dic (putD kvs q w)))) : cDrop (cDSetd o y z) C s g :=
  ho _ ⟨⟨p, kvs, rfl, hg⟩, hy _ (hz _ ⟨p, kvs, q, rfl, hg, hk, hl, by
    cases e : valD kvs q with
    | some v => rw [e] at h; exact h
    | none => rw [e] at h; exact h⟩)⟩
/-- found.setdefault(item, makes(deed, k)) -/
theorem st_setd {d : DeedS} {k : Nat} {x : Str} {C : CEnds} {g : GH} {p : Addr} {L : List (Str × Bool)} {D0 : D} (hg : g p = some (.dic (encR L))) (hl : L.length ≤ 1000000)
    (h : C.nx [some D0, some (.ref p), some (deedD d), some (natD k), some (.str x)] (if role L x = none then gupd g p (.dic (encR (setd L (x, (decide (d.w = .wrap) && decide (k = 2)) || (decide (d.w = .put) && decide (k = 1)))))) else g)) :
    cDrop (cDSetd (cVar 1) (cVar 4) (cCall sp_makes (cCons (cVar 2) (cCons (cVar 3) cNil)))) C [some D0, some (.ref p), some (deedD d), some (natD k), some (.str x)] g := by
  have hz : EvE (cCall sp_makes (cCons (cVar 2) (cCons (cVar 3) cNil))) [some D0, some (.ref p), some (deedD d), some (natD k), some (.str x)] g (.bl ((decide (d.w = .wrap) && decide (k = 2)) || (decide (d.w = .put) && decide (k = 1)))) :=
    ev_call (ev_cons (ev_var (d := deedD d) rfl) (ev_cons (ev_var (d := natD k) rfl) ev_nil)) fun R w => by
      unfold sp_makes
      exact ⟨d, k, rfl, w⟩
  refine st_sd (ev_var rfl) (ev_var rfl) hz hg (q := .inr x) rfl (by unfold encR lim; rw [List.length_map]; exact hl) ?_
  · rw [encR_val]
    cases hr : role L x with
    | some b =>
      rw [if_neg (by rw [hr]; simp)] at h
      exact h
    | none =>
      rw [if_pos hr] at h
      show C.nx _ (gupd g p (.dic (putD (encR L) (.inr x) _)))
      rw [encR_put (p := (x, _)) hr]
      exact h
theorem setd_skip {L : List (Str × Bool)} {p : Str × Bool} (h : role L p.1 ≠ none) : setd L p = L := by
  unfold setd
  rw [if_pos]
  exact Classical.byContradiction fun q => h (role_none.mpr q)
theorem st_setd' {d : DeedS} {k : Nat} {x : Str} {C : CEnds} {g g0 : GH} {p : Addr} {L : List (Str × Bool)} {D0 : D} {b : Bool} (hg : g = gupd g0 p (.dic (encR L))) (hl : L.length ≤ 1000000) (hb : ((decide (d.w = .wrap) && decide (k = 2)) || (decide (d.w = .put) && decide (k = 1))) = b)
    (h : C.nx [some D0, some (.ref p), some (deedD d), some (natD k), some (.str x)] (gupd g0 p (.dic (encR (setd L (x, b)))))) :
    cDrop (cDSetd (cVar 1) (cVar 4) (cCall sp_makes (cCons (cVar 2) (cCons (cVar 3) cNil)))) C [some D0, some (.ref p), some (deedD d), some (natD k), some (.str x)] g := by
  refine st_setd (L := L) (by rw [hg]; exact gupd_same) hl ?_
  rw [hb]
  by_cases hr : role L x = none
  · rw [if_pos hr, hg, gupd_gupd]
    exact h
  · rw [if_neg hr, hg]
    rw [setd_skip (p := (x, b)) hr] at h
    exact h
abbrev roBody : CS := cIfS (cB (cOp fGt (cVar 3) (cC (.int 0)))) (cDrop (cDSetd (cVar 1) (cVar 4) (cCall sp_makes (cCons (cVar 2) (cCons (cVar 3) cNil))))) cSkip
theorem ev_gt0 {s : CSt} {g : GH} {c : CE} {k : Nat} (h : EvE c s g (natD k)) : EvT (cB (cOp fGt c (cC (.int 0)))) s g (decide (0 < k)) := fun R q => h _ ⟨trivial, _, rfl, by
  have e : decide ((0 : Int) < (k : Int)) = decide (0 < k) := decide_eq_decide.mpr (by omega)
  rw [e]
  exact q⟩
theorem occ_deed (d : DeedS) : deedL d = [.str (wS d.w), .str d.x] ++ (if d.w.two = true then [.str d.y] else []) := by
  unfold deedL Deed.names
  split <;> rfl
theorem ro_deed {C : CEnds} {D0 : D} {p : Addr} {g g0 : GH} {d : DeedS} {L : List (Str × Bool)} {o3 o4 : Option D} (hg : g = gupd g0 p (.dic (encR L))) (hl : L.length ≤ 100000) (k : ∀ o3 o4, C.nx [some D0, some (.ref p), some (deedD d), o3, o4] (gupd g0 p (.dic (encR ((occ d).foldl setd L))))) :
    cFor (iEnm 3 4 (cVar 2)) roBody C [some D0, some (.ref p), some (deedD d), o3, o4] g := by
  refine ⟨_, rfl, deedL d, rfl, ?_⟩
  have one : ∀ {C : CEnds} {o3 o4 : Option D}, (∀ o3 o4, C.nx [some D0, some (.ref p), some (deedD d), o3, o4] (gupd g0 p (.dic (encR (setd L (d.x, decide (d.w = .put))))))) →
      cIfS (cB (cOp fGt (cVar 3) (cC (.int 0)))) (cDrop (cDSetd (cVar 1) (cVar 4) (cCall sp_makes (cCons (cVar 2) (cCons (cVar 3) cNil))))) cSkip C [some D0, some (.ref p), some (deedD d), some (natD 1), some (.str d.x)] g := fun {C} {o3} {o4} kk => by
    refine ev_if (ev_gt0 (k := 1) (ev_var rfl)) (fun _ => ?_) (fun e => absurd e (by decide))
    exact st_setd' (k := 1) (x := d.x) (b := decide (d.w = .put)) hg (by omega) (by simp) (kk _ _)
  have zero : ∀ {C : CEnds} {g} {o3 o4 : Option D}, C.nx [some D0, some (.ref p), some (deedD d), some (natD 0), some (.str (wS d.w))] g →
      cIfS (cB (cOp fGt (cVar 3) (cC (.int 0)))) (cDrop (cDSetd (cVar 1) (cVar 4) (cCall sp_makes (cCons (cVar 2) (cCons (cVar 3) cNil))))) cSkip C [some D0, some (.ref p), some (deedD d), some (natD 0), some (.str (wS d.w))] g := fun {C} {g} {o3} {o4} kk => by
    refine ev_if (ev_gt0 (k := 0) (ev_var rfl)) (fun e => absurd e (by decide)) (fun _ => kk)
  unfold deedL Deed.names
  unfold occ at k
  by_cases ht : d.w.two = true
  · rw [if_pos ht]
    rw [if_pos ht] at k
    refine ⟨trivial, zero (o3 := o3) (o4 := o4) ⟨trivial, one (o3 := o3) (o4 := o4) fun o3 o4 => ⟨trivial, ?_⟩⟩⟩
    refine ev_if (ev_gt0 (k := 2) (ev_var rfl)) (fun _ => ?_) (fun e => absurd e (by decide))
    refine st_setd' (k := 2) (x := d.y) (b := decide (d.w = .wrap)) rfl (by have := setd_len L (d.x, decide (d.w = .put)); omega) (by simp) ⟨trivial, k _ _⟩
  · rw [if_neg ht]
    rw [if_neg ht] at k
    exact ⟨trivial, zero (o3 := o3) (o4 := o4) ⟨trivial, one (o3 := o3) (o4 := o4) fun o3 o4 => ⟨trivial, k _ _⟩⟩⟩
theorem occ_few (d : DeedS) : (occ d).length ≤ 2 := by
  unfold occ
  split <;> simp
theorem fold_len : ∀ (M L : List (Str × Bool)), (M.foldl setd L).length ≤ L.length + M.length
  | [], L => by simp
  | p :: M, L => by
    rw [List.foldl_cons]
    have := fold_len M (setd L p)
    have := setd_len L p
    rw [List.length_cons]
    omega
theorem ro_loop {C : CEnds} {D0 : D} {p : Addr} {g0 : GH} : ∀ (es : List DeedS) (L : List (Str × Bool)) (g : GH) (o2 o3 o4 : Option D), g = gupd g0 p (.dic (encR L)) → L.length + 2 * es.length ≤ 100000 →
    (∀ o2 o3 o4, C.nx [some D0, some (.ref p), o2, o3, o4] (gupd g0 p (.dic (encR ((occs es).foldl setd L))))) →
    cLoop (cFor (iEnm 3 4 (cVar 2)) roBody) C (fun _ => True) (es.map fun d s => s.set 2 (some (deedD d))) [some D0, some (.ref p), o2, o3, o4] g
  | [], L, g, o2, o3, o4, hg, hl, k => ⟨trivial, by rw [hg]; exact k _ _ _⟩
  | d :: es, L, g, o2, o3, o4, hg, hl, k => by
    refine ⟨trivial, ro_deed hg (by omega) fun o3 o4 => ?_⟩
    refine ro_loop es ((occ d).foldl setd L) _ _ _ _ rfl ?_ ?_
    · have := fold_len (occ d) L
      have := occ_few d
      simp at hl
      omega
    · have e : occs (d :: es) = occ d ++ occs es := rfl
      rw [e, List.foldl_append] at k
      exact k
theorem pu_roles : ∀ ds g Q, sp_roles ds g Q → c_roles sp_makes { nx := fun _ g' => Fin Q .non g', rt := Fin Q } (cstart N_roles ds) g := by
  intro ds g Q h
  unfold sp_roles at h
  obtain ⟨es, rfl, hl, q⟩ := h
  refine fun p hp => ?_
  refine ⟨_, rfl, _, rfl, ?_⟩
  rw [onEach_map]
  refine ro_loop es [] _ none none none (D0 := .tup (es.map deedD)) (g0 := g) rfl (by simp; omega) fun o2 o3 o4 => ?_
  exact ev_ret (ev_var rfl) (fin_of (q p hp))
theorem roles_nodup (M : List (Str × Bool)) : ((M.foldl setd []).map (·.1)).Nodup := by
  have : ∀ (M L : List (Str × Bool)), (L.map (·.1)).Nodup → ((M.foldl setd L).map (·.1)).Nodup := by
    intro M
    induction M with
    | nil => intro L h; exact h
    | cons p M ih => intro L h; exact ih _ (setd_nodup h p)
  exact this M [] (by simp)
theorem role_mem {L : List (Str × Bool)} (h : (L.map (·.1)).Nodup) {x : Str} {b : Bool} : role L x = some b ↔ (x, b) ∈ L := by
  induction L with
  | nil => simp [role]
  | cons p L ih =>
    obtain ⟨h1, h2⟩ := List.nodup_cons.mp h
    have ih := ih h2
    by_cases e : p.1 = x
    · have : role (p :: L) x = some p.2 := by simp [role, e]
      rw [this]
      constructor
      · intro q
        injection q with q
        rw [List.mem_cons]
        left
        rw [← e, ← q]
      · intro q
        rcases List.mem_cons.mp q with q | q
        · rw [← q]
        · exact absurd (List.mem_map.mpr ⟨(x, b), q, e.symm⟩) h1
    · have : role (p :: L) x = role L x := by simp [role, e]
      rw [this, ih, List.mem_cons]
      constructor
      · exact .inr
      · rintro (q | q)
        · exact absurd (by rw [← q]) e
        · exact q

/-! ### old_names -/
def OldN (ns : List Str) (es : List DeedS) : Prop := OldIs ns es ∧ sortedS ns = true
@[irreducible] def sp_old_names : CSp := fun ds g Q => ∃ es : List DeedS, ds = [.tup (es.map deedD)] ∧ es.length ≤ 20 ∧ ∀ ns, OldN ns es → Q (.tup (ns.map D.str)) g
theorem nodup_perm {α : Type} {l m : List α} (h : l.Perm m) (d : m.Nodup) : l.Nodup := h.nodup_iff.mpr d
theorem occs_len : ∀ es : List DeedS, (occs es).length ≤ 2 * es.length
  | [] => Nat.le_refl _
  | d :: es => by
    have e : occs (d :: es) = occ d ++ occs es := rfl
    have := occ_few d
    have := occs_len es
    rw [e, List.length_append, List.length_cons]
    omega
theorem onTwo_enc (i j : Nat) (L : List (Str × Bool)) : onTwo i j ((encR L).map fun kv => (kD kv.1, kv.2)) = L.map fun p s => (s.set i (some (.str p.1))).set j (some (.bl p.2)) := by
  unfold onTwo encR
  rw [List.map_map, List.map_map]
  rfl
theorem pu_old_names : ∀ ds g Q, sp_old_names ds g Q → c_old_names sp_roles { nx := fun _ g' => Fin Q .non g', rt := Fin Q } (cstart N_old_names ds) g := by
  intro ds g Q h
  unfold sp_old_names at h
  obtain ⟨es, rfl, hl, q⟩ := h
  have LN := roles_nodup (occs es)
  have LR : ∀ x, role ((occs es).foldl setd []) x = role (occs es) x := fun x => by rw [role_fold]; simp
  have Ll : ((occs es).foldl setd []).length ≤ 40 := by
    have h1 := fold_len (occs es) []
    have h2 := occs_len es
    simp at h1
    omega
  have rl : ∀ R : CQ, (∀ p, g p = none → R (.ref p) (gupd g p (.dic (encR ((occs es).foldl setd []))))) → sp_roles [.tup (es.map deedD)] g R := fun R w => by
    unfold sp_roles
    exact ⟨es, rfl, by omega, w⟩
  generalize (occs es).foldl setd [] = L at LN LR Ll rl
  refine ⟨_, rfl, rl _ fun p hp => ?_⟩
  refine ⟨p, encR L, rfl, gupd_same, fun o vs => fun l hl' => ?_⟩
  rw [gupd_gupd] at hl' ⊢
  have hlp : p ≠ l := fun e => by rw [← e, gupd_same] at hl'; cases hl'
  rw [onTwo_enc]
  have hchk : ∀ ys, (gupd (gupd g p (.lck o vs (encR L))) l (.lst ys)) p = some (.lck o vs (encR L)) := fun ys => by rw [gupd_ne hlp, gupd_same]
  refine lc_run (l := l) (g := gupd g p (.lck o vs (encR L))) (fun (p : Str × Bool) (s : CSt) => (s.set 1 (some (D.str p.1))).set 2 (some (D.bl p.2))) (fun p => !p.2) (fun p => D.str p.1) (fun ys => hchk ys) L [] (by simp; omega) (fun x _ ys R w => ev_not (ev_B (ev_var (d := .bl x.2) rfl)) R w) (fun x _ _ ys R w => ev_var (d := .str x.1) rfl R w) ?_
  rw [List.nil_append]
  have e : (L.filter fun p => !p.2).map (fun p => D.str p.1) = ((L.filter fun p => !p.2).map (·.1)).map D.str := by rw [List.map_map]; rfl
  rw [e]
  have hfl : ((L.filter fun p => !p.2).map (·.1)).length < 64 := by
    rw [List.length_map]
    have := List.length_filter_le (fun p : Str × Bool => !p.2) L
    omega
  refine ⟨_, gupd_same, hfl, fun ys p2 hy hs hp2 => ?_⟩
  refine ⟨_, gupd_same, ?_⟩
  have nd : ((L.filter fun p => !p.2).map (·.1)).Nodup := List.Nodup.sublist (List.Sublist.map _ (List.filter_sublist)) LN
  have mem : ∀ x, x ∈ ys ↔ Old es x := fun x => by
    rw [hy.mem_iff]
    unfold Old
    rw [← LR x, role_mem LN, List.mem_map]
    constructor
    · rintro ⟨⟨a, b⟩, h1, h2⟩
      obtain ⟨h3, h4⟩ := List.mem_filter.mp h1
      have h2 : a = x := h2
      have h4 : (!b) = true := h4
      have hb : b = false := by cases b <;> first | rfl | cases h4
      rw [← h2, ← hb]
      exact h3
    · intro h
      exact ⟨(x, false), List.mem_filter.mpr ⟨h, rfl⟩, rfl⟩
  refine ⟨g, ?_, q ys ⟨⟨nodup_perm hy nd, mem⟩, hs⟩⟩
  intro a m h
  have h1 : a ≠ p := fun e => by rw [e, hp] at h; cases h
  have h2 : a ≠ l := fun e => by
    rw [gupd_ne (fun q => hlp q.symm)] at hl'
    rw [e, hl'] at h
    cases h
  have h4 : (gupd (gupd g p (.lck o vs (encR L))) l (.lst (((L.filter fun p => !p.2).map (·.1)).map D.str))) a = some m := by
    rw [gupd_ne h2, gupd_ne h1]
    exact h
  exact gup_free h4 hp2

/-! ### names_in -/
@[irreducible] def sp_names_in : CSp := fun ds g Q => ∃ es : List DeedS, ds = [.tup (es.map deedD)] ∧ es.length ≤ 20 ∧ ∀ ns : List Str, (∀ x, x ∈ ns ↔ x ∈ Snm es) → ns.Nodup → Q (.tup (ns.map D.str)) g
theorem snm_names : ∀ es : List DeedS, Snm es = es.flatMap Deed.names
  | [] => rfl
  | d :: es => by
    have e : occs (d :: es) = occ d ++ occs es := rfl
    unfold Snm
    rw [e, List.map_append, occ_names, List.flatMap_cons]
    have := snm_names es
    unfold Snm at this
    rw [this]
theorem ev_names {s : CSt} {g : GH} {c : CE} {d : DeedS} (h : EvE c s g (deedD d)) : EvE (cSl c (oSome (cC (.int 1))) oNone) s g (.tup (d.names.map D.str)) := by
  have q := ev_slT (xs := deedL d) h (ev_os (n := 1) ev_c) ev_on
  rw [cut_f] at q
  exact q
theorem ni_loop {C : CEnds} {D0 : D} {p : Addr} {g0 : GH} : ∀ (es : List DeedS) (L : List Str) (g : GH) (o2 : Option D), g = gupd g0 p (.lst (L.map D.str)) → L.length + 2 * es.length ≤ 1000 →
    (∀ o2, C.nx [some D0, some (.ref p), o2] (gupd g0 p (.lst ((L ++ es.flatMap Deed.names).map D.str)))) →
    cLoop (cDrop (cMet fExtend (cVar 1) (cCons (cSl (cVar 2) (oSome (cC (.int 1))) oNone) cNil))) C (fun _ => True) (es.map fun d s => s.set 2 (some (deedD d))) [some D0, some (.ref p), o2] g
  | [], L, g, o2, hg, hl, k => ⟨trivial, by rw [hg]; have := k o2; simpa using this⟩
  | d :: es, L, g, o2, hg, hl, k => by
    have hd : d.names.length ≤ 2 := by unfold Deed.names; split <;> simp
    simp at hl
    refine ⟨trivial, st_extT (ev_var rfl) (by rw [hg]; exact gupd_same) (ev_names (ev_var rfl)) (by rw [List.length_map, List.length_map]; omega) ?_⟩
    rw [hg, gupd_gupd, ← List.map_append]
    refine ni_loop es (L ++ d.names) _ _ rfl (by rw [List.length_append]; omega) ?_
    rw [List.flatMap_cons, ← List.append_assoc] at k
    exact k
theorem pu_names_in : ∀ ds g Q, sp_names_in ds g Q → c_names_in  { nx := fun _ g' => Fin Q .non g', rt := Fin Q } (cstart N_names_in ds) g := by
  intro ds g Q h
  unfold sp_names_in at h
  obtain ⟨es, rfl, hl, q⟩ := h
  refine ⟨lim_ok (by simp), fun p hp => ?_⟩
  refine ⟨_, rfl, _, rfl, ?_⟩
  rw [onEach_map]
  refine ni_loop es [] _ none (D0 := .tup (es.map deedD)) (g0 := g) rfl (by simp; omega) fun o2 => ?_
  rw [List.nil_append]
  refine ⟨_, rfl, ?_⟩
  have hlen : (es.flatMap Deed.names).length < 63 := by
    have h1 := occs_len es
    have h2 : (es.flatMap Deed.names).length = (occs es).length := by rw [← snm_names]; unfold Snm; rw [List.length_map]
    omega
  refine ⟨_, .inr ⟨p, rfl, gupd_same⟩, hlen, fun ns p2 hs hnd hm hp2 => ?_⟩
  refine ⟨_, gupd_same, ⟨g, ?_, q ns (fun x => by rw [hm x, snm_names]) hnd⟩⟩
  exact (Sub.new hp).trans (.new hp2)

/-! ### lost_gap, joined_gaps -/
@[irreducible] def sp_lost_gap : CSp := fun ds g Q => ∃ r t : RowS, ds = [rowD r, rowD t] ∧ r.length ≤ 10000 ∧ ((∀ k, k ≤ r.length → It.g k ∈ t) → Q .non g) ∧ (∀ k, k ≤ r.length → It.g k ∉ t → Q (natD k) g)
theorem lg_loop {C : CEnds} {D0 : D} {g : GH} {t : RowS} {n : Nat} : ∀ (m i : Nat) (o2 : Option D), m + i = n + 1 → (∀ j, j < i → It.g j ∈ t) → ((∀ k, k ≤ n → It.g k ∈ t) → ∀ o2, C.nx [some D0, some (rowD t), o2] g) → (∀ k, k ≤ n → It.g k ∉ t → C.rt (natD k) g) →
    cLoop (cIfS (cB (cOp (fIn true) (cVar 2) (cVar 1))) (cRet (cVar 2)) cSkip) C (fun _ => True) ((List.range' i m).map fun k s => s.set 2 (some (natD k))) [some D0, some (rowD t), o2] g
  | 0, i, o2, hm, hj, k1, k2 => ⟨trivial, k1 (fun k hk => hj k (by omega)) o2⟩
  | m + 1, i, o2, hm, hj, k1, k2 => by
    rw [List.range'_succ]
    refine ⟨trivial, ?_⟩
    have h := ev_B (ev_inT (neg := true) (x := eD (It.g i)) (ys := t.map eD) (s := [some D0, some (rowD t), some (natD i)]) (g := g) (a := cVar 2) (b := cVar 1) (ev_var rfl) (ev_var rfl) (flat_eD _) (flat_row t))
    rw [if_pos rfl, mem_row] at h
    refine ev_if h (fun e => ?_) (fun e => ?_)
    · have hn : It.g i ∉ t := by simpa using e
      exact ev_ret (ev_var rfl) (k2 i (by omega) hn)
    · have hi : It.g i ∈ t := by simpa using e
      refine lg_loop m (i + 1) _ (by omega) (fun j hj' => ?_) k1 k2
      rcases Nat.lt_or_ge j i with q | q
      · exact hj j q
      · rw [show j = i by omega]; exact hi
theorem range_nat (j : Nat) (n : Nat) : onEach j ((List.range n).map fun k => D.int (k : Nat)) = (List.range' 0 n).map fun k s => s.set j (some (natD k)) := by
  rw [onEach_map, List.range_eq_range']
  rfl
theorem pu_lost_gap : ∀ ds g Q, sp_lost_gap ds g Q → c_lost_gap  { nx := fun _ g' => Fin Q .non g', rt := Fin Q } (cstart N_lost_gap ds) g := by
  intro ds g Q h
  unfold sp_lost_gap at h
  obtain ⟨r, t, rfl, hl, k1, k2⟩ := h
  refine ev_add1 (ev_lenR (r := r) (ev_var rfl)) _ ?_
  refine ⟨((r.length + 1 : Nat) : Int), rfl, by omega, by omega, ?_⟩
  rw [Int.toNat_natCast, range_nat]
  refine lg_loop (D0 := rowD r) (n := r.length) (r.length + 1) 0 none (by omega) (fun j hj => by omega) (fun h o2 => fin_of (k1 h)) (fun k hk hn => fin_of (k2 k hk hn))
@[irreducible] def sp_joined_gaps : CSp := fun ds g Q => ∃ t : RowS, ds = [rowD t] ∧ t.length ≤ 10000 ∧ (Loose t → Q .non g) ∧ (∀ u a c v, t = u ++ .g a :: .g c :: v → Q (.tup [natD a, natD c]) g)
theorem jg_loop {C : CEnds} {D0 : D} {g : GH} {T : RowS} : ∀ (t u : RowS) (o1 o2 : Option D), T = u ++ t → (Loose t → ∀ o1 o2, C.nx [some D0, o1, o2] g) → (∀ u a c v, T = u ++ .g a :: .g c :: v → C.rt (.tup [natD a, natD c]) g) →
    cLoop (cIfS (cAnd (cB (cIsi "int" (cVar 1))) (cB (cIsi "int" (cVar 2)))) (cRet (cTup (cCons (cVar 1) (cCons (cVar 2) cNil)))) cSkip) C (fun _ => True) ((t.zip (t.drop 1)).map fun p s => (s.set 1 (some (eD p.1))).set 2 (some (eD p.2))) [some D0, o1, o2] g
  | [], u, o1, o2, hT, k1, k2 => ⟨trivial, k1 trivial o1 o2⟩
  | [z], u, o1, o2, hT, k1, k2 => ⟨trivial, k1 (by cases z <;> trivial) o1 o2⟩
  | z :: y :: t, u, o1, o2, hT, k1, k2 => by
    refine ⟨trivial, ?_⟩
    refine ev_if (ev_and (isi_int (a := z) (ev_var rfl)) fun _ => isi_int (a := y) (ev_var rfl)) (fun e => ?_) (fun e => ?_)
    · rw [Bool.and_eq_true] at e
      cases z with
      | n b x => cases e.1
      | g a =>
        cases y with
        | n b x => cases e.2
        | g c => exact ev_ret (ev_tup (ev_cons (ev_var rfl) (ev_cons (ev_var rfl) ev_nil)) (lim_ok (by simp))) (k2 u a c t hT)
    · refine jg_loop (y :: t) (u ++ [z]) _ _ (by rw [hT]; simp) (fun h o1 o2 => k1 ?_ o1 o2) k2
      cases z with
      | n b x => exact h
      | g a =>
        cases y with
        | n b x => exact h
        | g c => cases e
theorem onTwo_zip (i j : Nat) (a b : RowS) : onTwo i j ((a.map eD).zip (b.map eD)) = (a.zip b).map fun p s => (s.set i (some (eD p.1))).set j (some (eD p.2)) := by
  unfold onTwo
  rw [List.zip_map, List.map_map]
  rfl
theorem pu_joined_gaps : ∀ ds g Q, sp_joined_gaps ds g Q → c_joined_gaps  { nx := fun _ g' => Fin Q .non g', rt := Fin Q } (cstart N_joined_gaps ds) g := by
  intro ds g Q h
  unfold sp_joined_gaps at h
  obtain ⟨t, rfl, hl, k1, k2⟩ := h
  refine ⟨_, rfl, ?_⟩
  refine ev_rF (r := t) (i := 1) (ev_var rfl) ev_c _ ?_
  refine ⟨t.map eD, (t.drop 1).map eD, rfl, rfl, ?_⟩
  rw [onTwo_zip]
  refine jg_loop (D0 := rowD t) t [] none none rfl (fun h o1 o2 => fin_of (k1 h)) (fun u a c v e => fin_of (k2 u a c v e))
end CL

/-! P6: fresh, wood_with (printed from P6.src by pp.py). -/
namespace CL
open PySem PySem.Spec PyProof.Rows L2 TM

theorem sub_gup {g g' : GH} {p : Addr} {m : MO} (h : ∀ a m, g a = some m → g' a = some m) (hp : g' p = some m) : Sub (gupd g p m) g' := fun a o ha => by
  unfold gupd at ha
  split at ha
  · rename_i e
    rw [e, hp]
    exact ha
  · exact h a o ha
abbrev letS : Str := "xyzuvwstabcdefghijklmnopqr"
def sg (c : Nat) : Str := ⟨#[c]⟩
def freshL : List Str := letS.cps.toList.map sg ++ letS.cps.toList.map fun c => sg c ++ "x"
theorem fresh_ok : (freshL.all fun x => decide (1 ≤ x.length ∧ x.length ≤ 100)) = true := by decide +kernel
theorem fresh_len : freshL.length = 52 := by decide +kernel
theorem fresh_nd : freshL.Nodup := by decide +kernel
theorem fresh_str : freshL.map D.str = letS.cps.toList.map (fun c => D.str (sg c)) ++ letS.cps.toList.map (fun c => D.str (sg c ++ "x")) := by
  unfold freshL
  rw [List.map_append, List.map_map, List.map_map]
  rfl
theorem sg_len (c : Nat) : (sg c).length + ("x" : Str).length ≤ 1000000 := by
  show 1 + ("x" : Str).length ≤ 1000000
  decide +kernel
theorem yes_go {s : CSt} {g : GH} {A B : GH → Prop} (h : A g) : cYes s g fun k g1 => if k = true then A g1 else B g1 := by
  show if true = true then A g else B g
  rw [if_pos rfl]
  exact h
theorem fr_out {l : Addr} {g : GH} {D0 D1 D2 : D} {P : GH → Prop} : ∀ (cs : List Nat) (acc : List D) (g' : GH), g' l = some (.lst acc) → (∀ a m, g a = some m → g' a = some m) → g l = none → acc.length + cs.length ≤ 1000 →
    (∀ g'', g'' l = some (.lst (acc ++ cs.map fun c => .str (sg c ++ "x"))) → (∀ a m, g a = some m → g'' a = some m) → P g'') →
    lcOut cYes (iL 5 (cLst (cCons (cC (.str "x")) cNil))) [5] cYes (cOp fAdd (cVar 4) (cVar 5)) l [some D0, some D1, some D2, none, none, none, none] (fun _ => True) P (cs.map fun c s => s.set 4 (some (.str (sg c)))) acc g'
  | [], acc, g', h1, h2, _, _, k => ⟨trivial, k g' (by simpa using h1) h2⟩
  | c :: cs, acc, g', h1, h2, h0, hl, k => by
    simp at hl
    refine ⟨trivial, yes_go ?_⟩
    refine ⟨lim_ok (by simp), fun p hp => ⟨p, _, rfl, gupd_same, ?_⟩⟩
    have hne : l ≠ p := gne_none h1 hp
    refine ⟨gupd_same, yes_go ?_⟩
    refine ⟨.str (sg c), rfl, .str "x", rfl, sg_len c, ?_⟩
    refine ⟨by rw [gupd_ne hne]; exact h1, lim_ok (by omega), ?_⟩
    refine ⟨(gupd_ne hne.symm).trans gupd_same, ?_⟩
    refine fr_out cs (acc ++ [D.str (sg c ++ "x")]) _ gupd_same (fun a m h => ?_) h0 (by simp; omega) (fun g'' q1 q2 => k g'' (by rw [q1, List.map_cons, List.append_assoc]; rfl) q2)
    have : a ≠ l := fun e => by rw [e, h0] at h; cases h
    rw [gupd_ne this]
    exact gup_free (h2 a m h) hp
def pick (ns : List Str) : Str := (freshL.filter fun y => decide (y ∉ ns)).headD ""
@[irreducible] def sp_fresh : CSp := fun ds g Q => ∃ ns : List Str, ds = [.tup (ns.map D.str), .int 1] ∧ ns.length ≤ 40 ∧ ∀ p, g p = none → Q (.ref p) (gupd g p (.lst [.str (pick ns)]))
theorem fresh_some (ns : List Str) (h : ns.length ≤ 40) : ∃ x, x ∉ ns ∧ NmOk x ∧ (freshL.filter fun y => decide (y ∉ ns)).take 1 = [x] := by
  cases e : freshL.filter fun y => decide (y ∉ ns) with
  | nil =>
    have : freshL.length ≤ ns.length := nodup_len _ _ fresh_nd fun x hx => by
      have := List.filter_eq_nil_iff.mp e x hx
      simpa using this
    rw [fresh_len] at this
    omega
  | cons x t =>
    have hx : x ∈ freshL.filter fun y => decide (y ∉ ns) := by rw [e]; exact List.mem_cons_self
    obtain ⟨h1, h2⟩ := List.mem_filter.mp hx
    refine ⟨x, by simpa using h2, by unfold NmOk; exact of_decide_eq_true (List.all_eq_true.mp fresh_ok x h1), rfl⟩
theorem pick_ok (ns : List Str) (h : ns.length ≤ 40) : pick ns ∉ ns ∧ NmOk (pick ns) ∧ (freshL.filter fun y => decide (y ∉ ns)).take 1 = [pick ns] := by
  obtain ⟨x, h1, h2, h3⟩ := fresh_some ns h
  have e : pick ns = x := by
    unfold pick
    revert h3
    generalize (freshL.filter fun y => decide (y ∉ ns)) = l
    intro h3
    cases l with
    | nil => cases h3
    | cons y t => injection h3
  rw [e]
  exact ⟨h1, h2, h3⟩
theorem pu_fresh : ∀ ds g Q, sp_fresh ds g Q → c_fresh  { nx := fun _ g' => Fin Q .non g', rt := Fin Q } (cstart N_fresh ds) g := by
  intro ds g Q h
  unfold sp_fresh at h
  obtain ⟨ns, rfl, hl, q⟩ := h
  have gbase : ∀ a m, g a = some m → g a = some m := fun _ _ h => h
  refine ev_sets ev_c ?_
  -- the first list
  refine ⟨_, rfl, letS, rfl, fun l1 hl1 => ?_⟩
  rw [onEach_map]
  refine lc_run (l := l1) (g := g) (fun (c : Nat) (s : CSt) => s.set 4 (some (D.str (sg c)))) (fun _ => true) (fun c => D.str (sg c)) (fun _ => trivial) _ [] (by decide +kernel) (fun x _ ys R w => w) (fun x _ _ ys R w => ev_var (d := .str (sg x)) rfl R w) ?_
  rw [List.nil_append, List.filter_eq_self.mpr (fun _ _ => rfl)]
  -- the second
  have g1l : (gupd g l1 (.lst (letS.cps.toList.map fun c => D.str (sg c)))) l1 = some (.lst (letS.cps.toList.map fun c => D.str (sg c))) := gupd_same
  have g1s : ∀ a m, g a = some m → (gupd g l1 (.lst (letS.cps.toList.map fun c => D.str (sg c)))) a = some m := fun a m h => gup_free h hl1
  generalize gupd g l1 (.lst (letS.cps.toList.map fun c => D.str (sg c))) = g1 at g1l g1s
  refine ⟨_, rfl, letS, rfl, fun l2 hl2 => ?_⟩
  rw [onEach_map]
  refine fr_out (g := g1) _ [] _ gupd_same (fun a m h => gup_free h hl2) hl2 (by decide +kernel) fun g2 g2l g2s => ?_
  -- the sum
  refine ⟨_, _, g2s _ _ g1l, g2l, by unfold lim; decide +kernel, fun l3 hl3 => ?_⟩
  rw [List.nil_append, ← fresh_str]
  have g3s : ∀ a m, g a = some m → (gupd g2 l3 (.lst (freshL.map D.str))) a = some m := fun a m h => gup_free (g2s a m (g1s a m h)) hl3
  have g3l : (gupd g2 l3 (.lst (freshL.map D.str))) l3 = some (.lst (freshL.map D.str)) := gupd_same
  generalize gupd g2 l3 (.lst (freshL.map D.str)) = g3 at g3s g3l
  -- the choice
  refine ⟨_, rfl, l3, _, rfl, g3l, fun l4 hl4 => ?_⟩
  rw [onEach_map]
  have h34 : l3 ≠ l4 := gne_none g3l hl4
  refine lc_run (l := l4) (g := g3) (fun (x : Str) (s : CSt) => s.set 6 (some (D.str x))) (fun x => decide (x ∉ ns)) (fun x => D.str x) (fun ys => by rw [gupd_ne h34]; exact g3l) freshL [] (by rw [fresh_len]; decide) (fun x _ ys R w => ?_) (fun x _ _ ys R w => ev_var (d := .str x) rfl R w) ?_
  · refine ev_B (ev_inT (neg := true) (x := .str x) (ys := ns.map D.str) (ev_var rfl) (ev_var rfl) rfl (strs_flat ns)) R ?_
    rw [if_pos rfl, strs_mem]
    have e : (!decide (x ∈ ns)) = decide (x ∉ ns) := by simp
    rw [e]
    exact w
  obtain ⟨hx, hok, ht⟩ := pick_ok ns hl
  generalize pick ns = x at hx hok ht q
  refine ⟨_, rfl, 1, rfl, _, gupd_same, fun p hp => ?_⟩
  rw [List.nil_append] at hp ⊢
  have cut : cutG ((freshL.filter fun x => decide (x ∉ ns)).map fun x => D.str x) none (some 1) = [.str x] := by
    have := cut_t ((freshL.filter fun x => decide (x ∉ ns)).map fun x => D.str x) 1
    rw [← List.map_take, ht] at this
    exact this
  rw [cut]
  have hp3 : ∀ a m, g a = some m → (gupd (gupd g3 l4 (.lst ((freshL.filter fun x => decide (x ∉ ns)).map fun x => D.str x))) p (.lst [.str x])) a = some m := fun a m h => gup_free (gup_free (g3s a m h) hl4) hp
  have hgp : g p = none := by
    cases e : g p with
    | none => rfl
    | some m =>
      have := gup_free (o := .lst ((freshL.filter fun x => decide (x ∉ ns)).map fun x => D.str x)) (g3s p m e) hl4
      rw [hp] at this
      cases this
  exact ⟨gupd g p (.lst [.str x]), sub_gup hp3 gupd_same, q p hgp⟩

/-! ### wood_with -/
@[irreducible] def sp_wood_with : CSp := fun ds g Q => ∃ (r : RowS) (k : Nat) (vs ns : List Str), ds = [rowD r, .tup [natD k], .tup (vs.map D.str)] ∧ vs.length ≤ 40 ∧ RowOf ns r ∧ (∀ x ∈ ns, NmOk x) ∧ r.length ≤ 90 ∧ k ≤ r.length ∧ (∀ x ∈ ns, x ∈ vs) ∧ ∀ f, fr f = ins r k (lf (pick vs)) → Q (woodD f) g
theorem repl_one {α : Type} (n : Nat) (d : α) : (List.replicate n [d]).flatten = List.replicate n d := by
  induction n with
  | zero => rfl
  | succ n ih => rw [List.replicate_succ, List.flatten_cons, ih, List.replicate_succ]; rfl
theorem ixN_nat {n k : Nat} (h : k < n) : ixN n (k : Int) = some k := by
  unfold ixN
  have h0 : (0 : Int) ≤ (k : Int) := Int.natCast_nonneg k
  simp [h0, h]
theorem getD_at1 (n k : Nat) (z : RowS) (h : k < n) : (fun j => ((List.replicate n ([] : RowS)).set k z).getD j []) = at1 k z := by
  funext j
  unfold at1
  rw [List.getD_eq_getElem?_getD, List.getElem?_set, List.length_replicate]
  by_cases e : j = k
  · rw [if_pos e, if_pos e.symm, if_pos h]; rfl
  · rw [if_neg e, if_neg (fun q => e q.symm), List.getElem?_replicate]
    split <;> rfl
theorem ins_row_names {r : RowS} {k : Nat} {x y : Str} {b : Bool} (h : It.n b y ∈ ins r k (lf x)) : It.n b y ∈ r ∨ y = x := by
  rcases mem_ins.mp h with q | q
  · right
    unfold lf at q
    simp at q
    rcases q with q | q <;> exact q.2
  · exact .inl q
theorem pu_wood_with : ∀ ds g Q, sp_wood_with ds g Q → c_wood_with sp_fresh sp_leaf sp_with_gaps sp_filled_row sp_wood_from { nx := fun _ g' => Fin Q .non g', rt := Fin Q } (cstart N_wood_with ds) g := by
  intro ds g Q h
  unfold sp_wood_with at h
  obtain ⟨r, k, vs, ns, rfl, hv, hr, hok, hrl, hk, hnv, q⟩ := h
  -- leaves
  refine ⟨_, rfl, _, rfl, ?_⟩
  unfold sp_fresh
  refine ⟨vs, rfl, hv, fun p hp => ?_⟩
  obtain ⟨hx, hxok, _⟩ := pick_ok vs hv
  generalize pick vs = x at hx hxok q
  have gp : (gupd g p (.lst [.str x])) p = some (.lst [.str x]) := gupd_same
  have gs : ∀ a m, g a = some m → (gupd g p (.lst [.str x])) a = some m := fun a m h => gup_free h hp
  generalize gupd g p (.lst [.str x]) = g1 at gp gs
  -- filling
  refine ⟨lim_ok (by simp), lim_ok (by simp), fun p2 hp2 => ⟨_, rfl, ?_⟩⟩
  refine ⟨_, gupd_same, by omega, ?_, ?_, fun p4 hp4 => ?_⟩
  · show ((r.map eD).length : Int) + 1 ≤ 1000000
    rw [List.length_map]; omega
  · show lim (1 * (((r.map eD).length : Int) + 1).toNat)
    refine lim_ok ?_
    rw [List.length_map]; omega
  have e1 : (List.replicate (((r.map eD).length : Int) + 1).toNat [D.tup []]).flatten = (List.replicate (r.length + 1) ([] : RowS)).map rowD := by
    rw [repl_one, List.length_map, List.map_replicate]
    congr 1
  rw [e1]
  have gp2 : (gupd (gupd g1 p2 (.lst [D.tup []])) p4 (.lst ((List.replicate (r.length + 1) ([] : RowS)).map rowD))) p = some (.lst [.str x]) := gup_free (gup_free gp hp2) hp4
  have g4 : (gupd (gupd g1 p2 (.lst [D.tup []])) p4 (.lst ((List.replicate (r.length + 1) ([] : RowS)).map rowD))) p4 = some (.lst ((List.replicate (r.length + 1) ([] : RowS)).map rowD)) := gupd_same
  have h4 : p ≠ p4 := gne_none (gup_free gp hp2) hp4
  have gs2 : ∀ a m, g a = some m → a ≠ p4 ∧ (gupd (gupd g1 p2 (.lst [D.tup []])) p4 (.lst ((List.replicate (r.length + 1) ([] : RowS)).map rowD))) a = some m := fun a m h => ⟨gne_none (gup_free (gs a m h) hp2) hp4, gup_free (gup_free (gs a m h) hp2) hp4⟩
  generalize gupd (gupd g1 p2 (.lst [D.tup []])) p4 (.lst ((List.replicate (r.length + 1) ([] : RowS)).map rowD)) = g2 at gp2 g4 gs2
  -- the loop
  refine ⟨_, rfl, _, rfl, [natD k], p, [.str x], rfl, rfl, gp2, ?_⟩
  refine ⟨gp2, ?_⟩
  refine ⟨_, rfl, ?_⟩
  unfold sp_leaf
  refine ⟨x, rfl, hxok, ?_⟩
  refine ⟨_, rfl, _, rfl, p4, _, k, k, rfl, rfl, g4, ixN_nat (by rw [List.length_map, List.length_replicate]; omega), ?_⟩
  refine ⟨(gupd_ne h4).trans gp2, ?_⟩
  -- the wood
  rw [← List.map_set]
  have gs3 : ∀ a m, g a = some m → (gupd g2 p4 (.lst (((List.replicate (r.length + 1) ([] : RowS)).set k (lf x)).map rowD))) a = some m := fun a m h => by
    rw [gupd_ne (gs2 a m h).1]
    exact (gs2 a m h).2
  have g44 : (gupd g2 p4 (.lst (((List.replicate (r.length + 1) ([] : RowS)).set k (lf x)).map rowD))) p4 = some (.lst (((List.replicate (r.length + 1) ([] : RowS)).set k (lf x)).map rowD)) := gupd_same
  generalize gupd g2 p4 (.lst (((List.replicate (r.length + 1) ([] : RowS)).set k (lf x)).map rowD)) = g3 at gs3 g44
  refine ⟨_, rfl, ?_⟩
  unfold sp_with_gaps
  refine ⟨r, rfl, by omega, ?_⟩
  refine ⟨_, rfl, ?_⟩
  unfold sp_filled_row
  refine ⟨wg 0 r, p4, _, rfl, g44, fun j hj => ?_, ?_, fun z hz => ?_, ?_⟩
  · rw [List.length_set, List.length_replicate]
    have := (wg_gap r 0 hr.whole j).mp hj
    omega
  · rw [wg_len]; omega
  · rcases List.mem_or_eq_of_mem_set hz with h | h
    · rw [List.eq_of_mem_replicate h]; simp
    · rw [h]; unfold lf; simp
  rw [getD_at1 _ _ _ (by omega), fil_at1 r 0 k (lf x) hr.whole (by omega) (by omega), Nat.sub_zero]
  have hb : It.b x ∉ r := fun h => hx (hnv x ((hr.nm x).mp h))
  obtain ⟨f, hf⟩ := row_wood _ _ (Nat.le_refl _) (lf_whole hr.whole x k) (lf_good hr.good hb k).bal
  rw [← hf]
  unfold sp_wood_from
  refine ⟨f, rfl, fun y hy => ?_, ?_, ⟨g, gs3, q f hf⟩⟩
  · have := (fr_names f y).mpr hy
    rw [hf] at this
    rcases ins_row_names this with h | h
    · exact hok y ((hr.nm y).mp h)
    · rw [h]; exact hxok
  · have := fr_len f
    rw [hf, ins_len] at this
    have e : (lf x).length = 2 := rfl
    omega
end CL

/-! P7: all_rows (printed from P7.src by pp.py). -/
namespace CL
open PySem PySem.Spec PyProof.Rows L2 TM

/-! ### sorted lists without doubles are known by their members -/
theorem risingS_le : ∀ (l : List Str) (p : Str), risingS p l = true → (∀ x ∈ l, p.cps.toList ≤ x.cps.toList) ∧ sortedS l = true
  | [], _, _ => ⟨fun x h => (nomatch h), rfl⟩
  | y :: l, p, h => by
    have h' : (!ltCps y.cps.toList p.cps.toList) = true ∧ risingS y l = true := by simpa [risingS] using h
    have h1 : p.cps.toList ≤ y.cps.toList := by
      have := h'.1
      rw [ltCps_eq] at this
      exact List.not_lt.mp (by simpa using this)
    obtain ⟨h2, h3⟩ := risingS_le l y h'.2
    refine ⟨fun x hx => ?_, h'.2⟩
    rcases List.mem_cons.mp hx with rfl | hx
    · exact h1
    · exact List.le_trans h1 (h2 x hx)
theorem str_cps {a b : Str} (h : a.cps.toList = b.cps.toList) : a = b := by
  cases a; cases b
  rename_i a b
  have : a = b := Array.ext' h
  rw [this]
theorem srt_uniq : ∀ (a b : List Str), sortedS a = true → sortedS b = true → a.Nodup → b.Nodup → (∀ x, x ∈ a ↔ x ∈ b) → a = b
  | [], b, _, _, _, _, h => by
    cases b with
    | nil => rfl
    | cons y b => exact absurd ((h y).mpr List.mem_cons_self) (by simp)
  | x :: a, [], _, _, _, _, h => absurd ((h x).mp List.mem_cons_self) (by simp)
  | x :: a, y :: b, sa, sb, na, nb, h => by
    obtain ⟨ha, sa'⟩ := risingS_le a x sa
    obtain ⟨hb, sb'⟩ := risingS_le b y sb
    obtain ⟨na1, na2⟩ := List.nodup_cons.mp na
    obtain ⟨nb1, nb2⟩ := List.nodup_cons.mp nb
    have e : x = y := by
      have h1 : x.cps.toList ≤ y.cps.toList := by
        rcases List.mem_cons.mp ((h y).mpr List.mem_cons_self) with q | q
        · rw [q]; exact List.le_refl _
        · exact ha y q
      have h2 : y.cps.toList ≤ x.cps.toList := by
        rcases List.mem_cons.mp ((h x).mp List.mem_cons_self) with q | q
        · rw [q]; exact List.le_refl _
        · exact hb x q
      exact str_cps (List.le_antisymm h1 h2)
    subst e
    congr 1
    refine srt_uniq a b sa' sb' na2 nb2 fun z => ⟨fun q => ?_, fun q => ?_⟩
    · rcases List.mem_cons.mp ((h z).mp (List.mem_cons_of_mem _ q)) with r | r
      · exact absurd (r ▸ q) na1
      · exact r
    · rcases List.mem_cons.mp ((h z).mpr (List.mem_cons_of_mem _ q)) with r | r
      · exact absurd (r ▸ q) nb1
      · exact r

/-! ### all_rows -/
abbrev Ent := RowS × List Str
def entD (p : Ent) : D := .tup [rowD p.1, .tup (p.2.reverse.map D.str)]
def opens (ns : List Str) (row : RowS) (st : List Str) : List Ent := (ns.filter fun x => decide (It.b x ∉ row)).map fun x => (row ++ [.b x], x :: st)
def shut (row : RowS) : List Str → List Ent
  | [] => []
  | x :: st => [(row ++ [.e x], st)]
def szE (k : Nat) : Nat → Nat
  | 0 => 1
  | n + 1 => 1 + (k + 1) * szE k n
def wt (ns : List Str) (p : Ent) : Nat := szE ns.length (2 * ns.length - p.1.length)
def wts (ns : List Str) (ws : List Ent) : Nat := (ws.map (wt ns)).sum
theorem szE_pos (k n : Nat) : 1 ≤ szE k n := by cases n <;> simp [szE]
theorem wts_len (ns : List Str) : ∀ ws, ws.length ≤ wts ns ws
  | [] => Nat.le_refl _
  | w :: ws => by
    have := wts_len ns ws
    have h := szE_pos ns.length (2 * ns.length - w.1.length)
    show ws.length + 1 ≤ ((w :: ws).map (wt ns)).sum
    rw [List.map_cons, List.sum_cons]
    unfold wts at this
    unfold wt at this ⊢
    omega
theorem flatMap_eq {α β : Type} (f h : α → List β) : ∀ l : List α, (∀ x ∈ l, f x = h x) → l.flatMap f = l.flatMap h
  | [], _ => rfl
  | x :: l, e => by rw [List.flatMap_cons, List.flatMap_cons, e x List.mem_cons_self, flatMap_eq f h l fun y hy => e y (List.mem_cons_of_mem _ hy)]
theorem rf_kids (ns : List Str) (n : Nat) (row : RowS) (st : List Str) : rf ns (n + 1) row st = (opens ns row st ++ shut row st).flatMap fun p => rf ns n p.1 p.2 := by
  rw [List.flatMap_append]
  unfold opens
  rw [List.flatMap_map]
  cases st with
  | nil => rfl
  | cons x st =>
    show _ ++ rf ns n (row ++ [.e x]) st = _ ++ (rf ns n (row ++ [.e x]) st ++ [])
    rw [List.append_nil]
theorem kid_len {ns : List Str} {row : RowS} {st : List Str} : ∀ p ∈ opens ns row st ++ shut row st, p.1.length = row.length + 1 := fun p hp => by
  rcases List.mem_append.mp hp with h | h
  · obtain ⟨x, _, rfl⟩ := List.mem_map.mp h
    simp
  · cases st with
    | nil => cases h
    | cons x st =>
      have : p = (row ++ [.e x], st) := by simpa [shut] using h
      rw [this]
      simp
theorem kids_few {ns : List Str} {row : RowS} {st : List Str} : (opens ns row st ++ shut row st).length ≤ ns.length + 1 := by
  rw [List.length_append]
  unfold opens
  rw [List.length_map]
  have := List.length_filter_le (fun x => decide (It.b x ∉ row)) ns
  have : (shut row st).length ≤ 1 := by cases st <;> simp [shut]
  omega
theorem sum_le {α : Type} (f : α → Nat) (c : Nat) : ∀ l : List α, (∀ x ∈ l, f x = c) → (l.map f).sum = l.length * c
  | [], _ => by simp
  | x :: l, h => by
    rw [List.map_cons, List.sum_cons, h x List.mem_cons_self, sum_le f c l fun y hy => h y (List.mem_cons_of_mem _ hy), List.length_cons, Nat.add_mul, Nat.one_mul]
    omega
theorem kids_wt {ns : List Str} {row : RowS} {st : List Str} (h : row.length < 2 * ns.length) : wts ns (opens ns row st ++ shut row st) < wt ns (row, st) := by
  have e : 2 * ns.length - row.length = (2 * ns.length - (row.length + 1)) + 1 := by omega
  unfold wts wt
  rw [sum_le _ (szE ns.length (2 * ns.length - (row.length + 1))) _ (fun p hp => by rw [kid_len p hp])]
  show _ < szE ns.length (2 * ns.length - row.length)
  rw [e]
  show _ < 1 + (ns.length + 1) * szE ns.length (2 * ns.length - (row.length + 1))
  have := Nat.mul_le_mul_right (szE ns.length (2 * ns.length - (row.length + 1))) (kids_few (ns := ns) (row := row) (st := st))
  omega
theorem kid_way {ns : List Str} {row : RowS} {st : List Str} (h : Way ns row st) : ∀ p ∈ opens ns row st ++ shut row st, Way ns p.1 p.2 := fun p hp => by
  rcases List.mem_append.mp hp with q | q
  · obtain ⟨x, hx, rfl⟩ := List.mem_map.mp q
    obtain ⟨h1, h2⟩ := List.mem_filter.mp hx
    exact h.open' h1 (of_decide_eq_true h2)
  · cases st with
    | nil => cases q
    | cons x st =>
      have : p = (row ++ [.e x], st) := by simpa [shut] using q
      rw [this]
      exact h.close
theorem okPys_app : ∀ a b : List D, okPys (a ++ b) = (okPys a && okPys b)
  | [], b => by show okPys b = (true && okPys b); simp
  | x :: a, b => by
    show (okPy x && okPys (a ++ b)) = ((okPy x && okPys a) && okPys b)
    rw [okPys_app a b, Bool.and_assoc]
theorem okPys_all {xs : List D} (h : ∀ x ∈ xs, okPy x = true) : okPys xs = true := by
  induction xs with
  | nil => rfl
  | cons x xs ih =>
    show (okPy x && okPys xs) = true
    rw [h x List.mem_cons_self, ih fun y hy => h y (List.mem_cons_of_mem _ hy)]
    rfl
theorem okE (a : It Str) : okPy (eD a) = true := by cases a <;> first | rfl | (rename_i b x; cases b <;> rfl)
theorem ok_row (r : RowS) : okPys (r.map eD) = true := okPys_all fun x hx => by
  obtain ⟨a, _, rfl⟩ := List.mem_map.mp hx
  exact okE a
theorem ok_strs (xs : List Str) : okPys (xs.map D.str) = true := okPys_all fun x hx => by
  obtain ⟨a, _, rfl⟩ := List.mem_map.mp hx
  rfl
theorem ok_ent (p : Ent) : okPy (entD p) = true := by
  show (okPys (p.1.map eD) && (okPys (p.2.reverse.map D.str) && true)) = true
  rw [ok_row, ok_strs]; rfl
theorem ok_ents (ws : List Ent) : okPys (ws.map entD) = true := okPys_all fun x hx => by
  obtain ⟨a, _, rfl⟩ := List.mem_map.mp hx
  exact ok_ent a
section
variable {s : CSt} {g : GH} {o e : CE} {C : CEnds} {A : Addr} {xs : List D} {d : D}
theorem st_popT {is : List Nat} {rs : CS} {ds : List D} (ho : EvE o s g (.ref A)) (hA : g A = some (.lst (xs ++ [.tup ds]))) (hl : ds.length = is.length) (k : rs C (setAll is ds s) (gupd g A (.lst xs))) : cSeq (cSetT is (cMet fPop o cNil)) rs C s g :=
  ho _ ⟨⟨A, _, rfl, hA⟩, xs ++ [.tup ds], .tup ds, hA, by
    rw [List.length_append, List.length_singleton, Nat.add_sub_cancel, List.getElem?_append_right (Nat.le_refl _)]
    simp, by rw [List.dropLast_concat]; exact ⟨ds, rfl, hl, k⟩⟩
/-- xs.extend(ys[::-1]) -/
theorem st_extRev {B : Addr} {zs : List D} (ho : EvE o s g (.ref A)) (he : EvE e s g (.ref B)) (hA : g A = some (.lst xs)) (hB : g B = some (.lst zs)) (hl : xs.length + zs.length ≤ 1000000) (k : ∀ p, g p = none → C.nx s (gupd (gupd g p (.lst zs.reverse)) A (.lst (xs ++ zs.reverse)))) : cDrop (cMet fExtend o (cCons (cRevL e) cNil)) C s g :=
  ho _ ⟨⟨A, xs, rfl, hA⟩, he _ ⟨B, zs, rfl, hB, fun p hp => ⟨xs, zs.reverse, gup_free hA hp, gupd_same, by unfold lim; rw [List.length_reverse]; exact hl, k p hp⟩⟩⟩
theorem ev_neTup {a : CE} (ha : EvE a s g (.tup xs)) (ok : okPys xs = true) : EvT (cB (cOp (fEq true) a (cTup cNil))) s g (!xs.isEmpty) := ev_B (ev_op ha (ev_tup ev_nil (by simp [lim])) fun R w => ⟨ok, rfl, by
    have : (toPy (.tup [])).depth ≤ 64 := by decide
    exact Nat.le_trans (Nat.min_le_right _ _) this, by
    have e : PyData.eqvAll (toPys xs) (toPys []) = xs.isEmpty := by
      cases xs with
      | nil => simp [toPys, PyData.eqvAll]
      | cons x xs => simp [toPys, PyData.eqvAll]
    rw [e]
    exact w⟩)
end
theorem ev_lenTup {a : CE} {s : CSt} {g : GH} {xs : List D} (ha : EvE a s g (.tup xs)) : EvE (cCall fLen (cCons a cNil)) s g (natD xs.length) := ev_call (ev_cons ha ev_nil) fun R w => w
theorem ev_full {s : CSt} {g : GH} {a b : CE} {xs ys : List D} (ha : EvE a s g (.tup xs)) (hb : EvE b s g (.tup ys)) (hy : ys.length ≤ 1000) : EvT (cB (cOp (fEq false) (cCall fLen (cCons a cNil)) (cOp fMul (cC (.int 2)) (cCall fLen (cCons b cNil))))) s g (decide (xs.length = 2 * ys.length)) := by
  refine ev_B (ev_eqN (ev_lenTup ha) (ev_op (z := natD (2 * ys.length)) ev_c (ev_lenTup hb) fun R w => ⟨?_, ?_⟩))
  · show CMul 2 (ys.length : Int)
    unfold CMul
    omega
  · have e : (2 : Int) * (ys.length : Int) = ((2 * ys.length : Nat) : Int) := by omega
    show R (.int (2 * (ys.length : Int))) g
    rw [e]
    exact w
theorem strs_tail (xs : List Str) (x : Str) : cutG ((xs ++ [x]).map D.str) none (some (-1)) = xs.map D.str := by
  rw [cut_tn _ (by simp), List.map_append]
  exact List.dropLast_concat
@[irreducible] def sp_all_rows : CSp := fun ds g Q => ∃ ns : List Str, ds = [.tup (ns.map D.str)] ∧ ns.Nodup ∧ sortedS ns = true ∧ ns.length ≤ 3 ∧ (∀ x ∈ ns, NmOk x) ∧ ∀ p, g p = none → Q (.ref p) (gupd g p (.lst ((allRows ns).map rowD)))
theorem few_rows {ns : List Str} (h : ns.length ≤ 3) : (allRows ns).length ≤ 4096 ∧ szE ns.length (2 * ns.length) ≤ 10000 := by
  have h1 := rf_few ns (2 * ns.length) [] []
  have h2 : ns.length = 0 ∨ ns.length = 1 ∨ ns.length = 2 ∨ ns.length = 3 := by omega
  unfold allRows
  rcases h2 with e | e | e | e <;> rw [e] at h1 ⊢ <;> refine ⟨Nat.le_trans h1 (by decide), by decide⟩
def restRows (ns : List Str) (ws : List Ent) : List RowS := ws.reverse.flatMap fun p => rf ns (2 * ns.length - p.1.length) p.1 p.2
theorem pu_all_rows : ∀ ds g Q, sp_all_rows ds g Q → c_all_rows sp_begin_of sp_end_of { nx := fun _ g' => Fin Q .non g', rt := Fin Q } (cstart N_all_rows ds) g := by
  intro ds g Q h
  unfold sp_all_rows at h
  obtain ⟨ns, rfl, nd, srt, hn, hok, q⟩ := h
  obtain ⟨few, few2⟩ := few_rows hn
  refine ⟨lim_ok (by simp), fun A hA => ?_⟩
  refine ⟨lim_ok (by simp), lim_ok (by simp), lim_ok (by simp), lim_ok (by simp), fun B hB => ?_⟩
  have hne : B ≠ A := fun e => by rw [e, gupd_same] at hB; cases hB
  have gA : (gupd (gupd g A (.lst [])) B (.lst [D.tup [.tup [], .tup []]])) A = some (.lst (([] : List RowS).map rowD)) := (gupd_ne hne.symm).trans gupd_same
  have gB : (gupd (gupd g A (.lst [])) B (.lst [D.tup [.tup [], .tup []]])) B = some (.lst ([(([], []) : Ent)].map entD)) := gupd_same
  have s1 : ∀ a m, g a = some m → a ≠ A ∧ a ≠ B := fun a m h => ⟨gne_none h hA, gne_none (gup_free h hA) hB⟩
  have s2 : ∀ a m, g a = some m → (gupd (gupd g A (.lst [])) B (.lst [D.tup [.tup [], .tup []]])) a = some m := (Sub.new hA).trans (.new hB)
  generalize gupd (gupd g A (.lst [])) B (.lst [D.tup [.tup [], .tup []]]) = g1 at gA gB s2
  refine ⟨fun m s g' => ∃ (fs : List RowS) (ws : List Ent) (o3 o4 o5 o7 : Option D), s = [some (.tup (ns.map D.str)), some (.ref A), some (.ref B), o3, o4, o5, none, o7, none] ∧ g' A = some (.lst (fs.map rowD)) ∧ g' B = some (.lst (ws.map entD)) ∧
    (∀ p ∈ ws, Way ns p.1 p.2 ∧ p.1.length ≤ 2 * ns.length) ∧ fs ++ restRows ns ws = allRows ns ∧ m = wts ns ws ∧ m ≤ 10000 ∧ ∀ a m, g a = some m → g' a = some m,
    ⟨_, [], [([], [])], none, none, none, none, rfl, gA, gB, fun p hp => ?_, ?_, rfl, ?_, s2⟩, ?_⟩
  · have : p = ([], []) := by simpa using hp
    rw [this]
    exact ⟨.nil ns, Nat.zero_le _⟩
  · show [] ++ (rf ns (2 * ns.length - 0) [] [] ++ []) = _
    rw [List.nil_append, List.append_nil]
    rfl
  · show szE ns.length (2 * ns.length - 0) + 0 ≤ 10000
    exact few2
  rintro m s g' ⟨fs, ws, o3, o4, o5, o7, rfl, gA, gB, hw, hall, hm, hml, s3⟩
  have hfs : fs.length ≤ 4096 := by
    have := congrArg List.length hall
    rw [List.length_append] at this
    omega
  refine ev_neNil (ev_var rfl) gB (ok_ents ws) fun E hE => ?_
  have s4 : ∀ a m, g a = some m → (gupd g' E (.lst [])) a = some m := fun a m h => gup_free (s3 a m h) hE
  have gA4 : (gupd g' E (.lst [])) A = some (.lst (fs.map rowD)) := gup_free gA hE
  have gB4 : (gupd g' E (.lst [])) B = some (.lst (ws.map entD)) := gup_free gB hE
  generalize gupd g' E (.lst []) = g2 at s4 gA4 gB4
  rcases List.eq_nil_or_concat ws with rfl | ⟨ws, w, rfl⟩
  · have hf : fs = allRows ns := by simpa [restRows] using hall
    subst hf
    refine te2 (fun e => by cases e) (fun _ => ?_)
    refine ev_ret (ev_var rfl) ?_
    refine ⟨gupd g A (.lst ((allRows ns).map rowD)), sub_gup s4 gA4, q A hA⟩
  · simp only [List.concat_eq_append] at *
    have hem : ((ws ++ [w]).map entD).isEmpty = false := by simp
    rw [hem]
    refine te2 (fun _ => ?_) (fun e => by cases e)
    obtain ⟨row, st⟩ := w
    obtain ⟨hway, hrl⟩ := hw (row, st) (by simp)
    have hrl : row.length ≤ 2 * ns.length := hrl
    have hws : ∀ p ∈ ws, Way ns p.1 p.2 ∧ p.1.length ≤ 2 * ns.length := fun p hp => hw p (by simp [hp])
    have hrest : restRows ns (ws ++ [(row, st)]) = rf ns (2 * ns.length - row.length) row st ++ restRows ns ws := by
      unfold restRows
      rw [List.reverse_append]
      rfl
    rw [hrest] at hall
    have hmw : m = wts ns ws + wt ns (row, st) := by
      rw [hm]
      unfold wts
      rw [List.map_append, List.sum_append]
      simp
    have hwl := wts_len ns ws
    -- row, still = waiting.pop()
    rw [List.map_append] at gB4
    refine st_popT (ds := [rowD row, .tup (st.reverse.map D.str)]) (ev_var rfl) gB4 rfl ?_
    have g5A : (gupd g2 B (.lst (ws.map entD))) A = some (.lst (fs.map rowD)) := (gupd_ne hne.symm).trans gA4
    have g5B : (gupd g2 B (.lst (ws.map entD))) B = some (.lst (ws.map entD)) := gupd_same
    have s5 : ∀ a m, g a = some m → (gupd g2 B (.lst (ws.map entD))) a = some m := fun a m h => (gupd_ne (s1 a m h).2).trans (s4 a m h)
    generalize gupd g2 B (.lst (ws.map entD)) = g5 at g5A g5B s5
    refine ev_if (ev_full (xs := row.map eD) (ys := ns.map D.str) (ev_var rfl) (ev_var rfl) (by rw [List.length_map]; omega)) (fun e => ?_) (fun e => ?_)
    · -- a full row
      have hfull : row.length = 2 * ns.length := by simpa using e
      refine st_append (ev_var rfl) g5A (ev_var rfl) (by rw [List.length_map]; omega) ?_
      refine ⟨_, ?_, fs ++ [row], ws, _, _, _, _, rfl, ?_, (gupd_ne hne).trans g5B, hws, ?_, rfl, ?_, fun a m h => (gupd_ne (s1 a m h).1).trans (s5 a m h)⟩
      · rw [hmw]
        have := szE_pos ns.length (2 * ns.length - row.length)
        unfold wt
        show _ < _ + szE ns.length (2 * ns.length - row.length)
        omega
      · rw [gupd_same, List.map_append]; rfl
      · rw [← hall, hfull, Nat.sub_self, List.append_assoc]; rfl
      · omega
    · have hlt : row.length < 2 * ns.length := by
        have : ¬ row.length = 2 * ns.length := by simpa using e
        omega
      -- steps
      refine ⟨_, rfl, ns, .inl rfl, by omega, fun ns2 p hs2 hnd2 hm2 hp => ?_⟩
      have e2 : ns2 = ns := srt_uniq ns2 ns hs2 srt hnd2 nd hm2
      subst e2
      refine ⟨p, _, rfl, gupd_same, fun l hl => ?_⟩
      rw [onEach_map]
      have hpl : p ≠ l := gne_none gupd_same hl
      refine lc_run (l := l) (g := gupd g5 p (.lst (ns2.map D.str))) (fun (x : Str) (s : CSt) => s.set 6 (some (D.str x))) (fun x => decide (It.b x ∉ row)) (fun x => eD (.b x)) (fun ys => (gupd_ne hpl).trans gupd_same) ns2 [] (by simp; omega) (fun x hx ys R w => ?_) (fun x hx _ ys R w => ev_beg (ev_var rfl) (hok x hx) R w) ?_
      · refine ev_B (ev_inT (neg := true) (x := eD (.b x)) (ys := row.map eD) (ev_beg (ev_var rfl) (hok x hx)) (ev_var rfl) (flat_eD _) (flat_row row)) R ?_
        rw [if_pos rfl, mem_row]
        have e : (!decide (It.b x ∈ row)) = decide (It.b x ∉ row) := by simp
        rw [e]
        exact w
      rw [List.nil_append]
      have g6A : (gupd (gupd g5 p (.lst (ns2.map D.str))) l (.lst ((ns2.filter fun x => decide (It.b x ∉ row)).map fun x => eD (.b x)))) A = some (.lst (fs.map rowD)) := gup_free (gup_free g5A hp) hl
      have g6B : (gupd (gupd g5 p (.lst (ns2.map D.str))) l (.lst ((ns2.filter fun x => decide (It.b x ∉ row)).map fun x => eD (.b x)))) B = some (.lst (ws.map entD)) := gup_free (gup_free g5B hp) hl
      have g6l : (gupd (gupd g5 p (.lst (ns2.map D.str))) l (.lst ((ns2.filter fun x => decide (It.b x ∉ row)).map fun x => eD (.b x)))) l = some (.lst ((ns2.filter fun x => decide (It.b x ∉ row)).map fun x => eD (.b x))) := gupd_same
      have s6 : ∀ a m, g a = some m → (gupd (gupd g5 p (.lst (ns2.map D.str))) l (.lst ((ns2.filter fun x => decide (It.b x ∉ row)).map fun x => eD (.b x)))) a = some m := fun a m h => gup_free (gup_free (s5 a m h) hp) hl
      generalize gupd (gupd g5 p (.lst (ns2.map D.str))) l (.lst ((ns2.filter fun x => decide (It.b x ∉ row)).map fun x => eD (.b x))) = g6 at g6A g6B g6l s6
      -- after
      refine ⟨_, rfl, l, _, rfl, g6l, fun z hz => ?_⟩
      rw [onEach_map]
      have hlz : l ≠ z := gne_none g6l hz
      have stl : st.length ≤ 3 := by
        have : st.length ≤ ns2.length := nodup_len _ _ hway.stn fun x hx => hway.inn true x (hway.sto x hx).1
        omega
      have rown : row.length ≤ 6 := by omega
      have fl : (ns2.filter fun x => decide (It.b x ∉ row)).length ≤ 3 := Nat.le_trans (List.length_filter_le _ _) hn
      refine lc_run (l := z) (g := g6) (fun (x : Str) (s : CSt) => s.set 8 (some (eD (.b x)))) (fun _ => true) (fun x => entD (row ++ [.b x], x :: st)) (fun ys => (gupd_ne hlz).trans g6l) _ [] (by rw [List.length_nil]; omega) (fun x hx ys R w => w) (fun x hx _ ys R w => ?_) ?_
      · obtain ⟨hx1, _⟩ := List.mem_filter.mp hx
        have e : entD (row ++ [.b x], x :: st) = .tup [rowD (row ++ [.b x]), .tup (st.reverse.map D.str ++ [.str x])] := by
          unfold entD
          simp
        rw [e] at w
        refine ev_tup (ev_cons (ev_cat (ev_var rfl) (ev_rtup (r := [It.b x]) (ev_cons (ev_var rfl) ev_nil) (by simp)) (by simp; omega)) (ev_cons (ev_op (ev_var rfl) (ev_tup (ev_cons (ev_nm (b := true) (ev_var rfl) (hok x hx1)) ev_nil) (lim_ok (by simp))) fun R w => ⟨lim_ok (by simp; omega), w⟩) ev_nil)) (lim_ok (by simp)) R w
      rw [List.nil_append, List.filter_eq_self.mpr (fun _ _ => rfl)]
      have eo : (ns2.filter fun x => decide (It.b x ∉ row)).map (fun x => entD (row ++ [.b x], x :: st)) = (opens ns2 row st).map entD := by
        unfold opens
        rw [List.map_map]
        rfl
      rw [eo]
      have g7A : (gupd g6 z (.lst ((opens ns2 row st).map entD))) A = some (.lst (fs.map rowD)) := gup_free g6A hz
      have g7B : (gupd g6 z (.lst ((opens ns2 row st).map entD))) B = some (.lst (ws.map entD)) := gup_free g6B hz
      have g7z : (gupd g6 z (.lst ((opens ns2 row st).map entD))) z = some (.lst ((opens ns2 row st).map entD)) := gupd_same
      have s7 : ∀ a m, g a = some m → a ≠ z ∧ (gupd g6 z (.lst ((opens ns2 row st).map entD))) a = some m := fun a m h => ⟨gne_none (s6 a m h) hz, gup_free (s6 a m h) hz⟩
      have hzA : z ≠ A := fun e => by rw [e, g6A] at hz; cases hz
      have hzB : z ≠ B := fun e => by rw [e, g6B] at hz; cases hz
      generalize gupd g6 z (.lst ((opens ns2 row st).map entD)) = g7 at g7A g7B g7z s7
      have ol : (opens ns2 row st).length ≤ 3 := by unfold opens; rw [List.length_map]; exact fl
      -- the rest of the turn, once after is whole
      have fin : ∀ (g8 : GH) (kids : List Ent), kids = opens ns2 row st ++ shut row st → g8 A = some (.lst (fs.map rowD)) → g8 B = some (.lst (ws.map entD)) → g8 z = some (.lst (kids.map entD)) → (∀ a m, g a = some m → g8 a = some m) →
          ∀ C : CEnds, (∀ (o3 o4 o5 o7 : Option D) (g' : GH), g' A = some (.lst (fs.map rowD)) → g' B = some (.lst ((ws ++ kids.reverse).map entD)) → (∀ a m, g a = some m → g' a = some m) → C.nx [some (.tup (ns2.map D.str)), some (.ref A), some (.ref B), o3, o4, o5, none, o7, none] g') →
          cDrop (cMet fExtend (cVar 2) (cCons (cRevL (cVar 7)) cNil)) C [some (.tup (ns2.map D.str)), some (.ref A), some (.ref B), some (rowD row), some (.tup (st.reverse.map D.str)), some (.ref l), none, some (.ref z), none] g8 := by
        intro g8 kids hk gA8 gB8 gz8 s8 C kk
        have kl : kids.length ≤ 4 := by rw [hk]; exact Nat.le_trans kids_few (by omega)
        refine st_extRev (ev_var rfl) (ev_var rfl) gB8 gz8 (by rw [List.length_map, List.length_map]; omega) fun p hp => ?_
        refine kk _ _ _ _ _ ((gupd_ne hne.symm).trans (gup_free gA8 hp)) (by rw [gupd_same, ← List.map_reverse, List.map_append]) (fun a m h => (gupd_ne (s1 a m h).2).trans (gup_free (s8 a m h) hp))
      have close : ∀ (o3 o4 o5 o7 : Option D) (g' : GH), g' A = some (.lst (fs.map rowD)) → g' B = some (.lst ((ws ++ (opens ns2 row st ++ shut row st).reverse).map entD)) → (∀ a m, g a = some m → g' a = some m) →
          ∃ m', m' < m ∧ ∃ (fs : List RowS) (ws : List Ent) (o3' o4' o5' o7' : Option D), [some (.tup (ns2.map D.str)), some (.ref A), some (.ref B), o3, o4, o5, none, o7, none] = [some (.tup (ns2.map D.str)), some (.ref A), some (.ref B), o3', o4', o5', none, o7', none] ∧ g' A = some (.lst (fs.map rowD)) ∧ g' B = some (.lst (ws.map entD)) ∧
            (∀ p ∈ ws, Way ns2 p.1 p.2 ∧ p.1.length ≤ 2 * ns2.length) ∧ fs ++ restRows ns2 ws = allRows ns2 ∧ m' = wts ns2 ws ∧ m' ≤ 10000 ∧ ∀ a m, g a = some m → g' a = some m := by
        intro o3 o4 o5 o7 g' h1 h2 h3
        have hk := kids_wt (ns := ns2) (row := row) (st := st) hlt
        have hsum : wts ns2 (ws ++ (opens ns2 row st ++ shut row st).reverse) = wts ns2 ws + wts ns2 (opens ns2 row st ++ shut row st) := by
          unfold wts
          rw [List.map_append, List.sum_append, List.map_reverse, List.sum_reverse]
        refine ⟨_, ?_, fs, ws ++ (opens ns2 row st ++ shut row st).reverse, o3, o4, o5, o7, rfl, h1, h2, fun p hp => ?_, ?_, rfl, ?_, h3⟩
        · rw [hsum, hmw]
          omega
        · rcases List.mem_append.mp hp with h | h
          · exact hws p h
          · have h := List.mem_reverse.mp h
            exact ⟨kid_way hway p h, by rw [kid_len p h]; omega⟩
        · rw [← hall]
          unfold restRows
          rw [List.reverse_append, List.reverse_reverse, List.flatMap_append]
          congr 1
          have e3 : 2 * ns2.length - row.length = (2 * ns2.length - (row.length + 1)) + 1 := by omega
          rw [e3, rf_kids]
          congr 1
          refine flatMap_eq _ _ _ fun p hp => ?_
          rw [kid_len p hp]
        · rw [hsum]
          omega
      refine ev_ifs (ev_neTup (xs := st.reverse.map D.str) (ev_var rfl) (ok_strs _)) (fun e => ?_) (fun e => ?_)
      · cases st with
        | nil => cases e
        | cons x st =>
          have hxn : x ∈ ns2 := hway.inn true x (hway.sto x List.mem_cons_self).1
          have rv : (x :: st).reverse = st.reverse ++ [x] := List.reverse_cons
          have en : entD (row ++ [.e x], st) = .tup [rowD (row ++ [.e x]), .tup (cutG (((x :: st).reverse).map D.str) none (some (-1)))] := by
            rw [rv, strs_tail]
            rfl
          refine st_append (d := entD (row ++ [.e x], st)) (ev_var rfl) g7z ?_ (by rw [List.length_map]; omega) ?_
          · rw [en]
            refine ev_tup (ev_cons (ev_cat (ev_var rfl) (ev_rtup (r := [It.e x]) (ev_cons (ev_end (ev_ix (xs := ((x :: st).reverse).map D.str) (ev_var rfl) ev_m1 ?_) (hok x hxn)) ev_nil) (by simp)) (by simp; omega)) (ev_cons (ev_slT (ev_var rfl) ev_on (fun R w => ev_m1 _ ⟨-1, rfl, w⟩)) ev_nil)) (lim_ok (by simp))
            rw [rv, List.map_append]
            exact last_at _ _
          · dsimp only
            refine fin _ (opens ns2 row (x :: st) ++ shut row (x :: st)) rfl ((gupd_ne (fun e => hzA e.symm)).trans g7A) ((gupd_ne (fun e => hzB e.symm)).trans g7B) (by rw [gupd_same, List.map_append]; rfl) (fun a m h => (gupd_ne (s7 a m h).1).trans (s7 a m h).2) _ close
      · have est : st = [] := by
          cases st with
          | nil => rfl
          | cons x st => simp at e
        subst est
        refine fin g7 _ rfl g7A g7B (by rw [g7z]; simp [shut]) (fun a m h => (s7 a m h).2) _ close
end CL

/-! P8: loses (printed from P8.src by pp.py). -/
namespace CL
open PySem PySem.Spec PyProof.Rows L2 TM

theorem doneAll_len : ∀ (ds : List DeedS) (i : Nat) (r t : RowS), Good r → doneAll i r ds = .does t → t.length ≤ r.length + 2 * ds.length
  | [], i, r, t, g, h => by
    injection h with h
    rw [h]
    simp
  | d :: ds, i, r, t, g, h => by
    unfold doneAll at h
    cases hs : stop r d with
    | some w => rw [hs] at h; cases h
    | none =>
      rw [hs] at h
      have h1 := doneAll_len ds _ _ _ (done_good g hs) h
      have h2 := done_len g hs
      rw [List.length_cons]
      omega
/-- a wood of few names -/
def WdOk (f : F) : Prop := (∀ x ∈ f.names, NmOk x) ∧ f.names.length ≤ 10
def kOf (t : RowS) : List Key := (named t).map kIt
theorem kOf_inj {t t' : RowS} (h : kOf t = kOf t') : named t = named t' := by
  unfold kOf at h
  revert h
  generalize named t = a
  generalize named t' = b
  induction a generalizing b with
  | nil => intro h; cases b with
    | nil => rfl
    | cons y b => cases h
  | cons x a ih => intro h; cases b with
    | nil => cases h
    | cons y b =>
      injection h with h1 h2
      rw [kIt_inj h1, ih b h2]
def GoneR (es : List DeedS) (s : RowS) (t : RowS) (d : D) : Prop := ∃ k x fa fb, k ≤ s.length ∧ It.g k ∉ t ∧ x ∉ Snm es ∧ fr fa = s ∧ fr fb = ins s k (lf x) ∧ WdOk fa ∧ WdOk fb ∧ d = .tup [woodD fa, woodD fb]
def BesR (es : List DeedS) (s : RowS) (t : RowS) (d : D) : Prop := ∃ u a c v x fa fb, t = u ++ .g a :: .g c :: v ∧ x ∉ Snm es ∧ fr fa = ins s a (lf x) ∧ fr fb = ins s c (lf x) ∧ WdOk fa ∧ WdOk fb ∧ d = .tup [woodD fa, woodD fb]
structure LoJ (ns : List Str) (es : List DeedS) (ps : List RowS) (kvs : List (List Key × D)) (d3 d4 : D) : Prop where
  few : kvs.length ≤ ps.length
  row : ∀ s ∈ ps, RowOf ns s
  uniq : ∀ s ∈ ps, ∀ s' ∈ ps, ∀ t t', tpl es s = .does t → tpl es s' = .does t' → named t = named t' → s = s'
  get : ∀ k v, valD kvs k = some v ↔ ∃ s ∈ ps, ∃ t, tpl es s = .does t ∧ k = kOf t ∧ v = rowD s
  gone : (d3 = .non ∧ ∀ s ∈ ps, ∀ t, tpl es s = .does t → ∀ k, k ≤ s.length → It.g k ∈ t) ∨ ∃ s t, RowOf ns s ∧ tpl es s = .does t ∧ GoneR es s t d3
  bes : (d4 = .non ∧ ∀ s ∈ ps, ∀ t, tpl es s = .does t → Loose t) ∨ ∃ s t, RowOf ns s ∧ tpl es s = .does t ∧ BesR es s t d4
theorem LoJ.nil (ns : List Str) (es : List DeedS) : LoJ ns es [] [] .non .non where
  few := Nat.le_refl _
  row := fun s h => nomatch h
  uniq := fun s h => nomatch h
  get := fun k v => ⟨fun h => (nomatch h), fun ⟨s, h, _⟩ => nomatch h⟩
  gone := .inl ⟨rfl, fun s h => nomatch h⟩
  bes := .inl ⟨rfl, fun s h => nomatch h⟩
theorem LoJ.skip {ns : List Str} {es : List DeedS} {ps : List RowS} {kvs : List (List Key × D)} {d3 d4 : D} (J : LoJ ns es ps kvs d3 d4) {s : RowS} (hs : RowOf ns s) (h : ∀ t, tpl es s ≠ .does t) : LoJ ns es (ps ++ [s]) kvs d3 d4 where
  few := by rw [List.length_append]; exact Nat.le_trans J.few (Nat.le_add_right _ _)
  row := fun q hq => by
    rcases List.mem_append.mp hq with hq | hq
    · exact J.row q hq
    · rw [List.mem_singleton.mp hq]; exact hs
  uniq := fun a ha b hb t t' h1 h2 e => by
    rcases List.mem_append.mp ha with ha | ha
    · rcases List.mem_append.mp hb with hb | hb
      · exact J.uniq a ha b hb t t' h1 h2 e
      · rw [List.mem_singleton.mp hb] at h2; exact absurd h2 (h t')
    · rw [List.mem_singleton.mp ha] at h1; exact absurd h1 (h t)
  get := fun k v => by
    rw [J.get]
    constructor
    · rintro ⟨a, ha, r⟩
      exact ⟨a, List.mem_append_left _ ha, r⟩
    · rintro ⟨a, ha, t, h1, r⟩
      rcases List.mem_append.mp ha with ha | ha
      · exact ⟨a, ha, t, h1, r⟩
      · rw [List.mem_singleton.mp ha] at h1; exact absurd h1 (h t)
  gone := by
    rcases J.gone with ⟨e, q⟩ | q
    · refine .inl ⟨e, fun a ha t h1 => ?_⟩
      rcases List.mem_append.mp ha with ha | ha
      · exact q a ha t h1
      · rw [List.mem_singleton.mp ha] at h1; exact absurd h1 (h t)
    · exact .inr q
  bes := by
    rcases J.bes with ⟨e, q⟩ | q
    · refine .inl ⟨e, fun a ha t h1 => ?_⟩
      rcases List.mem_append.mp ha with ha | ha
      · exact q a ha t h1
      · rw [List.mem_singleton.mp ha] at h1; exact absurd h1 (h t)
    · exact .inr q
theorem LoJ.add {ns : List Str} {es : List DeedS} {ps : List RowS} {kvs : List (List Key × D)} {d3 d4 : D} (J : LoJ ns es ps kvs d3 d4) {s t : RowS} (hs : RowOf ns s) (h : tpl es s = .does t) (hn : valD kvs (kOf t) = none) {e3 e4 : D}
    (h3 : (e3 = d3 ∧ (d3 = .non → ∀ k, k ≤ s.length → It.g k ∈ t)) ∨ GoneR es s t e3) (h4 : (e4 = d4 ∧ (d4 = .non → Loose t)) ∨ BesR es s t e4) : LoJ ns es (ps ++ [s]) (putD kvs (kOf t) (rowD s)) e3 e4 where
  few := by
    have := putD_len kvs (kOf t) (rowD s)
    have := J.few
    rw [List.length_append, List.length_singleton]
    omega
  row := fun q hq => by
    rcases List.mem_append.mp hq with hq | hq
    · exact J.row q hq
    · rw [List.mem_singleton.mp hq]; exact hs
  uniq := by
    have key : ∀ a ∈ ps, ∀ t', tpl es a = .does t' → named t' = named t → False := fun a ha t' h1 e => by
      have : valD kvs (kOf t) = some (rowD a) := (J.get _ _).mpr ⟨a, ha, t', h1, by unfold kOf; rw [e], rfl⟩
      rw [hn] at this
      cases this
    intro a ha b hb u u' h1 h2 e
    rcases List.mem_append.mp ha with ha | ha
    · rcases List.mem_append.mp hb with hb | hb
      · exact J.uniq a ha b hb u u' h1 h2 e
      · rw [List.mem_singleton.mp hb, h] at h2
        injection h2 with h2
        rw [← h2] at e
        exact (key a ha u h1 e).elim
    · rw [List.mem_singleton.mp ha, h] at h1
      injection h1 with h1
      rcases List.mem_append.mp hb with hb | hb
      · rw [← h1] at e
        exact (key b hb u' h2 e.symm).elim
      · rw [List.mem_singleton.mp ha, List.mem_singleton.mp hb]
  get := fun k v => by
    rw [valD_put]
    constructor
    · intro q
      split at q
      · rename_i e
        injection q with q
        exact ⟨s, by simp, t, h, e, q.symm⟩
      · obtain ⟨a, ha, r⟩ := (J.get _ _).mp q
        exact ⟨a, List.mem_append_left _ ha, r⟩
    · rintro ⟨a, ha, u, h1, h2, h3⟩
      rcases List.mem_append.mp ha with ha | ha
      · have q := (J.get k v).mpr ⟨a, ha, u, h1, h2, h3⟩
        rw [if_neg (fun e => by rw [e, hn] at q; cases q)]
        exact q
      · rw [List.mem_singleton.mp ha] at h1 h3
        rw [h] at h1
        injection h1 with h1
        rw [if_pos (by rw [h2, h1]), h3]
  gone := by
    rcases h3 with ⟨e, q⟩ | q
    · rw [e]
      rcases J.gone with ⟨z, r⟩ | r
      · refine .inl ⟨z, fun a ha u h1 => ?_⟩
        rcases List.mem_append.mp ha with ha | ha
        · exact r a ha u h1
        · rw [List.mem_singleton.mp ha, h] at h1
          injection h1 with h1
          rw [List.mem_singleton.mp ha, ← h1]
          exact q z
      · exact .inr r
    · exact .inr ⟨s, t, hs, h, q⟩
  bes := by
    rcases h4 with ⟨e, q⟩ | q
    · rw [e]
      rcases J.bes with ⟨z, r⟩ | r
      · refine .inl ⟨z, fun a ha u h1 => ?_⟩
        rcases List.mem_append.mp ha with ha | ha
        · exact r a ha u h1
        · rw [List.mem_singleton.mp ha, h] at h1
          injection h1 with h1
          rw [← h1]
          exact q z
      · exact .inr r
    · exact .inr ⟨s, t, hs, h, q⟩
@[irreducible] def sp_loses : CSp := fun ds g Q => ∃ es : List DeedS, ds = [.tup (es.map deedD)] ∧ es.length ≤ 10 ∧ (∀ d ∈ es, DeedOk d) ∧ (∃ ms : List Str, ms.length ≤ 3 ∧ ∀ x, Old es x → x ∈ ms) ∧ ∀ ns, OldN ns es → (LoseOut ns es none → Q .non g) ∧ ∀ fa fb, LoseOut ns es (some (fr fa, fr fb)) → WdOk fa → WdOk fb → Q (.tup [woodD fa, woodD fb]) g
/-- what loses answers at the end -/
theorem lo_end {ns : List Str} {es : List DeedS} (nd : ns.Nodup) (ho : OldIs ns es) {kvs : List (List Key × D)} {d3 d4 : D} (J : LoJ ns es (allRows ns) kvs d3 d4) : (d3 = .non ∧ d4 = .non ∧ LoseOut ns es none) ∨ ∃ fa fb, LoseOut ns es (some (fr fa, fr fb)) ∧ WdOk fa ∧ WdOk fb ∧ (if isNonD d3 = true then d4 else d3) = .tup [woodD fa, woodD fb] := by
  have all : ∀ s, RowOf ns s → s ∈ allRows ns := fun s h => (mem_allRows nd).mpr h
  have nc : ¬ Coll ns es := fun ⟨s, s', t, t', h1, h2, hne, h3, h4, e⟩ => hne (J.uniq s (all s h1) s' (all s' h2) t t' h3 h4 e)
  have len : ∀ s, RowOf ns s → s.length = 2 * ns.length := fun s h => rowOf_len nd h
  rcases J.gone with ⟨e3, ng⟩ | ⟨s, t, hs, ht, k, x, fa, fb, hk, hn, hx, ha, hb, wa, wb, e3⟩
  · have ng' : ¬ Gone ns es := fun ⟨s, t, h1, h2, k, hk, hn⟩ => hn (ng s (all s h1) t h2 k hk)
    rcases J.bes with ⟨e4, nb⟩ | ⟨s, t, hs, ht, u, a, c, v, x, fa, fb, et, hx, ha, hb, wa, wb, e4⟩
    · exact .inl ⟨e3, e4, nc, ng', fun ⟨s, t, h1, h2, hn⟩ => hn (nb s (all s h1) t h2)⟩
    · right
      rw [et] at ht
      obtain ⟨la, lc, pr⟩ := beside_pair ho hs ht hx
      refine ⟨fa, fb, ?_, wa, wb, ?_⟩
      · rw [ha, hb]
        refine ⟨pr, .inr (.inr ⟨nc, ng', ⟨s, _, hs, ht, loose_not⟩, ?_⟩)⟩
        rw [ins_len, ins_len, len s hs]
        show (2 + _) + (2 + _) = _
        omega
      · rw [e3]; exact e4
  · right
    refine ⟨fa, fb, ?_, wa, wb, ?_⟩
    · rw [ha, hb]
      refine ⟨gone_pair ho hs ht hk hn hx, .inr (.inl ⟨nc, ⟨s, t, hs, ht, k, hk, hn⟩, ?_⟩)⟩
      rw [ins_len, len s hs]
      show _ + (2 + _) = _
      omega
    · rw [e3]; rfl
theorem wood_row {ns : List Str} (nd : ns.Nodup) (hn : ns.length ≤ 3) (hok : ∀ x ∈ ns, NmOk x) {s : RowS} (hs : RowOf ns s) : ∃ f, fr f = s ∧ WdOk f := by
  obtain ⟨f, hf⟩ := row_wood _ s (Nat.le_refl _) hs.whole hs.good.bal
  refine ⟨f, hf, fun x hx => hok x ((hs.nm x).mp (by rw [← hf]; exact (fr_names f x).mpr hx)), ?_⟩
  have h1 := fr_len f
  rw [hf, rowOf_len nd hs] at h1
  omega
theorem ev_wood {s : CSt} {g : GH} {c : CE} {f : F} (h : EvE c s g (rowD (fr f))) (w : WdOk f) : EvE (cCall sp_wood_from (cCons c cNil)) s g (woodD f) := ev_call (ev_cons h ev_nil) fun R q => by
  unfold sp_wood_from
  exact ⟨f, rfl, w.1, Nat.le_trans w.2 (by decide), q⟩
theorem wood_leaf {ns : List Str} (nd : ns.Nodup) (hn : ns.length ≤ 3) (hok : ∀ x ∈ ns, NmOk x) {s : RowS} (hs : RowOf ns s) {x : Str} (hx : x ∉ ns) (ho : NmOk x) {k : Nat} : ∃ f, fr f = ins s k (lf x) ∧ WdOk f := by
  have hb : It.b x ∉ s := fun h => hx ((hs.nm x).mp h)
  obtain ⟨f, hf⟩ := row_wood _ _ (Nat.le_refl _) (lf_whole hs.whole x k) (lf_good hs.good hb k).bal
  refine ⟨f, hf, fun y hy => ?_, ?_⟩
  · have := (fr_names f y).mpr hy
    rw [hf] at this
    rcases ins_row_names this with h | h
    · exact hok y ((hs.nm y).mp h)
    · rw [h]; exact ho
  · have := fr_len f
    have e : (lf x).length = 2 := rfl
    rw [hf, ins_len, rowOf_len nd hs, e] at this
    omega
theorem ev_wwith {s : CSt} {g : GH} {c1 c2 c3 : CE} {r : RowS} {k : Nat} {vs ns : List Str} {f : F} (h1 : EvE c1 s g (rowD r)) (h2 : EvE c2 s g (.tup [natD k])) (h3 : EvE c3 s g (.tup (vs.map D.str))) (hv : vs.length ≤ 40) (hr : RowOf ns r) (hok : ∀ x ∈ ns, NmOk x) (hl : r.length ≤ 90) (hk : k ≤ r.length) (hs : ∀ x ∈ ns, x ∈ vs) (hf : fr f = ins r k (lf (pick vs))) :
    EvE (cCall sp_wood_with (cCons c1 (cCons c2 (cCons c3 cNil)))) s g (woodD f) := ev_call (ev_cons h1 (ev_cons h2 (ev_cons h3 ev_nil))) fun R q => by
  unfold sp_wood_with
  refine ⟨r, k, vs, ns, rfl, hv, hr, hok, hl, hk, hs, fun f' hf' => ?_⟩
  rw [fr_inj (hf'.trans hf.symm)]
  exact q
end CL

/-! P9: loses, the loop (printed from P9.src by pp.py). -/
namespace CL
open PySem PySem.Spec PyProof.Rows L2 TM

theorem isNon {d : D} : isNonD d = true ↔ d = .non := by cases d <;> simp [isNonD]
theorem notNon {d : D} (h : isNonD d = false) : d ≠ .non := fun e => by rw [e] at h; cases h
def Lg (s t : RowS) (d : D) : Prop := (d = .non ∧ ∀ k, k ≤ s.length → It.g k ∈ t) ∨ ∃ k, d = natD k ∧ k ≤ s.length ∧ It.g k ∉ t
def Jg (t : RowS) (d : D) : Prop := (d = .non ∧ Loose t) ∨ ∃ u a c v, d = .tup [natD a, natD c] ∧ t = u ++ .g a :: .g c :: v
/-- what stays the same in a run of loses -/
structure LoX (ns : List Str) (es : List DeedS) (vs : List Str) : Prop where
  nd : ns.Nodup
  old : OldIs ns es
  few : ns.length ≤ 3
  ok : ∀ x ∈ ns, NmOk x
  dok : ∀ d ∈ es, DeedOk d
  el : es.length ≤ 10
  vl : vs.length ≤ 40
  vm : ∀ x, x ∈ vs ↔ x ∈ Snm es
section
variable {ns vs : List Str} {es : List DeedS} {s t : RowS} {g : GH}
theorem LoX.inv (X : LoX ns es vs) : ∀ x ∈ ns, x ∈ vs := fun x hx => (X.vm x).mpr (snm_or.mpr (.inl ((X.old.2 x).mp hx)))
theorem LoX.out (X : LoX ns es vs) : pick vs ∉ Snm es ∧ pick vs ∉ ns ∧ NmOk (pick vs) := by
  obtain ⟨h1, h2, _⟩ := pick_ok vs X.vl
  exact ⟨fun h => h1 ((X.vm _).mpr h), fun h => h1 (X.inv _ h), h2⟩
theorem LoX.len (X : LoX ns es vs) (hs : RowOf ns s) : s.length ≤ 6 := by
  have := rowOf_len X.nd hs
  have := X.few
  omega
theorem ev_ww (X : LoX ns es vs) (hs : RowOf ns s) {σ : CSt} {c1 c2 c3 : CE} {k : Nat} (h1 : EvE c1 σ g (rowD s)) (h2 : EvE c2 σ g (.tup [natD k])) (h3 : EvE c3 σ g (.tup (vs.map D.str))) (hk : k ≤ s.length) {f : F} (hf : fr f = ins s k (lf (pick vs))) :
    EvE (cCall sp_wood_with (cCons c1 (cCons c2 (cCons c3 cNil)))) σ g (woodD f) :=
  ev_wwith h1 h2 h3 X.vl hs X.ok (Nat.le_trans (X.len hs) (by decide)) hk X.inv hf
theorem lo_bes (X : LoX ns es vs) (hs : RowOf ns s) (ht : tpl es s = .does t) {d4 d9 : D} (hj : Jg t d9) {d0 d2 d3 : D} {o6 o7 o8 : Option D} {C : CEnds}
    (k : ∀ e4, ((e4 = d4 ∧ (d4 = .non → Loose t)) ∨ BesR es s t e4) → C.nx [some d0, some (.tup (vs.map D.str)), some d2, some d3, some e4, some (rowD s), o6, o7, o8, some d9] g) :
    cIfS (cAnd (cB (cOp (fIs false) (cVar 4) (cC .non))) (cB (cOp (fIs true) (cVar 9) (cC .non)))) (cSet 4 (cTup (cCons (cCall sp_wood_with (cCons (cVar 5) (cCons (cSl (cVar 9) oNone (oSome (cC (.int 1)))) (cCons (cVar 1) cNil)))) (cCons (cCall sp_wood_with (cCons (cVar 5) (cCons (cSl (cVar 9) (oSome (cC (.int 1))) oNone) (cCons (cVar 1) cNil)))) cNil)))) cSkip
      C [some d0, some (.tup (vs.map D.str)), some d2, some d3, some d4, some (rowD s), o6, o7, o8, some d9] g := by
  obtain ⟨p1, p2, p3⟩ := X.out
  refine ev_if (ev_and (ev_is (x := d4) (ev_var rfl)) fun _ => ev_isnt (x := d9) (ev_var rfl)) (fun e => ?_) (fun e => ?_)
  · rw [Bool.and_eq_true] at e
    rcases hj with ⟨rfl, _⟩ | ⟨u, a, c, v, rfl, et⟩
    · cases e.2
    · obtain ⟨la, lc, _⟩ := beside_pair X.old hs (by rw [ht, et]) p1
      obtain ⟨fa, ha, wa⟩ := wood_leaf X.nd X.few X.ok hs p2 p3 (k := a)
      obtain ⟨fb, hb, wb⟩ := wood_leaf X.nd X.few X.ok hs p2 p3 (k := c)
      have sl1 : EvE (cSl (cVar 9) oNone (oSome (cC (.int 1)))) [some d0, some (.tup (vs.map D.str)), some d2, some d3, some d4, some (rowD s), o6, o7, o8, some (.tup [natD a, natD c])] g (.tup [natD a]) := by
        have q := ev_slT (xs := [natD a, natD c]) (e := cVar 9) (s := [some d0, some (.tup (vs.map D.str)), some d2, some d3, some d4, some (rowD s), o6, o7, o8, some (.tup [natD a, natD c])]) (g := g) (ev_var rfl) ev_on (ev_os (n := 1) (e := cC (.int 1)) ev_c)
        rw [cut_t] at q
        exact q
      have sl2 : EvE (cSl (cVar 9) (oSome (cC (.int 1))) oNone) [some d0, some (.tup (vs.map D.str)), some d2, some d3, some d4, some (rowD s), o6, o7, o8, some (.tup [natD a, natD c])] g (.tup [natD c]) := by
        have q := ev_slT (xs := [natD a, natD c]) (e := cVar 9) (s := [some d0, some (.tup (vs.map D.str)), some d2, some d3, some d4, some (rowD s), o6, o7, o8, some (.tup [natD a, natD c])]) (g := g) (ev_var rfl) (ev_os (n := 1) (e := cC (.int 1)) ev_c) ev_on
        rw [cut_f] at q
        exact q
      exact ev_set (ev_tup (ev_cons (ev_ww X hs (ev_var rfl) sl1 (ev_var rfl) la ha) (ev_cons (ev_ww X hs (ev_var rfl) sl2 (ev_var rfl) lc hb) ev_nil)) (lim_ok (by simp))) (k _ (.inr ⟨u, a, c, v, pick vs, fa, fb, et, p1, ha, hb, wa, wb, rfl⟩))
  · refine k d4 (.inl ⟨rfl, fun z => ?_⟩)
    rcases hj with ⟨_, h⟩ | ⟨u, a, c, v, rfl, et⟩
    · exact h
    · rw [z] at e; cases e
theorem lo_gone (X : LoX ns es vs) (hs : RowOf ns s) (ht : tpl es s = .does t) {d3 d8 : D} (hj : Lg s t d8) {d0 d2 d4 : D} {o6 o7 o9 : Option D} {C : CEnds} {rest : CS}
    (k : ∀ e3, ((e3 = d3 ∧ (d3 = .non → ∀ k, k ≤ s.length → It.g k ∈ t)) ∨ GoneR es s t e3) → rest C [some d0, some (.tup (vs.map D.str)), some d2, some e3, some d4, some (rowD s), o6, o7, some d8, o9] g) :
    cSeq (cIfS (cAnd (cB (cOp (fIs false) (cVar 3) (cC .non))) (cB (cOp (fIs true) (cVar 8) (cC .non)))) (cSet 3 (cTup (cCons (cCall sp_wood_from (cCons (cVar 5) cNil)) (cCons (cCall sp_wood_with (cCons (cVar 5) (cCons (cTup (cCons (cVar 8) cNil)) (cCons (cVar 1) cNil)))) cNil)))) cSkip) rest
      C [some d0, some (.tup (vs.map D.str)), some d2, some d3, some d4, some (rowD s), o6, o7, some d8, o9] g := by
  obtain ⟨p1, p2, p3⟩ := X.out
  refine ev_ifs (ev_and (ev_is (x := d3) (ev_var rfl)) fun _ => ev_isnt (x := d8) (ev_var rfl)) (fun e => ?_) (fun e => ?_)
  · rw [Bool.and_eq_true] at e
    rcases hj with ⟨rfl, _⟩ | ⟨j, rfl, hj1, hj2⟩
    · cases e.2
    · obtain ⟨fa, ha, wa⟩ := wood_row X.nd X.few X.ok hs
      obtain ⟨fb, hb, wb⟩ := wood_leaf X.nd X.few X.ok hs p2 p3 (k := j)
      refine ev_set (ev_tup (ev_cons (ev_wood (f := fa) (ev_var (by rw [ha]; rfl)) wa) (ev_cons (ev_ww X hs (ev_var rfl) (ev_tup (ev_cons (ev_var rfl) ev_nil) (lim_ok (by simp))) (ev_var rfl) hj1 hb) ev_nil)) (lim_ok (by simp))) ?_
      exact k _ (.inr ⟨j, pick vs, fa, fb, hj1, hj2, p1, ha, hb, wa, wb, rfl⟩)
  · refine k d3 (.inl ⟨rfl, fun z => ?_⟩)
    rcases hj with ⟨_, h⟩ | ⟨j, rfl, _, _⟩
    · exact h
    · rw [z] at e; cases e
abbrev loGone : CS := cIfS (cAnd (cB (cOp (fIs false) (cVar 3) (cC .non))) (cB (cOp (fIs true) (cVar 8) (cC .non)))) (cSet 3 (cTup (cCons (cCall sp_wood_from (cCons (cVar 5) cNil)) (cCons (cCall sp_wood_with (cCons (cVar 5) (cCons (cTup (cCons (cVar 8) cNil)) (cCons (cVar 1) cNil)))) cNil)))) cSkip
abbrev loBes : CS := cIfS (cAnd (cB (cOp (fIs false) (cVar 4) (cC .non))) (cB (cOp (fIs true) (cVar 9) (cC .non)))) (cSet 4 (cTup (cCons (cCall sp_wood_with (cCons (cVar 5) (cCons (cSl (cVar 9) oNone (oSome (cC (.int 1)))) (cCons (cVar 1) cNil)))) (cCons (cCall sp_wood_with (cCons (cVar 5) (cCons (cSl (cVar 9) (oSome (cC (.int 1))) oNone) (cCons (cVar 1) cNil)))) cNil)))) cSkip
abbrev loBody : CS := (cSeq (cSet 6 (cCall sp_done_all (cCons (cCall sp_with_gaps (cCons (cVar 5) cNil)) (cCons (cVar 0) cNil))))
    (cIfS (cB (cOp (fEq false) (cOp fIx (cVar 6) (cC (.int 0))) (cC (.str "does")))) (cSeq (cSet 7 (cCall sp_without_gaps (cCons (cOp fIx (cVar 6) (cC (.int 1))) cNil)))
    (cSeq (cIfS (cB (cDIn false (cVar 7) (cVar 2))) (cRet (cTup (cCons (cCall sp_wood_from (cCons (cDGet (cVar 2) (cVar 7)) cNil)) (cCons (cCall sp_wood_from (cCons (cVar 5) cNil)) cNil)))) cSkip)
    (cSeq (cDPut (cVar 2) (cVar 7) (cVar 5))
    (cSeq (cSet 8 (cCall sp_lost_gap (cCons (cVar 5) (cCons (cOp fIx (cVar 6) (cC (.int 1))) cNil))))
    (cSeq (cSet 9 (cCall sp_joined_gaps (cCons (cOp fIx (cVar 6) (cC (.int 1))) cNil)))
    (cSeq loGone loBes)))))) cSkip))
theorem lo_body (X : LoX ns es vs) (hs : RowOf ns s) {ps : List RowS} (hnot : s ∉ ps) (hps : ps.length ≤ 5000) {kvs : List (List Key × D)} {S : Addr} {d3 d4 : D} (J : LoJ ns es ps kvs d3 d4) {o6 o7 o8 o9 : Option D} {C : CEnds} {g0 : GH} (hg : g = gupd g0 S (.dct kvs))
    (nx : ∀ kvs' e3 e4 o6 o7 o8 o9, LoJ ns es (ps ++ [s]) kvs' e3 e4 → C.nx [some (.tup (es.map deedD)), some (.tup (vs.map D.str)), some (.ref S), some e3, some e4, some (rowD s), o6, o7, o8, o9] (gupd g0 S (.dct kvs')))
    (rt : ∀ fa fb, LoseOut ns es (some (fr fa, fr fb)) → WdOk fa → WdOk fb → C.rt (.tup [woodD fa, woodD fb]) g) :
    loBody C [some (.tup (es.map deedD)), some (.tup (vs.map D.str)), some (.ref S), some d3, some d4, some (rowD s), o6, o7, o8, o9] g := by
  have gS : g S = some (.dct kvs) := by rw [hg]; exact gupd_same
  have sl := X.len hs
  have el := X.el
  have wgl : (wg 0 s).length ≤ 13 := by rw [wg_len]; omega
  have r6 : EvE (cCall sp_done_all (cCons (cCall sp_with_gaps (cCons (cVar 5) cNil)) (cCons (cVar 0) cNil))) [some (.tup (es.map deedD)), some (.tup (vs.map D.str)), some (.ref S), some d3, some d4, some (rowD s), o6, o7, o8, o9] g (resD (tpl es s)) :=
    ev_call (ev_cons (ev_call (ev_cons (ev_var (d := rowD s) rfl) ev_nil) fun R w => by
      unfold sp_with_gaps
      exact ⟨s, rfl, by omega, w⟩) (ev_cons (ev_var rfl) ev_nil)) fun R w => sp_doneall (wg_good hs.good hs.whole) X.dok (by omega) w
  refine ev_sets r6 ?_
  cases ht : tpl es s with
  | stops i w =>
    refine ev_if (ev_B (ev_eqS (x := "stops") (y := "does") (ev_ix (xs := [.str "stops", natD i, .str (stS w)]) (ev_var rfl) ev_c rfl) ev_c)) (fun e => absurd e (by decide)) (fun _ => ?_)
    have := nx kvs d3 d4 (some (resD (.stops i w))) o7 o8 o9 (J.skip hs (fun t h => by rw [ht] at h; cases h))
    rw [← hg] at this
    exact this
  | does t =>
    have tl : t.length ≤ 33 := by
      have := doneAll_len es 0 (wg 0 s) t (wg_good hs.good hs.whole) ht
      omega
    have i1 : ∀ {σ : CSt} {g : GH}, σ[6]? = some (some (resD (.does t))) → EvE (cOp fIx (cVar 6) (cC (.int 1))) σ g (rowD t) := fun h => ev_ix (xs := [.str "does", rowD t]) (ev_var h) ev_c rfl
    refine ev_if (ev_B (ev_eqS (x := "does") (y := "does") (ev_ix (xs := [.str "does", rowD t]) (ev_var rfl) ev_c rfl) ev_c)) (fun _ => ?_) (fun e => absurd e (by decide))
    refine ev_sets (d := .key (kOf t)) (ev_call (ev_cons (i1 rfl) ev_nil) fun R w => by
      unfold sp_without_gaps
      exact ⟨t, rfl, by omega, w⟩) ?_
    have tin : EvT (cB (cDIn false (cVar 7) (cVar 2))) [some (.tup (es.map deedD)), some (.tup (vs.map D.str)), some (.ref S), some d3, some d4, some (rowD s), some (resD (.does t)), some (.key (kOf t)), o8, o9] g (valD kvs (kOf t)).isSome := ev_B fun R w => ev_var (d := .key (kOf t)) rfl _ (ev_var (d := .ref S) rfl _ ⟨_, .inr ⟨S, kvs, kOf t, rfl, gS, rfl, rfl⟩, w⟩)
    refine ev_ifs tin (fun e => ?_) (fun e => ?_)
    · -- two rows with one named
      obtain ⟨v, hv⟩ := Option.isSome_iff_exists.mp e
      obtain ⟨s', hs', t', ht', hk, rfl⟩ := (J.get _ _).mp hv
      obtain ⟨fa, ha, wa⟩ := wood_row X.nd X.few X.ok (J.row s' hs')
      obtain ⟨fb, hb, wb⟩ := wood_row X.nd X.few X.ok hs
      have hne : s' ≠ s := fun q => hnot (q ▸ hs')
      have hnm : named t' = named t := (kOf_inj hk).symm
      have lo : LoseOut ns es (some (fr fa, fr fb)) := by
        rw [ha, hb]
        refine ⟨coll_pair (J.row s' hs') hs hne ht' ht hnm, .inl ⟨⟨s', s, t', t, J.row s' hs', hs, hne, ht', ht, hnm⟩, ?_⟩⟩
        rw [rowOf_len X.nd hs, rowOf_len X.nd (J.row s' hs')]
        omega
      have dg : EvE (cDGet (cVar 2) (cVar 7)) [some (.tup (es.map deedD)), some (.tup (vs.map D.str)), some (.ref S), some d3, some d4, some (rowD s), some (resD (.does t)), some (.key (kOf t)), o8, o9] g (rowD (fr fa)) := fun R w => ev_var (d := .ref S) rfl _ (ev_var (d := .key (kOf t)) rfl _ ⟨rowD (fr fa), .inr ⟨S, kvs, kOf t, rfl, gS, rfl, by rw [ha]; exact hv.symm⟩, w⟩)
      exact ev_ret (ev_tup (ev_cons (ev_wood dg wa) (ev_cons (ev_wood (f := fb) (ev_var (by rw [hb]; rfl)) wb) ev_nil)) (lim_ok (by simp))) (rt fa fb lo wa wb)
    · have hn : valD kvs (kOf t) = none := by simpa using e
      have kl : kvs.length ≤ 5000 := Nat.le_trans J.few hps
      refine ⟨_, rfl, ⟨_, rfl, ⟨_, rfl, ⟨_, .inr ⟨S, kvs, kOf t, rfl, gS, rfl, lim_ok (by omega), rfl⟩, ?_⟩⟩⟩⟩
      have hg2 : gupd g S (.dct (putD kvs (kOf t) (rowD s))) = gupd g0 S (.dct (putD kvs (kOf t) (rowD s))) := by rw [hg, gupd_gupd]
      rw [hg2]
      have last : ∀ d8 d9, Lg s t d8 → Jg t d9 → cSeq loGone loBes C [some (.tup (es.map deedD)), some (.tup (vs.map D.str)), some (.ref S), some d3, some d4, some (rowD s), some (resD (.does t)), some (.key (kOf t)), some d8, some d9] (gupd g0 S (.dct (putD kvs (kOf t) (rowD s)))) := fun d8 d9 h8 h9 =>
        lo_gone X hs ht h8 fun e3 h3 => lo_bes X hs ht h9 fun e4 h4 => nx _ e3 e4 _ _ _ _ (J.add hs ht hn h3 h4)
      -- gap, two
      have two : ∀ d8, Lg s t d8 → cSeq (cSet 9 (cCall sp_joined_gaps (cCons (cOp fIx (cVar 6) (cC (.int 1))) cNil))) (cSeq loGone loBes) C [some (.tup (es.map deedD)), some (.tup (vs.map D.str)), some (.ref S), some d3, some d4, some (rowD s), some (resD (.does t)), some (.key (kOf t)), some d8, o9] (gupd g0 S (.dct (putD kvs (kOf t) (rowD s)))) := fun d8 h8 => i1 rfl _ (by
        unfold sp_joined_gaps
        refine ⟨t, rfl, by omega, fun h => last d8 .non h8 (.inl ⟨rfl, h⟩), fun u a c v h => last d8 _ h8 (.inr ⟨u, a, c, v, rfl, h⟩)⟩)
      refine ⟨_, rfl, ?_⟩
      refine i1 rfl _ ?_
      unfold sp_lost_gap
      refine ⟨s, t, rfl, by omega, fun h => two .non (.inl ⟨rfl, h⟩), fun k hk h => two _ (.inr ⟨k, rfl, hk, h⟩)⟩
end
theorem lo_loop {ns vs : List Str} {es : List DeedS} (X : LoX ns es vs) {S L : Addr} (hSL : L ≠ S) {g0 : GH} {ds : List D} (gL : g0 L = some (.lst ds)) {C : CEnds}
    (rt : ∀ kvs fa fb, LoseOut ns es (some (fr fa, fr fb)) → WdOk fa → WdOk fb → C.rt (.tup [woodD fa, woodD fb]) (gupd g0 S (.dct kvs)))
    (nx : ∀ kvs d3 d4 o5 o6 o7 o8 o9, LoJ ns es (allRows ns) kvs d3 d4 → C.nx [some (.tup (es.map deedD)), some (.tup (vs.map D.str)), some (.ref S), some d3, some d4, o5, o6, o7, o8, o9] (gupd g0 S (.dct kvs))) :
    ∀ (rs ps : List RowS) (kvs : List (List Key × D)) (d3 d4 : D) (o5 o6 o7 o8 o9 : Option D) (g : GH), ps ++ rs = allRows ns → LoJ ns es ps kvs d3 d4 → g = gupd g0 S (.dct kvs) →
      cLoop loBody C (fun g => g L = some (.lst ds)) (rs.map fun s σ => σ.set 5 (some (rowD s))) [some (.tup (es.map deedD)), some (.tup (vs.map D.str)), some (.ref S), some d3, some d4, o5, o6, o7, o8, o9] g
  | [], ps, kvs, d3, d4, o5, o6, o7, o8, o9, g, hall, J, hg => by
    rw [List.append_nil] at hall
    rw [hg]
    exact ⟨(gupd_ne hSL).trans gL, nx kvs d3 d4 _ _ _ _ _ (hall ▸ J)⟩
  | s :: rs, ps, kvs, d3, d4, o5, o6, o7, o8, o9, g, hall, J, hg => by
    have hmem : s ∈ allRows ns := by rw [← hall]; simp
    have hs := (mem_allRows X.nd).mp hmem
    have hnd : (ps ++ s :: rs).Nodup := by rw [hall]; exact rf_nodup X.nd _ _ _
    have hnot : s ∉ ps := fun h => (List.nodup_append.mp hnd).2.2 s h s (by simp) rfl
    have hpl : ps.length ≤ 5000 := by
      have := (few_rows X.few).1
      rw [← hall, List.length_append] at this
      omega
    refine ⟨by rw [hg]; exact (gupd_ne hSL).trans gL, ?_⟩
    refine lo_body X hs hnot hpl J hg (fun kvs' e3 e4 o6 o7 o8 o9 J' => ?_) (fun fa fb lo wa wb => by rw [hg]; exact rt kvs fa fb lo wa wb)
    exact lo_loop X hSL gL rt nx rs (ps ++ [s]) kvs' e3 e4 _ _ _ _ _ _ (by rw [← hall]; simp) J' rfl
theorem old_ok {es : List DeedS} (h : ∀ d ∈ es, DeedOk d) {x : Str} (hx : x ∈ Snm es) : NmOk x := by
  rw [snm_names] at hx
  obtain ⟨d, hd, hx⟩ := List.mem_flatMap.mp hx
  exact names_ok (h d hd) x hx
theorem pu_loses : ∀ ds g Q, sp_loses ds g Q → c_loses sp_names_in sp_old_names sp_all_rows sp_with_gaps sp_done_all sp_without_gaps sp_wood_from sp_lost_gap sp_joined_gaps sp_wood_with { nx := fun _ g' => Fin Q .non g', rt := Fin Q } (cstart N_loses ds) g := by
  intro ds g Q h
  unfold sp_loses at h
  obtain ⟨es, rfl, hl, hd, ⟨ms, hms, hold⟩, q⟩ := h
  -- names
  refine ⟨_, rfl, ?_⟩
  unfold sp_names_in
  refine ⟨es, rfl, by omega, fun vs hv vnd => ?_⟩
  refine fun S hS => ?_
  refine ev_sets ev_c ?_
  refine ev_sets ev_c ?_
  -- the rows
  refine ⟨_, rfl, ?_⟩
  unfold sp_old_names
  refine ⟨es, rfl, by omega, fun ns hns => ?_⟩
  unfold sp_all_rows
  obtain ⟨ho, hsrt⟩ := hns
  obtain ⟨q1, q2⟩ := q ns ⟨ho, hsrt⟩
  have hfew : ns.length ≤ 3 := Nat.le_trans (nodup_len _ _ ho.1 fun x hx => hold x ((ho.2 x).mp hx)) hms
  have hok : ∀ x ∈ ns, NmOk x := fun x hx => old_ok hd (snm_or.mpr (.inl ((ho.2 x).mp hx)))
  have hvl : vs.length ≤ 40 := by
    have h1 : vs.length ≤ (Snm es).length := nodup_len _ _ vnd fun x hx => (hv x).mp hx
    have h2 := occs_len es
    unfold Snm at h1
    rw [List.length_map] at h1
    omega
  have X : LoX ns es vs := ⟨ho.1, ho, hfew, hok, hd, hl, hvl, hv⟩
  refine ⟨ns, rfl, ho.1, hsrt, hfew, hok, fun L hL => ?_⟩
  have hSL : L ≠ S := fun e => by rw [e, gupd_same] at hL; cases hL
  refine ⟨L, _, rfl, gupd_same, ?_⟩
  rw [onEach_map]
  have sub : ∀ kvs, Sub g (gupd (gupd (gupd g S (.dct [])) L (.lst ((allRows ns).map rowD))) S (.dct kvs)) := fun kvs a m h => by
    have hb : a ≠ S := gne_none h hS
    rw [gupd_ne hb]
    exact gup_free (gup_free h hS) hL
  have e0 : gupd (gupd g S (.dct [])) L (.lst ((allRows ns).map rowD)) = gupd (gupd (gupd g S (.dct [])) L (.lst ((allRows ns).map rowD))) S (.dct []) := by
    funext a
    unfold gupd
    by_cases e : a = S
    · have hn : a ≠ L := fun q => hSL (q.symm.trans e)
      simp only [if_pos e, if_neg hn]
    · simp only [if_neg e]
  refine lo_loop X hSL (g0 := gupd (gupd g S (.dct [])) L (.lst ((allRows ns).map rowD))) gupd_same ?_ ?_ (allRows ns) [] [] .non .non none none none none none _ rfl (.nil ns es) e0
  · exact fun kvs fa fb lo wa wb => ⟨g, sub kvs, q2 fa fb lo wa wb⟩
  intro kvs d3 d4 o5 o6 o7 o8 o9 J
  have key : EvE (cIf (cB (cOp (fIs false) (cVar 3) (cC .non))) (cVar 4) (cVar 3)) [some (.tup (es.map deedD)), some (.tup (vs.map D.str)), some (.ref S), some d3, some d4, o5, o6, o7, o8, o9] (gupd (gupd (gupd g S (.dct [])) L (.lst ((allRows ns).map rowD))) S (.dct kvs)) (if isNonD d3 = true then d4 else d3) := fun R w => ev_is (x := d3) (ev_var rfl) _ (te2 (fun e => by rw [if_pos e] at w; exact ev_var rfl _ w) fun e => by rw [if_neg (by rw [e]; exact Bool.false_ne_true)] at w; exact ev_var rfl _ w)
  refine ev_ret key ?_
  rcases lo_end ho.1 ho J with ⟨z3, z4, lo⟩ | ⟨fa, fb, lo, wa, wb, e⟩
  · rw [z3, z4]
    exact ⟨g, sub kvs, q1 lo⟩
  · rw [e]
    exact ⟨g, sub kvs, q2 fa fb lo wa wb⟩
end CL

/-! M5: woods as tables of children. -/
namespace CL
open PySem PySem.Spec PyProof.Rows L2 TM

def F.tops : F → List Str
  | .nil => []
  | .cons x k r => x :: r.tops
def KRs (m : Str → List Str) : F → Prop
  | .nil => True
  | .cons x k r => m x = k.tops ∧ KRs m k ∧ KRs m r
def F.dep : F → Nat
  | .nil => 0
  | .cons x k r => max (k.dep + 1) r.dep
theorem dep_le : ∀ f : F, f.dep ≤ f.names.length
  | .nil => Nat.le_refl _
  | .cons x k r => by
    have h1 := dep_le k
    have h2 := dep_le r
    simp only [F.dep, F.names, List.length_cons, List.length_append]
    omega
theorem tops_sub : ∀ {f : F} {c : Str}, c ∈ f.tops → c ∈ f.names
  | .cons x k r, c, h => by
    rcases List.mem_cons.mp h with rfl | h
    · exact List.mem_cons_self
    · exact List.mem_cons_of_mem _ (List.mem_append_right _ (tops_sub h))
theorem kr_congr {m m' : Str → List Str} : ∀ {f : F}, (∀ x ∈ f.names, m x = m' x) → KRs m f → KRs m' f
  | .nil, _, _ => trivial
  | .cons x k r, h, q => ⟨by rw [← h x List.mem_cons_self]; exact q.1, kr_congr (fun y hy => h y (List.mem_cons_of_mem _ (List.mem_append_left _ hy))) q.2.1, kr_congr (fun y hy => h y (List.mem_cons_of_mem _ (List.mem_append_right _ hy))) q.2.2⟩
theorem nd_cons {x : Str} {k r : F} (h : (F.cons x k r).names.Nodup) : x ∉ k.names ∧ x ∉ r.names ∧ k.names.Nodup ∧ r.names.Nodup ∧ ∀ y ∈ k.names, y ∉ r.names := by
  obtain ⟨h1, h2⟩ := List.nodup_cons.mp h
  obtain ⟨h3, h4, h5⟩ := List.nodup_append.mp h2
  exact ⟨fun q => h1 (List.mem_append_left _ q), fun q => h1 (List.mem_append_right _ q), h3, h4, fun y hy hr => h5 y hy y hr rfl⟩
theorem kr_ex0 : ∀ f : F, f.names.Nodup → ∃ m, KRs m f
  | .nil, _ => ⟨fun _ => [], trivial⟩
  | .cons x k r, h => by
    obtain ⟨h1, h2, h3, h4, h5⟩ := nd_cons h
    obtain ⟨mk, hk⟩ := kr_ex0 k h3
    obtain ⟨mr, hr⟩ := kr_ex0 r h4
    refine ⟨fun z => if z = x then k.tops else if z ∈ k.names then mk z else mr z, by simp, kr_congr (fun y hy => ?_) hk, kr_congr (fun y hy => ?_) hr⟩
    · have : y ≠ x := fun e => h1 (e ▸ hy)
      simp [this, hy]
    · have e1 : y ≠ x := fun e => h2 (e ▸ hy)
      have e2 : y ∉ k.names := fun q => h5 y q hy
      simp [e1, e2]
theorem kr_ex (f : F) (h : f.names.Nodup) (h0 : ("" : Str) ∉ f.names) : ∃ m, m "" = f.tops ∧ KRs m f := by
  obtain ⟨m, hm⟩ := kr_ex0 f h
  refine ⟨fun z => if z = "" then f.tops else m z, by simp, kr_congr (fun y hy => ?_) hm⟩
  have : y ≠ "" := fun e => h0 (e ▸ hy)
  simp [this]
section
variable {m : Str → List Str}
theorem kr_kid : ∀ {f : F} {k c : Str}, KRs m f → k ∈ f.names → c ∈ m k → c ∈ f.names
  | .cons x kf r, k, c, h, hk, hc => by
    obtain ⟨h1, h2, h3⟩ := h
    rcases List.mem_cons.mp hk with rfl | hk
    · rw [h1] at hc
      exact List.mem_cons_of_mem _ (List.mem_append_left _ (tops_sub hc))
    · rcases List.mem_append.mp hk with hk | hk
      · exact List.mem_cons_of_mem _ (List.mem_append_left _ (kr_kid h2 hk hc))
      · exact List.mem_cons_of_mem _ (List.mem_append_right _ (kr_kid h3 hk hc))
theorem kr_par : ∀ {f : F} {c : Str}, KRs m f → c ∈ f.names → c ∈ f.tops ∨ ∃ k ∈ f.names, c ∈ m k
  | .cons x kf r, c, h, hc => by
    obtain ⟨h1, h2, h3⟩ := h
    rcases List.mem_cons.mp hc with rfl | hc
    · exact .inl List.mem_cons_self
    · rcases List.mem_append.mp hc with hc | hc
      · rcases kr_par h2 hc with q | ⟨k, hk, q⟩
        · exact .inr ⟨x, List.mem_cons_self, by rw [h1]; exact q⟩
        · exact .inr ⟨k, List.mem_cons_of_mem _ (List.mem_append_left _ hk), q⟩
      · rcases kr_par h3 hc with q | ⟨k, hk, q⟩
        · exact .inl (List.mem_cons_of_mem _ q)
        · exact .inr ⟨k, List.mem_cons_of_mem _ (List.mem_append_right _ hk), q⟩
theorem kr_top : ∀ {f : F} {k c : Str}, KRs m f → f.names.Nodup → c ∈ f.tops → k ∈ f.names → c ∉ m k
  | .cons x kf r, k, c, h, nd, ht, hk, hc => by
    obtain ⟨h1, h2, h3⟩ := h
    obtain ⟨n1, n2, n3, n4, n5⟩ := nd_cons nd
    rcases List.mem_cons.mp hk with rfl | hk
    · rw [h1] at hc
      have hc := tops_sub hc
      rcases List.mem_cons.mp ht with rfl | ht
      · exact n1 hc
      · exact n5 c hc (tops_sub ht)
    · rcases List.mem_append.mp hk with hk | hk
      · have hc := kr_kid h2 hk hc
        rcases List.mem_cons.mp ht with rfl | ht
        · exact n1 hc
        · exact n5 c hc (tops_sub ht)
      · rcases List.mem_cons.mp ht with e | ht
        · exact n2 (by rw [← e]; exact kr_kid h3 hk hc)
        · exact kr_top h3 n4 ht hk hc
theorem kr_uniq : ∀ {f : F} {k k' c : Str}, KRs m f → f.names.Nodup → k ∈ f.names → k' ∈ f.names → c ∈ m k → c ∈ m k' → k = k'
  | .cons x kf r, k, k', c, h, nd, hk, hk', hc, hc' => by
    obtain ⟨h1, h2, h3⟩ := h
    obtain ⟨n1, n2, n3, n4, n5⟩ := nd_cons nd
    rcases List.mem_cons.mp hk with rfl | hk <;> rcases List.mem_cons.mp hk' with e' | hk'
    · exact e'.symm
    · rw [h1] at hc
      rcases List.mem_append.mp hk' with hk' | hk'
      · exact absurd hc' (kr_top h2 n3 hc hk')
      · exact absurd (kr_kid h3 hk' hc') (n5 c (tops_sub hc))
    · rw [e', h1] at hc'
      rcases List.mem_append.mp hk with hk | hk
      · exact absurd hc (kr_top h2 n3 hc' hk)
      · exact absurd (kr_kid h3 hk hc) (n5 c (tops_sub hc'))
    · rcases List.mem_append.mp hk with hk | hk <;> rcases List.mem_append.mp hk' with hk' | hk'
      · exact kr_uniq h2 n3 hk hk' hc hc'
      · exact absurd (kr_kid h3 hk' hc') (n5 c (kr_kid h2 hk hc))
      · exact absurd (kr_kid h3 hk hc) (n5 c (kr_kid h2 hk' hc'))
      · exact kr_uniq h3 n4 hk hk' hc hc'
theorem tops_nd : ∀ {f : F}, f.names.Nodup → f.tops.Nodup
  | .nil, _ => List.nodup_nil
  | .cons x k r, nd => by
    obtain ⟨n1, n2, n3, n4, n5⟩ := nd_cons nd
    exact List.nodup_cons.mpr ⟨fun h => n2 (tops_sub h), tops_nd n4⟩
theorem kr_nd : ∀ {f : F} {k : Str}, KRs m f → f.names.Nodup → k ∈ f.names → (m k).Nodup
  | .cons x kf r, k, h, nd, hk => by
    obtain ⟨h1, h2, h3⟩ := h
    obtain ⟨n1, n2, n3, n4, n5⟩ := nd_cons nd
    rcases List.mem_cons.mp hk with rfl | hk
    · rw [h1]; exact tops_nd n3
    · rcases List.mem_append.mp hk with hk | hk
      · exact kr_nd h2 n3 hk
      · exact kr_nd h3 n4 hk
theorem kr_rank : ∀ {f : F}, KRs m f → f.names.Nodup → ∃ (r : Str → Nat) (R : Nat), (∀ k ∈ f.names, r k < R) ∧ ∀ k ∈ f.names, ∀ c ∈ m k, r c < r k
  | .nil, _, _ => ⟨fun _ => 0, 0, fun k h => (nomatch h), fun k h => (nomatch h)⟩
  | .cons x kf r, h, nd => by
    obtain ⟨h1, h2, h3⟩ := h
    obtain ⟨n1, n2, n3, n4, n5⟩ := nd_cons nd
    obtain ⟨ra, Ra, a1, a2⟩ := kr_rank h2 n3
    obtain ⟨rb, Rb, b1, b2⟩ := kr_rank h3 n4
    have fx : (fun z => if z = x then Ra else if z ∈ kf.names then ra z else rb z) x = Ra := by simp
    have fa : ∀ y ∈ kf.names, (fun z => if z = x then Ra else if z ∈ kf.names then ra z else rb z) y = ra y := fun y hy => by
      have : y ≠ x := fun e => n1 (e ▸ hy)
      simp [this, hy]
    have fb : ∀ y ∈ r.names, (fun z => if z = x then Ra else if z ∈ kf.names then ra z else rb z) y = rb y := fun y hy => by
      have e1 : y ≠ x := fun e => n2 (e ▸ hy)
      have e2 : y ∉ kf.names := fun q => n5 y q hy
      simp [e1, e2]
    refine ⟨fun z => if z = x then Ra else if z ∈ kf.names then ra z else rb z, max (Ra + 1) Rb, fun k hk => ?_, fun k hk c hc => ?_⟩
    · rcases List.mem_cons.mp hk with rfl | hk
      · rw [fx]; omega
      · rcases List.mem_append.mp hk with hk | hk
        · rw [fa k hk]; have := a1 k hk; omega
        · rw [fb k hk]; have := b1 k hk; omega
    · rcases List.mem_cons.mp hk with rfl | hk
      · rw [h1] at hc
        rw [fx, fa c (tops_sub hc)]
        exact a1 c (tops_sub hc)
      · rcases List.mem_append.mp hk with hk | hk
        · rw [fa k hk, fa c (kr_kid h2 hk hc)]; exact a2 k hk c hc
        · rw [fb k hk, fb c (kr_kid h3 hk hc)]; exact b2 k hk c hc
end
/-- a table of children -/
structure WFk (m : Str → List Str) (ks : List Str) : Prop where
  nd : ks.Nodup
  root : ("" : Str) ∈ ks
  kid : ∀ k ∈ ks, ∀ c ∈ m k, c ∈ ks ∧ c ≠ ""
  par : ∀ c ∈ ks, c ≠ "" → ∃ k ∈ ks, c ∈ m k
  uniq : ∀ k ∈ ks, ∀ k' ∈ ks, ∀ c, c ∈ m k → c ∈ m k' → k = k'
  ndk : ∀ k ∈ ks, (m k).Nodup
  rank : ∃ (r : Str → Nat) (R : Nat), (∀ k ∈ ks, r k ≤ R) ∧ ∀ k ∈ ks, ∀ c ∈ m k, r c < r k
theorem wfk_of {m : Str → List Str} {ks : List Str} {f : F} (nd : f.names.Nodup) (h0 : ("" : Str) ∉ f.names) (ht : m "" = f.tops) (h : KRs m f) (hks : ks.Nodup) (hm : ∀ x, x ∈ ks ↔ x = "" ∨ x ∈ f.names) : WFk m ks where
  nd := hks
  root := (hm _).mpr (.inl rfl)
  kid := fun k hk c hc => by
    have : c ∈ f.names := by
      rcases (hm k).mp hk with rfl | hk
      · rw [ht] at hc; exact tops_sub hc
      · exact kr_kid h hk hc
    exact ⟨(hm c).mpr (.inr this), fun e => h0 (e ▸ this)⟩
  par := fun c hc hne => by
    rcases (hm c).mp hc with e | hc
    · exact absurd e hne
    · rcases kr_par h hc with q | ⟨k, hk, q⟩
      · exact ⟨"", (hm _).mpr (.inl rfl), by rw [ht]; exact q⟩
      · exact ⟨k, (hm _).mpr (.inr hk), q⟩
  uniq := fun k hk k' hk' c hc hc' => by
    rcases (hm k).mp hk with e | hk <;> rcases (hm k').mp hk' with e' | hk'
    · rw [e, e']
    · rw [e, ht] at hc; exact absurd hc' (kr_top h nd hc hk')
    · rw [e', ht] at hc'; exact absurd hc (kr_top h nd hc' hk)
    · exact kr_uniq h nd hk hk' hc hc'
  ndk := fun k hk => by
    rcases (hm k).mp hk with rfl | hk
    · rw [ht]; exact tops_nd nd
    · exact kr_nd h nd hk
  rank := by
    obtain ⟨r, R, h1, h2⟩ := kr_rank h nd
    refine ⟨fun z => if z = "" then R else r z, R, fun k hk => ?_, fun k hk c hc => ?_⟩
    · rcases (hm k).mp hk with rfl | hk
      · simp
      · have : k ≠ "" := fun e => h0 (e ▸ hk)
        simp only [if_neg this]
        exact Nat.le_of_lt (h1 k hk)
    · rcases (hm k).mp hk with rfl | hk
      · rw [ht] at hc
        have hc := tops_sub hc
        have : c ≠ "" := fun e => h0 (e ▸ hc)
        simp only [if_neg this, if_true]
        exact h1 c hc
      · have e1 : k ≠ "" := fun e => h0 (e ▸ hk)
        have hcn := kr_kid h hk hc
        have e2 : c ≠ "" := fun e => h0 (e ▸ hcn)
        simp only [if_neg e1, if_neg e2]
        exact h2 k hk c hc
/-- below a node -/
inductive Below (m : Str → List Str) (x : Str) : Str → Prop
  | kid {c : Str} : c ∈ m x → Below m x c
  | step {p c : Str} : Below m x p → c ∈ m p → Below m x c
theorem Below.up {m : Str → List Str} {k x z : Str} (hx : x ∈ m k) (h : Below m x z) : Below m k z := by
  induction h with
  | kid hc => exact .step (.kid hx) hc
  | step _ hc ih => exact .step ih hc
theorem Below.par {m : Str → List Str} {x c : Str} (h : Below m x c) : ∃ p, (p = x ∨ Below m x p) ∧ c ∈ m p := by
  cases h with
  | kid hc => exact ⟨x, .inl rfl, hc⟩
  | step hp hc => exact ⟨_, .inr hp, hc⟩
def growL (g : Str → F) : List Str → F
  | [] => .nil
  | x :: xs => .cons x (g x) (growL g xs)
def grow (m : Str → List Str) : Nat → Str → F
  | 0, _ => .nil
  | n + 1, k => growL (grow m n) (m k)
theorem growL_tops (g : Str → F) : ∀ xs, (growL g xs).tops = xs
  | [] => rfl
  | x :: xs => by
    show x :: (growL g xs).tops = _
    rw [growL_tops g xs]
section
variable {m : Str → List Str} {ks : List Str}
theorem WFk.belowIn (W : WFk m ks) {x z : Str} (hx : x ∈ ks) (h : Below m x z) : z ∈ ks := by
  induction h with
  | kid hc => exact (W.kid _ hx _ hc).1
  | step _ hc ih => exact (W.kid _ ih _ hc).1
theorem below_rank {r : Str → Nat} (W : WFk m ks) (hr : ∀ k ∈ ks, ∀ c ∈ m k, r c < r k) {x z : Str} (hx : x ∈ ks) (h : Below m x z) : r z < r x := by
  induction h with
  | kid hc => exact hr _ hx _ hc
  | step hp hc ih => exact Nat.lt_trans (hr _ (W.belowIn hx hp) _ hc) ih
theorem WFk.sib (W : WFk m ks) {k x x' z : Str} (hk : k ∈ ks) (hx : x ∈ m k) (hx' : x' ∈ m k) (h : z = x ∨ Below m x z) (h' : z = x' ∨ Below m x' z) : x = x' := by
  obtain ⟨r, R, _, hr⟩ := W.rank
  have ix := (W.kid k hk x hx).1
  have ix' := (W.kid k hk x' hx').1
  have no : ∀ y y', y ∈ m k → y' ∈ m k → y ∈ ks → y' ∈ ks → ¬ Below m y' y := fun y y' hy hy' iy iy' hb => by
    obtain ⟨p, hp, hc⟩ := hb.par
    have ip : p ∈ ks := by
      rcases hp with rfl | hp
      · exact iy'
      · exact W.belowIn iy' hp
    have e := W.uniq p ip k hk y hc hy
    have h1 := hr k hk y' hy'
    rcases hp with e2 | hp
    · rw [← e, e2] at h1; omega
    · have := below_rank W hr iy' hp
      rw [e] at this
      omega
  rcases h with rfl | h
  · rcases h' with e | h'
    · exact e
    · exact absurd h' (no _ _ hx hx' ix ix')
  · induction h with
    | kid hc =>
      rcases h' with rfl | h'
      · have := no _ _ hx' hx ix' ix
        exact absurd (.kid hc) this
      · obtain ⟨p, hp, hc'⟩ := h'.par
        have ip : p ∈ ks := by
          rcases hp with rfl | hp
          · exact ix'
          · exact W.belowIn ix' hp
        have e := W.uniq p ip x ix _ hc' hc
        rcases hp with e2 | hp
        · rw [← e, e2]
        · rw [e] at hp
          exact absurd hp (no _ _ hx hx' ix ix')
    | step hp hc ih =>
      rename_i p c
      rcases h' with rfl | h'
      · have := no _ _ hx' hx ix' ix
        exact absurd (.step hp hc) this
      · obtain ⟨p', hp', hc'⟩ := h'.par
        have ip' : p' ∈ ks := by
          rcases hp' with rfl | hp'
          · exact ix'
          · exact W.belowIn ix' hp'
        have e := W.uniq p' ip' p (W.belowIn ix hp) _ hc' hc
        exact ih (e ▸ hp')
theorem growL_names (g : Str → F) : ∀ (xs : List Str) (z : Str), z ∈ (growL g xs).names ↔ ∃ x ∈ xs, z = x ∨ z ∈ (g x).names
  | [], z => by simp [growL, F.names]
  | x :: xs, z => by
    simp only [growL, F.names, List.mem_cons, List.mem_append, growL_names g xs]
    constructor
    · rintro (h | h | ⟨y, hy, h⟩)
      · exact ⟨x, .inl rfl, .inl h⟩
      · exact ⟨x, .inl rfl, .inr h⟩
      · exact ⟨y, .inr hy, h⟩
    · rintro ⟨y, (rfl | hy), (h | h)⟩
      · exact .inl h
      · exact .inr (.inl h)
      · exact .inr (.inr ⟨y, hy, .inl h⟩)
      · exact .inr (.inr ⟨y, hy, .inr h⟩)
theorem grow_below : ∀ (n : Nat) (k z : Str), z ∈ (grow m n k).names → Below m k z
  | 0, k, z, h => nomatch h
  | n + 1, k, z, h => by
    obtain ⟨x, hx, h⟩ := (growL_names _ _ _).mp h
    rcases h with rfl | h
    · exact .kid hx
    · exact .up hx (grow_below n x z h)
theorem growL_kr (g : Str → F) : ∀ xs : List Str, (∀ x ∈ xs, m x = (g x).tops ∧ KRs m (g x)) → KRs m (growL g xs)
  | [], _ => trivial
  | x :: xs, h => ⟨(h x List.mem_cons_self).1, (h x List.mem_cons_self).2, growL_kr g xs fun y hy => h y (List.mem_cons_of_mem _ hy)⟩
theorem grow_kr (W : WFk m ks) {r : Str → Nat} (hr : ∀ k ∈ ks, ∀ c ∈ m k, r c < r k) : ∀ (n : Nat) (k : Str), k ∈ ks → r k < n → (grow m n k).tops = m k ∧ KRs m (grow m n k)
  | n + 1, k, hk, hn => ⟨growL_tops _ _, growL_kr _ _ fun x hx => by
    have hx1 := (W.kid k hk x hx).1
    have hx2 := hr k hk x hx
    obtain ⟨h1, h2⟩ := grow_kr W hr n x hx1 (by omega)
    exact ⟨h1.symm, h2⟩⟩
theorem grow_nd (W : WFk m ks) : ∀ (n : Nat) (k : Str), k ∈ ks → (grow m n k).names.Nodup
  | 0, _, _ => List.nodup_nil
  | n + 1, k, hk => by
    obtain ⟨r, R, _, hr⟩ := W.rank
    have key : ∀ xs : List Str, xs.Nodup → (∀ x ∈ xs, x ∈ m k) → (growL (grow m n) xs).names.Nodup := by
      intro xs
      induction xs with
      | nil => intro _ _; exact List.nodup_nil
      | cons x xs ih =>
        intro nd hs
        obtain ⟨n1, n2⟩ := List.nodup_cons.mp nd
        have hx := hs x List.mem_cons_self
        have ix := (W.kid k hk x hx).1
        have ih := ih n2 fun y hy => hs y (List.mem_cons_of_mem _ hy)
        have far : ∀ z, (z = x ∨ Below m x z) → z ∉ (growL (grow m n) xs).names := fun z hz q => by
          obtain ⟨y, hy, q⟩ := (growL_names _ _ _).mp q
          have e := W.sib hk hx (hs y (List.mem_cons_of_mem _ hy)) hz (q.imp id (grow_below n y z))
          exact n1 (e ▸ hy)
        refine List.nodup_cons.mpr ⟨fun q => ?_, List.nodup_append.mpr ⟨grow_nd W n x ix, ih, fun a ha b hb e => ?_⟩⟩
        · rcases List.mem_append.mp q with q | q
          · have := below_rank W hr ix (grow_below n x x q)
            omega
          · exact far x (.inl rfl) q
        · subst e
          exact far a (.inr (grow_below n x a ha)) hb
    exact key (m k) (W.ndk k hk) fun x h => h
/-- a table is a wood's -/
theorem WFk.wood (W : WFk m ks) : ∃ f : F, m "" = f.tops ∧ KRs m f ∧ f.names.Nodup ∧ ∀ x, x ∈ f.names ↔ x ∈ ks ∧ x ≠ "" := by
  obtain ⟨r, R, hR, hr⟩ := W.rank
  obtain ⟨h1, h2⟩ := grow_kr W hr (R + 1) "" W.root (by have := hR "" W.root; omega)
  refine ⟨grow m (R + 1) "", h1.symm, h2, grow_nd W _ _ W.root, fun x => ⟨fun hx => ?_, fun ⟨hx, hne⟩ => ?_⟩⟩
  · have hb := grow_below _ _ _ hx
    obtain ⟨p, hp, hc⟩ := hb.par
    have ip : p ∈ ks := by
      rcases hp with rfl | hp
      · exact W.root
      · exact W.belowIn W.root hp
    exact W.kid p ip x hc
  · have key : ∀ (n : Nat) (z : Str), z ∈ ks → z ≠ "" → R - r z ≤ n → z ∈ (grow m (R + 1) "").names := by
      intro n
      induction n with
      | zero =>
        intro z hz hne hn
        obtain ⟨p, ip, hc⟩ := W.par z hz hne
        have q1 := hr p ip z hc
        have q2 := hR p ip
        omega
      | succ n ih =>
        intro z hz hne hn
        obtain ⟨p, ip, hc⟩ := W.par z hz hne
        have q1 := hr p ip z hc
        have q2 := hR p ip
        by_cases e : p = ""
        · rw [e, ← h1] at hc
          exact tops_sub hc
        · exact kr_kid h2 (ih p ip e (by omega)) hc
    exact key _ x hx hne (Nat.le_refl _)
def upS (m : Str → List Str) (k : Str) (v : List Str) : Str → List Str := fun z => if z = k then v else m z
theorem upS_same {k : Str} {v : List Str} : upS m k v k = v := by unfold upS; rw [if_pos rfl]
theorem upS_ne {k z : Str} {v : List Str} (h : z ≠ k) : upS m k v z = m z := by unfold upS; rw [if_neg h]
/-- a new node in the place of some children, which it holds -/
theorem WFk.put (W : WFk m ks) {k x : Str} {A B C : List Str} (hk : k ∈ ks) (hx : x ∉ ks) (hx0 : x ≠ "") (e : m k = A ++ B ++ C) : WFk (upS (upS m x B) k (A ++ [x] ++ C)) (ks ++ [x]) := by
  have hkx : k ≠ x := fun q => hx (q ▸ hk)
  have fk : upS (upS m x B) k (A ++ [x] ++ C) k = A ++ [x] ++ C := upS_same
  have fx : upS (upS m x B) k (A ++ [x] ++ C) x = B := by rw [upS_ne hkx.symm, upS_same]
  have fo : ∀ z, z ≠ k → z ≠ x → upS (upS m x B) k (A ++ [x] ++ C) z = m z := fun z h1 h2 => by rw [upS_ne h1, upS_ne h2]
  generalize upS (upS m x B) k (A ++ [x] ++ C) = m' at fk fx fo
  have nx : ∀ z ∈ ks, x ∉ m z := fun z hz h => hx (W.kid z hz x h).1
  have ndk := W.ndk k hk
  rw [e] at ndk
  obtain ⟨nAB, nC, dAB⟩ := List.nodup_append.mp ndk
  obtain ⟨nA, nB, dA⟩ := List.nodup_append.mp nAB
  have hmk : ∀ c, c ∈ m k ↔ c ∈ A ∨ c ∈ B ∨ c ∈ C := fun c => by rw [e]; simp [or_assoc]
  -- where a node lies now
  have wh : ∀ z ∈ ks ++ [x], ∀ c, c ∈ m' z → (c = x ∧ z = k) ∨ (c ≠ x ∧ c ∈ ks ∧ ((z = x ∧ c ∈ B) ∨ (z = k ∧ (c ∈ A ∨ c ∈ C)) ∨ (z ≠ k ∧ z ∈ ks ∧ z ≠ x ∧ c ∈ m z))) := fun z hz c hc => by
    by_cases e1 : z = k
    · rw [e1, fk] at hc
      simp only [List.mem_append, List.mem_singleton] at hc
      rcases hc with (hc | hc) | hc
      · have := (hmk c).mpr (.inl hc)
        exact .inr ⟨fun q => nx k hk (q ▸ this), (W.kid k hk c this).1, .inr (.inl ⟨e1, .inl hc⟩)⟩
      · exact .inl ⟨hc, e1⟩
      · have := (hmk c).mpr (.inr (.inr hc))
        exact .inr ⟨fun q => nx k hk (q ▸ this), (W.kid k hk c this).1, .inr (.inl ⟨e1, .inr hc⟩)⟩
    · by_cases e2 : z = x
      · rw [e2, fx] at hc
        have := (hmk c).mpr (.inr (.inl hc))
        exact .inr ⟨fun q => nx k hk (q ▸ this), (W.kid k hk c this).1, .inl ⟨e2, hc⟩⟩
      · rw [fo z e1 e2] at hc
        have iz : z ∈ ks := by
          rcases List.mem_append.mp hz with h | h
          · exact h
          · exact absurd (List.mem_singleton.mp h) e2
        exact .inr ⟨fun q => nx z iz (q ▸ hc), (W.kid z iz c hc).1, .inr (.inr ⟨e1, iz, e2, hc⟩)⟩
  refine ⟨?_, List.mem_append_left _ W.root, fun z hz c hc => ?_, fun c hc hne => ?_, fun z hz z' hz' c hc hc' => ?_, fun z hz => ?_, ?_⟩
  · refine List.nodup_append.mpr ⟨W.nd, by simp, fun a ha b hb q => ?_⟩
    rw [List.mem_singleton.mp hb] at q
    exact hx (q ▸ ha)
  · rcases wh z hz c hc with ⟨rfl, _⟩ | ⟨_, hcs, h⟩
    · exact ⟨by simp, hx0⟩
    · refine ⟨List.mem_append_left _ hcs, fun q => ?_⟩
      rcases h with ⟨_, h⟩ | ⟨_, h⟩ | ⟨_, iz, _, h⟩
      · exact (W.kid k hk c ((hmk c).mpr (.inr (.inl h)))).2 q
      · exact (W.kid k hk c ((hmk c).mpr (h.elim .inl fun h => .inr (.inr h)))).2 q
      · exact (W.kid z iz c h).2 q
  · rcases List.mem_append.mp hc with hc | hc
    · obtain ⟨p, ip, h⟩ := W.par c hc hne
      by_cases e1 : p = k
      · rw [e1] at h
        rcases (hmk c).mp h with h | h | h
        · exact ⟨k, List.mem_append_left _ hk, by rw [fk]; simp [h]⟩
        · exact ⟨x, by simp, by rw [fx]; exact h⟩
        · exact ⟨k, List.mem_append_left _ hk, by rw [fk]; simp [h]⟩
      · exact ⟨p, List.mem_append_left _ ip, by rw [fo p e1 (fun q => hx (q ▸ ip))]; exact h⟩
    · rw [List.mem_singleton.mp hc]
      exact ⟨k, List.mem_append_left _ hk, by rw [fk]; simp⟩
  · have both : ∀ c, c ∈ B → ¬ (c ∈ A ∨ c ∈ C) := fun c hb h => by
      rcases h with h | h
      · exact dA c h c hb rfl
      · exact dAB c (List.mem_append_right _ hb) c h rfl
    rcases wh z hz c hc with ⟨q1, q2⟩ | ⟨q1, _, h⟩ <;> rcases wh z' hz' c hc' with ⟨q3, q4⟩ | ⟨q3, _, h'⟩
    · rw [q2, q4]
    · exact absurd q1 q3
    · exact absurd q3 q1
    · rcases h with ⟨a1, h⟩ | ⟨a1, h⟩ | ⟨a1, iz, a2, h⟩ <;> rcases h' with ⟨b1, h'⟩ | ⟨b1, h'⟩ | ⟨b1, iz', b2, h'⟩
      · rw [a1, b1]
      · exact absurd h' (both c h)
      · exact absurd (W.uniq z' iz' k hk c h' ((hmk c).mpr (.inr (.inl h)))) b1
      · exact absurd h (both c h')
      · rw [a1, b1]
      · exact absurd (W.uniq z' iz' k hk c h' ((hmk c).mpr (h.elim .inl fun h => .inr (.inr h)))) b1
      · exact absurd (W.uniq z iz k hk c h ((hmk c).mpr (.inr (.inl h')))) a1
      · exact absurd (W.uniq z iz k hk c h ((hmk c).mpr (h'.elim .inl fun h => .inr (.inr h)))) a1
      · exact W.uniq z iz z' iz' c h h'
  · by_cases e1 : z = k
    · rw [e1, fk]
      have hxA : x ∉ A := fun h => nx k hk ((hmk x).mpr (.inl h))
      have hxC : x ∉ C := fun h => nx k hk ((hmk x).mpr (.inr (.inr h)))
      refine List.nodup_append.mpr ⟨List.nodup_append.mpr ⟨nA, by simp, fun a ha b hb q => ?_⟩, nC, fun a ha b hb q => ?_⟩
      · rw [List.mem_singleton.mp hb] at q
        exact hxA (q ▸ ha)
      · rcases List.mem_append.mp ha with ha | ha
        · exact dAB a (List.mem_append_left _ ha) b hb q
        · rw [List.mem_singleton.mp ha] at q
          exact hxC (q ▸ hb)
    · by_cases e2 : z = x
      · rw [e2, fx]; exact nB
      · rw [fo z e1 e2]
        refine W.ndk z ?_
        rcases List.mem_append.mp hz with h | h
        · exact h
        · exact absurd (List.mem_singleton.mp h) e2
  · obtain ⟨r, R, hR, hr⟩ := W.rank
    have pos : ∀ c ∈ m k, r c < r k := hr k hk
    refine ⟨fun z => if z = x then 2 * r k + 1 else 2 * r z + 2, 2 * R + 2, fun z hz => ?_, fun z hz c hc => ?_⟩
    · have := hR k hk
      by_cases e2 : z = x
      · simp only [if_pos e2]; omega
      · simp only [if_neg e2]
        rcases List.mem_append.mp hz with h | h
        · have := hR z h; omega
        · exact absurd (List.mem_singleton.mp h) e2
    · rcases wh z hz c hc with ⟨q1, q2⟩ | ⟨q1, _, h⟩
      · rw [q2]
        simp only [if_pos q1, if_neg hkx]
        omega
      · simp only [if_neg q1]
        rcases h with ⟨a1, h⟩ | ⟨a1, h⟩ | ⟨a1, iz, a2, h⟩
        · have := pos c ((hmk c).mpr (.inr (.inl h)))
          simp only [if_pos a1]
          omega
        · have := pos c ((hmk c).mpr (h.elim .inl fun h => .inr (.inr h)))
          rw [a1]
          simp only [if_neg hkx]
          omega
        · have := hr z iz c h
          simp only [if_neg a2]
          omega
end
end CL

/-! M6: a node goes elsewhere; tables in a dict. -/
namespace CL
open PySem PySem.Spec PyProof.Rows L2 TM

theorem WFk.move {m : Str → List Str} {ks : List Str} (W : WFk m ks) {p q x : Str} {l : List Str} (hp : p ∈ ks) (hq : q ∈ ks) (hx : x ∈ m p) (hno : ¬ (q = x ∨ Below m x q)) (hl : l.Perm (x :: upS m p ((m p).erase x) q)) : WFk (upS (upS m p ((m p).erase x)) q l) ks := by
  have ex : ∀ c, c ∈ (m p).erase x ↔ c ≠ x ∧ c ∈ m p := fun c => (W.ndk p hp).mem_erase_iff
  have only : ∀ z ∈ ks, x ∈ m z → z = p := fun z hz h => W.uniq z hz p hp x h hx
  have ix := W.kid p hp x hx
  have m1 : ∀ z ∈ ks, ∀ c, c ∈ upS m p ((m p).erase x) z ↔ c ≠ x ∧ c ∈ m z := fun z hz c => by
    by_cases e : z = p
    · rw [e, upS_same, ex]
    · rw [upS_ne e]
      exact ⟨fun h => ⟨fun q => e (only z hz (q ▸ h)), h⟩, fun h => h.2⟩
  have nd1 : ∀ z ∈ ks, (upS m p ((m p).erase x) z).Nodup := fun z hz => by
    by_cases e : z = p
    · rw [e, upS_same]
      exact (W.ndk p hp).erase x
    · rw [upS_ne e]; exact W.ndk z hz
  have wh : ∀ z ∈ ks, ∀ c, c ∈ upS (upS m p ((m p).erase x)) q l z ↔ (c = x ∧ z = q) ∨ (c ≠ x ∧ c ∈ m z) := fun z hz c => by
    by_cases e : z = q
    · rw [e, upS_same, hl.mem_iff, List.mem_cons, m1 q hq]
      constructor
      · rintro (h | h)
        · exact .inl ⟨h, rfl⟩
        · exact .inr h
      · rintro (⟨h, _⟩ | h)
        · exact .inl h
        · exact .inr h
    · rw [upS_ne e, m1 z hz]
      constructor
      · exact .inr
      · rintro (⟨_, h⟩ | h)
        · exact absurd h e
        · exact h
  have ndq : ∀ z ∈ ks, (upS (upS m p ((m p).erase x)) q l z).Nodup := fun z hz => by
    by_cases e : z = q
    · rw [e, upS_same]
      refine hl.nodup_iff.mpr (List.nodup_cons.mpr ⟨fun h => ((m1 q hq x).mp h).1 rfl, nd1 q hq⟩)
    · rw [upS_ne e]; exact nd1 z hz
  generalize upS (upS m p ((m p).erase x)) q l = m' at wh ndq
  refine ⟨W.nd, W.root, fun z hz c hc => ?_, fun c hc hne => ?_, fun z hz z' hz' c hc hc' => ?_, ndq, ?_⟩
  · rcases (wh z hz c).mp hc with ⟨rfl, _⟩ | ⟨_, h⟩
    · exact ix
    · exact W.kid z hz c h
  · by_cases e : c = x
    · exact ⟨q, hq, (wh q hq c).mpr (.inl ⟨e, rfl⟩)⟩
    · obtain ⟨k, hk, h⟩ := W.par c hc hne
      exact ⟨k, hk, (wh k hk c).mpr (.inr ⟨e, h⟩)⟩
  · rcases (wh z hz c).mp hc with ⟨a1, a2⟩ | ⟨a1, a2⟩ <;> rcases (wh z' hz' c).mp hc' with ⟨b1, b2⟩ | ⟨b1, b2⟩
    · rw [a2, b2]
    · exact absurd a1 b1
    · exact absurd b1 a1
    · exact W.uniq z hz z' hz' c a2 b2
  · obtain ⟨r, R, hR, hr⟩ := W.rank
    haveI : DecidablePred fun z => z = x ∨ Below m x z := fun _ => Classical.propDecidable _
    refine ⟨fun z => if z = x ∨ Below m x z then r z else r z + R + 1, 2 * R + 1, fun k hk => ?_, fun z hz c hc => ?_⟩
    · have := hR k hk
      dsimp only
      split <;> omega
    · rcases (wh z hz c).mp hc with ⟨a1, a2⟩ | ⟨a1, a2⟩
      · rw [a2]
        simp only [if_neg hno]
        rw [if_pos (.inl a1), a1]
        have := hR x ix.1
        omega
      · have h1 := hr z hz c a2
        by_cases T : z = x ∨ Below m x z
        · have T2 : c = x ∨ Below m x c := by
            rcases T with e | T
            · exact .inr (.kid (e ▸ a2))
            · exact .inr (.step T a2)
          simp only [if_pos T, if_pos T2]
          exact h1
        · have T2 : ¬ (c = x ∨ Below m x c) := fun h => by
            rcases h with h | h
            · exact a1 h
            · obtain ⟨p', hp', hc'⟩ := h.par
              have ip' : p' ∈ ks := by
                rcases hp' with rfl | hp'
                · exact ix.1
                · exact W.belowIn ix.1 hp'
              have e := W.uniq p' ip' z hz c hc' a2
              exact T (e ▸ hp')
          simp only [if_neg T, if_neg T2]
          omega

/-! ### a table in a dict -/
def encK (ks : List Str) (ad : Str → Addr) : List (Key × D) := ks.map fun k => (.inr k, .ref (ad k))
def upA (ad : Str → Addr) (k : Str) (a : Addr) : Str → Addr := fun z => if z = k then a else ad z
theorem upA_same {ad : Str → Addr} {k : Str} {a : Addr} : upA ad k a k = a := by unfold upA; rw [if_pos rfl]
theorem upA_ne {ad : Str → Addr} {k z : Str} {a : Addr} (h : z ≠ k) : upA ad k a z = ad z := by unfold upA; rw [if_neg h]
theorem encK_val (ad : Str → Addr) (k : Str) : ∀ ks : List Str, valD (encK ks ad) (.inr k) = if k ∈ ks then some (.ref (ad k)) else none
  | [] => rfl
  | x :: ks => by
    show valD ((.inr x, .ref (ad x)) :: encK ks ad) (.inr k) = _
    rw [valD_cons, encK_val ad k ks]
    by_cases e : x = k
    · subst e
      simp
    · have h1 : ¬ (Sum.inr x : Key) = .inr k := fun q => e (by injection q)
      have h2 : ¬ k = x := fun q => e q.symm
      simp [h1, h2]
theorem encK_put {ks : List Str} {ad : Str → Addr} {k : Str} {a : Addr} : putD (encK ks ad) (.inr k) (.ref a) = encK (if k ∈ ks then ks else ks ++ [k]) (upA ad k a) := by
  unfold putD
  rw [valD_any, encK_val]
  by_cases h : k ∈ ks
  · simp only [if_pos h, Option.isSome_some, if_true]
    unfold encK
    rw [List.map_map]
    refine List.map_congr_left fun z _ => ?_
    show (if (Sum.inr z : Key) = .inr k then ((Sum.inr z : Key), D.ref a) else (.inr z, .ref (ad z))) = (.inr z, .ref (upA ad k a z))
    by_cases e : z = k
    · rw [if_pos (by rw [e]), e, upA_same]
    · rw [if_neg (fun q => e (by injection q)), upA_ne e]
  · simp only [if_neg h, Option.isSome_none, Bool.false_eq_true, if_false]
    unfold encK
    rw [List.map_append]
    congr 1
    · refine List.map_congr_left fun z hz => ?_
      rw [upA_ne (fun e : z = k => h (by rw [← e]; exact hz))]
    · simp [upA_same]
structure DR (g : GH) (K : Addr) (m : Str → List Str) (ks : List Str) (ad : Str → Addr) : Prop where
  dict : g K = some (.dic (encK ks ad))
  ne : ∀ k ∈ ks, ad k ≠ K
  lst : ∀ k ∈ ks, g (ad k) = some (.lst ((m k).map D.str))
  inj : ∀ k ∈ ks, ∀ k' ∈ ks, ad k = ad k' → k = k'
section
variable {g g' : GH} {K : Addr} {m : Str → List Str} {ks : List Str} {ad : Str → Addr}
/-- the table's own cells -/
def Own' (K : Addr) (ks : List Str) (ad : Str → Addr) (a : Addr) : Prop := a = K ∨ ∃ k ∈ ks, a = ad k
theorem DR.keep (h : DR g K m ks ad) (hg : ∀ a, Own' K ks ad a → g' a = g a) : DR g' K m ks ad where
  dict := (hg K (.inl rfl)).trans h.dict
  ne := h.ne
  lst := fun k hk => (hg _ (.inr ⟨k, hk, rfl⟩)).trans (h.lst k hk)
  inj := h.inj
theorem DR.some (h : DR g K m ks ad) {a : Addr} (o : Own' K ks ad a) : ∃ x, g a = some x := by
  rcases o with rfl | ⟨k, hk, rfl⟩
  · exact ⟨_, h.dict⟩
  · exact ⟨_, h.lst k hk⟩
theorem DR.mono (h : DR g K m ks ad) (hg : ∀ a o, g a = .some o → g' a = .some o) : DR g' K m ks ad := h.keep fun a o => by
  obtain ⟨x, hx⟩ := h.some o
  rw [hg a x hx, hx]
theorem DR.new (h : DR g K m ks ad) {p : Addr} {o : MO} (hp : g p = none) : DR (gupd g p o) K m ks ad := h.mono fun a o h => gup_free h hp
/-- another list in the place of one -/
theorem DR.set (h : DR g K m ks ad) {k : Str} (hk : k ∈ ks) {l : List Str} : DR (gupd g (ad k) (.lst (l.map D.str))) K (upS m k l) ks ad where
  dict := (gupd_ne (fun e => h.ne k hk e.symm)).trans h.dict
  ne := h.ne
  lst := fun z hz => by
    by_cases e : z = k
    · rw [e, gupd_same, upS_same]
    · rw [gupd_ne (fun q => e (h.inj z hz k hk q)), upS_ne e]
      exact h.lst z hz
  inj := h.inj
/-- kids[k] = a new list -/
theorem DR.put (h : DR g K m ks ad) {k : Str} {l : List Str} {p : Addr} (hp : g p = .some (.lst (l.map D.str))) (hf : ¬ Own' K ks ad p) : DR (gupd g K (.dic (encK (if k ∈ ks then ks else ks ++ [k]) (upA ad k p)))) K (upS m k l) (if k ∈ ks then ks else ks ++ [k]) (upA ad k p) where
  dict := gupd_same
  ne := fun z hz => by
    by_cases e : z = k
    · rw [e, upA_same]; exact fun q => hf (.inl q)
    · rw [upA_ne e]
      refine h.ne z ?_
      split at hz
      · exact hz
      · rcases List.mem_append.mp hz with q | q
        · exact q
        · exact absurd (List.mem_singleton.mp q) e
  lst := fun z hz => by
    by_cases e : z = k
    · rw [e, upA_same, upS_same, gupd_ne (fun q => hf (.inl q))]
      exact hp
    · have hz' : z ∈ ks := by
        split at hz
        · exact hz
        · rcases List.mem_append.mp hz with q | q
          · exact q
          · exact absurd (List.mem_singleton.mp q) e
      rw [upA_ne e, upS_ne e, gupd_ne (h.ne z hz')]
      exact h.lst z hz'
  inj := fun z hz z' hz' q => by
    have sub : ∀ y, y ∈ (if k ∈ ks then ks else ks ++ [k]) → y ≠ k → y ∈ ks := fun y hy e => by
      split at hy
      · exact hy
      · rcases List.mem_append.mp hy with q | q
        · exact q
        · exact absurd (List.mem_singleton.mp q) e
    by_cases e : z = k <;> by_cases e' : z' = k
    · rw [e, e']
    · rw [e, upA_same, upA_ne e'] at q
      exact absurd (.inr ⟨z', sub z' hz' e', q⟩) hf
    · rw [e', upA_same, upA_ne e] at q
      exact absurd (.inr ⟨z, sub z hz e, q.symm⟩) hf
    · rw [upA_ne e, upA_ne e'] at q
      exact h.inj z (sub z hz e) z' (sub z' hz' e') q
end
end CL

/-! Q0: the law's draws and names (printed from Q0.src by pp.py). -/
namespace CL
open PySem PySem.Spec PyProof.Rows L2 TM

/-! ### the deck -/
structure Dk where
  a : Int
  b : Int
  n : Int
def Dk.m (k : Dk) : MO := .lst [.int k.a, .int k.b, .int k.n]
/-- all but the deck is kept -/
def Kp (A : Addr) (g g' : GH) : Prop := ∀ a m, a ≠ A → g a = some m → g' a = some m
section
variable {A p : Addr} {g g' g2 : GH} {m : MO}
theorem Kp.refl (A : Addr) (g : GH) : Kp A g g := fun _ _ _ h => h
theorem Kp.trans (h : Kp A g g') (h' : Kp A g' g2) : Kp A g g2 := fun a m n q => h' a m n (h a m n q)
theorem Kp.deck (h : Kp A g g') : Kp A g (gupd g' A m) := fun a o n q => (gupd_ne n).trans (h a o n q)
theorem Kp.new (h : Kp A g g') (hp : g' p = none) : Kp A g (gupd g' p m) := fun a o n q => gup_free (h a o n q) hp
/-- what is not the caller's may change -/
theorem Kp.own (h : Kp A g g') (hp : p = A ∨ g p = none) : Kp A g (gupd g' p m) := fun a o n q => by
  have : a ≠ p := fun e => by
    rcases hp with hp | hp
    · exact n (e.trans hp)
    · rw [e, hp] at q; cases q
  exact (gupd_ne this).trans (h a o n q)
theorem Kp.sub {k : Dk} (h : Kp A g g') (hA : g' A = some k.m) : Sub (gupd g A k.m) g' := fun a o q => by
  by_cases e : a = A
  · rw [e] at q ⊢
    rw [gupd_same] at q
    rw [hA]; exact q
  · rw [gupd_ne e] at q
    exact h a o e q
theorem Kp.none (h : Kp A g g') (hA : p ≠ A) (hp : g' p = none) : g p = none := by
  cases e : g p with
  | none => rfl
  | some m => rw [h p m hA e] at hp; cases hp
/-- a new cell stands beside the deck -/
theorem Kp.sub2 {k : Dk} (h : Kp A g g') (hA : g' A = some k.m) (hp : g' p = some m) : Sub (gupd (gupd g A k.m) p m) g' := fun a o q => by
  by_cases e : a = p
  · rw [e] at q ⊢
    rw [gupd_same] at q
    rw [hp]; exact q
  · rw [gupd_ne e] at q
    exact h.sub hA a o q
end
theorem dk_ne {g : GH} {A p : Addr} {k : Dk} (hA : g A = some k.m) (hp : g p = none) : p ≠ A := fun e => by rw [e, hA] at hp; cases hp
@[irreducible] def sp__law_draw : CSp := fun ds g Q => ∃ (A : Addr) (k : Dk) (n : Nat), ds = [.ref A, natD n] ∧ g A = some k.m ∧ 1 ≤ n ∧ n ≤ 1000 ∧ ∀ (i : Nat) (k' : Dk), i < n → Q (natD i) (gupd g A k'.m)
theorem log_small {n : Nat} (h : n < 2 ^ 60) : n.log2 < 9000 := by
  by_cases e : n = 0
  · rw [e]; decide
  · have := (Nat.log2_lt e).mpr h
    omega
theorem cdiv {i : Int} {n : Nat} (h1 : 1 ≤ n) (h2 : n ≤ 1000000) : CDivW i (n : Int) := ⟨by omega, by
  rw [Int.natAbs_natCast]
  exact log_small (by omega)⟩
theorem dk0 {A : Addr} {k : Dk} {s : CSt} {g : GH} {c : CE} (h : EvE c s g (.ref A)) (hA : g A = some k.m) : EvE (cOp fIx c (cC (.int 0))) s g (.int k.a) := ev_ixL h hA ev_c rfl
theorem dk1 {A : Addr} {k : Dk} {s : CSt} {g : GH} {c : CE} (h : EvE c s g (.ref A)) (hA : g A = some k.m) : EvE (cOp fIx c (cC (.int 1))) s g (.int k.b) := ev_ixL h hA ev_c rfl
theorem dk2 {A : Addr} {k : Dk} {s : CSt} {g : GH} {c : CE} (h : EvE c s g (.ref A)) (hA : g A = some k.m) : EvE (cOp fIx c (cC (.int 2))) s g (.int k.n) := ev_ixL h hA ev_c rfl
theorem ev_int {s : CSt} {g : GH} {c : CE} {i : Int} (h : EvE c s g (.int i)) : EvE (cCall fInt (cCons c cNil)) s g (.int i) := ev_call (ev_cons h ev_nil) fun R w => w
theorem ev_mod {s : CSt} {g : GH} {a b : CE} {i j : Int} (ha : EvE a s g (.int i)) (hb : EvE b s g (.int j)) (h : 0 < j) : EvE (cOp fMod a b) s g (.int (i % j)) := ev_op ha hb fun R w => ⟨h, w⟩
theorem ev_plus {s : CSt} {g : GH} {a b : CE} {i j : Int} (ha : EvE a s g (.int i)) (hb : EvE b s g (.int j)) : EvE (cOp fAdd a b) s g (.int (i + j)) := ev_op ha hb fun R w => w
theorem ev_times {s : CSt} {g : GH} {a b : CE} {i j : Int} (ha : EvE a s g (.int i)) (hb : EvE b s g (.int j)) (h : CMul i j) : EvE (cOp fMul a b) s g (.int (i * j)) := ev_op ha hb fun R w => ⟨h, w⟩
theorem mod_nat (i : Int) {n : Nat} (h : 1 ≤ n) : ∃ k : Nat, i % (n : Int) = (k : Int) ∧ k < n := by
  have h1 := Int.emod_nonneg i (show (n : Int) ≠ 0 by omega)
  have h2 := Int.emod_lt_of_pos i (show (0 : Int) < (n : Int) by omega)
  exact ⟨(i % (n : Int)).toNat, by omega, by omega⟩
theorem pu__law_draw : ∀ ds g Q, sp__law_draw ds g Q → c__law_draw  { nx := fun _ g' => Fin Q .non g', rt := Fin Q } (cstart N__law_draw ds) g := by
  intro ds g Q h
  unfold sp__law_draw at h
  obtain ⟨A, k, n, rfl, hA, h1, h2, q⟩ := h
  have done : ∀ i k', i < n → Fin Q (natD i) (gupd g A (Dk.m k')) := fun i k' hi => fin_of (q i k' hi)
  have gt : EvT (cB (cOp fGt (cOp fIx (cVar 0) (cC (.int 0))) (cC (.int 0)))) [some (.ref A), some (natD n), none, none] g (decide (0 < k.a)) := fun R w => dk0 (ev_var rfl) hA _ ⟨trivial, _, rfl, w⟩
  refine ev_ifs gt (fun _ => ?_) (fun _ => ?_)
  · refine ev_sets (ev_mod (j := (n : Int)) (ev_int (dk0 (ev_var rfl) hA)) (ev_var rfl) (by omega)) ?_
    obtain ⟨i, hi, hin⟩ := mod_nat k.a h1
    rw [hi]
    refine dk0 (ev_var rfl) hA _ ?_
    refine ⟨_, rfl, cdiv h1 (by omega), ?_⟩
    refine ⟨_, rfl, A, _, 0, 0, rfl, rfl, hA, rfl, ?_⟩
    refine ev_ret (ev_var (d := natD i) rfl) ?_
    exact done i ⟨k.a / (n : Int), k.b, k.n⟩ hin
  · refine dk2 (ev_var rfl) hA _ ?_
    refine ⟨_, rfl, A, _, 2, 2, rfl, rfl, hA, rfl, ?_⟩
    have hA2 : (gupd g A (.lst [.int k.a, .int k.b, .int (k.n + 1)])) A = some (Dk.m ⟨k.a, k.b, k.n + 1⟩) := gupd_same
    have e2 : gupd g A (.lst ([.int k.a, .int k.b, .int k.n].set 2 (.int (k.n + 1)))) = gupd g A (.lst [.int k.a, .int k.b, .int (k.n + 1)]) := rfl
    have done2 : ∀ i, i < n → Fin Q (natD i) (gupd g A (.lst [.int k.a, .int k.b, .int (k.n + 1)])) := fun i hi => done i ⟨k.a, k.b, k.n + 1⟩ hi
    show (cSeq _ _) _ _ (gupd g A (.lst [.int k.a, .int k.b, .int (k.n + 1)]))
    generalize gupd g A (.lst [.int k.a, .int k.b, .int (k.n + 1)]) = g2 at hA2 done2
    have m1 : ∀ i : Int, CMul 11400714819323198485 i := fun i => .inl (by decide)
    have m2 : ∀ i : Int, CMul i (i % 4294967291 + 7) := fun i => .inr (by
      have h1 := Int.emod_nonneg i (show (4294967291 : Int) ≠ 0 by decide)
      have h2 := Int.emod_lt_of_pos i (show (0 : Int) < 4294967291 by decide)
      constructor <;> omega)
    refine ev_sets (ev_mod (j := 18446744073709551557) (ev_int (ev_plus (dk1 (ev_var rfl) hA2) (ev_times (i := 11400714819323198485) ev_c (dk2 (ev_var rfl) hA2) (m1 _)))) ev_c (by decide)) ?_
    refine ev_sets (ev_mod (j := 2305843009213693951) (ev_int (ev_times (ev_var rfl) (ev_plus (ev_mod (j := 4294967291) (ev_var rfl) ev_c (by decide)) (ev_c (d := .int 7))) (m2 _))) ev_c (by decide)) ?_
    generalize hx : (((k.b + 11400714819323198485 * (k.n + 1)) % 18446744073709551557) * (((k.b + 11400714819323198485 * (k.n + 1)) % 18446744073709551557) % 4294967291 + 7)) = y
    have y1 := Int.emod_nonneg y (show (2305843009213693951 : Int) ≠ 0 by decide)
    have y2 := Int.emod_lt_of_pos y (show (0 : Int) < 2305843009213693951 by decide)
    generalize y % 2305843009213693951 = z at y1 y2
    have m3 : CMul z z := .inl (by constructor <;> omega)
    have dv : EvE (cOp fDivW (cOp fMod (cCall fInt (cCons (cOp fMul (cVar 3) (cVar 3)) cNil)) (cC (.int 2305843009213693921))) (cC (.int 2048))) [some (.ref A), some (natD n), none, some (.int z)] g2 (.int (z * z % 2305843009213693921 / 2048)) := ev_op (ev_mod (j := 2305843009213693921) (ev_int (ev_times (ev_var rfl) (ev_var rfl) m3)) ev_c (by decide)) (ev_c (d := .int 2048)) fun R w => ⟨cdiv (n := 2048) (by decide) (by decide), w⟩
    refine ev_ret (ev_mod (j := (n : Int)) dv (ev_var rfl) (by omega)) ?_
    obtain ⟨i, hi, hin⟩ := mod_nat (z * z % 2305843009213693921 / 2048) h1
    rw [hi]
    exact done2 i hin
end CL

/-! Q1: the law's picks, menus, mixed lists (printed from Q1.src by pp.py). -/
namespace CL
open PySem PySem.Spec PyProof.Rows L2 TM

def Items (g : GH) : D → List D → Prop
  | .tup xs, ys => ys = xs
  | .ref a, ys => g a = some (.lst ys)
  | .str z, ys => z.length ≤ 1000 ∧ ys = z.cps.toList.map fun c => D.str (sg c)
  | _, _ => False
theorem gupd_self {g : GH} {a : Addr} {m : MO} (h : g a = some m) : gupd g a m = g := by
  funext b
  unfold gupd
  split
  · rename_i e; rw [e, h]
  · rfl
theorem atI_nat {α : Type} {xs : List α} {i : Nat} (h : i < xs.length) : atI xs (i : Int) = some xs[i] := by
  unfold atI
  rw [ixN_nat h]
  exact List.getElem?_eq_getElem h
section
variable {s : CSt} {g : GH} {A : Addr} {k : Dk} {R : CQ} {a b : CE}
theorem ev_draw {n : Nat} (ha : EvE a s g (.ref A)) (hb : EvE b s g (natD n)) (hA : g A = some k.m) (h1 : 1 ≤ n) (h2 : n ≤ 1000) (q : ∀ (i : Nat) (k' : Dk), i < n → R (natD i) (gupd g A k'.m)) : cCall sp__law_draw (cCons a (cCons b cNil)) s g R :=
  ha _ (hb _ (by unfold sp__law_draw; exact ⟨A, k, n, rfl, hA, h1, h2, q⟩))
@[irreducible] def sp__law_pick : CSp := fun ds g Q => ∃ (A : Addr) (k : Dk) (x : D) (xs : List D), ds = [.ref A, x] ∧ g A = some k.m ∧ Items g x xs ∧ x ≠ .ref A ∧ 1 ≤ xs.length ∧ xs.length ≤ 1000 ∧ ∀ y ∈ xs, ∀ k' : Dk, Q y (gupd g A k'.m)
theorem ev_pick {x : D} {xs : List D} (ha : EvE a s g (.ref A)) (hb : EvE b s g x) (hA : g A = some k.m) (hx : Items g x xs) (hne : x ≠ .ref A) (h1 : 1 ≤ xs.length) (h2 : xs.length ≤ 1000) (q : ∀ y ∈ xs, ∀ k' : Dk, R y (gupd g A k'.m)) : cCall sp__law_pick (cCons a (cCons b cNil)) s g R :=
  ha _ (hb _ (by unfold sp__law_pick; exact ⟨A, k, x, xs, rfl, hA, hx, hne, h1, h2, q⟩))
end
theorem mem_of_at {α : Type} {xs : List α} {i : Nat} (h : i < xs.length) : xs[i] ∈ xs := List.getElem_mem h
theorem pu__law_pick : ∀ ds g Q, sp__law_pick ds g Q → c__law_pick sp__law_draw { nx := fun _ g' => Fin Q .non g', rt := Fin Q } (cstart N__law_pick ds) g := by
  intro ds g Q h
  unfold sp__law_pick at h
  obtain ⟨A, k, x, xs, rfl, hA, hx, hne, h1, h2, q⟩ := h
  refine ⟨_, rfl, ?_⟩
  have len : ∀ R : CQ, R (natD xs.length) g → cCall fLen (cCons (cVar 1) cNil) [some (.ref A), some x] g R := fun R w => by
    refine ⟨_, rfl, ?_⟩
    cases x with
    | tup ys => cases hx; exact w
    | ref L => exact .inl ⟨xs, hx, w⟩
    | str z =>
      obtain ⟨hz, rfl⟩ := hx
      rw [List.length_map, Array.length_toList] at w
      exact ⟨lim_ok (by omega), w⟩
    | non => cases hx
    | bl _ => cases hx
    | int _ => cases hx
    | key _ => cases hx
  refine ev_draw (n := xs.length) (ev_var rfl) len hA h1 h2 fun i k' hi => ?_
  have fin := fun h : i < xs.length => (fin_of (q xs[i] (mem_of_at h) k') : Fin Q xs[i] (gupd g A k'.m))
  cases x with
  | tup ys => cases hx; exact ⟨_, atI_nat hi, fin hi⟩
  | ref L =>
    have hl : L ≠ A := fun e => hne (by rw [e])
    exact ⟨xs, _, (gupd_ne hl).trans hx, atI_nat hi, fin hi⟩
  | str z =>
    obtain ⟨hz, rfl⟩ := hx
    have hi' : i < z.cps.toList.length := by rwa [List.length_map] at hi
    refine ⟨z.cps.toList[i], lim_ok (by omega), atI_nat hi', ?_⟩
    have := fin hi
    rw [List.getElem_map] at this
    exact this
  | non => cases hx
  | bl _ => cases hx
  | int _ => cases hx
  | key _ => cases hx

/-! ### comprehensions that draw -/
theorem lc_deck {α : Type} {e : CE} {l A : Addr} {s : CSt} {P : GH → Prop} {g0 : GH} (hl : g0 l = none) (hlA : l ≠ A) (tg : α → TgF) (Ok : D → Prop) :
    ∀ (xs : List α) (acc : List D) (g' : GH) (k : Dk), acc.length + xs.length ≤ 1000 → Kp A g0 g' → g' A = some k.m → g' l = some (.lst acc) → (∀ y ∈ acc, Ok y) →
      (∀ x ∈ xs, ∀ (g' : GH) (k : Dk) (R : CQ), Kp A g0 g' → g' A = some k.m → (∀ d (k' : Dk), Ok d → R d (gupd g' A k'.m)) → e (tg x s) g' R) →
      (∀ ys g' (k : Dk), ys.length = acc.length + xs.length → (∀ y ∈ ys, Ok y) → Kp A g0 g' → g' A = some k.m → g' l = some (.lst ys) → P g') → lcLoop cYes e l s (fun _ => True) P (xs.map tg) acc g'
  | [], acc, g', k, _, hk, hA, hL, ho, _, q => ⟨trivial, q acc g' k (by simp) ho hk hA hL⟩
  | x :: xs, acc, g', k, hn, hk, hA, hL, ho, he, q => by
    simp at hn
    refine ⟨trivial, yes_go ?_⟩
    refine he x List.mem_cons_self g' k _ hk hA fun d k' hd => ?_
    refine ⟨(gupd_ne hlA).trans hL, lim_ok (by omega), ?_⟩
    refine lc_deck hl hlA tg Ok xs (acc ++ [d]) _ k' (by simp; omega) (hk.deck.own (.inr hl)) ((gupd_ne (Ne.symm hlA)).trans gupd_same) gupd_same ?_ (fun y hy => he y (List.mem_cons_of_mem _ hy)) (fun ys g' k h1 => q ys g' k (by rw [h1]; simp; omega))
    intro y hy
    rcases List.mem_append.mp hy with h | h
    · exact ho y h
    · rw [List.mem_singleton.mp h]; exact hd
theorem strsOf {p : Str → Prop} : ∀ ys : List D, (∀ y ∈ ys, ∃ x, y = D.str x ∧ p x) → ∃ xs : List Str, ys = xs.map D.str ∧ ∀ x ∈ xs, p x
  | [], _ => ⟨[], rfl, fun x h => nomatch h⟩
  | y :: ys, h => by
    obtain ⟨x, rfl, hx⟩ := h y List.mem_cons_self
    obtain ⟨xs, rfl, hxs⟩ := strsOf ys fun z hz => h z (List.mem_cons_of_mem _ hz)
    refine ⟨x :: xs, rfl, fun z hz => ?_⟩
    rcases List.mem_cons.mp hz with rfl | hz
    · exact hx
    · exact hxs z hz

/-! ### _law_menu -/
abbrev abcS : Str := "abcdefghijklmnopqrstuvwxyz"
def MENUS : List (List Str) := [["a", "b", "c", "d"], ["x", "xa", "ab", "b"], ["aaaaaaaa", "aaaaaaab", "z", "zz"], ["top", "menu", "it", "d"]]
theorem menus_ok : (MENUS.all fun m => decide (m.length = 4) && m.all fun x => decide (1 ≤ x.length ∧ x.length ≤ 100)) = true := by decide +kernel
def tupS (m : List Str) : D := .tup (m.map D.str)
@[irreducible] def sp__law_menu : CSp := fun ds g Q => ∃ (A : Addr) (k : Dk) (n : Nat), ds = [.ref A, natD n] ∧ g A = some k.m ∧ 1 ≤ n ∧ n ≤ 3 ∧ ∀ (xs : List Str) (k' : Dk), xs.length = n → (∀ x ∈ xs, NmOk x) → Q (tupS xs) (gupd g A k'.m)
theorem abc_len : abcS.length = 26 := by decide +kernel
theorem sum_ones (l : List Str) (h : ∀ a ∈ l, a.length = 1) : (l.map (·.length)).sum = l.length := by
  induction l with
  | nil => rfl
  | cons a l ih =>
    rw [List.map_cons, List.sum_cons, h a List.mem_cons_self, ih fun b hb => h b (List.mem_cons_of_mem _ hb), List.length_cons]
    omega
theorem zero_len : ("" : Str).length = 0 := by decide +kernel
theorem sg_one (c : Nat) : (sg c).length = 1 := rfl
theorem pu__law_menu : ∀ ds g Q, sp__law_menu ds g Q → c__law_menu sp__law_draw sp__law_pick { nx := fun _ g' => Fin Q .non g', rt := Fin Q } (cstart N__law_menu ds) g := by
  intro ds g Q h
  unfold sp__law_menu at h
  obtain ⟨A, k, n, rfl, hA, h1, h3, q⟩ := h
  refine ⟨lim_ok (by simp), lim_ok (by simp), lim_ok (by simp), lim_ok (by simp), fun M hM => ?_⟩
  have hMA : M ≠ A := dk_ne hA hM
  refine st_appends (xs := [tupS ["a", "b", "c", "d"], tupS ["x", "xa", "ab", "b"], tupS ["aaaaaaaa", "aaaaaaab", "z", "zz"]]) (d := tupS ["top", "menu", "it", "d"]) (ev_var rfl) gupd_same (ev_tup (ev_cons ev_c (ev_cons ev_c (ev_cons ev_c (ev_cons ev_c ev_nil)))) (lim_ok (by simp))) (by simp) ?_
  rw [gupd_gupd]
  have gM : (gupd g M (.lst (MENUS.map tupS))) M = some (.lst (MENUS.map tupS)) := gupd_same
  have gA : (gupd g M (.lst (MENUS.map tupS))) A = some k.m := (gupd_ne (Ne.symm hMA)).trans hA
  have gk : Kp A g (gupd g M (.lst (MENUS.map tupS))) := (Kp.refl A g).new hM
  show (cSeq _ _) _ _ (gupd g M (.lst (MENUS.map tupS)))
  generalize gupd g M (.lst (MENUS.map tupS)) = g1 at gM gA gk
  refine ev_draw (n := 8) (ev_var rfl) ev_c gA (by decide) (by decide) fun w k1 hw => ?_
  have lt4 : EvT (cB (cOp fLt (cVar 3) (cC (.int 4)))) ([some (.ref A), some (natD n), some (.ref M), none, none, none, none, none, none, none, none, none, none].set 3 (some (natD w))) (gupd g1 A k1.m) (decide (w < 4)) := fun R z => ⟨_, rfl, trivial, _, rfl, by
    have e : decide ((w : Int) < 4) = decide (w < 4) := decide_eq_decide.mpr (by omega)
    rw [e]
    exact z⟩
  have gM2 : (gupd g1 A k1.m) M = some (.lst (MENUS.map tupS)) := (gupd_ne hMA).trans gM
  have gk2 : Kp A g (gupd g1 A k1.m) := gk.deck
  have gA2 : (gupd g1 A k1.m) A = some k1.m := gupd_same
  generalize gupd g1 A k1.m = g2 at gM2 gk2 gA2 lt4
  refine ev_ifs lt4 (fun hw4 => ?_) (fun _ => ?_)
  · have hw4 : w < 4 := by simpa using hw4
    refine ev_draw (n := 4) (ev_var rfl) ev_c gA2 (by decide) (by decide) fun f k2 hf => ?_
    have gM3 : (gupd g2 A k2.m) M = some (.lst (MENUS.map tupS)) := (gupd_ne hMA).trans gM2
    have gk3 : Kp A g (gupd g2 A k2.m) := gk2.deck
    have gA3 : (gupd g2 A k2.m) A = some k2.m := gupd_same
    generalize gupd g2 A k2.m = g3 at gM3 gk3 gA3
    have hwm : w < MENUS.length := hw4
    have hm := List.all_eq_true.mp menus_ok _ (mem_of_at hwm)
    rw [Bool.and_eq_true] at hm
    have hm4 : (MENUS[w]).length = 4 := of_decide_eq_true hm.1
    have hmo : ∀ x ∈ MENUS[w], NmOk x := fun x hx => by
      unfold NmOk
      exact of_decide_eq_true (List.all_eq_true.mp hm.2 x hx)
    have at1 : EvE (cOp fIx (cVar 2) (cVar 3)) ([some (.ref A), some (natD n), some (.ref M), some (natD w), some (natD f), none, none, none, none, none, none, none, none]) g3 (tupS MENUS[w]) := ev_ixL (i := (w : Int)) (ev_var rfl) gM3 (ev_var rfl) (by
      have := atI_nat (xs := MENUS.map tupS) (i := w) (by rw [List.length_map]; exact hwm)
      rw [List.getElem_map] at this
      exact this)
    have two : EvE (cOp fAdd (cOp fIx (cVar 2) (cVar 3)) (cOp fIx (cVar 2) (cVar 3))) ([some (.ref A), some (natD n), some (.ref M), some (natD w), some (natD f), none, none, none, none, none, none, none, none]) g3 (.tup ((MENUS[w] ++ MENUS[w]).map D.str)) := ev_op at1 at1 fun R z => ⟨lim_ok (by rw [List.length_map, hm4]; decide), by rw [List.map_append] at z; exact z⟩
    have sl := ev_slT two (ev_os (n := f) (e := cVar 4) (ev_var rfl)) (ev_os (n := f + n) (e := cOp fAdd (cVar 4) (cVar 1)) (ev_plus (i := (f : Int)) (j := (n : Int)) (ev_var rfl) (ev_var rfl)))
    rw [cut_ft, ← List.map_take, ← List.map_drop] at sl
    refine ev_ret sl ⟨gupd g A k2.m, gk3.sub gA3, q _ k2 ?_ fun x hx => ?_⟩
    · rw [List.length_drop, List.length_take, List.length_append, hm4]
      omega
    · have := List.mem_of_mem_take (List.mem_of_mem_drop hx)
      rcases List.mem_append.mp this with h | h <;> exact hmo x h
  · refine ev_sets ev_c ?_
    -- text
    refine ⟨"", rfl, ?_⟩
    refine ev_draw (n := 8) (ev_var rfl) ev_c gA2 (by decide) (by decide) fun c k2 hc => ?_
    have gk3 : Kp A g (gupd g2 A k2.m) := gk2.deck
    have gA3 : (gupd g2 A k2.m) A = some k2.m := gupd_same
    generalize gupd g2 A k2.m = g3 at gk3 gA3
    refine ⟨_, rfl, by omega, by omega, fun l hl => ?_⟩
    have hlA : l ≠ A := dk_ne gA3 hl
    rw [onEach_map]
    refine lc_deck (g0 := g) (gk3.none hlA hl) hlA (fun (i : Nat) (s : CSt) => s.set 7 (some (D.int (i : Nat)))) (fun d => ∃ x, d = .str x ∧ x.length = 1) _ [] _ k2 (by rw [List.length_range, List.length_nil]; omega) (gk3.own (.inr (gk3.none hlA hl))) ((gupd_ne (Ne.symm hlA)).trans gA3) gupd_same (fun y h => nomatch h) (fun i _ g' k' R hk hA' z => ?_) fun ys g4 k4 hys hok gk4 gA4 gl4 => ?_
    · refine ev_pick (x := .str abcS) (xs := abcS.cps.toList.map fun c => D.str (sg c)) (ev_var rfl) (ev_var rfl) hA' ⟨by rw [abc_len]; decide, rfl⟩ (by intro h; cases h) (by decide +kernel) (by decide +kernel) fun y hy k' => ?_
      obtain ⟨c, _, rfl⟩ := List.mem_map.mp hy
      exact z _ k' ⟨_, rfl, sg_one c⟩
    obtain ⟨ts, rfl, ht⟩ := strsOf ys hok
    rw [List.length_map, List.length_nil, List.length_range] at hys
    have htl : ts.length ≤ 8 ∧ 1 ≤ ts.length := by omega
    have tl : (Txt.join ("" : Str) ts).length = ts.length := PySem.W.KT.join_ones ts ht
    refine ⟨ts, gl4, by rw [sum_ones ts ht, zero_len]; omega, ?_⟩
    generalize Txt.join ("" : Str) ts = text at tl
    -- at, begin
    refine ev_draw (n := text.length) (ev_var rfl) (fun R z => ⟨_, rfl, lim_ok (by omega), z⟩) gA4 (by omega) (by omega) fun at' k5 hat => ?_
    refine ev_draw (n := 26) (ev_var rfl) ev_c gupd_same (by decide) (by decide) fun be k6 hbe => ?_
    rw [gupd_gupd]
    refine ⟨lim_ok (by simp), [natD at', natD be], rfl, rfl, ?_⟩
    have gk6 : Kp A g (gupd g4 A k6.m) := gk4.deck
    have gA6 : (gupd g4 A k6.m) A = some k6.m := gupd_same
    generalize gupd g4 A k6.m = g6 at gk6 gA6
    -- step
    refine ev_draw (n := 6) (ev_var rfl) ev_c gA6 (by decide) (by decide) fun st k7 hst => ?_
    refine ⟨.inl (by decide), ?_⟩
    have gk7 : Kp A g (gupd g6 A k7.m) := gk6.deck
    have gA7 : (gupd g6 A k7.m) A = some k7.m := gupd_same
    generalize gupd g6 A k7.m = g7 at gk7 gA7
    -- signs
    refine ⟨_, rfl, (n : Int), rfl, by omega, by omega, fun l2 hl2 => ?_⟩
    have hl2A : l2 ≠ A := dk_ne gA7 hl2
    rw [onEach_map]
    refine lc_deck (g0 := g) (gk7.none hl2A hl2) hl2A (fun (i : Nat) (s : CSt) => s.set 7 (some (D.int (i : Nat)))) (fun d => ∃ x, d = .str x ∧ x.length = 1) _ [] _ k7 (by rw [List.length_range, List.length_nil]; omega) (gk7.own (.inr (gk7.none hl2A hl2))) ((gupd_ne (Ne.symm hl2A)).trans gA7) gupd_same (fun y h => nomatch h) (fun i hi g' k' R hk hA' z => ?_) fun ys g8 k8 hys hok gk8 gA8 gl8 => ?_
    · have hi : i < n := by
        have := List.mem_range.mp hi
        omega
      have hmul : CMul (1 + 2 * (st : Int)) (i : Int) := .inl (by constructor <;> omega)
      obtain ⟨j, hj, hj26⟩ := mod_nat ((be : Int) + (1 + 2 * (st : Int)) * (i : Int)) (n := 26) (by decide)
      have hm : EvE (cOp fMod (cCall fInt (cCons (cOp fAdd (cVar 9) (cOp fMul (cVar 10) (cVar 7))) cNil)) (cC (.int 26))) ([some (.ref A), some (natD n), some (.ref M), some (natD w), none, some (.str abcS), some (.str text), some (D.int (i : Nat)), some (natD at'), some (natD be), some (.int (1 + 2 * (st : Int))), none, none]) g' (.int (((be : Int) + (1 + 2 * (st : Int)) * (i : Int)) % ((26 : Nat) : Int))) := ev_mod (j := ((26 : Nat) : Int)) (ev_int (ev_plus (ev_var rfl) (ev_times (ev_var rfl) (ev_var rfl) hmul))) ev_c (by decide)
      rw [hj] at hm
      have hjl : j < abcS.cps.toList.length := by
        have : abcS.cps.toList.length = 26 := by decide +kernel
        omega
      refine ⟨.str abcS, rfl, ?_⟩
      refine hm _ ⟨abcS.cps.toList[j], lim_ok (by rw [abc_len]; decide), atI_nat hjl, ?_⟩
      have := z (.str (sg abcS.cps.toList[j])) k' ⟨_, rfl, sg_one _⟩
      rw [gupd_self hA'] at this
      exact this
    obtain ⟨ss, rfl, hs⟩ := strsOf ys hok
    rw [List.length_map, List.length_nil, List.length_range] at hys
    -- the names
    refine ⟨_, rfl, l2, _, rfl, gl8, fun l3 hl3 => ?_⟩
    rw [onEach_map]
    have hl3A : l3 ≠ A := dk_ne gA8 hl3
    have h23 : l2 ≠ l3 := gne_none gl8 hl3
    refine lc_run (l := l3) (g := g8) (fun (x : Str) (s : CSt) => s.set 12 (some (D.str x))) (fun _ => true) (fun x => D.str (cutS text none (some (at' : Int)) ++ x ++ cutS text (some ((at' + 1 : Nat) : Int)) none)) (fun ys => (gupd_ne h23).trans gl8) ss [] (by rw [List.length_nil]; omega) (fun x hx ys R w => w) (fun x hx _ ys R z => ?_) ?_
    · have c1 := cutS_length text none (some (at' : Int))
      have c2 := cutS_length text (some ((at' + 1 : Nat) : Int)) none
      have hx1 := hs x hx
      refine ⟨.str text, rfl, natD at', rfl, (at' : Int), rfl, lim_ok (by omega), .str x, rfl, lim_ok (by omega), .str text, rfl, ?_⟩
      refine ⟨natD at', rfl, ((at' + 1 : Nat) : Int), rfl, lim_ok (by omega), ?_⟩
      refine ⟨lim_ok (by rw [Str.length_append]; omega), z⟩
    · rw [List.nil_append, List.filter_eq_self.mpr (fun _ _ => rfl)]
      refine ⟨_, gupd_same, ?_⟩
      have e : ss.map (fun x => D.str (cutS text none (some (at' : Int)) ++ x ++ cutS text (some ((at' + 1 : Nat) : Int)) none)) = (ss.map fun x => cutS text none (some (at' : Int)) ++ x ++ cutS text (some ((at' + 1 : Nat) : Int)) none).map D.str := by rw [List.map_map]; rfl
      rw [e]
      refine ⟨gupd g A k8.m, Kp.sub (gk8.own (.inr (gk8.none hl3A hl3))) ((gupd_ne (Ne.symm hl3A)).trans gA8), q _ k8 (by rw [List.length_map]; omega) fun x hx => ?_⟩
      obtain ⟨y, hy, rfl⟩ := List.mem_map.mp hx
      have c1 := cutS_length text none (some (at' : Int))
      have c2 := cutS_length text (some ((at' + 1 : Nat) : Int)) none
      have hy1 := hs y hy
      unfold NmOk
      rw [Str.length_append, Str.length_append]
      omega
end CL

/-! Q2: others, mixed lists, deeds, scripts (printed from Q2.src by pp.py). -/
namespace CL
open PySem PySem.Spec PyProof.Rows L2 TM

/-! ### _law_others -/
def othL : List Str := ["p", "q", "pp", "leaf", "aaaaaaac", "zzzzzzzz", "za", "m", "mm", "dd", "over", "side", "n", "nn"]
def othS (xs : List Str) (m : Nat) : List Str := (othL.filter fun x => decide (x ∉ xs)).take m
@[irreducible] def sp__law_others : CSp := fun ds g Q => ∃ (xs : List Str) (m : Nat), ds = [tupS xs, natD m] ∧ ∀ p, g p = none → Q (.ref p) (gupd g p (.lst ((othS xs m).map D.str)))
theorem pu__law_others : ∀ ds g Q, sp__law_others ds g Q → c__law_others  { nx := fun _ g' => Fin Q .non g', rt := Fin Q } (cstart N__law_others ds) g := by
  intro ds g Q h
  unfold sp__law_others at h
  obtain ⟨xs, m, rfl, q⟩ := h
  refine ⟨lim_ok (by simp), fun l hl => ?_⟩
  have gl : (gupd g l (.lst (othL.map D.str))) l = some (.lst (othL.map D.str)) := gupd_same
  have gs : ∀ a m, g a = some m → (gupd g l (.lst (othL.map D.str))) a = some m := fun a m h => gup_free h hl
  dsimp only
  show (cRet _) _ _ (gupd g l (.lst (othL.map D.str)))
  generalize gupd g l (.lst (othL.map D.str)) = g1 at gl gs
  refine ⟨_, rfl, l, _, rfl, gl, fun l2 hl2 => ?_⟩
  rw [onEach_map]
  have hne : l ≠ l2 := gne_none gl hl2
  refine lc_run (l := l2) (g := g1) (fun (x : Str) (s : CSt) => s.set 3 (some (D.str x))) (fun x => decide (x ∉ xs)) (fun x => D.str x) (fun ys => (gupd_ne hne).trans gl) othL [] (by decide) (fun x _ ys R w => ?_) (fun x _ _ ys R w => ev_var (d := .str x) rfl R w) ?_
  · refine ev_B (ev_inT (neg := true) (x := .str x) (ys := xs.map D.str) (ev_var rfl) (ev_var rfl) rfl (strs_flat xs)) R ?_
    rw [if_pos rfl, strs_mem]
    have e : (!decide (x ∈ xs)) = decide (x ∉ xs) := by simp
    rw [e]
    exact w
  rw [List.nil_append]
  refine ⟨_, rfl, (m : Int), rfl, _, gupd_same, fun p hp => ?_⟩
  have cut : cutG ((othL.filter fun x => decide (x ∉ xs)).map fun x => D.str x) none (some (m : Int)) = (othS xs m).map D.str := by
    rw [cut_t, ← List.map_take]
    rfl
  rw [cut]
  have hp3 : ∀ a o, g a = some o → (gupd (gupd g1 l2 (.lst ((othL.filter fun x => decide (x ∉ xs)).map fun x => D.str x))) p (.lst ((othS xs m).map D.str))) a = some o := fun a o h => gup_free (gup_free (gs a o h) hl2) hp
  have hgp : g p = none := by
    cases e : g p with
    | none => rfl
    | some o =>
      have := gup_free (o := .lst ((othL.filter fun x => decide (x ∉ xs)).map fun x => D.str x)) (gs p o e) hl2
      rw [hp] at this
      cases this
  exact ⟨gupd g p (.lst ((othS xs m).map D.str)), sub_gup hp3 gupd_same, q p hgp⟩

/-! ### _law_mixed -/
@[irreducible] def sp__law_mixed : CSp := fun ds g Q => ∃ (A L0 : Addr) (k : Dk) (xs : List Str), ds = [.ref A, .ref L0] ∧ g A = some k.m ∧ g L0 = some (.lst (xs.map D.str)) ∧ xs.length ≤ 100 ∧ ∀ (ys : List Str) (k' : Dk), ys.Perm xs → Q (tupS ys) (gupd g A k'.m)
theorem erase_perm : ∀ {α : Type} (l : List α) (i : Nat) (h : i < l.length), (l[i] :: l.eraseIdx i).Perm l
  | _, x :: l, 0, _ => .refl _
  | _, x :: l, i + 1, h => by
    have h' : i < l.length := by simpa using h
    have := erase_perm l i h'
    exact (List.Perm.swap x l[i] (l.eraseIdx i)).trans (this.cons x)
theorem map_eraseIdx {α β : Type} (f : α → β) : ∀ (l : List α) (i : Nat), (l.map f).eraseIdx i = (l.eraseIdx i).map f
  | [], _ => rfl
  | x :: l, 0 => rfl
  | x :: l, i + 1 => by
    show f x :: (l.map f).eraseIdx i = f x :: (l.eraseIdx i).map f
    rw [map_eraseIdx f l i]
theorem pu__law_mixed : ∀ ds g Q, sp__law_mixed ds g Q → c__law_mixed sp__law_draw { nx := fun _ g' => Fin Q .non g', rt := Fin Q } (cstart N__law_mixed ds) g := by
  intro ds g Q h
  unfold sp__law_mixed at h
  obtain ⟨A, L0, k, xs, rfl, hA, hL0, hx, q⟩ := h
  refine ⟨_, rfl, _, hL0, fun L hL => ?_⟩
  refine ⟨lim_ok (by simp), fun F hF => ?_⟩
  refine ⟨_, _, rfl, ?_⟩
  have hLA : L ≠ A := dk_ne hA hL
  have hFL : F ≠ L := fun e => by rw [e, gupd_same] at hF; cases hF
  have hFA : F ≠ A := fun e => by rw [e, gupd_ne (Ne.symm hLA), hA] at hF; cases hF
  have gL : (gupd (gupd g L (.lst (xs.map D.str))) F (.lst [])) L = some (.lst (xs.map D.str)) := (gupd_ne (Ne.symm hFL)).trans gupd_same
  have gF : (gupd (gupd g L (.lst (xs.map D.str))) F (.lst [])) F = some (.lst (([] : List Str).map D.str)) := gupd_same
  have gA : (gupd (gupd g L (.lst (xs.map D.str))) F (.lst [])) A = some k.m := gup_free (gup_free hA hL) hF
  have gk : Kp A g (gupd (gupd g L (.lst (xs.map D.str))) F (.lst [])) := ((Kp.refl A g).new hL).new hF
  have nL : g L = none := hL
  have nF : g F = none := (Kp.refl A g).new hL |>.none hFA hF
  generalize gupd (gupd g L (.lst (xs.map D.str))) F (.lst []) = g1 at gL gF gA gk
  refine ⟨fun m s g' => ∃ (ls fs : List Str) (k' : Dk), s = [some (.ref A), some (.ref L0), some (.ref L), some (.ref F)] ∧ g' L = some (.lst (ls.map D.str)) ∧ g' F = some (.lst (fs.map D.str)) ∧ g' A = some k'.m ∧ Kp A g g' ∧ (fs ++ ls).Perm xs ∧ m = ls.length, ⟨_, xs, [], k, rfl, gL, gF, gA, gk, .refl _, rfl⟩, ?_⟩
  rintro m s g' ⟨ls, fs, k', rfl, gL, gF, gA, gk, hp, hm⟩
  have hlen := hp.length_eq
  rw [List.length_append] at hlen
  refine ev_neNil (ev_var rfl) gL (ok_strs ls) fun E hE => ?_
  have gL2 : (gupd g' E (.lst [])) L = some (.lst (ls.map D.str)) := gup_free gL hE
  have gF2 : (gupd g' E (.lst [])) F = some (.lst (fs.map D.str)) := gup_free gF hE
  have gA2 : (gupd g' E (.lst [])) A = some k'.m := gup_free gA hE
  have gk2 : Kp A g (gupd g' E (.lst [])) := gk.new hE
  generalize gupd g' E (.lst []) = g2 at gL2 gF2 gA2 gk2
  refine te2 (fun e => ?_) (fun e => ?_)
  · have hpos : 1 ≤ ls.length := by
      cases ls with
      | nil => cases e
      | cons => simp
    refine ⟨_, rfl, ⟨F, _, rfl, gF2⟩, ?_⟩
    refine ⟨_, rfl, ⟨L, _, rfl, gL2⟩, ?_⟩
    refine ev_draw (n := ls.length) (ev_var rfl) (fun R z => ⟨_, rfl, .inl ⟨_, gL2, by rw [List.length_map]; exact z⟩⟩) gA2 hpos (by omega) fun i k3 hi => ?_
    have hget : (ls.map D.str)[((i : Nat) : Int).toNat]? = some (.str ls[i]) := by
      rw [Int.toNat_natCast, List.getElem?_map, List.getElem?_eq_getElem hi]
      rfl
    refine ⟨_, _, (gupd_ne hLA).trans gL2, by omega, by omega, hget, ?_⟩
    refine ⟨_, (gupd_ne hFL).trans ((gupd_ne hFA).trans gF2), lim_ok (by rw [List.length_map]; omega), ?_⟩
    rw [Int.toNat_natCast, map_eraseIdx]
    refine ⟨_, ?_, ls.eraseIdx i, fs ++ [ls[i]], k3, rfl, (gupd_ne (Ne.symm hFL)).trans gupd_same, by rw [gupd_same, List.map_append]; rfl, (gupd_ne (Ne.symm hFA)).trans ((gupd_ne (Ne.symm hLA)).trans gupd_same), ((gk2.deck).own (.inr nL)).own (.inr nF), ?_, rfl⟩
    · rw [hm, List.length_eraseIdx, if_pos hi]
      omega
    · rw [List.append_assoc]
      exact ((erase_perm ls i hi).append_left fs).trans hp
  · have hnil : ls = [] := by
      cases ls with
      | nil => rfl
      | cons => cases e
    rw [hnil, List.append_nil] at hp
    refine ⟨_, rfl, _, gF2, ⟨gupd g A k'.m, gk2.sub gA2, q fs k' hp⟩⟩

/-! ### _law_deed -/
theorem idxS : ∀ {x : Str} {xs : List Str}, x ∈ xs → ∃ j, j < xs.length ∧ idxF (.str x) (xs.map D.str) = some j := fun {x xs} h => by
  have hs : (idxF (.str x) (xs.map D.str)).isSome = true := by
    unfold idxF
    rw [List.findIdx?_isSome, List.any_eq_true]
    refine ⟨.str x, List.mem_map.mpr ⟨x, h, rfl⟩, ?_⟩
    exact (eqF_eq rfl rfl).mpr rfl
  obtain ⟨j, hj⟩ := Option.isSome_iff_exists.mp hs
  refine ⟨j, ?_, hj⟩
  unfold idxF at hj
  have := (List.findIdx?_eq_some_iff_getElem.mp hj).1
  rwa [List.length_map] at this
def wsD (ws : List W) : List D := ws.map fun w => D.str (wS w)
def words1 : List W := [.first, .last, .ahead, .behind, .front, .back, .first, .last, .ahead, .behind, .front, .back, .swap, .turn, .pour, .pour, .lift, .cut]
def words2 : List W := [.front, .back, .front, .back, .lift, .cut, .turn, .last]
/-- the names that a script may hold -/
structure NmIn (xs ms : List Str) : Prop where
  sub : ∀ x ∈ xs, x ∈ ms
  made : xs.length = 1 → ("made" : Str) ∈ ms
  ok : ∀ x ∈ ms, NmOk x
  pos : 1 ≤ xs.length
  few : xs.length ≤ 3
def DeedIn (ms : List Str) (d : DeedS) : Prop := (∀ z ∈ d.names, z ∈ ms) ∧ DeedOk d
@[irreducible] def sp__law_deed : CSp := fun ds g Q => ∃ (A : Addr) (k : Dk) (xs ms : List Str), ds = [.ref A, tupS xs] ∧ g A = some k.m ∧ NmIn xs ms ∧ ∀ (d : DeedS) (k' : Dk), DeedIn ms d → Q (deedD d) (gupd g A k'.m)
theorem deed_in2 {ms : List Str} {w : W} {x y : Str} (h : ∀ z ∈ ms, NmOk z) (hx : x ∈ ms) (hy : y ∈ ms) : DeedIn ms ⟨w, x, y⟩ := by
  refine ⟨fun z hz => ?_, h x hx, h y hy⟩
  unfold Deed.names at hz
  split at hz <;> simp at hz
  · rcases hz with rfl | rfl <;> assumption
  · rw [hz]; exact hx
theorem single_w (w : W) : memF (.str (wS w)) [D.str "front", D.str "back", D.str "lift", D.str "cut"] = !w.two := by
  cases w <;> decide +kernel
theorem pick_str {s : CSt} {g : GH} {A : Addr} {k : Dk} {R : CQ} {a b : CE} {xs : List Str} (ha : EvE a s g (.ref A)) (hb : EvE b s g (tupS xs)) (hA : g A = some k.m) (h1 : 1 ≤ xs.length) (h2 : xs.length ≤ 1000) (q : ∀ x ∈ xs, ∀ k' : Dk, R (.str x) (gupd g A k'.m)) : cCall sp__law_pick (cCons a (cCons b cNil)) s g R := by
  refine ev_pick (xs := xs.map D.str) ha hb hA rfl (by intro h; cases h) (by rw [List.length_map]; exact h1) (by rw [List.length_map]; exact h2) fun y hy k' => ?_
  obtain ⟨x, hx, rfl⟩ := List.mem_map.mp hy
  exact q x hx k'
theorem made_cut {xs : List Str} (h1 : 1 < xs.length) (h2 : xs.length ≤ 3) : ∃ ys : List Str, cutG (xs.map D.str) (some (-2)) none = ys.map D.str ∧ (∀ y ∈ ys, y ∈ xs) ∧ 1 ≤ ys.length ∧ ys.length ≤ 3 := by
  match xs, h1, h2 with
  | [a, b], _, _ => exact ⟨[a, b], rfl, fun y h => h, by simp, by simp⟩
  | [a, b, c], _, _ => exact ⟨[b, c], rfl, fun y h => List.mem_cons_of_mem _ h, by simp, by simp⟩
theorem pu__law_deed : ∀ ds g Q, sp__law_deed ds g Q → c__law_deed sp__law_draw sp__law_pick { nx := fun _ g' => Fin Q .non g', rt := Fin Q } (cstart N__law_deed ds) g := by
  intro ds g Q h
  unfold sp__law_deed at h
  obtain ⟨A, k, xs, ms, rfl, hA, N, q⟩ := h
  have hpos := N.pos
  have hfew := N.few
  have hx : ∀ x ∈ xs, NmOk x := fun x h => N.ok x (N.sub x h)
  -- words
  have key : ∀ (g1 : GH) (Wd : Addr) (ws : List W), Kp A g g1 → g1 A = some k.m → g1 Wd = some (.lst (wsD ws)) → 1 ≤ ws.length → ws.length ≤ 100 → Wd ≠ A →
      (cSeq (cPar 3 4 (cCons (cCall sp__law_pick (cCons (cVar 0) (cCons (cVar 2) cNil))) (cCons (cCall sp__law_draw (cCons (cVar 0) (cCons (cC (.int 8)) cNil))) cNil)))
    (cSeq (cSet 5 (cIf (cB (cOp fGt (cCall fLen (cCons (cVar 1) cNil)) (cC (.int 1)))) (cSl (cVar 1) (oSome (cNeg (cC (.int 2)))) oNone) (cTup (cCons (cC (.str "made")) cNil))))
    (cSeq (cPar 6 7 (cCons (cCall sp__law_pick (cCons (cVar 0) (cCons (cVar 1) cNil))) (cCons (cCall sp__law_pick (cCons (cVar 0) (cCons (cVar 1) cNil))) cNil)))
    (cSeq (cIfS (cAnd (cB (cOp (fEq false) (cVar 6) (cVar 7))) (cB (cOp fLt (cVar 4) (cC (.int 6))))) (cSet 7 (cOp fIx (cVar 1) (cOp fMod (cOp fAdd (cTIx (cVar 1) (cVar 6)) (cC (.int 1))) (cCall fLen (cCons (cVar 1) cNil))))) cSkip)
    (cSeq (cIfS (cB (cOp (fEq false) (cVar 4) (cC (.int 0)))) (cRet (cTup (cCons (cC (.str "wrap")) (cCons (cVar 6) (cCons (cCall sp__law_pick (cCons (cVar 0) (cCons (cVar 5) cNil))) cNil))))) cSkip)
    (cSeq (cIfS (cB (cOp (fEq false) (cVar 4) (cC (.int 1)))) (cRet (cTup (cCons (cC (.str "put")) (cCons (cCall sp__law_pick (cCons (cVar 0) (cCons (cVar 5) cNil))) (cCons (cVar 7) cNil))))) cSkip)
    (cRet (cIf (cB (cOp (fIn false) (cVar 3) (cTup (cCons (cC (.str "front")) (cCons (cC (.str "back")) (cCons (cC (.str "lift")) (cCons (cC (.str "cut")) cNil))))))) (cTup (cCons (cVar 3) (cCons (cVar 6) cNil))) (cTup (cCons (cVar 3) (cCons (cVar 6) (cCons (cVar 7) cNil))))))))))))
      { nx := fun _ g' => Fin Q .non g', rt := Fin Q } [some (.ref A), some (tupS xs), some (.ref Wd), none, none, none, none, none] g1 := by
    intro g1 Wd ws gk gA gW h1 h2 hWA
    refine ev_pick (x := .ref Wd) (xs := wsD ws) (ev_var rfl) (ev_var rfl) gA gW (fun e => hWA (by injection e)) (by unfold wsD; rw [List.length_map]; exact h1) (by unfold wsD; rw [List.length_map]; omega) fun y hy k1 => ?_
    obtain ⟨w, _, rfl⟩ := List.mem_map.mp hy
    refine ev_draw (n := 8) (ev_var rfl) ev_c gupd_same (by decide) (by decide) fun way k2 hway => ?_
    rw [gupd_gupd]
    refine ⟨_, _, rfl, ?_⟩
    have gk2 : Kp A g (gupd g1 A k2.m) := gk.deck
    have gA2 : (gupd g1 A k2.m) A = some k2.m := gupd_same
    dsimp only
    generalize gupd g1 A k2.m = g2 at gk2 gA2
    -- made
    have md : ∃ ys : List Str, (∀ y ∈ ys, y ∈ ms) ∧ 1 ≤ ys.length ∧ ys.length ≤ 3 ∧ EvE (cIf (cB (cOp fGt (cCall fLen (cCons (cVar 1) cNil)) (cC (.int 1)))) (cSl (cVar 1) (oSome (cNeg (cC (.int 2)))) oNone) (cTup (cCons (cC (.str "made")) cNil))) [some (.ref A), some (tupS xs), some (.ref Wd), some (.str (wS w)), some (natD way), none, none, none] g2 (tupS ys) := by
      have gt : EvT (cB (cOp fGt (cCall fLen (cCons (cVar 1) cNil)) (cC (.int 1)))) [some (.ref A), some (tupS xs), some (.ref Wd), some (.str (wS w)), some (natD way), none, none, none] g2 (decide (1 < xs.length)) := fun R z => ev_lenTup (xs := xs.map D.str) (ev_var rfl) _ ⟨trivial, _, rfl, by
        have e : decide ((1 : Int) < ((xs.map D.str).length : Int)) = decide (1 < xs.length) := decide_eq_decide.mpr (by rw [List.length_map]; omega)
        rw [e]
        exact z⟩
      by_cases hl : 1 < xs.length
      · obtain ⟨ys, e, hm, l1, l2⟩ := made_cut hl hfew
        refine ⟨ys, fun y h => N.sub y (hm y h), l1, l2, fun R z => gt _ (te2 (fun _ => ?_) (fun e => by simp [hl] at e))⟩
        have sl := ev_slT (s := [some (.ref A), some (tupS xs), some (.ref Wd), some (.str (wS w)), some (natD way), none, none, none]) (g := g2) (e := cVar 1) (xs := xs.map D.str) (lo := oSome (cNeg (cC (.int 2)))) (hi := oNone) (a := some (-2)) (ev_var rfl) (fun R z => ⟨2, rfl, -2, rfl, z⟩) ev_on
        rw [e] at sl
        exact sl R z
      · refine ⟨["made"], fun y h => ?_, by simp, by simp, fun R z => gt _ (te2 (fun e => by simp [hl] at e) (fun _ => ?_))⟩
        · rw [List.mem_singleton.mp h]
          exact N.made (by omega)
        · exact ev_tup (ev_cons ev_c ev_nil) (lim_ok (by simp)) R z
    obtain ⟨ys, ym, y1, y3, mdE⟩ := md
    refine ev_sets mdE ?_
    -- one, other
    refine pick_str (xs := xs) (ev_var rfl) (ev_var rfl) gA2 hpos (by omega) fun one hone k3 => ?_
    refine pick_str (xs := xs) (ev_var rfl) (ev_var rfl) gupd_same hpos (by omega) fun oth hoth k4 => ?_
    rw [gupd_gupd]
    refine ⟨_, _, rfl, ?_⟩
    have gk4 : Kp A g (gupd g2 A k4.m) := gk2.deck
    have gA4 : (gupd g2 A k4.m) A = some k4.m := gupd_same
    dsimp only
    generalize gupd g2 A k4.m = g4 at gk4 gA4
    have last : ∀ oth ∈ xs, (cSeq (cIfS (cB (cOp (fEq false) (cVar 4) (cC (.int 0)))) (cRet (cTup (cCons (cC (.str "wrap")) (cCons (cVar 6) (cCons (cCall sp__law_pick (cCons (cVar 0) (cCons (cVar 5) cNil))) cNil))))) cSkip)
    (cSeq (cIfS (cB (cOp (fEq false) (cVar 4) (cC (.int 1)))) (cRet (cTup (cCons (cC (.str "put")) (cCons (cCall sp__law_pick (cCons (cVar 0) (cCons (cVar 5) cNil))) (cCons (cVar 7) cNil))))) cSkip)
    (cRet (cIf (cB (cOp (fIn false) (cVar 3) (cTup (cCons (cC (.str "front")) (cCons (cC (.str "back")) (cCons (cC (.str "lift")) (cCons (cC (.str "cut")) cNil))))))) (cTup (cCons (cVar 3) (cCons (cVar 6) cNil))) (cTup (cCons (cVar 3) (cCons (cVar 6) (cCons (cVar 7) cNil)))))))) { nx := fun _ g' => Fin Q .non g', rt := Fin Q } [some (.ref A), some (tupS xs), some (.ref Wd), some (.str (wS w)), some (natD way), some (tupS ys), some (.str one), some (.str oth)] g4 := fun oth hoth => by
      refine ev_ifs (ev_B (ev_eqN (i := way) (j := 0) (ev_var rfl) ev_c)) (fun _ => ?_) (fun _ => ?_)
      · refine ⟨_, rfl, ?_⟩
        refine pick_str (xs := ys) (ev_var rfl) (ev_var rfl) gA4 y1 (by omega) fun z hz k5 => ?_
        refine ⟨lim_ok (by simp), ⟨gupd g A k5.m, (gk4.deck).sub gupd_same, ?_⟩⟩
        exact q ⟨.wrap, one, z⟩ k5 (deed_in2 N.ok (N.sub one hone) (ym z hz))
      refine ev_ifs (ev_B (ev_eqN (i := way) (j := 1) (ev_var rfl) ev_c)) (fun _ => ?_) (fun _ => ?_)
      · refine pick_str (xs := ys) (ev_var rfl) (ev_var rfl) gA4 y1 (by omega) fun z hz k5 => ?_
        refine ⟨_, rfl, ?_⟩
        refine ⟨lim_ok (by simp), ⟨gupd g A k5.m, (gk4.deck).sub gupd_same, ?_⟩⟩
        exact q ⟨.put, z, oth⟩ k5 (deed_in2 N.ok (ym z hz) (N.sub oth hoth))
      have tin := ev_B (ev_inT (neg := false) (x := .str (wS w)) (ys := [D.str "front", D.str "back", D.str "lift", D.str "cut"]) (s := [some (.ref A), some (tupS xs), some (.ref Wd), some (.str (wS w)), some (natD way), some (tupS ys), some (.str one), some (.str oth)]) (g := g4) (a := cVar 3) (ev_var rfl) (ev_tup (ev_cons ev_c (ev_cons ev_c (ev_cons ev_c (ev_cons ev_c ev_nil)))) (lim_ok (by simp))) rfl rfl)
      rw [if_neg Bool.false_ne_true, single_w] at tin
      refine tin _ (te2 (fun e => ?_) (fun e => ?_))
      · have e2 : w.two = false := by simpa using e
        refine ev_tup (ev_cons (ev_var rfl) (ev_cons (ev_var rfl) ev_nil)) (lim_ok (by simp)) _ ⟨gupd g A k4.m, gk4.sub gA4, ?_⟩
        have := q ⟨w, one, one⟩ k4 (deed_in2 N.ok (N.sub one hone) (N.sub one hone))
        unfold deedD deedL Deed.names at this
        rw [if_neg (by simp [e2])] at this
        exact this
      · have e2 : w.two = true := by simpa using e
        refine ev_tup (ev_cons (ev_var rfl) (ev_cons (ev_var rfl) (ev_cons (ev_var rfl) ev_nil))) (lim_ok (by simp)) _ ⟨gupd g A k4.m, gk4.sub gA4, ?_⟩
        have := q ⟨w, one, oth⟩ k4 (deed_in2 N.ok (N.sub one hone) (N.sub oth hoth))
        unfold deedD deedL Deed.names at this
        rw [if_pos e2] at this
        exact this
    have lt6 : EvT (cB (cOp fLt (cVar 4) (cC (.int 6)))) [some (.ref A), some (tupS xs), some (.ref Wd), some (.str (wS w)), some (natD way), some (tupS ys), some (.str one), some (.str oth)] g4 (decide (way < 6)) := fun R z => ⟨_, rfl, trivial, _, rfl, by
      have e : decide ((way : Int) < 6) = decide (way < 6) := decide_eq_decide.mpr (by omega)
      rw [e]
      exact z⟩
    refine ev_ifs (ev_and (ev_B (ev_eqS (x := one) (y := oth) (ev_var rfl) (ev_var rfl))) fun _ => lt6) (fun _ => ?_) (fun _ => last oth hoth)
    obtain ⟨j, hj, hij⟩ := idxS hone
    obtain ⟨i, hi, hil⟩ := mod_nat ((j : Int) + 1) hpos
    have ix : EvE (cTIx (cVar 1) (cVar 6)) [some (.ref A), some (tupS xs), some (.ref Wd), some (.str (wS w)), some (natD way), some (tupS ys), some (.str one), some (.str oth)] g4 (natD j) := fun R z => ⟨_, rfl, xs.map D.str, rfl, _, rfl, rfl, strs_flat xs, j, hij, z⟩
    have md := ev_mod (ev_plus (i := (j : Int)) (j := 1) ix ev_c) (ev_lenTup (xs := xs.map D.str) (a := cVar 1) (ev_var rfl)) (by rw [List.length_map]; omega)
    rw [List.length_map, hi] at md
    refine ev_set (ev_ix (xs := xs.map D.str) (ev_var rfl) md (atI_nat (by rw [List.length_map]; exact hil))) ?_
    rw [List.getElem_map]
    exact last _ (mem_of_at hil)
  -- the two lists of words
  refine ⟨lim_ok (by simp), fun W1 hW1 => ?_⟩
  refine ⟨_, gupd_same, by decide, by decide, lim_ok (by decide), fun W2 hW2 => ?_⟩
  refine ⟨lim_ok (by simp), fun W3 hW3 => ?_⟩
  refine ⟨_, _, gup_free gupd_same hW3, gupd_same, lim_ok (by decide), fun Wd hWd => ?_⟩
  have gA1 : (gupd (gupd (gupd g W1 (.lst [D.str "first", .str "last", .str "ahead", .str "behind", .str "front", .str "back"])) W2 (.lst (List.replicate (2 : Int).toNat [D.str "first", .str "last", .str "ahead", .str "behind", .str "front", .str "back"]).flatten)) W3 (.lst [D.str "swap", .str "turn", .str "pour", .str "pour", .str "lift", .str "cut"])) A = some k.m := gup_free (gup_free (gup_free hA hW1) hW2) hW3
  have gk1 : Kp A g (gupd (gupd (gupd g W1 (.lst [D.str "first", .str "last", .str "ahead", .str "behind", .str "front", .str "back"])) W2 (.lst (List.replicate (2 : Int).toNat [D.str "first", .str "last", .str "ahead", .str "behind", .str "front", .str "back"]).flatten)) W3 (.lst [D.str "swap", .str "turn", .str "pour", .str "pour", .str "lift", .str "cut"])) := (((Kp.refl A g).new hW1).new hW2).new hW3
  have hWA : Wd ≠ A := dk_ne gA1 hWd
  have gA2 := gup_free (o := .lst (wsD words1)) gA1 hWd
  have gk2 := gk1.new (m := .lst (wsD words1)) hWd
  have gW2 : (gupd (gupd (gupd (gupd g W1 (.lst [D.str "first", .str "last", .str "ahead", .str "behind", .str "front", .str "back"])) W2 (.lst (List.replicate (2 : Int).toNat [D.str "first", .str "last", .str "ahead", .str "behind", .str "front", .str "back"]).flatten)) W3 (.lst [D.str "swap", .str "turn", .str "pour", .str "pour", .str "lift", .str "cut"])) Wd (.lst (wsD words1))) Wd = some (.lst (wsD words1)) := gupd_same
  dsimp only
  show (cSeq _ _) _ _ (gupd (gupd (gupd (gupd g W1 (.lst [D.str "first", .str "last", .str "ahead", .str "behind", .str "front", .str "back"])) W2 (.lst (List.replicate (2 : Int).toNat [D.str "first", .str "last", .str "ahead", .str "behind", .str "front", .str "back"]).flatten)) W3 (.lst [D.str "swap", .str "turn", .str "pour", .str "pour", .str "lift", .str "cut"])) Wd (.lst (wsD words1)))
  generalize gupd (gupd (gupd (gupd g W1 (.lst [D.str "first", .str "last", .str "ahead", .str "behind", .str "front", .str "back"])) W2 (.lst (List.replicate (2 : Int).toNat [D.str "first", .str "last", .str "ahead", .str "behind", .str "front", .str "back"]).flatten)) W3 (.lst [D.str "swap", .str "turn", .str "pour", .str "pour", .str "lift", .str "cut"])) Wd (.lst (wsD words1)) = g1 at gA2 gk2 gW2
  refine ev_ifs (ev_B (ev_eqN (i := (xs.map D.str).length) (j := 1) (ev_lenTup (xs := xs.map D.str) (ev_var rfl)) ev_c)) (fun _ => ?_) (fun _ => ?_)
  · refine ⟨lim_ok (by simp), fun W4 hW4 => ?_⟩
    exact key _ W4 words2 (gk2.new hW4) (gup_free gA2 hW4) gupd_same (by decide) (by decide) (dk_ne gA2 hW4)
  · exact key g1 Wd words1 gk2 gA2 gW2 (by decide) (by decide) hWA

/-! ### _law_script -/
@[irreducible] def sp__law_script : CSp := fun ds g Q => ∃ (A : Addr) (k : Dk) (xs ms : List Str) (n : Nat), ds = [.ref A, tupS xs, natD n] ∧ g A = some k.m ∧ NmIn xs ms ∧ n ≤ 20 ∧ ∀ (es : List DeedS) (k' : Dk), es.length ≤ n → (∀ d ∈ es, DeedIn ms d) → Q (.tup (es.map deedD)) (gupd g A k'.m)
theorem deedsOf {p : DeedS → Prop} : ∀ ys : List D, (∀ y ∈ ys, ∃ x, y = deedD x ∧ p x) → ∃ xs : List DeedS, ys = xs.map deedD ∧ ∀ x ∈ xs, p x
  | [], _ => ⟨[], rfl, fun x h => nomatch h⟩
  | y :: ys, h => by
    obtain ⟨x, rfl, hx⟩ := h y List.mem_cons_self
    obtain ⟨xs, rfl, hxs⟩ := deedsOf ys fun z hz => h z (List.mem_cons_of_mem _ hz)
    refine ⟨x :: xs, rfl, fun z hz => ?_⟩
    rcases List.mem_cons.mp hz with rfl | hz
    · exact hx
    · exact hxs z hz
theorem pu__law_script : ∀ ds g Q, sp__law_script ds g Q → c__law_script sp__law_draw sp__law_deed { nx := fun _ g' => Fin Q .non g', rt := Fin Q } (cstart N__law_script ds) g := by
  intro ds g Q h
  unfold sp__law_script at h
  obtain ⟨A, k, xs, ms, n, rfl, hA, N, hn, q⟩ := h
  refine ev_draw (n := n + 1) (ev_var rfl) (ev_plus (i := (n : Int)) (j := 1) (ev_var rfl) ev_c) hA (by omega) (by omega) fun c k1 hc => ?_
  refine ⟨(c : Int), rfl, by omega, by omega, fun l hl => ?_⟩
  have hlA : l ≠ A := fun e => by rw [e, gupd_same] at hl; cases hl
  have hl0 : g l = none := by rw [gupd_ne hlA] at hl; exact hl
  rw [onEach_map]
  refine lc_deck (g0 := g) hl0 hlA (fun (i : Nat) (s : CSt) => s.set 3 (some (D.int (i : Nat)))) (fun d => ∃ e, d = deedD e ∧ DeedIn ms e) _ [] _ k1 (by rw [List.length_range, List.length_nil]; omega) (((Kp.refl A g).deck).own (.inr hl0)) ((gupd_ne (Ne.symm hlA)).trans gupd_same) gupd_same (fun y h => nomatch h) (fun i _ g' k' R hk hA' z => ?_) fun ys g4 k4 hys hok gk4 gA4 gl4 => ?_
  · refine ⟨_, rfl, _, rfl, ?_⟩
    unfold sp__law_deed
    exact ⟨A, k', xs, ms, rfl, hA', N, fun d k' hd => z _ k' ⟨d, rfl, hd⟩⟩
  · obtain ⟨es, rfl, hes⟩ := deedsOf ys hok
    rw [List.length_map, List.length_nil, List.length_range] at hys
    exact ⟨_, gl4, ⟨gupd g A k4.m, gk4.sub gA4, q es k4 (by omega) hes⟩⟩
end CL

/-! Q3: the law's tables of children (printed from Q3.src by pp.py). -/
namespace CL
open PySem PySem.Spec PyProof.Rows L2 TM

/-! ### _law_is_name -/
@[irreducible] def sp__law_is_name : CSp := fun ds g Q => ∃ x : Str, ds = [.str x] ∧ x.length ≤ 1000 ∧ ∀ b, Q (.bl b) g
theorem pu__law_is_name : ∀ ds g Q, sp__law_is_name ds g Q → c__law_is_name  { nx := fun _ g' => Fin Q .non g', rt := Fin Q } (cstart N__law_is_name ds) g := by
  intro ds g Q h
  unfold sp__law_is_name at h
  obtain ⟨x, rfl, hx, q⟩ := h
  have fin : ∀ b, Fin Q (.bl b) g := fun b => fin_of (q b)
  have t1 : EvT (cNot (cB (cIsi "str" (cVar 0)))) [some (.str x)] g false := fun R w => ⟨_, rfl, rfl, _, rfl, w⟩
  have t2 : EvT (cB (cOp (fEq false) (cVar 0) (cC (.str "")))) [some (.str x)] g (decide (x = "")) := ev_B (ev_eqS (ev_var rfl) ev_c)
  have t3 : EvT (cB (cOp fGt (cCall fLen (cCons (cVar 0) cNil)) (cC (.int 8)))) [some (.str x)] g (decide ((8 : Int) < (x.length : Int))) := fun R w => ⟨_, rfl, lim_ok (by omega), trivial, _, rfl, w⟩
  refine ev_ifs (ev_or t1 fun _ => ev_or t2 fun _ => t3) (fun _ => ev_ret ev_c (fin _)) (fun _ => ?_)
  exact ev_ret (ev_eqS (x := Txt.stripChars x "abcdefghijklmnopqrstuvwxyz") (fun R w => ⟨_, rfl, x, rfl, lim_ok (by omega), w⟩) ev_c) (fin _)

/-! ### _law_over -/
@[irreducible] def sp__law_over : CSp := fun ds g Q => ∃ (K : Addr) (m : Str → List Str) (ks : List Str) (ad : Str → Addr) (x p : Str), ds = [.ref K, .str x] ∧ DR g K m ks ad ∧ ks.length ≤ 1000 ∧ p ∈ ks ∧ x ∈ m p ∧ (∀ k ∈ ks, x ∈ m k → k = p) ∧ Q (.str p) g
theorem encK_keys (ks : List Str) (ad : Str → Addr) : (encK ks ad).map (fun kv => kD kv.1) = ks.map D.str := by
  unfold encK
  rw [List.map_map]
  rfl
theorem head_filter {α : Type} {b : α → Bool} {p : α} : ∀ {l : List α}, p ∈ l → b p = true → (∀ k ∈ l, b k = true → k = p) → (l.filter b)[0]? = some p
  | x :: l, hp, hb, hu => by
    cases e : b x with
    | true =>
      rw [List.filter_cons_of_pos e, hu x List.mem_cons_self e]
      rfl
    | false =>
      rw [List.filter_cons_of_neg (by rw [e]; exact Bool.false_ne_true)]
      refine head_filter ?_ hb fun k hk => hu k (List.mem_cons_of_mem _ hk)
      rcases List.mem_cons.mp hp with h | h
      · rw [← h, hb] at e; cases e
      · exact h
theorem pu__law_over : ∀ ds g Q, sp__law_over ds g Q → c__law_over  { nx := fun _ g' => Fin Q .non g', rt := Fin Q } (cstart N__law_over ds) g := by
  intro ds g Q h
  unfold sp__law_over at h
  obtain ⟨K, m, ks, ad, x, p, rfl, hR, hl, hp, hx, hu, q⟩ := h
  refine ⟨K, _, rfl, hR.dict, fun o vs => ?_⟩
  refine ⟨_, rfl, K, o, vs, _, rfl, gupd_same, fun l hl0 => ?_⟩
  rw [encK_keys, onEach_map]
  have hKl : K ≠ l := gne_none gupd_same hl0
  refine lc_run (l := l) (g := gupd g K (.lck o vs (encK ks ad))) (fun (k : Str) (s : CSt) => s.set 2 (some (D.str k))) (fun k => decide (x ∈ m k)) (fun k => D.str k) (fun ys => (gupd_ne hKl).trans gupd_same) ks [] (by simp; omega) (fun k hk ys R w => ?_) (fun k _ _ ys R w => ev_var (d := .str k) rfl R w) ?_
  · have hne : ad k ≠ K := hR.ne k hk
    have hkl : ad k ≠ l := fun e => by rw [← e, gupd_ne hne, hR.lst k hk] at hl0; cases hl0
    have gk : (gupd (gupd g K (.lck o vs (encK ks ad))) l (.lst ys)) (ad k) = some (.lst ((m k).map D.str)) := (gupd_ne hkl).trans ((gupd_ne hne).trans (hR.lst k hk))
    have gK : (gupd (gupd g K (.lck o vs (encK ks ad))) l (.lst ys)) K = some (.lck o vs (encK ks ad)) := (gupd_ne hKl).trans gupd_same
    refine ⟨.str x, rfl, .ref K, rfl, .str k, rfl, .ref (ad k), .inl ⟨K, _, .inr k, rfl, .inr ⟨o, vs, gK⟩, rfl, ?_⟩, ?_⟩
    · rw [encK_val, if_pos hk]
    · refine ⟨rfl, _, gk, strs_flat _, _, rfl, ?_⟩
      rw [if_neg Bool.false_ne_true, strs_mem]
      exact w
  · rw [List.nil_append]
    refine ⟨(gupd_ne hKl).trans gupd_same, ?_⟩
    have hh := head_filter (b := fun k => decide (x ∈ m k)) hp (by simpa using hx) (fun k hk h => hu k hk (by simpa using h))
    have gl : (gupd (gupd (gupd g K (.lck o vs (encK ks ad))) l (.lst ((ks.filter fun k => decide (x ∈ m k)).map fun k => D.str k))) K (.dic (encK ks ad))) l = some (.lst ((ks.filter fun k => decide (x ∈ m k)).map fun k => D.str k)) := (gupd_ne (Ne.symm hKl)).trans gupd_same
    refine ⟨_, .str p, gl, ?_, ?_⟩
    · have hpos : 0 < ((ks.filter fun k => decide (x ∈ m k)).map fun k => D.str k).length := by
        rw [List.length_map]
        rcases h : ks.filter fun k => decide (x ∈ m k) with _ | ⟨a, t⟩
        · rw [h] at hh; cases hh
        · simp
      have := ixN_nat hpos
      unfold atI
      show (ixN _ ((0 : Nat) : Int)).bind _ = _
      rw [this]
      show ((ks.filter fun k => decide (x ∈ m k)).map fun k => D.str k)[0]? = _
      rw [List.getElem?_map, hh]
      rfl
    · refine ⟨g, fun a o' h => ?_, q⟩
      by_cases e : a = K
      · rw [e] at h ⊢
        rw [gupd_same, ← h, hR.dict]
      · rw [gupd_ne e]
        have : a ≠ l := fun e2 => by rw [← e2, gupd_ne e, h] at hl0; cases hl0
        rw [gupd_ne this, gupd_ne e]
        exact h
theorem ev_over {s : CSt} {g : GH} {a b : CE} {K : Addr} {m : Str → List Str} {ks : List Str} {ad : Str → Addr} {x p : Str} (ha : EvE a s g (.ref K)) (hb : EvE b s g (.str x)) (hR : DR g K m ks ad) (hl : ks.length ≤ 1000) (hp : p ∈ ks) (hx : x ∈ m p) (hu : ∀ k ∈ ks, x ∈ m k → k = p) : EvE (cCall sp__law_over (cCons a (cCons b cNil))) s g (.str p) := ev_call (ev_cons ha (ev_cons hb ev_nil)) fun R w => by
  unfold sp__law_over
  exact ⟨K, m, ks, ad, x, p, rfl, hR, hl, hp, hx, hu, w⟩

/-! ### _law_is_in -/
@[irreducible] def sp__law_is_in : CSp := fun ds g Q => ∃ (K : Addr) (m : Str → List Str) (ks : List Str) (ad : Str → Addr) (x y : Str), ds = [.ref K, .str x, .str y] ∧ DR g K m ks ad ∧ WFk m ks ∧ ks.length ≤ 1000 ∧ x ∈ ks ∧ y ∈ ks ∧ y ≠ "" ∧ ∀ b, (b = false → ¬ (x = y ∨ Below m y x)) → Q (.bl b) g
theorem ev_neS {s : CSt} {g : GH} {a b : CE} {x y : Str} (ha : EvE a s g (.str x)) (hb : EvE b s g (.str y)) : EvE (cOp (fEq true) a b) s g (.bl (!decide (x = y))) := ev_op ha hb fun R q => q
theorem pu__law_is_in : ∀ ds g Q, sp__law_is_in ds g Q → c__law_is_in sp__law_over { nx := fun _ g' => Fin Q .non g', rt := Fin Q } (cstart N__law_is_in ds) g := by
  intro ds g Q h
  unfold sp__law_is_in at h
  obtain ⟨K, m, ks, ad, x, y, rfl, hR, W, hl, hx, hy, hy0, q⟩ := h
  obtain ⟨r, R, hRk, hr⟩ := W.rank
  refine ⟨fun n s g' => ∃ z : Str, s = [some (.ref K), some (.str z), some (.str y)] ∧ g' = g ∧ z ∈ ks ∧ n = R - r z ∧ ((x = y ∨ Below m y x) → (z = y ∨ Below m y z)), ⟨_, x, rfl, rfl, hx, rfl, id⟩, ?_⟩
  rintro n s g' ⟨z, rfl, rfl, hz, rfl, hinv⟩
  refine ev_and (ev_B (ev_neS (x := z) (y := "") (ev_var rfl) ev_c)) (fun _ => ev_B (ev_neS (x := z) (y := y) (ev_var rfl) (ev_var rfl))) _ (te2 (fun e => ?_) (fun e => ?_))
  · rw [Bool.and_eq_true] at e
    have h0 : z ≠ "" := by simpa using e.1
    have h1 : z ≠ y := by simpa using e.2
    obtain ⟨p, hp, hc⟩ := W.par z hz h0
    refine ev_set (ev_over (ev_var rfl) (ev_var rfl) hR hl hp hc fun k hk h => W.uniq k hk p hp z h hc) ?_
    have h2 := hr p hp z hc
    have h3 := hRk p hp
    refine ⟨R - r p, by omega, p, rfl, rfl, hp, rfl, fun h => ?_⟩
    rcases hinv h with h | h
    · exact absurd h h1
    · obtain ⟨p', hp', hc'⟩ := h.par
      have ip' : p' ∈ ks := by
        rcases hp' with rfl | hp'
        · exact hy
        · exact W.belowIn hy hp'
      rw [← W.uniq p' ip' p hp z hc' hc]
      exact hp'
  · refine ev_ret (ev_eqS (x := z) (y := y) (ev_var rfl) (ev_var rfl)) (fin_of (q _ fun hb h => ?_))
    have hne : z ≠ y := by simpa using hb
    rcases hinv h with h | h
    · exact hne h
    · have h0 : z = "" := by
        rw [Bool.and_eq_false_iff] at e
        rcases e with e | e
        · simpa using e
        · exact absurd (by simpa using e) hne
      obtain ⟨p', hp', hc'⟩ := h.par
      have ip' : p' ∈ ks := by
        rcases hp' with rfl | hp'
        · exact hy
        · exact W.belowIn hy hp'
      exact (W.kid p' ip' z hc').2 h0
theorem ev_isin {s : CSt} {g : GH} {R : CQ} {a b c : CE} {K : Addr} {m : Str → List Str} {ks : List Str} {ad : Str → Addr} {x y : Str} (ha : EvE a s g (.ref K)) (hb : EvE b s g (.str x)) (hc : EvE c s g (.str y)) (hR : DR g K m ks ad) (W : WFk m ks) (hl : ks.length ≤ 1000) (hx : x ∈ ks) (hy : y ∈ ks) (hy0 : y ≠ "") (q : ∀ b, (b = false → ¬ (x = y ∨ Below m y x)) → R (.bl b) g) : cCall sp__law_is_in (cCons a (cCons b (cCons c cNil))) s g R :=
  ha _ (hb _ (hc _ (by unfold sp__law_is_in; exact ⟨K, m, ks, ad, x, y, rfl, hR, W, hl, hx, hy, hy0, q⟩)))

/-! ### _law_wood_of -/
@[irreducible] def sp__law_wood_of (n : Nat) : CSp := fun ds g Q => ∃ (K : Addr) (m : Str → List Str) (ks : List Str) (ad : Str → Addr) (f : F) (k : Str), ds = [.ref K, .str k] ∧ DR g K m ks ad ∧ k ∈ ks ∧ m k = f.tops ∧ KRs m f ∧ (∀ x ∈ f.names, x ∈ ks) ∧ f.dep < n ∧ f.names.length ≤ 1000 ∧ Q (woodD f) g
theorem tops_len : ∀ f : F, f.tops.length ≤ f.names.length
  | .nil => Nat.le_refl _
  | .cons x k r => by
    have := tops_len r
    simp only [F.tops, F.names, List.length_cons, List.length_append]
    omega
theorem wo_intro {n : Nat} {g : GH} {Q : CQ} {K : Addr} {m : Str → List Str} {ks : List Str} {ad : Str → Addr} {f : F} {k : Str} (hR : DR g K m ks ad) (hk : k ∈ ks) (ht : m k = f.tops) (hm : KRs m f) (hs : ∀ x ∈ f.names, x ∈ ks) (hd : f.dep < n) (hl : f.names.length ≤ 1000) (q : Q (woodD f) g) : sp__law_wood_of n [.ref K, .str k] g Q := by
  unfold sp__law_wood_of
  exact ⟨K, m, ks, ad, f, k, rfl, hR, hk, ht, hm, hs, hd, hl, q⟩
theorem wo_loop {n : Nat} {K l : Addr} {m : Str → List Str} {ks : List Str} {ad : Str → Addr} {s0 : D} {P : GH → Prop} {L : Addr} {ds0 : List D} : ∀ (f : F) (acc : List D) (g' : GH), DR g' K m ks ad → ¬ Own' K ks ad l → L ≠ l → g' L = some (.lst ds0) → g' l = some (.lst acc) → KRs m f → (∀ x ∈ f.names, x ∈ ks) → f.dep < n + 1 → acc.length + f.names.length ≤ 1000 →
    P (gupd g' l (.lst (acc ++ ft f))) →
    lcLoop cYes (cTup (cCons (cVar 2) (cCons (cCall (sp__law_wood_of n) (cCons (cVar 0) (cCons (cVar 2) cNil))) cNil))) l [some (.ref K), some s0, none] (fun g => g L = some (.lst ds0)) P (f.tops.map fun x s => s.set 2 (some (D.str x))) acc g'
  | .nil, acc, g', hR, ho, hne, gL, gl, hk, hs, hd, hl, p => ⟨gL, by
    have e : gupd g' l (.lst (acc ++ ft .nil)) = g' := by rw [show ft .nil = [] from rfl, List.append_nil]; exact gupd_self gl
    rw [e] at p
    exact p⟩
  | .cons x k r, acc, g', hR, ho, hne, gL, gl, hk, hs, hd, hl, p => by
    obtain ⟨h1, h2, h3⟩ := hk
    simp only [F.names, List.length_cons, List.length_append] at hl
    have hd1 : k.dep < n := by simp only [F.dep] at hd; omega
    have hd2 : r.dep < n + 1 := by simp only [F.dep] at hd; omega
    refine ⟨gL, yes_go ?_⟩
    refine ⟨.str x, rfl, .ref K, rfl, .str x, rfl, ?_⟩
    refine wo_intro hR (hs x (by simp [F.names])) h1 h2 (fun y hy => hs y (by simp [F.names, hy])) hd1 (by omega) ?_
    refine ⟨lim_ok (by simp), gl, lim_ok (by omega), ?_⟩
    have hR2 : DR (gupd g' l (.lst (acc ++ [D.tup [.str x, woodD k]]))) K m ks ad := hR.keep fun a o => gupd_ne (fun e => ho (e ▸ o))
    refine wo_loop r (acc ++ [D.tup [.str x, woodD k]]) _ hR2 ho hne ((gupd_ne hne).trans gL) gupd_same h3 (fun y hy => hs y (by simp [F.names, hy])) hd2 (by simp; omega) ?_
    rw [gupd_gupd, List.append_assoc]
    exact p
theorem pu__law_wood_of (n : Nat) : ∀ ds g Q, sp__law_wood_of (n + 1) ds g Q → c__law_wood_of (sp__law_wood_of n) { nx := fun _ g' => Fin Q .non g', rt := Fin Q } (cstart N__law_wood_of ds) g := by
  intro ds g Q h
  unfold sp__law_wood_of at h
  obtain ⟨K, m, ks, ad, f, k, rfl, hR, hk, ht, hm, hs, hd, hl, q⟩ := h
  refine ⟨_, rfl, _, rfl, .ref (ad k), .inl ⟨K, _, .inr k, rfl, .inl hR.dict, rfl, by rw [encK_val, if_pos hk]⟩, ad k, _, rfl, hR.lst k hk, fun l hl0 => ?_⟩
  rw [onEach_map, ht]
  have ho : ¬ Own' K ks ad l := fun o => by
    obtain ⟨x, hx⟩ := hR.some o
    rw [hl0] at hx; cases hx
  have hne : ad k ≠ l := fun e => ho (.inr ⟨k, hk, e.symm⟩)
  have gL := hR.lst k hk
  rw [ht] at gL
  refine wo_loop f [] _ (hR.new hl0) ho hne (gup_free gL hl0) gupd_same hm hs hd (by simpa using hl) ?_
  rw [gupd_gupd, List.nil_append]
  exact ⟨_, gupd_same, ⟨g, .new hl0, q⟩⟩
end CL

/-! Q4: is_wood, kids, many, fits (printed from Q4.src by pp.py). -/
namespace CL
open PySem PySem.Spec PyProof.Rows L2 TM

def insides : F → List F
  | .nil => []
  | .cons x k r => k :: insides r
def sumN (ws : List F) : Nat := (ws.map fun f => 2 * f.names.length + 1).sum
def sumM (ws : List F) : Nat := (ws.map fun f => f.names.length).sum
theorem sumN_app (a b : List F) : sumN (a ++ b) = sumN a + sumN b := by unfold sumN; rw [List.map_append, List.sum_append]
theorem sumM_app (a b : List F) : sumM (a ++ b) = sumM a + sumM b := by unfold sumM; rw [List.map_append, List.sum_append]
theorem ins_sumN : ∀ f : F, sumN (insides f) + f.tops.length = 2 * f.names.length
  | .nil => rfl
  | .cons x k r => by
    have := ins_sumN r
    simp only [sumN, insides, F.tops, F.names, List.map_cons, List.sum_cons, List.length_cons, List.length_append] at this ⊢
    omega
theorem ins_sumM : ∀ f : F, sumM (insides f) + f.tops.length = f.names.length
  | .nil => rfl
  | .cons x k r => by
    have := ins_sumM r
    simp only [sumM, insides, F.tops, F.names, List.map_cons, List.sum_cons, List.length_cons, List.length_append] at this ⊢
    omega
theorem sumN_len (ws : List F) : ws.length ≤ sumN ws := by
  induction ws with
  | nil => exact Nat.le_refl _
  | cons w ws ih =>
    unfold sumN at ih ⊢
    rw [List.map_cons, List.sum_cons, List.length_cons]
    omega
theorem ok_woods (ws : List F) : okPys (ws.map woodD) = true := okPys_all fun x hx => by
  obtain ⟨f, _, rfl⟩ := List.mem_map.mp hx
  exact okF f
theorem ins_names : ∀ {f v : F} {x : Str}, v ∈ insides f → x ∈ v.names → x ∈ f.names
  | .cons y k r, v, x, hv, hx => by
    rcases List.mem_cons.mp hv with rfl | hv
    · simp [F.names, hx]
    · have := ins_names hv hx
      simp [F.names, this]
/-! ### _law_is_wood -/
@[irreducible] def sp__law_is_wood : CSp := fun ds g Q => ∃ f : F, ds = [woodD f] ∧ (∀ x ∈ f.names, NmOk x) ∧ f.names.length ≤ 100 ∧ ∀ b, Q (.bl b) g
abbrev iwBody : CS := (cSeq (cIfS (cOr (cNot (cB (cIsi "tuple" (cVar 4)))) (cB (cOp (fEq true) (cCall fLen (cCons (cVar 4) cNil)) (cC (.int 2))))) (cRet (cC (.bl false))) cSkip)
    (cSeq (cIfS (cOr (cNot (cB (cCall sp__law_is_name (cCons (cOp fIx (cVar 4) (cC (.int 0))) cNil)))) (cB (cOp (fIn false) (cOp fIx (cVar 4) (cC (.int 0))) (cVar 2)))) (cRet (cC (.bl false))) cSkip)
    (cSeq (cDrop (cMet fAppend (cVar 2) (cCons (cOp fIx (cVar 4) (cC (.int 0))) cNil)))
    (cDrop (cMet fAppend (cVar 1) (cCons (cOp fIx (cVar 4) (cC (.int 1))) cNil))))))
theorem iw_loop {Wt Cl : Addr} (hne : Wt ≠ Cl) {g : GH} (nW : g Wt = none) (nC : g Cl = none) {d0 d3 : D} {C : CEnds} (rt : ∀ g' : GH, (∀ a o, g a = some o → g' a = some o) → C.rt (.bl false) g') : ∀ (r : F) (ws : List F) (cs : List Str) (o4 : Option D) (g' : GH), (∀ x ∈ r.names, NmOk x) → ws.length + r.names.length ≤ 1000 → cs.length + r.names.length ≤ 1000 →
    g' Wt = some (.lst (ws.map woodD)) → g' Cl = some (.lst (cs.map D.str)) → (∀ a o, g a = some o → g' a = some o) →
    (∀ o4 g', g' Wt = some (.lst ((ws ++ insides r).map woodD)) → g' Cl = some (.lst ((cs ++ r.tops).map D.str)) → (∀ a o, g a = some o → g' a = some o) → C.nx [some d0, some (.ref Wt), some (.ref Cl), some d3, o4] g') →
    cLoop iwBody C (fun _ => True) ((ft r).map fun d s => s.set 4 (some d)) [some d0, some (.ref Wt), some (.ref Cl), some d3, o4] g'
  | .nil, ws, cs, o4, g', _, _, _, gW, gC, gs, nx => ⟨trivial, by
    have := nx o4 g'
    simp only [insides, F.tops, List.append_nil] at this
    exact this gW gC gs⟩
  | .cons x k r, ws, cs, o4, g', hok, h1, h2, gW, gC, gs, nx => by
    simp only [F.names, List.length_cons, List.length_append] at h1 h2
    refine ⟨trivial, ?_⟩
    have v4 : EvE (cVar 4) [some d0, some (.ref Wt), some (.ref Cl), some d3, some (.tup [.str x, woodD k])] g' (.tup [.str x, woodD k]) := ev_var rfl
    have t1 : EvT (cNot (cB (cIsi "tuple" (cVar 4)))) [some d0, some (.ref Wt), some (.ref Cl), some d3, some (.tup [.str x, woodD k])] g' false := fun R w => ⟨_, rfl, rfl, _, rfl, w⟩
    have t2 : EvT (cB (cOp (fEq true) (cCall fLen (cCons (cVar 4) cNil)) (cC (.int 2)))) [some d0, some (.ref Wt), some (.ref Cl), some d3, some (.tup [.str x, woodD k])] g' false := fun R w => ⟨_, rfl, _, rfl, w⟩
    refine ev_ifs (ev_or t1 fun _ => t2) (fun e => by cases e) (fun _ => ?_)
    have e0 : EvE (cOp fIx (cVar 4) (cC (.int 0))) [some d0, some (.ref Wt), some (.ref Cl), some d3, some (.tup [.str x, woodD k])] g' (.str x) := ev_ix v4 ev_c rfl
    have hx := hok x (by simp [F.names])
    have step : cSeq (cDrop (cMet fAppend (cVar 2) (cCons (cOp fIx (cVar 4) (cC (.int 0))) cNil))) (cDrop (cMet fAppend (cVar 1) (cCons (cOp fIx (cVar 4) (cC (.int 1))) cNil))) { nx := fun s' g' => cLoop iwBody C (fun _ => True) ((ft r).map fun d s => s.set 4 (some d)) s' g', rt := C.rt, ct := fun s' g' => cLoop iwBody C (fun _ => True) ((ft r).map fun d s => s.set 4 (some d)) s' g', bk := C.nx } [some d0, some (.ref Wt), some (.ref Cl), some d3, some (.tup [.str x, woodD k])] g' := by
      refine st_appends (ev_var rfl) gC e0 (by rw [List.length_map]; omega) ?_
      refine st_append (xs := ws.map woodD) (ev_var rfl) ((gupd_ne hne).trans gW) (ev_ix (xs := [.str x, woodD k]) (ev_var rfl) ev_c rfl) (by rw [List.length_map]; omega) ?_
      refine iw_loop hne nW nC rt r (ws ++ [k]) (cs ++ [x]) _ _ (fun y hy => hok y (by simp [F.names, hy])) (by simp; omega) (by simp; omega) ?_ ?_ ?_ ?_
      · rw [gupd_same, List.map_append]; rfl
      · rw [gupd_ne hne.symm, gupd_same, List.map_append]; rfl
      · intro a o h
        rw [gupd_ne (fun e => by rw [e, nW] at h; cases h), gupd_ne (fun e => by rw [e, nC] at h; cases h)]
        exact gs a o h
      · intro o4 g'' q1 q2 q3
        refine nx o4 g'' ?_ ?_ q3
        · rw [q1, List.append_assoc]; rfl
        · rw [q2, List.append_assoc]; rfl
    have bad : C.rt (.bl false) g' := rt g' gs
    -- the name test
    refine e0 _ ?_
    unfold sp__law_is_name
    refine ⟨x, rfl, by unfold NmOk at hx; omega, fun b => ⟨b, rfl, ?_⟩⟩
    cases b with
    | false => exact te2 (fun _ => bad) (fun e => by cases e)
    | true =>
      refine te2 (fun e => by cases e) (fun _ => ?_)
      refine ev_B (b := memF (.str x) (cs.map D.str)) (ev_op e0 (ev_var (d := .ref Cl) rfl) fun R w => ⟨rfl, _, gC, strs_flat cs, w⟩) _ (te2 (fun _ => bad) (fun _ => ?_))
      exact step
theorem pu__law_is_wood : ∀ ds g Q, sp__law_is_wood ds g Q → c__law_is_wood sp__law_is_name { nx := fun _ g' => Fin Q .non g', rt := Fin Q } (cstart N__law_is_wood ds) g := by
  intro ds g Q h
  unfold sp__law_is_wood at h
  obtain ⟨f, rfl, hok, hl, q⟩ := h
  refine ⟨_, rfl, lim_ok (by simp), fun W hW => ?_⟩
  refine ⟨lim_ok (by simp), fun Cl hC => ?_⟩
  refine ⟨_, _, rfl, ?_⟩
  have hne : W ≠ Cl := gne_none gupd_same hC
  have nW : g W = none := hW
  have nC : g Cl = none := by rw [gupd_ne hne.symm] at hC; exact hC
  have gW : (gupd (gupd g W (.lst [woodD f])) Cl (.lst [])) W = some (.lst ([f].map woodD)) := (gupd_ne hne).trans gupd_same
  have gC : (gupd (gupd g W (.lst [woodD f])) Cl (.lst [])) Cl = some (.lst (([] : List Str).map D.str)) := gupd_same
  have gs : ∀ a o, g a = some o → (gupd (gupd g W (.lst [woodD f])) Cl (.lst [])) a = some o := fun a o h => gup_free (gup_free h hW) hC
  dsimp only
  generalize gupd (gupd g W (.lst [woodD f])) Cl (.lst []) = g1 at gW gC gs
  refine ⟨fun n s g' => ∃ (ws : List F) (cs : List Str) (o3 o4 : Option D), s = [some (woodD f), some (.ref W), some (.ref Cl), o3, o4] ∧ g' W = some (.lst (ws.map woodD)) ∧ g' Cl = some (.lst (cs.map D.str)) ∧ (∀ a o, g a = some o → g' a = some o) ∧ (∀ w ∈ ws, ∀ x ∈ w.names, NmOk x) ∧ n = sumN ws ∧ n ≤ 201 ∧ cs.length + sumM ws ≤ 100,
    ⟨_, [f], [], none, none, rfl, gW, gC, gs, fun w hw => by rw [List.mem_singleton.mp hw]; exact hok, rfl, by simp [sumN]; omega, by simp [sumM]; omega⟩, ?_⟩
  rintro n s g' ⟨ws, cs, o3, o4, rfl, gW, gC, gs, hw, hn, hn2, hc⟩
  refine ev_neNil (ev_var rfl) gW (ok_woods ws) fun E hE => ?_
  have gW2 := gup_free (o := .lst []) gW hE
  have gC2 := gup_free (o := .lst []) gC hE
  have gs2 : ∀ a o, g a = some o → (gupd g' E (.lst [])) a = some o := fun a o h => gup_free (gs a o h) hE
  generalize gupd g' E (.lst []) = g2 at gW2 gC2 gs2
  rcases List.eq_nil_or_concat ws with rfl | ⟨ws, w, rfl⟩
  · refine te2 (fun e => by cases e) (fun _ => ?_)
    exact ⟨g, gs2, q _⟩
  · simp only [List.concat_eq_append] at *
    have hem : ((ws ++ [w]).map woodD).isEmpty = false := by simp
    rw [hem]
    refine te2 (fun _ => ?_) (fun e => by cases e)
    rw [List.map_append] at gW2
    rw [sumN_app] at hn
    rw [sumM_app] at hc
    have hw1 : sumN [w] = 2 * w.names.length + 1 := by simp [sumN]
    have hw2 : sumM [w] = w.names.length := by simp [sumM]
    have hsl := sumN_len ws
    refine st_pops (d := woodD w) (ev_var rfl) gW2 ?_
    have gW3 : (gupd g2 W (.lst (ws.map woodD))) W = some (.lst (ws.map woodD)) := gupd_same
    have gC3 : (gupd g2 W (.lst (ws.map woodD))) Cl = some (.lst (cs.map D.str)) := (gupd_ne hne.symm).trans gC2
    have gs3 : ∀ a o, g a = some o → (gupd g2 W (.lst (ws.map woodD))) a = some o := fun a o h => (gupd_ne (fun e => by rw [e, nW] at h; cases h)).trans (gs2 a o h)
    generalize gupd g2 W (.lst (ws.map woodD)) = g3 at gW3 gC3 gs3
    have t1 : EvT (cNot (cB (cIsi "tuple" (cVar 3)))) [some (woodD f), some (.ref W), some (.ref Cl), some (woodD w), o4] g3 false := fun R w => ⟨_, rfl, rfl, _, rfl, w⟩
    refine ev_ifs t1 (fun e => by cases e) (fun _ => ?_)
    refine ⟨_, rfl, ft w, rfl, ?_⟩
    have h1 := ins_sumN w
    have h2 := ins_sumM w
    refine iw_loop hne nW nC ?rt w ws cs _ g3 (hw w (by simp)) (by omega) (by omega) gW3 gC3 gs3 ?nx
    case rt => intro g' h; exact ⟨g, h, q _⟩
    intro o4 g'' q1 q2 q3
    refine ⟨_, ?_, ws ++ insides w, cs ++ w.tops, _, _, rfl, q1, q2, q3, ?_, rfl, ?_, ?_⟩
    · rw [sumN_app]; omega
    · intro v hv x hx
      rcases List.mem_append.mp hv with hv | hv
      · exact hw v (by simp [hv]) x hx
      · exact hw w (by simp) x (ins_names hv hx)
    · rw [sumN_app]; omega
    · rw [sumM_app, List.length_append]; omega

/-! ### _law_kids -/
def subs : F → List (Str × F)
  | .nil => []
  | .cons x k r => (x, k) :: subs r
def treeD (p : Str × F) : D := .tup [.str p.1, woodD p.2]
theorem subs_d : ∀ f : F, (subs f).map treeD = ft f
  | .nil => rfl
  | .cons x k r => by
    show treeD (x, k) :: (subs r).map treeD = _
    rw [subs_d r]; rfl
theorem subs_t : ∀ f : F, (subs f).map (·.1) = f.tops
  | .nil => rfl
  | .cons x k r => by
    show x :: (subs r).map (·.1) = x :: r.tops
    rw [subs_t r]
def pend (ws : List (Str × F)) : List Str := ws.flatMap fun p => p.1 :: p.2.names
theorem pend_app (a b : List (Str × F)) : pend (a ++ b) = pend a ++ pend b := List.flatMap_append
theorem pend_subs : ∀ f : F, pend (subs f) = f.names
  | .nil => rfl
  | .cons x k r => by
    show (x :: k.names) ++ pend (subs r) = x :: (k.names ++ r.names)
    rw [pend_subs r]
    simp
theorem subs_kr {m : Str → List Str} : ∀ {f : F}, KRs m f → ∀ p ∈ subs f, m p.1 = p.2.tops ∧ KRs m p.2
  | .cons x k r, h, p, hp => by
    rcases List.mem_cons.mp hp with rfl | hp
    · exact ⟨h.1, h.2.1⟩
    · exact subs_kr h.2.2 p hp
theorem pend_len (ws : List (Str × F)) : ws.length ≤ (pend ws).length := by
  induction ws with
  | nil => exact Nat.le_refl _
  | cons w ws ih =>
    unfold pend at ih ⊢
    rw [List.flatMap_cons, List.length_append, List.length_cons, List.length_cons]
    omega
theorem ok_trees (ws : List (Str × F)) : okPys (ws.map treeD) = true := okPys_all fun x hx => by
  obtain ⟨p, _, rfl⟩ := List.mem_map.mp hx
  show (true && (okPys (ft p.2) && true)) = true
  rw [okF]; rfl
theorem lc_firsts {s : CSt} {j : Nat} {l : Addr} {g : GH} {P : GH → Prop} (hj : ∀ d : D, (s.set j (some d))[j]? = some (some d)) (f : F) (hl : f.names.length ≤ 1000) (p : P (gupd g l (.lst (f.tops.map D.str)))) :
    lcLoop cYes (cOp fIx (cVar j) (cC (.int 0))) l s (fun _ => True) P (onEach j (ft f)) [] (gupd g l (.lst [])) := by
  have e : onEach j (ft f) = (subs f).map fun q s => s.set j (some (treeD q)) := by
    rw [← subs_d, onEach_map]
  have hsl : (subs f).length ≤ f.names.length := by
    rw [← pend_subs]; exact pend_len _
  rw [e]
  refine lc_run (l := l) (g := g) (fun (q : Str × F) (s : CSt) => s.set j (some (treeD q))) (fun _ => true) (fun q => D.str q.1) (fun _ => trivial) (subs f) [] (by rw [List.length_nil]; omega) (fun q _ ys R w => w) (fun q _ _ ys R w => ev_ix (xs := [.str q.1, woodD q.2]) (ev_var (hj _)) ev_c rfl R w) ?_
  rw [List.nil_append, List.filter_eq_self.mpr (fun _ _ => rfl)]
  have e2 : (subs f).map (fun q => D.str q.1) = f.tops.map D.str := by rw [← subs_t, List.map_map]; rfl
  rw [e2]
  exact p
@[irreducible] def sp__law_kids : CSp := fun ds g Q => ∃ (f : F) (m : Str → List Str), ds = [woodD f] ∧ f.names.Nodup ∧ ("" : Str) ∉ f.names ∧ f.names.length ≤ 100 ∧ m "" = f.tops ∧ KRs m f ∧ ∀ (K : Addr) (ks : List Str) (ad : Str → Addr) (g' : GH), DR g' K m ks ad → ks.Perm ("" :: f.names) → (∀ a o, g a = some o → g' a = some o) → (∀ a, Own' K ks ad a → g a = none) → Q (.ref K) g'
theorem pu__law_kids : ∀ ds g Q, sp__law_kids ds g Q → c__law_kids  { nx := fun _ g' => Fin Q .non g', rt := Fin Q } (cstart N__law_kids ds) g := by
  intro ds g Q h
  unfold sp__law_kids at h
  obtain ⟨f, m, rfl, nd, h0, hl, hm0, hmk, q⟩ := h
  -- the roots
  refine fun K hK => ?_
  refine ⟨_, rfl, ft f, rfl, fun l hl0 => ?_⟩
  refine lc_firsts (fun d => rfl) f (by omega) ?_
  have hKl : K ≠ l := gne_none gupd_same hl0
  refine ⟨(gupd_ne hKl).trans gupd_same, [(.inr "", .ref l)], rfl, by simp, ?_⟩
  have dr0 : DR (gupd (gupd (gupd g K (.dic [])) l (.lst (f.tops.map D.str))) K (.dic (mergeD [] [(.inr "", .ref l)]))) K m [""] (fun _ => l) := ⟨gupd_same, fun _ _ => hKl.symm, fun k hk => by
    rw [List.mem_singleton.mp hk, hm0, gupd_ne hKl.symm]; exact gupd_same, fun k hk k' hk' _ => by rw [List.mem_singleton.mp hk, List.mem_singleton.mp hk']⟩
  have nl : g l = none := by rw [gupd_ne hKl.symm] at hl0; exact hl0
  have gs0 : ∀ a o, g a = some o → (gupd (gupd (gupd g K (.dic [])) l (.lst (f.tops.map D.str))) K (.dic (mergeD [] [(.inr "", .ref l)]))) a = some o := fun a o h => by
    rw [gupd_ne (gne_none h hK), gupd_ne (gne_none h nl), gupd_ne (gne_none h hK)]
    exact h
  dsimp only
  generalize gupd (gupd (gupd g K (.dic [])) l (.lst (f.tops.map D.str))) K (.dic (mergeD [] [(.inr "", .ref l)])) = g1 at dr0 gs0
  -- what waits
  refine ⟨_, rfl, fun W hW => ?_⟩
  have dr1 : DR (gupd g1 W (.lst (ft f))) K m [""] (fun _ => l) := dr0.new hW
  have gs1 : ∀ a o, g a = some o → (gupd g1 W (.lst (ft f))) a = some o := fun a o h => gup_free (gs0 a o h) hW
  have gW1 : (gupd g1 W (.lst (ft f))) W = some (.lst ((subs f).map treeD)) := by rw [gupd_same, subs_d]
  have fW : ¬ Own' K [""] (fun _ => l) W := fun o => by
    obtain ⟨x, hx⟩ := dr0.some o
    rw [hW] at hx; cases hx
  have nW : g W = none := by
    cases e : g W with
    | none => rfl
    | some o => rw [gs0 W o e] at hW; cases hW
  generalize gupd g1 W (.lst (ft f)) = g2 at dr1 gs1 gW1
  refine ⟨fun n s g' => ∃ (ws : List (Str × F)) (ks : List Str) (ad : Str → Addr) (o4 o5 : Option D), s = [some (woodD f), some (.ref K), none, some (.ref W), o4, o5] ∧ DR g' K m ks ad ∧ (ks ++ pend ws).Perm ("" :: f.names) ∧ g' W = some (.lst (ws.map treeD)) ∧ ¬ Own' K ks ad W ∧ (∀ a o, g a = some o → g' a = some o) ∧ (∀ a, Own' K ks ad a → g a = none) ∧ (∀ p ∈ ws, m p.1 = p.2.tops ∧ KRs m p.2) ∧ n = (pend ws).length,
    ⟨_, subs f, [""], fun _ => l, none, none, rfl, dr1, by rw [pend_subs]; exact .refl _, gW1, fW, gs1, fun a o => ?_, subs_kr hmk, rfl⟩, ?_⟩
  · rcases o with rfl | ⟨k, _, rfl⟩
    · exact hK
    · exact nl
  rintro n s g' ⟨ws, ks, ad, o4, o5, rfl, dr, hp, gW, fW, gs, own, hws, hn⟩
  refine ev_neNil (ev_var rfl) gW (ok_trees ws) fun E hE => ?_
  have dr2 := dr.new (o := .lst []) hE
  have gW2 := gup_free (o := .lst []) gW hE
  have gs2 : ∀ a o, g a = some o → (gupd g' E (.lst [])) a = some o := fun a o h => gup_free (gs a o h) hE
  generalize gupd g' E (.lst []) = g3 at dr2 gW2 gs2
  have hlen := hp.length_eq
  rw [List.length_append, List.length_cons] at hlen
  rcases List.eq_nil_or_concat ws with rfl | ⟨ws, w, rfl⟩
  · refine te2 (fun e => by cases e) (fun _ => ?_)
    refine ev_ret (ev_var rfl) ?_
    rw [show pend [] = [] from rfl, List.append_nil] at hp
    exact fin_of (q K ks ad g3 dr2 hp gs2 own)
  · simp only [List.concat_eq_append] at *
    have hem : ((ws ++ [w]).map treeD).isEmpty = false := by simp
    rw [hem]
    refine te2 (fun _ => ?_) (fun e => by cases e)
    obtain ⟨x, k⟩ := w
    obtain ⟨hx1, hx2⟩ := hws (x, k) (by simp)
    have hx1 : m x = k.tops := hx1
    rw [List.map_append] at gW2
    rw [pend_app] at hp hn hlen
    have pe : pend [(x, k)] = x :: k.names := by simp [pend]
    rw [pe] at hp hn hlen
    rw [List.length_append, List.length_cons] at hlen
    have wl := pend_len ws
    have ndp : (ks ++ (pend ws ++ x :: k.names)).Nodup := hp.nodup_iff.mpr (List.nodup_cons.mpr ⟨h0, nd⟩)
    have hxk : x ∉ ks := fun h => (List.nodup_append.mp ndp).2.2 x h x (by simp) rfl
    refine st_popT (ds := [.str x, woodD k]) (ev_var rfl) gW2 rfl ?_
    have dr3 : DR (gupd g3 W (.lst (ws.map treeD))) K m ks ad := dr2.keep fun a o => gupd_ne (fun e => fW (e ▸ o))
    have gW3 : (gupd g3 W (.lst (ws.map treeD))) W = some (.lst (ws.map treeD)) := gupd_same
    have gs3 : ∀ a o, g a = some o → (gupd g3 W (.lst (ws.map treeD))) a = some o := fun a o h => (gupd_ne (gne_none h nW)).trans (gs2 a o h)
    generalize gupd g3 W (.lst (ws.map treeD)) = g4 at dr3 gW3 gs3
    -- kids[name] = [...]
    refine ⟨_, rfl, ft k, rfl, fun p hp0 => ?_⟩
    refine lc_firsts (fun d => rfl) k (by omega) ?_
    have fp : ¬ Own' K ks ad p := fun o => by
      obtain ⟨z, hz⟩ := dr3.some o
      rw [hp0] at hz; cases hz
    have dr4 : DR (gupd g4 p (.lst (k.tops.map D.str))) K m ks ad := dr3.new hp0
    have gW4 := gup_free (o := .lst (k.tops.map D.str)) gW3 hp0
    have gs4 : ∀ a o, g a = some o → (gupd g4 p (.lst (k.tops.map D.str))) a = some o := fun a o h => gup_free (gs3 a o h) hp0
    have gp4 : (gupd g4 p (.lst (k.tops.map D.str))) p = some (.lst (k.tops.map D.str)) := gupd_same
    have hWp : W ≠ p := gne_none gW3 hp0
    have np : g p = none := by
      cases e : g p with
      | none => rfl
      | some o => rw [gs3 p o e] at hp0; cases hp0
    generalize gupd g4 p (.lst (k.tops.map D.str)) = g5 at dr4 gW4 gs4 gp4
    refine ⟨_, rfl, _, rfl, gupd g5 K (.dic (putD (encK ks ad) (.inr x) (.ref p))), .inl ⟨K, encK ks ad, .inr x, rfl, dr4.dict, rfl, lim_ok (by unfold encK; rw [List.length_map]; omega), rfl⟩, ?_⟩
    have dr5 := dr4.put gp4 fp (k := x)
    have e5 : upS m x k.tops = m := by
      funext z
      by_cases e : z = x
      · rw [e, upS_same, hx1]
      · rw [upS_ne e]
    rw [← encK_put, e5, if_neg hxk] at dr5
    have hKn : g K = none := own K (.inl rfl)
    have hWK : W ≠ K := fun e => fW (.inl e)
    have gW5 := (gupd_ne (g := g5) (o := .dic (putD (encK ks ad) (.inr x) (.ref p))) hWK).trans gW4
    have gs5 : ∀ a o, g a = some o → (gupd g5 K (.dic (putD (encK ks ad) (.inr x) (.ref p)))) a = some o := fun a o h => (gupd_ne (gne_none h hKn)).trans (gs4 a o h)
    generalize gupd g5 K (.dic (putD (encK ks ad) (.inr x) (.ref p))) = g6 at dr5 gW5 gs5
    have own6 : ∀ a, Own' K (ks ++ [x]) (upA ad x p) a → a = p ∨ Own' K ks ad a := fun a o => by
      rcases o with rfl | ⟨z, hz, rfl⟩
      · exact .inr (.inl rfl)
      · by_cases e : z = x
        · rw [e, upA_same]; exact .inl rfl
        · rcases List.mem_append.mp hz with h | h
          · exact .inr (.inr ⟨z, h, upA_ne e⟩)
          · exact absurd (List.mem_singleton.mp h) e
    have fW6 : ¬ Own' K (ks ++ [x]) (upA ad x p) W := fun o => (own6 W o).elim hWp fW
    -- waiting.extend(inside)
    refine st_extT (zs := ft k) (ev_var rfl) gW5 (ev_var rfl) ?_ ?_
    · rw [List.length_map, ← subs_d, List.length_map]
      have : (subs k).length ≤ k.names.length := by rw [← pend_subs]; exact pend_len _
      omega
    · rw [← subs_d, ← List.map_append]
      refine ⟨_, ?_, ws ++ subs k, ks ++ [x], upA ad x p, _, _, rfl, dr5.keep fun a o => gupd_ne (fun e => fW6 (e ▸ o)), ?_, gupd_same, fW6, fun a o h => (gupd_ne (gne_none h nW)).trans (gs5 a o h), fun a o => ?_, fun w hw => ?_, rfl⟩
      · rw [hn, pend_app, pend_subs, List.length_append, List.length_append, List.length_cons]
        omega
      · rw [pend_app, pend_subs]
        refine List.Perm.trans ?_ hp
        rw [List.append_assoc]
        refine List.Perm.append_left ks ?_
        show (x :: (pend ws ++ k.names)).Perm _
        exact List.perm_middle.symm
      · rcases own6 a o with rfl | o
        · exact np
        · exact own a o
      · rcases List.mem_append.mp hw with h | h
        · exact hws w (by simp [h])
        · exact subs_kr hx2 w h
end CL

/-! Q5: many, fits, word, placed, ran (printed from Q5.src by pp.py). -/
namespace CL
open PySem PySem.Spec PyProof.Rows L2 TM

/-- a wood with unlike names -/
structure Wd (f : F) : Prop where
  nd : f.names.Nodup
  ok : ∀ x ∈ f.names, NmOk x
  few : f.names.length ≤ 20
theorem ok_ne {x : Str} (h : NmOk x) : x ≠ "" := fun e => by
  unfold NmOk at h
  rw [e] at h
  have := zero_len
  omega
theorem Wd.ne (w : Wd f) : ("" : Str) ∉ f.names := fun h => ok_ne (w.ok _ h) rfl
theorem kids_go {f : F} (w : Wd f) {s : CSt} {g : GH} {a : CE} {R : CQ} (ha : EvE a s g (woodD f)) (q : ∀ (m : Str → List Str) (K : Addr) (ks : List Str) (ad : Str → Addr) (g' : GH), m "" = f.tops → KRs m f → DR g' K m ks ad → ks.Perm ("" :: f.names) → (∀ a o, g a = some o → g' a = some o) → (∀ a, Own' K ks ad a → g a = none) → R (.ref K) g') : cCall sp__law_kids (cCons a cNil) s g R := by
  obtain ⟨m, h1, h2⟩ := kr_ex f w.nd w.ne
  refine ha _ ?_
  unfold sp__law_kids
  exact ⟨f, m, rfl, w.nd, w.ne, Nat.le_trans w.few (by decide), h1, h2, fun K ks ad g' => q m K ks ad g' h1 h2⟩
/-! ### _law_many -/
@[irreducible] def sp__law_many : CSp := fun ds g Q => ∃ f : F, ds = [woodD f] ∧ Wd f ∧ Q (natD f.names.length) g
theorem pu__law_many : ∀ ds g Q, sp__law_many ds g Q → c__law_many sp__law_kids { nx := fun _ g' => Fin Q .non g', rt := Fin Q } (cstart N__law_many ds) g := by
  intro ds g Q h
  unfold sp__law_many at h
  obtain ⟨f, rfl, w, q⟩ := h
  refine kids_go w (ev_var rfl) fun m K ks ad g' _ _ hR hp hs _ => ?_
  refine .inr ⟨_, hR.dict, trivial, ?_⟩
  have e : ((encK ks ad).length : Int) - 1 = (f.names.length : Int) := by
    unfold encK
    rw [List.length_map, hp.length_eq, List.length_cons]
    omega
  show Fin Q (.int (((encK ks ad).length : Int) - 1)) g'
  rw [e]
  exact ⟨g, hs, q⟩

/-! ### _law_fits -/
@[irreducible] def sp__law_fits : CSp := fun ds g Q => ∃ (f : F) (os nw : List Str), ds = [woodD f, tupS os, tupS nw] ∧ Wd f ∧ os.length ≤ 100 ∧ nw.length ≤ 100 ∧ ∀ b, (b = true → (∀ x ∈ os, x ≠ "" → x ∈ f.names) ∧ ∀ x ∈ nw, x ∉ f.names) → Q (.bl b) g
/-- [name for name in xs if name (not) in called] == [] or != [] -/
theorem lc_inNil {neg neg2 : Bool} {R : CQ} {g : GH} {s : CSt} {i : Nat} {L : Addr} {xs ks : List Str} (hi : s[i]? = some (some (tupS xs))) (h3 : ∀ d : D, ((cwipe s [4]).set 4 (some d))[3]? = some (some (.ref L))) (h4 : ∀ d : D, ((cwipe s [4]).set 4 (some d))[4]? = some (some d)) (hL : g L = some (.lst (ks.map D.str))) (hl : xs.length ≤ 1000)
    (q : ∀ g', (∀ a o, g a = some o → g' a = some o) → R (.bl (if neg = true then !(xs.filter fun x => if neg2 then !decide (x ∈ ks) else decide (x ∈ ks)).isEmpty else (xs.filter fun x => if neg2 then !decide (x ∈ ks) else decide (x ∈ ks)).isEmpty)) g') :
    cOp (fEq neg) (cLc (iT 4 (cVar i)) [4] (cB (cOp (fIn neg2) (cVar 4) (cVar 3))) (cVar 4)) (cLst cNil) s g R := by
  refine ⟨_, hi, xs.map D.str, rfl, fun l hl0 => ?_⟩
  rw [onEach_map]
  have hne : L ≠ l := gne_none hL hl0
  refine lc_run (l := l) (g := g) (fun (x : Str) (s : CSt) => s.set 4 (some (D.str x))) (fun x => if neg2 then !decide (x ∈ ks) else decide (x ∈ ks)) (fun x => D.str x) (fun _ => trivial) xs [] (by simp; omega) (fun x _ ys R w => ?_) (fun x _ _ ys R w => ev_var (d := .str x) (h4 _) R w) ?_
  · refine ⟨_, h4 _, _, h3 _, rfl, _, (gupd_ne hne).trans hL, strs_flat ks, _, rfl, ?_⟩
    rw [strs_mem]
    exact w
  · rw [List.nil_append]
    refine ⟨lim_ok (by simp), fun E hE => ?_⟩
    refine ⟨_, gup_free gupd_same hE, gupd_same, ok_strs _, ?_⟩
    have e : ((xs.filter fun x => if neg2 then !decide (x ∈ ks) else decide (x ∈ ks)).map fun x => D.str x).isEmpty = (xs.filter fun x => if neg2 then !decide (x ∈ ks) else decide (x ∈ ks)).isEmpty := by simp
    rw [e]
    exact q _ fun a o h => gup_free (gup_free h hl0) hE
theorem filter_nil {α : Type} {b : α → Bool} {l : List α} (h : (l.filter b).isEmpty = true) : ∀ x ∈ l, b x = false := fun x hx => by
  have := List.filter_eq_nil_iff.mp (List.isEmpty_iff.mp h) x hx
  simpa using this
theorem pu__law_fits : ∀ ds g Q, sp__law_fits ds g Q → c__law_fits sp__law_is_wood sp__law_kids { nx := fun _ g' => Fin Q .non g', rt := Fin Q } (cstart N__law_fits ds) g := by
  intro ds g Q h
  unfold sp__law_fits at h
  obtain ⟨f, os, nw, rfl, w, ho, hn, q⟩ := h
  have bad : ∀ g', (∀ a o, g a = some o → g' a = some o) → Fin Q (.bl false) g' := fun g' h => ⟨g, h, q false fun e => by cases e⟩
  refine ⟨_, rfl, ?_⟩
  unfold sp__law_is_wood
  refine ⟨f, rfl, w.ok, Nat.le_trans w.few (by decide), fun b => ⟨b, rfl, ?_⟩⟩
  cases b with
  | false => exact te2 (fun _ => bad g fun _ _ h => h) (fun e => by cases e)
  | true =>
    refine te2 (fun e => by cases e) (fun _ => ?_)
    refine kids_go w (ev_var rfl) fun m K ks ad g' _ _ hR hp hs _ => ?_
    refine ⟨K, _, rfl, hR.dict, fun L hL => ?_⟩
    rw [encK_keys]
    have hs2 : ∀ a o, g a = some o → (gupd g' L (.lst (ks.map D.str))) a = some o := fun a o h => gup_free (hs a o h) hL
    have gL : (gupd g' L (.lst (ks.map D.str))) L = some (.lst (ks.map D.str)) := gupd_same
    dsimp only
    generalize gupd g' L (.lst (ks.map D.str)) = g1 at hs2 gL
    have hk : ∀ x, x ∈ ks ↔ x = "" ∨ x ∈ f.names := fun x => by rw [hp.mem_iff, List.mem_cons]
    refine lc_inNil (neg := true) (neg2 := true) (i := 1) (L := L) (xs := os) (ks := ks) rfl (fun d => rfl) (fun d => rfl) gL (by omega) fun g2 h2 => ?_
    have hs3 : ∀ a o, g a = some o → g2 a = some o := fun a o h => h2 a o (hs2 a o h)
    refine ⟨_, rfl, te2 (fun _ => bad g2 hs3) (fun e => ?_)⟩
    have e1 : (os.filter fun x => if true = true then !decide (x ∈ ks) else decide (x ∈ ks)).isEmpty = true := by simpa using e
    have e1 := filter_nil e1
    have hold : ∀ x ∈ os, x ≠ "" → x ∈ f.names := fun x hx hne => by
      have := e1 x hx
      have hxk : x ∈ ks := by simpa using this
      exact ((hk x).mp hxk).resolve_left hne
    refine lc_inNil (neg := false) (neg2 := false) (i := 2) (L := L) (xs := nw) (ks := ks) rfl (fun d => rfl) (fun d => rfl) (h2 _ _ gL) (by omega) fun g3 h3 => ?_
    refine ⟨g, fun a o h => h3 a o (hs3 a o h), q _ fun e => ⟨hold, fun x hx hf => ?_⟩⟩
    have e2 : (nw.filter fun x => if false = true then !decide (x ∈ ks) else decide (x ∈ ks)).isEmpty = true := by simpa using e
    have := filter_nil e2 x hx
    have hxk : x ∉ ks := by simpa using this
    exact hxk ((hk x).mpr (.inr hf))

/-! ### _law_word -/
/-- a move of nodes that are there -/
structure MvOk (ks : List Str) (d : DeedS) : Prop where
  mv : d.w.mv = true
  x : d.x ∈ ks
  x0 : d.x ≠ ""
  y : d.w.two = true → d.y ∈ ks ∧ d.y ≠ ""
def Free (m : Str → List Str) (d : DeedS) : Prop := d.w.into = true → ¬ (d.y = d.x ∨ Below m d.x d.y)
@[irreducible] def sp__law_word : CSp := fun ds g Q => ∃ (K : Addr) (m : Str → List Str) (ks : List Str) (ad : Str → Addr) (d : DeedS), ds = [.ref K, deedD d] ∧ DR g K m ks ad ∧ WFk m ks ∧ ks.length ≤ 1000 ∧ MvOk ks d ∧ Q (.str "inside") g ∧ (Free m d → Q .non g)
theorem into_two {w : W} (h : w.into = true) : w.two = true := by cases w <;> first | rfl | cases h
theorem mv_ne {w : W} (h : w.mv = true) : w ≠ .wrap ∧ w ≠ .put ∧ w ≠ .swap := by cases w <;> first | (exact ⟨by decide, by decide, by decide⟩) | cases h
theorem pu__law_word : ∀ ds g Q, sp__law_word ds g Q → c__law_word sp__law_is_in { nx := fun _ g' => Fin Q .non g', rt := Fin Q } (cstart N__law_word ds) g := by
  intro ds g Q h
  unfold sp__law_word at h
  obtain ⟨K, m, ks, ad, d, rfl, hR, Wf, hl, M, q1, q2⟩ := h
  obtain ⟨w1, w2, w3⟩ := mv_ne M.mv
  have fin1 : ∀ g', (∀ a o, g a = some o → g' a = some o) → Fin Q (.str "inside") g' := fun g' h => ⟨g, h, q1⟩
  have fin2 : ∀ g', (∀ a o, g a = some o → g' a = some o) → Free m d → Fin Q .non g' := fun g' h hf => ⟨g, h, q2 hf⟩
  refine ev_pars (ev_cons (ev_ix (xs := deedL d) (ev_var rfl) ev_c (deed0 d)) (ev_cons (ev_names (ev_var rfl)) ev_nil)) ?_
  refine ev_ifs (ev_w (w := d.w) (v := .wrap) (ev_var rfl)) (fun e => absurd (by simpa using e) w1) (fun _ => ?_)
  refine ev_ifs (ev_w (w := d.w) (v := .put) (ev_var rfl)) (fun e => absurd (by simpa using e) w2) (fun _ => ?_)
  -- nothing is gone
  have hin : ∀ x ∈ d.names, x ∈ ks := fun x hx => by
    unfold Deed.names at hx
    split at hx
    · rename_i h
      simp at hx
      rcases hx with rfl | rfl
      · exact M.x
      · exact (M.y h).1
    · simp at hx
      rw [hx]; exact M.x
  refine ⟨_, rfl, d.names.map D.str, rfl, fun l hl0 => ?_⟩
  rw [onEach_map]
  have hKl : K ≠ l := gne_none hR.dict hl0
  refine lc_run (l := l) (g := g) (fun (x : Str) (s : CSt) => s.set 4 (some (D.str x))) (fun x => !decide (x ∈ ks)) (fun x => D.str x) (fun _ => trivial) d.names [] (by unfold Deed.names; split <;> simp) (fun x hx ys R z => ?_) (fun x _ _ ys R z => ev_var (d := .str x) rfl R z) ?_
  · refine ⟨_, rfl, _, rfl, _, .inl ⟨K, _, .inr x, rfl, .inl ((gupd_ne hKl).trans hR.dict), rfl, rfl⟩, _, rfl, ?_⟩
    have e : (if true = true then !(valD (encK ks ad) (.inr x)).isSome else (valD (encK ks ad) (.inr x)).isSome) = !decide (x ∈ ks) := by
      rw [if_pos rfl, encK_val]
      by_cases h : x ∈ ks <;> simp [h]
    rw [e]
    exact z
  have ef : d.names.filter (fun x => !decide (x ∈ ks)) = [] := List.filter_eq_nil_iff.mpr fun x hx => by simp [hin x hx]
  rw [ef, List.map_nil, List.append_nil]
  refine ⟨lim_ok (by simp), fun E hE => ?_⟩
  refine ⟨[], gup_free gupd_same hE, gupd_same, rfl, _, rfl, ?_⟩
  refine te2 (fun e => by cases e) (fun _ => ?_)
  have hR2 : DR (gupd (gupd g l (.lst [])) E (.lst [])) K m ks ad := (hR.new hl0).new hE
  have hs2 : ∀ a o, g a = some o → (gupd (gupd g l (.lst [])) E (.lst [])) a = some o := fun a o h => gup_free (gup_free h hl0) hE
  dsimp only
  generalize gupd (gupd g l (.lst [])) E (.lst []) = g2 at hR2 hs2
  refine ev_ifs (ev_or (x := false) (y := false) (by
    have h := ev_and (b := cB (cDIn false (cOp fIx (cVar 1) (cC (.int 2))) (cVar 0))) (y := false) (ev_w (w := d.w) (v := .wrap) (s := [some (.ref K), some (deedD d), some (.str (wS d.w)), some (.tup (d.names.map D.str)), none]) (g := g2) (ev_var (i := 2) rfl)) fun e => absurd (by simpa using e) w1
    rw [Bool.and_false] at h
    exact h) fun _ => by
    have h := ev_and (b := cB (cDIn false (cOp fIx (cVar 1) (cC (.int 1))) (cVar 0))) (y := false) (ev_w (w := d.w) (v := .put) (s := [some (.ref K), some (deedD d), some (.str (wS d.w)), some (.tup (d.names.map D.str)), none]) (g := g2) (ev_var (i := 2) rfl)) fun e => absurd (by simpa using e) w2
    rw [Bool.and_false] at h
    exact h) (fun e => by cases e) (fun _ => ?_)
  -- inside?
  have tin := ev_B (ev_inT (neg := false) (x := .str (wS d.w)) (ys := [W.first, .last, .ahead, .behind, .pour].map fun v => D.str (wS v)) (s := [some (.ref K), some (deedD d), some (.str (wS d.w)), some (.tup (d.names.map D.str)), none]) (g := g2) (a := cVar 2) (b := cTup (cCons (cC (.str "first")) (cCons (cC (.str "last")) (cCons (cC (.str "ahead")) (cCons (cC (.str "behind")) (cCons (cC (.str "pour")) cNil)))))) (ev_var rfl) (ev_tup (ev_cons ev_c (ev_cons ev_c (ev_cons ev_c (ev_cons ev_c (ev_cons ev_c ev_nil))))) (lim_ok (by simp))) rfl rfl)
  rw [if_neg Bool.false_ne_true, w_mem5] at tin
  have last : (Free m d) → ∀ g3, (∀ a o, g a = some o → g3 a = some o) → (cSeq (cIfS (cAnd (cB (cOp (fEq false) (cVar 2) (cC (.str "swap")))) (cB (cCall sp__law_is_in (cCons (cVar 0) (cCons (cOp fIx (cVar 1) (cC (.int 1))) (cCons (cOp fIx (cVar 1) (cC (.int 2))) cNil)))))) (cRet (cC (.str "inside"))) cSkip)
    (cRet (cIf (cAnd (cB (cOp (fEq false) (cVar 2) (cC (.str "swap")))) (cB (cCall sp__law_is_in (cCons (cVar 0) (cCons (cOp fIx (cVar 1) (cC (.int 2))) (cCons (cOp fIx (cVar 1) (cC (.int 1))) cNil)))))) (cC (.str "inside")) (cC .non)))) { nx := fun _ g' => Fin Q .non g', rt := Fin Q } [some (.ref K), some (deedD d), some (.str (wS d.w)), some (.tup (d.names.map D.str)), none] g3 := fun hf g3 h3 => by
    have e1 : EvT (cB (cOp (fEq false) (cVar 2) (cC (.str "swap")))) [some (.ref K), some (deedD d), some (.str (wS d.w)), some (.tup (d.names.map D.str)), none] g3 (decide (d.w = .swap)) := ev_w (v := .swap) (ev_var rfl)
    have hd : decide (d.w = .swap) = false := by simpa using w3
    rw [hd] at e1
    refine e1 _ (te2 (fun e => by cases e) (fun _ => te2 (fun e => by cases e) (fun _ => ?_)))
    refine e1 _ (te2 (fun e => by cases e) (fun _ => te2 (fun e => by cases e) (fun _ => ?_)))
    exact fin2 g3 h3 hf
  refine tin _ (te2 (fun e => ?_) (fun e => te2 (fun e => by cases e) (fun _ => last (fun h => by rw [h] at e; cases e) g2 hs2)))
  obtain ⟨hy, hy0⟩ := M.y (into_two e)
  refine ev_isin (x := d.y) (y := d.x) (ev_var rfl) (ev_ix (xs := deedL d) (ev_var rfl) ev_c (deed2 (into_two e))) (ev_ix (xs := deedL d) (ev_var rfl) ev_c (deed1 d)) hR2 Wf hl hy M.x M.x0 fun b hb => ?_
  refine ⟨b, rfl, te2 (fun _ => fin1 g2 hs2) (fun e2 => last (fun _ => hb e2) g2 hs2)⟩
end CL

/-! Q6: placed, ran (printed from Q6.src by pp.py). -/
namespace CL
open PySem PySem.Spec PyProof.Rows L2 TM

theorem ev_kid {s : CSt} {g : GH} {a b : CE} {K : Addr} {m : Str → List Str} {ks : List Str} {ad : Str → Addr} {q : Str} (ha : EvE a s g (.ref K)) (hb : EvE b s g (.str q)) (hR : DR g K m ks ad) (hq : q ∈ ks) : EvE (cDGet a b) s g (.ref (ad q)) := fun R w => ha _ (hb _ ⟨.ref (ad q), .inl ⟨K, _, .inr q, rfl, .inl hR.dict, rfl, by rw [encK_val, if_pos hq]⟩, w⟩)
theorem eqF_str (a x : Str) : eqF (.str a) (.str x) = decide (a = x) := by
  by_cases h : a = x
  · rw [h, decide_eq_true rfl]; exact (eqF_eq rfl rfl).mpr rfl
  · rw [decide_eq_false h]
    cases e : eqF (.str a) (.str x) with
    | false => rfl
    | true => exact absurd (D.str.inj ((eqF_eq rfl rfl).mp e)) h
theorem idxF_cons (y d : D) (ds : List D) : idxF y (d :: ds) = if eqF d y = true then some 0 else (idxF y ds).map (· + 1) := by
  unfold idxF
  rw [List.findIdx?_cons]
theorem idx_erase : ∀ {x : Str} {l : List Str} {j : Nat}, idxF (.str x) (l.map D.str) = some j → l.eraseIdx j = l.erase x
  | x, a :: l, j, h => by
    rw [List.map_cons, idxF_cons, eqF_str] at h
    by_cases e : a = x
    · rw [if_pos (by simpa using e)] at h
      injection h with h
      rw [← h, e]
      simp
    · rw [if_neg (by simpa using e)] at h
      cases h2 : idxF (.str x) (l.map D.str) with
      | none => rw [h2] at h; cases h
      | some i =>
        rw [h2] at h
        injection h with h
        have h : i + 1 = j := h
        rw [← h]
        show a :: l.eraseIdx i = _
        rw [idx_erase h2, List.erase_cons_tail (by simpa using e)]
/-- x goes into the list of q at i -/
def putAt (l : List Str) (i : Nat) (x : Str) : List Str := l.take i ++ [x] ++ l.drop i
theorem putAt_perm (l : List Str) (i : Nat) (x : Str) : (putAt l i x).Perm (x :: l) := by
  unfold putAt
  rw [List.append_assoc]
  have h : (l.take i ++ x :: l.drop i).Perm (x :: (l.take i ++ l.drop i)) := List.perm_middle
  rw [List.take_append_drop] at h
  exact h
theorem putAt_end (l : List Str) (x : Str) : putAt l l.length x = l ++ [x] := by
  unfold putAt
  rw [List.take_length, List.drop_length, List.append_nil]
section
variable {s : CSt} {g : GH} {K : Addr} {m : Str → List Str} {ks : List Str} {ad : Str → Addr} {q x : Str} {o a b c : CE} {C : CEnds} {A : Addr} {l : List Str}
theorem st_ins {i : Nat} (ho : EvE o s g (.ref A)) (hA : g A = some (.lst (l.map D.str))) (ha : EvE a s g (natD i)) (hb : EvE b s g (.str x)) (hl : l.length ≤ 1000) (hi : i ≤ 1000) (k : C.nx s (gupd g A (.lst ((putAt l i x).map D.str)))) : cDrop (cMet fInsert o (cCons a (cCons b cNil))) C s g :=
  ho _ ⟨⟨A, _, rfl, hA⟩, ha _ (hb _ ⟨_, hA, lim_ok (by rw [List.length_map]; omega), by omega, by omega, by
    rw [Int.toNat_natCast, ← List.map_take, ← List.map_drop]
    unfold putAt at k
    rw [List.map_append, List.map_append] at k
    exact k⟩)⟩
theorem st_app {C : CEnds} (ho : EvE o s g (.ref A)) (hA : g A = some (.lst (l.map D.str))) (hb : EvE b s g (.str x)) (hl : l.length ≤ 1000) (k : C.nx s (gupd g A (.lst ((putAt l l.length x).map D.str)))) : cDrop (cMet fAppend o (cCons b cNil)) C s g :=
  st_append ho hA hb (by rw [List.length_map]; omega) (by
    rw [putAt_end, List.map_append] at k
    exact k)
end
/-! ### _law_placed -/
@[irreducible] def sp__law_placed : CSp := fun ds g Q => ∃ (K : Addr) (m : Str → List Str) (ks : List Str) (ad : Str → Addr) (d : DeedS), ds = [.ref K, deedD d] ∧ DR g K m ks ad ∧ WFk m ks ∧ ks.length ≤ 500 ∧ MvOk ks d ∧ Free m d ∧ ∀ m' g', DR g' K m' ks ad → WFk m' ks → (∀ a, ¬ Own' K ks ad a → g' a = g a) → Q .non g'
theorem w_cases {w : W} (h : w.mv = true) : w = .front ∨ w = .back ∨ w = .first ∨ w = .last ∨ w = .ahead ∨ w = .behind := by cases w <;> simp [W.mv] at h ⊢
theorem pu__law_placed : ∀ ds g Q, sp__law_placed ds g Q → c__law_placed sp__law_over { nx := fun _ g' => Fin Q .non g', rt := Fin Q } (cstart N__law_placed ds) g := by
  intro ds g Q h
  unfold sp__law_placed at h
  obtain ⟨K, m, ks, ad, d, rfl, hR, Wf, hl, M, hf, q⟩ := h
  obtain ⟨p, hp, hx⟩ := Wf.par d.x M.x M.x0
  have v1 : ∀ {o2 o3 o4 : Option D} {g : GH}, EvE (cVar 1) [some (.ref K), some (deedD d), o2, o3, o4] g (deedD d) := ev_var rfl
  refine ev_pars (ev_cons (ev_ix (xs := deedL d) (ev_var rfl) ev_c (deed0 d)) (ev_cons (ev_ix (xs := deedL d) (ev_var rfl) ev_c (deed1 d)) ev_nil)) ?_
  -- the node is taken out
  have hov : EvE (cCall sp__law_over (cCons (cVar 0) (cCons (cVar 3) cNil))) [some (.ref K), some (deedD d), some (.str (wS d.w)), some (.str d.x), none] g (.str p) := ev_over (ev_var rfl) (ev_var rfl) hR (by omega) hp hx fun k hk h => Wf.uniq k hk p hp d.x h hx
  obtain ⟨j, hj, hij⟩ := idxS hx
  have er := idx_erase hij
  have len : ∀ k ∈ ks, (m k).length ≤ 500 := fun k hk => Nat.le_trans (nodup_len _ _ (Wf.ndk k hk) fun c hc => (Wf.kid k hk c hc).1) hl
  refine ev_kid (ev_var rfl) hov hR hp _ ⟨⟨ad p, _, rfl, hR.lst p hp⟩, ?_⟩
  refine ⟨_, rfl, _, j, hR.lst p hp, rfl, strs_flat _, hij, ?_⟩
  rw [map_eraseIdx, er]
  have hR1 := hR.set hp (l := (m p).erase d.x)
  have ho1 : ∀ a, ¬ Own' K ks ad a → (gupd g (ad p) (.lst (((m p).erase d.x).map D.str))) a = g a := fun a h => gupd_ne fun e => h (.inr ⟨p, hp, e⟩)
  dsimp only
  generalize gupd g (ad p) (.lst (((m p).erase d.x).map D.str)) = g1 at hR1 ho1
  have m1 : ∀ z ∈ ks, ∀ c, c ∈ upS m p ((m p).erase d.x) z → c ∈ m z ∧ c ≠ d.x := fun z hz c hc => by
    by_cases e : z = p
    · rw [e, upS_same] at hc
      have := ((Wf.ndk p hp).mem_erase_iff).mp hc
      rw [e]
      exact ⟨this.2, this.1⟩
    · rw [upS_ne e] at hc
      exact ⟨hc, fun e2 => e (Wf.uniq z hz p hp d.x (e2 ▸ hc) hx)⟩
  have len1 : ∀ z ∈ ks, (upS m p ((m p).erase d.x) z).length ≤ 500 := fun z hz => by
    by_cases e : z = p
    · rw [e, upS_same]
      exact Nat.le_trans (List.length_erase_le) (len p hp)
    · rw [upS_ne e]; exact len z hz
  -- where it goes
  have fin : ∀ z ∈ ks, ¬ (z = d.x ∨ Below m d.x z) → ∀ i, Fin Q .non (gupd g1 (ad z) (.lst ((putAt (upS m p ((m p).erase d.x) z) i d.x).map D.str))) := fun z hz hno i =>
    fin_of (q _ _ (hR1.set hz) (Wf.move hp hz hx hno (putAt_perm _ _ _)) fun a h => (gupd_ne fun e => h (.inr ⟨z, hz, e⟩)).trans (ho1 a h))
  have root : ¬ (("" : Str) = d.x ∨ Below m d.x "") := fun h => by
    rcases h with h | h
    · exact M.x0 h.symm
    · obtain ⟨p', hp', hc'⟩ := h.par
      have ip' : p' ∈ ks := by
        rcases hp' with rfl | hp'
        · exact M.x
        · exact Wf.belowIn M.x hp'
      exact (Wf.kid p' ip' _ hc').2 rfl
  have V2 : ∀ v : W, EvT (cB (cOp (fEq false) (cVar 2) (cC (.str (wS v))))) [some (.ref K), some (deedD d), some (.str (wS d.w)), some (.str d.x), none] g1 (decide (d.w = v)) := fun v => ev_w (ev_var rfl)
  refine ev_if (V2 .front) (fun _ => ?_) (fun n1 => ?_)
  · exact st_ins (i := 0) (ev_kid (ev_var rfl) ev_c hR1 Wf.root) (hR1.lst _ Wf.root) ev_c (ev_var rfl) (Nat.le_trans (len1 _ Wf.root) (by decide)) (by decide) (fin _ Wf.root root 0)
  refine ev_if (V2 .back) (fun _ => ?_) (fun n2 => ?_)
  · exact st_app (ev_kid (ev_var rfl) ev_c hR1 Wf.root) (hR1.lst _ Wf.root) (ev_var rfl) (Nat.le_trans (len1 _ Wf.root) (by decide)) (fin _ Wf.root root _)
  have hinto : d.w.into = true := by
    have n1 : d.w ≠ .front := by simpa using n1
    have n2 : d.w ≠ .back := by simpa using n2
    rcases w_cases M.mv with e | e | e | e | e | e
    · exact absurd e n1
    · exact absurd e n2
    all_goals rw [e]; rfl
  obtain ⟨hy, hy0⟩ := M.y (into_two hinto)
  have hno := hf hinto
  have e2 : ∀ {o4 : Option D} {g : GH}, EvE (cOp fIx (cVar 1) (cC (.int 2))) [some (.ref K), some (deedD d), some (.str (wS d.w)), some (.str d.x), o4] g (.str d.y) := ev_ix (xs := deedL d) (ev_var rfl) ev_c (deed2 (into_two hinto))
  refine ev_if (V2 .first) (fun _ => ?_) (fun n3 => ?_)
  · exact st_ins (i := 0) (ev_kid (ev_var rfl) e2 hR1 hy) (hR1.lst _ hy) ev_c (ev_var rfl) (Nat.le_trans (len1 _ hy) (by decide)) (by decide) (fin _ hy hno 0)
  refine ev_if (V2 .last) (fun _ => ?_) (fun n4 => ?_)
  · exact st_app (ev_kid (ev_var rfl) e2 hR1 hy) (hR1.lst _ hy) (ev_var rfl) (Nat.le_trans (len1 _ hy) (by decide)) (fin _ hy hno _)
  -- beside y
  obtain ⟨r, hr, hyr⟩ := Wf.par d.y hy hy0
  have hyx : d.y ≠ d.x := fun e => hno (.inl e)
  have hyr1 : d.y ∈ upS m p ((m p).erase d.x) r := by
    by_cases e : r = p
    · rw [e, upS_same]
      rw [e] at hyr
      exact ((Wf.ndk p hp).mem_erase_iff).mpr ⟨hyx, hyr⟩
    · rw [upS_ne e]; exact hyr
  have hnor : ¬ (r = d.x ∨ Below m d.x r) := fun h => by
    rcases h with h | h
    · exact hno (.inr (.kid (h ▸ hyr)))
    · exact hno (.inr (.step h hyr))
  have hov2 : EvE (cCall sp__law_over (cCons (cVar 0) (cCons (cOp fIx (cVar 1) (cC (.int 2))) cNil))) [some (.ref K), some (deedD d), some (.str (wS d.w)), some (.str d.x), none] g1 (.str r) := ev_over (ev_var rfl) e2 hR1 (by omega) hr hyr1 fun k hk h => Wf.uniq k hk r hr d.y (m1 k hk _ h).1 hyr
  refine ev_sets (ev_kid (ev_var rfl) hov2 hR1 hr) ?_
  obtain ⟨i, hi, hii⟩ := idxS hyr1
  have hlr := len1 r hr
  have pos : ∃ k, k ≤ 1000 ∧ EvE (cOp fAdd (cMet fIndexL (cVar 4) (cCons (cOp fIx (cVar 1) (cC (.int 2))) cNil)) (cCall fInt (cCons (cOp (fEq false) (cVar 2) (cC (.str "behind"))) cNil))) [some (.ref K), some (deedD d), some (.str (wS d.w)), some (.str d.x), some (.ref (ad r))] g1 (natD k) := by
    have a1 : EvE (cMet fIndexL (cVar 4) (cCons (cOp fIx (cVar 1) (cC (.int 2))) cNil)) [some (.ref K), some (deedD d), some (.str (wS d.w)), some (.str d.x), some (.ref (ad r))] g1 (natD i) := fun R w => ⟨_, rfl, ⟨ad r, _, rfl, hR1.lst r hr⟩, e2 _ ⟨_, i, hR1.lst r hr, rfl, strs_flat _, hii, w⟩⟩
    have a2 : EvE (cCall fInt (cCons (cOp (fEq false) (cVar 2) (cC (.str "behind"))) cNil)) [some (.ref K), some (deedD d), some (.str (wS d.w)), some (.str d.x), some (.ref (ad r))] g1 (.int (if decide (wS d.w = "behind") = true then 1 else 0)) := ev_call (ev_cons (ev_eqS (x := wS d.w) (y := "behind") (ev_var rfl) ev_c) ev_nil) fun R w => w
    refine ⟨if decide (wS d.w = "behind") = true then i + 1 else i, by split <;> omega, ?_⟩
    have a3 := ev_plus (i := (i : Int)) a1 a2
    have e : ((i : Int) + (if decide (wS d.w = "behind") = true then 1 else 0)) = (((if decide (wS d.w = "behind") = true then i + 1 else i : Nat) : Nat) : Int) := by split <;> simp
    rw [e] at a3
    exact a3
  obtain ⟨k, hk, hkE⟩ := pos
  exact st_ins (i := k) (ev_var rfl) (hR1.lst _ hr) hkE (ev_var rfl) (by omega) hk (fin _ hr hnor k)

/-! ### _law_ran -/
def cspF : CSp := fun _ _ _ => False
@[irreducible] def sp__law_ran : CSp := fun ds g Q => ∃ (f : F) (d : DeedS), ds = [woodD f, .tup [deedD d]] ∧ Wd f ∧ d.w.mv = true ∧ d.x ∈ f.names ∧ (d.w.two = true → d.y ∈ f.names) ∧ Q (.tup [.str "stops", natD 0, .str "inside"]) g ∧ ∀ f', Wd f' → (∀ z, z ∈ f'.names ↔ z ∈ f.names) → Q (.tup [.str "does", woodD f']) g
theorem nodup_len_eq {a b : List Str} (ha : a.Nodup) (hb : b.Nodup) (h : ∀ z, z ∈ a ↔ z ∈ b) : a.length = b.length :=
  Nat.le_antisymm (nodup_len _ _ ha fun x hx => (h x).mp hx) (nodup_len _ _ hb fun x hx => (h x).mpr hx)
theorem ev_woodof {n : Nat} {g : GH} {s : CSt} {a b : CE} {K : Addr} {m : Str → List Str} {ks : List Str} {ad : Str → Addr} {f : F} (ha : EvE a s g (.ref K)) (hb : EvE b s g (.str "")) (hR : DR g K m ks ad) (Wf : WFk m ks) (ht : m "" = f.tops) (hm : KRs m f) (hs : ∀ x ∈ f.names, x ∈ ks) (hl : f.names.length < n) (hl2 : f.names.length ≤ 1000) : EvE (cCall (sp__law_wood_of n) (cCons a (cCons b cNil))) s g (woodD f) := ev_call (ev_cons ha (ev_cons hb ev_nil)) fun R w =>
  wo_intro hR Wf.root ht hm hs (Nat.lt_of_le_of_lt (dep_le f) hl) hl2 w
theorem pu__law_ran : ∀ ds g Q, sp__law_ran ds g Q → c__law_ran sp__law_kids sp__law_word sp__law_placed cspF (sp__law_wood_of 30) { nx := fun _ g' => Fin Q .non g', rt := Fin Q } (cstart N__law_ran ds) g := by
  intro ds g Q h
  unfold sp__law_ran at h
  obtain ⟨f, d, rfl, w, hmv, hx, hy, q1, q2⟩ := h
  refine kids_go w (ev_var rfl) fun m K ks ad g1 hm0 hmk hR hp hs own => ?_
  have hk : ∀ x, x ∈ ks ↔ x = "" ∨ x ∈ f.names := fun x => by rw [hp.mem_iff, List.mem_cons]
  have Wf : WFk m ks := wfk_of w.nd w.ne hm0 hmk (hp.nodup_iff.mpr (List.nodup_cons.mpr ⟨w.ne, w.nd⟩)) hk
  have hkl : ks.length ≤ 21 := by
    have := hp.length_eq
    rw [List.length_cons] at this
    have := w.few
    omega
  have M : MvOk ks d := ⟨hmv, (hk _).mpr (.inr hx), ok_ne (w.ok _ hx), fun h => ⟨(hk _).mpr (.inr (hy h)), ok_ne (w.ok _ (hy h))⟩⟩
  refine ⟨_, rfl, [deedD d], rfl, ?_⟩
  refine ⟨trivial, ?_⟩
  refine ⟨_, rfl, _, rfl, ?_⟩
  unfold sp__law_word
  refine ⟨K, m, ks, ad, d, rfl, hR, Wf, by omega, M, ?_, fun hf => ?_⟩
  · -- it stops
    refine ev_ifs (ev_isnt (x := .str "inside") (ev_var rfl)) (fun _ => ?_) (fun e => by cases e)
    refine ev_ret (ev_tup (ev_cons ev_c (ev_cons (ev_var (d := natD 0) rfl) (ev_cons (ev_var rfl) ev_nil))) (lim_ok (by simp))) ⟨g, hs, q1⟩
  · refine ev_ifs (ev_isnt (x := .non) (ev_var rfl)) (fun e => by cases e) (fun _ => ?_)
    have tin := ev_B (ev_inT (neg := false) (x := .str (wS d.w)) (ys := [W.first, .last, .ahead, .behind, .front, .back].map fun v => D.str (wS v)) (s := [some (woodD f), some (.tup [deedD d]), some (.ref K), some (natD 0), some (deedD d), some .non]) (g := g1) (a := cOp fIx (cVar 4) (cC (.int 0))) (b := cTup (cCons (cC (.str "first")) (cCons (cC (.str "last")) (cCons (cC (.str "ahead")) (cCons (cC (.str "behind")) (cCons (cC (.str "front")) (cCons (cC (.str "back")) cNil))))))) (ev_ix (xs := deedL d) (ev_var rfl) ev_c (deed0 d)) (ev_tup (ev_cons ev_c (ev_cons ev_c (ev_cons ev_c (ev_cons ev_c (ev_cons ev_c (ev_cons ev_c ev_nil)))))) (lim_ok (by simp))) rfl rfl)
    rw [if_neg Bool.false_ne_true, w_mem6, hmv] at tin
    refine tin _ (te2 (fun _ => ?_) (fun e => by cases e))
    refine ⟨_, rfl, _, rfl, ?_⟩
    unfold sp__law_placed
    refine ⟨K, m, ks, ad, d, rfl, hR, Wf, by omega, M, hf, fun m' g2 hR' Wf' ho => ?_⟩
    refine ⟨trivial, ?_⟩
    obtain ⟨f', ht', hm', nd', hn'⟩ := Wf'.wood
    have hn2 : ∀ z, z ∈ f'.names ↔ z ∈ f.names := fun z => by
      rw [hn', hk]
      constructor
      · rintro ⟨h | h, h2⟩
        · exact absurd h h2
        · exact h
      · exact fun h => ⟨.inr h, ok_ne (w.ok z h)⟩
    have hlen := nodup_len_eq nd' w.nd hn2
    have w' : Wd f' := ⟨nd', fun x hx => w.ok x ((hn2 x).mp hx), by rw [hlen]; exact w.few⟩
    have few := w'.few
    refine ev_ret (ev_tup (ev_cons ev_c (ev_cons (ev_woodof (f := f') (ev_var rfl) ev_c hR' Wf' ht' hm' (fun x hx => ((hn' x).mp hx).1) (by omega) (by omega)) ev_nil)) (lim_ok (by simp))) ⟨g, fun a o h => ?_, q2 f' w' hn2⟩
    have : ¬ Own' K ks ad a := fun o => by rw [own a o] at h; cases h
    rw [ho a this]
    exact hs a o h
end CL

/-! Q7: the law's roles (printed from Q7.src by pp.py). -/
namespace CL
open PySem PySem.Spec PyProof.Rows L2 TM

def pick1 (b : Bool) (L : List (Str × Bool)) : List Str := (L.filter fun p => p.2 == b).map (·.1)
theorem pick1_add (b : Bool) (L : List (Str × Bool)) (p : Str × Bool) : pick1 b (L ++ [p]) = pick1 b L ++ (if p.2 = b then [p.1] else []) := by
  unfold pick1
  rw [List.filter_append, List.map_append]
  congr 1
  by_cases h : p.2 = b <;> simp [List.filter_cons, h]
theorem pick1_mem {b : Bool} {L : List (Str × Bool)} {x : Str} : x ∈ pick1 b L ↔ (x, b) ∈ L := by
  unfold pick1
  simp
theorem pick_both {L : List (Str × Bool)} {x : Str} : x ∈ pick1 false L ++ pick1 true L ↔ x ∈ L.map (·.1) := by
  rw [List.mem_append, pick1_mem, pick1_mem, List.mem_map]
  constructor
  · rintro (h | h)
    · exact ⟨_, h, rfl⟩
    · exact ⟨_, h, rfl⟩
  · rintro ⟨⟨y, b⟩, h, rfl⟩
    cases b
    · exact .inl h
    · exact .inr h
theorem pick1_len (b : Bool) (L : List (Str × Bool)) : (pick1 b L).length ≤ L.length := by
  unfold pick1
  rw [List.length_map]
  exact List.length_filter_le _ _
abbrev lrIn : CT := cB (cOp (fIn true) (cOp fIx (cVar 3) (cVar 5)) (cOp fAdd (cVar 1) (cVar 2)))
abbrev lrBody : CS := cIfS (cAnd lrIn (cB (cOp (fEq false) (cVar 5) (cVar 4)))) (cDrop (cMet fAppend (cVar 2) (cCons (cOp fIx (cVar 3) (cVar 5)) cNil))) (cIfS lrIn (cDrop (cMet fAppend (cVar 1) (cCons (cOp fIx (cVar 3) (cVar 5)) cNil))) cSkip)
section
variable {O Nw : Addr} {g0 : GH} {d0 : D} {d : DeedS} {at' : Nat} {L : List (Str × Bool)} {x : Str} {k : Nat}
theorem lr_in {g : GH} {R : Bool → GH → Prop} (gO : g O = some (.lst ((pick1 false L).map D.str))) (gN : g Nw = some (.lst ((pick1 true L).map D.str))) (hk : atI (deedL d) (k : Int) = some (.str x)) (hl : L.length ≤ 1000)
    (q : ∀ p, g p = none → R (!decide (x ∈ L.map (·.1))) (gupd g p (.lst ((pick1 false L ++ pick1 true L).map D.str)))) :
    lrIn [some d0, some (.ref O), some (.ref Nw), some (deedD d), some (natD at'), some (natD k)] g R := by
  refine ⟨_, rfl, _, rfl, _, hk, _, rfl, _, rfl, _, _, gO, gN, ?_, fun p hp => ?_⟩
  · have := pick1_len false L
    have := pick1_len true L
    exact lim_ok (by rw [List.length_map, List.length_map]; omega)
  · rw [← List.map_append]
    refine ⟨rfl, _, gupd_same, strs_flat _, _, rfl, ?_⟩
    rw [if_pos rfl, strs_mem]
    have e : decide (x ∈ pick1 false L ++ pick1 true L) = decide (x ∈ L.map (·.1)) := decide_eq_decide.mpr pick_both
    rw [e]
    exact q p hp
theorem lr_step {C : CEnds} {g : GH} (hON : O ≠ Nw) (nO : g0 O = none) (nN : g0 Nw = none) (gO : g O = some (.lst ((pick1 false L).map D.str))) (gN : g Nw = some (.lst ((pick1 true L).map D.str))) (gs : ∀ a o, g0 a = some o → g a = some o) (hk : atI (deedL d) (k : Int) = some (.str x)) (hl : L.length ≤ 1000)
    (q : ∀ g', g' O = some (.lst ((pick1 false (setd L (x, decide (k = at')))).map D.str)) → g' Nw = some (.lst ((pick1 true (setd L (x, decide (k = at')))).map D.str)) → (∀ a o, g0 a = some o → g' a = some o) → C.nx [some d0, some (.ref O), some (.ref Nw), some (deedD d), some (natD at'), some (natD k)] g') :
    lrBody C [some d0, some (.ref O), some (.ref Nw), some (deedD d), some (natD at'), some (natD k)] g := by
  have l1 := pick1_len false L
  have l2 := pick1_len true L
  have eK : ∀ g : GH, EvE (cOp fIx (cVar 3) (cVar 5)) [some d0, some (.ref O), some (.ref Nw), some (deedD d), some (natD at'), some (natD k)] g (.str x) := fun g => ev_ix (xs := deedL d) (ev_var rfl) (ev_var rfl) hk
  refine lr_in gO gN hk hl fun p hp => ?_
  have gO1 := gup_free (o := .lst ((pick1 false L ++ pick1 true L).map D.str)) gO hp
  have gN1 := gup_free (o := .lst ((pick1 false L ++ pick1 true L).map D.str)) gN hp
  have gs1 : ∀ a o, g0 a = some o → (gupd g p (.lst ((pick1 false L ++ pick1 true L).map D.str))) a = some o := fun a o h => gup_free (gs a o h) hp
  generalize gupd g p (.lst ((pick1 false L ++ pick1 true L).map D.str)) = g1 at gO1 gN1 gs1
  have e5 : ∀ g : GH, EvT (cB (cOp (fEq false) (cVar 5) (cVar 4))) [some d0, some (.ref O), some (.ref Nw), some (deedD d), some (natD at'), some (natD k)] g (decide (k = at')) := fun g => ev_B (ev_eqN (ev_var rfl) (ev_var rfl))
  by_cases hm : x ∈ L.map (·.1)
  · have es : setd L (x, decide (k = at')) = L := by unfold setd; rw [if_pos hm]
    rw [es] at q
    have hd : (!decide (x ∈ L.map (·.1))) = false := by rw [decide_eq_true hm]; rfl
    rw [hd]
    refine te2 (fun e => by cases e) (fun _ => te2 (fun e => by cases e) (fun _ => ?_))
    refine lr_in gO1 gN1 hk hl fun p hp => ?_
    rw [hd]
    refine te2 (fun e => by cases e) (fun _ => ?_)
    exact q _ (gup_free gO1 hp) (gup_free gN1 hp) fun a o h => gup_free (gs1 a o h) hp
  · have es : setd L (x, decide (k = at')) = L ++ [(x, decide (k = at'))] := by unfold setd; rw [if_neg hm]
    rw [es, pick1_add, pick1_add] at q
    have hd : (!decide (x ∈ L.map (·.1))) = true := by rw [decide_eq_false hm]; rfl
    rw [hd]
    refine te2 (fun _ => ?_) (fun e => by cases e)
    refine e5 g1 _ (te2 (fun e => ?_) (fun e => ?_))
    · rw [e] at q
      refine st_append (ev_var rfl) gN1 (eK g1) (by rw [List.length_map]; omega) ?_
      refine q _ ?_ ?_ fun a o h => (gupd_ne (gne_none h nN)).trans (gs1 a o h)
      · rw [gupd_ne hON, gO1]; simp
      · rw [gupd_same]; simp
    · rw [e] at q
      refine lr_in gO1 gN1 hk hl fun p hp => ?_
      rw [hd]
      refine te2 (fun _ => ?_) (fun e => by cases e)
      refine st_append (ev_var rfl) (gup_free gO1 hp) (eK _) (by rw [List.length_map]; omega) ?_
      refine q _ ?_ ?_ fun a o h => (gupd_ne (gne_none h nO)).trans (gup_free (gs1 a o h) hp)
      · rw [gupd_same]; simp
      · rw [gupd_ne hON.symm, gup_free gN1 hp]; simp
def atNew (w : W) : Nat := if w = .put then 1 else if w = .wrap then 2 else 0
theorem at_val (w : W) : ((valD (mergeD [] [((.inr "wrap" : Key), D.int 2), ((.inr "put" : Key), D.int 1)]) (.inr (wS w) : Key)).getD (.int 0)) = natD (atNew w) := by
  show ((valD (putD (putD [] (.inr (wS .wrap) : Key) (D.int 2)) (.inr (wS .put) : Key) (D.int 1)) (.inr (wS w) : Key)).getD (.int 0)) = _
  rw [valD_put, valD_put]
  unfold atNew
  have h : ∀ v : W, ((Sum.inr (wS w) : Key) = .inr (wS v)) ↔ w = v := fun v => ⟨fun e => (w_eq w v).mp (by injection e), fun e => by rw [e]⟩
  by_cases h1 : w = .put
  · rw [if_pos ((h _).mpr h1), if_pos h1]; rfl
  · rw [if_neg (fun e => h1 ((h _).mp e)), if_neg h1]
    by_cases h2 : w = .wrap
    · rw [if_pos ((h _).mpr h2), if_pos h2]; rfl
    · rw [if_neg (fun e => h2 ((h _).mp e)), if_neg h2]; rfl
abbrev lrDeed : CS := cSeq (cSet 4 (cDGet2 (cDisp [((cC (.str "wrap")), (cC (.int 2))), ((cC (.str "put")), (cC (.int 1)))]) (cOp fIx (cVar 3) (cC (.int 0))) (cC (.int 0))))
    (cFor (iR2 5 (cCons (cC (.int 1)) (cCons (cCall fLen (cCons (cVar 3) cNil)) cNil))) lrBody)
theorem lr_deed {C : CEnds} {g : GH} {o4 o5 : Option D} (hON : O ≠ Nw) (nO : g0 O = none) (nN : g0 Nw = none) (gO : g O = some (.lst ((pick1 false L).map D.str))) (gN : g Nw = some (.lst ((pick1 true L).map D.str))) (gs : ∀ a o, g0 a = some o → g a = some o) (hl : L.length ≤ 500)
    (q : ∀ g' o4 o5, g' O = some (.lst ((pick1 false ((occ d).foldl setd L)).map D.str)) → g' Nw = some (.lst ((pick1 true ((occ d).foldl setd L)).map D.str)) → (∀ a o, g0 a = some o → g' a = some o) → C.nx [some d0, some (.ref O), some (.ref Nw), some (deedD d), o4, o5] g') :
    lrDeed C [some d0, some (.ref O), some (.ref Nw), some (deedD d), o4, o5] g := by
  refine fun p hp => ?_
  refine ⟨gupd_same, [(.inr "wrap", .int 2), (.inr "put", .int 1)], rfl, by simp, ?_⟩
  have hg : gupd (gupd g p (.dic [])) p (.dic (mergeD [] [((.inr "wrap" : Key), D.int 2), ((.inr "put" : Key), D.int 1)])) = gupd g p (.dic (mergeD [] [((.inr "wrap" : Key), D.int 2), ((.inr "put" : Key), D.int 1)])) := gupd_gupd
  rw [hg]
  refine ⟨⟨p, _, rfl, .inl gupd_same⟩, ?_⟩
  refine ev_ix (xs := deedL d) (d := .str (wS d.w)) (ev_var rfl) ev_c (deed0 d) _ ?_
  refine ⟨_, .inl ⟨p, _, .inr (wS d.w), rfl, .inl gupd_same, rfl, rfl⟩, ?_⟩
  rw [at_val]
  have gO1 := gup_free (o := .dic (mergeD [] [((.inr "wrap" : Key), D.int 2), ((.inr "put" : Key), D.int 1)])) gO hp
  have gN1 := gup_free (o := .dic (mergeD [] [((.inr "wrap" : Key), D.int 2), ((.inr "put" : Key), D.int 1)])) gN hp
  have gs1 : ∀ a o, g0 a = some o → (gupd g p (.dic (mergeD [] [((.inr "wrap" : Key), D.int 2), ((.inr "put" : Key), D.int 1)]))) a = some o := fun a o h => gup_free (gs a o h) hp
  generalize gupd g p (.dic (mergeD [] [((.inr "wrap" : Key), D.int 2), ((.inr "put" : Key), D.int 1)])) = g1 at gO1 gN1 gs1
  have hlen : (deedL d).length = d.names.length + 1 := by unfold deedL; rw [List.length_cons, List.length_map]
  refine ⟨_, rfl, 1, ((deedL d).length : Int), rfl, by decide, by decide, by omega, ?_, ?_⟩
  · rw [hlen]; unfold Deed.names; split <;> simp
  have b1 : decide (1 = atNew d.w) = decide (d.w = .put) := decide_eq_decide.mpr (by
    unfold atNew
    by_cases h1 : d.w = .put
    · simp [h1]
    · rw [if_neg h1]
      by_cases h2 : d.w = .wrap <;> simp [h1, h2])
  have b2 : decide (2 = atNew d.w) = decide (d.w = .wrap) := decide_eq_decide.mpr (by
    unfold atNew
    by_cases h1 : d.w = .put
    · simp [h1]
    · rw [if_neg h1]
      by_cases h2 : d.w = .wrap <;> simp [h1, h2])
  have go1 : ∀ {C : CEnds} {o5 : Option D}, (∀ g', g' O = some (.lst ((pick1 false (setd L (d.x, decide (d.w = .put)))).map D.str)) → g' Nw = some (.lst ((pick1 true (setd L (d.x, decide (d.w = .put)))).map D.str)) → (∀ a o, g0 a = some o → g' a = some o) → C.nx [some d0, some (.ref O), some (.ref Nw), some (deedD d), some (natD (atNew d.w)), some (natD 1)] g') → lrBody C [some d0, some (.ref O), some (.ref Nw), some (deedD d), some (natD (atNew d.w)), some (natD 1)] g1 := fun {C} {o5} kk => by
    refine lr_step (k := 1) (x := d.x) hON nO nN gO1 gN1 gs1 (deed1 d) (by omega) fun g' => ?_
    rw [b1]
    exact kk g'
  unfold occ at q
  by_cases ht : d.w.two = true
  · have hn : ((deedL d).length : Int) - 1 = 2 := by rw [hlen]; unfold Deed.names; rw [if_pos ht]; rfl
    rw [hn]
    rw [if_pos ht] at q
    refine ⟨trivial, go1 (o5 := none) fun g2 h1 h2 h3 => ?_⟩
    refine ⟨trivial, ?_⟩
    refine lr_step (k := 2) (x := d.y) hON nO nN h1 h2 h3 (deed2 ht) (by have := setd_len L (d.x, decide (d.w = .put)); omega) fun g' => ?_
    rw [b2]
    exact fun h4 h5 h6 => ⟨trivial, q g' _ _ h4 h5 h6⟩
  · have hn : ((deedL d).length : Int) - 1 = 1 := by rw [hlen]; unfold Deed.names; rw [if_neg ht]; rfl
    rw [hn]
    rw [if_neg ht] at q
    refine ⟨trivial, go1 (o5 := none) fun g2 h1 h2 h3 => ⟨trivial, q g2 _ _ h1 h2 h3⟩⟩
end
theorem lr_loop {O Nw : Addr} {g0 : GH} {d0 : D} {C : CEnds} (hON : O ≠ Nw) (nO : g0 O = none) (nN : g0 Nw = none) : ∀ (es : List DeedS) (L : List (Str × Bool)) (g : GH) (o3 o4 o5 : Option D), g O = some (.lst ((pick1 false L).map D.str)) → g Nw = some (.lst ((pick1 true L).map D.str)) → (∀ a o, g0 a = some o → g a = some o) → L.length + 2 * es.length ≤ 500 →
    (∀ g' o3 o4 o5, g' O = some (.lst ((pick1 false ((occs es).foldl setd L)).map D.str)) → g' Nw = some (.lst ((pick1 true ((occs es).foldl setd L)).map D.str)) → (∀ a o, g0 a = some o → g' a = some o) → C.nx [some d0, some (.ref O), some (.ref Nw), o3, o4, o5] g') →
    cLoop lrDeed C (fun _ => True) (es.map fun d s => s.set 3 (some (deedD d))) [some d0, some (.ref O), some (.ref Nw), o3, o4, o5] g
  | [], L, g, o3, o4, o5, gO, gN, gs, hl, q => ⟨trivial, q g _ _ _ gO gN gs⟩
  | d :: es, L, g, o3, o4, o5, gO, gN, gs, hl, q => by
    simp at hl
    refine ⟨trivial, lr_deed hON nO nN gO gN gs (by omega) fun g' o4 o5 h1 h2 h3 => ?_⟩
    refine lr_loop hON nO nN es _ g' _ _ _ h1 h2 h3 ?_ fun g'' o3 o4 o5 => ?_
    · have := fold_len (occ d) L
      have := occ_few d
      omega
    · have e : occs (d :: es) = occ d ++ occs es := rfl
      have := q g'' o3 o4 o5
      rw [e, List.foldl_append] at this
      exact this
@[irreducible] def sp__law_roles : CSp := fun ds g Q => ∃ es : List DeedS, ds = [.tup (es.map deedD)] ∧ es.length ≤ 20 ∧ ∀ os nw : List Str, OldN os es → (nw.Nodup ∧ ∀ x, x ∈ nw ↔ New es x) → Q (.tup [tupS os, tupS nw]) g
theorem pu__law_roles : ∀ ds g Q, sp__law_roles ds g Q → c__law_roles  { nx := fun _ g' => Fin Q .non g', rt := Fin Q } (cstart N__law_roles ds) g := by
  intro ds g Q h
  unfold sp__law_roles at h
  obtain ⟨es, rfl, hl, q⟩ := h
  refine ⟨lim_ok (by simp), fun O hO => ?_⟩
  refine ⟨lim_ok (by simp), fun Nw hN => ?_⟩
  refine ⟨_, _, rfl, ?_⟩
  have hON : O ≠ Nw := gne_none gupd_same hN
  have nN : g Nw = none := by rw [gupd_ne hON.symm] at hN; exact hN
  have gO : (gupd (gupd g O (.lst [])) Nw (.lst [])) O = some (.lst ((pick1 false []).map D.str)) := (gupd_ne hON).trans gupd_same
  have gN : (gupd (gupd g O (.lst [])) Nw (.lst [])) Nw = some (.lst ((pick1 true []).map D.str)) := gupd_same
  have gs : ∀ a o, g a = some o → (gupd (gupd g O (.lst [])) Nw (.lst [])) a = some o := fun a o h => gup_free (gup_free h hO) hN
  dsimp only
  generalize gupd (gupd g O (.lst [])) Nw (.lst []) = g1 at gO gN gs
  refine ⟨_, rfl, _, rfl, ?_⟩
  rw [onEach_map]
  refine lr_loop (g0 := g) hON hO nN es [] g1 none none none gO gN gs (by simp; omega) fun g2 o3 o4 o5 h1 h2 h3 => ?_
  have LN := roles_nodup (occs es)
  have LR : ∀ x, role ((occs es).foldl setd []) x = role (occs es) x := fun x => by rw [role_fold]; simp
  have Ll : ((occs es).foldl setd []).length ≤ 40 := by
    have h1 := fold_len (occs es) []
    have h2 := occs_len es
    simp at h1
    omega
  generalize (occs es).foldl setd [] = L at LN LR Ll h1 h2
  have l1 := pick1_len false L
  have l2 := pick1_len true L
  refine ⟨_, rfl, pick1 false L, .inr ⟨O, rfl, h1⟩, by omega, fun os p1 s1 d1 m1 hp1 => ?_⟩
  refine ⟨_, gupd_same, ?_⟩
  refine ⟨_, rfl, pick1 true L, .inr ⟨Nw, rfl, gup_free h2 hp1⟩, by omega, fun nw p2 s2 d2 m2 hp2 => ?_⟩
  refine ⟨_, gupd_same, lim_ok (by simp), ?_⟩
  refine ⟨g, fun a o h => gup_free (gup_free (h3 a o h) hp1) hp2, q os nw ⟨⟨d1, fun x => ?_⟩, s1⟩ ⟨d2, fun x => ?_⟩⟩
  · rw [m1, pick1_mem]
    unfold Old
    rw [← LR x, role_mem LN]
  · rw [m2, pick1_mem]
    unfold New
    rw [← LR x, role_mem LN]
end CL

/-! Q8: the law's woods (printed from Q8.src by pp.py). -/
namespace CL
open PySem PySem.Spec PyProof.Rows L2 TM

structure LW (A K : Addr) (g : GH) (m : Str → List Str) (ks : List Str) (ad : Str → Addr) (k : Dk) (g' : GH) : Prop where
  dr : DR g' K m ks ad
  gA : g' A = some k.m
  kp : Kp A g g'
  own : ∀ a, Own' K ks ad a → g a = none
  nA : ¬ Own' K ks ad A
section
variable {A K p : Addr} {g g' : GH} {m : Str → List Str} {ks : List Str} {ad : Str → Addr} {k : Dk}
theorem LW.new (h : LW A K g m ks ad k g') {o : MO} (hp : g' p = none) : LW A K g m ks ad k (gupd g' p o) := ⟨h.dr.new hp, gup_free h.gA hp, h.kp.new hp, h.own, h.nA⟩
theorem LW.deck (h : LW A K g m ks ad k g') (k' : Dk) : LW A K g m ks ad k' (gupd g' A k'.m) := ⟨h.dr.keep fun a o => gupd_ne fun e => h.nA (e ▸ o), gupd_same, h.kp.deck, h.own, h.nA⟩
theorem LW.far (h : LW A K g m ks ad k g') (hp : g' p = none) : ¬ Own' K ks ad p := fun o => by
  obtain ⟨x, hx⟩ := h.dr.some o
  rw [hp] at hx; cases hx
theorem LW.nA' (h : LW A K g m ks ad k g') (hp : g' p = none) : p ≠ A := fun e => by rw [e, h.gA] at hp; cases hp
theorem LW.free (h : LW A K g m ks ad k g') (hp : g' p = none) : g p = none := h.kp.none (h.nA' hp) hp
theorem LW.put (h : LW A K g m ks ad k g') {x : Str} {l : List Str} (hp : g' p = some (.lst (l.map D.str))) (np : g p = none) (fp : ¬ Own' K ks ad p) (pA : p ≠ A) : LW A K g (upS m x l) (if x ∈ ks then ks else ks ++ [x]) (upA ad x p) k (gupd g' K (.dic (encK (if x ∈ ks then ks else ks ++ [x]) (upA ad x p)))) := by
  have hK : K ≠ A := fun e => h.nA (.inl e.symm)
  have sub : ∀ a, Own' K (if x ∈ ks then ks else ks ++ [x]) (upA ad x p) a → a = p ∨ Own' K ks ad a := fun a o => by
    rcases o with rfl | ⟨z, hz, rfl⟩
    · exact .inr (.inl rfl)
    · by_cases e : z = x
      · rw [e, upA_same]; exact .inl rfl
      · refine .inr (.inr ⟨z, ?_, upA_ne e⟩)
        split at hz
        · exact hz
        · rcases List.mem_append.mp hz with q | q
          · exact q
          · exact absurd (List.mem_singleton.mp q) e
  refine ⟨h.dr.put hp fp, (gupd_ne hK.symm).trans h.gA, h.kp.own (.inr (h.own K (.inl rfl))), fun a o => ?_, fun o => ?_⟩
  · rcases sub a o with rfl | o
    · exact np
    · exact h.own a o
  · rcases sub A o with e | o
    · exact pA e.symm
    · exact h.nA o
end
theorem ev_slL {s : CSt} {g : GH} {R : CQ} {e : CE} {lo hi : CO} {A : Addr} {l : List Str} {a b : Option Int} (he : EvE e s g (.ref A)) (hl : EvO lo s g a) (hh : EvO hi s g b) (hA : g A = some (.lst (l.map D.str))) (q : ∀ p, g p = none → R (.ref p) (gupd g p (.lst (cutG (l.map D.str) a b)))) : cSl e lo hi s g R := he _ (hl _ (hh _ ⟨_, hA, q⟩))
theorem cutS_ft (l : List Str) (i j : Nat) : cutG (l.map D.str) (some (i : Int)) (some (j : Int)) = ((l.take j).drop i).map D.str := by
  rw [cut_ft, ← List.map_take, ← List.map_drop]
theorem cutS_t (l : List Str) (j : Nat) : cutG (l.map D.str) none (some (j : Int)) = (l.take j).map D.str := by
  rw [cut_t, ← List.map_take]
theorem cutS_f (l : List Str) (i : Nat) : cutG (l.map D.str) (some (i : Int)) none = (l.drop i).map D.str := by
  rw [cut_f, ← List.map_drop]
theorem ev_addN {s : CSt} {g : GH} {a b : CE} {i j : Nat} (ha : EvE a s g (natD i)) (hb : EvE b s g (natD j)) : EvE (cOp fAdd a b) s g (natD (i + j)) := ev_plus (i := (i : Int)) (j := (j : Int)) ha hb
abbrev lwBody : CS := (cSeq (cSet 4 (cOp fIx (cLstKeys (cVar 2)) (cCall sp__law_draw (cCons (cVar 0) (cCons (cCall fLen (cCons (cVar 2) cNil)) cNil)))))
    (cSeq (cSet 5 (cCall sp__law_draw (cCons (cVar 0) (cCons (cOp fAdd (cCall fLen (cCons (cDGet (cVar 2) (cVar 4)) cNil)) (cC (.int 1))) cNil))))
    (cSeq (cSet 6 (cDGet (cVar 2) (cVar 4)))
    (cSeq (cSet 7 (cOp fMul (cOp fDivW (cCall sp__law_draw (cCons (cVar 0) (cCons (cC (.int 4)) cNil))) (cC (.int 3))) (cCall sp__law_draw (cCons (cVar 0) (cCons (cOp fAdd (cOp fSub (cCall fLen (cCons (cVar 6) cNil)) (cVar 5)) (cC (.int 1))) cNil)))))
    (cSeq (cDPut (cVar 2) (cVar 3) (cSl (cVar 6) (oSome (cVar 5)) (oSome (cOp fAdd (cVar 5) (cVar 7)))))
    (cDPut (cVar 2) (cVar 4) (cOp fAdd (cOp fAdd (cSl (cVar 6) oNone (oSome (cVar 5))) (cLst (cCons (cVar 3) cNil))) (cSl (cVar 6) (oSome (cOp fAdd (cVar 5) (cVar 7))) oNone))))))))
theorem lw_body {A K : Addr} {g g' : GH} {m : Str → List Str} {ks : List Str} {ad : Str → Addr} {k : Dk} {d1 : D} {x : Str} {o4 o5 o6 o7 : Option D} {C : CEnds} (h : LW A K g m ks ad k g') (W : WFk m ks) (hl : ks.length ≤ 100) (hx : x ∉ ks) (hx0 : x ≠ "")
    (q : ∀ m' ad' k' g'' o4 o5 o6 o7, LW A K g m' (ks ++ [x]) ad' k' g'' → WFk m' (ks ++ [x]) → C.nx [some (.ref A), some d1, some (.ref K), some (.str x), o4, o5, o6, o7] g'') :
    lwBody C [some (.ref A), some d1, some (.ref K), some (.str x), o4, o5, o6, o7] g' := by
  have lenE : (encK ks ad).length = ks.length := by unfold encK; rw [List.length_map]
  have pos : 1 ≤ ks.length := List.length_pos_iff.mpr fun e => by have := W.root; rw [e] at this; cases this
  -- over
  refine ⟨_, rfl, K, _, rfl, h.dr.dict, fun p hp => ?_⟩
  rw [encK_keys]
  have h1 := h.new (o := .lst (ks.map D.str)) hp
  have hpA := h.nA' hp
  have gp1 : (gupd g' p (.lst (ks.map D.str))) p = some (.lst (ks.map D.str)) := gupd_same
  generalize gupd g' p (.lst (ks.map D.str)) = g1 at h1 gp1
  refine ev_draw (n := ks.length) (ev_var rfl) (fun R w => ⟨_, rfl, .inr ⟨_, h1.dr.dict, by rw [lenE]; exact w⟩⟩) h1.gA pos (by omega) fun i k1 hi => ?_
  have h2 := h1.deck k1
  have gp2 : (gupd g1 A k1.m) p = some (.lst (ks.map D.str)) := (gupd_ne hpA).trans gp1
  generalize gupd g1 A k1.m = g2 at h2 gp2
  refine ⟨_, .str ks[i], gp2, by have := atI_nat (xs := ks.map D.str) (i := i) (by rw [List.length_map]; exact hi); rw [List.getElem_map] at this; exact this, ?_⟩
  have hk0 : ks[i] ∈ ks := mem_of_at hi
  generalize ks[i] = k0 at hk0
  have hll : (m k0).length ≤ 100 := Nat.le_trans (nodup_len _ _ (W.ndk k0 hk0) fun c hc => (W.kid k0 hk0 c hc).1) hl
  -- at
  refine ev_draw (n := (m k0).length + 1) (ev_var rfl) (fun R w => ⟨_, rfl, _, rfl, .ref (ad k0), .inl ⟨K, _, .inr k0, rfl, .inl h2.dr.dict, rfl, by rw [encK_val, if_pos hk0]⟩, .inl ⟨_, h2.dr.lst k0 hk0, by rw [List.length_map]; exact w⟩⟩) h2.gA (by omega) (by omega) fun at' k2 hat => ?_
  have h3 := h2.deck k2
  generalize gupd g2 A k2.m = g3 at h3
  -- some
  refine ⟨_, rfl, _, rfl, .ref (ad k0), .inl ⟨K, _, .inr k0, rfl, .inl h3.dr.dict, rfl, by rw [encK_val, if_pos hk0]⟩, ?_⟩
  -- take
  refine ev_draw (n := 4) (ev_var rfl) ev_c h3.gA (by decide) (by decide) fun c k3 hc => ?_
  have h4 := h3.deck k3
  generalize gupd g3 A k3.m = g4 at h4
  refine ⟨cdiv (n := 3) (by decide) (by decide), ?_⟩
  refine ev_draw (n := (m k0).length - at' + 1) (ev_var rfl) (fun R w => ⟨_, rfl, .inl ⟨_, h4.dr.lst k0 hk0, _, rfl, trivial, by
    have e : (((m k0).map D.str).length : Int) - (at' : Int) + 1 = (((m k0).length - at' + 1 : Nat) : Int) := by rw [List.length_map]; omega
    show R (.int ((((m k0).map D.str).length : Int) - (at' : Int) + 1)) _
    rw [e]; exact w⟩⟩) h4.gA (by omega) (by omega) fun t k4 ht => ?_
  have h5 := h4.deck k4
  generalize gupd g4 A k4.m = g5 at h5
  have hmul : CMul ((c : Int) / 3) (t : Int) := .inr (by constructor <;> omega)
  refine ⟨hmul, ?_⟩
  have et : (c : Int) / 3 * (t : Int) = ((c / 3 * t : Nat) : Int) := by
    rw [Int.natCast_mul]
    rfl
  have htk : c / 3 * t ≤ (m k0).length - at' := by
    have h01 : c / 3 = 0 ∨ c / 3 = 1 := by omega
    rcases h01 with e | e <;> rw [e] <;> omega
  rw [et]
  generalize c / 3 * t = tk at htk
  have hk0x : k0 ≠ x := fun e => hx (e ▸ hk0)
  -- kids[name] = some[at:at + take]
  refine ev_slL (A := ad k0) (l := m k0) (a := some (at' : Int)) (b := some ((at' + tk : Nat) : Int)) (ev_var rfl) (ev_os (ev_var rfl)) (ev_os (ev_addN (ev_var rfl) (ev_var (d := natD tk) rfl))) (h5.dr.lst k0 hk0) fun p5 hp5 => ?_
  rw [cutS_ft]
  have h6 := h5.new (o := .lst ((((m k0).take (at' + tk)).drop at').map D.str)) hp5
  have gp6 : (gupd g5 p5 (.lst ((((m k0).take (at' + tk)).drop at').map D.str))) p5 = some (.lst ((((m k0).take (at' + tk)).drop at').map D.str)) := gupd_same
  generalize gupd g5 p5 (.lst ((((m k0).take (at' + tk)).drop at').map D.str)) = g6 at h6 gp6
  refine ⟨_, rfl, _, rfl, _, .inl ⟨K, _, .inr x, rfl, h6.dr.dict, rfl, lim_ok (by rw [lenE]; omega), rfl⟩, ?_⟩
  rw [encK_put]
  have h7 := h6.put (x := x) gp6 (h5.free hp5) (h5.far hp5) (h5.nA' hp5)
  rw [if_neg hx] at h7 ⊢
  generalize gupd g6 K (.dic (encK (ks ++ [x]) (upA ad x p5))) = g7 at h7
  have hk1 : k0 ∈ ks ++ [x] := List.mem_append_left _ hk0
  have gs7 : g7 (ad k0) = some (.lst ((m k0).map D.str)) := by
    have := h7.dr.lst k0 hk1
    rw [upA_ne hk0x, upS_ne hk0x] at this
    exact this
  -- kids[over] = some[:at] + [name] + some[at + take:]
  refine ev_slL (A := ad k0) (l := m k0) (a := none) (b := some (at' : Int)) (ev_var rfl) ev_on (ev_os (ev_var rfl)) gs7 fun p8 hp8 => ?_
  rw [cutS_t]
  have h8 := h7.new (o := .lst (((m k0).take at').map D.str)) hp8
  have gs8 := gup_free (o := .lst (((m k0).take at').map D.str)) gs7 hp8
  have gp8 : (gupd g7 p8 (.lst (((m k0).take at').map D.str))) p8 = some (.lst (((m k0).take at').map D.str)) := gupd_same
  generalize gupd g7 p8 (.lst (((m k0).take at').map D.str)) = g8 at h8 gs8 gp8
  refine ⟨_, rfl, lim_ok (by simp), fun p9 hp9 => ?_⟩
  have h9 := h8.new (o := .lst ([x].map D.str)) hp9
  have gs9 := gup_free (o := .lst ([x].map D.str)) gs8 hp9
  have gp9 := gup_free (o := .lst ([x].map D.str)) gp8 hp9
  have gq9 : (gupd g8 p9 (.lst ([x].map D.str))) p9 = some (.lst ([x].map D.str)) := gupd_same
  show fAdd (.ref p8) (.ref p9) (gupd g8 p9 (.lst ([x].map D.str))) _
  generalize gupd g8 p9 (.lst ([x].map D.str)) = g9 at h9 gs9 gp9 gq9
  refine ⟨_, _, gp9, gq9, lim_ok (by simp; omega), fun p10 hp10 => ?_⟩
  rw [← List.map_append]
  have h10 := h9.new (o := .lst (((m k0).take at' ++ [x]).map D.str)) hp10
  have gs10 := gup_free (o := .lst (((m k0).take at' ++ [x]).map D.str)) gs9 hp10
  have gp10 : (gupd g9 p10 (.lst (((m k0).take at' ++ [x]).map D.str))) p10 = some (.lst (((m k0).take at' ++ [x]).map D.str)) := gupd_same
  generalize gupd g9 p10 (.lst (((m k0).take at' ++ [x]).map D.str)) = g10 at h10 gs10 gp10
  refine ev_slL (A := ad k0) (l := m k0) (a := some ((at' + tk : Nat) : Int)) (b := none) (ev_var rfl) (ev_os (ev_addN (ev_var rfl) (ev_var (d := natD tk) rfl))) ev_on gs10 fun p11 hp11 => ?_
  rw [cutS_f]
  have h11 := h10.new (o := .lst (((m k0).drop (at' + tk)).map D.str)) hp11
  have gp11 := gup_free (o := .lst (((m k0).drop (at' + tk)).map D.str)) gp10 hp11
  have gq11 : (gupd g10 p11 (.lst (((m k0).drop (at' + tk)).map D.str))) p11 = some (.lst (((m k0).drop (at' + tk)).map D.str)) := gupd_same
  generalize gupd g10 p11 (.lst (((m k0).drop (at' + tk)).map D.str)) = g11 at h11 gp11 gq11
  refine ⟨_, _, gp11, gq11, lim_ok (by simp; omega), fun p12 hp12 => ?_⟩
  rw [← List.map_append]
  have h12 := h11.new (o := .lst (((m k0).take at' ++ [x] ++ (m k0).drop (at' + tk)).map D.str)) hp12
  have gp12 : (gupd g11 p12 (.lst (((m k0).take at' ++ [x] ++ (m k0).drop (at' + tk)).map D.str))) p12 = some (.lst (((m k0).take at' ++ [x] ++ (m k0).drop (at' + tk)).map D.str)) := gupd_same
  generalize gupd g11 p12 (.lst (((m k0).take at' ++ [x] ++ (m k0).drop (at' + tk)).map D.str)) = g12 at h12 gp12
  refine ⟨_, rfl, _, rfl, _, .inl ⟨K, _, .inr k0, rfl, h12.dr.dict, rfl, lim_ok (by unfold encK; rw [List.length_map, List.length_append]; simp; omega), rfl⟩, ?_⟩
  rw [encK_put]
  have h13 := h12.put (x := k0) gp12 (h11.free hp12) (h11.far hp12) (h11.nA' hp12)
  rw [if_pos hk1] at h13 ⊢
  refine q _ _ _ _ _ _ _ _ h13 (W.put hk0 hx hx0 ?_)
  have e1 : (m k0).take at' = ((m k0).take (at' + tk)).take at' := by rw [List.take_take]; congr 1; omega
  rw [e1, List.take_append_drop, List.take_append_drop]
theorem lw_loop {A K : Addr} {g : GH} {d1 : D} {C : CEnds} : ∀ (rs zs : List Str) (m : Str → List Str) (ks : List Str) (ad : Str → Addr) (k : Dk) (g' : GH) (o3 o4 o5 o6 o7 : Option D), LW A K g m ks ad k g' → WFk m ks → ks.Perm ("" :: zs) → (zs ++ rs).Nodup → (∀ x ∈ zs ++ rs, NmOk x) → (zs ++ rs).length ≤ 20 →
    (∀ m' ks' ad' k' g'' o3 o4 o5 o6 o7, LW A K g m' ks' ad' k' g'' → WFk m' ks' → ks'.Perm ("" :: (zs ++ rs)) → C.nx [some (.ref A), some d1, some (.ref K), o3, o4, o5, o6, o7] g'') →
    cLoop lwBody C (fun _ => True) (rs.map fun x s => s.set 3 (some (D.str x))) [some (.ref A), some d1, some (.ref K), o3, o4, o5, o6, o7] g'
  | [], zs, m, ks, ad, k, g', o3, o4, o5, o6, o7, h, W, hp, _, _, _, q => ⟨trivial, q m ks ad k g' _ _ _ _ _ h W (by rw [List.append_nil]; exact hp)⟩
  | x :: rs, zs, m, ks, ad, k, g', o3, o4, o5, o6, o7, h, W, hp, nd, ok, hl, q => by
    have hxz : x ∉ zs := fun hz => (List.nodup_append.mp nd).2.2 x hz x List.mem_cons_self rfl
    have hx0 : x ≠ "" := ok_ne (ok x (by simp))
    have hkl : ks.length ≤ 100 := by
      have := hp.length_eq
      rw [List.length_cons] at this
      rw [List.length_append] at hl
      omega
    refine ⟨trivial, lw_body h W hkl (fun hk => ?_) hx0 fun m' ad' k' g'' o4 o5 o6 o7 h' W' => ?_⟩
    · rcases List.mem_cons.mp (hp.mem_iff.mp hk) with e | e
      · exact hx0 e
      · exact hxz e
    · have e : zs ++ x :: rs = (zs ++ [x]) ++ rs := by simp
      rw [e] at nd ok hl q
      exact lw_loop rs (zs ++ [x]) m' _ ad' k' g'' _ _ _ _ _ h' W' (hp.append_right [x]) nd ok hl q
@[irreducible] def sp__law_wood : CSp := fun ds g Q => ∃ (A : Addr) (k : Dk) (xs : List Str), ds = [.ref A, tupS xs] ∧ g A = some k.m ∧ xs.Nodup ∧ (∀ x ∈ xs, NmOk x) ∧ xs.length ≤ 20 ∧ ∀ (f : F) (k' : Dk), Wd f → (∀ z, z ∈ f.names ↔ z ∈ xs) → Q (woodD f) (gupd g A k'.m)
theorem pu__law_wood : ∀ ds g Q, sp__law_wood ds g Q → c__law_wood sp__law_draw (sp__law_wood_of 30) { nx := fun _ g' => Fin Q .non g', rt := Fin Q } (cstart N__law_wood ds) g := by
  intro ds g Q h
  unfold sp__law_wood at h
  obtain ⟨A, k, xs, rfl, hA, nd, ok, hl, q⟩ := h
  refine fun K hK => ?_
  refine ⟨lim_ok (by simp), fun l hl0 => ?_⟩
  have hKl : K ≠ l := gne_none gupd_same hl0
  refine ⟨(gupd_ne hKl).trans gupd_same, [((.inr "" : Key), .ref l)], rfl, by simp, ?_⟩
  have hKA : K ≠ A := dk_ne hA hK
  have nl : g l = none := by rw [gupd_ne hKl.symm] at hl0; exact hl0
  have hlA : l ≠ A := dk_ne hA nl
  have hgg : gupd (gupd (gupd g K (.dic [])) l (.lst [])) K (.dic (mergeD [] [((.inr "" : Key), .ref l)])) = gupd (gupd (gupd g K (.dic [])) l (.lst [])) K (.dic (encK [""] fun _ => l)) := rfl
  have h0 : LW A K g (fun _ => []) [""] (fun _ => l) k (gupd (gupd (gupd g K (.dic [])) l (.lst [])) K (.dic (encK [""] fun _ => l))) := by
    refine ⟨⟨gupd_same, fun _ _ => hKl.symm, fun z _ => (gupd_ne hKl.symm).trans gupd_same, fun a ha b hb _ => by rw [List.mem_singleton.mp ha, List.mem_singleton.mp hb]⟩, (gupd_ne hKA.symm).trans ((gupd_ne hlA.symm).trans ((gupd_ne hKA.symm).trans hA)), (((Kp.refl A g).new hK).new hl0).own (.inr hK), fun a o => ?_, fun o => ?_⟩
    · rcases o with rfl | ⟨_, _, rfl⟩
      · exact hK
      · exact nl
    · rcases o with e | ⟨_, _, e⟩
      · exact hKA e.symm
      · exact hlA e.symm
  have W0 : WFk (fun _ => []) [("" : Str)] := wfk_of (f := .nil) List.nodup_nil (by simp [F.names]) rfl trivial (by simp) (by simp [F.names])
  dsimp only
  rw [hgg]
  generalize gupd (gupd (gupd g K (.dic [])) l (.lst [])) K (.dic (encK [""] fun _ => l)) = g1 at h0
  refine ⟨_, rfl, xs.map D.str, rfl, ?_⟩
  rw [onEach_map]
  refine lw_loop (g := g) (d1 := tupS xs) xs [] (fun _ => []) [""] (fun _ => l) k g1 none none none none none h0 W0 (.refl _) (by simpa using nd) (by simpa using ok) (by simpa using hl) fun m' ks' ad' k' g2 o3 o4 o5 o6 o7 h W hp => ?_
  rw [List.nil_append] at hp
  obtain ⟨f, ht, hm, nd', hn⟩ := W.wood
  have hn2 : ∀ z, z ∈ f.names ↔ z ∈ xs := fun z => by
    rw [hn, hp.mem_iff, List.mem_cons]
    constructor
    · rintro ⟨h | h, h2⟩
      · exact absurd h h2
      · exact h
    · exact fun h => ⟨.inr h, ok_ne (ok z h)⟩
  have hlen := nodup_len_eq nd' nd hn2
  have w' : Wd f := ⟨nd', fun x hx => ok x ((hn2 x).mp hx), by omega⟩
  refine ev_ret (ev_woodof (f := f) (ev_var rfl) ev_c h.dr W ht hm (fun x hx => ((hn x).mp hx).1) (by omega) (by omega)) ?_
  exact ⟨gupd g A k'.m, h.kp.sub h.gA, q f k' w' hn2⟩
end CL

/-! Q9: other_wood, kept_right, lost_right (printed from Q9.src by pp.py). -/
namespace CL
open PySem PySem.Spec PyProof.Rows L2 TM

/-! ### equality of strs, numbers, tuples -/
mutual
def plD : D → Bool
  | .str _ => true
  | .int _ => true
  | .tup xs => plDs xs
  | _ => false
def plDs : List D → Bool
  | [] => true
  | x :: xs => plD x && plDs xs
end
mutual
theorem eqv_pl : ∀ (d e : D), plD d = true → plD e = true → (PyData.eqv (toPy d) (toPy e) = true ↔ d = e)
  | .str a, .str b, _, _ => by simp [toPy, PyData.eqv]
  | .int a, .int b, _, _ => by simp [toPy, PyData.eqv]
  | .tup a, .tup b, ha, hb => by
    have := eqvs_pl a b ha hb
    simp only [toPy, PyData.eqv]
    rw [this]
    exact ⟨fun h => by rw [h], fun h => by injection h⟩
  | .str a, .int b, _, _ => by simp [toPy, PyData.eqv]
  | .str a, .tup b, _, _ => by simp [toPy, PyData.eqv]
  | .int a, .str b, _, _ => by simp [toPy, PyData.eqv]
  | .int a, .tup b, _, _ => by simp [toPy, PyData.eqv]
  | .tup a, .str b, _, _ => by simp [toPy, PyData.eqv]
  | .tup a, .int b, _, _ => by simp [toPy, PyData.eqv]
theorem eqvs_pl : ∀ (ds es : List D), plDs ds = true → plDs es = true → (PyData.eqvAll (toPys ds) (toPys es) = true ↔ ds = es)
  | [], [], _, _ => by simp [toPys, PyData.eqvAll]
  | [], _ :: _, _, _ => by simp [toPys, PyData.eqvAll]
  | _ :: _, [], _, _ => by simp [toPys, PyData.eqvAll]
  | d :: ds, e :: es, hd, he => by
    have hd' : plD d = true ∧ plDs ds = true := by simpa [plDs] using hd
    have he' : plD e = true ∧ plDs es = true := by simpa [plDs] using he
    simp only [toPys, PyData.eqvAll, Bool.and_eq_true]
    rw [eqv_pl d e hd'.1 he'.1, eqvs_pl ds es hd'.2 he'.2]
    exact ⟨fun ⟨h1, h2⟩ => by rw [h1, h2], fun h => by injection h with h1 h2; exact ⟨h1, h2⟩⟩
end
theorem plF : ∀ f : F, plDs (ft f) = true
  | .nil => rfl
  | .cons x k r => by
    show ((true && (plDs (ft k) && true)) && plDs (ft r)) = true
    rw [plF k, plF r]; rfl
theorem depF : ∀ f : F, PyData.depthAll (toPys (ft f)) ≤ 2 * f.dep
  | .nil => Nat.zero_le _
  | .cons x k r => by
    have h1 := depF k
    have h2 := depF r
    simp only [ft, toPys, toPy, PyData.depthAll, PyData.depth, F.dep]
    omega
theorem depW (f : F) : (toPy (woodD f)).depth ≤ 2 * f.dep + 1 := by
  have := depF f
  show PyData.depth (.tuple (toPys (ft f))) ≤ _
  rw [PyData.depth]
  omega
theorem Wd.dep {f : F} (w : Wd f) : (toPy (woodD f)).depth ≤ 41 := by
  have := depW f
  have := dep_le f
  have := w.few
  omega
section
variable {s : CSt} {g : GH} {a b : CE} {xs ys : List D}
theorem ev_eqT {neg : Bool} (ha : EvE a s g (.tup xs)) (hb : EvE b s g (.tup ys)) (okx : okPys xs = true) (oky : okPys ys = true) (px : plDs xs = true) (py : plDs ys = true) (hd : (toPy (.tup xs)).depth ≤ 64) {e : Bool} (he : e = true ↔ xs = ys) : EvE (cOp (fEq neg) a b) s g (.bl (if neg = true then !e else e)) := ev_op ha hb fun R w => by
  refine ⟨okx, oky, Nat.le_trans (Nat.min_le_left _ _) hd, ?_⟩
  have h : PyData.eqvAll (toPys xs) (toPys ys) = e := Bool.eq_iff_iff.mpr ((eqvs_pl xs ys px py).trans he.symm)
  rw [h]
  exact w
end
/-! ### _law_other_wood -/
@[irreducible] def sp__law_other_wood : CSp := fun ds g Q => ∃ (A L : Addr) (k : Dk) (f : F) (xs : List Str), ds = [.ref A, woodD f, .ref L] ∧ g A = some k.m ∧ g L = some (.lst (xs.map D.str)) ∧ 1 ≤ xs.length ∧ xs.length ≤ 20 ∧ Wd f ∧ (∀ z, z ∈ f.names ↔ z ∈ xs) ∧ xs.Nodup ∧ ∀ (f' : F) (k' : Dk), Wd f' → (∀ z, z ∈ f'.names ↔ z ∈ xs) → Q (woodD f') (gupd g A k'.m)
theorem pick_ref {s : CSt} {g : GH} {A L : Addr} {k : Dk} {R : CQ} {a b : CE} {xs : List Str} (ha : EvE a s g (.ref A)) (hb : EvE b s g (.ref L)) (hA : g A = some k.m) (hL : g L = some (.lst (xs.map D.str))) (hne : L ≠ A) (h1 : 1 ≤ xs.length) (h2 : xs.length ≤ 1000) (q : ∀ x ∈ xs, ∀ k' : Dk, R (.str x) (gupd g A k'.m)) : cCall sp__law_pick (cCons a (cCons b cNil)) s g R := by
  refine ev_pick (xs := xs.map D.str) ha hb hA hL (fun e => hne (by injection e)) (by rw [List.length_map]; exact h1) (by rw [List.length_map]; exact h2) fun y hy k' => ?_
  obtain ⟨x, hx, rfl⟩ := List.mem_map.mp hy
  exact q x hx k'
theorem strs_ne {xs : List Str} {k : Dk} : (MO.lst (xs.map D.str)) ≠ k.m := fun e => by
  unfold Dk.m at e
  injection e with e
  cases xs with
  | nil => cases e
  | cons x xs => injection e with e _; cases e
abbrev owBody : CS := (cSeq (cPar 4 5 (cCons (cCall sp__law_pick (cCons (cVar 0) (cCons (cVar 2) cNil))) (cCons (cCall sp__law_pick (cCons (cVar 0) (cCons (cVar 2) cNil))) cNil)))
    (cSeq (cSet 6 (cTup (cCons (cCall sp__law_pick (cCons (cVar 0) (cCons (cLst (cCons (cC (.str "first")) (cCons (cC (.str "last")) (cCons (cC (.str "ahead")) (cCons (cC (.str "behind")) cNil))))) cNil))) (cCons (cVar 4) (cCons (cVar 5) cNil)))))
    (cSeq (cSet 7 (cCall sp__law_ran (cCons (cVar 1) (cCons (cTup (cCons (cIf (cB (cOp fGt (cCall sp__law_draw (cCons (cVar 0) (cCons (cC (.int 4)) cNil))) (cC (.int 0)))) (cVar 6) (cTup (cCons (cC (.str "front")) (cCons (cVar 4) cNil)))) cNil)) cNil))))
    (cIfS (cB (cOp (fEq false) (cOp fIx (cVar 7) (cC (.int 0))) (cC (.str "does")))) (cSet 1 (cOp fIx (cVar 7) (cC (.int 1)))) cSkip))))
theorem ow_body {A L : Addr} {g g' : GH} {k : Dk} {f : F} {xs : List Str} {o3 o4 o5 o6 o7 : Option D} {C : CEnds} (hLA : L ≠ A) (hA : g' A = some k.m) (hL : g' L = some (.lst (xs.map D.str))) (kp : Kp A g g') (h1 : 1 ≤ xs.length) (h2 : xs.length ≤ 20) (w : Wd f) (hf : ∀ z, z ∈ f.names ↔ z ∈ xs)
    (q : ∀ (f' : F) (k' : Dk) g'' o4 o5 o6 o7, Wd f' → (∀ z, z ∈ f'.names ↔ z ∈ xs) → g'' A = some k'.m → g'' L = some (.lst (xs.map D.str)) → Kp A g g'' → C.nx [some (.ref A), some (woodD f'), some (.ref L), o3, o4, o5, o6, o7] g'') :
    owBody C [some (.ref A), some (woodD f), some (.ref L), o3, o4, o5, o6, o7] g' := by
  refine pick_ref (xs := xs) (ev_var rfl) (ev_var rfl) hA hL hLA h1 (by omega) fun one hone k1 => ?_
  refine pick_ref (xs := xs) (ev_var rfl) (ev_var rfl) gupd_same ((gupd_ne hLA).trans hL) hLA h1 (by omega) fun oth hoth k2 => ?_
  rw [gupd_gupd]
  refine ⟨_, _, rfl, ?_⟩
  have hL2 : (gupd g' A k2.m) L = some (.lst (xs.map D.str)) := (gupd_ne hLA).trans hL
  have kp2 : Kp A g (gupd g' A k2.m) := kp.deck
  have hA2 : (gupd g' A k2.m) A = some k2.m := gupd_same
  dsimp only
  generalize gupd g' A k2.m = g2 at hL2 kp2 hA2
  -- the word
  refine ⟨_, rfl, lim_ok (by simp), fun p hp => ?_⟩
  have hpA : p ≠ A := fun e => by rw [e, hA2] at hp; cases hp
  have gp : (gupd g2 p (.lst (wsD [.first, .last, .ahead, .behind]))) p = some (.lst (wsD [.first, .last, .ahead, .behind])) := gupd_same
  have hA3 := gup_free (o := .lst (wsD [.first, .last, .ahead, .behind])) hA2 hp
  have hL3 := gup_free (o := .lst (wsD [.first, .last, .ahead, .behind])) hL2 hp
  have kp3 := kp2.new (m := .lst (wsD [.first, .last, .ahead, .behind])) hp
  show sp__law_pick [.ref A, .ref p] (gupd g2 p (.lst (wsD [.first, .last, .ahead, .behind]))) _
  generalize gupd g2 p (.lst (wsD [.first, .last, .ahead, .behind])) = g3 at gp hA3 hL3 kp3
  unfold sp__law_pick
  refine ⟨A, k2, .ref p, wsD [.first, .last, .ahead, .behind], rfl, hA3, gp, (fun e => hpA (by injection e)), by simp [wsD], by simp [wsD], fun y hy k3 => ?_⟩
  obtain ⟨v, hv, rfl⟩ := List.mem_map.mp hy
  have hL4 : (gupd g3 A k3.m) L = some (.lst (xs.map D.str)) := (gupd_ne hLA).trans hL3
  have kp4 : Kp A g (gupd g3 A k3.m) := kp3.deck
  have hA4 : (gupd g3 A k3.m) A = some k3.m := gupd_same
  generalize gupd g3 A k3.m = g4 at hL4 kp4 hA4
  refine ⟨_, rfl, _, rfl, lim_ok (by simp), ?_⟩
  have hvt : v.two = true ∧ v.mv = true := by
    simp at hv
    rcases hv with rfl | rfl | rfl | rfl <;> exact ⟨rfl, rfl⟩
  have ed : D.tup [.str (wS v), .str one, .str oth] = deedD ⟨v, one, oth⟩ := by
    unfold deedD deedL Deed.names
    rw [if_pos hvt.1]; rfl
  -- the run
  refine ⟨_, rfl, ?_⟩
  refine ev_draw (n := 4) (ev_var rfl) ev_c hA4 (by decide) (by decide) fun c k5 hc => ?_
  have hL5 : (gupd g4 A k5.m) L = some (.lst (xs.map D.str)) := (gupd_ne hLA).trans hL4
  have kp5 : Kp A g (gupd g4 A k5.m) := kp4.deck
  have hA5 : (gupd g4 A k5.m) A = some k5.m := gupd_same
  generalize gupd g4 A k5.m = g5 at hL5 kp5 hA5
  have after : ∀ d : DeedS, d.w.mv = true → d.x ∈ f.names → (d.w.two = true → d.y ∈ f.names) → sp__law_ran [woodD f, .tup [deedD d]] g5 (fun d' g' => (cIfS (cB (cOp (fEq false) (cOp fIx (cVar 7) (cC (.int 0))) (cC (.str "does")))) (cSet 1 (cOp fIx (cVar 7) (cC (.int 1)))) cSkip) C [some (.ref A), some (woodD f), some (.ref L), o3, some (.str one), some (.str oth), some (.tup [.str (wS v), .str one, .str oth]), some d'] g') := fun d m1 m2 m3 => by
    unfold sp__law_ran
    refine ⟨f, d, rfl, w, m1, m2, m3, ?_, fun f' w' hf' => ?_⟩
    · refine ev_if (ev_B (ev_eqS (x := "stops") (y := "does") (ev_ix (xs := [.str "stops", natD 0, .str "inside"]) (ev_var rfl) ev_c rfl) ev_c)) (fun e => absurd e (by decide +kernel)) (fun _ => ?_)
      exact q f k5 g5 _ _ _ _ w hf hA5 hL5 kp5
    · refine ev_if (ev_B (ev_eqS (x := "does") (y := "does") (ev_ix (xs := [.str "does", woodD f']) (ev_var rfl) ev_c rfl) ev_c)) (fun _ => ?_) (fun e => absurd e (by decide +kernel))
      refine ev_set (ev_ix (xs := [.str "does", woodD f']) (ev_var rfl) ev_c rfl) ?_
      exact q f' k5 g5 _ _ _ _ w' (fun z => (hf' z).trans (hf z)) hA5 hL5 kp5
  refine ⟨trivial, _, rfl, te2 (fun _ => ?_) (fun _ => ?_)⟩
  · refine ⟨_, rfl, lim_ok (by simp), ?_⟩
    have := after ⟨v, one, oth⟩ hvt.2 ((hf _).mpr hone) (fun _ => (hf _).mpr hoth)
    rw [← ed] at this
    exact this
  · refine ⟨_, rfl, lim_ok (by simp), lim_ok (by simp), ?_⟩
    exact after ⟨.front, one, one⟩ rfl ((hf _).mpr hone) (fun e => by cases e)
theorem pu__law_other_wood : ∀ ds g Q, sp__law_other_wood ds g Q → c__law_other_wood sp__law_draw sp__law_mixed sp__law_wood sp__law_pick sp__law_ran { nx := fun _ g' => Fin Q .non g', rt := Fin Q } (cstart N__law_other_wood ds) g := by
  intro ds g Q h
  unfold sp__law_other_wood at h
  obtain ⟨A, L, k, f, xs, rfl, hA, hL, h1, h2, w, hf, nd, q⟩ := h
  have hLA : L ≠ A := fun e => by
    rw [e, hA] at hL
    injection hL with hL
    exact strs_ne hL.symm
  have ok : ∀ x ∈ xs, NmOk x := fun x hx => w.ok x ((hf x).mpr hx)
  refine ev_draw (n := 3) (ev_var rfl) ev_c hA (by decide) (by decide) fun c k1 hc => ?_
  have hL1 : (gupd g A k1.m) L = some (.lst (xs.map D.str)) := (gupd_ne hLA).trans hL
  have kp1 : Kp A g (gupd g A k1.m) := (Kp.refl A g).deck
  have hA1 : (gupd g A k1.m) A = some k1.m := gupd_same
  generalize gupd g A k1.m = g1 at hL1 kp1 hA1
  refine ⟨_, rfl, te2 (fun _ => ?_) (fun _ => ?_)⟩
  · -- another wood
    refine ⟨_, rfl, _, rfl, _, rfl, ?_⟩
    unfold sp__law_mixed
    refine ⟨A, L, k1, xs, rfl, hA1, hL1, by omega, fun ys k2 hp => ?_⟩
    unfold sp__law_wood
    refine ⟨A, k2, ys, rfl, gupd_same, hp.nodup_iff.mpr nd, fun x hx => ok x (hp.mem_iff.mp hx), by rw [hp.length_eq]; exact h2, fun f' k3 w' hf' => ?_⟩
    rw [gupd_gupd]
    exact ⟨gupd g A k3.m, Kp.sub (k := k3) kp1.deck gupd_same, q f' k3 w' fun z => (hf' z).trans hp.mem_iff⟩
  · refine ⟨2, rfl, by decide, by decide, ?_⟩
    refine ⟨trivial, ow_body (g := g) hLA hA1 hL1 kp1 h1 h2 w hf fun f2 k2 g2 o4 o5 o6 o7 w2 hf2 hA2 hL2 kp2 => ?_⟩
    refine ⟨trivial, ow_body (g := g) hLA hA2 hL2 kp2 h1 h2 w2 hf2 fun f3 k3 g3 o4 o5 o6 o7 w3 hf3 hA3 hL3 kp3 => ?_⟩
    refine ⟨trivial, ?_⟩
    refine ev_ret (d := woodD f3) (ev_var rfl) ?_
    exact ⟨gupd g A k3.m, kp3.sub hA3, q f3 k3 w3 hf3⟩
end CL

/-! R0: kept_right, lost_right (printed from R0.src by pp.py). -/
namespace CL
open PySem PySem.Spec PyProof.Rows L2 TM

/-! ### what a script does to a wood -/
/-- ("does", wood) or ("stops", index, word) -/
def doOut (r : RowS) (es : List DeedS) (d : D) : Prop := (∃ t f, doneAll 0 r es = .does t ∧ fr f = t ∧ d = .tup [.str "does", woodD f]) ∨ ∃ i w, doneAll 0 r es = .stops i w ∧ d = .tup [.str "stops", natD i, .str (stS w)]
@[irreducible] def sp__law_do : CSp := fun ds g Q => ∃ (f : F) (es : List DeedS), ds = [woodD f, .tup (es.map deedD)] ∧ Wd f ∧ (∀ d ∈ es, DeedOk d) ∧ es.length ≤ 20 ∧ ∀ d, doOut (fr f) es d → Q d g
theorem fr_nd : ∀ {f : F}, (fr f).Nodup ↔ f.names.Nodup := fun {f} => by
  induction f with
  | nil => simp [fr, F.names]
  | cons x k r ih1 ih2 =>
    have bn : ∀ (g : F) (b : Bool) (y : Str), It.n b y ∈ fr g → y ∈ g.names := fun g b y h => by
      cases b with
      | true => exact (fr_names g y).mp h
      | false => exact (fr_names g y).mp (end_begin (fr g) (st := []) (s := []) ((fr_bal g) []) h (by simp))
    have nb : ∀ (g : F) (y : Str), y ∈ g.names → It.b y ∈ fr g := fun g y h => (fr_names g y).mpr h
    have el : ∀ (g : F) (z : It Str), z ∈ fr g → ∃ b y, z = It.n b y := fun g z hz => by
      have := fr_whole g z hz
      cases z with
      | n b y => exact ⟨b, y, rfl⟩
      | g k => cases this
    simp only [fr, F.names, List.nodup_cons, List.nodup_append, List.mem_append, List.mem_cons, ih1, ih2]
    constructor
    · rintro ⟨h1, h2, ⟨h3, h4⟩, h5⟩
      refine ⟨fun q => ?_, h2, h4, fun a ha b hb e => ?_⟩
      · rcases q with q | q
        · exact h1 (.inl (nb k x q))
        · exact h1 (.inr (.inr (nb r x q)))
      · subst e
        exact h5 _ (nb k a ha) _ (.inr (nb r a hb)) rfl
    · rintro ⟨h1, h2, h4, h5⟩
      refine ⟨fun q => ?_, h2, ⟨fun q => h1 (.inr (bn r false x q)), h4⟩, fun a ha b hb e => ?_⟩
      · rcases q with q | q | q
        · exact h1 (.inl (bn k true x q))
        · cases q
        · exact h1 (.inr (bn r true x q))
      · subst e
        rcases hb with hb | hb
        · rw [hb] at ha
          exact h1 (.inl (bn k false x ha))
        · obtain ⟨c, y, rfl⟩ := el k a ha
          exact h5 _ (bn k c y ha) _ (bn r c y hb) rfl
theorem Wd.good {f : F} (w : Wd f) : Good (fr f) := ⟨(fr_bal f) [], fr_nd.mpr w.nd⟩
theorem doOut_pl {r : RowS} {es : List DeedS} {d : D} (h : doOut r es d) (hl : r.length + 2 * es.length ≤ 60) (G : Good r) : ∃ xs, d = .tup xs ∧ okPys xs = true ∧ plDs xs = true ∧ (toPy (.tup xs)).depth ≤ 64 := by
  rcases h with ⟨t, f, h1, h2, rfl⟩ | ⟨i, w, h1, rfl⟩
  · refine ⟨_, rfl, ?_, ?_, ?_⟩
    · show (true && (okPys (ft f) && true)) = true
      rw [okF]; rfl
    · show (true && (plDs (ft f) && true)) = true
      rw [plF]; rfl
    · have ht := doneAll_len es 0 r t G h1
      rw [← h2, fr_len] at ht
      have hd := depW f
      have hd2 := dep_le f
      have : 2 * f.dep + 1 ≤ 63 ∨ 63 < 2 * f.dep + 1 := by omega
      show PyData.depth (.tuple [.str "does", toPy (woodD f)]) ≤ 64
      simp only [PyData.depth, PyData.depthAll]
      have e : PyData.depth (toPy (woodD f)) ≤ 2 * f.dep + 1 := hd
      rcases this with h | h
      · omega
      · exfalso; omega
  · exact ⟨_, rfl, rfl, rfl, by simp [toPy, toPys, PyData.depth, PyData.depthAll, natD]⟩
theorem ev_do {s : CSt} {g : GH} {R : CQ} {a b : CE} {f : F} {es : List DeedS} (ha : EvE a s g (woodD f)) (hb : EvE b s g (.tup (es.map deedD))) (w : Wd f) (hd : ∀ d ∈ es, DeedOk d) (hl : es.length ≤ 20) (q : ∀ d, doOut (fr f) es d → R d g) : cCall sp__law_do (cCons a (cCons b cNil)) s g R :=
  ha _ (hb _ (by unfold sp__law_do; exact ⟨f, es, rfl, w, hd, hl, q⟩))
theorem doOut_0 {r : RowS} {es : List DeedS} {d : D} (h : doOut r es d) : ∃ x xs, d = .tup (.str x :: xs) ∧ (x = "does" ∨ x = "stops") ∧ ((∃ t, doneAll 0 r es = .does t) ↔ x = "does") := by
  rcases h with ⟨t, f, h1, h2, rfl⟩ | ⟨i, w, h1, rfl⟩
  · exact ⟨_, _, rfl, .inl rfl, fun _ => rfl, fun _ => ⟨t, h1⟩⟩
  · exact ⟨_, _, rfl, .inr rfl, fun ⟨t, h⟩ => by (rw [h1] at h; cases h), fun h => absurd h (by decide +kernel)⟩
theorem does_stops : ("does" : Str) ≠ "stops" := by decide +kernel
theorem Wd.len {f : F} (w : Wd f) : (fr f).length ≤ 40 := by
  rw [fr_len]
  have := w.few
  omega
theorem at_zero (d : D) (ds : List D) : atI (d :: ds) 0 = some d := by
  have := atI_nat (xs := d :: ds) (i := 0) (by simp)
  exact this
theorem ev_neNil' {s : CSt} {g : GH} {o : CE} {A : Addr} {xs : List D} {R : Bool → GH → Prop} (ho : EvE o s g (.ref A)) (hA : g A = some (.lst xs)) (ok : okPys xs = true) (k : ∀ E, g E = none → R xs.isEmpty (gupd g E (.lst []))) : cB (cOp (fEq false) o (cLst cNil)) s g R :=
  ho _ ⟨lim_ok (by simp), fun E hE => ⟨xs, gup_free hA hE, gupd_same, ok, _, rfl, k E hE⟩⟩
/-! ### _law_kept_right -/
@[irreducible] def sp__law_kept_right : CSp := fun ds g Q => ∃ (A L : Addr) (k : Dk) (es : List DeedS) (xs : List Str), ds = [.ref A, .tup (es.map deedD), .ref L] ∧ g A = some k.m ∧ g L = some (.lst (xs.map D.str)) ∧ xs.Nodup ∧ (∀ x ∈ xs, NmOk x) ∧ xs.length ≤ 20 ∧ (∀ d ∈ es, DeedOk d) ∧ es.length ≤ 10 ∧ (∃ ns, OldIs ns es ∧ LoseOut ns es none ∧ (∀ x ∈ ns, x ∈ xs) ∧ ∀ x ∈ xs, x ∈ ns ∨ x ∉ Snm es) ∧ ∀ k' : Dk, Q (.bl true) (gupd g A k'.m)
theorem fits_of {f : F} {es : List DeedS} {ns xs : List Str} (w : Wd f) (hf : ∀ z, z ∈ f.names ↔ z ∈ xs) (ho : OldIs ns es) (h1 : ∀ x ∈ ns, x ∈ xs) (h2 : ∀ x ∈ xs, x ∈ ns ∨ x ∉ Snm es) : Fits es (fr f) where
  good := w.good
  whole := fr_whole f
  old := fun x hx => (fr_names f x).mpr ((hf x).mpr (h1 x ((ho.2 x).mpr hx)))
  new := fun x hx hb => by
    have hxs := (hf x).mp ((fr_names f x).mp hb)
    rcases h2 x hxs with h | h
    · exact not_both ((ho.2 x).mp h) hx
    · exact h (snm_or.mpr (.inr hx))
theorem pu__law_kept_right : ∀ ds g Q, sp__law_kept_right ds g Q → c__law_kept_right sp__law_mixed sp__law_wood sp__law_other_wood sp__law_do { nx := fun _ g' => Fin Q .non g', rt := Fin Q } (cstart N__law_kept_right ds) g := by
  intro ds g Q h
  unfold sp__law_kept_right at h
  obtain ⟨A, L, k, es, xs, rfl, hA, hL, nd, ok, hl, hd, hel, ⟨ns, ho, lo, hn1, hn2⟩, q⟩ := h
  have hLA : L ≠ A := fun e => by
    rw [e, hA] at hL
    injection hL with hL
    exact strs_ne hL.symm
  refine ev_neNil' (ev_var rfl) hL (ok_strs xs) fun E hE => ?_
  have hA1 := gup_free (o := .lst []) hA hE
  have hL1 := gup_free (o := .lst []) hL hE
  have kp1 : Kp A g (gupd g E (.lst [])) := (Kp.refl A g).new hE
  generalize gupd g E (.lst []) = g1 at hA1 hL1 kp1
  refine te2 (fun _ => ?_) (fun e => ?_)
  · refine ev_ret ev_c ?_
    exact ⟨gupd g A k.m, kp1.sub hA1, q k⟩
  have pos : 1 ≤ xs.length := by
    cases xs with
    | nil => cases e
    | cons => simp
  -- the woods
  refine ⟨_, rfl, _, rfl, _, rfl, ?_⟩
  unfold sp__law_mixed
  refine ⟨A, L, k, xs, rfl, hA1, hL1, by omega, fun ys k2 hp => ?_⟩
  unfold sp__law_wood
  refine ⟨A, k2, ys, rfl, gupd_same, hp.nodup_iff.mpr nd, fun x hx => ok x (hp.mem_iff.mp hx), by rw [hp.length_eq]; exact hl, fun f k3 w hf => ?_⟩
  rw [gupd_gupd]
  have hf : ∀ z, z ∈ f.names ↔ z ∈ xs := fun z => (hf z).trans hp.mem_iff
  have hL2 : (gupd g1 A k3.m) L = some (.lst (xs.map D.str)) := (gupd_ne hLA).trans hL1
  have kp2 : Kp A g (gupd g1 A k3.m) := kp1.deck
  have hA2 : (gupd g1 A k3.m) A = some k3.m := gupd_same
  dsimp only
  generalize gupd g1 A k3.m = g2 at hL2 kp2 hA2
  refine ⟨_, rfl, _, rfl, _, rfl, ?_⟩
  unfold sp__law_other_wood
  refine ⟨A, L, k3, f, xs, rfl, hA2, hL2, pos, hl, w, hf, nd, fun f' k4 w' hf' => ?_⟩
  have kp3 : Kp A g (gupd g2 A k4.m) := kp2.deck
  have hA3 : (gupd g2 A k4.m) A = some k4.m := gupd_same
  dsimp only
  generalize gupd g2 A k4.m = g3 at kp3 hA3
  have win : Fin Q (.bl true) g3 := ⟨gupd g A k4.m, kp3.sub hA3, q k4⟩
  -- what the script does
  refine ev_do (f := f) (es := es) (ev_var rfl) (ev_var rfl) w hd (by omega) fun d1 h1 => ?_
  refine ev_do (f := f') (es := es) (ev_var rfl) (ev_var rfl) w' hd (by omega) fun d2 h2 => ?_
  refine ⟨_, _, rfl, ?_⟩
  dsimp only
  obtain ⟨x1, t1, e1, c1, i1⟩ := doOut_0 h1
  obtain ⟨xs1, z1, ok1, pl1, de1⟩ := doOut_pl h1 (by have := w.len; omega) w.good
  obtain ⟨xs2, z2, ok2, pl2, de2⟩ := doOut_pl h2 (by have := w'.len; omega) w'.good
  subst e1
  subst z2
  injection z1 with z1
  have v5 : EvE (cVar 5) [some (.ref A), some (.tup (es.map deedD)), some (.ref L), some (woodD f), some (woodD f'), some (.tup (.str x1 :: t1)), some (.tup xs2)] g3 (.tup (.str x1 :: t1)) := ev_var rfl
  have a1 := ev_eqS (x := x1) (y := "stops") (ev_ix (i := 0) v5 ev_c (at_zero _ _)) (ev_c (d := .str "stops"))
  have a2 : EvE (cOp (fEq false) (cVar 3) (cVar 4)) [some (.ref A), some (.tup (es.map deedD)), some (.ref L), some (woodD f), some (woodD f'), some (.tup (.str x1 :: t1)), some (.tup xs2)] g3 (.bl (decide (fr f = fr f'))) := ev_eqT (neg := false) (e := decide (fr f = fr f')) (ev_var rfl) (ev_var rfl) (okF f) (okF f') (plF f) (plF f') (Nat.le_trans w.dep (by decide)) (by
    rw [decide_eq_true_iff]
    exact ⟨fun h => by rw [fr_inj h], fun h => by rw [ft_inj h]⟩)
  have cl := Classical.em (xs1 = xs2)
  have a3 : ∀ e : Bool, (e = true ↔ xs1 = xs2) → EvE (cOp (fEq true) (cVar 5) (cVar 6)) [some (.ref A), some (.tup (es.map deedD)), some (.ref L), some (woodD f), some (woodD f'), some (.tup (.str x1 :: t1)), some (.tup xs2)] g3 (.bl (!e)) := fun e he => ev_eqT (neg := true) (e := e) (xs := xs1) (by rw [← z1]; exact ev_var rfl) (ev_var rfl) ok1 ok2 pl1 pl2 de1 he
  obtain ⟨e, he⟩ : ∃ e : Bool, e = true ↔ xs1 = xs2 := by
    rcases cl with h | h
    · exact ⟨true, fun _ => h, fun _ => rfl⟩
    · exact ⟨false, (fun q => by cases q), fun q => absurd q h⟩
  refine ev_ret (ev_orV a1 (ev_orV a2 (a3 e he))) ?_
  have truth : (decide (x1 = "stops") || (decide (fr f = fr f') || !e)) = true := by
    by_cases q1 : x1 = "stops"
    · simp [q1]
    by_cases q2 : fr f = fr f'
    · simp [q2]
    have hx : x1 = "does" := c1.resolve_right q1
    obtain ⟨t, ht⟩ := i1.mpr hx
    have : e = false := by
      cases hee : e with
      | false => rfl
      | true =>
        exfalso
        have hxx := he.mp hee
        -- both do the same
        have same : ∃ t', doneAll 0 (fr f) es = .does t' ∧ doneAll 0 (fr f') es = .does t' := by
          rcases h1 with ⟨ta, fa, p1, p2, p3⟩ | ⟨i, v, p1, _⟩
          · rcases h2 with ⟨tb, fb, r1, r2, r3⟩ | ⟨i, v, r1, r3⟩
            · injection p3 with p3
              injection r3 with r3
              rw [z1, hxx, r3] at p3
              injection p3 with _ p3
              injection p3 with p3 _
              injection p3 with p3
              have : fa = fb := (ft_inj p3).symm
              exact ⟨ta, p1, by rw [r1, ← r2, ← this, p2]⟩
            · injection p3 with p3
              injection r3 with r3
              rw [z1, hxx, r3] at p3
              injection p3 with p3 _
              injection p3 with p3
              exact absurd p3.symm does_stops
          · rw [ht] at p1; cases p1
        obtain ⟨t', s1, s2⟩ := same
        exact q2 (lossless ho lo.1 lo.2.1 lo.2.2 (fits_of w hf ho hn1 hn2) (fits_of w' hf' ho hn1 hn2) s1 s2)
    simp [this]
  rw [truth]
  exact win
end CL

/-! R1: lost_right (printed from R1.src by pp.py). -/
namespace CL
open PySem PySem.Spec PyProof.Rows L2 TM

@[irreducible] def sp__law_lost_right : CSp := fun ds g Q => ∃ (A : Addr) (es ts : List DeedS) (fa fb : F), ds = [.ref A, .tup (es.map deedD), .tup (ts.map deedD), .tup [woodD fa, woodD fb]] ∧ Pair es (fr fa) (fr fb) ∧ WdOk fa ∧ WdOk fb ∧ (∀ d ∈ es ++ ts, DeedOk d) ∧ (es ++ ts).length ≤ 10 ∧ (∃ ms : List Str, ms.length ≤ 3 ∧ ∀ x, Old (es ++ ts) x → x ∈ ms) ∧ Q (.bl true) g
theorem wd_of {f : F} (w : WdOk f) (g : Good (fr f)) : Wd f := ⟨fr_nd.mp g.nd, w.1, Nat.le_trans w.2 (by decide)⟩
theorem doOut_does {r : RowS} {es : List DeedS} {t : RowS} {d : D} (h : doneAll 0 r es = .does t) (o : doOut r es d) : ∃ f, fr f = t ∧ d = .tup [.str "does", woodD f] := by
  rcases o with ⟨t', f, h1, h2, rfl⟩ | ⟨i, w, h1, rfl⟩
  · rw [h] at h1
    injection h1 with h1
    exact ⟨f, by rw [h2, h1], rfl⟩
  · rw [h] at h1; cases h1
theorem fits_go {s : CSt} {g : GH} {R : CQ} {a b c : CE} {f : F} {os nw : List Str} (ha : EvE a s g (woodD f)) (hb : EvE b s g (tupS os)) (hc : EvE c s g (tupS nw)) (w : Wd f) (ho : os.length ≤ 100) (hn : nw.length ≤ 100) (q : ∀ b, (b = true → (∀ x ∈ os, x ≠ "" → x ∈ f.names) ∧ ∀ x ∈ nw, x ∉ f.names) → R (.bl b) g) : cCall sp__law_fits (cCons a (cCons b (cCons c cNil))) s g R :=
  ha _ (hb _ (hc _ (by unfold sp__law_fits; exact ⟨f, os, nw, rfl, w, ho, hn, q⟩)))
theorem pu__law_lost_right : ∀ ds g Q, sp__law_lost_right ds g Q → c__law_lost_right sp__law_do sp__law_roles sp__law_fits sp_loses { nx := fun _ g' => Fin Q .non g', rt := Fin Q } (cstart N__law_lost_right ds) g := by
  intro ds g Q h
  unfold sp__law_lost_right at h
  obtain ⟨A, es, ts, fa, fb, rfl, P, wa0, wb0, hd, hl, hms, q⟩ := h
  have wa := wd_of wa0 P.good
  have wb := wd_of wb0 P.good'
  have hd1 : ∀ d ∈ es, DeedOk d := fun d h => hd d (List.mem_append_left _ h)
  have hll := hl
  rw [List.length_append] at hll
  obtain ⟨t, s1, s2⟩ := P.same
  have win : Fin Q (.bl true) g := fin_of q
  have e0 : ∀ {o4 o5 o6 : Option D} {g : GH}, EvE (cOp fIx (cVar 3) (cC (.int 0))) [some (.ref A), some (.tup (es.map deedD)), some (.tup (ts.map deedD)), some (.tup [woodD fa, woodD fb]), o4, o5, o6] g (woodD fa) := ev_ix (xs := [woodD fa, woodD fb]) (ev_var rfl) ev_c rfl
  have e1 : ∀ {o4 o5 o6 : Option D} {g : GH}, EvE (cOp fIx (cVar 3) (cC (.int 1))) [some (.ref A), some (.tup (es.map deedD)), some (.tup (ts.map deedD)), some (.tup [woodD fa, woodD fb]), o4, o5, o6] g (woodD fb) := ev_ix (xs := [woodD fa, woodD fb]) (ev_var rfl) ev_c rfl
  have both : ∀ {o4 o5 o6 : Option D} {g : GH}, EvE (cOp fAdd (cVar 1) (cVar 2)) [some (.ref A), some (.tup (es.map deedD)), some (.tup (ts.map deedD)), some (.tup [woodD fa, woodD fb]), o4, o5, o6] g (.tup ((es ++ ts).map deedD)) := ev_op (ev_var rfl) (ev_var rfl) fun R w => ⟨lim_ok (by rw [List.length_map, List.length_map]; omega), by rw [List.map_append] at w; exact w⟩
  -- what the script does to the first
  refine ev_do (f := fa) (es := es) e0 (ev_var rfl) wa hd1 (by omega) fun d1 h1 => ?_
  obtain ⟨f1, g1, rfl⟩ := doOut_does s1 h1
  have t1 : EvT (cB (cOp (fEq true) (cOp fIx (cVar 4) (cC (.int 0))) (cC (.str "does")))) [some (.ref A), some (.tup (es.map deedD)), some (.tup (ts.map deedD)), some (.tup [woodD fa, woodD fb]), some (.tup [.str "does", woodD f1]), none, none] g (!decide (("does" : Str) = "does")) := ev_B (ev_neS (ev_ix (xs := [.str "does", woodD f1]) (ev_var rfl) ev_c rfl) ev_c)
  refine t1 _ (te2 (fun e => by simp at e) (fun _ => ?_))
  -- to the second
  refine ev_do (f := fb) (es := es) e1 (ev_var rfl) wb hd1 (by omega) fun d2 h2 => ?_
  obtain ⟨xs2, z2, ok2, pl2, de2⟩ := doOut_pl h2 (by have := wb.len; omega) wb.good
  obtain ⟨f2, g2, rfl⟩ := doOut_does s2 h2
  have ef : f2 = f1 := fr_inj (g2.trans g1.symm)
  subst ef
  injection z2 with z2
  subst z2
  have t2 : EvE (cOp (fEq true) (cC (.tup [.str "does", woodD f2])) (cVar 4)) [some (.ref A), some (.tup (es.map deedD)), some (.tup (ts.map deedD)), some (.tup [woodD fa, woodD fb]), some (.tup [.str "does", woodD f2]), none, none] g (.bl (!true)) := ev_eqT (neg := true) (e := true) ev_c (ev_var rfl) ok2 ok2 pl2 pl2 de2 ⟨fun _ => rfl, fun _ => rfl⟩
  refine t2 _ ⟨_, rfl, te2 (fun e => by cases e) (fun _ => ?_)⟩
  -- two woods
  have t3 : EvE (cOp (fEq false) (cOp fIx (cVar 3) (cC (.int 0))) (cOp fIx (cVar 3) (cC (.int 1)))) [some (.ref A), some (.tup (es.map deedD)), some (.tup (ts.map deedD)), some (.tup [woodD fa, woodD fb]), some (.tup [.str "does", woodD f2]), none, none] g (.bl false) := ev_eqT (neg := false) (e := false) e0 e1 (okF fa) (okF fb) (plF fa) (plF fb) (Nat.le_trans wa.dep (by decide)) ⟨fun e => (by cases e), fun e => absurd (congrArg fr (ft_inj e)) P.ne⟩
  refine t3 _ ⟨_, rfl, te2 (fun e => by cases e) (fun _ => ?_)⟩
  -- roles
  refine both _ ?_
  unfold sp__law_roles
  refine ⟨es ++ ts, rfl, by omega, fun os nw ho hn => ⟨[tupS os, tupS nw], rfl, rfl, ?_⟩⟩
  have ol : os.length ≤ 100 := by
    obtain ⟨ms, h1, h2⟩ := hms
    exact Nat.le_trans (nodup_len _ _ ho.1.1 fun x hx => h2 x ((ho.1.2 x).mp hx)) (by omega)
  have nl : nw.length ≤ 100 := by
    have h1 : nw.length ≤ (Snm (es ++ ts)).length := nodup_len _ _ hn.1 fun x hx => snm_or.mpr (.inr ((hn.2 x).mp hx))
    have h2 := occs_len (es ++ ts)
    unfold Snm at h1
    rw [List.length_map] at h1
    omega
  have fit : ∀ f, Wd f → ((∀ x ∈ os, x ≠ "" → x ∈ f.names) ∧ ∀ x ∈ nw, x ∉ f.names) → Fits (es ++ ts) (fr f) := fun f w h => ⟨w.good, fr_whole f, fun x hx => by
    have hne : x ≠ "" := ok_ne (old_ok hd (snm_or.mpr (.inl hx)))
    exact (fr_names f x).mpr (h.1 x ((ho.1.2 x).mpr hx) hne), fun x hx hb => h.2 x ((hn.2 x).mpr hx) ((fr_names f x).mp hb)⟩
  refine fits_go (f := fa) (os := os) (nw := nw) e0 (ev_var rfl) (ev_var rfl) wa ol nl fun b1 hb1 => ⟨b1, rfl, te2 (fun eb1 => ?_) (fun _ => te2 (fun e => by cases e) (fun _ => win))⟩
  refine fits_go (f := fb) (os := os) (nw := nw) e1 (ev_var rfl) (ev_var rfl) wb ol nl fun b2 hb2 => ⟨b2, rfl, te2 (fun eb2 => ?_) (fun _ => win)⟩
  have F1 := fit fa wa (hb1 eb1)
  have F2 := fit fb wb (hb2 eb2)
  refine ev_do (f := fa) (es := es ++ ts) e0 both wa hd (by omega) fun d3 h3 => ?_
  obtain ⟨x3, t3, e3, _, i3⟩ := doOut_0 h3
  subst e3
  have a3 : EvE (cOp (fEq false) (cOp fIx (cC (.tup (.str x3 :: t3))) (cC (.int 0))) (cC (.str "does"))) [some (.ref A), some (.tup (es.map deedD)), some (.tup (ts.map deedD)), some (.tup [woodD fa, woodD fb]), some (.tup [.str "does", woodD f2]), some (tupS os), some (tupS nw)] g (.bl (decide (x3 = "does"))) := ev_eqS (ev_ix ev_c ev_c (at_zero _ _)) ev_c
  refine a3 _ ⟨_, rfl, te2 (fun e => ?_) (fun _ => win)⟩
  obtain ⟨t', ht'⟩ := i3.mpr (by simpa using e)
  refine both _ ?_
  unfold sp_loses
  refine ⟨es ++ ts, rfl, hl, hd, hms, fun ns hns => ⟨fun lo => ?_, fun ga gb lo _ _ => ?_⟩⟩
  · exact absurd rfl (found_loses hns.1 P F1 F2 ht' lo)
  · exact ⟨rfl, win⟩
end CL

/-! GA: the clean bodies and their derivations (printed by gen.py). -/
namespace CL
open PySem PySem.Spec PyProof.Rows L2
section
variable {P : Program} {w : World} {K : PySem.W.Frag} {mg : Str → Option Value} {base : Heap}

/-! ### _law_deck -/
abbrev s__law_deck : Stmt := topS 40
abbrev N__law_deck : List Str := ["_law_script_here", "_law_great", "_law_mixed_here", "_law_cell", "_law_more"]
theorem sc__law_deck : FnScope N__law_deck ["_law_script_here"] (defScope s__law_deck) := ⟨rfl, rfl, rfl, by decide +kernel, rfl, by decide +kernel, by decide +kernel⟩
def c__law_deck   : CS :=
    (cSeq (cPar 1 2 (cCons (cC (.int 0)) (cCons (cOp fAdd (cC (.int 2917)) (cOp fMul (cC (.int 41)) (cCall fLen (cCons (cVar 0) cNil)))) cNil)))
    (cSeq (cFor (iT 3 (cSl (cVar 0) oNone (oSome (cC (.int 60))))) (cSeq (cSet 4 (cOp fAdd (cOp fAdd (cOp fMul (cC (.int 2)) (cCall fAbs (cCons (cVar 3) cNil))) (cCall fInt (cCons (cOp fLt (cVar 3) (cC (.int 0))) cNil))) (cC (.int 1))))
    (cSeq (cSet 2 (cOp fMod (cCall fInt (cCons (cOp fAdd (cOp fMul (cVar 2) (cC (.int 6364136223846793005))) (cVar 4)) cNil)) (cC (.int 2305843009213693951))))
    (cIfS (cB (cOp fGe (cCall fAbs (cCons (cVar 3) cNil)) (cOp fPow (cC (.int 10)) (cC (.int 18))))) (cSet 1 (cOp fAdd (cOp fMul (cVar 1) (cC (.int 37))) (cCall fAbs (cCons (cVar 3) cNil)))) cSkip))))
    (cRet (cLst (cCons (cVar 1) (cCons (cVar 2) (cCons (cC (.int 0)) cNil)))))))
theorem d__law_deck {f : Addr} {k : Nat} (B : Bl mg)   (cdv : Value) (A : Around) (outer : List Env) (s : Shared) (H : Hp) (E : XK) (hr : Room k (A.deeper (envOfC "_law_deck" (defScope s__law_deck) s.heap.objs.size f cdv))) :
    PSs (cxOf CX0 P w K mg base N__law_deck "_law_deck" (defScope s__law_deck) f cdv A outer s H E).nox (defBody s__law_deck) (liftS K (c__law_deck )) := by
  have hN := sc__law_deck.nd
  have hu := hu_of hr
  exact (scons (spar (i := 1) (j := 2) rfl hN (by decide) (kcons kint (kcons (kop op_addAll rel_add kint (kop op_mulAll rel_mul kint (kLen B rfl (kcons (kv 0) knil)))) knil)))
    (scons (sfor PassesOwn.never rfl (pi_tup (kslice (kv 0) konone (kosome kint))) (pg_name (i := 3) hN rfl (by first | exact Or.inl rfl | exact Or.inr rfl) (by first | exact .inl rfl | exact .inr rfl)) rel_T (scons (sset (i := 4) hN (kop op_addAll rel_add (kop op_addAll rel_add (kop op_mulAll rel_mul kint (kAbs B rfl (kcons (kv 3) knil))) (kInt B rfl (kcons (kcmp op_lt (rel_I0 fun _ _ _ => .bl _) (kv 3) kint) knil))) kint))
    (scons (sset (i := 2) hN (kop op_mod (rel_I fun _ _ _ => .int _) (kInt B rfl (kcons (kop op_addAll rel_add (kop op_mulAll rel_mul (kv 2) kint) (kv 4)) knil)) kint))
    (sone (sif (ktcmp op_ge (rel_I0 fun _ _ _ => .bl _) (kAbs B rfl (kcons (kv 3) knil)) (kop op_pow (rel_I fun _ _ _ => .int _) kint kint)) (sone (sset (i := 1) hN (kop op_addAll rel_add (kop op_mulAll rel_mul (kv 1) kint) (kAbs B rfl (kcons (kv 3) knil))))) snil)))))
    (sone (sret (klst (kcons (kv 1) (kcons (kv 2) (kcons kint knil))))))))

/-! ### law -/
abbrev s_law : Stmt := topS 67
abbrev N_law : List Str := ["_law_script_here", "_law_deck_here", "_law_turn", "_law_called", "_law_deeds", "_law_tail", "_law_found", "_law_old", "_law_others_here", "_law_again", "_law_sizes"]
theorem sc_law : FnScope N_law ["_law_script_here"] (defScope s_law) := ⟨rfl, rfl, rfl, by decide +kernel, rfl, by decide +kernel, by decide +kernel⟩
def c_law (p__law_deck : CSp) (p__law_draw : CSp) (p__law_menu : CSp) (p__law_script : CSp) (p__law_roles : CSp) (p_loses : CSp) (p__law_others : CSp) (p__law_kept_right : CSp) (p__law_lost_right : CSp) (p__law_pick : CSp) (p__law_many : CSp)  : CS :=
    (cSeq (cSet 1 (cCall p__law_deck (cCons (cVar 0) cNil)))
    (cSeq (cFor (iR1 2 (cCons (cC (.int 3)) cNil)) (cSeq (cSet 3 (cCall p__law_menu (cCons (cVar 1) (cCons (cOp fAdd (cC (.int 1)) (cCall p__law_draw (cCons (cVar 1) (cCons (cC (.int 3)) cNil)))) cNil))))
    (cSeq (cPar 4 5 (cCons (cCall p__law_script (cCons (cVar 1) (cCons (cVar 3) (cCons (cOp fIx (cLst (cCons (cC (.int 5)) (cCons (cC (.int 2)) (cCons (cC (.int 1)) cNil)))) (cVar 2)) cNil)))) (cCons (cCall p__law_script (cCons (cVar 1) (cCons (cVar 3) (cCons (cC (.int 3)) cNil)))) cNil)))
    (cSeq (cPar 6 7 (cCons (cCall p_loses (cCons (cVar 4) cNil)) (cCons (cCall fLstOf (cCons (cOp fIx (cCall p__law_roles (cCons (cVar 4) cNil)) (cC (.int 0))) cNil)) cNil)))
    (cSeq (cSet 8 (cCall p__law_others (cCons (cVar 3) (cCons (cCall p__law_draw (cCons (cVar 1) (cCons (cC (.int 5)) cNil))) cNil))))
    (cSeq (cIfS (cAnd (cB (cOp (fIs false) (cVar 6) (cC .non))) (cNot (cB (cCall p__law_kept_right (cCons (cVar 1) (cCons (cVar 4) (cCons (cOp fAdd (cVar 7) (cVar 8)) cNil))))))) (cRet (cC (.bl false))) cSkip)
    (cSeq (cIfS (cAnd (cB (cOp (fIs true) (cVar 6) (cC .non))) (cNot (cB (cCall p__law_lost_right (cCons (cVar 1) (cCons (cVar 4) (cCons (cVar 5) (cCons (cVar 6) cNil)))))))) (cRet (cC (.bl false))) cSkip)
    (cIfS (cB (cOp (fEq true) (cVar 7) (cLst cNil))) (cSeq (cSet 9 (cCall p_loses (cCons (cOp fAdd (cTup (cCons (cTup (cCons (cC (.str "turn")) (cCons (cCall p__law_pick (cCons (cVar 1) (cCons (cVar 7) cNil))) (cCons (cCall p__law_pick (cCons (cVar 1) (cCons (cVar 7) cNil))) cNil)))) cNil)) (cVar 4)) cNil)))
    (cSeq (cIfS (cB (cOp (fEq true) (cOp (fIs false) (cVar 9) (cC .non)) (cOp (fIs false) (cVar 6) (cC .non)))) (cRet (cC (.bl false))) cSkip)
    (cIfS (cB (cOp (fIs true) (cVar 6) (cC .non))) (cSeq (cSet 10 (cLst (cCons (cOp fAdd (cCall p__law_many (cCons (cOp fIx (cVar 6) (cC (.int 0))) cNil)) (cCall p__law_many (cCons (cOp fIx (cVar 6) (cC (.int 1))) cNil))) (cCons (cOp fAdd (cCall p__law_many (cCons (cOp fIx (cVar 9) (cC (.int 0))) cNil)) (cCall p__law_many (cCons (cOp fIx (cVar 9) (cC (.int 1))) cNil))) cNil))))
    (cIfS (cB (cOp (fEq true) (cOp fIx (cVar 10) (cC (.int 0))) (cOp fIx (cVar 10) (cC (.int 1))))) (cRet (cC (.bl false))) cSkip)) cSkip))) cSkip))))))))
    (cRet (cC (.bl true)))))
theorem d_law {f : Addr} {k : Nat} (B : Bl mg) {j__law_deck : Nat} {q__law_deck : List Str} {p__law_deck : CSp} (g__law_deck : CalC P w K mg base "_law_deck" j__law_deck q__law_deck p__law_deck) (l__law_deck : j__law_deck ≤ k) {j__law_draw : Nat} {q__law_draw : List Str} {p__law_draw : CSp} (g__law_draw : CalC P w K mg base "_law_draw" j__law_draw q__law_draw p__law_draw) (l__law_draw : j__law_draw ≤ k) {j__law_menu : Nat} {q__law_menu : List Str} {p__law_menu : CSp} (g__law_menu : CalC P w K mg base "_law_menu" j__law_menu q__law_menu p__law_menu) (l__law_menu : j__law_menu ≤ k) {j__law_script : Nat} {q__law_script : List Str} {p__law_script : CSp} (g__law_script : CalC P w K mg base "_law_script" j__law_script q__law_script p__law_script) (l__law_script : j__law_script ≤ k) {j__law_roles : Nat} {q__law_roles : List Str} {p__law_roles : CSp} (g__law_roles : CalC P w K mg base "_law_roles" j__law_roles q__law_roles p__law_roles) (l__law_roles : j__law_roles ≤ k) {j_loses : Nat} {q_loses : List Str} {p_loses : CSp} (g_loses : CalC P w K mg base "loses" j_loses q_loses p_loses) (l_loses : j_loses ≤ k) {j__law_others : Nat} {q__law_others : List Str} {p__law_others : CSp} (g__law_others : CalC P w K mg base "_law_others" j__law_others q__law_others p__law_others) (l__law_others : j__law_others ≤ k) {j__law_kept_right : Nat} {q__law_kept_right : List Str} {p__law_kept_right : CSp} (g__law_kept_right : CalC P w K mg base "_law_kept_right" j__law_kept_right q__law_kept_right p__law_kept_right) (l__law_kept_right : j__law_kept_right ≤ k) {j__law_lost_right : Nat} {q__law_lost_right : List Str} {p__law_lost_right : CSp} (g__law_lost_right : CalC P w K mg base "_law_lost_right" j__law_lost_right q__law_lost_right p__law_lost_right) (l__law_lost_right : j__law_lost_right ≤ k) {j__law_pick : Nat} {q__law_pick : List Str} {p__law_pick : CSp} (g__law_pick : CalC P w K mg base "_law_pick" j__law_pick q__law_pick p__law_pick) (l__law_pick : j__law_pick ≤ k) {j__law_many : Nat} {q__law_many : List Str} {p__law_many : CSp} (g__law_many : CalC P w K mg base "_law_many" j__law_many q__law_many p__law_many) (l__law_many : j__law_many ≤ k)  (cdv : Value) (A : Around) (outer : List Env) (s : Shared) (H : Hp) (E : XK) (hr : Room k (A.deeper (envOfC "law" (defScope s_law) s.heap.objs.size f cdv))) :
    PSs (cxOf CX0 P w K mg base N_law "law" (defScope s_law) f cdv A outer s H E).nox (defBody s_law) (liftS K (c_law p__law_deck p__law_draw p__law_menu p__law_script p__law_roles p_loses p__law_others p__law_kept_right p__law_lost_right p__law_pick p__law_many)) := by
  have hN := sc_law.nd
  have hu := hu_of hr
  exact (scons (sset (i := 1) hN (kc g__law_deck l__law_deck hr rfl (kcons (kv 0) knil)))
    (scons (sfor PassesOwn.never rfl (pi_range1 rfl B.rng (kcons kint knil)) (pg_name (i := 2) hN rfl (by first | exact Or.inl rfl | exact Or.inr rfl) (by first | exact .inl rfl | exact .inr rfl)) rel_R1 (scons (sset (i := 3) hN (kc g__law_menu l__law_menu hr rfl (kcons (kv 1) (kcons (kop op_addAll rel_add kint (kc g__law_draw l__law_draw hr rfl (kcons (kv 1) (kcons kint knil)))) knil))))
    (scons (spar (i := 4) (j := 5) rfl hN (by decide) (kcons (kc g__law_script l__law_script hr rfl (kcons (kv 1) (kcons (kv 3) (kcons (kix ix_seq rel_ix (klst (kcons kint (kcons kint (kcons kint knil)))) (kv 2)) knil)))) (kcons (kc g__law_script l__law_script hr rfl (kcons (kv 1) (kcons (kv 3) (kcons kint knil)))) knil)))
    (scons (spar (i := 6) (j := 7) rfl hN (by decide) (kcons (kc g_loses l_loses hr rfl (kcons (kv 4) knil)) (kcons (kLstOf B rfl (kcons (kix ix_seq rel_ix (kc g__law_roles l__law_roles hr rfl (kcons (kv 4) knil)) kint) knil)) knil)))
    (scons (sset (i := 8) hN (kc g__law_others l__law_others hr rfl (kcons (kv 3) (kcons (kc g__law_draw l__law_draw hr rfl (kcons (kv 1) (kcons kint knil))) knil))))
    (scons (sif (PW.pt (kand (ktcmp op_isN rel_is (kv 6) knon) (kand1 (knot (ktest (kc g__law_kept_right l__law_kept_right hr rfl (kcons (kv 1) (kcons (kv 4) (kcons (kop op_addAll rel_add (kv 7) (kv 8)) knil))))))))) (sone (sret kbl)) snil)
    (scons (sif (PW.pt (kand (ktcmp op_notN rel_isnt (kv 6) knon) (kand1 (knot (ktest (kc g__law_lost_right l__law_lost_right hr rfl (kcons (kv 1) (kcons (kv 4) (kcons (kv 5) (kcons (kv 6) knil)))))))))) (sone (sret kbl)) snil)
    (sone (sif (ktcmp (op_neP hr.units) (rel_eq true) (kv 7) (klst knil)) (scons (sset (i := 9) hN (kc g_loses l_loses hr rfl (kcons (kop op_addAll rel_add (ktup (kcons (ktup (kcons kstr (kcons (kc g__law_pick l__law_pick hr rfl (kcons (kv 1) (kcons (kv 7) knil))) (kcons (kc g__law_pick l__law_pick hr rfl (kcons (kv 1) (kcons (kv 7) knil))) knil)))) knil)) (kv 4)) knil)))
    (scons (sif (ktcmp (op_neP hr.units) (rel_eq true) (kcmp op_isN rel_is (kv 9) knon) (kcmp op_isN rel_is (kv 6) knon)) (sone (sret kbl)) snil)
    (sone (sif (ktcmp op_notN rel_isnt (kv 6) knon) (scons (sset (i := 10) hN (klst (kcons (kop op_addAll rel_add (kc g__law_many l__law_many hr rfl (kcons (kix ix_seq rel_ix (kv 6) kint) knil)) (kc g__law_many l__law_many hr rfl (kcons (kix ix_seq rel_ix (kv 6) kint) knil))) (kcons (kop op_addAll rel_add (kc g__law_many l__law_many hr rfl (kcons (kix ix_seq rel_ix (kv 9) kint) knil)) (kc g__law_many l__law_many hr rfl (kcons (kix ix_seq rel_ix (kv 9) kint) knil))) knil))))
    (sone (sif (ktcmp (op_neP hr.units) (rel_eq true) (kix ix_seq rel_ix (kv 10) kint) (kix ix_seq rel_ix (kv 10) kint)) (sone (sret kbl)) snil))) snil)))) snil)))))))))
    (sone (sret kbl))))

end
end CL

/-! R2: the law behind its first statement (printed from R2.src by pp.py). -/
namespace CL
open PySem PySem.Spec PyProof.Rows L2 TM

def foundD : Option (F × F) → D
  | none => .non
  | some (a, b) => .tup [woodD a, woodD b]
def FoundOk (ns : List Str) (es : List DeedS) : Option (F × F) → Prop
  | none => LoseOut ns es none
  | some (a, b) => LoseOut ns es (some (fr a, fr b)) ∧ WdOk a ∧ WdOk b
/-- a script over few names -/
structure ScOk (ms : List Str) (es : List DeedS) : Prop where
  ok : ∀ d ∈ es, DeedOk d
  sub : ∀ x ∈ Snm es, x ∈ ms
theorem sc_of {ms : List Str} {es : List DeedS} (h : ∀ d ∈ es, DeedIn ms d) : ScOk ms es := ⟨fun d hd => (h d hd).2, fun x hx => by
  rw [snm_names] at hx
  obtain ⟨d, hd, hx⟩ := List.mem_flatMap.mp hx
  exact (h d hd).1 x hx⟩
theorem ScOk.old {ms : List Str} {es : List DeedS} (h : ScOk ms es) : ∀ x, Old es x → x ∈ ms := fun x hx => h.sub x (snm_or.mpr (.inl hx))
theorem loses_go {s : CSt} {g : GH} {R : CQ} {a : CE} {es : List DeedS} {ms : List Str} (ha : EvE a s g (.tup (es.map deedD))) (hl : es.length ≤ 10) (S : ScOk ms es) (hm : ms.length ≤ 3) (q : ∀ ns, OldN ns es → ∀ fo, FoundOk ns es fo → R (foundD fo) g) : cCall sp_loses (cCons a cNil) s g R := by
  refine ha _ ?_
  unfold sp_loses
  exact ⟨es, rfl, hl, S.ok, ⟨ms, hm, S.old⟩, fun ns hns => ⟨fun lo => q ns hns none lo, fun fa fb lo wa wb => q ns hns (some (fa, fb)) ⟨lo, wa, wb⟩⟩⟩
theorem isNon_found (fo : Option (F × F)) : isNonD (foundD fo) = fo.isNone := by
  cases fo with
  | none => rfl
  | some p => rfl
theorem oth_ok : (othL.all fun x => decide (1 ≤ x.length ∧ x.length ≤ 100)) = true := by decide +kernel
theorem oth_nd : othL.Nodup := by decide +kernel
theorem oth_made : ("made" : Str) ∉ othL := by decide +kernel
theorem othS_sub {xs : List Str} {m : Nat} {x : Str} (h : x ∈ othS xs m) : x ∈ othL ∧ x ∉ xs := by
  have := List.mem_filter.mp (List.mem_of_mem_take h)
  exact ⟨this.1, by simpa using this.2⟩
theorem othS_nd (xs : List Str) (m : Nat) : (othS xs m).Nodup := List.Nodup.sublist (List.take_sublist _ _) (oth_nd.filter _)
theorem othS_len (xs : List Str) (m : Nat) : (othS xs m).length ≤ 14 := by
  unfold othS
  rw [List.length_take]
  have h1 := List.length_filter_le (fun x => decide (x ∉ xs)) othL
  have h2 : othL.length = 14 := by decide
  omega
theorem many_go {s : CSt} {g : GH} {c : CE} {f : F} (h : EvE c s g (woodD f)) (w : Wd f) : EvE (cCall sp__law_many (cCons c cNil)) s g (natD f.names.length) := ev_call (ev_cons h ev_nil) fun R q => by
  unfold sp__law_many
  exact ⟨f, rfl, w, q⟩
theorem found_wd {ns : List Str} {es : List DeedS} {a b : F} (h : FoundOk ns es (some (a, b))) : Wd a ∧ Wd b := ⟨wd_of h.2.1 h.1.1.good, wd_of h.2.2 h.1.1.good'⟩
abbrev lwAgain : CS := (cIfS (cB (cOp (fEq true) (cVar 7) (cLst cNil))) (cSeq (cSet 9 (cCall sp_loses (cCons (cOp fAdd (cTup (cCons (cTup (cCons (cC (.str "turn")) (cCons (cCall sp__law_pick (cCons (cVar 1) (cCons (cVar 7) cNil))) (cCons (cCall sp__law_pick (cCons (cVar 1) (cCons (cVar 7) cNil))) cNil)))) cNil)) (cVar 4)) cNil)))
    (cSeq (cIfS (cB (cOp (fEq true) (cOp (fIs false) (cVar 9) (cC .non)) (cOp (fIs false) (cVar 6) (cC .non)))) (cRet (cC (.bl false))) cSkip)
    (cIfS (cB (cOp (fIs true) (cVar 6) (cC .non))) (cSeq (cSet 10 (cLst (cCons (cOp fAdd (cCall sp__law_many (cCons (cOp fIx (cVar 6) (cC (.int 0))) cNil)) (cCall sp__law_many (cCons (cOp fIx (cVar 6) (cC (.int 1))) cNil))) (cCons (cOp fAdd (cCall sp__law_many (cCons (cOp fIx (cVar 9) (cC (.int 0))) cNil)) (cCall sp__law_many (cCons (cOp fIx (cVar 9) (cC (.int 1))) cNil))) cNil))))
    (cIfS (cB (cOp (fEq true) (cOp fIx (cVar 10) (cC (.int 0))) (cOp fIx (cVar 10) (cC (.int 1))))) (cRet (cC (.bl false))) cSkip)) cSkip))) cSkip)
theorem law_again {A O : Addr} {k : Dk} {g : GH} {es : List DeedS} {ms os : List Str} {fo : Option (F × F)} {d0 : Option D} {d2 d3 d5 d8 : Option D} {o9 o10 : Option D} {C : CEnds} (hOA : O ≠ A) (hA : g A = some k.m) (hO : g O = some (.lst (os.map D.str))) (S : ScOk ms es) (hm : ms.length ≤ 3) (hl : es.length ≤ 5) (hos : OldN os es) (hf : FoundOk os es fo)
    (q : ∀ g' (k' : Dk) o9 o10, g' A = some k'.m → C.nx [d0, some (.ref A), d2, d3, some (.tup (es.map deedD)), d5, some (foundD fo), some (.ref O), d8, o9, o10] g') :
    lwAgain C [d0, some (.ref A), d2, d3, some (.tup (es.map deedD)), d5, some (foundD fo), some (.ref O), d8, o9, o10] g := by
  refine ev_neNil (ev_var rfl) hO (ok_strs os) fun E hE => ?_
  have hA1 := gup_free (o := .lst []) hA hE
  have hO1 := gup_free (o := .lst []) hO hE
  generalize gupd g E (.lst []) = g1 at hA1 hO1
  refine te2 (fun e => ?_) (fun _ => q g1 k _ _ hA1)
  have pos : 1 ≤ os.length := by
    cases os with
    | nil => cases e
    | cons => simp
  have few : os.length ≤ 3 := Nat.le_trans (nodup_len _ _ hos.1.1 fun x hx => S.old x ((hos.1.2 x).mp hx)) hm
  refine pick_ref (xs := os) (ev_var rfl) (ev_var rfl) hA1 hO1 hOA pos (by omega) fun x hx k1 => ?_
  refine pick_ref (xs := os) (ev_var rfl) (ev_var rfl) gupd_same ((gupd_ne hOA).trans hO1) hOA pos (by omega) fun y hy k2 => ?_
  rw [gupd_gupd]
  have hA2 : (gupd g1 A k2.m) A = some k2.m := gupd_same
  generalize gupd g1 A k2.m = g2 at hA2
  refine ⟨lim_ok (by simp), lim_ok (by simp), ?_⟩
  have ed : D.tup [.str "turn", .str x, .str y] = deedD ⟨.turn, x, y⟩ := rfl
  have hox := (hos.1.2 x).mp hx
  have hoy := (hos.1.2 y).mp hy
  have S2 : ScOk ms (⟨.turn, x, y⟩ :: es) := ⟨fun d hd => by
    rcases List.mem_cons.mp hd with rfl | hd
    · exact ⟨old_ok S.ok (snm_or.mpr (.inl hox)), old_ok S.ok (snm_or.mpr (.inl hoy))⟩
    · exact S.ok d hd, fun z hz => by
    rw [snm_names, List.flatMap_cons, ← snm_names] at hz
    rcases List.mem_append.mp hz with h | h
    · have : z = x ∨ z = y := by simpa [Deed.names, W.two] using h
      rcases this with e | e
      · rw [e]; exact S.old x hox
      · rw [e]; exact S.old y hoy
    · exact S.sub z h⟩
  refine ⟨_, rfl, lim_ok (by rw [List.length_map]; simp; omega), ?_⟩
  show sp_loses [.tup ((⟨.turn, x, y⟩ :: es : List DeedS).map deedD)] g2 _
  unfold sp_loses
  have fin : ∀ ns, OldN ns (⟨.turn, x, y⟩ :: es) → ∀ fo', FoundOk ns (⟨.turn, x, y⟩ :: es) fo' → (cSeq (cIfS (cB (cOp (fEq true) (cOp (fIs false) (cVar 9) (cC .non)) (cOp (fIs false) (cVar 6) (cC .non)))) (cRet (cC (.bl false))) cSkip)
    (cIfS (cB (cOp (fIs true) (cVar 6) (cC .non))) (cSeq (cSet 10 (cLst (cCons (cOp fAdd (cCall sp__law_many (cCons (cOp fIx (cVar 6) (cC (.int 0))) cNil)) (cCall sp__law_many (cCons (cOp fIx (cVar 6) (cC (.int 1))) cNil))) (cCons (cOp fAdd (cCall sp__law_many (cCons (cOp fIx (cVar 9) (cC (.int 0))) cNil)) (cCall sp__law_many (cCons (cOp fIx (cVar 9) (cC (.int 1))) cNil))) cNil))))
    (cIfS (cB (cOp (fEq true) (cOp fIx (cVar 10) (cC (.int 0))) (cOp fIx (cVar 10) (cC (.int 1))))) (cRet (cC (.bl false))) cSkip)) cSkip)) C [d0, some (.ref A), d2, d3, some (.tup (es.map deedD)), d5, some (foundD fo), some (.ref O), d8, some (foundD fo'), o10] g2 := fun ns hns fo' hf' => by
    have toOut : ∀ {ns : List Str} {es : List DeedS} {fo : Option (F × F)}, FoundOk ns es fo → LoseOut ns es (fo.map fun p => (fr p.1, fr p.2)) := fun {ns es fo} h => by
      cases fo with
      | none => exact h
      | some p => exact h.1
    obtain ⟨t1, t2⟩ := turn_out hos.1 hns.1 hox hoy (toOut hf) (toOut hf')
    have same : fo'.isNone = fo.isNone := by
      cases fo with
      | none =>
        cases fo' with
        | none => rfl
        | some p => have := t1.mp rfl; cases this
      | some p =>
        cases fo' with
        | none => have := t1.mpr rfl; cases this
        | some p => rfl
    have e9 : EvE (cOp (fIs false) (cVar 9) (cC .non)) [d0, some (.ref A), d2, d3, some (.tup (es.map deedD)), d5, some (foundD fo), some (.ref O), d8, some (foundD fo'), o10] g2 (.bl fo.isNone) := ev_op (ev_var (d := foundD fo') rfl) ev_c fun R w => ⟨rfl, by
      rw [if_neg Bool.false_ne_true, isNon_found, same]; exact w⟩
    have e6 : EvE (cOp (fIs false) (cVar 6) (cC .non)) [d0, some (.ref A), d2, d3, some (.tup (es.map deedD)), d5, some (foundD fo), some (.ref O), d8, some (foundD fo'), o10] g2 (.bl fo.isNone) := ev_op (ev_var (d := foundD fo) rfl) ev_c fun R w => ⟨rfl, by
      rw [if_neg Bool.false_ne_true, isNon_found]; exact w⟩
    have tt : EvT (cB (cOp (fEq true) (cOp (fIs false) (cVar 9) (cC .non)) (cOp (fIs false) (cVar 6) (cC .non)))) [d0, some (.ref A), d2, d3, some (.tup (es.map deedD)), d5, some (foundD fo), some (.ref O), d8, some (foundD fo'), o10] g2 false := ev_B (ev_op e9 e6 fun R w => by
      show R (.bl (if true = true then !decide (fo.isNone = fo.isNone) else decide (fo.isNone = fo.isNone))) g2
      rw [if_pos rfl, decide_eq_true rfl]
      exact w)
    refine ev_ifs tt (fun e => by cases e) (fun _ => ?_)
    refine ev_if (ev_isnt (x := foundD fo) (ev_var rfl)) (fun e => ?_) (fun _ => q g2 k2 _ _ hA2)
    rw [isNon_found] at e
    cases fo with
    | none => cases e
    | some p =>
      cases fo' with
      | none => cases same
      | some p' =>
        obtain ⟨a, b⟩ := p
        obtain ⟨c, d⟩ := p'
        obtain ⟨wa, wb⟩ := found_wd hf
        obtain ⟨wc, wd⟩ := found_wd hf'
        have sz : (fr a).length + (fr b).length = (fr c).length + (fr d).length := t2 _ _ _ _ rfl rfl
        rw [fr_len, fr_len, fr_len, fr_len] at sz
        have m1 : EvE (cOp fAdd (cCall sp__law_many (cCons (cOp fIx (cVar 6) (cC (.int 0))) cNil)) (cCall sp__law_many (cCons (cOp fIx (cVar 6) (cC (.int 1))) cNil))) [d0, some (.ref A), d2, d3, some (.tup (es.map deedD)), d5, some (foundD (some (a, b))), some (.ref O), d8, some (foundD (some (c, d))), o10] g2 (natD (a.names.length + b.names.length)) := ev_addN (many_go (ev_ix (xs := [woodD a, woodD b]) (ev_var rfl) ev_c rfl) wa) (many_go (ev_ix (xs := [woodD a, woodD b]) (ev_var rfl) ev_c rfl) wb)
        have m2 : EvE (cOp fAdd (cCall sp__law_many (cCons (cOp fIx (cVar 9) (cC (.int 0))) cNil)) (cCall sp__law_many (cCons (cOp fIx (cVar 9) (cC (.int 1))) cNil))) [d0, some (.ref A), d2, d3, some (.tup (es.map deedD)), d5, some (foundD (some (a, b))), some (.ref O), d8, some (foundD (some (c, d))), o10] g2 (natD (c.names.length + d.names.length)) := ev_addN (many_go (ev_ix (xs := [woodD c, woodD d]) (ev_var rfl) ev_c rfl) wc) (many_go (ev_ix (xs := [woodD c, woodD d]) (ev_var rfl) ev_c rfl) wd)
        refine m1 _ (m2 _ ⟨lim_ok (by simp), fun p hp => ?_⟩)
        have hA3 := gup_free (o := .lst [natD (a.names.length + b.names.length), natD (c.names.length + d.names.length)]) hA2 hp
        have gp : (gupd g2 p (.lst [natD (a.names.length + b.names.length), natD (c.names.length + d.names.length)])) p = some (.lst [natD (a.names.length + b.names.length), natD (c.names.length + d.names.length)]) := gupd_same
        dsimp only
        generalize gupd g2 p (.lst [natD (a.names.length + b.names.length), natD (c.names.length + d.names.length)]) = g3 at hA3 gp
        have tz : EvT (cB (cOp (fEq true) (cOp fIx (cVar 10) (cC (.int 0))) (cOp fIx (cVar 10) (cC (.int 1))))) [d0, some (.ref A), d2, d3, some (.tup (es.map deedD)), d5, some (foundD (some (a, b))), some (.ref O), d8, some (foundD (some (c, d))), some (.ref p)] g3 false := ev_B (ev_op (ev_ixL (ev_var rfl) gp ev_c rfl) (ev_ixL (ev_var rfl) gp ev_c rfl) fun R w => by
          have e : a.names.length + b.names.length = c.names.length + d.names.length := by omega
          show R (.bl (if true = true then !decide (((a.names.length + b.names.length : Nat) : Int) = ((c.names.length + d.names.length : Nat) : Int)) else _)) g3
          rw [if_pos rfl, e, decide_eq_true rfl]
          exact w)
        refine ev_if tz (fun e => by cases e) (fun _ => q g3 k2 _ _ hA3)
  refine ⟨⟨.turn, x, y⟩ :: es, rfl, by simp; omega, S2.ok, ⟨ms, hm, S2.old⟩, fun ns hns => ⟨fun lo => fin ns hns none lo, fun fa fb lo wa wb => fin ns hns (some (fa, fb)) ⟨lo, wa, wb⟩⟩⟩
abbrev lwTurn : CS := (cSeq (cSet 3 (cCall sp__law_menu (cCons (cVar 1) (cCons (cOp fAdd (cC (.int 1)) (cCall sp__law_draw (cCons (cVar 1) (cCons (cC (.int 3)) cNil)))) cNil))))
    (cSeq (cPar 4 5 (cCons (cCall sp__law_script (cCons (cVar 1) (cCons (cVar 3) (cCons (cOp fIx (cLst (cCons (cC (.int 5)) (cCons (cC (.int 2)) (cCons (cC (.int 1)) cNil)))) (cVar 2)) cNil)))) (cCons (cCall sp__law_script (cCons (cVar 1) (cCons (cVar 3) (cCons (cC (.int 3)) cNil)))) cNil)))
    (cSeq (cPar 6 7 (cCons (cCall sp_loses (cCons (cVar 4) cNil)) (cCons (cCall fLstOf (cCons (cOp fIx (cCall sp__law_roles (cCons (cVar 4) cNil)) (cC (.int 0))) cNil)) cNil)))
    (cSeq (cSet 8 (cCall sp__law_others (cCons (cVar 3) (cCons (cCall sp__law_draw (cCons (cVar 1) (cCons (cC (.int 5)) cNil))) cNil))))
    (cSeq (cIfS (cAnd (cB (cOp (fIs false) (cVar 6) (cC .non))) (cNot (cB (cCall sp__law_kept_right (cCons (cVar 1) (cCons (cVar 4) (cCons (cOp fAdd (cVar 7) (cVar 8)) cNil))))))) (cRet (cC (.bl false))) cSkip)
    (cSeq (cIfS (cAnd (cB (cOp (fIs true) (cVar 6) (cC .non))) (cNot (cB (cCall sp__law_lost_right (cCons (cVar 1) (cCons (cVar 4) (cCons (cVar 5) (cCons (cVar 6) cNil)))))))) (cRet (cC (.bl false))) cSkip)
    lwAgain))))))
theorem law_turn {A : Addr} {k : Dk} {g : GH} {d0 : Option D} {i : Nat} {o3 o4 o5 o6 o7 o8 o9 o10 : Option D} {C : CEnds} (hi : i < 3) (hA : g A = some k.m)
    (q : ∀ g' (k' : Dk) o3 o4 o5 o6 o7 o8 o9 o10, g' A = some k'.m → C.nx [d0, some (.ref A), some (natD i), o3, o4, o5, o6, o7, o8, o9, o10] g') :
    lwTurn C [d0, some (.ref A), some (natD i), o3, o4, o5, o6, o7, o8, o9, o10] g := by
  -- the names
  refine ⟨_, rfl, ?_⟩
  refine ev_draw (n := 3) (ev_var rfl) ev_c hA (by decide) (by decide) fun j k1 hj => ?_
  have ej : (D.int (1 + (j : Int))) = natD (1 + j) := congrArg D.int (by omega)
  show sp__law_menu [.ref A, .int (1 + (j : Int))] (gupd g A k1.m) _
  rw [ej]
  unfold sp__law_menu
  refine ⟨A, k1, 1 + j, rfl, gupd_same, by omega, by omega, fun xs k2 hxl hxok => ?_⟩
  rw [gupd_gupd]
  have hA2 : (gupd g A k2.m) A = some k2.m := gupd_same
  generalize gupd g A k2.m = g2 at hA2
  -- the names that the scripts hold
  obtain ⟨ms, N, hms, hsub⟩ : ∃ ms : List Str, NmIn xs ms ∧ ms.length ≤ 3 ∧ ∀ x ∈ ms, x ∈ xs ∨ x = "made" := by
    by_cases h1 : xs.length = 1
    · refine ⟨xs ++ [("made" : Str)], ⟨fun x hx => List.mem_append_left _ hx, fun _ => by simp, fun x hx => ?_, by omega, by omega⟩, by simp [h1], fun x hx => ?_⟩
      · rcases List.mem_append.mp hx with h | h
        · exact hxok x h
        · rw [List.mem_singleton.mp h]
          unfold NmOk
          decide +kernel
      · rcases List.mem_append.mp hx with h | h
        · exact .inl h
        · exact .inr (List.mem_singleton.mp h)
    · exact ⟨xs, ⟨fun x hx => hx, fun h => absurd h h1, hxok, by omega, by omega⟩, by omega, fun x hx => .inl hx⟩
  -- the scripts
  refine ⟨_, rfl, _, rfl, lim_ok (by simp), fun p hp => ?_⟩
  have hA3 := gup_free (o := .lst [natD 5, natD 2, natD 1]) hA2 hp
  have gp : (gupd g2 p (.lst [natD 5, natD 2, natD 1])) p = some (.lst [natD 5, natD 2, natD 1]) := gupd_same
  refine ⟨_, rfl, ?_⟩
  have most : ∃ mo : Nat, mo ≤ 5 ∧ atI [natD 5, natD 2, natD 1] (i : Int) = some (natD mo) := by
    rcases (show i = 0 ∨ i = 1 ∨ i = 2 by omega) with rfl | rfl | rfl
    · exact ⟨5, by decide, rfl⟩
    · exact ⟨2, by decide, rfl⟩
    · exact ⟨1, by decide, rfl⟩
  obtain ⟨mo, hmo, hat⟩ := most
  refine ⟨_, _, gp, hat, ?_⟩
  show sp__law_script [.ref A, tupS xs, natD mo] (gupd g2 p (.lst [natD 5, natD 2, natD 1])) _
  generalize gupd g2 p (.lst [natD 5, natD 2, natD 1]) = g3 at hA3 gp
  unfold sp__law_script
  refine ⟨A, k2, xs, ms, mo, rfl, hA3, N, by omega, fun es k3 hel hes => ?_⟩
  refine ⟨_, rfl, _, rfl, ⟨A, k3, xs, ms, 3, rfl, gupd_same, N, by omega, fun ts k4 htl hts => ?_⟩⟩
  rw [gupd_gupd]
  refine ⟨_, _, rfl, ?_⟩
  have hA4 : (gupd g3 A k4.m) A = some k4.m := gupd_same
  dsimp only
  generalize gupd g3 A k4.m = g4 at hA4
  have S := sc_of hes
  have S2 : ScOk ms (es ++ ts) := sc_of fun d hd => (List.mem_append.mp hd).elim (hes d) (hts d)
  -- what loses finds, the old names
  refine loses_go (es := es) (ms := ms) (ev_var rfl) (by omega) S hms fun ns hns fo hf => ?_
  refine ⟨_, rfl, ?_⟩
  unfold sp__law_roles
  refine ⟨es, rfl, by omega, fun os nw ho _ => ?_⟩
  have eo : ns = os := srt_uniq ns os hns.2 ho.2 hns.1.1 ho.1.1 fun x => (hns.1.2 x).trans (ho.1.2 x).symm
  subst eo
  refine ⟨_, rfl, fun O hO => ?_⟩
  refine ⟨_, _, rfl, ?_⟩
  have hOA : O ≠ A := fun e => by rw [e, hA4] at hO; cases hO
  have hA5 := gup_free (o := .lst (ns.map D.str)) hA4 hO
  have gO5 : (gupd g4 O (.lst (ns.map D.str))) O = some (.lst (ns.map D.str)) := gupd_same
  dsimp only
  generalize gupd g4 O (.lst (ns.map D.str)) = g5 at hA5 gO5
  -- others
  refine ⟨_, rfl, ?_⟩
  refine ev_draw (n := 5) (ev_var rfl) ev_c hA5 (by decide) (by decide) fun c k5 hc => ?_
  have hA6 : (gupd g5 A k5.m) A = some k5.m := gupd_same
  have gO6 : (gupd g5 A k5.m) O = some (.lst (ns.map D.str)) := (gupd_ne hOA).trans gO5
  generalize gupd g5 A k5.m = g6 at hA6 gO6
  unfold sp__law_others
  refine ⟨xs, c, rfl, fun T hT => ?_⟩
  have hA7 := gup_free (o := .lst ((othS xs c).map D.str)) hA6 hT
  have gO7 := gup_free (o := .lst ((othS xs c).map D.str)) gO6 hT
  have gT7 : (gupd g6 T (.lst ((othS xs c).map D.str))) T = some (.lst ((othS xs c).map D.str)) := gupd_same
  generalize gupd g6 T (.lst ((othS xs c).map D.str)) = g7 at hA7 gO7 gT7
  have nsm : ∀ x ∈ ns, x ∈ ms := fun x hx => S.old x ((hns.1.2 x).mp hx)
  have nlen : ns.length ≤ 3 := Nat.le_trans (nodup_len _ _ hns.1.1 nsm) hms
  have far : ∀ x ∈ othS xs c, x ∉ ms := fun x hx hm => by
    obtain ⟨h1, h2⟩ := othS_sub hx
    rcases hsub x hm with h | h
    · exact h2 h
    · exact oth_made (h ▸ h1)
  -- the rest of the turn
  have tail : ∀ g8 (k8 : Dk), g8 A = some k8.m → g8 O = some (.lst (ns.map D.str)) → (fo.isNone = true ∨ fo.isNone = false) → (cSeq (cIfS (cAnd (cB (cOp (fIs true) (cVar 6) (cC .non))) (cNot (cB (cCall sp__law_lost_right (cCons (cVar 1) (cCons (cVar 4) (cCons (cVar 5) (cCons (cVar 6) cNil)))))))) (cRet (cC (.bl false))) cSkip)
    lwAgain) C [d0, some (.ref A), some (natD i), some (tupS xs), some (.tup (es.map deedD)), some (.tup (ts.map deedD)), some (foundD fo), some (.ref O), some (.ref T), o9, o10] g8 := fun g8 k8 hA8 gO8 _ => by
    have again := law_again (A := A) (O := O) (k := k8) (g := g8) (es := es) (ms := ms) (os := ns) (fo := fo) (d0 := d0) (d2 := some (natD i)) (d3 := some (tupS xs)) (d5 := some (.tup (ts.map deedD))) (d8 := some (.ref T)) (o9 := o9) (o10 := o10) (C := C) hOA hA8 gO8 S hms (by omega) hns hf fun g' k' o9 o10 h => q g' k' _ _ _ _ _ _ _ _ h
    refine ev_isnt (x := foundD fo) (ev_var rfl) _ (te2 (fun e => ?_) (fun _ => te2 (fun e => by cases e) (fun _ => again)))
    rw [isNon_found] at e
    cases fo with
    | none => cases e
    | some p =>
      obtain ⟨a, b⟩ := p
      obtain ⟨lo, wa, wb⟩ := hf
      refine ⟨_, rfl, _, rfl, _, rfl, _, rfl, ?_⟩
      unfold sp__law_lost_right
      refine ⟨A, es, ts, a, b, rfl, lo.1, wa, wb, S2.ok, by rw [List.length_append]; omega, ⟨ms, hms, S2.old⟩, ?_⟩
      exact ⟨true, rfl, te2 (fun e => by cases e) (fun _ => again)⟩
  refine ev_is (x := foundD fo) (ev_var rfl) _ (te2 (fun e => ?_) (fun _ => te2 (fun e => by cases e) (fun _ => tail g7 k5 hA7 gO7 (by cases fo <;> simp))))
  rw [isNon_found] at e
  cases fo with
  | some p => cases e
  | none =>
    refine ⟨_, rfl, _, rfl, _, rfl, _, rfl, _, _, gO7, gT7, ?_, fun L hL => ?_⟩
    · have := othS_len xs c
      exact lim_ok (by rw [List.length_map, List.length_map]; omega)
    rw [← List.map_append]
    have hA8 := gup_free (o := .lst ((ns ++ othS xs c).map D.str)) hA7 hL
    have gO8 := gup_free (o := .lst ((ns ++ othS xs c).map D.str)) gO7 hL
    have gL8 : (gupd g7 L (.lst ((ns ++ othS xs c).map D.str))) L = some (.lst ((ns ++ othS xs c).map D.str)) := gupd_same
    show sp__law_kept_right [.ref A, .tup (es.map deedD), .ref L] (gupd g7 L (.lst ((ns ++ othS xs c).map D.str))) _
    generalize gupd g7 L (.lst ((ns ++ othS xs c).map D.str)) = g8 at hA8 gO8 gL8
    unfold sp__law_kept_right
    refine ⟨A, L, k5, es, ns ++ othS xs c, rfl, hA8, gL8, ?_, fun x hx => ?_, ?_, S.ok, by omega, ⟨ns, hns.1, hf, fun x hx => List.mem_append_left _ hx, fun x hx => ?_⟩, fun k' => ?_⟩
    · refine List.nodup_append.mpr ⟨hns.1.1, othS_nd xs c, fun a ha b hb e => ?_⟩
      exact far b hb (e ▸ nsm a ha)
    · rcases List.mem_append.mp hx with h | h
      · exact N.ok x (nsm x h)
      · unfold NmOk
        exact of_decide_eq_true (List.all_eq_true.mp oth_ok x (othS_sub h).1)
    · have := othS_len xs c
      rw [List.length_append]
      omega
    · rcases List.mem_append.mp hx with h | h
      · exact .inl h
      · exact .inr fun h2 => far x h (S.sub x h2)
    · refine ⟨true, rfl, te2 (fun e => by cases e) (fun _ => ?_)⟩
      exact tail _ k' gupd_same ((gupd_ne hOA).trans gO8) (.inl rfl)
abbrev lawRest : CS := cSeq (cFor (iR1 2 (cCons (cC (.int 3)) cNil)) lwTurn) (cRet (cC (.bl true)))
theorem pu_lawRest {A : Addr} {k : Dk} {g : GH} {d0 : Option D} {C : CEnds} (hA : g A = some k.m) (q : ∀ g', C.rt (.bl true) g') : lawRest C [d0, some (.ref A), none, none, none, none, none, none, none, none, none] g := by
  refine ⟨3, rfl, by decide, by decide, ?_⟩
  refine ⟨trivial, law_turn (i := 0) (by decide) hA fun g1 k1 o3 o4 o5 o6 o7 o8 o9 o10 h1 => ?_⟩
  refine ⟨trivial, law_turn (i := 1) (by decide) h1 fun g2 k2 o3 o4 o5 o6 o7 o8 o9 o10 h2 => ?_⟩
  refine ⟨trivial, law_turn (i := 2) (by decide) h2 fun g3 k3 o3 o4 o5 o6 o7 o8 o9 o10 h3 => ?_⟩
  exact ⟨trivial, q g3⟩
end CL

/-! R3: _law_deck: the script is a list that is read alone. -/
namespace CL
open PySem PySem.Spec PyProof.Rows L2 TM

theorem for_imp {K : PySem.W.Frag} {c : CI} {wi : TI} {gt : TG} {cb : CS} {E : Ends} {σ : L2.St} {H : Hp} (hr : RelI K c wi gt) (h : liftS K (cFor c cb) E σ H) : tFor wi gt (liftS K cb) E σ H := by
  obtain ⟨s, g, C, rs, rg, p, l⟩ := h
  refine hr σ H s g _ _ rs rg p ?_
  intro tgs chk g1 H1 J p1 e1 rg1 w
  refine ⟨fun i m σ' H' => m + i = tgs.length ∧ ∃ s' g', Ext H1 H' ∧ RS K H' σ' s' ∧ RG K H' g' ∧ cLoop cb C chk (tgs.drop i) s' g', ⟨tgs.length, rfl, s, g1, .refl _, rs.mono e1, rg1, p1⟩, ?_⟩
  rintro i m σ' H' ⟨hm, s', g', e', rs', rg', p'⟩
  cases hd : tgs.drop i with
  | nil =>
    rw [hd] at p'
    have hi : i = tgs.length := by
      have := congrArg List.length hd
      rw [List.length_drop] at this
      simp at this
      omega
    refine .inl ⟨?_, l.nx s' g' H' σ' p'.2 (e1.trans e') rg' rs'⟩
    rw [hi]
    exact w.stop H' g' e' rg' p'.1
  | cons t ts =>
    rw [hd] at p'
    have hlt : i < tgs.length := by
      have := congrArg List.length hd
      rw [List.length_drop] at this
      simp at this
      omega
    have ht : tgs[i]? = some t := by
      have := congrArg List.head? hd
      rw [List.head?_drop] at this
      simpa using this
    have hts : tgs.drop (i + 1) = ts := by
      have := congrArg List.tail hd
      rw [List.tail_drop] at this
      simpa using this
    obtain ⟨hgo, hy⟩ := w.go i t H' g' e' rg' p'.1 ht
    refine .inr ⟨hgo, fun σ2 H2 => ∃ m', m' < m ∧ m' + (i + 1) = tgs.length ∧ ∃ s2 g2, Ext H1 H2 ∧ RS K H2 σ2 s2 ∧ RG K H2 g2 ∧ cLoop cb C chk (tgs.drop (i + 1)) s2 g2, fun σ2 H2 q => q, ?_⟩
    intro x H2 y
    refine hy x H2 y σ' s' rs' _ ?_
    intro σ2 H3 e3 _ rg3 rs3
    have l' := l.mono ((e1.trans e').trans e3)
    refine ⟨t s', g', _, rs3, rg3, p'.2, ⟨?_, l'.rt, l'.nx, ?_⟩⟩
    · intro s4 g4 H4 σ4 p4 e4 rg4 rs4
      exact ⟨m - 1, by omega, by omega, s4, g4, (e'.trans e3).trans e4, rs4, rg4, by rw [hts]; exact p4⟩
    · intro s4 g4 H4 σ4 p4 e4 rg4 rs4
      exact ⟨m - 1, by omega, by omega, s4, g4, (e'.trans e3).trans e4, rs4, rg4, by rw [hts]; exact p4⟩
abbrev dkBody : CS := (cSeq (cSet 4 (cOp fAdd (cOp fAdd (cOp fMul (cC (.int 2)) (cCall fAbs (cCons (cVar 3) cNil))) (cCall fInt (cCons (cOp fLt (cVar 3) (cC (.int 0))) cNil))) (cC (.int 1))))
    (cSeq (cSet 2 (cOp fMod (cCall fInt (cCons (cOp fAdd (cOp fMul (cVar 2) (cC (.int 6364136223846793005))) (cVar 4)) cNil)) (cC (.int 2305843009213693951))))
    (cIfS (cB (cOp fGe (cCall fAbs (cCons (cVar 3) cNil)) (cOp fPow (cC (.int 10)) (cC (.int 18))))) (cSet 1 (cOp fAdd (cOp fMul (cVar 1) (cC (.int 37))) (cCall fAbs (cCons (cVar 3) cNil)))) cSkip)))
abbrev dkLast : CS := cRet (cLst (cCons (cVar 1) (cCons (cVar 2) (cCons (cC (.int 0)) cNil))))
theorem ev_abs {s : CSt} {g : GH} {c : CE} {i : Int} (h : EvE c s g (.int i)) : EvE (cCall fAbs (cCons c cNil)) s g (.int (if i < 0 then -i else i)) := ev_call (ev_cons h ev_nil) fun R w => w
theorem dk_loop {p : Addr} {C : CEnds} {g : GH} {ds : List D} (gp : g p = some (.lst ds)) (q : ∀ a b o3 o4, C.nx [none, some (.int a), some (.int b), o3, o4] g) : ∀ (is : List Int) (a b : Int) (o3 o4 : Option D), cLoop dkBody C (fun g => g p = some (.lst ds)) (is.map fun i s => s.set 3 (some (D.int i))) [none, some (.int a), some (.int b), o3, o4] g
  | [], a, b, o3, o4 => ⟨gp, q a b o3 o4⟩
  | i :: is, a, b, o3, o4 => by
    refine ⟨gp, ?_⟩
    have lt : EvE (cOp fLt (cVar 3) (cC (.int 0))) [none, some (.int a), some (.int b), some (.int i), o4] g (.bl (decide (i < 0))) := ev_op (ev_var (d := .int i) rfl) (ev_c (d := .int 0)) fun R w => ⟨trivial, w⟩
    have m1 : CMul 2 (if i < 0 then -i else i) := .inl (by decide)
    have e4 : EvE (cOp fAdd (cOp fAdd (cOp fMul (cC (.int 2)) (cCall fAbs (cCons (cVar 3) cNil))) (cCall fInt (cCons (cOp fLt (cVar 3) (cC (.int 0))) cNil))) (cC (.int 1))) [none, some (.int a), some (.int b), some (.int i), o4] g (.int (2 * (if i < 0 then -i else i) + (if decide (i < 0) = true then 1 else 0) + 1)) :=
      ev_plus (ev_plus (ev_times (i := 2) ev_c (ev_abs (ev_var rfl)) m1) (ev_call (ev_cons lt ev_nil) fun R w => w)) ev_c
    refine ev_sets e4 ?_
    generalize (2 * (if i < 0 then -i else i) + (if decide (i < 0) = true then 1 else 0) + 1) = m
    have m2 : CMul b 6364136223846793005 := .inr (by decide)
    refine ev_sets (ev_mod (j := 2305843009213693951) (ev_int (ev_plus (ev_times (j := 6364136223846793005) (ev_var rfl) ev_c m2) (ev_var (d := .int m) rfl))) ev_c (by decide)) ?_
    generalize (b * 6364136223846793005 + m) % 2305843009213693951 = b2
    have pw : EvE (cOp fPow (cC (.int 10)) (cC (.int 18))) [none, some (.int a), some (.int b2), some (.int i), some (.int m)] g (.int (10 ^ 18)) := ev_op (ev_c (d := .int 10)) (ev_c (d := .int 18)) fun R w => ⟨⟨by decide, by decide, by decide⟩, w⟩
    have ge : EvT (cB (cOp fGe (cCall fAbs (cCons (cVar 3) cNil)) (cOp fPow (cC (.int 10)) (cC (.int 18))))) [none, some (.int a), some (.int b2), some (.int i), some (.int m)] g (decide ((10 ^ 18 : Int) ≤ (if i < 0 then -i else i))) := ev_B (ev_op (ev_abs (i := i) (ev_var rfl)) pw fun R w => ⟨trivial, w⟩)
    refine ev_if ge (fun _ => ?_) (fun _ => dk_loop gp q is a b2 _ _)
    have m3 : CMul a 37 := .inr (by decide)
    refine ev_set (ev_plus (ev_times (j := 37) (ev_var rfl) ev_c m3) (ev_abs (i := i) (ev_var rfl))) ?_
    exact dk_loop gp q is _ b2 _ _
theorem dk_pure {p : Addr} {g : GH} {is : List Int} {m0 : Int} {C : CEnds} (gp : g p = some (.lst (is.map D.int))) (q : ∀ (A : Addr) (k : Dk) g', g' A = some k.m → C.rt (.ref A) g') : cSeq (cFor (iL 3 (cC (.ref p))) dkBody) dkLast C [none, some (.int 0), some (.int m0), none, none] g := by
  refine ⟨p, _, rfl, gp, ?_⟩
  rw [onEach_map]
  refine dk_loop gp (fun a b o3 o4 => ?_) is 0 m0 none none
  refine ⟨_, rfl, _, rfl, lim_ok (by simp), fun A hA => ?_⟩
  exact q A ⟨a, b, 0⟩ _ gupd_same
abbrev tDeck (K : PySem.W.Frag) : TS := tSeq (tPar 1 2 (tCons (tC (.int 0)) (tCons (tOp (rAddAll K) (tC (.int 2917)) (tOp (fun x y H Q => rI CMul (fun i j => .int (i * j)) x y H Q ∨ rRep x y H Q) (tC (.int 41)) (tCB (rLenAll K) (tCons (tVar 0) tNil)))) tNil)))
  (tSeq (tFor (iList K (tSl (rSlAll K) (tVar 0) tNoPart (tPart (tC (.int 60))))) (gName 3) (liftS K dkBody)) (liftS K dkLast))
section
variable {P : Program} {w : World} {K : PySem.W.Frag} {mg : Str → Option Value} {base : Heap}
theorem d_deck {f : Addr} {k : Nat} (B : Bl mg) (cdv : Value) (A : Around) (outer : List Env) (s : Shared) (H : Hp) (E : XK) (hr : Room k (A.deeper (envOfC "_law_deck" (defScope s__law_deck) s.heap.objs.size f cdv))) :
    PSs (cxOf CX0 P w K mg base N__law_deck "_law_deck" (defScope s__law_deck) f cdv A outer s H E).nox (defBody s__law_deck) (tDeck K) := by
  have hN := sc__law_deck.nd
  have hu := hu_of hr
  exact pss_cons (ps_par rfl hN rfl rfl (by decide) rfl rfl (pa_cons pe_int (pa_cons (pe_op op_addAll pe_int (pe_op op_mulAll pe_int (pe_callB call_lenAll rfl B.len (by decide +kernel) (pa_cons (pe_var rfl (Or.inl rfl)) pa_nil)))) pa_nil)) rfl)
    (pss_cons (ps_for PassesOwn.never rfl (pi_list (pe_slice sl_all (pe_var rfl (Or.inl rfl)) po_none (po_some pe_int))) (pg_name (i := 3) hN rfl (by first | exact Or.inl rfl | exact Or.inr rfl) (by first | exact .inl rfl | exact .inr rfl)) (scons (sset (i := 4) hN (kop op_addAll rel_add (kop op_addAll rel_add (kop op_mulAll rel_mul kint (kAbs B rfl (kcons (kv 3) knil))) (kInt B rfl (kcons (kcmp op_lt (rel_I0 fun _ _ _ => .bl _) (kv 3) kint) knil))) kint))
    (scons (sset (i := 2) hN (kop op_mod (rel_I fun _ _ _ => .int _) (kInt B rfl (kcons (kop op_addAll rel_add (kop op_mulAll rel_mul (kv 2) kint) (kv 4)) knil)) kint))
    (sone (sif (ktcmp op_ge (rel_I0 fun _ _ _ => .bl _) (kAbs B rfl (kcons (kv 3) knil)) (kop op_pow (rel_I fun _ _ _ => .int _) kint kint)) (sone (sset (i := 1) hN (kop op_addAll rel_add (kop op_mulAll rel_mul (kv 1) kint) (kAbs B rfl (kcons (kv 3) knil))))) snil)))))
    (sone (sret (klst (kcons (kv 1) (kcons (kv 2) (kcons kint knil)))))))

/-- what the deck is made of -/
def spDeck (K : PySem.W.Frag) : Sp := fun vs H Q _ => ∃ (a : Addr) (ns : List Int), vs = [.ref a] ∧ SqL K H a (ns.map V.int) ∧ ∀ (A : Addr) (k : Dk) (H' : Hp), Ext H H' → H' A = some (.lst [.int k.a, .int k.b, .int k.n]) → Q (.ref A) H'
theorem cut_ints (ns : List Int) : cutV (ns.map V.int) none (some 60) = (ns.take 60).map V.int := by
  have := cut_t (ns.map V.int) 60
  rw [← List.map_take] at this
  exact this
theorem ok_deck {f : Addr} {fd : FuncData} (F : Fun K "_law_deck" "_law_deck" s__law_deck f fd) (B : Bl mg) : FnOk P w K mg base CX0 1 f fd ["_law_script_here"] (spDeck K) := by
  refine F.ok sc__law_deck ?_ ?_
  · rintro vs H Q E ⟨a, ns, rfl, _⟩
    rfl
  · rintro cdv A outer s H vs Q E hr ⟨a, ns, rfl, hS, q⟩
    refine ⟨tDeck K, d_deck B cdv A outer s H E hr, ?_⟩
    refine ⟨.ref a, rfl, .inl ⟨a, _, rfl, .inl hS, ?_⟩⟩
    refine .inl ⟨41, _, rfl, rfl, .inl (by decide), ?_⟩
    refine .inl ⟨2917, _, rfl, rfl, ?_⟩
    refine ⟨_, _, rfl, ?_⟩
    refine ⟨.ref a, rfl, 60, rfl, .inr (.inl ⟨a, _, rfl, hS, fun p hp => ?_⟩)⟩
    rw [cut_ints]
    have e0 : Ext H (upd H p (.lst ((ns.take 60).map V.int))) := Ext.new hp
    have hl : (upd H p (.lst ((ns.take 60).map V.int))) p = some (.lst ((ns.take 60).map V.int)) := upd_same
    generalize upd H p (.lst ((ns.take 60).map V.int)) = H1 at e0 hl
    refine ⟨p, rfl, ⟨_, .of hl⟩, ?_⟩
    -- the store: the slice alone
    have rg : RG K H1 (gupd (fun _ => none) p (.lst ((ns.take 60).map D.int))) := fun b m hm => by
      by_cases e : b = p
      · rw [e, gupd_same] at hm
        injection hm with hm
        refine ⟨_, by rw [e]; exact hl, ?_⟩
        rw [← hm]
        show RepL K H1 ((ns.take 60).map V.int) ((ns.take 60).map D.int)
        generalize ns.take 60 = l
        induction l with
        | nil => exact .nil
        | cons i l ih => exact .cons (.int i) ih
      · rw [gupd_ne e] at hm; cases hm
    have whole : ∀ D0 : Ends, (∀ (A : Addr) (k : Dk) (H' : Hp), Ext H1 H' → H' A = some (.lst [.int k.a, .int k.b, .int k.n]) → D0.rt (.ref A) H') → ∀ m0 : Int, tFor (iList K (liftE K (cC (.ref p)))) (gName 3) (liftS K dkBody) { D0 with nx := liftS K dkLast D0 } [some (.ref a), some (.int 0), some (.int m0), none, none] H1 := fun D0 hD m0 => by
      refine for_imp rel_L ?_
      have C : CEnds := { nx := fun _ _ => False, rt := fun d g' => ∃ (A : Addr) (k : Dk), d = .ref A ∧ g' A = some k.m }
      refine ⟨[none, some (.int 0), some (.int m0), none, none], _, { nx := fun s' g' => dkLast { nx := fun _ _ => False, rt := fun d g' => ∃ (A : Addr) (k : Dk), d = .ref A ∧ g' A = some k.m } s' g', rt := fun d g' => ∃ (A : Addr) (k : Dk), d = .ref A ∧ g' A = some k.m }, ?_, rg, ?_, ?_⟩
      · exact .cons (fun d e => by cases e) (.cons (fun d e => by cases e; exact ⟨_, rfl, .int 0⟩) (.cons (fun d e => by cases e; exact ⟨_, rfl, .int m0⟩) (.cons (fun d e => by cases e) (.cons (fun d e => by cases e) .nil))))
      · exact dk_pure (C := { nx := fun _ _ => False, rt := fun d g' => ∃ (A : Addr) (k : Dk), d = .ref A ∧ g' A = some k.m }) gupd_same fun A k g' h => ⟨A, k, rfl, h⟩
      · have rt : ∀ (d : D) (g' : GH) (H' : Hp) (v : V), (∃ (A : Addr) (k : Dk), d = .ref A ∧ g' A = some k.m) → Ext H1 H' → RG K H' g' → Rep K H' v d → D0.rt v H' := by
          rintro d g' H' v ⟨A, k, rfl, hA⟩ e rg' r
          cases r
          obtain ⟨us, hu, ru⟩ := rg'.lst hA
          have : us = [V.int k.a, V.int k.b, V.int k.n] := by
            cases ru with
            | cons r1 ru =>
              cases ru with
              | cons r2 ru =>
                cases ru with
                | cons r3 ru =>
                  cases ru
                  cases r1; cases r2; cases r3
                  rfl
          rw [this] at hu
          exact hD A k H' e hu
        refine ⟨?_, rt, fun _ _ _ _ q _ _ _ => q.elim, fun _ _ _ _ q _ _ _ => q.elim⟩
        intro s' g' H' σ' p' e' rg' rs'
        exact ⟨s', g', _, rs', rg', p', ⟨fun _ _ _ _ q _ _ _ => q.elim, fun d g2 H2 v q e2 rg2 r => rt d g2 H2 v q (e'.trans e2) rg2 r, fun _ _ _ _ q _ _ _ => q.elim, fun _ _ _ _ q _ _ _ => q.elim⟩⟩
    obtain ⟨s1, g1, P1, rs1, rg1, p1, l1⟩ := whole { nx := fun _ H' => Q .non H', rt := Q } (fun A k H' e h => q A k H' (e0.trans e) h) (2917 + 41 * (((ns.map V.int).length : Nat) : Int))
    obtain ⟨a', ea, _, r⟩ := l1 (.ref p) g1 H1 (.ref p) p1 (.refl H1) rg1 (.ref p)
    cases ea
    exact r
end
end CL

/-! R4: the law's def (printed by genlaw.py). -/
namespace CL
open PySem PySem.Spec PyProof.Rows L2 TM
section
variable {P : Program} {w : World} {K : PySem.W.Frag} {mg : Str → Option Value} {base : Heap}
abbrev tLaw (K : PySem.W.Frag) : TS := tSeq (tAsg (tCall (spDeck K) [] (fun _ _ _ => False) (tCons (tVar 0) tNil)) (gName 1)) (liftS K lawRest)
theorem d_lawAll {f fk : Addr} {fdk : FuncData} {k : Nat} (B : Bl mg) (FD : FnOk P w K mg base CX0 1 fk fdk ["_law_script_here"] (spDeck K)) (hm : mg "_law_deck" = some (.ref fk)) (hkp : PySem.W.keepIn K (.ref fk) = true) (hb : Binds K fdk ["_law_script_here"] []) (hk1 : 1 ≤ k) {j__law_draw : Nat} {q__law_draw : List Str} (g__law_draw : CalC P w K mg base "_law_draw" j__law_draw q__law_draw sp__law_draw) (l__law_draw : j__law_draw ≤ k) {j__law_menu : Nat} {q__law_menu : List Str} (g__law_menu : CalC P w K mg base "_law_menu" j__law_menu q__law_menu sp__law_menu) (l__law_menu : j__law_menu ≤ k) {j__law_script : Nat} {q__law_script : List Str} (g__law_script : CalC P w K mg base "_law_script" j__law_script q__law_script sp__law_script) (l__law_script : j__law_script ≤ k) {j__law_roles : Nat} {q__law_roles : List Str} (g__law_roles : CalC P w K mg base "_law_roles" j__law_roles q__law_roles sp__law_roles) (l__law_roles : j__law_roles ≤ k) {j_loses : Nat} {q_loses : List Str} (g_loses : CalC P w K mg base "loses" j_loses q_loses sp_loses) (l_loses : j_loses ≤ k) {j__law_others : Nat} {q__law_others : List Str} (g__law_others : CalC P w K mg base "_law_others" j__law_others q__law_others sp__law_others) (l__law_others : j__law_others ≤ k) {j__law_kept_right : Nat} {q__law_kept_right : List Str} (g__law_kept_right : CalC P w K mg base "_law_kept_right" j__law_kept_right q__law_kept_right sp__law_kept_right) (l__law_kept_right : j__law_kept_right ≤ k) {j__law_lost_right : Nat} {q__law_lost_right : List Str} (g__law_lost_right : CalC P w K mg base "_law_lost_right" j__law_lost_right q__law_lost_right sp__law_lost_right) (l__law_lost_right : j__law_lost_right ≤ k) {j__law_pick : Nat} {q__law_pick : List Str} (g__law_pick : CalC P w K mg base "_law_pick" j__law_pick q__law_pick sp__law_pick) (l__law_pick : j__law_pick ≤ k) {j__law_many : Nat} {q__law_many : List Str} (g__law_many : CalC P w K mg base "_law_many" j__law_many q__law_many sp__law_many) (l__law_many : j__law_many ≤ k) (cdv : Value) (A : Around) (outer : List Env) (s : Shared) (H : Hp) (E : XK) (hr : Room k (A.deeper (envOfC "law" (defScope s_law) s.heap.objs.size f cdv))) :
    PSs (cxOf CX0 P w K mg base N_law "law" (defScope s_law) f cdv A outer s H E).nox (defBody s_law) (tLaw K) := by
  have hN := sc_law.nd
  have hu := hu_of hr
  exact pss_cons (ps_set hN rfl (Or.inl rfl) (pe_call FD (hr.mono hk1) rfl hm hkp hb .nil pass0 (pa_cons (pe_var rfl (Or.inl rfl)) pa_nil)) rfl (.inl rfl))
    (scons (sfor PassesOwn.never rfl (pi_range1 rfl B.rng (kcons kint knil)) (pg_name (i := 2) hN rfl (by first | exact Or.inl rfl | exact Or.inr rfl) (by first | exact .inl rfl | exact .inr rfl)) rel_R1 (scons (sset (i := 3) hN (kc g__law_menu l__law_menu hr rfl (kcons (kv 1) (kcons (kop op_addAll rel_add kint (kc g__law_draw l__law_draw hr rfl (kcons (kv 1) (kcons kint knil)))) knil))))
    (scons (spar (i := 4) (j := 5) rfl hN (by decide) (kcons (kc g__law_script l__law_script hr rfl (kcons (kv 1) (kcons (kv 3) (kcons (kix ix_seq rel_ix (klst (kcons kint (kcons kint (kcons kint knil)))) (kv 2)) knil)))) (kcons (kc g__law_script l__law_script hr rfl (kcons (kv 1) (kcons (kv 3) (kcons kint knil)))) knil)))
    (scons (spar (i := 6) (j := 7) rfl hN (by decide) (kcons (kc g_loses l_loses hr rfl (kcons (kv 4) knil)) (kcons (kLstOf B rfl (kcons (kix ix_seq rel_ix (kc g__law_roles l__law_roles hr rfl (kcons (kv 4) knil)) kint) knil)) knil)))
    (scons (sset (i := 8) hN (kc g__law_others l__law_others hr rfl (kcons (kv 3) (kcons (kc g__law_draw l__law_draw hr rfl (kcons (kv 1) (kcons kint knil))) knil))))
    (scons (sif (PW.pt (kand (ktcmp op_isN rel_is (kv 6) knon) (kand1 (knot (ktest (kc g__law_kept_right l__law_kept_right hr rfl (kcons (kv 1) (kcons (kv 4) (kcons (kop op_addAll rel_add (kv 7) (kv 8)) knil))))))))) (sone (sret kbl)) snil)
    (scons (sif (PW.pt (kand (ktcmp op_notN rel_isnt (kv 6) knon) (kand1 (knot (ktest (kc g__law_lost_right l__law_lost_right hr rfl (kcons (kv 1) (kcons (kv 4) (kcons (kv 5) (kcons (kv 6) knil)))))))))) (sone (sret kbl)) snil)
    (sone (sif (ktcmp (op_neP hr.units) (rel_eq true) (kv 7) (klst knil)) (scons (sset (i := 9) hN (kc g_loses l_loses hr rfl (kcons (kop op_addAll rel_add (ktup (kcons (ktup (kcons kstr (kcons (kc g__law_pick l__law_pick hr rfl (kcons (kv 1) (kcons (kv 7) knil))) (kcons (kc g__law_pick l__law_pick hr rfl (kcons (kv 1) (kcons (kv 7) knil))) knil)))) knil)) (kv 4)) knil)))
    (scons (sif (ktcmp (op_neP hr.units) (rel_eq true) (kcmp op_isN rel_is (kv 9) knon) (kcmp op_isN rel_is (kv 6) knon)) (sone (sret kbl)) snil)
    (sone (sif (ktcmp op_notN rel_isnt (kv 6) knon) (scons (sset (i := 10) hN (klst (kcons (kop op_addAll rel_add (kc g__law_many l__law_many hr rfl (kcons (kix ix_seq rel_ix (kv 6) kint) knil)) (kc g__law_many l__law_many hr rfl (kcons (kix ix_seq rel_ix (kv 6) kint) knil))) (kcons (kop op_addAll rel_add (kc g__law_many l__law_many hr rfl (kcons (kix ix_seq rel_ix (kv 9) kint) knil)) (kc g__law_many l__law_many hr rfl (kcons (kix ix_seq rel_ix (kv 9) kint) knil))) knil))))
    (sone (sif (ktcmp (op_neP hr.units) (rel_eq true) (kix ix_seq rel_ix (kv 10) kint) (kix ix_seq rel_ix (kv 10) kint)) (sone (sret kbl)) snil))) snil)))) snil)))))))))
    (sone (sret kbl)))
end
end CL

/-! R5: the law's promise. -/
namespace CL
open PySem PySem.Spec PyProof.Rows L2 TM
section
variable {P : Program} {w : World} {K : PySem.W.Frag} {mg : Str → Option Value} {base : Heap}
def spLaw (K : PySem.W.Frag) : Sp := fun vs H Q _ => ∃ (a : Addr) (ns : List Int), vs = [.ref a] ∧ SqL K H a (ns.map V.int) ∧ ∀ H', Q (.bl true) H'
theorem law_run {a : Addr} {ns : List Int} {H : Hp} {D0 : Ends} (hS : SqL K H a (ns.map V.int)) (q : ∀ H', D0.rt (.bl true) H') : tLaw K D0 (L2.start N_law [.ref a]) H := by
  refine ⟨.ref a, rfl, ⟨a, ns, rfl, hS, fun A k H' e hA => ?_⟩⟩
  have rg : RG K H' (gupd (fun _ => none) A k.m) := fun b m hm => by
    by_cases e : b = A
    · rw [e, gupd_same] at hm
      injection hm with hm
      refine ⟨_, by rw [e]; exact hA, ?_⟩
      rw [← hm]
      exact .cons (.int _) (.cons (.int _) (.cons (.int _) .nil))
    · rw [gupd_ne e] at hm; cases hm
  refine ⟨[none, some (.ref A), none, none, none, none, none, none, none, none, none], _, { nx := fun _ _ => False, rt := fun d _ => d = .bl true }, ?_, rg, pu_lawRest (k := k) gupd_same (fun _ => rfl), ⟨fun _ _ _ _ q _ _ _ => q.elim, ?_, fun _ _ _ _ q _ _ _ => q.elim, fun _ _ _ _ q _ _ _ => q.elim⟩⟩
  · have no : ∀ o : Option V, ∀ d : D, (none : Option D) = some d → ∃ v, o = some v ∧ Rep K H' v d := fun o d e => by cases e
    exact .cons (no _) (.cons (fun d e => by cases e; exact ⟨_, rfl, .ref A⟩) (.cons (no _) (.cons (no _) (.cons (no _) (.cons (no _) (.cons (no _) (.cons (no _) (.cons (no _) (.cons (no _) (.cons (no _) .nil))))))))))
  · rintro d g' H2 v rfl e2 rg2 r
    cases r
    exact q H2
end
end CL

/-! S0: Stopped, its __init__. -/
namespace CL
open PySem PySem.Spec PyProof.Rows L2 TM
abbrev s_init : Stmt := inClass (topS 24) 0
abbrev N_init : List Str := ["self", "index", "word"]
theorem sc_init : FnScope N_init ["self", "index", "word"] (defScope s_init) := ⟨rfl, rfl, rfl, by decide +kernel, rfl, by decide +kernel, by decide +kernel⟩
/-- what the written part says of Stopped, at C, its __init__ at fI -/
structure StC (K : PySem.W.Frag) (mg : Str → Option Value) (C fI : Addr) : Prop where
  ox : OexC K C
  gC : mg "Stopped" = some (.ref C)
  nI : PySem.W.findIn K (.ref C) "index" = some none
  nW : PySem.W.findIn K (.ref C) "word" = some none
  iC : PySem.W.findIn K (.ref C) "__init__" = some (some (.ref fI))
  tI : PySem.W.typeIn K (.ref fI) = some (.type "function")
  ga : PySem.W.findIn K (.ref C) "__getattribute__" = some (some (.builtin "BaseException.__getattribute__"))
  gg : PySem.W.findIn K (.ref C) "__getattr__" = some none
  hd : PySem.W.hasDictIn K C = true
  te : PySem.W.exmOne K (.ref C) (.ref C) = some true
/-- its fields -/
def stF (i w : V) : List (Str × V) := [("word", w), ("index", i)]
def spInit (C : Addr) : Sp := fun vs H Q _ => ∃ (a : Addr) (i w : V), vs = [.ref a, i, w] ∧ H a = some (exo a C none) ∧ ∀ d, H d = none → d ≠ a → Q .non (upd (upd (upd H d (exd d [(("index" : Str), i)])) a (exo a C (some d))) d (exd d (stF i w)))
section
variable {P : Program} {w : World} {K : PySem.W.Frag} {mg : Str → Option Value} {base : Heap} {C fI : Addr}
theorem ok_init {fd : FuncData} (F : Fun K "__init__" "Stopped.__init__" s_init fI fd) (T : StC K mg C fI) : FnOk P w K mg base CX0 1 fI fd ["self", "index", "word"] (spInit C) := by
  refine F.ok sc_init (fun vs H Q E h => ?_) (fun cdv A outer s H vs Q E hr h => ?_)
  · obtain ⟨a, i, w, rfl, _⟩ := h
    rfl
  · obtain ⟨a, i, w, rfl, ha, q⟩ := h
    refine ⟨_, pss_cons (ps_ost (pv 0) (pv 1) rfl) (pss_one (ps_ost (pv 0) (pv 2) rfl)), ?_⟩
    refine ⟨_, rfl, _, rfl, a, C, rfl, T.ox, T.nI, .inl ⟨ha, fun d hd hne => ?_⟩⟩
    refine ⟨_, rfl, _, rfl, a, C, rfl, T.ox, T.nW, .inr ⟨d, _, upd_same, ?_, by simp, q d hd hne⟩⟩
    rw [upd_ne hne, upd_same]
end
end CL

/-! S1: do_script. -/
namespace CL
open PySem PySem.Spec PyProof.Rows L2 TM
abbrev s_do : Stmt := topS 32
abbrev N_do : List Str := ["wood", "script", "result"]
theorem sc_do : FnScope N_do ["wood", "script"] (defScope s_do) := ⟨rfl, rfl, rfl, by decide +kernel, rfl, by decide +kernel, by decide +kernel⟩
/-- the wood behind the script, or Stopped -/
def spDo (K : PySem.W.Frag) (C : Addr) : Sp := fun vs H Q E => ∃ (g : GH) (f : F) (es : List DeedS), RepL K H vs [woodD f, .tup (es.map deedD)] ∧ RG K H g ∧ Wd f ∧ (∀ d ∈ es, DeedOk d) ∧ es.length ≤ 20 ∧
  (∀ t f' H' v, doneAll 0 (fr f) es = .does t → fr f' = t → Ext H H' → RG K H' g → Rep K H' v (woodD f') → Q v H') ∧
  (∀ i w H' d, doneAll 0 (fr f) es = .stops i w → Ext H H' → RG K H' g → H' d = none → E (.ref C) (some d) (upd H' d (.xd (stF (.int (i : Nat)) (.str (stS w))))))
abbrev tDo (K : PySem.W.Frag) (C : Addr) (E : XK) : TS :=
  tSeq (liftS K (cSet 2 (cCall sp_done_all (cCons (cCall sp_row_of (cCons (cVar 0) cNil)) (cCons (cVar 1) cNil)))))
  (tSeq (tIfS (liftT K (cB (cOp (fEq false) (cOp fIx (cVar 2) (cC (.int 0))) (cC (.str "stops"))))) (fun _ σ H => tMkO C (spInit C) [] (liftA K (cCons (cOp fIx (cVar 2) (cC (.int 1))) (cCons (cOp fIx (cVar 2) (cC (.int 2))) cNil))) σ H fun cls d H' => (fun cls d _ H => E cls d H : WX) cls d σ H') tNext)
  (liftS K (cRet (cCall sp_wood_from (cCons (cOp fIx (cVar 2) (cC (.int 1))) cNil)))))
section
variable {P : Program} {w : World} {K : PySem.W.Frag} {mg : Str → Option Value} {base : Heap} {C fI : Addr}
theorem d_do {f : Addr} {fdI : FuncData} {k : Nat} (T : StC K mg C fI) (FI : FnOk P w K mg base CX0 1 fI fdI ["self", "index", "word"] (spInit C)) (bI : Binds K fdI ["self", "index", "word"] []) {j1 j2 j3 : Nat} {q1 q2 q3 : List Str} (g1 : CalC P w K mg base "done_all" j1 q1 sp_done_all) (l1 : j1 ≤ k) (g2 : CalC P w K mg base "row_of" j2 q2 sp_row_of) (l2 : j2 ≤ k) (g3 : CalC P w K mg base "wood_from" j3 q3 sp_wood_from) (l3 : j3 ≤ k) (hk : 2 ≤ k)
    (cdv : Value) (A : Around) (outer : List Env) (s : Shared) (H : Hp) (E : XK) (hr : Room k (A.deeper (envOfC "do_script" (defScope s_do) s.heap.objs.size f cdv))) :
    PSs (cxOf (L2.CX P w) P w K mg base N_do "do_script" (defScope s_do) f cdv A outer s H E) (defBody s_do) (tDo K C E) := by
  have hN := sc_do.nd
  exact pss_cons (sset (i := 2) hN (kc g1 l1 hr rfl (kcons (kc g2 l2 hr rfl (kcons (kv 0) knil)) (kcons (kv 1) knil))))
    (pss_cons (ps_if (ktcmp (op_eqP hr.units) (rel_eq false) (kix ix_seq rel_ix (kv 2) kint) kstr) (pss_one (ps_raise rfl (takes_of rfl rfl rfl rfl) (pmk_oex T.ox T.iC T.tI FI (hr.mono hk) bI .nil pass0 rfl T.gC (kcons (kix ix_seq rel_ix (kv 2) kint) (kcons (kix ix_seq rel_ix (kv 2) kint) knil))))) pss_nil)
    (pss_one (sret (kc g3 l3 hr rfl (kcons (kix ix_seq rel_ix (kv 2) kint) knil)))))

/-- what stands behind a script is a wood -/
theorem does_wood {f : F} {es : List DeedS} {t : RowS} (w : Wd f) (hd : ∀ d ∈ es, DeedOk d) (hl : es.length ≤ 20) (h : doneAll 0 (fr f) es = .does t) : ∃ f', fr f' = t ∧ (∀ x ∈ f'.names, NmOk x) ∧ f'.names.length ≤ 1000 := by
  have G := doneAll_good es 0 _ t w.good h
  have Wt : Whole t := fun z hz => by
    cases z with
    | n b x => rfl
    | g k => exact fr_whole f _ (doneAll_gap es 0 _ t h hz)
  obtain ⟨f', hf'⟩ := row_wood _ t (Nat.le_refl _) Wt G.bal
  refine ⟨f', hf', fun x hx => ?_, ?_⟩
  · have := (fr_names f' x).mpr hx
    rw [hf'] at this
    rcases doneAll_end es 0 _ t h this with q | q
    · exact w.ok x ((fr_names f x).mp q)
    · exact old_ok hd q
  · have h1 := doneAll_len es 0 _ t w.good h
    have h2 := w.len
    have h3 := fr_len f'
    rw [hf'] at h3
    omega
theorem do_run {C : Addr} {vs : List V} {H : Hp} {Q : VK} {E : XK} (h : spDo K C vs H Q E) : tDo K C E { nx := fun _ H' => Q .non H', rt := Q } (L2.start N_do vs) H := by
  obtain ⟨g, f, es, r, rg, w, hd, hl, q1, q2⟩ := h
  have wl := w.few
  refine ⟨cstart N_do [woodD f, .tup (es.map deedD)], g, { nx := fun s' g' => s' = [some (woodD f), some (.tup (es.map deedD)), some (resD (doneAll 0 (fr f) es))] ∧ g' = g, rt := fun _ _ => False }, rs_start r, rg, ?_, ⟨?_, fun _ _ _ _ z _ _ _ => z.elim, fun _ _ _ _ z _ _ _ => z.elim, fun _ _ _ _ z _ _ _ => z.elim⟩⟩
  · refine ev_set (d := resD (doneAll 0 (fr f) es)) (ev_call (ev_cons (ev_call (ev_cons (ev_var (d := woodD f) rfl) ev_nil) fun R z => by
      unfold sp_row_of
      exact ⟨f, rfl, w.ok, by omega, z⟩) (ev_cons (ev_var rfl) ev_nil)) fun R z => sp_doneall w.good hd (by have := w.len; omega) z) ⟨rfl, rfl⟩
  rintro s' g' H1 σ1 ⟨rfl, rfl⟩ e1 rg1 rs1
  refine ⟨_, g', fun b g2 => b = decide ((match doneAll 0 (fr f) es with | .does _ => ("does" : Str) | .stops _ _ => "stops") = ("stops" : Str)) ∧ g2 = g', rs1, rg1, ?_, ?_⟩
  · cases hh : doneAll 0 (fr f) es with
    | does t => exact ev_B (ev_eqS (x := "does") (y := "stops") (ev_ix (xs := [.str "does", rowD t]) (ev_var rfl) ev_c rfl) ev_c) _ ⟨rfl, rfl⟩
    | stops i v => exact ev_B (ev_eqS (x := "stops") (y := "stops") (ev_ix (xs := [.str "stops", natD i, .str (stS v)]) (ev_var rfl) ev_c rfl) ev_c) _ ⟨rfl, rfl⟩
  rintro b g2 H2 ⟨rfl, rfl⟩ e2 rg2
  cases hh : doneAll 0 (fr f) es with
  | does t =>
    rw [hh] at rs1
    refine te2 (fun e => absurd (show decide (("does" : Str) = "stops") = true from e) (by decide +kernel)) (fun _ => ?_)
    obtain ⟨f', hf', hok, hn⟩ := does_wood w hd hl hh
    refine ⟨_, g2, { nx := fun _ _ => False, rt := fun d g' => d = woodD f' ∧ g' = g2 }, rs1.mono e2, rg2, ?_, ⟨fun _ _ _ _ z _ _ _ => z.elim, ?_, fun _ _ _ _ z _ _ _ => z.elim, fun _ _ _ _ z _ _ _ => z.elim⟩⟩
    · refine ev_ret (ev_call (ev_cons (ev_ix (xs := [.str "does", rowD t]) (ev_var rfl) ev_c rfl) ev_nil) fun R z => by
        unfold sp_wood_from
        exact ⟨f', by rw [hf'], hok, hn, z⟩) ⟨rfl, rfl⟩
    · rintro d g3 H3 v ⟨rfl, rfl⟩ e3 rg3 r3
      exact q1 t f' H3 v hh hf' ((e1.trans e2).trans e3) rg3 r3
  | stops i v =>
    rw [hh] at rs1
    refine te2 (fun _ => ?_) (fun e => absurd (show decide (("stops" : Str) = "stops") = false from e) (by decide +kernel))
    refine ⟨_, g2, fun ds g' => ds = [natD i, .str (stS v)] ∧ g' = g2, rs1.mono e2, rg2, ?_, ?_⟩
    · exact ev_cons (ev_ix (xs := [.str "stops", natD i, .str (stS v)]) (ev_var rfl) ev_c rfl) (ev_cons (ev_ix (xs := [.str "stops", natD i, .str (stS v)]) (ev_var rfl) ev_c rfl) ev_nil) _ ⟨rfl, rfl⟩
    rintro ds g3 H3 vs3 ⟨rfl, rfl⟩ e3 rg3 r3
    obtain rfl : vs3 = [V.int (i : Nat), V.str (stS v)] := by
      cases r3 with
      | cons ra r3 =>
        cases r3 with
        | cons rb r3 =>
          cases r3; cases ra; cases rb
          rfl
    refine ⟨by simp, fun a ha => ⟨a, _, _, rfl, upd_same, fun d hd0 hne => ⟨rfl, d, stF (.int (i : Nat)) (.str (stS v)), ?_, upd_same, ?_, ?_⟩⟩⟩
    · rw [upd_ne (Ne.symm hne), upd_same]
    · rw [upd_ne hne] at hd0; exact hd0
    · have hd1 : H3 d = none := by rw [upd_ne hne] at hd0; exact hd0
      have key := q2 i v H3 d hh ((e1.trans e2).trans e3) rg3 hd1
      have e : upd (del (upd (upd (upd (upd H3 a (exo a C none)) d (exd d [(("index" : Str), V.int (i : Nat))])) a (exo a C (some d))) d (exd d (stF (.int (i : Nat)) (.str (stS v))))) a) d (.xd (stF (.int (i : Nat)) (.str (stS v)))) = upd H3 d (.xd (stF (.int (i : Nat)) (.str (stS v)))) := by
        funext b
        by_cases h1 : b = d
        · rw [h1, upd_same, upd_same]
        · rw [upd_ne h1, upd_ne h1]
          by_cases h2 : b = a
          · rw [h2, del_same, ha]
          · rw [del_ne h2, upd_ne h1, upd_ne h2, upd_ne h1, upd_ne h2]
      rw [e]
      exact key
end
end CL

/-! S2: _law_do. -/
namespace CL
open PySem PySem.Spec PyProof.Rows L2 TM
/-- error.f, error the exception that the suite holds (at a; its class cls, its dict d) -/
def tXf (C : Addr) (fn : Str) (a : Addr) (cls : Value) (d : Option Addr) (te : TE) : TE := fun σ H Q => te σ H fun x H1 => x = .ref a ∧ cls = .ref C ∧ ∃ (dd : Addr) (fs : List (Str × V)) (v : V), d = some dd ∧ H1 dd = some (.xd fs) ∧ fs.lookup fn = some v ∧ Q v H1
section
variable {X : Cx} {C fI : Addr}
theorem pe_xf {a : Addr} {oe : Obj} {cls : Value} {d : Option Addr} {pn : List (Addr × Obj)} {e : Expr} {te : TE} {pos : Pos} {fn : Str} (T : StC X.K X.mg C fI) (hno : PySem.W.findIn X.K (.ref C) fn = some none) (hz : Zc cls d oe) (hf : ∃ vs, oe.data = .fields vs) (he : PE (X.suite a ((a, oe) :: pn)) e te)
    (hb : attributeBase e fn X.env (eval e X.env) = eval e X.env := by rfl) :
    PE (X.suite a ((a, oe) :: pn)) (.Attribute e fn pos) (tXf C fn a cls d te) := by
  refine ⟨fun pins s σ H Q I h => ?_⟩
  refine attr_of hb (thn (he.run pins s σ H _ I h) fun u s1 hh => ?_)
  obtain ⟨x, H1, I1, rx, ex, ec, dd, fs, v, ed, ea, l, q⟩ := hh
  subst ex
  obtain rfl : u = Value.ref a := rx
  subst ec
  subst ed
  obtain ⟨ha, _⟩ := I1.pin (a, oe) (List.mem_append_left _ List.mem_cons_self)
  obtain ⟨vs, hd⟩ := hf
  have hx : ObjOk X.prog X.w H1 s1.heap dd (.xd fs) := I1.hok dd _ ea
  obtain ⟨mA, hns, hr⟩ := hx
  obtain ⟨od, ho, hl⟩ := lookIn_ns hns
  obtain ⟨u, hu, ru⟩ := RelO.some_of (v := v) (o := mA fn) (by rw [← l]; exact hr fn)
  have J : PySem.W.InstAt s1.heap a oe C (some od) := ⟨ha, hz.1, by unfold PySem.W.notCls; rw [hd] <;> rfl, by rw [hz.2]; exact ho⟩
  exact HandSPX.exc_get I1.kIn J T.ga T.gg T.ox.exC (PySem.W.findObj_own T.hd hno rfl (by rw [hl, hu])) (handed_of ru) ⟨v, H1, I1.tok _, ru, q⟩
end

abbrev s_ldo : Stmt := topS 63
abbrev N_ldo : List Str := ["_law_wood_here", "_law_deeds", "_law_found", "error"]
theorem sc_ldo : FnScope N_ldo ["_law_wood_here", "_law_deeds"] (defScope s_ldo) := ⟨rfl, rfl, rfl, by decide +kernel, rfl, by decide +kernel, by decide +kernel⟩
def t_suite (C : Addr) : Addr → Value → Option Addr → TS := fun a cls d => tAsg (tTupN (tCons (tC (.str "stops")) (tCons (tXf C "index" a cls d (tVar 3)) (tCons (tXf C "word" a cls d (tVar 3)) tNil)))) (gName 2)
def t_body (K : PySem.W.Frag) (C : Addr) (W : WX) : TS := tAsg (tTupN (tCons (tC (.str "does")) (tCons (tCallS (spDo K C) (WE W) (tCons (tVar 0) (tCons (tVar 1) tNil))) tNil))) (gName 2)
def t_try (K : PySem.W.Frag) (C : Addr) : TS := fun D σ H => t_body K C (wAs K (.ref C) 3 (t_suite C) (fun _ _ _ _ => False) D) D σ H
abbrev tLdo (K : PySem.W.Frag) (C : Addr) : TS := tSeq (liftS K (cSet 2 (cTup cNil))) (tSeq (t_try K C) (liftS K (cRet (cVar 2))))
section
variable {P : Program} {w : World} {K : PySem.W.Frag} {mg : Str → Option Value} {base : Heap} {C fI : Addr}
theorem ok_do {f : Addr} {fd fdI : FuncData} {k : Nat} (F : Fun K "do_script" "do_script" s_do f fd) (T : StC K mg C fI) (FI : FnOk P w K mg base CX0 1 fI fdI ["self", "index", "word"] (spInit C)) (bI : Binds K fdI ["self", "index", "word"] []) {j1 j2 j3 : Nat} {q1 q2 q3 : List Str} (g1 : CalC P w K mg base "done_all" j1 q1 sp_done_all) (l1 : j1 ≤ k) (g2 : CalC P w K mg base "row_of" j2 q2 sp_row_of) (l2 : j2 ≤ k) (g3 : CalC P w K mg base "wood_from" j3 q3 sp_wood_from) (l3 : j3 ≤ k) (hk : 2 ≤ k) :
    FnOk P w K mg base (L2.CX P w) (k + 1) f fd ["wood", "script"] (spDo K C) := by
  refine F.okX sc_do (fun vs H Q E h => ?_) (fun cdv A outer s H vs Q E hr h => ⟨tDo K C E, d_do T FI bI g1 l1 g2 l2 g3 l3 hk cdv A outer s H E hr, do_run h⟩)
  obtain ⟨g, f, es, r, _⟩ := h
  rw [r.length]
  rfl
theorem d_ldo {f fk : Addr} {fdk : FuncData} {k : Nat} (T : StC K mg C fI) (GT : FnOk P w K mg base (L2.CX P w) k fk fdk ["wood", "script"] (spDo K C)) (hm : mg "do_script" = some (.ref fk)) (hkp : PySem.W.keepIn K (.ref fk) = true) (hb : Binds K fdk ["wood", "script"] [])
    (cdv : Value) (A : Around) (outer : List Env) (s : Shared) (H : Hp) (E : XK) (hr : Room k (A.deeper (envOfC "_law_do" (defScope s_ldo) s.heap.objs.size f cdv))) :
    PSs (cxOf CX0 P w K mg base N_ldo "_law_do" (defScope s_ldo) f cdv A outer s H E).nox (defBody s_ldo) (tLdo K C) := by
  have hN := sc_ldo.nd
  exact pss_cons (sset (i := 2) hN (ktup knil))
    (pss_cons (ps_try_as (i := 3) (tb := fun W => t_body K C W) (ts := t_suite C) (Wout := fun _ _ _ _ => False) rfl rfl hN rfl rfl ⟨rfl, by decide, Or.inl T.gC⟩ takes0
      (fun W pn xe tk _ => pss_one (ps_set (i := 2) hN rfl (Or.inl rfl) (by exact (pe_tupN (pa_cons pe_str (pa_cons (pe_callS GT hr rfl hm hkp hb (fun σ => passAt tk σ) (by exact (pa_cons (pv 0) (pa_cons (pv 1) pa_nil)))) pa_nil))))))
      (fun a oe cls d pn hz hf => pss_one (ps_set (i := 2) hN rfl (Or.inl rfl) (by exact (pe_tupN (pa_cons pe_str (pa_cons (pe_xf T T.nI hz hf (pv 3)) (pa_cons (pe_xf T T.nW hz hf (pv 3)) pa_nil))))))))
    (pss_one (sret (kv 2))))

theorem ldo_run {vs : List V} {H : Hp} {Q : VK} {E : XK} (T : StC K mg C fI) (h : liftSp K sp__law_do vs H Q E) : tLdo K C { nx := fun _ H' => Q .non H', rt := Q } (L2.start N_ldo vs) H := by
  obtain ⟨ds, g, R, r, rg, p, l⟩ := h
  unfold sp__law_do at p
  obtain ⟨f, es, rfl, w, hd, hl, q⟩ := p
  refine ⟨cstart N_ldo [woodD f, .tup (es.map deedD)], g, { nx := fun s' g' => s' = [some (woodD f), some (.tup (es.map deedD)), some (.tup []), none] ∧ g' = g, rt := fun _ _ => False }, rs_start r, rg, ?_, ⟨?_, fun _ _ _ _ z _ _ _ => z.elim, fun _ _ _ _ z _ _ _ => z.elim, fun _ _ _ _ z _ _ _ => z.elim⟩⟩
  · exact ev_set (ev_tup ev_nil (lim_ok (by simp))) ⟨rfl, rfl⟩
  rintro s' g' H1 σ1 ⟨rfl, rfl⟩ e1 rg1 rs1
  obtain ⟨v0, v1, v2, o3, rfl, r0, r1⟩ : ∃ v0 v1 v2 o3, σ1 = [some v0, some v1, some v2, o3] ∧ Rep K H1 v0 (woodD f) ∧ Rep K H1 v1 (.tup (es.map deedD)) := by
    cases rs1 with
    | cons a rs1 =>
      cases rs1 with
      | cons b rs1 =>
        cases rs1 with
        | cons c rs1 =>
          cases rs1 with
          | cons e rs1 =>
            cases rs1
            obtain ⟨v0, e0, r0⟩ := a _ rfl
            obtain ⟨v1, e1', r1⟩ := b _ rfl
            obtain ⟨v2, e2', _⟩ := c _ rfl
            subst e0 e1' e2'
            exact ⟨v0, v1, v2, _, rfl, r0, r1⟩
  -- what is wanted behind the try
  have fin : ∀ (d : D) (H2 : Hp) (v : V) (σ2 : L2.St), doOut (fr f) es d → Ext H1 H2 → RG K H2 g' → Rep K H2 v d → (∃ a b c, σ2 = [a, b, some v, c]) → liftS K (cRet (cVar 2)) { nx := fun _ H' => Q .non H', rt := Q } σ2 H2 := fun d H2 v σ2 hd e2 rg2 rv ⟨a, b, c, es2⟩ => by
    subst es2
    refine ⟨[none, none, some d, none], g', { nx := fun _ _ => False, rt := fun d' g2 => d' = d ∧ g2 = g' }, ?_, rg2, ev_ret (ev_var rfl) ⟨rfl, rfl⟩, ⟨fun _ _ _ _ z _ _ _ => z.elim, ?_, fun _ _ _ _ z _ _ _ => z.elim, fun _ _ _ _ z _ _ _ => z.elim⟩⟩
    · exact .cons (fun _ z => by cases z) (.cons (fun _ z => by cases z) (.cons (fun _ z => by cases z; exact ⟨v, rfl, rv⟩) (.cons (fun _ z => by cases z) .nil)))
    · rintro d' g2 H3 v3 ⟨rfl, rfl⟩ e3 rg3 r3
      exact l d' g2 H3 v3 (q d' hd) ((e1.trans e2).trans e3) rg3 r3
  refine ⟨v0, rfl, v1, rfl, g', f, es, .cons r0 (.cons r1 .nil), rg1, w, hd, hl, fun t f' H2 v hh hf' e2 rg2 rv => ?_, fun i u H2 d hh e2 rg2 hd0 => ?_⟩
  · refine ⟨by rw [sizeLine_eq]; simp, fun p us hp => ?_⟩
    have rl : RepL K H2 [V.str "does", v] [D.str "does", woodD f'] := .cons (.str _) (.cons rv .nil)
    refine new_tup (P := fun d g2 => d = .tup [D.str "does", woodD f'] ∧ g2 = g') (Q := fun v H3 => liftS K (cRet (cVar 2)) { nx := fun _ H' => Q .non H', rt := Q } ([some v0, some v1, some v2, o3].set 2 (some v)) H3) rl rg2 ⟨rfl, rfl⟩ (fun d g2 H3 v3 ⟨ed, eg⟩ e3 rg3 r3 => ?_) hp
    subst ed eg
    exact fin _ H3 v3 _ (.inl ⟨t, f', hh, hf', rfl⟩) (e2.trans e3) rg3 r3 ⟨_, _, _, rfl⟩
  · refine ⟨true, T.te, fun _ a0 ha0 => ?_, fun e => Bool.noConfusion e⟩
    refine ⟨_, rfl, rfl, rfl, d, _, .int (i : Nat), rfl, upd_same, rfl, ?_⟩
    refine ⟨_, rfl, rfl, rfl, d, _, .str (stS u), rfl, upd_same, rfl, ?_⟩
    refine ⟨by rw [sizeLine_eq]; simp, fun p us hp => ?_⟩
    have rl : RepL K (upd H2 d (.xd (stF (.int (i : Nat)) (.str (stS u))))) [V.str "stops", .int (i : Nat), .str (stS u)] [D.str "stops", natD i, .str (stS u)] := .cons (.str _) (.cons (.int _) (.cons (.str _) .nil))
    have rg3 : RG K (upd H2 d (.xd (stF (.int (i : Nat)) (.str (stS u))))) g' := fun a m hm => by
      obtain ⟨h, hh1, hh2⟩ := rg2 a m hm
      have : a ≠ d := fun e => by rw [e, hd0] at hh1; cases hh1
      exact ⟨h, by rw [upd_ne this]; exact hh1, hh2.mono (.new hd0)⟩
    refine new_tup (P := fun d g2 => d = .tup [D.str "stops", natD i, .str (stS u)] ∧ g2 = g') (Q := fun v H3 => liftS K (cRet (cVar 2)) { nx := fun _ H' => Q .non H', rt := Q } ((([some v0, some v1, some v2, o3].set 3 (some (.ref a0))).set 2 (some v)).set 3 none) H3) rl rg3 ⟨rfl, rfl⟩ (fun d' g2 H3 v3 ⟨ed, eg⟩ e3 rg4 r3 => ?_) hp
    subst ed eg
    exact fin _ H3 v3 _ (.inr ⟨i, u, hh, rfl⟩) ((e2.trans (.new hd0)).trans e3) rg4 r3 ⟨_, _, _, rfl⟩
theorem ok_ldo {f fk : Addr} {fd fdk : FuncData} {k : Nat} (F : Fun K "_law_do" "_law_do" s_ldo f fd) (T : StC K mg C fI) (GT : FnOk P w K mg base (L2.CX P w) k fk fdk ["wood", "script"] (spDo K C)) (hm : mg "do_script" = some (.ref fk)) (hkp : PySem.W.keepIn K (.ref fk) = true) (hb : Binds K fdk ["wood", "script"] []) : FnOk P w K mg base CX0 (k + 1) f fd ["_law_wood_here", "_law_deeds"] (liftSp K sp__law_do) := by
  refine F.ok sc_ldo (fun vs H Q E h => ?_) (fun cdv A outer s H vs Q E hr h => ⟨tLdo K C, d_ldo T GT hm hkp hb cdv A outer s H E hr, ldo_run T h⟩)
  obtain ⟨ds, g, R, r, _, p, _⟩ := h
  unfold sp__law_do at p
  obtain ⟨f, es, rfl, _⟩ := p
  rw [r.length]
  rfl
end
end CL

/-! U0: every def keeps its promise, one after another (printed by genchain.py). -/
namespace CL
open PySem PySem.Spec PyProof.Rows L2 TM
/-- the defs of the text, by their places -/
def defsL : List (Str × Nat) := ([("begin_of", 2), ("end_of", 3), ("span", 4), ("is_there", 5), ("is_within", 6), ("old_of", 7), ("new_of", 8), ("stop_of", 9), ("moved", 10), ("swapped", 11), ("turned", 12), ("poured", 13), ("done", 14), ("done_all", 15), ("all_rows", 16), ("with_gaps", 17), ("without_gaps", 18), ("filled_row", 19), ("leaf", 20), ("fresh", 21), ("row_of", 26), ("wood_from", 27), ("makes", 29), ("roles", 30), ("old_names", 31), ("do_script", 32), ("names_in", 34), ("wood_with", 35), ("lost_gap", 36), ("joined_gaps", 37)] : List (Str × Nat)) ++ ([("loses", 38), ("_law_deck", 40), ("_law_draw", 41), ("_law_pick", 42), ("_law_menu", 43), ("_law_others", 44), ("_law_mixed", 45), ("_law_is_name", 46), ("_law_is_wood", 47), ("_law_kids", 48), ("_law_wood_of", 49), ("_law_over", 50), ("_law_is_in", 51), ("_law_word", 52), ("_law_placed", 53), ("_law_turned", 54), ("_law_changed", 55), ("_law_ran", 56), ("_law_roles", 57), ("_law_deed", 58), ("_law_script", 59), ("_law_wood", 60), ("_law_fits", 61), ("_law_many", 62), ("_law_do", 63), ("_law_other_wood", 64), ("_law_kept_right", 65), ("_law_lost_right", 66), ("law", 67)] : List (Str × Nat))
structure DefAt (K : PySem.W.Frag) (mg : Str → Option Value) (x : Str) (st : Stmt) : Prop where
  ex : ∃ (f : Addr) (fd : FuncData), Fun K x x st f fd ∧ mg x = some (.ref f)
/-- what the written part says -/
structure Txt (K : PySem.W.Frag) (mg : Str → Option Value) : Prop where
  B : Bl mg
  d : ∀ (i : Nat) (p : Str × Nat), defsL[i]? = some p → DefAt K mg p.1 (topS p.2)
  mv : GlobD K mg "MOVES" v_MOVES
  st : ∃ (C fI : Addr) (fd : FuncData), StC K mg C fI ∧ Fun K "__init__" "Stopped.__init__" s_init fI fd
section
variable {P : Program} {w : World} {K : PySem.W.Frag} {mg : Str → Option Value} {base : Heap}
theorem cal_mk {x : Str} {st : Stmt} {N ps : List Str} {k : Nat} {sp : CSp} {c : CS} (A : DefAt K mg x st) (S : FnScope N ps (defScope st)) (len : ∀ ds g Q, sp ds g Q → ds.length = ps.length)
    (bd : ∀ (kV doc pm : Value) (an : Option Addr) (cdv ct : Value) (us : List Value), us.length = ps.length → bindArgs (PySem.W.fnOf x x (defArgs st) (defBody st) (defScope st) .none kV doc pm an cdv ct) ⟨us, []⟩ = pure (ps.zip us))
    (body : ∀ (f : Addr) (cdv : Value) (A : Around) (outer : List Env) (s : Shared) (H : Hp) (E : XK), Room k (A.deeper (envOfC x (defScope st) s.heap.objs.size f cdv)) → PSs (cxOf CX0 P w K mg base N x (defScope st) f cdv A outer s H E).nox (defBody st) (liftS K c))
    (pure : ∀ ds g Q, sp ds g Q → c { nx := fun _ g' => Fin Q .non g', rt := Fin Q } (cstart N ds) g) : CalC P w K mg base x (k + 1) ps sp := by
  obtain ⟨f, fd, F, hm⟩ := A.ex
  exact ⟨f, fd, kfn F S len (body f) pure, hm, F.kp, F.binds bd⟩
/-- a def that is never run -/
theorem cal_no {x : Str} {st : Stmt} {N ps : List Str} {sp : CSp} (A : DefAt K mg x st) (S : FnScope N ps (defScope st)) (no : ∀ ds g Q, ¬ sp ds g Q)
    (bd : ∀ (kV doc pm : Value) (an : Option Addr) (cdv ct : Value) (us : List Value), us.length = ps.length → bindArgs (PySem.W.fnOf x x (defArgs st) (defBody st) (defScope st) .none kV doc pm an cdv ct) ⟨us, []⟩ = pure (ps.zip us)) : CalC P w K mg base x 1 ps sp := by
  obtain ⟨f, fd, F, hm⟩ := A.ex
  refine ⟨f, fd, F.ok S ?_ ?_, hm, F.kp, F.binds bd⟩
  · rintro vs H Q E ⟨ds, g, R, _, _, p, _⟩
    exact (no _ _ _ p).elim
  · rintro cdv A outer s H vs Q E _ ⟨ds, g, R, _, _, p, _⟩
    exact (no _ _ _ p).elim
theorem no_wood_of0 : ∀ ds g Q, ¬ sp__law_wood_of 0 ds g Q := fun ds g Q h => by
  unfold sp__law_wood_of at h
  obtain ⟨_, _, _, _, _, _, _, _, _, _, _, _, hd, _⟩ := h
  exact Nat.not_lt_zero _ hd
theorem k_begin_of (T : Txt K mg) : CalC P w K mg base "begin_of" 2 ["name"] sp_begin_of :=
  cal_mk (T.d 0 ("begin_of", 2) rfl) sc_begin_of (fun ds g Q h => by unfold sp_begin_of at h; obtain ⟨_, rfl, _⟩ := h; rfl) (fun _ _ _ _ _ _ us hl => match us, hl with | [_], _ => rfl)
    (fun f cdv A outer s H E hr => d_begin_of T.B  cdv A outer s H E hr) pu_begin_of
theorem k_end_of (T : Txt K mg) : CalC P w K mg base "end_of" 2 ["name"] sp_end_of :=
  cal_mk (T.d 1 ("end_of", 3) rfl) sc_end_of (fun ds g Q h => by unfold sp_end_of at h; obtain ⟨_, rfl, _⟩ := h; rfl) (fun _ _ _ _ _ _ us hl => match us, hl with | [_], _ => rfl)
    (fun f cdv A outer s H E hr => d_end_of T.B  cdv A outer s H E hr) pu_end_of
theorem k_span (T : Txt K mg) : CalC P w K mg base "span" 3 ["row", "name"] sp_span :=
  cal_mk (T.d 2 ("span", 4) rfl) sc_span (fun ds g Q h => by unfold sp_span at h; obtain ⟨_, _, rfl, _⟩ := h; rfl) (fun _ _ _ _ _ _ us hl => match us, hl with | [_, _], _ => rfl)
    (fun f cdv A outer s H E hr => d_span T.B (k_end_of T) (by decide) (k_begin_of T) (by decide) cdv A outer s H E hr) pu_span
theorem k_is_there (T : Txt K mg) : CalC P w K mg base "is_there" 3 ["row", "name"] sp_is_there :=
  cal_mk (T.d 3 ("is_there", 5) rfl) sc_is_there (fun ds g Q h => by unfold sp_is_there at h; obtain ⟨_, _, rfl, _⟩ := h; rfl) (fun _ _ _ _ _ _ us hl => match us, hl with | [_, _], _ => rfl)
    (fun f cdv A outer s H E hr => d_is_there T.B (k_begin_of T) (by decide) cdv A outer s H E hr) pu_is_there
theorem k_is_within (T : Txt K mg) : CalC P w K mg base "is_within" 4 ["row", "name", "other"] sp_is_within :=
  cal_mk (T.d 4 ("is_within", 6) rfl) sc_is_within (fun ds g Q h => by unfold sp_is_within at h; obtain ⟨_, _, _, rfl, _⟩ := h; rfl) (fun _ _ _ _ _ _ us hl => match us, hl with | [_, _, _], _ => rfl)
    (fun f cdv A outer s H E hr => d_is_within T.B (k_span T) (by decide) (k_begin_of T) (by decide) cdv A outer s H E hr) pu_is_within
theorem k_old_of (T : Txt K mg) : CalC P w K mg base "old_of" 2 ["deed"] sp_old_of :=
  cal_mk (T.d 5 ("old_of", 7) rfl) sc_old_of (fun ds g Q h => by unfold sp_old_of at h; obtain ⟨_, rfl, _⟩ := h; rfl) (fun _ _ _ _ _ _ us hl => match us, hl with | [_], _ => rfl)
    (fun f cdv A outer s H E hr => d_old_of T.B  cdv A outer s H E hr) pu_old_of
theorem k_new_of (T : Txt K mg) : CalC P w K mg base "new_of" 2 ["deed"] sp_new_of :=
  cal_mk (T.d 6 ("new_of", 8) rfl) sc_new_of (fun ds g Q h => by unfold sp_new_of at h; obtain ⟨_, rfl, _⟩ := h; rfl) (fun _ _ _ _ _ _ us hl => match us, hl with | [_], _ => rfl)
    (fun f cdv A outer s H E hr => d_new_of T.B  cdv A outer s H E hr) pu_new_of
theorem k_stop_of (T : Txt K mg) : CalC P w K mg base "stop_of" 5 ["row", "deed"] sp_stop_of :=
  cal_mk (T.d 7 ("stop_of", 9) rfl) sc_stop_of (fun ds g Q h => by unfold sp_stop_of at h; obtain ⟨_, _, rfl, _⟩ := h; rfl) (fun _ _ _ _ _ _ us hl => match us, hl with | [_, _], _ => rfl)
    (fun f cdv A outer s H E hr => d_stop_of T.B (k_old_of T) (by decide) (k_is_there T) (by decide) (k_new_of T) (by decide) (k_is_within T) (by decide) cdv A outer s H E hr) pu_stop_of
theorem k_moved (T : Txt K mg) : CalC P w K mg base "moved" 4 ["row", "deed"] sp_moved :=
  cal_mk (T.d 8 ("moved", 10) rfl) sc_moved (fun ds g Q h => by unfold sp_moved at h; obtain ⟨_, _, rfl, _⟩ := h; rfl) (fun _ _ _ _ _ _ us hl => match us, hl with | [_, _], _ => rfl)
    (fun f cdv A outer s H E hr => d_moved T.B (k_span T) (by decide) (k_begin_of T) (by decide) (k_end_of T) (by decide) cdv A outer s H E hr) pu_moved
theorem k_swapped0 (T : Txt K mg) : CalC P w K mg base "swapped" 1 ["row", "one", "other"] sp_swapped0 := cal_no (T.d 9 ("swapped", 11) rfl) sc_swapped (fun _ _ _ h => by unfold sp_swapped0 at h; exact h) (fun _ _ _ _ _ _ us hl => match us, hl with | [_, _, _], _ => rfl)
theorem k_swapped1 (T : Txt K mg) : CalC P w K mg base "swapped" 4 ["row", "one", "other"] sp_swapped1 :=
  cal_mk (T.d 9 ("swapped", 11) rfl) sc_swapped (fun ds g Q h => by unfold sp_swapped1 at h; obtain ⟨_, _, _, rfl, _⟩ := h; rfl) (fun _ _ _ _ _ _ us hl => match us, hl with | [_, _, _], _ => rfl)
    (fun f cdv A outer s H E hr => d_swapped T.B (k_span T) (by decide) (k_swapped0 T) (by decide) cdv A outer s H E hr) pu_swapped1
theorem k_swapped (T : Txt K mg) : CalC P w K mg base "swapped" 5 ["row", "one", "other"] sp_swapped :=
  cal_mk (T.d 9 ("swapped", 11) rfl) sc_swapped (fun ds g Q h => by unfold sp_swapped at h; obtain ⟨_, _, _, rfl, _⟩ := h; rfl) (fun _ _ _ _ _ _ us hl => match us, hl with | [_, _, _], _ => rfl)
    (fun f cdv A outer s H E hr => d_swapped T.B (k_span T) (by decide) (k_swapped1 T) (by decide) cdv A outer s H E hr) pu_swapped
theorem k_turned (T : Txt K mg) : CalC P w K mg base "turned" 3 ["row", "one", "other"] sp_turned :=
  cal_mk (T.d 10 ("turned", 12) rfl) sc_turned (fun ds g Q h => by unfold sp_turned at h; obtain ⟨_, _, _, rfl, _⟩ := h; rfl) (fun _ _ _ _ _ _ us hl => match us, hl with | [_, _, _], _ => rfl)
    (fun f cdv A outer s H E hr => d_turned T.B (k_begin_of T) (by decide) (k_end_of T) (by decide) cdv A outer s H E hr) pu_turned
theorem k_poured (T : Txt K mg) : CalC P w K mg base "poured" 4 ["row", "one", "other"] sp_poured :=
  cal_mk (T.d 11 ("poured", 13) rfl) sc_poured (fun ds g Q h => by unfold sp_poured at h; obtain ⟨_, _, _, rfl, _⟩ := h; rfl) (fun _ _ _ _ _ _ us hl => match us, hl with | [_, _, _], _ => rfl)
    (fun f cdv A outer s H E hr => d_poured T.B (k_span T) (by decide) (k_end_of T) (by decide) cdv A outer s H E hr) pu_poured
theorem k_done (T : Txt K mg) : CalC P w K mg base "done" 6 ["row", "deed"] sp_done :=
  cal_mk (T.d 12 ("done", 14) rfl) sc_done (fun ds g Q h => by unfold sp_done at h; obtain ⟨_, _, rfl, _⟩ := h; rfl) (fun _ _ _ _ _ _ us hl => match us, hl with | [_, _], _ => rfl)
    (fun f cdv A outer s H E hr => d_done T.B (k_moved T) (by decide) (k_swapped T) (by decide) (k_turned T) (by decide) (k_poured T) (by decide) (k_end_of T) (by decide) (k_begin_of T) (by decide) (k_span T) (by decide) T.mv cdv A outer s H E hr) pu_done
theorem k_done_all (T : Txt K mg) : CalC P w K mg base "done_all" 7 ["row", "deeds"] sp_done_all :=
  cal_mk (T.d 13 ("done_all", 15) rfl) sc_done_all (fun ds g Q h => by unfold sp_done_all at h; obtain ⟨_, _, rfl, _⟩ := h; rfl) (fun _ _ _ _ _ _ us hl => match us, hl with | [_, _], _ => rfl)
    (fun f cdv A outer s H E hr => d_done_all T.B (k_stop_of T) (by decide) (k_done T) (by decide) cdv A outer s H E hr) pu_done_all
theorem k_all_rows (T : Txt K mg) : CalC P w K mg base "all_rows" 3 ["names"] sp_all_rows :=
  cal_mk (T.d 14 ("all_rows", 16) rfl) sc_all_rows (fun ds g Q h => by unfold sp_all_rows at h; obtain ⟨_, rfl, _⟩ := h; rfl) (fun _ _ _ _ _ _ us hl => match us, hl with | [_], _ => rfl)
    (fun f cdv A outer s H E hr => d_all_rows T.B (k_begin_of T) (by decide) (k_end_of T) (by decide) cdv A outer s H E hr) pu_all_rows
theorem k_with_gaps (T : Txt K mg) : CalC P w K mg base "with_gaps" 2 ["row"] sp_with_gaps :=
  cal_mk (T.d 15 ("with_gaps", 17) rfl) sc_with_gaps (fun ds g Q h => by unfold sp_with_gaps at h; obtain ⟨_, rfl, _⟩ := h; rfl) (fun _ _ _ _ _ _ us hl => match us, hl with | [_], _ => rfl)
    (fun f cdv A outer s H E hr => d_with_gaps T.B  cdv A outer s H E hr) pu_with_gaps
theorem k_without_gaps (T : Txt K mg) : CalC P w K mg base "without_gaps" 2 ["row"] sp_without_gaps :=
  cal_mk (T.d 16 ("without_gaps", 18) rfl) sc_without_gaps (fun ds g Q h => by unfold sp_without_gaps at h; obtain ⟨_, rfl, _⟩ := h; rfl) (fun _ _ _ _ _ _ us hl => match us, hl with | [_], _ => rfl)
    (fun f cdv A outer s H E hr => d_without_gaps T.B  cdv A outer s H E hr) pu_without_gaps
theorem k_filled_row (T : Txt K mg) : CalC P w K mg base "filled_row" 2 ["row", "gaps"] sp_filled_row :=
  cal_mk (T.d 17 ("filled_row", 19) rfl) sc_filled_row (fun ds g Q h => by unfold sp_filled_row at h; obtain ⟨_, _, _, rfl, _⟩ := h; rfl) (fun _ _ _ _ _ _ us hl => match us, hl with | [_, _], _ => rfl)
    (fun f cdv A outer s H E hr => d_filled_row T.B  cdv A outer s H E hr) pu_filled_row
theorem k_leaf (T : Txt K mg) : CalC P w K mg base "leaf" 3 ["name"] sp_leaf :=
  cal_mk (T.d 18 ("leaf", 20) rfl) sc_leaf (fun ds g Q h => by unfold sp_leaf at h; obtain ⟨_, rfl, _⟩ := h; rfl) (fun _ _ _ _ _ _ us hl => match us, hl with | [_], _ => rfl)
    (fun f cdv A outer s H E hr => d_leaf T.B (k_end_of T) (by decide) (k_begin_of T) (by decide) cdv A outer s H E hr) pu_leaf
theorem k_fresh (T : Txt K mg) : CalC P w K mg base "fresh" 2 ["names", "many"] sp_fresh :=
  cal_mk (T.d 19 ("fresh", 21) rfl) sc_fresh (fun ds g Q h => by unfold sp_fresh at h; obtain ⟨_, rfl, _⟩ := h; rfl) (fun _ _ _ _ _ _ us hl => match us, hl with | [_, _], _ => rfl)
    (fun f cdv A outer s H E hr => d_fresh T.B  cdv A outer s H E hr) pu_fresh
theorem k_row_of (T : Txt K mg) : CalC P w K mg base "row_of" 3 ["wood"] sp_row_of :=
  cal_mk (T.d 20 ("row_of", 26) rfl) sc_row_of (fun ds g Q h => by unfold sp_row_of at h; obtain ⟨_, rfl, _⟩ := h; rfl) (fun _ _ _ _ _ _ us hl => match us, hl with | [_], _ => rfl)
    (fun f cdv A outer s H E hr => d_row_of T.B (k_begin_of T) (by decide) (k_end_of T) (by decide) cdv A outer s H E hr) pu_row_of
theorem k_wood_from (T : Txt K mg) : CalC P w K mg base "wood_from" 2 ["row"] sp_wood_from :=
  cal_mk (T.d 21 ("wood_from", 27) rfl) sc_wood_from (fun ds g Q h => by unfold sp_wood_from at h; obtain ⟨_, rfl, _⟩ := h; rfl) (fun _ _ _ _ _ _ us hl => match us, hl with | [_], _ => rfl)
    (fun f cdv A outer s H E hr => d_wood_from T.B  cdv A outer s H E hr) pu_wood_from
theorem k_makes (T : Txt K mg) : CalC P w K mg base "makes" 2 ["deed", "k"] sp_makes :=
  cal_mk (T.d 22 ("makes", 29) rfl) sc_makes (fun ds g Q h => by unfold sp_makes at h; obtain ⟨_, _, rfl, _⟩ := h; rfl) (fun _ _ _ _ _ _ us hl => match us, hl with | [_, _], _ => rfl)
    (fun f cdv A outer s H E hr => d_makes T.B  cdv A outer s H E hr) pu_makes
theorem k_roles (T : Txt K mg) : CalC P w K mg base "roles" 3 ["deeds"] sp_roles :=
  cal_mk (T.d 23 ("roles", 30) rfl) sc_roles (fun ds g Q h => by unfold sp_roles at h; obtain ⟨_, rfl, _⟩ := h; rfl) (fun _ _ _ _ _ _ us hl => match us, hl with | [_], _ => rfl)
    (fun f cdv A outer s H E hr => d_roles T.B (k_makes T) (by decide) cdv A outer s H E hr) pu_roles
theorem k_old_names (T : Txt K mg) : CalC P w K mg base "old_names" 4 ["script"] sp_old_names :=
  cal_mk (T.d 24 ("old_names", 31) rfl) sc_old_names (fun ds g Q h => by unfold sp_old_names at h; obtain ⟨_, rfl, _⟩ := h; rfl) (fun _ _ _ _ _ _ us hl => match us, hl with | [_], _ => rfl)
    (fun f cdv A outer s H E hr => d_old_names T.B (k_roles T) (by decide) cdv A outer s H E hr) pu_old_names
theorem k_names_in (T : Txt K mg) : CalC P w K mg base "names_in" 2 ["deeds"] sp_names_in :=
  cal_mk (T.d 26 ("names_in", 34) rfl) sc_names_in (fun ds g Q h => by unfold sp_names_in at h; obtain ⟨_, rfl, _⟩ := h; rfl) (fun _ _ _ _ _ _ us hl => match us, hl with | [_], _ => rfl)
    (fun f cdv A outer s H E hr => d_names_in T.B  cdv A outer s H E hr) pu_names_in
theorem k_wood_with (T : Txt K mg) : CalC P w K mg base "wood_with" 4 ["row", "gaps", "names"] sp_wood_with :=
  cal_mk (T.d 27 ("wood_with", 35) rfl) sc_wood_with (fun ds g Q h => by unfold sp_wood_with at h; obtain ⟨_, _, _, _, rfl, _⟩ := h; rfl) (fun _ _ _ _ _ _ us hl => match us, hl with | [_, _, _], _ => rfl)
    (fun f cdv A outer s H E hr => d_wood_with T.B (k_fresh T) (by decide) (k_leaf T) (by decide) (k_with_gaps T) (by decide) (k_filled_row T) (by decide) (k_wood_from T) (by decide) cdv A outer s H E hr) pu_wood_with
theorem k_lost_gap (T : Txt K mg) : CalC P w K mg base "lost_gap" 2 ["row", "template"] sp_lost_gap :=
  cal_mk (T.d 28 ("lost_gap", 36) rfl) sc_lost_gap (fun ds g Q h => by unfold sp_lost_gap at h; obtain ⟨_, _, rfl, _⟩ := h; rfl) (fun _ _ _ _ _ _ us hl => match us, hl with | [_, _], _ => rfl)
    (fun f cdv A outer s H E hr => d_lost_gap T.B  cdv A outer s H E hr) pu_lost_gap
theorem k_joined_gaps (T : Txt K mg) : CalC P w K mg base "joined_gaps" 2 ["template"] sp_joined_gaps :=
  cal_mk (T.d 29 ("joined_gaps", 37) rfl) sc_joined_gaps (fun ds g Q h => by unfold sp_joined_gaps at h; obtain ⟨_, rfl, _⟩ := h; rfl) (fun _ _ _ _ _ _ us hl => match us, hl with | [_], _ => rfl)
    (fun f cdv A outer s H E hr => d_joined_gaps T.B  cdv A outer s H E hr) pu_joined_gaps
theorem k_loses (T : Txt K mg) : CalC P w K mg base "loses" 8 ["script"] sp_loses :=
  cal_mk (T.d 30 ("loses", 38) rfl) sc_loses (fun ds g Q h => by unfold sp_loses at h; obtain ⟨_, rfl, _⟩ := h; rfl) (fun _ _ _ _ _ _ us hl => match us, hl with | [_], _ => rfl)
    (fun f cdv A outer s H E hr => d_loses T.B (k_names_in T) (by decide) (k_old_names T) (by decide) (k_all_rows T) (by decide) (k_with_gaps T) (by decide) (k_done_all T) (by decide) (k_without_gaps T) (by decide) (k_wood_from T) (by decide) (k_lost_gap T) (by decide) (k_joined_gaps T) (by decide) (k_wood_with T) (by decide) cdv A outer s H E hr) pu_loses
theorem k__law_draw (T : Txt K mg) : CalC P w K mg base "_law_draw" 2 ["_law_deck_here", "_law_many_here"] sp__law_draw :=
  cal_mk (T.d 32 ("_law_draw", 41) rfl) sc__law_draw (fun ds g Q h => by unfold sp__law_draw at h; obtain ⟨_, _, _, rfl, _⟩ := h; rfl) (fun _ _ _ _ _ _ us hl => match us, hl with | [_, _], _ => rfl)
    (fun f cdv A outer s H E hr => d__law_draw T.B  cdv A outer s H E hr) pu__law_draw
theorem k__law_pick (T : Txt K mg) : CalC P w K mg base "_law_pick" 3 ["_law_deck_here", "_law_items"] sp__law_pick :=
  cal_mk (T.d 33 ("_law_pick", 42) rfl) sc__law_pick (fun ds g Q h => by unfold sp__law_pick at h; obtain ⟨_, _, _, _, rfl, _⟩ := h; rfl) (fun _ _ _ _ _ _ us hl => match us, hl with | [_, _], _ => rfl)
    (fun f cdv A outer s H E hr => d__law_pick T.B (k__law_draw T) (by decide) cdv A outer s H E hr) pu__law_pick
theorem k__law_menu (T : Txt K mg) : CalC P w K mg base "_law_menu" 4 ["_law_deck_here", "_law_many_here"] sp__law_menu :=
  cal_mk (T.d 34 ("_law_menu", 43) rfl) sc__law_menu (fun ds g Q h => by unfold sp__law_menu at h; obtain ⟨_, _, _, rfl, _⟩ := h; rfl) (fun _ _ _ _ _ _ us hl => match us, hl with | [_, _], _ => rfl)
    (fun f cdv A outer s H E hr => d__law_menu T.B (k__law_draw T) (by decide) (k__law_pick T) (by decide) cdv A outer s H E hr) pu__law_menu
theorem k__law_others (T : Txt K mg) : CalC P w K mg base "_law_others" 2 ["_law_called", "_law_many_here"] sp__law_others :=
  cal_mk (T.d 35 ("_law_others", 44) rfl) sc__law_others (fun ds g Q h => by unfold sp__law_others at h; obtain ⟨_, _, rfl, _⟩ := h; rfl) (fun _ _ _ _ _ _ us hl => match us, hl with | [_, _], _ => rfl)
    (fun f cdv A outer s H E hr => d__law_others T.B  cdv A outer s H E hr) pu__law_others
theorem k__law_mixed (T : Txt K mg) : CalC P w K mg base "_law_mixed" 3 ["_law_deck_here", "_law_items"] sp__law_mixed :=
  cal_mk (T.d 36 ("_law_mixed", 45) rfl) sc__law_mixed (fun ds g Q h => by unfold sp__law_mixed at h; obtain ⟨_, _, _, _, rfl, _⟩ := h; rfl) (fun _ _ _ _ _ _ us hl => match us, hl with | [_, _], _ => rfl)
    (fun f cdv A outer s H E hr => d__law_mixed T.B (k__law_draw T) (by decide) cdv A outer s H E hr) pu__law_mixed
theorem k__law_is_name (T : Txt K mg) : CalC P w K mg base "_law_is_name" 2 ["_law_value"] sp__law_is_name :=
  cal_mk (T.d 37 ("_law_is_name", 46) rfl) sc__law_is_name (fun ds g Q h => by unfold sp__law_is_name at h; obtain ⟨_, rfl, _⟩ := h; rfl) (fun _ _ _ _ _ _ us hl => match us, hl with | [_], _ => rfl)
    (fun f cdv A outer s H E hr => d__law_is_name T.B  cdv A outer s H E hr) pu__law_is_name
theorem k__law_is_wood (T : Txt K mg) : CalC P w K mg base "_law_is_wood" 3 ["_law_value"] sp__law_is_wood :=
  cal_mk (T.d 38 ("_law_is_wood", 47) rfl) sc__law_is_wood (fun ds g Q h => by unfold sp__law_is_wood at h; obtain ⟨_, rfl, _⟩ := h; rfl) (fun _ _ _ _ _ _ us hl => match us, hl with | [_], _ => rfl)
    (fun f cdv A outer s H E hr => d__law_is_wood T.B (k__law_is_name T) (by decide) cdv A outer s H E hr) pu__law_is_wood
theorem k__law_kids (T : Txt K mg) : CalC P w K mg base "_law_kids" 2 ["_law_wood_here"] sp__law_kids :=
  cal_mk (T.d 39 ("_law_kids", 48) rfl) sc__law_kids (fun ds g Q h => by unfold sp__law_kids at h; obtain ⟨_, _, rfl, _⟩ := h; rfl) (fun _ _ _ _ _ _ us hl => match us, hl with | [_], _ => rfl)
    (fun f cdv A outer s H E hr => d__law_kids T.B  cdv A outer s H E hr) pu__law_kids
theorem k__law_wood_of (T : Txt K mg) : ∀ n : Nat, CalC P w K mg base "_law_wood_of" (n + 1) ["_law_kids_here", "_law_name"] (sp__law_wood_of n)
  | 0 => cal_no (T.d 40 ("_law_wood_of", 49) rfl) sc__law_wood_of no_wood_of0 (fun _ _ _ _ _ _ us hl => match us, hl with | [_, _], _ => rfl)
  | n + 1 => cal_mk (T.d 40 ("_law_wood_of", 49) rfl) sc__law_wood_of (fun ds g Q h => by unfold sp__law_wood_of at h; obtain ⟨_, _, _, _, _, _, rfl, _⟩ := h; rfl) (fun _ _ _ _ _ _ us hl => match us, hl with | [_, _], _ => rfl)
    (fun f cdv A outer s H E hr => d__law_wood_of T.B (k__law_wood_of T n) (Nat.le_refl _) cdv A outer s H E hr) (pu__law_wood_of n)
theorem k__law_over (T : Txt K mg) : CalC P w K mg base "_law_over" 2 ["_law_kids_here", "_law_name"] sp__law_over :=
  cal_mk (T.d 41 ("_law_over", 50) rfl) sc__law_over (fun ds g Q h => by unfold sp__law_over at h; obtain ⟨_, _, _, _, _, _, rfl, _⟩ := h; rfl) (fun _ _ _ _ _ _ us hl => match us, hl with | [_, _], _ => rfl)
    (fun f cdv A outer s H E hr => d__law_over T.B  cdv A outer s H E hr) pu__law_over
theorem k__law_is_in (T : Txt K mg) : CalC P w K mg base "_law_is_in" 3 ["_law_kids_here", "_law_name", "_law_other"] sp__law_is_in :=
  cal_mk (T.d 42 ("_law_is_in", 51) rfl) sc__law_is_in (fun ds g Q h => by unfold sp__law_is_in at h; obtain ⟨_, _, _, _, _, _, rfl, _⟩ := h; rfl) (fun _ _ _ _ _ _ us hl => match us, hl with | [_, _, _], _ => rfl)
    (fun f cdv A outer s H E hr => d__law_is_in T.B (k__law_over T) (by decide) cdv A outer s H E hr) pu__law_is_in
theorem k__law_word (T : Txt K mg) : CalC P w K mg base "_law_word" 4 ["_law_kids_here", "_law_deed_here"] sp__law_word :=
  cal_mk (T.d 43 ("_law_word", 52) rfl) sc__law_word (fun ds g Q h => by unfold sp__law_word at h; obtain ⟨_, _, _, _, _, rfl, _⟩ := h; rfl) (fun _ _ _ _ _ _ us hl => match us, hl with | [_, _], _ => rfl)
    (fun f cdv A outer s H E hr => d__law_word T.B (k__law_is_in T) (by decide) cdv A outer s H E hr) pu__law_word
theorem k__law_placed (T : Txt K mg) : CalC P w K mg base "_law_placed" 3 ["_law_kids_here", "_law_deed_here"] sp__law_placed :=
  cal_mk (T.d 44 ("_law_placed", 53) rfl) sc__law_placed (fun ds g Q h => by unfold sp__law_placed at h; obtain ⟨_, _, _, _, _, rfl, _⟩ := h; rfl) (fun _ _ _ _ _ _ us hl => match us, hl with | [_, _], _ => rfl)
    (fun f cdv A outer s H E hr => d__law_placed T.B (k__law_over T) (by decide) cdv A outer s H E hr) pu__law_placed
theorem sc__law_changed : FnScope ["_law_kids_here", "_law_deed_here", "_law_word_here", "_law_name", "_law_over_here", "_law_row", "_law_at", "_law_inside", "_law_waiting", "_law_its", "_law_there"] ["_law_kids_here", "_law_deed_here"] (defScope (topS 55)) := ⟨rfl, rfl, rfl, by decide +kernel, rfl, by decide +kernel, by decide +kernel⟩
theorem k__law_changed (T : Txt K mg) : CalC P w K mg base "_law_changed" 1 ["_law_kids_here", "_law_deed_here"] cspF := cal_no (T.d 46 ("_law_changed", 55) rfl) sc__law_changed (fun _ _ _ h => h) (fun _ _ _ _ _ _ us hl => match us, hl with | [_, _], _ => rfl)
theorem k__law_ran (T : Txt K mg) : CalC P w K mg base "_law_ran" 32 ["_law_wood_here", "_law_deeds"] sp__law_ran :=
  cal_mk (T.d 47 ("_law_ran", 56) rfl) sc__law_ran (fun ds g Q h => by unfold sp__law_ran at h; obtain ⟨_, _, rfl, _⟩ := h; rfl) (fun _ _ _ _ _ _ us hl => match us, hl with | [_, _], _ => rfl)
    (fun f cdv A outer s H E hr => d__law_ran T.B (k__law_kids T) (by decide) (k__law_word T) (by decide) (k__law_placed T) (by decide) (k__law_changed T) (by decide) (k__law_wood_of T 30) (by decide) cdv A outer s H E hr) pu__law_ran
theorem k__law_roles (T : Txt K mg) : CalC P w K mg base "_law_roles" 2 ["_law_deeds"] sp__law_roles :=
  cal_mk (T.d 48 ("_law_roles", 57) rfl) sc__law_roles (fun ds g Q h => by unfold sp__law_roles at h; obtain ⟨_, rfl, _⟩ := h; rfl) (fun _ _ _ _ _ _ us hl => match us, hl with | [_], _ => rfl)
    (fun f cdv A outer s H E hr => d__law_roles T.B  cdv A outer s H E hr) pu__law_roles
theorem k__law_deed (T : Txt K mg) : CalC P w K mg base "_law_deed" 4 ["_law_deck_here", "_law_called"] sp__law_deed :=
  cal_mk (T.d 49 ("_law_deed", 58) rfl) sc__law_deed (fun ds g Q h => by unfold sp__law_deed at h; obtain ⟨_, _, _, _, rfl, _⟩ := h; rfl) (fun _ _ _ _ _ _ us hl => match us, hl with | [_, _], _ => rfl)
    (fun f cdv A outer s H E hr => d__law_deed T.B (k__law_draw T) (by decide) (k__law_pick T) (by decide) cdv A outer s H E hr) pu__law_deed
theorem k__law_script (T : Txt K mg) : CalC P w K mg base "_law_script" 5 ["_law_deck_here", "_law_called", "_law_most"] sp__law_script :=
  cal_mk (T.d 50 ("_law_script", 59) rfl) sc__law_script (fun ds g Q h => by unfold sp__law_script at h; obtain ⟨_, _, _, _, _, rfl, _⟩ := h; rfl) (fun _ _ _ _ _ _ us hl => match us, hl with | [_, _, _], _ => rfl)
    (fun f cdv A outer s H E hr => d__law_script T.B (k__law_draw T) (by decide) (k__law_deed T) (by decide) cdv A outer s H E hr) pu__law_script
theorem k__law_wood (T : Txt K mg) : CalC P w K mg base "_law_wood" 32 ["_law_deck_here", "_law_called"] sp__law_wood :=
  cal_mk (T.d 51 ("_law_wood", 60) rfl) sc__law_wood (fun ds g Q h => by unfold sp__law_wood at h; obtain ⟨_, _, _, rfl, _⟩ := h; rfl) (fun _ _ _ _ _ _ us hl => match us, hl with | [_, _], _ => rfl)
    (fun f cdv A outer s H E hr => d__law_wood T.B (k__law_draw T) (by decide) (k__law_wood_of T 30) (by decide) cdv A outer s H E hr) pu__law_wood
theorem k__law_fits (T : Txt K mg) : CalC P w K mg base "_law_fits" 4 ["_law_wood_here", "_law_old", "_law_new"] sp__law_fits :=
  cal_mk (T.d 52 ("_law_fits", 61) rfl) sc__law_fits (fun ds g Q h => by unfold sp__law_fits at h; obtain ⟨_, _, _, rfl, _⟩ := h; rfl) (fun _ _ _ _ _ _ us hl => match us, hl with | [_, _, _], _ => rfl)
    (fun f cdv A outer s H E hr => d__law_fits T.B (k__law_is_wood T) (by decide) (k__law_kids T) (by decide) cdv A outer s H E hr) pu__law_fits
theorem k__law_many (T : Txt K mg) : CalC P w K mg base "_law_many" 3 ["_law_wood_here"] sp__law_many :=
  cal_mk (T.d 53 ("_law_many", 62) rfl) sc__law_many (fun ds g Q h => by unfold sp__law_many at h; obtain ⟨_, rfl, _⟩ := h; rfl) (fun _ _ _ _ _ _ us hl => match us, hl with | [_], _ => rfl)
    (fun f cdv A outer s H E hr => d__law_many T.B (k__law_kids T) (by decide) cdv A outer s H E hr) pu__law_many
theorem k__law_do (T : Txt K mg) : CalC P w K mg base "_law_do" 9 ["_law_wood_here", "_law_deeds"] sp__law_do := by
  obtain ⟨C, fI, fdI, SC, FI⟩ := T.st
  obtain ⟨f1, fd1, F1, hm1⟩ := (T.d 25 ("do_script", 32) rfl).ex
  obtain ⟨f2, fd2, F2, hm2⟩ := (T.d 54 ("_law_do", 63) rfl).ex
  have GI : FnOk P w K mg base CX0 1 fI fdI ["self", "index", "word"] (spInit C) := ok_init FI SC
  have bI : Binds K fdI ["self", "index", "word"] [] := FI.binds (fun _ _ _ _ _ _ us hl => match us, hl with | [_, _, _], _ => rfl)
  have G1 : FnOk P w K mg base (L2.CX P w) 8 f1 fd1 ["wood", "script"] (spDo K C) := ok_do F1 SC GI bI (k_done_all T) (by decide) (k_row_of T) (by decide) (k_wood_from T) (by decide) (by decide)
  have b1 : Binds K fd1 ["wood", "script"] [] := F1.binds (fun _ _ _ _ _ _ us hl => match us, hl with | [_, _], _ => rfl)
  have G2 : FnOk P w K mg base CX0 9 f2 fd2 ["_law_wood_here", "_law_deeds"] (liftSp K sp__law_do) := ok_ldo F2 SC G1 hm1 F1.kp b1
  exact ⟨f2, fd2, G2, hm2, F2.kp, F2.binds (fun _ _ _ _ _ _ us hl => match us, hl with | [_, _], _ => rfl)⟩
theorem k__law_other_wood (T : Txt K mg) : CalC P w K mg base "_law_other_wood" 33 ["_law_deck_here", "_law_wood_here", "_law_called"] sp__law_other_wood :=
  cal_mk (T.d 55 ("_law_other_wood", 64) rfl) sc__law_other_wood (fun ds g Q h => by unfold sp__law_other_wood at h; obtain ⟨_, _, _, _, _, rfl, _⟩ := h; rfl) (fun _ _ _ _ _ _ us hl => match us, hl with | [_, _, _], _ => rfl)
    (fun f cdv A outer s H E hr => d__law_other_wood T.B (k__law_draw T) (by decide) (k__law_mixed T) (by decide) (k__law_wood T) (by decide) (k__law_pick T) (by decide) (k__law_ran T) (by decide) cdv A outer s H E hr) pu__law_other_wood
theorem k__law_kept_right (T : Txt K mg) : CalC P w K mg base "_law_kept_right" 34 ["_law_deck_here", "_law_deeds", "_law_called"] sp__law_kept_right :=
  cal_mk (T.d 56 ("_law_kept_right", 65) rfl) sc__law_kept_right (fun ds g Q h => by unfold sp__law_kept_right at h; obtain ⟨_, _, _, _, _, rfl, _⟩ := h; rfl) (fun _ _ _ _ _ _ us hl => match us, hl with | [_, _, _], _ => rfl)
    (fun f cdv A outer s H E hr => d__law_kept_right T.B (k__law_mixed T) (by decide) (k__law_wood T) (by decide) (k__law_other_wood T) (by decide) (k__law_do T) (by decide) cdv A outer s H E hr) pu__law_kept_right
theorem k__law_lost_right (T : Txt K mg) : CalC P w K mg base "_law_lost_right" 10 ["_law_deck_here", "_law_deeds", "_law_tail", "_law_found"] sp__law_lost_right :=
  cal_mk (T.d 57 ("_law_lost_right", 66) rfl) sc__law_lost_right (fun ds g Q h => by unfold sp__law_lost_right at h; obtain ⟨_, _, _, _, _, rfl, _⟩ := h; rfl) (fun _ _ _ _ _ _ us hl => match us, hl with | [_, _, _, _], _ => rfl)
    (fun f cdv A outer s H E hr => d__law_lost_right T.B (k__law_do T) (by decide) (k__law_roles T) (by decide) (k__law_fits T) (by decide) (k_loses T) (by decide) cdv A outer s H E hr) pu__law_lost_right
theorem k_law (T : Txt K mg) : ∃ (f : Addr) (fd : FuncData), (∀ base : Heap, FnOk P w K mg base CX0 35 f fd ["_law_script_here"] (spLaw K)) ∧ mg "law" = some (.ref f) ∧ ∀ (s : Shared) (u : Value), BindsTo s fd ⟨[u], []⟩ [("_law_script_here", u)] := by
  obtain ⟨f1, fd1, F1, hm1⟩ := (T.d 31 ("_law_deck", 40) rfl).ex
  obtain ⟨f2, fd2, F2, hm2⟩ := (T.d 58 ("law", 67) rfl).ex
  have b1 : Binds K fd1 ["_law_script_here"] [] := F1.binds (fun _ _ _ _ _ _ us hl => match us, hl with | [_], _ => rfl)
  refine ⟨f2, fd2, fun base => ?_, hm2, fun s u => ?_⟩
  · refine F2.ok sc_law (fun vs H Q E h => ?_) (fun cdv A outer s H vs Q E hr h => ?_)
    · obtain ⟨a, ns, rfl, _⟩ := h
      rfl
    · obtain ⟨a, ns, rfl, hS, q⟩ := h
      exact ⟨tLaw K, d_lawAll T.B (ok_deck F1 T.B) hm1 F1.kp b1 (by decide) (k__law_draw T) (by decide) (k__law_menu T) (by decide) (k__law_script T) (by decide) (k__law_roles T) (by decide) (k_loses T) (by decide) (k__law_others T) (by decide) (k__law_kept_right T) (by decide) (k__law_lost_right T) (by decide) (k__law_pick T) (by decide) (k__law_many T) (by decide) cdv A outer s H E hr, law_run hS q⟩
  · obtain ⟨oc, od, kV, doc, pm, an, cdv, ct, osl, rfl, lk, hcd⟩ := F2.ex
    exact .of_eq rfl
end
end CL

/-! U1: what the head tells, by a Hook. -/
namespace CL
open PySem PySem.Spec PyProof.Rows L2 TM
/-! ### the class Stopped -/
def oexB (K : PySem.W.Frag) (C : Addr) : Bool := match K.lookup C with
  | some ⟨.type "type", _, .cls cd, sl⟩ => (match cd.mro, sl.toList with
    | .ref C' :: bm, [_, _, _, _, some (.builtin n), _] => C' == C && n == "ValueError.__new__" && !cd.hasDel && cd.hasDict && PySem.HandSPX.refsVE bm
    | _, _ => false)
  | _ => false
theorem oexB_ok {K : PySem.W.Frag} {C : Addr} (q : oexB K C = true) : ∃ nm q N bs bm sn sub ab col dd k0 k1 k2 k3 k5, K.lookup C = some (excClassObj nm q C N bs bm true sn sub ab col dd k0 k1 k2 k3 k5 "ValueError.__new__") ∧ PySem.HandSPX.refsVE bm = true := by
  unfold oexB at q
  split at q
  · rename_i dd cd sl ho
    split at q
    · rename_i C' bm k0 k1 k2 k3 n k5 hm hs
      simp only [Bool.and_eq_true, beq_iff_eq, Bool.not_eq_true'] at q
      obtain ⟨⟨⟨⟨rfl, rfl⟩, hdel⟩, hdict⟩, ht⟩ := q
      obtain ⟨nm, bs, mro, ns, qn, hd, sn, sub, ab, col, del⟩ := cd
      dsimp only at hm hdel hdict
      subst hm hdel hdict
      have hsl : sl = #[k0, k1, k2, k3, some (.builtin "ValueError.__new__"), k5] := by
        obtain ⟨l⟩ := sl
        simp only at hs
        rw [hs]
      subst hsl
      exact ⟨nm, qn, ns, bs, bm, sn, sub, ab, col, dd, k0, k1, k2, k3, k5, ho, ht⟩
    · cases q
  · cases q
def stB (K : PySem.W.Frag) (C fI : Addr) : Bool :=
  oexB K C && (He.eqO (PySem.W.findIn K (.ref C) "__setattr__") (some (some (.builtin "object.__setattr__"))) && (decide (PySem.W.subIn K (.ref C) (.type "BaseException") = some true) &&
  (decide (PySem.W.typeIn K (.ref C) = some (.type "type")) && (PySem.W.keepIn K (.ref C) && (He.eqO (PySem.W.findIn K (.ref C) "index") (some none) && (He.eqO (PySem.W.findIn K (.ref C) "word") (some none) &&
  (He.eqO (PySem.W.findIn K (.ref C) "__init__") (some (some (.ref fI))) && (decide (PySem.W.typeIn K (.ref fI) = some (.type "function")) &&
  (He.eqO (PySem.W.findIn K (.ref C) "__getattribute__") (some (some (.builtin "BaseException.__getattribute__"))) && (He.eqO (PySem.W.findIn K (.ref C) "__getattr__") (some none) &&
  (PySem.W.hasDictIn K C && decide (PySem.W.exmOne K (.ref C) (.ref C) = some true))))))))))))
theorem stB_ok {K : PySem.W.Frag} {mg : Str → Option Value} {C fI : Addr} (h : stB K C fI = true) (hm : mg "Stopped" = some (.ref C)) : StC K mg C fI := by
  obtain ⟨h1, h⟩ := He.ba h
  obtain ⟨h2, h⟩ := He.ba h
  obtain ⟨h3, h⟩ := He.ba h
  obtain ⟨h4, h⟩ := He.ba h
  obtain ⟨h5, h⟩ := He.ba h
  obtain ⟨h6, h⟩ := He.ba h
  obtain ⟨h7, h⟩ := He.ba h
  obtain ⟨h8, h⟩ := He.ba h
  obtain ⟨h9, h⟩ := He.ba h
  obtain ⟨h10, h⟩ := He.ba h
  obtain ⟨h11, h⟩ := He.ba h
  obtain ⟨h12, h13⟩ := He.ba h
  exact ⟨⟨oexB_ok h1, He.eqO_ok h2, of_decide_eq_true h3, of_decide_eq_true h4, h5⟩, hm, He.eqO_ok h6, He.eqO_ok h7, He.eqO_ok h8, of_decide_eq_true h9, He.eqO_ok h10, He.eqO_ok h11, h12, of_decide_eq_true h13⟩
/-! ### the tuple MOVES -/
def mvS : List Str := [W.first, .last, .ahead, .behind, .front, .back].map wS
def mvB (K : PySem.W.Frag) (a : Addr) : Bool := match K.lookup a with
  | some ⟨.type c, none, .seq its _, sl⟩ => decide (c = "tuple") && (sl.isEmpty && (decide (its.size ≤ sizeLine) && He.relAll (mvS.map V.str) its.toList))
  | _ => false
theorem mvB_ok {K : PySem.W.Frag} {mg : Str → Option Value} {a : Addr} (h : mvB K a = true) (hm : mg "MOVES" = some (.ref a)) : GlobD K mg "MOVES" v_MOVES := by
  unfold mvB at h
  split at h
  · rename_i c its n sl ho
    obtain ⟨h1, h⟩ := He.ba h
    obtain ⟨h2, h⟩ := He.ba h
    obtain ⟨h3, h4⟩ := He.ba h
    have e1 : c = "tuple" := of_decide_eq_true h1
    have e2 : sl = #[] := Array.isEmpty_iff.mp h2
    subst e1 e2
    rintro X rfl rfl pos hg
    exact kglobT hg hm ho (of_decide_eq_true h3) (He.relAll_ok h4) fun H => .cons (.str _) (.cons (.str _) (.cons (.str _) (.cons (.str _) (.cons (.str _) (.cons (.str _) .nil)))))
  · cases h
/-! ### what is looked at -/
def defD (p : Str × Nat) : He.DefD := ⟨(p.1, none), p.1, p.1, defArgs (topS p.2), defBody (topS p.2), defScope (topS p.2), [], []⟩
def initD : He.DefD := ⟨("Stopped", some "__init__"), "__init__", "Stopped.__init__", defArgs s_init, defBody s_init, defScope s_init, [], []⟩
def fnL : List He.DefD := initD :: defsL.map defD
def freeL : List Str := ["len", "all", "any", "abs", "int", "str", "tuple", "list", "sorted", "set", "enumerate", "zip", "range", "isinstance"]
def faL : List He.Fa := .glo "Stopped" :: .glo "MOVES" :: (freeL.map He.Fa.free ++ defsL.map fun p => .glo p.1)
def exB (K : PySem.W.Frag) : Bool := stB K (He.ga K "Stopped") (He.ma K (He.ga K "Stopped") "__init__") && mvB K (He.ga K "MOVES")
/-- the addresses: the module's names, what they name, the classes' names, their code -/
def refsH (o : Obj) : List Addr := match o.data with
  | .func fd => He.refV fd.code
  | .cls cd => cd.ns :: cd.mro.flatMap He.refV
  | .dict es _ => es.toList.flatMap fun e => He.refV e.val
  | _ => []
def stepH (g : Addr → Option Obj) (as : List Addr) : List Addr := as.flatMap fun a => match g a with
  | some o => refsH o
  | none => []
def asH (g : Addr → Option Obj) : List Addr :=
  let l1 := stepH g [mainGlobals]
  let l2 := stepH g l1
  let l3 := stepH g l2
  mainGlobals :: (l1 ++ (l2 ++ (l3 ++ stepH g l3)))
abbrev AlH : Type := He.AlD × Bool
def obsH (K : PySem.W.Frag) : AlH := (He.obsD faL fnL K, exB K)
def valH : AlH := (He.valD fnL, true)
def obsHG (g : Addr → Option Obj) : AlH := obsH (He.frG g (asH g))
def hookH : PySem.W.Hook where
  α := AlH
  obs := fun s => obsHG s.heap.get?
  val := fun _ => valH
  says := fun _ h => ∃ K : PySem.W.Frag, K.In h ∧ obsH K = valH
  of := fun _ _ e => ⟨_, He.frG_in, e⟩
  keeps := fun _ _ _ ⟨K, hK, c⟩ k => ⟨K, PySem.W.Frag.In.keeps hK k, c⟩
theorem obsHG_eq {g : Addr → Option Obj} {s : Shared} (h : ∀ a, g a = s.heap.get? a) : obsHG g = hookH.obs s := by
  have e : g = s.heap.get? := funext h
  rw [e] <;> rfl
/-! ### from the looks to the facts -/
theorem fun_of {K : PySem.W.Frag} {x qual : Str} {st : Stmt} {f : Addr} {fd : FuncData} (F : FunD K x qual (defArgs st) (defBody st) (defScope st) [] [] f fd) : Fun K x qual st f fd := by
  obtain ⟨oc, od, dV, kV, doc, pm, an, cdv, ct, osl, e, lk, hcd, hD, hK⟩ := F.ex
  rcases hD with ⟨_, rfl⟩ | ⟨z, _⟩
  · exact ⟨⟨oc, od, kV, doc, pm, an, cdv, ct, osl, e, lk, hcd⟩, F.kp⟩
  · exact absurd rfl z
section
variable {K : PySem.W.Frag} {h : Heap} {mg : Str → Option Value}
theorem txt_of (X : K.In h) (G : h.Ns mainGlobals mg) (c : obsH K = valH) : Txt K mg := by
  have c1 : He.SaysD faL fnL K := congrArg (fun z : AlH => z.1) c
  have c2 : exB K = true := congrArg (fun z : AlH => z.2) c
  obtain ⟨e1, e2⟩ := He.ba c2
  have fr : ∀ i, ∀ x, faL[i]? = some (He.Fa.free x) → mg x = none := fun i x hi => He.free_ok X G (c1.fact i hi)
  have gl : ∀ i, ∀ x, faL[i]? = some (He.Fa.glo x) → mg x = some (.ref (He.ga K x)) := fun i x hi => He.glo_ok X G (c1.fact i hi)
  refine ⟨⟨fr 2 _ rfl, fr 3 _ rfl, fr 4 _ rfl, fr 5 _ rfl, fr 6 _ rfl, fr 7 _ rfl, fr 8 _ rfl, fr 9 _ rfl, fr 10 _ rfl, fr 11 _ rfl, fr 12 _ rfl, fr 13 _ rfl, fr 14 _ rfl, fr 15 _ rfl⟩, ?_, mvB_ok e2 (gl 1 _ rfl), ?_⟩
  · intro i p hp
    have hf : fnL[i + 1]? = some (defD p) := by
      show (defsL.map defD)[i]? = _
      rw [List.getElem?_map, hp] <;> rfl
    obtain ⟨fd, F⟩ := c1.def_ (i + 1) hf
    have hg : faL[i + 16]? = some (He.Fa.glo p.1) := by
      show (defsL.map fun p => He.Fa.glo p.1)[i]? = _
      rw [List.getElem?_map, hp] <;> rfl
    exact ⟨_, fd, fun_of F, gl _ _ hg⟩
  · obtain ⟨fd, F⟩ := c1.def_ 0 (d := initD) rfl
    exact ⟨_, _, fd, stB_ok e1 (gl 0 _ rfl), fun_of F⟩
end
end CL

set_option maxHeartbeats 0
/-! U2: the head's run. -/
namespace CL
open PySem PySem.Spec PyProof.Rows L2 TM
abbrev RR : PySem.W.OpenRow := PySem.W.OpenLaw.row PySem.Challenge.rw_twigscripts_k48_whole_scripts_that_lose
def looseL : List PySem.Str := "MOVES" :: "TwigError" :: "Stopped" :: (defsL.map (·.1)).filter fun x => !(x == ("law" : Str))
def obT (s : PySem.W.SharedT) : AlH := obsHG (HandSHeadRun.getT s)
theorem obT_eq (s : PySem.W.SharedT) : obT s = hookH.obs s.abs := obsHG_eq (HandSHeadRun.getT_eq s)
theorem headRun (w : World) : HandSHeadRun.RunEq RR (PySem.W.view RR.prog [67]) hookH obT 9000 looseL w := by
  intro os
  kernel_rfl
end CL

set_option maxHeartbeats 0
/-! U3: the law holds. -/
namespace CL
open PySem PySem.W PySem.Calls PyProof.Rows
abbrev LRow : PySem.W.OpenLaw := PySem.Challenge.rw_twigscripts_k48_whole_scripts_that_lose
abbrev qView : Program := view RR.prog [67]
abbrev lawD : DefRec := HandSHeadRun.topDef RR.prog 67
theorem hd_open : opening RR.prog = plainProg RR.prog.main.scope.names := by kernel_rfl
theorem hd_fence (s : Shared) : fenceModules? RR.prog s = some s := by kernel_rfl
theorem hd_def : defOf qView RR.name = some (lawD, []) := by kernel_rfl
theorem hd_the : RR.prog.theDef RR.name = some (lawD.params, lawD.body, lawD.scope) := by kernel_rfl
theorem hd_kw : kwWritten? lawD.params.kwonlyargs lawD.params.kw_defaults = some [] := by kernel_rfl
theorem hd_ok : (chainsOk qView && opensWell RR.prog && (frees RR.toRowW && RR.within.isEmpty)) = true := by decide +kernel
theorem hd_whole : RR.prog.tablesWhole = true := by decide +kernel
theorem hd_bare : RR.prog.bare := ⟨rfl, rfl, rfl, rfl, rfl, hd_whole⟩
theorem hd_name : lawD.name = ("law" : PySem.Str) := by kernel_rfl
theorem hd_nodfl : lawD.params.defaults = [] := by kernel_rfl
theorem hd_witness : RR.toRowW.promised := by w_witness2
theorem hd_walk : WalkO qView looseL (XL qView []) hookH.says RR.toRowW lawD [] (fun f vs => PySem.call f vs) := by
  refine L2.walk_ofE (l := LRow) (n := 63) (k := 35) (x := "_law_script_here") (CX := L2.CX0) rfl (by decide) hd_nodfl ⟨rfl, by decide, by decide⟩ ?F (fun _ _ _ _ z => z)
  intro w mg fa h Y G hmg0
  obtain ⟨K, KX, c⟩ := Y
  have hmg : mg ("law" : PySem.Str) = some (.ref fa) := by
    rw [← hd_name]
    exact hmg0
  obtain ⟨f, fd, hF, hm, hb⟩ := k_law (P := LRow.prog) (w := w) (txt_of KX G c)
  have ef : f = fa := by
    have e := hm.symm.trans hmg
    injection e with e
    injection e
  subst ef
  exact ⟨K, fd, spLaw K, KX, hb, fun H a ns hl _ hS => ⟨a, ns, rfl, hS, fun _ => rfl⟩, fun base _ _ => hF base⟩
theorem hd_row (said : RR.wellSaid = true) : RR.Holds :=
  HandSHeadRun.head_any (r := RR) (q := qView) (H := hookH) (ob := obT) (M := 9000) (loose := looseL) (d := lawD) (kwd := []) obT_eq hd_open hd_fence headRun hd_def hd_the hd_kw (by rfl) said hd_ok hd_bare hd_witness hd_walk
theorem hd_law (h : RR.wellSaid = true → RR.Holds) : LRow.Holds := by
  o_law
  exact h (by assumption)
end CL
open PySem PySem.W PySem.Calls PyProof.Rows
theorem PySem.Challenge.cw_twigscripts_k48_whole_scripts_that_lose_holds : PySem.Challenge.rw_twigscripts_k48_whole_scripts_that_lose.Holds := by
  exact CL.hd_law CL.hd_row

