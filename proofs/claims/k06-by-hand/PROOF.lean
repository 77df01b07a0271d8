import PyProof.Rows.All
import Wide.All
import OpenK.AllK
import Wide.FinOn
import HandS.ForMost
import HandS.Deep
import HandS.Exc
import HandS.ExcOwn
import HandS.WordsExc
import KE.KDictKeyed
import HandS.TupAny
import HandS.TupMul
import HandS.Style
import HandS.Dict
import KE.KDictWalk
import HandS.Text
import KE.DataCmp
import HandS.IsInst
import HandS.Conv
import HandS.Small
import HandS.Star
import PyProof.SeqIndex
import HandS.Strs
import PyProof.FactsAll.tuple_0
import PyProof.FactsAll.list_0
import PyProof.FactsAll.dict_0
import PyProof.FactsAll.str_0
import KE.GoesEnum
import KE.GoesNew
import KE.GoesDict
import KE.GoesMore
import HandS.Zip
import HandS.Comp
import KE.KDictDisplayH
import HandS.TupLen
import PyProof.DictTable
import KE.KStateDown
import HandS.Defaults
import HandS.Head0
import HandS.Head1
import HandS.Head2
import HandS.HeadEnd
import HandS.HeadHook1
import HandS.HeadHook2
import KE.KEqSeq
import PySem.Challenge.RW_putinplace_k06_programs_by_hand
set_option Elab.async false
set_option linter.all false
set_option maxRecDepth 100000
set_option maxHeartbeats 0
namespace Pg
open PySem L2
abbrev D := PyData
/-- a value: data, or a reference into the store -/
inductive W where
  | p (d : D) | r (i : Nat)
/-- what stands in the store -/
inductive O where
  | lst (ws : List W) | dic (kvs : List (D × W))
abbrev Mu := List O
inductive R (α : Type) where
  | ok (a : α) (m : Mu) | exc (c : Str) (d : D) (m : Mu) | bad
abbrev Env := List (Option W)
def R.bd {α β : Type} : R α → (α → Mu → R β) → R β
  | .ok a m, k => k a m
  | .exc c d m, _ => .exc c d m
  | .bad, _ => .bad
/-- a slot's value -/
def get (e : Env) (i : Nat) : Option W := match e[i]? with
  | some (some w) => some w
  | _ => none
mutual
/-- data as a key of a dict -/
def kOf : D → Option NestedKey
  | .none => some .none
  | .bool b => some (.num (if b = true then 1 else 0))
  | .int i => some (.num i)
  | .str x => some (.text x)
  | .tuple xs => match kOfs xs with
    | some ks => some (.tup ks)
    | none => none
  | .list _ => none
  | .dict _ => none
def kOfs : List D → Option (List NestedKey)
  | [] => some []
  | x :: xs => match kOf x, kOfs xs with
    | some k, some ks => some (k :: ks)
    | _, _ => none
end
/-- data that may be a key here: a whole number, a text, a tuple (nested to depth 8) -/
def dkey : D → Option NestedKey
  | .int i => some (.num i)
  | .str x => some (.text x)
  | .tuple xs => match kOfs xs with
    | some ks => if (NestedKey.tup ks).depth ≤ 8 then some (.tup ks) else none
    | none => none
  | _ => none
def isTup : D → Bool
  | .tuple _ => true
  | _ => false
/-- keys: none twice, all of one sort -/
def KsOk {β : Type} (ks : List (D × β)) : Prop := (ks.map fun q => dkey q.1).Nodup ∧ ∀ q ∈ ks, ∀ q' ∈ ks, isTup q.1 = isTup q'.1
/-- the dict at a has these entries -/
def dicO (a : Addr) (es : List DictEntry) (ep : Nat) : HO := .ext fun h => ∃ o, h.get? a = some o ∧ o.ExactDict ∧ o.data = .dict es.toArray ep
section
variable (w : World) (K : PySem.W.Frag) (B : Addr → Prop)
/-- a list of the written part -/
def KLst (a : Addr) (xs : List V) : Prop :=
  ∃ (o : Obj) (its : Array Value) (n : Nat), K.lookup a = some o ∧ o.cls = .type "list" ∧ o.dict = none ∧ o.data = .seq its n ∧ its.size ≤ sizeLine ∧ Vals xs its.toList
def KDic (a : Addr) (es : List DictEntry) (ep : Nat) : Prop :=
  ∃ (o : Obj), K.lookup a = some o ∧ o.ExactDict ∧ o.data = .dict es.toArray ep
/-- a list that nobody of ours may write -/
def LsB (H : Hp) (a : Addr) (xs : List V) : Prop := (Rd H a (.lst xs) ∧ ¬ B a) ∨ KLst K a xs
/-- .. with its epoch -/
def DcE (H : Hp) (a : Addr) (es : List DictEntry) (ep : Nat) : Prop := (Rd H a (dicO a es ep) ∧ ¬ B a) ∨ KDic K a es ep
/-- a dict that may be read -/
def DcR (H : Hp) (a : Addr) (es : List DictEntry) (ep : Nat) : Prop := Rd H a (dicO a es ep) ∨ KDic K a es ep
def DcB (H : Hp) (a : Addr) (es : List DictEntry) : Prop := (∃ ep, DcE K B H a es ep) ∧ (a == sysModules) = false
/-- a tuple, its object without a dict -/
def TpN (H : Hp) (a : Addr) (xs : List V) : Prop :=
  (∃ ob : Obj, H a = some (.frz ob (.tup xs)) ∧ ob.dict = none) ∨
  ∃ (o : Obj) (its : Array Value) (n : Nat), K.lookup a = some o ∧ o.cls = .type "tuple" ∧ o.data = .seq its n ∧ its.size ≤ sizeLine ∧ Vals xs its.toList ∧ o.dict = none
mutual
/-- the value v stands for the data d -/
inductive DV (H : Hp) : V → D → Prop
  | non : DV H .non .none
  | bl (b : Bool) : DV H (.bl b) (.bool b)
  | int (i : Int) : DV H (.int i) (.int i)
  | str (x : Str) : DV H (.str x) (.str x)
  | lst {a : Addr} {xs : List V} {ds : List D} : LsB K B H a xs → xs.length ≤ sizeLine → DVs H xs ds → DV H (.ref a) (.list ds)
  | tup {a : Addr} {xs : List V} {ds : List D} : TpN K H a xs → xs.length ≤ sizeLine → DVs H xs ds → DV H (.ref a) (.tuple ds)
  | dic {a : Addr} {es : List DictEntry} {ks : List (D × D)} : DcB K B H a es → es.length ≤ sizeLine → KsOk ks → DEs H es ks → DV H (.ref a) (.dict ks)
inductive DVs (H : Hp) : List V → List D → Prop
  | nil : DVs H [] []
  | cons {v : V} {vs : List V} {d : D} {ds : List D} : DV H v d → DVs H vs ds → DVs H (v :: vs) (d :: ds)
inductive DEs (H : Hp) : List DictEntry → List (D × D) → Prop
  | nil : DEs H [] []
  | cons {e : DictEntry} {es : List DictEntry} {v u : V} {k : NestedKey} {d c : D} {ks : List (D × D)} : RelV v e.key → DV H v d → dkey d = some k → e.hash = k.hash w → RelV u e.val → DV H u c → DEs H es ks → DEs H (e :: es) ((d, c) :: ks)
end
end
/-- forbidden, or in our region -/
def Fb (B : Addr → Prop) (ρ : List Addr) : Addr → Prop := fun a => B a ∨ a ∈ ρ
section
variable (w : World) (K : PySem.W.Frag) (B : Addr → Prop)
def WV (ρ : List Addr) (H : Hp) (v : V) : W → Prop
  | .p d => DV w K (Fb B ρ) H v d
  | .r i => ∃ a, ρ[i]? = some a ∧ v = .ref a
/-- an entry of a dict of the store -/
def EnR (ρ : List Addr) (H : Hp) (e : DictEntry) (q : D × W) : Prop :=
  ∃ v u k, RelV v e.key ∧ DV w K (Fb B ρ) H v q.1 ∧ dkey q.1 = some k ∧ e.hash = k.hash w ∧ RelV u e.val ∧ WV w K B ρ H u q.2
def ObR (ρ : List Addr) (H : Hp) (a : Addr) : O → Prop
  | .lst ws => ∃ xs, H a = some (.lst xs) ∧ xs.length ≤ sizeLine ∧ Paired (WV w K B ρ H) xs ws
  | .dic ks => ∃ es ep, H a = some (dicO a es ep) ∧ (a == sysModules) = false ∧ es.length ≤ sizeLine ∧ KsOk ks ∧ Paired (EnR w K B ρ H) es ks
/-- the store stands -/
structure RS (ρ : List Addr) (H : Hp) (m : Mu) : Prop where
  nd : ρ.Nodup
  len : ρ.length = m.length
  at_ : ∀ (i : Nat) (a : Addr) (o : O), ρ[i]? = some a → m[i]? = some o → ObR w K B ρ H a o
  bt : ∀ a, B a → H a ≠ none ∧ a ∉ ρ
end
/-- from H to H': what is not ours stands, what came to the region is new -/
structure Stp (ρ : List Addr) (H : Hp) (ρ' : List Addr) (H' : Hp) : Prop where
  ext : ∃ n, ρ' = ρ ++ n ∧ ∀ a ∈ n, H a = none
  keep : ∀ a o, H a = some o → a ∉ ρ → H' a = some o
section
variable {w : World} {K : PySem.W.Frag} {B : Addr → Prop} {ρ ρ' ρ2 : List Addr} {H H' H2 : Hp} {m m' : Mu} {a : Addr}
theorem RS.alive (r : RS w K B ρ H m) (h : a ∈ ρ) : H a ≠ none := by
  obtain ⟨i, hi⟩ := List.getElem?_of_mem h
  have hl : i < m.length := by rw [← r.len]; exact (List.getElem?_eq_some_iff.mp hi).1
  have := r.at_ i a m[i] hi (List.getElem?_eq_getElem hl)
  cases q : m[i] with
  | lst ws => rw [q] at this; obtain ⟨xs, e, _⟩ := this; rw [e]; simp
  | dic ks => rw [q] at this; obtain ⟨xs, ep, e, _⟩ := this; rw [e]; simp
theorem Stp.refl : Stp ρ H ρ H := ⟨⟨[], by simp, by simp⟩, fun _ _ e _ => e⟩
theorem Stp.trans (x : Stp ρ H ρ' H') (r : RS w K B ρ H m) (r' : RS w K B ρ' H' m') (y : Stp ρ' H' ρ2 H2) : Stp ρ H ρ2 H2 := by
  obtain ⟨⟨n, rfl, hn⟩, k⟩ := x
  obtain ⟨⟨n2, rfl, hn2⟩, k2⟩ := y
  have old : ∀ a o, H a = some o → a ∉ ρ → a ∉ ρ ++ n := fun a o e h z => (List.mem_append.mp z).elim h fun z => by
    rw [hn a z] at e; cases e
  refine ⟨⟨n ++ n2, by rw [List.append_assoc], fun a h => ?_⟩, fun a o e h => k2 a o (k a o e h) (old a o e h)⟩
  rcases List.mem_append.mp h with h | h
  · exact hn a h
  · cases q : H a with
    | none => rfl
    | some o =>
      by_cases ha : a ∈ ρ
      · exact absurd (hn2 a h) (r'.alive (List.mem_append_left _ ha))
      · have := k a o q ha
        rw [hn2 a h] at this; cases this
/-- an address that stands and is not in the region is not in a later one -/
theorem Stp.out (x : Stp ρ H ρ' H') {o : HO} (e : H a = some o) (h : a ∉ ρ) : a ∉ ρ' := by
  obtain ⟨⟨n, rfl, hn⟩, _⟩ := x
  intro z
  rcases List.mem_append.mp z with z | z
  · exact h z
  · rw [hn a z] at e; cases e
theorem rd_some {u : HO} (r : Rd H a u) : ∃ o, H a = some o ∧ ∀ H' : Hp, H' a = some o → Rd H' a u := by
  rcases r with r | ⟨o, r⟩
  · exact ⟨_, r, fun _ q => .inl q⟩
  · exact ⟨_, r, fun _ q => .inr ⟨o, q⟩⟩
/-- readable as before, where all that is not of the region stands -/
structure Kp (F F' : Addr → Prop) (H H' : Hp) : Prop where
  keep : ∀ a o, H a = some o → ¬ F a → H' a = some o ∧ ¬ F' a
  tup : ∀ a o, H a = some o → (∃ xs, o = .tup xs ∨ ∃ ob, o = .frz ob (.tup xs)) → H' a = some o
theorem LsB.kp {F F' : Addr → Prop} (k : Kp F F' H H') {xs : List V} (h : LsB K F H a xs) : LsB K F' H' a xs := by
  rcases h with ⟨h, n⟩ | h
  · obtain ⟨o, e, f⟩ := rd_some h
    exact .inl ⟨f H' (k.keep a o e n).1, (k.keep a o e n).2⟩
  · exact .inr h
theorem DcE.kp {F F' : Addr → Prop} (k : Kp F F' H H') {xs : List DictEntry} {ep : Nat} (h : DcE K F H a xs ep) : DcE K F' H' a xs ep := by
  rcases h with ⟨h, n⟩ | h
  · obtain ⟨o, e, f⟩ := rd_some h
    exact .inl ⟨f H' (k.keep a o e n).1, (k.keep a o e n).2⟩
  · exact .inr h
theorem DcB.kp {F F' : Addr → Prop} (k : Kp F F' H H') {xs : List DictEntry} (h : DcB K F H a xs) : DcB K F' H' a xs :=
  let ⟨⟨ep, h⟩, n⟩ := h
  ⟨⟨ep, h.kp k⟩, n⟩
theorem DcE.rd {F : Addr → Prop} {xs : List DictEntry} {ep : Nat} (h : DcE K F H a xs ep) : DcR K H a xs ep := by
  rcases h with ⟨h, _⟩ | h
  · exact .inl h
  · exact .inr h
theorem TpN.kp {F F' : Addr → Prop} (k : Kp F F' H H') {xs : List V} (h : TpN K H a xs) : TpN K H' a xs := by
  rcases h with ⟨o, h, d⟩ | h
  · exact .inl ⟨o, k.tup a _ h ⟨xs, .inr ⟨o, rfl⟩⟩, d⟩
  · exact .inr h
theorem TpN.sq {xs : List V} (h : TpN K H a xs) : SqT K H a xs := by
  rcases h with ⟨o, h, d⟩ | ⟨o, its, n, h1, h2, h3, h4, h5, h6⟩
  · exact .inl (.inr ⟨o, h⟩)
  · exact .inr ⟨o, its, n, h1, h2, h3, h4, h5⟩
theorem TpN.nodict {X : Cx} {pins : List (Addr × Obj)} {σ : St} {s : Shared} {xs : List V} (I : Inv X pins σ H s) (h : TpN X.K H a xs) : ∃ ob, s.heap.get? a = some ob ∧ ob.dict = none := by
  rcases h with ⟨o, h, d⟩ | ⟨o, its, n, h1, h2, h3, h4, h5, h6⟩
  · exact ⟨o, (I.hok a _ h).1, d⟩
  · exact ⟨o, I.kIn a o h1, h6⟩
mutual
theorem DV.kp {F F' : Addr → Prop} (k : Kp F F' H H') : ∀ {v : V} {d : D}, DV w K F H v d → DV w K F' H' v d
  | _, _, .non => .non
  | _, _, .bl b => .bl b
  | _, _, .int i => .int i
  | _, _, .str x => .str x
  | _, _, .lst h l r => .lst (h.kp k) l (DVs.kp k r)
  | _, _, .tup h l r => .tup (TpN.kp k h) l (DVs.kp k r)
  | _, _, .dic h l o r => .dic (h.kp k) l o (DEs.kp k r)
theorem DVs.kp {F F' : Addr → Prop} (k : Kp F F' H H') : ∀ {v : List V} {d : List D}, DVs w K F H v d → DVs w K F' H' v d
  | _, _, .nil => .nil
  | _, _, .cons h r => .cons (DV.kp k h) (DVs.kp k r)
theorem DEs.kp {F F' : Addr → Prop} (k : Kp F F' H H') : ∀ {v : List DictEntry} {d : List (D × D)}, DEs w K F H v d → DEs w K F' H' v d
  | _, _, .nil => .nil
  | _, _, .cons a b c e f g r => .cons a (DV.kp k b) c e f (DV.kp k g) (DEs.kp k r)
end
/-- tuples don't stand in the region -/
theorem RS.notup (r : RS w K B ρ H m) (h : a ∈ ρ) {o : HO} (e : H a = some o) : ¬ ∃ xs, o = .tup xs ∨ ∃ ob, o = .frz ob (.tup xs) := by
  obtain ⟨i, hi⟩ := List.getElem?_of_mem h
  have hl : i < m.length := by rw [← r.len]; exact (List.getElem?_eq_some_iff.mp hi).1
  have := r.at_ i a m[i] hi (List.getElem?_eq_getElem hl)
  rintro ⟨xs, q⟩
  cases z : m[i] with
  | lst ws =>
    rw [z] at this; obtain ⟨ys, e2, _⟩ := this
    rw [e] at e2; cases e2
    rcases q with q | ⟨ob, q⟩ <;> cases q
  | dic ks =>
    rw [z] at this; obtain ⟨ys, ep, e2, _⟩ := this
    rw [e] at e2; cases e2
    rcases q with q | ⟨ob, q⟩ <;> (unfold dicO at q; cases q)
theorem Stp.kp (x : Stp ρ H ρ' H') (r : RS w K B ρ H m) : Kp (Fb B ρ) (Fb B ρ') H H' where
  keep := fun a o e n => ⟨x.keep a o e fun z => n (.inr z), fun z => z.elim (fun z => n (.inl z)) fun z => x.out e (fun z => n (.inr z)) z⟩
  tup := fun a o e t => x.keep a o e fun z => r.notup z e t
theorem WV.stp (x : Stp ρ H ρ' H') (r : RS w K B ρ H m) {v : V} : ∀ {u : W}, WV w K B ρ H v u → WV w K B ρ' H' v u
  | .p d, h => DV.kp (x.kp r) h
  | .r i, ⟨a, e, q⟩ => by
    obtain ⟨⟨n, rfl, _⟩, _⟩ := x
    exact ⟨a, by rw [List.getElem?_append_left (List.getElem?_eq_some_iff.mp e).1]; exact e, q⟩
theorem EnR.stp (x : Stp ρ H ρ' H') (r : RS w K B ρ H m) {e : DictEntry} {q : D × W} (h : EnR w K B ρ H e q) : EnR w K B ρ' H' e q := by
  obtain ⟨v, u, kk, q1, q2, q3, q5, q6, q7⟩ := h
  exact ⟨v, u, kk, q1, DV.kp (x.kp r) q2, q3, q5, q6, q7.stp x r⟩
/-- slots, store -/
structure Rel (w : World) (K : PySem.W.Frag) (B : Addr → Prop) (ρ : List Addr) (σ : St) (H : Hp) (η : Env) (m : Mu) : Prop where
  rs : RS w K B ρ H m
  len : η.length = σ.length
  ev : ∀ i u, get η i = some u → ∃ v, σ[i]? = some (some v) ∧ WV w K B ρ H v u
theorem Rel.stp {σ : St} {η : Env} (x : Rel w K B ρ σ H η m) (s : Stp ρ H ρ' H') (r : RS w K B ρ' H' m') : Rel w K B ρ' σ H' η m' :=
  ⟨r, x.len, fun i u e => let ⟨v, h, q⟩ := x.ev i u e; ⟨v, h, q.stp s x.rs⟩⟩
theorem Paired.imp' {α β : Type} {F G : α → β → Prop} (f : ∀ a b, F a b → G a b) : ∀ {l : List α} {k : List β}, Paired F l k → Paired G l k
  | _, _, .nil => .nil
  | _, _, .cons r t => .cons (f _ _ r) (Paired.imp' f t)
/-- nothing of the region has changed, new things came -/
theorem RS.grow (r : RS w K B ρ H m) (k : ∀ a o, H a = some o → H' a = some o) : RS w K B ρ H' m := by
  have s : Stp ρ H ρ H' := ⟨⟨[], by simp, by simp⟩, fun a o e _ => k a o e⟩
  refine ⟨r.nd, r.len, fun i a o ha ho => ?_, fun a h => ⟨?_, (r.bt a h).2⟩⟩
  · have := r.at_ i a o ha ho
    cases o with
    | lst ws =>
      obtain ⟨xs, e, l, p⟩ := this
      exact ⟨xs, k _ _ e, l, Paired.imp' (fun _ _ q => q.stp s r) p⟩
    | dic ks =>
      obtain ⟨es, ep, e, y, l, o, p⟩ := this
      exact ⟨es, ep, k _ _ e, y, l, o, Paired.imp' (fun _ _ q => q.stp s r) p⟩
  · obtain ⟨o, q⟩ := Option.ne_none_iff_exists'.mp (r.bt a h).1
    rw [k a o q]; simp
theorem Stp.of (k : ∀ a o, H a = some o → H' a = some o) : Stp ρ H ρ H' := ⟨⟨[], by simp, by simp⟩, fun a o e _ => k a o e⟩
theorem upd_keep {o : HO} (h : H a = none) : ∀ b u, H b = some u → upd H a o b = some u := fun b u e => by
  rw [upd_ne (ne_of_none e h)]; exact e
end
end Pg

namespace Pg
open PySem L2
theorem pe_imp {X : Cx} {e : Expr} {t t' : TE} (h : PE X e t) (i : ∀ σ H Q, t' σ H Q → t σ H Q) : PE X e t' := ⟨fun p s σ H Q I x => h.run p s σ H Q I (i _ _ _ x)⟩
theorem pt_imp {X : Cx} {e : Expr} {t t' : TT} (h : PT X e t) (i : ∀ σ H Q, t' σ H Q → t σ H Q) : PT X e t' := ⟨fun p s σ H Q I x => h.run p s σ H Q I (i _ _ _ x)⟩
theorem pw_imp {X : Cx} {e : Expr} {t t' : TT} (h : PW X e t) (i : ∀ σ H Q, t' σ H Q → t σ H Q) : PW X e t' := ⟨fun wh p s σ H Q I x => h.run wh p s σ H Q I (i _ _ _ x)⟩
theorem pa_imp {X : Cx} {e : List Expr} {t t' : TA} (h : PA X e t) (i : ∀ σ H Q, t' σ H Q → t σ H Q) : PA X e t' := ⟨fun c p s σ H Q I x => h.run c p s σ H Q I (i _ _ _ x)⟩
theorem ps_imp {X : Cx} {e : Stmt} {t t' : TS} (h : PS X e t) (i : ∀ D σ H, t' D σ H → t D σ H) : PS X e t' := ⟨fun p s σ H D I x => h.run p s σ H D I (i _ _ _ x)⟩
theorem pss_imp {X : Cx} {e : List Stmt} {t t' : TS} (h : PSs X e t) (i : ∀ D σ H, t' D σ H → t D σ H) : PSs X e t' := ⟨fun p s σ H D I x => h.run p s σ H D I (i _ _ _ x)⟩
/-- how an exception of the engine lies in the model: its class, its own dict -/
abbrev XRel := Hp → Value → Option Addr → Str → D → Prop
section
variable {α β γ δ : Type} (w : World) (K : PySem.W.Frag) (XR : XRel)
def Cn (rel : (Addr → Prop) → List Addr → Hp → β → α → Prop) (B : Addr → Prop) (ρ : List Addr) (H : Hp) (Xw : Value → Option Addr → Hp → Prop) (r : R α) (Q : β → Hp → Prop) : Prop :=
  match r with
  | .ok a m => ∀ b H' ρ', Stp ρ H ρ' H' → RS w K B ρ' H' m → rel B ρ' H' b a → Q b H'
  | .exc c d m => ∀ H' ρ' cls dd, Stp ρ H ρ' H' → RS w K B ρ' H' m → XR H' cls dd c d → Xw cls dd H'
  | .bad => False
variable {w K XR} {rel : (Addr → Prop) → List Addr → Hp → β → α → Prop} {rel' : (Addr → Prop) → List Addr → Hp → δ → γ → Prop} {B : Addr → Prop} {ρ ρ' : List Addr} {H H' : Hp} {m m' : Mu} {Xw : Value → Option Addr → Hp → Prop}
theorem Cn.stp {r : R α} {Q : β → Hp → Prop} (h : Cn w K XR rel B ρ H Xw r Q) (rs : RS w K B ρ H m) (s : Stp ρ H ρ' H') (rs' : RS w K B ρ' H' m') : Cn w K XR rel B ρ' H' Xw r Q := by
  cases r with
  | ok a m2 => exact fun b H2 ρ2 s2 rs2 q => h b H2 ρ2 (s.trans rs rs' s2) rs2 q
  | exc c d m2 => exact fun H2 ρ2 cls dd s2 rs2 q => h H2 ρ2 cls dd (s.trans rs rs' s2) rs2 q
  | bad => exact h
theorem Cn.bd {r : R α} {k : α → Mu → R γ} {Q : δ → Hp → Prop} {Q' : β → Hp → Prop} (h : Cn w K XR rel' B ρ H Xw (r.bd k) Q) (rs : RS w K B ρ H m)
    (hk : ∀ a m1 b H1 ρ1, r = .ok a m1 → Stp ρ H ρ1 H1 → RS w K B ρ1 H1 m1 → rel B ρ1 H1 b a → Cn w K XR rel' B ρ1 H1 Xw (k a m1) Q → Q' b H1) : Cn w K XR rel B ρ H Xw r Q' := by
  cases r with
  | ok a m1 => exact fun b H1 ρ1 s rs1 q => hk a m1 b H1 ρ1 rfl s rs1 q (Cn.stp (r := k a m1) h rs s rs1)
  | exc c d m2 => exact h
  | bad => exact h
/-- it ends here, the heap as it is -/
theorem Cn.here {a : α} {b : β} {Q : β → Hp → Prop} (h : Cn w K XR rel B ρ H Xw (.ok a m) Q) (rs : RS w K B ρ H m) (q : rel B ρ H b a) : Q b H := h b H ρ .refl rs q
/-- .. the heap grown -/
theorem Cn.grown {a : α} {b : β} {Q : β → Hp → Prop} (h : Cn w K XR rel B ρ H Xw (.ok a m) Q) (rs : RS w K B ρ H m) (k : ∀ a o, H a = some o → H' a = some o) (q : rel B ρ H' b a) : Q b H' := h b H' ρ (.of k) (rs.grow k) q
end
section
variable (X : Cx) (XR : XRel) (Wx : WX)
/-- an expression's reading by a function of slots and store -/
def tE (f : Env → Mu → R W) : TE := fun σ H Q => ∃ B ρ η m, Rel X.w X.K B ρ σ H η m ∧ Cn X.w X.K XR (WV X.w X.K) B ρ H (fun c d => Wx c d σ) (f η m) Q
def tT (f : Env → Mu → R Bool) : TT := fun σ H Q => ∃ B ρ η m, Rel X.w X.K B ρ σ H η m ∧ Cn X.w X.K XR (fun _ _ _ b a => b = a) B ρ H (fun c d => Wx c d σ) (f η m) Q
def tA (f : Env → Mu → R (List W)) : TA := fun σ H Q => ∃ B ρ η m, Rel X.w X.K B ρ σ H η m ∧ Cn X.w X.K XR (fun B ρ H => Paired (WV X.w X.K B ρ H)) B ρ H (fun c d => Wx c d σ) (f η m) Q
end
abbrev FE := Env → Mu → R W
abbrev FT := Env → Mu → R Bool
abbrev FA := Env → Mu → R (List W)
section
variable {X : Cx} {XR : XRel} {Wx : WX} {e e1 e2 : Expr} {es : List Expr} {pos : Pos}
abbrev SE (X : Cx) (XR : XRel) (Wx : WX) (e : Expr) (f : FE) : Prop := PE X e (tE X XR Wx f)
abbrev ST (X : Cx) (XR : XRel) (Wx : WX) (e : Expr) (f : FT) : Prop := PT X e (tT X XR Wx f)
abbrev SW (X : Cx) (XR : XRel) (Wx : WX) (e : Expr) (f : FT) : Prop := PW X e (tT X XR Wx f)
abbrev SA (X : Cx) (XR : XRel) (Wx : WX) (e : List Expr) (f : FA) : Prop := PA X e (tA X XR Wx f)
def fK (d : D) : FE := fun _ m => .ok (.p d) m
def fVar (i : Nat) : FE := fun η m => match get η i with
  | some u => .ok u m
  | none => .bad
theorem se_int {i j} : SE X XR Wx (.Constant (.int i) j pos) (fK (.int i)) := pe_imp pe_int fun σ H Q ⟨B, ρ, η, m, r, c⟩ => Cn.here c r.rs (.int i)
theorem se_bl {i j} : SE X XR Wx (.Constant (.bool i) j pos) (fK (.bool i)) := pe_imp pe_bl fun σ H Q ⟨B, ρ, η, m, r, c⟩ => Cn.here c r.rs (.bl i)
theorem se_non {j} : SE X XR Wx (.Constant .none j pos) (fK .none) := pe_imp pe_non fun σ H Q ⟨B, ρ, η, m, r, c⟩ => Cn.here c r.rs .non
theorem se_str {i j} : SE X XR Wx (.Constant (.str i) j pos) (fK (.str i)) := pe_imp pe_str fun σ H Q ⟨B, ρ, η, m, r, c⟩ => Cn.here c r.rs (.str i)
theorem se_var {i : Nat} {x : Str} (hN : X.N[i]? = some x) (hv : Vis X.env.scope x) (hd : (x == ("__debug__" : Str)) = false) (hcd : (x == ("__classdict__" : Str)) = false) : SE X XR Wx (.Name x pos) (fVar i) :=
  pe_imp (pe_var hN hv hd hcd) fun σ H Q ⟨B, ρ, η, m, r, c⟩ => by
    unfold fVar at c
    cases q : get η i with
    | none => rw [q] at c; exact c.elim
    | some u =>
      rw [q] at c
      obtain ⟨v, hv, hw⟩ := r.ev i u q
      exact ⟨v, hv, Cn.here c r.rs hw⟩
/-- data that stand in the written part -/
def KData (w : World) (K : PySem.W.Frag) (v : V) (d : D) : Prop := ∀ F H, DV w K F H v d
theorem se_glb {x : Str} {v : V} {u : Value} {d : D} (hg : Gl X x) (hm : X.mg x = some u) (r : RelV v u) (kd : KData X.w X.K v d) (hd : (x == ("__debug__" : Str)) = false) : SE X XR Wx (.Name x pos) (fK d) :=
  pe_imp (pe_glob hg hm r hd) fun σ H Q ⟨B, ρ, η, m, r, c⟩ => Cn.here c r.rs (kd _ _)
/-- one expression, then something of its value -/
def fB1 (f : FE) (g : W → Mu → R W) : FE := fun η m => (f η m).bd g
def fB2 (f f' : FE) (g : W → W → Mu → R W) : FE := fun η m => (f η m).bd fun a m => (f' η m).bd fun b m => g a b m
/-- two in a row, an operation of their values -/
theorem rd2 {ta tb : FE} {g : W → W → Mu → R W} {r : R2} (h : ∀ B ρ H m σ η x y a b Q, Rel X.w X.K B ρ σ H η m → WV X.w X.K B ρ H x a → WV X.w X.K B ρ H y b → Cn X.w X.K XR (WV X.w X.K) B ρ H (fun c d => Wx c d σ) (g a b m) Q → r x y H Q) :
    ∀ σ H Q, tE X XR Wx (fB2 ta tb g) σ H Q → tOp r (tE X XR Wx ta) (tE X XR Wx tb) σ H Q := by
  rintro σ H Q ⟨B, ρ, η, m, rl, c⟩
  refine ⟨B, ρ, η, m, rl, Cn.bd c rl.rs fun a m1 x H1 ρ1 _ s1 rs1 wa c1 => ?_⟩
  have rl1 := rl.stp s1 rs1
  refine ⟨B, ρ1, η, m1, rl1, Cn.bd c1 rs1 fun b m2 y H2 ρ2 _ s2 rs2 wb c2 => ?_⟩
  exact h B ρ2 H2 m2 σ η x y a b Q (rl1.stp s2 rs2) (wa.stp s2 rs1) wb c2
theorem se_bin {op : Operator} {f f' : FE} {g : W → W → Mu → R W} {r : R2} (ho : OpR X (binaryOp op) r)
    (h : ∀ B ρ H m σ η x y a b Q, Rel X.w X.K B ρ σ H η m → WV X.w X.K B ρ H x a → WV X.w X.K B ρ H y b → Cn X.w X.K XR (WV X.w X.K) B ρ H (fun c d => Wx c d σ) (g a b m) Q → r x y H Q)
    (ha : SE X XR Wx e1 f) (hb : SE X XR Wx e2 f') : SE X XR Wx (.BinOp e1 op e2 pos) (fB2 f f' g) := pe_imp (pe_op ho ha hb) (rd2 h)
end
end Pg

namespace Pg
open PySem L2 PySem.Spec PyProof.Rows
/-- a new tuple comes -/
def NT (H : Hp) (Q : VK) (xs : List V) : Prop := ∀ p (ob : Obj), H p = none → ob.dict = none → Q (.ref p) (upd H p (.frz ob (.tup xs)))
section
variable {X : Cx}
theorem NT.push {pins : List (Addr × Obj)} {σ : L2.St} {H : Hp} {s : Shared} {xs : List V} {its : List Value} {Q : VK} (I : Inv X pins σ H s) (q : NT H Q xs) (r : Vals xs its) (hz : xs.length ≤ sizeLine) :
    EP X pins σ Q (.ref s.heap.objs.size) { s with heap := s.heap.push { cls := .type "tuple", data := .seq its.toArray } } := by
  refine ⟨.ref s.heap.objs.size, _, I.laid (t' := s.toks) (o := .frz { cls := .type "tuple", data := .seq its.toArray } (.tup xs)) (fun b ob q => Heap.get?_push_of_some _ q) (Nat.le_refl _) ?_, rfl, q _ _ (I.hok.fresh (Nat.le_refl _)) rfl⟩
  exact ⟨Heap.get?_push_size _ rfl, hz, its, r, IsTup.new _ _⟩
/-- t + u -/
def rCatN (K : PySem.W.Frag) : R2 := fun x y H Q => ∃ a b xs ys, x = .ref a ∧ y = .ref b ∧ SqT K H a xs ∧ SqT K H b ys ∧ xs.length + ys.length ≤ sizeLine ∧
  (xs = [] → Q (.ref b) H) ∧ (xs ≠ [] → ys = [] → Q (.ref a) H) ∧ (xs ≠ [] → ys ≠ [] → NT H Q (xs ++ ys))
theorem op_catN : OpR X (binaryOp .Add) (rCatN X.K) := by
  intro pins s σ H x y v u Q I rx ry h
  obtain ⟨a, b, xs, ys, rfl, rfl, ha, hb, hz, q0, q1, q2⟩ := h
  cases rx
  cases ry
  obtain ⟨its, r1, p1, _⟩ := I.tuple ha
  obtain ⟨its2, r2, p2, _⟩ := I.tuple hb
  by_cases hx : xs = []
  · subst hx
    cases r1
    exact cat_tup0 p1 p2 ⟨.ref b, H, I, rfl, q0 rfl⟩
  · refine HT.cat_tup p1 p2 (fun z => hx (r1.nil_iff.mp z)) (fun z => ⟨.ref a, H, I, rfl, q1 hx (r2.nil_iff.mp z)⟩) (fun z => ?_) (by rw [← r1.length, ← r2.length]; exact hz)
    exact NT.push I (q2 hx (fun w => z (r2.nil_iff.mpr w))) (r1.append r2) (by rw [List.length_append]; exact hz)
/-- t[lo:hi] -/
def rSlN (K : PySem.W.Frag) : V → Option Int → Option Int → Hp → VK → Prop := fun x lo hi H Q => ∃ a xs, x = .ref a ∧ SqT K H a xs ∧
  (HT.sIx xs.length 0 lo = 0 ∧ HT.sIx xs.length xs.length hi = xs.length → Q (.ref a) H) ∧ (¬ (HT.sIx xs.length 0 lo = 0 ∧ HT.sIx xs.length xs.length hi = xs.length) → NT H Q (cutV xs lo hi))
theorem sl_tupN : SlR X (rSlN X.K) := by
  intro pins s σ H x v vl vu lo hi sl Q I rx hs pl pu h
  obtain ⟨a, xs, rfl, hx, q1, q2⟩ := h
  cases rx
  obtain ⟨its, r, ht, hz⟩ := I.tuple hx
  have hlen : its.toArray.size = xs.length := by rw [List.size_toArray]; exact r.length.symm
  refine ⟨"tuple", _, PyProof.Rows.slot_tuple_getitem.lookup, ht.typeIs, ?_⟩
  by_cases hw : HT.sIx xs.length 0 lo = 0 ∧ HT.sIx xs.length xs.length hi = xs.length
  · exact getItem_tuple_whole ht hs pl pu (by rw [hlen]; exact hw) ⟨.ref a, H, I, rfl, q1 hw⟩
  · refine HT.getItem_tuple_cut ht hs pl pu (by rw [hlen]; exact hw) ?_ (by rw [hlen]; exact hz)
    rw [hlen]
    exact NT.push I (q2 hw) ((r.drop (HT.sIx xs.length 0 lo)).take (HT.sIx xs.length xs.length hi - HT.sIx xs.length 0 lo)) (Nat.le_trans (cutV_length xs lo hi) hz)
/-- (a, b, ..) -/
def tTupN (t : TA) : TE := fun σ H Q => t σ H fun xs H1 => xs.length ≤ sizeLine ∧ NT H1 Q xs
theorem pe_tupN {es : List Expr} {t : TA} {x1} {pos : Pos} (h : PA X es t) : PE X (.Tuple es x1 pos) (tTupN t) := by
  refine ⟨fun pins s σ H Q I hq => ?_⟩
  refine wpAny_Tuple_spliced (thn (h.run pos pins s σ H _ I hq) fun us s1 ⟨xs, H1, I1, r, z, q⟩ => ⟨by rw [← r.length]; exact z, ?_⟩)
  exact NT.push I1 q r z
/-- tuple(x) -/
def rTupN (K : PySem.W.Frag) : List V → Hp → VK → Prop := fun xs H Q => ∃ p ys, xs = [.ref p] ∧ ((SqL K H p ys ∧ NT H Q ys) ∨ (SqT K H p ys ∧ Q (.ref p) H))
theorem call_tupleN : CallR X (.type "tuple") (rTupN X.K) := by
  intro pins s σ H xs us Q I r h
  obtain ⟨p, ys, rfl, h⟩ := h
  obtain ⟨u, rfl, rx⟩ := vals1 r
  cases rx
  rcases h with ⟨hq, q⟩ | ⟨hq, q⟩
  · obtain ⟨its, r', pl, hz⟩ := I.list hq
    have hlen := r'.length
    refine call_tuple_list pl.isList (fun h' kp => ?_) (by simp only [List.size_toArray] <;> omega)
    have I1 : Inv X pins σ H { s with heap := h' } := I.kept (t' := s.toks) kp
    exact NT.push I1 q r' hz
  · obtain ⟨its, r', pl, hz⟩ := I.tuple hq
    exact call_tuple_same pl ⟨.ref p, H, I, rfl, q⟩
/-- t * k -/
def rRepN (K : PySem.W.Frag) : R2 := fun x y H Q => ∃ l k xs, x = .ref l ∧ y = .int k ∧ SqT K H l xs ∧ xs ≠ [] ∧ 2 ≤ k ∧ k ≤ 1000 ∧ xs.length ≤ 1000 ∧ NT H Q (List.replicate k.toNat xs).flatten
theorem op_repN : OpR X (binaryOp .Mult) (rRepN X.K) := by
  intro pins s σ H x y v u Q I rx ry h
  obtain ⟨l, k, xs, rfl, rfl, hT, hne, h1, h2, hz, q⟩ := h
  cases rx
  obtain ⟨t, rfl⟩ := ry
  obtain ⟨its, r, ⟨⟨cls, dd, data, sl⟩, ho, hc, n, hd⟩, hs⟩ := I.tuple hT
  simp only at hc hd
  subst hc hd
  have hle : its.length = xs.length := r.length.symm
  have hn : its ≠ [] := fun e => hne (by
    rw [e] at hle
    exact List.eq_nil_of_length_eq_zero hle.symm)
  have hi : its.toArray.isEmpty = false := by
    cases its with
    | nil => exact absurd rfl hn
    | cons a b => rfl
  have hsz0 : its.toArray.size = xs.length := by rw [List.size_toArray, hle]
  have hm : ((its.toArray.size : Nat) : Int) * k ≤ 1000000 := by
    rw [hsz0]
    have a1 : ((xs.length : Nat) : Int) * k ≤ 1000 * k := Int.mul_le_mul_of_nonneg_right (by omega) (by omega)
    omega
  have flen : (List.replicate k.toNat its).flatten.length ≤ sizeLine := by
    rw [PyProof.Rows.lm_len_rep_flat, hle, sizeLine_eq]
    have a1 : k.toNat * xs.length ≤ 1000 * 1000 := Nat.mul_le_mul (by omega) hz
    omega
  have c0 : (decide (k < -(2 ^ 63)) || decide (k ≥ 2 ^ 63)) = false := by
    rw [decide_eq_false (by omega), decide_eq_false (by omega)] <;> rfl
  have c1 : (its.toArray.isEmpty || k == 1) = false := by
    rw [hi, Bool.false_or]
    exact beq_eq_false_iff_ne.mpr (by omega)
  have c2 : (decide (k ≤ 0) || its.toArray.isEmpty) = false := by
    rw [hi, Bool.or_false]
    exact decide_eq_false (by omega)
  have c4 : Builtin.Tuple.tupleTooMany (((its.toArray.size : Nat) : Int) * k) = false := by
    unfold Builtin.Tuple.tupleTooMany
    rw [sizeLine_eq]
    exact decide_eq_false (by omega)
  refine wpAny_binaryOp_repeat_ref (T := "tuple") (U := "int") (by decide) ⟨_, ho, rfl⟩ (fun s' => typeIs_int s' k t) noFill_tuple_mul F.fills_int_mul F.slot_int_rmul repeat_tuple F.slot_int_index.lookup
    (call_meets F.slot_int_rmul (typeIs_int s k t) F.entry_int_rmul (F.args_int_rmul_2 _ _) (int_rmul_tuple k t l its.toArray n dd sl)
      ⟨ho, rfl, ⟨_, ho, rfl⟩, call_meets F.slot_tuple_mul ⟨_, ho, rfl⟩ F.entry_tuple_mul (F.args_tuple_mul_2 _ _) (tuple_mulW l its.toArray n dd sl k t c0 c1 c2 (by omega) c4 (by rw [size_rep, List.size_toArray]; exact flen)) ⟨ho, ?_⟩⟩)
  rw [size_rep]
  exact NT.push I q (r.rep k.toNat) (by rw [PyProof.Rows.lm_len_rep_flat, sizeLine_eq]; have a1 : k.toNat * xs.length ≤ 1000 * 1000 := Nat.mul_le_mul (by omega) hz; omega)
end
theorem int_rmul_listW (a : Int) (t : Tok) (l : Addr) (items : Array Value) (n : Nat) (sl : Array (Option Value)) :
    Meets (Builtin.«int.__rmul__» ⟨[.int a t, .ref l], []⟩) (fun _ R s => s.heap.get? l = some { cls := .type "list", dict := none, data := .seq items n, slots := sl } ∧ R (.ok (.ret Value.notImplemented)) s) :=
  .of_wp fun prog w A R s h => by obtain ⟨hp, g, d, tk, os⟩ := s; obtain ⟨hl, h⟩ := h; wp_walk using AutoSeq1.wpAny_loadPart' hl; exact ⟨_, rfl, h⟩
theorem list_mulW (l : Addr) (items : Array Value) (n : Nat) (sl : Array (Option Value)) (x : Int) (u : Tok) (hc0 : ¬(!Builtin.List.listFitsIndex x) = true) (hc1 : ¬items.size * x.toNat > (2 ^ 63 - 1) / 8) (hc2 : ¬Builtin.List.listTooLong (items.size * x.toNat) = true) :
    Meets (Builtin.«list.__mul__» ⟨[.ref l, .int x u], []⟩) (fun _ R s => s.heap.get? l = some { cls := .type "list", dict := none, data := .seq items n, slots := sl } ∧ R (.ok (.ret (Value.ref s.heap.objs.size))) { s with heap := s.heap.push { cls := Value.type "list", data := Data.seq (List.foldl (fun x1 x2 => x1 ++ x2) #[] (List.replicate (if items.isEmpty = true then 0 else x.toNat) items)) }, toks := s.toks }) :=
  .of_wp fun prog w A R s h => by
    obtain ⟨hp, g, d, tk, os⟩ := s; obtain ⟨hl, h⟩ := h
    have hsz := AutoListH.joined_fits hc2
    wp_walk using AutoSeq1.wpAny_loadPart' hl; refine wpAny_ite_false (decide_eq_false (Nat.not_lt.mpr hsz)) ?_; wp_walk using AutoSeq1.wpAny_loadPart' hl; exact ⟨_, rfl, h⟩
section
variable {X : Cx}
/-- xs * k -/
def rRepL (K : PySem.W.Frag) : R2 := fun x y H Q => ∃ l k xs, x = .ref l ∧ y = .int k ∧ SqL K H l xs ∧ -(2 ^ 63) ≤ k ∧ k < 2 ^ 63 ∧ xs.length * k.toNat ≤ sizeLine ∧
  ∀ p, H p = none → Q (.ref p) (upd H p (.lst (List.replicate k.toNat xs).flatten))
theorem op_repL : OpR X (binaryOp .Mult) (rRepL X.K) := by
  intro pins s σ H x y v u Q I rx ry h
  obtain ⟨l, k, xs, rfl, rfl, hH, h1, h2, hz, q⟩ := h
  cases rx
  obtain ⟨t, rfl⟩ := ry
  obtain ⟨its, r, ⟨⟨cls, dd, data, sl⟩, n, e, hc, hd, hdt⟩, hl⟩ := I.list hH
  simp only at hc hd hdt
  subst hc hd hdt
  have hl := r.length
  have hlen : its.toArray.size * k.toNat ≤ sizeLine := by rw [List.size_toArray, ← hl]; exact hz
  have hcap : ¬ its.toArray.size * k.toNat > (2 ^ 63 - 1) / 8 := by
    have : (sizeLine : Nat) ≤ (2 ^ 63 - 1) / 8 := by decide
    omega
  have hfit : ¬ (!Builtin.List.listFitsIndex k) = true := by
    rw [fitsIndex_both h1 h2]
    exact Bool.false_ne_true
  have hlong : ¬ Builtin.List.listTooLong (its.toArray.size * k.toNat) = true := by
    rw [notLongL hlen]
    exact Bool.false_ne_true
  have hnew : List.foldl (fun x1 x2 => x1 ++ x2) #[] (List.replicate (if its.toArray.isEmpty = true then 0 else k.toNat) its.toArray) = (List.replicate k.toNat its).flatten.toArray := by
    have f0 : ∀ m : Nat, List.foldl (fun x1 x2 => x1 ++ x2) #[] (List.replicate m its.toArray) = (List.replicate m its).flatten.toArray := fun m => by
      have := foldl_rep its m []
      rw [List.nil_append] at this
      exact this
    rw [f0]
    cases its with
    | nil => simp
    | cons a r' => rw [if_neg (by simp)]
  refine wpAny_binaryOp_repeat_ref (T := "list") (U := "int") (by decide) ⟨_, e, rfl⟩ (fun s' => typeIs_int s' k t) noFill_list_mul F.fills_int_mul F.slot_int_rmul repeat_list F.slot_int_index.lookup
    (call_meets F.slot_int_rmul (typeIs_int s k t) F.entry_int_rmul (F.args_int_rmul_2 _ _) (int_rmul_listW k t l its.toArray n sl)
      ⟨e, rfl, ⟨_, e, rfl⟩, call_meets F.slot_list_mul ⟨_, e, rfl⟩ F.entry_list_mul (F.args_list_mul_2 _ _) (list_mulW l its.toArray n sl k t hfit hcap hlong) ⟨e, ?_⟩⟩)
  rw [hnew]
  exact ⟨.ref _, _, I.lnew (t' := s.toks) (r.rep k.toNat) (by rw [PyProof.Rows.lm_len_rep_flat, Nat.mul_comm]; exact hz), rfl, q _ I.fresh⟩
end
end Pg

namespace Pg
open PySem L2
def pures : List W → Option (List D)
  | [] => some []
  | .p d :: r => match pures r with
    | some ds => some (d :: ds)
    | none => none
  | .r _ :: _ => none
def pureKs : List (D × W) → Option (List (D × D))
  | [] => some []
  | (k, .p d) :: r => match pureKs r with
    | some ds => some ((k, d) :: ds)
    | none => none
  | (_, .r _) :: _ => none
/-- what a value is just now -/
def view (m : Mu) : W → Option D
  | .p d => some d
  | .r i => match m[i]? with
    | some (.lst ws) => (match pures ws with
      | some ds => some (.list ds)
      | none => none)
    | some (.dic ks) => (match pureKs ks with
      | some ds => some (.dict ds)
      | none => none)
    | none => none
section
variable (w : World) (K : PySem.W.Frag) (F : Addr → Prop)
inductive VV (H : Hp) : V → D → Prop
  | dv {v : V} {d : D} : DV w K F H v d → VV H v d
  | lst {a : Addr} {xs : List V} {ds : List D} : H a = some (.lst xs) → xs.length ≤ sizeLine → DVs w K F H xs ds → VV H (.ref a) (.list ds)
  | dic {a : Addr} {es : List DictEntry} {ep : Nat} {ks : List (D × D)} : H a = some (dicO a es ep) → (a == sysModules) = false → es.length ≤ sizeLine → KsOk ks → DEs w K F H es ks → VV H (.ref a) (.dict ks)
end
section
variable {w : World} {K : PySem.W.Frag} {F : Addr → Prop} {B : Addr → Prop} {ρ : List Addr} {H H' : Hp} {m : Mu} {v : V}
theorem pures_ok : ∀ {ws : List W} {ds : List D} {xs : List V}, pures ws = some ds → Paired (WV w K B ρ H) xs ws → DVs w K (Fb B ρ) H xs ds
  | [], ds, _, h, .nil => by cases h; exact .nil
  | .r i :: _, ds, _, h, .cons a b => by cases h
  | .p d :: r, ds, _, h, .cons a b => by
    unfold pures at h
    cases q : pures r with
    | none => rw [q] at h; cases h
    | some es => rw [q] at h; cases h; exact .cons a (pures_ok q b)
theorem pureKs_ok : ∀ {ws : List (D × W)} {ds : List (D × D)} {xs : List DictEntry}, pureKs ws = some ds → Paired (EnR w K B ρ H) xs ws → DEs w K (Fb B ρ) H xs ds
  | [], ds, _, h, .nil => by cases h; exact .nil
  | (k, .r i) :: _, ds, _, h, .cons a b => by cases h
  | (k, .p d) :: r, ds, _, h, .cons a b => by
    unfold pureKs at h
    cases q : pureKs r with
    | none => rw [q] at h; cases h
    | some es =>
      rw [q] at h; cases h
      obtain ⟨v, u, kk, q1, q2, q3, q5, q6, q7⟩ := a
      exact .cons q1 q2 q3 q5 q6 q7 (pureKs_ok q b)
theorem pureKs_keys : ∀ {ws : List (D × W)} {ds : List (D × D)}, pureKs ws = some ds → ds.map (·.1) = ws.map (·.1)
  | [], _, h => by cases h; rfl
  | (k, .r i) :: _, _, h => by cases h
  | (k, .p d) :: r, _, h => by
    unfold pureKs at h
    cases q : pureKs r with
    | none => rw [q] at h; cases h
    | some es => rw [q] at h; cases h; simp [pureKs_keys q]
theorem ksOk_keys {β γ : Type} {a : List (D × β)} {b : List (D × γ)} (h : KsOk a) (e : b.map (·.1) = a.map (·.1)) : KsOk b := by
  have e2 : (b.map fun q => dkey q.1) = (a.map fun q => dkey q.1) := by
    have := congrArg (List.map dkey) e
    simpa [List.map_map, Function.comp_def] using this
  refine ⟨by rw [e2]; exact h.1, fun q hq q' hq' => ?_⟩
  have m1 : q.1 ∈ a.map (·.1) := by rw [← e]; exact List.mem_map.mpr ⟨q, hq, rfl⟩
  have m2 : q'.1 ∈ a.map (·.1) := by rw [← e]; exact List.mem_map.mpr ⟨q', hq', rfl⟩
  obtain ⟨x, hx, ex⟩ := List.mem_map.mp m1
  obtain ⟨y, hy, ey⟩ := List.mem_map.mp m2
  rw [← ex, ← ey]
  exact h.2 x hx y hy
theorem view_ok (rs : RS w K B ρ H m) : ∀ {u : W} {d : D}, WV w K B ρ H v u → view m u = some d → VV w K (Fb B ρ) H v d
  | .p d, _, h, e => by cases e; exact .dv h
  | .r i, d, ⟨a, ha, e1⟩, e => by
    subst e1
    have hl : i < m.length := by rw [← rs.len]; exact (List.getElem?_eq_some_iff.mp ha).1
    have q := List.getElem?_eq_getElem hl
    have ob := rs.at_ i a _ ha q
    unfold view at e
    dsimp only at e
    rw [q] at e
    cases z : m[i] with
    | lst ws =>
      rw [z] at e ob
      obtain ⟨xs, e2, l, p⟩ := ob
      cases y : pures ws with
      | none => simp only [y] at e; cases e
      | some ds => simp only [y] at e; cases e; exact .lst e2 l (pures_ok y p)
    | dic ks =>
      rw [z] at e ob
      obtain ⟨es, ep, e2, n, l, o, p⟩ := ob
      cases y : pureKs ks with
      | none => simp only [y] at e; cases e
      | some ds => simp only [y] at e; cases e; exact .dic e2 n l (ksOk_keys o (pureKs_keys y)) (pureKs_ok y p)
/-- readable as a list -/
theorem LsB.seq {a : Addr} {xs : List V} (h : LsB K F H a xs) : SqL K H a xs := by
  rcases h with ⟨h, _⟩ | h
  · exact .inl h
  · exact .inr h
theorem VV.list {ds : List D} (h : VV w K F H v (.list ds)) : ∃ a xs, v = .ref a ∧ SqL K H a xs ∧ xs.length ≤ sizeLine ∧ DVs w K F H xs ds := by
  cases h with
  | dv h => cases h with
    | lst a b c => exact ⟨_, _, rfl, a.seq, b, c⟩
  | lst a b c => exact ⟨_, _, rfl, .inl (.inl a), b, c⟩
theorem VV.tup {ds : List D} (h : VV w K F H v (.tuple ds)) : ∃ a xs, v = .ref a ∧ SqT K H a xs ∧ xs.length ≤ sizeLine ∧ DVs w K F H xs ds := by
  cases h with
  | dv h => cases h with
    | tup a b c => exact ⟨_, _, rfl, a.sq, b, c⟩
theorem VV.tupN {ds : List D} (h : VV w K F H v (.tuple ds)) : ∃ a xs, v = .ref a ∧ TpN K H a xs ∧ xs.length ≤ sizeLine ∧ DVs w K F H xs ds := by
  cases h with
  | dv h => cases h with
    | tup a b c => exact ⟨_, _, rfl, a, b, c⟩
theorem VV.int {i : Int} (h : VV w K F H v (.int i)) : v = .int i := by
  cases h with
  | dv h => cases h; rfl
theorem VV.bl {i : Bool} (h : VV w K F H v (.bool i)) : v = .bl i := by
  cases h with
  | dv h => cases h; rfl
theorem VV.str {i : Str} (h : VV w K F H v (.str i)) : v = .str i := by
  cases h with
  | dv h => cases h; rfl
theorem VV.non (h : VV w K F H v .none) : v = .non := by
  cases h with
  | dv h => cases h; rfl
theorem DVs.length : ∀ {xs : List V} {ds : List D}, DVs w K F H xs ds → xs.length = ds.length
  | _, _, .nil => rfl
  | _, _, .cons _ r => by simp [DVs.length r]
theorem DVs.app : ∀ {xs ys : List V} {ds es : List D}, DVs w K F H xs ds → DVs w K F H ys es → DVs w K F H (xs ++ ys) (ds ++ es)
  | _, _, _, _, .nil, s => s
  | _, _, _, _, .cons a r, s => .cons a (DVs.app r s)
theorem DVs.take : ∀ {xs : List V} {ds : List D} (n : Nat), DVs w K F H xs ds → DVs w K F H (xs.take n) (ds.take n)
  | _, _, 0, _ => .nil
  | _, _, _ + 1, .nil => .nil
  | _, _, n + 1, .cons a r => .cons a (DVs.take n r)
theorem DVs.drop : ∀ {xs : List V} {ds : List D} (n : Nat), DVs w K F H xs ds → DVs w K F H (xs.drop n) (ds.drop n)
  | _, _, 0, h => h
  | _, _, _ + 1, .nil => .nil
  | _, _, n + 1, .cons a r => DVs.drop n r
theorem DVs.get : ∀ {xs : List V} {ds : List D} {i : Nat} {d : D}, DVs w K F H xs ds → ds[i]? = some d → ∃ x, xs[i]? = some x ∧ DV w K F H x d
  | _, _, _, _, .nil, e => by simp at e
  | _, _, 0, _, .cons a r, e => by
    have := Option.some.inj e
    subst this
    exact ⟨_, rfl, a⟩
  | _, _, i + 1, _, .cons a r, e => DVs.get (i := i) r (by simpa using e)
theorem DVs.rep {xs : List V} {ds : List D} (h : DVs w K F H xs ds) : ∀ n : Nat, DVs w K F H (List.replicate n xs).flatten (List.replicate n ds).flatten
  | 0 => .nil
  | n + 1 => by
    rw [List.replicate_succ, List.replicate_succ, List.flatten_cons, List.flatten_cons]
    exact h.app (DVs.rep h n)
theorem Kp.grow {a : Addr} {o : HO} (h : H a = none) : Kp F F H (upd H a o) := ⟨fun b u e n => ⟨upd_keep h b u e, n⟩, fun b u e _ => upd_keep h b u e⟩
theorem fresh_nb {a : Addr} (rs : RS w K B ρ H m) (h : H a = none) : ¬ Fb B ρ a := by
  rintro (z | z)
  · exact (rs.bt a z).1 h
  · exact rs.alive z h
/-- a new list, tuple of data -/
theorem new_lst {a : Addr} {xs : List V} {ds : List D} (rs : RS w K B ρ H m) (h : H a = none) (l : xs.length ≤ sizeLine) (r : DVs w K (Fb B ρ) H xs ds) : DV w K (Fb B ρ) (upd H a (.lst xs)) (.ref a) (.list ds) :=
  .lst (.inl ⟨.inl upd_same, fresh_nb rs h⟩) l (DVs.kp (Kp.grow h) r)
theorem new_tup {a : Addr} {ob : Obj} {xs : List V} {ds : List D} (h : H a = none) (hd : ob.dict = none) (l : xs.length ≤ sizeLine) (r : DVs w K F H xs ds) : DV w K F (upd H a (.frz ob (.tup xs))) (.ref a) (.tuple ds) :=
  .tup (.inl ⟨ob, upd_same, hd⟩) l (DVs.kp (Kp.grow h) r)
end
theorem list_addW (l : Addr) (items : Array Value) (n : Nat) (sl : Array (Option Value)) (b : Addr) (items2 : Array Value) (n2 : Nat) (sl2 : Array (Option Value)) (hc0 : items.size + items2.size ≤ sizeLine) :
    Meets (Builtin.«list.__add__» ⟨[.ref l, .ref b], []⟩) (fun _ R s => s.heap.get? l = some { cls := .type "list", dict := none, data := .seq items n, slots := sl } ∧ s.heap.get? b = some { cls := .type "list", dict := none, data := .seq items2 n2, slots := sl2 } ∧ R (.ok (.ret (Value.ref s.heap.objs.size))) { s with heap := s.heap.push { cls := Value.type "list", data := Data.seq (items ++ items2) }, toks := s.toks }) :=
  .of_wp fun prog w A R s h => by obtain ⟨hp, g, d, tk, os⟩ := s; obtain ⟨hl, hb, h⟩ := h; have f1 := AutoSeq1.idx_int; have f2 := AutoSeq1.sub_tuple_tuple; have f3 := AutoSeq1.sub_list_list; have f4 := AutoSeq1.sub_tuple_list; have f5 := AutoSeq1.sub_list_tuple; wp_walk using wpAny_loadPart' hl, wpAny_loadPart' hb; exact ⟨_, rfl, h⟩
def rCatL (K : PySem.W.Frag) : R2 := fun x y H Q => ∃ a b xs ys, x = .ref a ∧ y = .ref b ∧ SqL K H a xs ∧ SqL K H b ys ∧ xs.length + ys.length ≤ sizeLine ∧ ∀ p, H p = none → Q (.ref p) (upd H p (.lst (xs ++ ys)))
theorem op_catL {X : Cx} : OpR X (binaryOp .Add) (rCatL X.K) := by
  intro pins s σ H x y v u Q I rx ry h
  obtain ⟨l, b, xs, zs, rfl, rfl, hH, hB, hz, q⟩ := h
  cases rx
  cases ry
  obtain ⟨its, r, ⟨⟨cls, dd, data, sl⟩, n, e, hc, hd, hdt⟩, hl⟩ := I.list hH
  obtain ⟨its2, r2, ⟨⟨cls2, dd2, data2, sl2⟩, n2, e2, hc2, hd2, hdt2⟩, hl2⟩ := I.list hB
  simp only at hc hd hdt hc2 hd2 hdt2
  subst hc hd hdt hc2 hd2 hdt2
  have l1 := r.length
  have l2 := r2.length
  refine concat_meets ⟨_, e, rfl⟩ ⟨_, e2, rfl⟩ noFill_list_add seq_list_add F.slot_list_add F.entry_list_add (F.args_list_add_2 _ _) (list_addW l its.toArray n sl b its2.toArray n2 sl2 (by rw [List.size_toArray, List.size_toArray]; omega)) ⟨e, e2, ?_⟩
  have ea : its.toArray ++ its2.toArray = (its ++ its2).toArray := by simp
  rw [ea]
  exact ⟨.ref _, _, I.lnew (t' := s.toks) (r.append r2) (by rw [List.length_append]; omega), rfl, q _ I.fresh⟩
inductive Bo where | add | sub | mul | fdiv | mod
  deriving DecidableEq
/-- the greatest length -/
def ln : Nat := 16777216
theorem ln_eq : sizeLine = ln := sizeLine_eq
def binD : Bo → D → D → Option D
  | .add, .int i, .int j => some (.int (i + j))
  | .add, .str x, .str y => if x.length + y.length ≤ ln then some (.str (x ++ y)) else none
  | .add, .list x, .list y => if x.length + y.length ≤ ln then some (.list (x ++ y)) else none
  | .add, .tuple x, .tuple y => if x.length + y.length ≤ ln then some (.tuple (x ++ y)) else none
  | .sub, .int i, .int j => some (.int (i - j))
  | .mul, .list x, .int k => if -(2 ^ 63) ≤ k ∧ k < 2 ^ 63 ∧ x.length * k.toNat ≤ ln then some (.list (List.replicate k.toNat x).flatten) else none
  | .mul, .tuple x, .int k => if x ≠ [] ∧ 2 ≤ k ∧ k ≤ 1000 ∧ x.length ≤ 1000 then some (.tuple (List.replicate k.toNat x).flatten) else none
  | .mul, .int i, .int j => if ((-(2 ^ 64) < i ∧ i < 2 ^ 64) ∨ (-(2 ^ 64) < j ∧ j < 2 ^ 64)) then some (.int (i * j)) else none
  | .fdiv, .int i, .int j => if 0 < j ∧ j < 1073741824 then some (.int (i / j)) else none
  | .mod, .int i, .int j => if 0 < j then some (.int (i % j)) else none
  | _, _, _ => none
def Bo.op : Bo → Operator
  | .add => .Add
  | .sub => .Sub
  | .mul => .Mult
  | .fdiv => .FloorDiv
  | .mod => .Mod
/-- an operation of two data -/
def gD2 (g : D → D → Option D) : W → W → Mu → R W := fun a b m => match view m a, view m b with
  | some x, some y => (match g x y with
    | some d => .ok (.p d) m
    | none => .bad)
  | _, _ => .bad
section
variable {X : Cx} {XR : XRel} {Wx : WX} {e1 e2 : Expr} {pos : Pos}
theorem gD2_ok {g : D → D → Option D} {B : Addr → Prop} {ρ : List Addr} {H : Hp} {m : Mu} {Xw : Value → Option Addr → Hp → Prop} {x y : V} {a b : W} {Q : VK} (rs : RS X.w X.K B ρ H m) (wa : WV X.w X.K B ρ H x a) (wb : WV X.w X.K B ρ H y b)
    (c : Cn X.w X.K XR (WV X.w X.K) B ρ H Xw (gD2 g a b m) Q) : ∃ d e z, VV X.w X.K (Fb B ρ) H x d ∧ VV X.w X.K (Fb B ρ) H y e ∧ g d e = some z ∧ Cn X.w X.K XR (WV X.w X.K) B ρ H Xw (.ok (.p z) m) Q := by
  unfold gD2 at c
  cases e1 : view m a with
  | none => rw [e1] at c; exact c.elim
  | some d =>
    cases e2 : view m b with
    | none => rw [e1, e2] at c; exact c.elim
    | some e =>
      rw [e1, e2] at c
      cases e3 : g d e with
      | none => simp only [e3] at c; exact c.elim
      | some z =>
        simp only [e3] at c
        exact ⟨d, e, z, view_ok rs wa e1, view_ok rs wb e2, e3, c⟩
def rBin (K : PySem.W.Frag) : Bo → R2
  | .add => fun x y H Q => rI0 (fun i j => .int (i + j)) x y H Q ∨ (∃ i j, x = .str i ∧ y = .str j ∧ i.length + j.length ≤ sizeLine ∧ Q (.str (i ++ j)) H) ∨ rCatL K x y H Q ∨ rCatN K x y H Q
  | .sub => rI0 fun i j => .int (i - j)
  | .mul => fun x y H Q => rI CMul (fun i j => .int (i * j)) x y H Q ∨ rRepL K x y H Q ∨ rRepN K x y H Q
  | .fdiv => rI CDiv fun i j => .int (i / j)
  | .mod => rI (fun _ j => 0 < j) fun i j => .int (i % j)
theorem op_bin (o : Bo) : OpR X (binaryOp o.op) (rBin X.K o) := by
  cases o with
  | add => exact op_add.or (op_add_str.or (op_catL.or op_catN))
  | sub => exact op_sub
  | mul => exact op_mul.or (op_repL.or op_repN)
  | fdiv => exact op_fdiv
  | mod => exact op_mod
theorem rBin_ok {o : Bo} {B : Addr → Prop} {ρ : List Addr} {H : Hp} {m : Mu} {Xw : Value → Option Addr → Hp → Prop} {x y : V} {d e z : D} {Q : VK} (rs : RS X.w X.K B ρ H m) (hx : VV X.w X.K (Fb B ρ) H x d) (hy : VV X.w X.K (Fb B ρ) H y e) (hz : binD o d e = some z)
    (c : Cn X.w X.K XR (WV X.w X.K) B ρ H Xw (.ok (.p z) m) Q) : rBin X.K o x y H Q := by
  unfold binD at hz
  split at hz
  · cases hz; exact .inl ⟨_, _, hx.int, hy.int, c.here rs (.int _)⟩
  · split at hz
    · rename_i h; cases hz; rw [← ln_eq] at h; exact .inr (.inl ⟨_, _, hx.str, hy.str, h, c.here rs (.str _)⟩)
    · cases hz
  · split at hz
    · rename_i h; cases hz; rw [← ln_eq] at h
      obtain ⟨a, xs, rfl, sx, lx, dx⟩ := hx.list
      obtain ⟨b, ys, rfl, sy, ly, dy⟩ := hy.list
      have h1 := dx.length
      have h2 := dy.length
      exact .inr (.inr (.inl ⟨a, b, xs, ys, rfl, rfl, sx, sy, by omega, fun p hp => c.grown rs (upd_keep hp) (new_lst rs hp (by rw [List.length_append]; omega) (dx.app dy))⟩))
    · cases hz
  · split at hz
    · rename_i h; cases hz; rw [← ln_eq] at h
      obtain ⟨a, xs, rfl, nx, lx, dx⟩ := hx.tupN
      have sx := nx.sq
      obtain ⟨b, ys, rfl, ny, ly, dy⟩ := hy.tupN
      have sy := ny.sq
      have h1 := dx.length
      have h2 := dy.length
      refine .inr (.inr (.inr ⟨a, b, xs, ys, rfl, rfl, sx, sy, by omega, fun e => ?_, fun _ e => ?_, fun _ _ p ob hp hd => c.grown rs (upd_keep hp) (new_tup hp hd (by rw [List.length_append]; omega) (dx.app dy))⟩))
      · subst e; cases dx
        exact c.here rs (.tup ny ly dy)
      · subst e; cases dy
        rw [List.append_nil] at c
        exact c.here rs (.tup nx lx dx)
    · cases hz
  · cases hz; exact ⟨_, _, hx.int, hy.int, c.here rs (.int _)⟩
  · split at hz
    · rename_i h; cases hz; rw [← ln_eq] at h
      obtain ⟨a, xs, rfl, sx, lx, dx⟩ := hx.list
      have h1 := dx.length
      exact .inr (.inl ⟨a, _, xs, rfl, hy.int, sx, h.1, h.2.1, by rw [h1]; exact h.2.2, fun p hp => c.grown rs (upd_keep hp) (new_lst rs hp (by rw [PyProof.Rows.lm_len_rep_flat, h1, Nat.mul_comm]; exact h.2.2) (dx.rep _))⟩)
    · cases hz
  · split at hz
    · rename_i h; cases hz
      obtain ⟨a, xs, rfl, sx, lx, dx⟩ := hx.tup
      have h1 := dx.length
      refine .inr (.inr ⟨a, _, xs, rfl, hy.int, sx, fun e => h.1 (by rw [e] at dx; cases dx; rfl), h.2.1, h.2.2.1, by rw [h1]; exact h.2.2.2, fun p ob hp hd => c.grown rs (upd_keep hp) (new_tup hp hd ?_ (dx.rep _))⟩)
      rw [PyProof.Rows.lm_len_rep_flat, h1, ln_eq]
      have a1 := h.2.2.1
      exact Nat.le_trans (Nat.mul_le_mul (by omega) h.2.2.2) (by decide : 1000 * 1000 ≤ ln)
    · cases hz
  · split at hz
    · rename_i h; cases hz; exact .inl ⟨_, _, hx.int, hy.int, h, c.here rs (.int _)⟩
    · cases hz
  · split at hz
    · rename_i h; cases hz; exact ⟨_, _, hx.int, hy.int, h, c.here rs (.int _)⟩
    · cases hz
  · split at hz
    · rename_i h; cases hz; exact ⟨_, _, hx.int, hy.int, h, c.here rs (.int _)⟩
    · cases hz
  · cases hz
theorem se_bo {o : Bo} {f f' : FE} (ha : SE X XR Wx e1 f) (hb : SE X XR Wx e2 f') : SE X XR Wx (.BinOp e1 o.op e2 pos) (fB2 f f' (gD2 (binD o))) :=
  se_bin (op_bin o) (fun B ρ H m σ η x y a b Q rl wa wb c => by
    obtain ⟨d, e, z, h1, h2, h3, c⟩ := gD2_ok rl.rs wa wb c
    exact rBin_ok rl.rs h1 h2 h3 c) ha hb
end
end Pg

namespace Pg
open PySem L2
mutual
/-- is d the key k -/
def isK : D → NestedKey → Bool
  | .none, k => (match k with | .none => true | _ => false)
  | .bool b, k => (match k with | .num j => decide ((if b = true then (1 : Int) else 0) = j) | _ => false)
  | .int i, k => (match k with | .num j => decide (i = j) | _ => false)
  | .str x, k => (match k with | .text y => decide (x = y) | _ => false)
  | .tuple xs, k => (match k with | .tup ks => isKs xs ks | _ => false)
  | .list _, _ => false
  | .dict _, _ => false
def isKs : List D → List NestedKey → Bool
  | [], ks => (match ks with | [] => true | _ => false)
  | x :: xs, ks => (match ks with | k :: ks => isK x k && isKs xs ks | [] => false)
end
mutual
theorem isK_eq : ∀ (d : D) (k k' : NestedKey), kOf d = some k → isK d k' = NestedKey.beq k k'
  | .none, k, k', h => by cases h; cases k' <;> rfl
  | .bool b, k, k', h => by cases h; cases k' <;> simp [isK, NestedKey.beq]
  | .int b, k, k', h => by cases h; cases k' <;> simp [isK, NestedKey.beq]
  | .str b, k, k', h => by cases h; cases k' <;> simp [isK, NestedKey.beq]
  | .tuple xs, k, k', h => by
    unfold kOf at h
    cases q : kOfs xs with
    | none => rw [q] at h; cases h
    | some ks =>
      rw [q] at h; cases h
      cases k' with
      | tup ks' => simp only [isK, NestedKey.beq]; exact isKs_eq xs ks ks' q
      | _ => simp [isK, NestedKey.beq]
  | .list _, k, k', h => by simp [kOf] at h
  | .dict _, k, k', h => by simp [kOf] at h
theorem isKs_eq : ∀ (d : List D) (k k' : List NestedKey), kOfs d = some k → isKs d k' = NestedKey.beqAll k k'
  | [], k, k', h => by
    simp [kOfs] at h
    subst h
    cases k' <;> rfl
  | x :: xs, k, k', h => by
    unfold kOfs at h
    cases q : kOf x with
    | none => rw [q] at h; cases h
    | some a =>
      cases q2 : kOfs xs with
      | none => rw [q, q2] at h; cases h
      | some as =>
        rw [q, q2] at h; cases h
        cases k' with
        | nil => simp [isKs, NestedKey.beqAll]
        | cons b bs => simp only [isKs, NestedKey.beqAll]; rw [isK_eq x a b q, isKs_eq xs as bs q2]
end
theorem dkey_kOf {d : D} {k : NestedKey} (h : dkey d = some k) : kOf d = some k := by
  cases d with
  | int i => cases h; rfl
  | str x => cases h; rfl
  | tuple xs =>
    simp only [dkey] at h
    simp only [kOf]
    cases q : kOfs xs with
    | none => rw [q] at h; cases h
    | some ks =>
      rw [q] at h
      dsimp only at h ⊢
      split at h
      · exact h
      · cases h
  | _ => simp [dkey] at h
theorem isK_dec {d : D} {k : NestedKey} (h : dkey d = some k) (k' : NestedKey) : isK d k' = decide (k = k') := by
  rw [NestedKey.decide_eq]; exact isK_eq d k k' (dkey_kOf h)
section
variable {β : Type}
def findK : List (D × β) → NestedKey → Option β
  | [], _ => none
  | q :: r, k => if isK q.1 k = true then some q.2 else findK r k
def putKv : List (D × β) → NestedKey → D → β → List (D × β)
  | [], _, d, c => [(d, c)]
  | q :: r, k, d, c => if isK q.1 k = true then (q.1, c) :: r else q :: putKv r k d c
def sortOk (ks : List (D × β)) (d : D) : Bool := match ks with
  | [] => true
  | q :: _ => isTup q.1 == isTup d
theorem sortOk_all {ks : List (D × β)} {d : D} (ok : KsOk ks) (h : sortOk ks d = true) : ∀ q ∈ ks, isTup q.1 = isTup d := by
  cases ks with
  | nil => intro q hq; cases hq
  | cons p r =>
    have e : isTup p.1 = isTup d := by simpa [sortOk] using h
    intro q hq
    rw [← e]
    exact ok.2 q hq p (List.mem_cons_self ..)
theorem putKv_mem {k : NestedKey} {d : D} {c : β} : ∀ {ks : List (D × β)} {q : D × β}, q ∈ putKv ks k d c → q.1 = d ∨ ∃ p ∈ ks, q.1 = p.1
  | [], q, h => by
    have e : q = (d, c) := by simpa [putKv] using h
    exact .inl (by rw [e])
  | p :: r, q, h => by
    unfold putKv at h
    split at h
    · rcases List.mem_cons.mp h with e | h
      · exact .inr ⟨p, List.mem_cons_self .., by rw [e]⟩
      · exact .inr ⟨q, List.mem_cons_of_mem _ h, rfl⟩
    · rcases List.mem_cons.mp h with e | h
      · exact .inr ⟨p, List.mem_cons_self .., by rw [e]⟩
      · rcases putKv_mem h with e | ⟨z, hz, e⟩
        · exact .inl e
        · exact .inr ⟨z, List.mem_cons_of_mem _ hz, e⟩
theorem putKv_keys {k : NestedKey} {d : D} {c : β} (hd : dkey d = some k) : ∀ {ks : List (D × β)}, (∀ q ∈ ks, ∃ j, dkey q.1 = some j) → (ks.map fun q => dkey q.1).Nodup → ((putKv ks k d c).map fun q => dkey q.1).Nodup
  | [], _, _ => by simp [putKv]
  | p :: r, hk, hn => by
    rw [List.map_cons, List.nodup_cons] at hn
    obtain ⟨j, hj⟩ := hk p (List.mem_cons_self ..)
    unfold putKv
    rw [isK_dec hj]
    by_cases e : j = k
    · rw [decide_eq_true e, if_pos rfl, List.map_cons, List.nodup_cons]; exact hn
    · rw [decide_eq_false e, if_neg (by decide), List.map_cons, List.nodup_cons]
      refine ⟨fun hm => ?_, putKv_keys hd (fun q hq => hk q (List.mem_cons_of_mem _ hq)) hn.2⟩
      obtain ⟨q, hq, e1⟩ := List.mem_map.mp hm
      rcases putKv_mem hq with e2 | ⟨z, hz, e2⟩
      · rw [e2, hd, hj] at e1
        exact e (Option.some.inj e1).symm
      · rw [e2] at e1
        exact hn.1 (List.mem_map.mpr ⟨z, hz, e1⟩)
theorem putKv_ok {ks : List (D × β)} {k : NestedKey} {d : D} {c : β} (ok : KsOk ks) (hk : ∀ q ∈ ks, ∃ j, dkey q.1 = some j) (hd : dkey d = some k) (so : sortOk ks d = true) : KsOk (putKv ks k d c) := by
  have all := sortOk_all ok so
  have al2 : ∀ q ∈ putKv ks k d c, isTup q.1 = isTup d := fun q hq => by
    rcases putKv_mem hq with e | ⟨z, hz, e⟩
    · rw [e]
    · rw [e]; exact all z hz
  exact ⟨putKv_keys hd hk ok.1, fun q hq q' hq' => by rw [al2 q hq, al2 q' hq']⟩
theorem putKv_le {k : NestedKey} {d : D} {c : β} : ∀ ks : List (D × β), (putKv ks k d c).length ≤ ks.length + 1
  | [] => by simp [putKv]
  | p :: r => by
    unfold putKv
    split
    · simp
    · have := putKv_le (k := k) (d := d) (c := c) r
      simp only [List.length_cons]; omega
end
section
variable (w : World) (K : PySem.W.Frag) (F : Addr → Prop) (H : Hp)
def EnG {β : Type} (val : V → β → Prop) (e : DictEntry) (q : D × β) : Prop :=
  ∃ v u k, RelV v e.key ∧ DV w K F H v q.1 ∧ dkey q.1 = some k ∧ e.hash = k.hash w ∧ RelV u e.val ∧ val u q.2
end
section
variable {w : World} {K : PySem.W.Frag} {F : Addr → Prop} {H : Hp}
theorem DEs.pair : ∀ {es : List DictEntry} {ks : List (D × D)}, DEs w K F H es ks → Paired (EnG w K F H (DV w K F H)) es ks
  | _, _, .nil => .nil
  | _, _, .cons a b c e f g r => .cons ⟨_, _, _, a, b, c, e, f, g⟩ (DEs.pair r)
theorem DEs.of : ∀ {es : List DictEntry} {ks : List (D × D)}, Paired (EnG w K F H (DV w K F H)) es ks → DEs w K F H es ks
  | _, _, .nil => .nil
  | _, (_, _) :: _, .cons ⟨_, _, _, a, b, c, e, f, g⟩ r => .cons a b c e f g (DEs.of r)
theorem EnG.key {β : Type} {val : V → β → Prop} : ∀ {es : List DictEntry} {ks : List (D × β)}, Paired (EnG w K F H val) es ks → ∀ q ∈ ks, ∃ j, dkey q.1 = some j
  | _, _, .nil, q, h => by cases h
  | _, _, .cons ⟨_, _, k, _, _, e, _⟩ r, q, h => (List.mem_cons.mp h).elim (fun z => ⟨k, by rw [z]; exact e⟩) (EnG.key r q)
end
/-- a dict in the model's heap -/
structure DF {β : Type} (X : Cx) (F : Addr → Prop) (H : Hp) (a : Addr) (es : List DictEntry) (val : V → β → Prop) (ks : List (D × β)) : Prop where
  src : ∃ ep, DcR X.K H a es ep
  ns : (a == sysModules) = false
  le : es.length ≤ sizeLine
  ok : KsOk ks
  ps : Paired (EnG X.w X.K F H val) es ks
section
variable {X : Cx}
theorem DcR.at_ {pins : List (Addr × Obj)} {σ : St} {H : Hp} {s : Shared} {a : Addr} {es : List DictEntry} {ep : Nat} (I : Inv X pins σ H s) (h : DcR X.K H a es ep) : s.heap.DictRaw a es.toArray ep := by
  rcases h with h | ⟨o, e, x, d⟩
  · exact (h.ok I.hok).1
  · exact ⟨o, I.kIn a o e, x, d⟩
theorem DF.at_ {β : Type} {F : Addr → Prop} {H : Hp} {a : Addr} {es : List DictEntry} {val : V → β → Prop} {ks : List (D × β)} (f : DF X F H a es val ks) (pins : List (Addr × Obj)) (σ : St) (s : Shared) (I : Inv X pins σ H s) : ∃ o ep, s.heap.get? a = some o ∧ o.ExactDict ∧ o.data = .dict es.toArray ep :=
  let ⟨ep, h⟩ := f.src
  let ⟨o, r⟩ := h.at_ I
  ⟨o, ep, r⟩
theorem VV.df {F : Addr → Prop} {H : Hp} {v : V} {ks : List (D × D)} (h : VV X.w X.K F H v (.dict ks)) : ∃ a es, v = .ref a ∧ DF X F H a es (DV X.w X.K F H) ks := by
  cases h with
  | dv h =>
    cases h with
    | dic a l o r => exact ⟨_, _, rfl, let ⟨ep, h⟩ := a.1; ⟨ep, h.rd⟩, a.2, l, o, r.pair⟩
  | dic a n l o r => exact ⟨_, _, rfl, ⟨_, .inl (.inl a)⟩, n, l, o, r.pair⟩
theorem RS.df {B : Addr → Prop} {ρ : List Addr} {H : Hp} {m : Mu} {i : Nat} {a : Addr} {kvs : List (D × W)} (rs : RS X.w X.K B ρ H m) (ha : ρ[i]? = some a) (hi : m[i]? = some (.dic kvs)) :
    ∃ es ep, H a = some (dicO a es ep) ∧ DF X (Fb B ρ) H a es (WV X.w X.K B ρ H) kvs := by
  obtain ⟨es, ep, e, n, l, o, p⟩ := rs.at_ i a _ ha hi
  exact ⟨es, ep, e, ⟨ep, .inl (.inl e)⟩, n, l, o, p⟩
variable {pins : List (Addr × Obj)} {σ : St} {H : Hp} {s : Shared}
mutual
theorem DV.nest {F : Addr → Prop} (I : Inv X pins σ H s) : ∀ {d : D} {v : V} {u : Value} {k : NestedKey}, DV X.w X.K F H v d → RelV v u → kOf d = some k → NestedIs s.heap k u
  | .none, _, _, _, h, r, e => by cases e; cases h; cases r; exact .none
  | .bool b, _, _, _, h, r, e => by cases e; cases h; cases r; exact .bool rfl
  | .int b, _, _, _, h, r, e => by cases e; cases h; obtain ⟨t, rfl⟩ := r; exact .int _ _
  | .str b, _, _, _, h, r, e => by cases e; cases h; obtain ⟨t, rfl⟩ := r; exact .text _ _
  | .tuple ds, _, _, _, h, r, e => by
    unfold kOf at e
    cases q : kOfs ds with
    | none => rw [q] at e; cases e
    | some ks =>
      rw [q] at e; cases e
      cases h with
      | tup a l rr =>
        cases r
        obtain ⟨its, vs, ⟨o, e1, hc, n, hd⟩, _⟩ := I.tuple a.sq
        exact .tup e1 hc hd (by simpa using DVs.nest I rr vs q)
  | .list _, _, _, _, h, r, e => by simp [kOf] at e
  | .dict _, _, _, _, h, r, e => by simp [kOf] at e
theorem DVs.nest {F : Addr → Prop} (I : Inv X pins σ H s) : ∀ {ds : List D} {vs : List V} {us : List Value} {ks : List NestedKey}, DVs X.w X.K F H vs ds → Vals vs us → kOfs ds = some ks → NestedAll s.heap ks us
  | [], _, _, _, h, r, e => by
    cases h; cases r
    simp [kOfs] at e
    subst e
    exact .nil
  | d :: ds, _, _, _, h, r, e => by
    cases h with
    | cons h1 h2 =>
      cases r with
      | cons r1 r2 =>
        unfold kOfs at e
        cases q : kOf d with
        | none => rw [q] at e; cases e
        | some a =>
          cases q2 : kOfs ds with
          | none => rw [q, q2] at e; cases e
          | some as =>
            rw [q, q2] at e; cases e
            exact .cons (DV.nest I h1 r1 q) (DVs.nest I h2 r2 q2)
end
theorem dkey_depth {ds : List D} {k : NestedKey} (h : dkey (.tuple ds) = some k) : k.depth ≤ 8 := by
  simp only [dkey] at h
  cases q : kOfs ds with
  | none => rw [q] at h; cases h
  | some ks =>
    rw [q] at h
    dsimp only at h
    split at h
    · cases h; assumption
    · cases h
theorem isTup_tup {d : D} (h : isTup d = true) : ∃ ds, d = .tuple ds := by
  cases d <;> simp [isTup] at h
  exact ⟨_, rfl⟩
theorem key_is {F : Addr → Prop} (I : Inv X pins σ H s) {d : D} {v : V} {u : Value} {k : NestedKey} (h : DV X.w X.K F H v d) (r : RelV v u) (e : dkey d = some k) (t : isTup d = true) : ∃ b, u = .ref b ∧ v = .ref b ∧ (nestedKind X.prog X.w).is s.heap k b := by
  obtain ⟨ds, rfl⟩ := isTup_tup t
  have h2 := h
  cases h2 with
  | tup a l rr =>
    have r2 := r
    cases r2
    exact ⟨_, rfl, rfl, DV.nest I h r (dkey_kOf e), dkey_depth e⟩
theorem VV.dict {F : Addr → Prop} {pins : List (Addr × Obj)} {σ : St} {H : Hp} {s : Shared} {v : V} {ks : List (D × D)} (I : Inv X pins σ H s) (h : VV X.w X.K F H v (.dict ks)) :
    ∃ a es, v = .ref a ∧ (∃ o ep, s.heap.get? a = some o ∧ o.ExactDict ∧ o.data = .dict es.toArray ep) ∧ (a == sysModules) = false ∧ es.length ≤ sizeLine ∧ KsOk ks ∧ DEs X.w X.K F H es ks := by
  obtain ⟨a, es, e, f⟩ := h.df
  exact ⟨a, es, e, f.at_ _ _ _ I, f.ns, f.le, f.ok, .of f.ps⟩
section
variable {β : Type} {val : V → β → Prop} {F : Addr → Prop} {P : Program} {w : World} {K : PySem.W.Frag}
abbrev NX (P : Program) (w : World) (K : PySem.W.Frag) (F : Addr → Prop) (H : Hp) (val : V → β → Prop) (q : D × β) (x : NestedKey × Addr × Value) : Prop := dkey q.1 = some x.1 ∧ EnG w K F H val (entryOfKey (nestedKind P w) x) q
theorem nest_of (I : Inv X pins σ H s) : ∀ {es : List DictEntry} {ks : List (D × β)}, Paired (EnG X.w X.K F H val) es ks → (∀ q ∈ ks, isTup q.1 = true) →
    ∃ xs : List (NestedKey × Addr × Value), es = xs.map (entryOfKey (nestedKind X.prog X.w)) ∧ (∀ x ∈ xs, (nestedKind X.prog X.w).is s.heap x.1 x.2.1) ∧ Paired (NX X.prog X.w X.K F H val) ks xs
  | _, _, .nil, _ => ⟨[], rfl, (fun x h => nomatch h), .nil⟩
  | e :: es, q :: ks, .cons ⟨v, u, k, r1, dv, hk, hh, r2, vl⟩ r, ht => by
    obtain ⟨xs, e1, h2, p⟩ := nest_of I r fun q hq => ht q (List.mem_cons_of_mem _ hq)
    obtain ⟨b, eb, ev, ib⟩ := key_is I dv r1 hk (ht q (List.mem_cons_self ..))
    have ee : e = entryOfKey (nestedKind X.prog X.w) (k, b, e.val) := by
      cases e
      simp only at eb hh
      subst eb hh
      rfl
    refine ⟨(k, b, e.val) :: xs, by rw [List.map_cons, ← ee, e1], fun x hx => ?_, .cons ⟨hk, ?_⟩ p⟩
    · rcases List.mem_cons.mp hx with z | z
      · rw [z]; exact ib
      · exact h2 x z
    · rw [← ee]; exact ⟨v, u, k, r1, dv, hk, hh, r2, vl⟩
theorem nx_keys : ∀ {ks : List (D × β)} {xs : List (NestedKey × Addr × Value)}, Paired (NX P w K F H val) ks xs → (ks.map fun q => dkey q.1) = (xs.map (·.1)).map some
  | _, _, .nil => rfl
  | _, _, .cons h r => by simp only [List.map_cons]; rw [h.1, nx_keys r]
theorem nodup_some {α : Type} {l : List α} (h : (l.map some).Nodup) : l.Nodup := by
  unfold List.Nodup at h ⊢
  rw [List.pairwise_map] at h
  exact h.imp fun h e => h (by rw [e])
theorem nx_nodup {ks : List (D × β)} {xs : List (NestedKey × Addr × Value)} (h : Paired (NX P w K F H val) ks xs) (ok : KsOk ks) : (xs.map (·.1)).Nodup := by
  have := ok.1
  rw [nx_keys h] at this
  exact nodup_some this
def RO (val : V → β → Prop) (c : Option β) (p : Option Value) : Prop := match c, p with
  | some c, some p => ∃ u, RelV u p ∧ val u c
  | none, none => True
  | _, _ => False
theorem nx_find (k : NestedKey) : ∀ {ks : List (D × β)} {xs : List (NestedKey × Addr × Value)}, Paired (NX P w K F H val) ks xs → RO val (findK ks k) ((atKey xs k).map (·.2))
  | _, _, .nil => True.intro
  | q :: ks, x :: xs, .cons ⟨h1, _, u, _, _, _, _, _, r2, vl⟩ r => by
    unfold findK atKey
    rw [isK_dec h1, List.find?_cons]
    by_cases e : x.1 = k
    · rw [decide_eq_true e, if_pos rfl]; exact ⟨u, r2, vl⟩
    · rw [decide_eq_false e, if_neg (by decide)]; exact nx_find k r
theorem storedH_cons {x : NestedKey × Addr × Value} {xs : List (NestedKey × Addr × Value)} {k : NestedKey} {a : Addr} {v : Value} (h : ¬ x.1 = k) : storedH (x :: xs) k a v = x :: storedH xs k a v := by
  have e : atKey (x :: xs) k = atKey xs k := by simp [atKey, List.find?_cons, h]
  unfold storedH
  rw [e]
  split
  · rw [List.map_cons, putAt, if_neg h]
  · rfl
theorem nx_put {k : NestedKey} {d : D} {c : β} {a : Addr} {v : Value} (hd : dkey d = some k) (he : EnG w K F H val (entryOfKey (nestedKind P w) (k, a, v)) (d, c)) : ∀ {ks : List (D × β)} {xs : List (NestedKey × Addr × Value)}, Paired (NX P w K F H val) ks xs → (xs.map (·.1)).Nodup →
    Paired (NX P w K F H val) (putKv ks k d c) (storedH xs k a v)
  | _, _, .nil, _ => .cons ⟨hd, he⟩ .nil
  | q :: ks, x :: xs, .cons ⟨h1, en⟩ r, hn => by
    unfold putKv
    rw [isK_dec h1]
    rw [List.map_cons, List.nodup_cons] at hn
    by_cases e : x.1 = k
    · have ea : atKey (x :: xs) k = some x.2 := by simp [atKey, List.find?_cons, e]
      rw [decide_eq_true e, if_pos rfl, storedH_old ea, List.map_cons, map_putAt_of_not_mem xs k v (by rw [← e]; exact hn.1), putAt, if_pos e]
      refine .cons ⟨h1, ?_⟩ r
      obtain ⟨v1, u, kk, r1, dv, hk, hh, r2, vl⟩ := en
      obtain ⟨_, u', _, _, _, _, _, r2', vl'⟩ := he
      exact ⟨v1, u', kk, r1, dv, hk, hh, r2', vl'⟩
    · rw [decide_eq_false e, if_neg (by decide), storedH_cons e]
      exact .cons ⟨h1, en⟩ (nx_put hd he r hn.2)
theorem nx_back : ∀ {ks : List (D × β)} {xs : List (NestedKey × Addr × Value)}, Paired (NX P w K F H val) ks xs → Paired (EnG w K F H val) (xs.map (entryOfKey (nestedKind P w))) ks
  | _, _, .nil => .nil
  | _, _, .cons h r => .cons h.2 (nx_back r)
def nk : Key → NestedKey
  | .inl i => .num i
  | .inr x => .text x
def kD : Key → D
  | .inl i => .int i
  | .inr x => .str x
theorem nk_inj {a b : Key} (h : nk a = nk b) : a = b := by
  cases a <;> cases b <;> simp [nk] at h <;> rw [h]
theorem nk_ne {a b : Key} (h : a ≠ b) : nk a ≠ nk b := fun e => h (nk_inj e)
theorem dkey_flat {d : D} {k : NestedKey} (h : dkey d = some k) (t : isTup d = false) : ∃ q : Key, k = nk q ∧ d = kD q := by
  cases d with
  | int i => cases h; exact ⟨.inl i, rfl, rfl⟩
  | str i => cases h; exact ⟨.inr i, rfl, rfl⟩
  | tuple ds => cases t
  | _ => simp [dkey] at h
theorem dkey_kD (q : Key) : dkey (kD q) = some (nk q) := by cases q <;> rfl
theorem DV_kD {q : Key} {v : V} (h : DV w K F H v (kD q)) : v = kV q := by
  cases q <;> (cases h; rfl)
theorem kD_DV (q : Key) : DV w K F H (kV q) (kD q) := by
  cases q
  · exact .int _
  · exact .str _
theorem kV_rel {q : Key} {u : Value} (h : (mixKind P w).is q u = true) : RelV (kV q) u := by
  rcases keyIs_shape (show keyIs q u = true from h) with ⟨i, t, rfl, rfl⟩ | ⟨x, t, rfl, rfl⟩
  · exact ⟨t, rfl⟩
  · exact ⟨t, rfl⟩
abbrev MX (val : V → β → Prop) (q : D × β) (x : Key × Value) : Prop := q.1 = kD x.1 ∧ ∃ u, RelV u x.2 ∧ val u q.2
theorem hash_nk (q : Key) : (nk q).hash w = (mixKind P w).hash q := by cases q <;> rfl
theorem mix_of (P : Program) : ∀ {es : List DictEntry} {ks : List (D × β)}, Paired (EnG w K F H val) es ks → (∀ q ∈ ks, isTup q.1 = false) →
    ∃ xs : List (Key × Value), Pairs (mixKind P w) es xs ∧ (∀ e ∈ es, ∃ k, (mixKind P w).is k e.key = true ∧ e.hash = (mixKind P w).hash k) ∧ Paired (MX val) ks xs
  | _, _, .nil, _ => ⟨[], .nil, (fun x h => nomatch h), .nil⟩
  | e :: es, q :: ks, .cons ⟨v, u, k, r1, dv, hk, hh, r2, vl⟩ r, ht => by
    obtain ⟨xs, p1, h2, p⟩ := mix_of P r fun q hq => ht q (List.mem_cons_of_mem _ hq)
    obtain ⟨kk, rfl, e2⟩ := dkey_flat hk (ht q (List.mem_cons_self ..))
    rw [e2] at dv
    rw [DV_kD dv] at r1
    have hi := kV_is (P := P) (w := w) r1
    refine ⟨(kk, e.val) :: xs, .cons hi rfl p1, fun x hx => ?_, .cons ⟨e2, u, r2, vl⟩ p⟩
    rcases List.mem_cons.mp hx with z | z
    · rw [z]; exact ⟨kk, hi, by rw [hh, hash_nk]⟩
    · exact h2 x z
theorem mx_keys : ∀ {ks : List (D × β)} {xs : List (Key × Value)}, Paired (MX val) ks xs → (ks.map fun q => dkey q.1) = (xs.map (·.1)).map fun k => some (nk k)
  | _, _, .nil => rfl
  | _, _, .cons h r => by simp only [List.map_cons]; rw [h.1, mx_keys r, dkey_kD]
theorem mx_nodup {ks : List (D × β)} {xs : List (Key × Value)} (h : Paired (MX val) ks xs) (ok : KsOk ks) : (xs.map (·.1)).Nodup := by
  have := ok.1
  rw [mx_keys h] at this
  unfold List.Nodup at this ⊢
  rw [List.pairwise_map] at this
  exact this.imp fun h e => h (by rw [e])
theorem isK_kD (a k : Key) : isK (kD a) (nk k) = decide (a = k) := by
  rw [isK_dec (dkey_kD a)]
  by_cases e : a = k
  · rw [e]; simp
  · rw [decide_eq_false e, decide_eq_false (nk_ne e)]
theorem mx_find (k : Key) : ∀ {ks : List (D × β)} {xs : List (Key × Value)}, Paired (MX val) ks xs → RO val (findK ks (nk k)) (valueAt xs k)
  | _, _, .nil => True.intro
  | q :: ks, x :: xs, .cons ⟨h1, u, r2, vl⟩ r => by
    unfold findK valueAt
    rw [h1, isK_kD, List.find?_cons]
    by_cases e : x.1 = k
    · rw [decide_eq_true e, if_pos rfl]; exact ⟨u, r2, vl⟩
    · rw [decide_eq_false e, if_neg (by decide)]; exact mx_find k r
theorem stored_cons {x : Key × Value} {xs : List (Key × Value)} {k : Key} {v : Value} (h : ¬ x.1 = k) : stored (x :: xs) k v = x :: stored xs k v := by
  unfold stored
  rw [List.any_cons, decide_eq_false h, Bool.false_or]
  split
  · rw [List.map_cons, if_neg h]
  · rfl
theorem mx_put {k : Key} {c : β} {u : V} {v : Value} (ru : RelV u v) (hv : val u c) : ∀ {ks : List (D × β)} {xs : List (Key × Value)}, Paired (MX val) ks xs → (xs.map (·.1)).Nodup →
    Paired (MX val) (putKv ks (nk k) (kD k) c) (stored xs k v)
  | _, _, .nil, _ => .cons ⟨rfl, u, ru, hv⟩ .nil
  | q :: ks, x :: xs, .cons ⟨h1, u1, r2, vl⟩ r, hn => by
    unfold putKv
    rw [h1, isK_kD]
    rw [List.map_cons, List.nodup_cons] at hn
    by_cases e : x.1 = k
    · rw [decide_eq_true e, if_pos rfl]
      have ea : stored (x :: xs) k v = (x.1, v) :: xs := by
        unfold stored
        rw [List.any_cons, decide_eq_true e, Bool.true_or, if_pos rfl, List.map_cons, if_pos e, map_store_of_not_mem xs k v (by rw [← e]; exact hn.1)]
      rw [ea]
      exact .cons ⟨rfl, u, ru, hv⟩ r
    · rw [decide_eq_false e, if_neg (by decide), stored_cons e]
      exact .cons ⟨h1, u1, r2, vl⟩ (mx_put ru hv r hn.2)
theorem mx_back : ∀ {es : List DictEntry} {ks : List (D × β)} {xs : List (Key × Value)}, Paired (MX val) ks xs → Pairs (mixKind P w) es xs → (∀ e ∈ es, ∃ k, (mixKind P w).is k e.key = true ∧ e.hash = (mixKind P w).hash k) → Paired (EnG w K F H val) es ks
  | _, _, _, .nil, .nil, _ => .nil
  | e :: es, q :: ks, x :: xs, .cons ⟨h1, u, r2, vl⟩ r, .cons i1 i2 i3, hh => by
    refine .cons ⟨kV x.1, u, nk x.1, kV_rel i1, by rw [h1]; exact kD_DV _, by rw [h1]; exact dkey_kD _, ?_, by rw [i2]; exact r2, vl⟩ (mx_back r i3 fun z hz => hh z (List.mem_cons_of_mem _ hz))
    obtain ⟨k, z1, z2⟩ := hh e (List.mem_cons_self ..)
    rw [z2, (mixKind P w).inj e.key k x.1 z1 i1, hash_nk]
end
section
variable {β : Type} {val : V → β → Prop} {F F' : Addr → Prop} {a : Addr} {es : List DictEntry} {ks : List (D × β)} {A : Around} {E : Value → Shared → Prop} {y : V} {u : Value} {d : D} {k : NestedKey} {c : β}
theorem DF.hN (f : DF X F H a es val ks) (I : Inv X pins σ H s) {xs : List (NestedKey × Addr × Value)} (e : es = xs.map (entryOfKey (nestedKind X.prog X.w))) (hi : ∀ x ∈ xs, (nestedKind X.prog X.w).is s.heap x.1 x.2.1) (p : Paired (NX X.prog X.w X.K F H val) ks xs) : s.heap.DictOfH (nestedKind X.prog X.w) a xs := by
  obtain ⟨o, ep, e1, e2, e3⟩ := f.at_ pins σ s I
  exact ⟨o, es.toArray, ep, e1, e2, e3, by rw [← e], hi, nx_nodup p f.ok⟩
theorem DF.hM (f : DF X F H a es val ks) (I : Inv X pins σ H s) {xs : List (Key × Value)} (e : Pairs (mixKind X.prog X.w) es xs) (hi : ∀ e ∈ es, ∃ k, (mixKind X.prog X.w).is k e.key = true ∧ e.hash = (mixKind X.prog X.w).hash k) (p : Paired (MX val) ks xs) : s.heap.DictOf (mixKind X.prog X.w) a xs := by
  obtain ⟨o, ep, e1, e2, e3⟩ := f.at_ pins σ s I
  exact ⟨o, es.toArray, ep, e1, e2, e3, fun z hz => hi z (by simpa using hz), e, mx_nodup p f.ok⟩
theorem room8 (hu : A.units + 80 < cLine) : (nestedKind X.prog X.w).room A.in1 := by
  show A.units + 1 + 8 < cLine
  omega
theorem DF.typ (f : DF X F H a es val ks) (I : Inv X pins σ H s) : s.TypeIs (.ref a) "dict" := let ⟨o, _, e1, e2, _⟩ := f.at_ pins σ s I; ⟨o, e1, e2.1⟩
theorem DF.get (f : DF X F H a es val ks) (hu : A.units + 80 < cLine) (I : Inv X pins σ H s) (dv : DV X.w X.K F' H y d) (ry : RelV y u) (hk : dkey d = some k) (so : sortOk ks d = true) (hf : findK ks k = some c)
    {Q : Value → Shared → Prop} (h : ∀ z z' t, RelV z z' → val z c → Q z' { s with toks := t }) : wpAny (model X.prog X.w) A (getItem (.ref a) u) Q E s := by
  have all := sortOk_all f.ok so
  cases t : isTup d with
  | true =>
    obtain ⟨xs, e1, e2, p⟩ := nest_of I f.ps fun q hq => (all q hq).trans t
    obtain ⟨b, rfl, _, ib⟩ := key_is I dv ry hk t
    have r := nx_find k p
    rw [hf] at r
    cases q : atKey xs k with
    | none => rw [q] at r; exact r.elim
    | some pp =>
      rw [q] at r
      obtain ⟨z, r1, r2⟩ := r
      exact wpAny_getItem_heap (room8 hu) ib (f.hN I e1 e2 p) q (h z _ _ r1 r2)
  | false =>
    obtain ⟨xs, e1, e2, p⟩ := mix_of X.prog f.ps fun q hq => (all q hq).trans t
    obtain ⟨kk, rfl, rfl⟩ := dkey_flat hk t
    rw [DV_kD dv] at ry
    have r := mx_find kk p
    rw [hf] at r
    cases q : valueAt xs kk with
    | none => rw [q] at r; exact r.elim
    | some pp =>
      rw [q] at r
      obtain ⟨z, r1, r2⟩ := r
      exact wpAny_getItem_of (kV_is ry) (f.hM I e1 e2 p).mapOf q (h z _ _ r1 r2)
theorem RO.some_eq {c : Option β} {p : Option Value} (r : RO val c p) : c.isSome = p.isSome := by
  cases c <;> cases p <;> first | rfl | exact r.elim
theorem DF.mem (f : DF X F H a es val ks) (hu : A.units + 80 < cLine) (I : Inv X pins σ H s) (dv : DV X.w X.K F' H y d) (ry : RelV y u) (hk : dkey d = some k) (so : sortOk ks d = true)
    {Q : Value → Shared → Prop} (h : ∀ t, Q (.bool (findK ks k).isSome) { s with toks := t }) : wpAny (model X.prog X.w) A (compareOp .In u (.ref a)) Q E s := by
  have all := sortOk_all f.ok so
  cases t : isTup d with
  | true =>
    obtain ⟨xs, e1, e2, p⟩ := nest_of I f.ps fun q hq => (all q hq).trans t
    obtain ⟨b, rfl, _, ib⟩ := key_is I dv ry hk t
    have r := (nx_find k p).some_eq
    rw [Option.isSome_map] at r
    refine wpAny_in_heap (room8 hu) ib f.ns (f.hN I e1 e2 p) ?_
    rw [← r]
    exact h _
  | false =>
    obtain ⟨xs, e1, e2, p⟩ := mix_of X.prog f.ps fun q hq => (all q hq).trans t
    obtain ⟨kk, rfl, rfl⟩ := dkey_flat hk t
    rw [DV_kD dv] at ry
    have r := (mx_find kk p).some_eq
    refine wpAny_in_of (kV_is ry) f.ns (f.hM I e1 e2 p).mapOf ?_
    rw [← r]
    exact h _
theorem DF.nmem (f : DF X F H a es val ks) (hu : A.units + 80 < cLine) (I : Inv X pins σ H s) (dv : DV X.w X.K F' H y d) (ry : RelV y u) (hk : dkey d = some k) (so : sortOk ks d = true)
    {Q : Value → Shared → Prop} (h : ∀ t, Q (.bool (!(findK ks k).isSome)) { s with toks := t }) : wpAny (model X.prog X.w) A (compareOp .NotIn u (.ref a)) Q E s := by
  have all := sortOk_all f.ok so
  cases t : isTup d with
  | true =>
    obtain ⟨xs, e1, e2, p⟩ := nest_of I f.ps fun q hq => (all q hq).trans t
    obtain ⟨b, rfl, _, ib⟩ := key_is I dv ry hk t
    have r := (nx_find k p).some_eq
    rw [Option.isSome_map] at r
    refine PyProof.Rows.wpAny_notIn_heap (room8 hu) ib f.ns (f.hN I e1 e2 p) ?_
    rw [← r]
    exact h _
  | false =>
    obtain ⟨xs, e1, e2, p⟩ := mix_of X.prog f.ps fun q hq => (all q hq).trans t
    obtain ⟨kk, rfl, rfl⟩ := dkey_flat hk t
    rw [DV_kD dv] at ry
    have r := (mx_find kk p).some_eq
    refine wpAny_notIn_of (kV_is ry) f.ns (f.hM I e1 e2 p).mapOf ?_
    rw [← r]
    exact h _
theorem DF.set (f : DF X F H a es val ks) (hu : A.units + 80 < cLine) (I : Inv X pins σ H s) (dv : DV X.w X.K F H y d) (ry : RelV y u) (hk : dkey d = some k) (so : sortOk ks d = true) {z : V} {zv : Value} (rz : RelV z zv) (vz : val z c)
    {Q : Unit → Shared → Prop} (h : ∀ h' es' o ep t, h'.get? a = some o → o.ExactDict → o.data = .dict es'.toArray ep → Paired (EnG X.w X.K F H val) es' (putKv ks k d c) → Heap.SameBut a s.heap h' → Q () { s with heap := h', toks := t }) :
    wpAny (model X.prog X.w) A (setItem (.ref a) u zv) Q E s := by
  have all := sortOk_all f.ok so
  have hl := Paired.length f.ps
  cases t : isTup d with
  | true =>
    obtain ⟨xs, e1, e2, p⟩ := nest_of I f.ps fun q hq => (all q hq).trans t
    obtain ⟨b, rfl, rfl, ib⟩ := key_is I dv ry hk t
    have hz : xs.length ≤ sizeLine := by
      have := f.le
      rw [e1, List.length_map] at this
      exact this
    refine wpAny_setItem_heap (hsz := hz) (room8 hu) ib (f.hN I e1 e2 p) fun h' dd' hs => ?_
    obtain ⟨o, es', ep, z1, z2, z3, z4, z5, z6⟩ := dd'
    have pp := nx_put (P := X.prog) (a := b) (v := zv) hk ⟨.ref b, z, k, ry, dv, hk, rfl, rz, vz⟩ p (nx_nodup p f.ok)
    refine h h' es'.toList o ep _ z1 z2 (by rw [z3, Array.toArray_toList]) ?_ hs
    rw [z4]
    exact nx_back pp
  | false =>
    obtain ⟨xs, e1, e2, p⟩ := mix_of X.prog f.ps fun q hq => (all q hq).trans t
    obtain ⟨kk, rfl, rfl⟩ := dkey_flat hk t
    rw [DV_kD dv] at ry
    have hz : xs.length ≤ sizeLine := by
      rw [← e1.length]; exact f.le
    refine wpAny_setItem_pairs (hsz := hz) (kV_is ry) (f.hM I e1 e2 p) fun h' dd' hs => ?_
    obtain ⟨o, es', ep, z1, z2, z3, z4, z5, z6⟩ := dd'
    have pp := mx_put (k := kk) rz vz p (mx_nodup p f.ok)
    refine h h' es'.toList o ep _ z1 z2 (by rw [z3, Array.toArray_toList]) ?_ hs
    exact mx_back pp z5 fun e he => z4 e (by simpa using he)
end
end
end Pg

namespace Pg
open PySem L2
section
variable {w : World} {K : PySem.W.Frag} {F : Addr → Prop} {H : Hp}
mutual
theorem DV.dp : ∀ {d : D} {v : V}, DV w K F H v d → d.canLay0 = true → Dp K H v d
  | .none, _, h, _ => by cases h; exact .non
  | .bool b, _, h, _ => by cases h; exact .bl _
  | .int b, _, h, _ => by cases h; exact .int _
  | .str b, _, h, _ => by cases h; exact .str _
  | .list ds, _, h, c => by
    cases h with
    | lst a l r => exact .lst a.seq (DVs.dp r (by simpa [PyData.canLay0] using c))
  | .tuple ds, _, h, c => by
    cases h with
    | tup a l r => exact .tup a.sq (DVs.dp r (by simpa [PyData.canLay0] using c))
  | .dict ks, _, h, c => by simp [PyData.canLay0] at c
theorem DVs.dp : ∀ {d : List D} {v : List V}, DVs w K F H v d → PyData.canLayAll0 d = true → DpAll K H v d
  | [], _, h, _ => by cases h; exact .nil
  | d :: ds, _, h, c => by
    cases h with
    | cons a r =>
      rw [PyData.canLayAll0, Bool.and_eq_true] at c
      exact .cons (DV.dp a c.1) (DVs.dp r c.2)
end
theorem VV.dp {v : V} {d : D} (h : VV w K F H v d) (c : d.canLay0 = true) : Dp K H v d := by
  cases h with
  | dv h => exact h.dp c
  | lst a l r => exact .lst (.inl (.inl a)) (DVs.dp r (by simpa [PyData.canLay0] using c))
  | dic a n l o r => simp [PyData.canLay0] at c
end
inductive Co where | eq | ne | lt | le | gt | ge | mem | nmem | is | nis
  deriving DecidableEq
def Co.op : Co → CmpOp
  | .eq => .Eq | .ne => .NotEq | .lt => .Lt | .le => .LtE | .gt => .Gt | .ge => .GtE | .mem => .In | .nmem => .NotIn | .is => .Is | .nis => .IsNot
/-- both can be compared by order -/
def okLt (x y : D) : Bool := SeqAt.shaped x && SeqAt.shaped y && PySem.W.alike x y && (match x with | .none => false | _ => true)
def sameIs : D → D → Option Bool
  | .none, .none => some true
  | .bool a, .bool b => some (a == b)
  | _, .none => some false
  | _, _ => none
def memD (x : D) : D → Option Bool
  | .list ds => if SeqAt.shaped x && SeqAt.shaped (.list ds) then some (ds.any fun z => PyData.eqv z x) else none
  | .tuple ds => if SeqAt.shaped x && SeqAt.shaped (.tuple ds) then some (ds.any fun z => PyData.eqv z x) else none
  | .str t => (match x with
    | .str s => (match s.cps.toList with
      | [c] => some (decide (c ∈ t.cps.toList))
      | _ => none)
    | _ => none)
  | .dict ks => (match dkey x with
    | some k => if sortOk ks x = true then some (findK ks k).isSome else none
    | none => none)
  | _ => none
def cmpB : Co → D → D → Option Bool
  | .eq, x, y => if SeqAt.shaped x && SeqAt.shaped y then some (PyData.eqv x y) else none
  | .ne, x, y => if SeqAt.shaped x && SeqAt.shaped y then some (!PyData.eqv x y) else none
  | .lt, x, y => if okLt x y then some (PySem.W.dataLt x y) else none
  | .gt, x, y => if okLt x y then some (PySem.W.dataLt y x) else none
  | .le, x, y => if okLt x y then some (!PySem.W.dataLt y x) else none
  | .ge, x, y => if okLt x y then some (!PySem.W.dataLt x y) else none
  | .mem, x, y => memD x y
  | .nmem, x, y => (match memD x y with
    | some b => some (!b)
    | none => none)
  | .is, x, y => sameIs x y
  | .nis, x, y => (match sameIs x y with
    | some b => some (!b)
    | none => none)
def cmpD (o : Co) (x y : D) : Option D := match cmpB o x y with
  | some b => some (.bool b)
  | none => none
def rD2 (K : PySem.W.Frag) (P : D → D → Prop) (g : D → D → Bool) : R2 := fun x y H Q => ∃ d e, Dp K H x d ∧ Dp K H y e ∧ P d e ∧ Q (.bl (g d e)) H
section
variable {X : Cx}
theorem op_ord (hu : X.A.units + 80 < cLine) (o : Co) (g : D → D → Bool) (h : (o = .lt ∧ g = fun x y => PySem.W.dataLt x y) ∨ (o = .gt ∧ g = fun x y => PySem.W.dataLt y x) ∨ (o = .le ∧ g = fun x y => !PySem.W.dataLt y x) ∨ (o = .ge ∧ g = fun x y => !PySem.W.dataLt x y)) :
    OpR X (compareOp o.op) (rD2 X.K (fun d e => okLt d e = true) g) := by
  intro pins s σ H x y v u Q I rx ry hh
  obtain ⟨d, e, hd, he, ok, q⟩ := hh
  unfold okLt at ok
  simp only [Bool.and_eq_true] at ok
  obtain ⟨⟨⟨sd, se⟩, al⟩, nn⟩ := ok
  have hn : d ≠ .none := fun z => by subst z; cases nn
  obtain ⟨as, r1⟩ := Dp.reads I d x v hd rx
  obtain ⟨bs, r2⟩ := Dp.reads I e y u he ry
  have room : X.A.units + min d.depth e.depth < cLine := by
    have h1 := SeqAt.depth_of_shaped sd
    have h2 : min d.depth e.depth ≤ d.depth := Nat.min_le_left _ _
    omega
  rcases h with ⟨rfl, rfl⟩ | ⟨rfl, rfl⟩ | ⟨rfl, rfl⟩ | ⟨rfl, rfl⟩
  · exact PySem.W.lt_data r1 r2 al hn room ⟨.bl _, H, I, rfl, q⟩
  · exact PySem.W.gt_data r1 r2 al hn room ⟨.bl _, H, I, rfl, q⟩
  · exact PySem.W.le_data r1 r2 al hn room ⟨.bl _, H, I, rfl, q⟩
  · exact PySem.W.ge_data r1 r2 al hn room ⟨.bl _, H, I, rfl, q⟩
theorem room_in {d : D} {ds : List D} {n : Nat} (hu : X.A.units + 80 < cLine) (sd : SeqAt.shaped d = true) : X.A.units + 1 + min (PyData.depthAll ds) d.depth < cLine := by
  have h1 := SeqAt.depth_of_shaped sd
  have h2 : min (PyData.depthAll ds) d.depth ≤ d.depth := Nat.min_le_right _ _
  omega
def rMem (X : Cx) (b : Bool) : R2 := fun x y H Q =>
  (∃ d ds, Dp X.K H x d ∧ (Dp X.K H y (.list ds) ∨ Dp X.K H y (.tuple ds)) ∧ SeqAt.shaped d = true ∧ PyData.canLayAll0 ds = true ∧ Q (.bl (b ^^ (ds.any fun z => PyData.eqv z d))) H) ∨
  (∃ c z, x = .str ⟨#[c]⟩ ∧ y = .str z ∧ Q (.bl (b ^^ decide (c ∈ z.cps.toList))) H) ∨
  ∃ a es ks F F' d k, y = .ref a ∧ DF X F H a es (DV X.w X.K F H) ks ∧ DV X.w X.K F' H x d ∧ dkey d = some k ∧ sortOk ks d = true ∧ Q (.bl (b ^^ (findK ks k).isSome)) H
theorem op_mem (hu : X.A.units + 80 < cLine) : OpR X (compareOp .In) (rMem X false) := by
  intro pins s σ H x y v u Q I rx ry h
  rcases h with ⟨d, ds, hd, he, sd, cs, q⟩ | ⟨c, z, rfl, rfl, q⟩ | ⟨a, es, ks, F, F', d, k, rfl, f, dv, hk, so, q⟩
  · obtain ⟨as, r1⟩ := Dp.reads I d x v hd rx
    rw [Bool.false_xor] at q
    rcases he with he | he
    · obtain ⟨bs, r2⟩ := Dp.reads I _ y u he ry
      exact SeqAt.in_list_reads r2 r1 cs (SeqAt.canLay_of_shaped sd) (room_in (n := 0) hu sd) ⟨.bl _, H, I, rfl, q⟩
    · obtain ⟨bs, r2⟩ := Dp.reads I _ y u he ry
      exact SeqAt.in_tuple_reads r2 r1 cs (SeqAt.canLay_of_shaped sd) (room_in (n := 0) hu sd) ⟨.bl _, H, I, rfl, q⟩
  · rw [Bool.false_xor] at q
    exact op_in_sign pins s σ H _ _ v u Q I rx ry ⟨c, z, rfl, rfl, q⟩
  · rw [Bool.false_xor] at q
    cases ry
    exact f.mem hu I dv rx hk so fun t => ⟨.bl _, H, I.tok t, rfl, q⟩
theorem op_nmem (hu : X.A.units + 80 < cLine) : OpR X (compareOp .NotIn) (rMem X true) := by
  intro pins s σ H x y v u Q I rx ry h
  rcases h with ⟨d, ds, hd, he, sd, cs, q⟩ | ⟨c, z, rfl, rfl, q⟩ | ⟨a, es, ks, F, F', d, k, rfl, f, dv, hk, so, q⟩
  · obtain ⟨as, r1⟩ := Dp.reads I d x v hd rx
    rw [Bool.true_xor] at q
    rcases he with he | he
    · obtain ⟨bs, r2⟩ := Dp.reads I _ y u he ry
      exact SeqAt.notIn_list_reads r2 r1 cs (SeqAt.canLay_of_shaped sd) (room_in (n := 0) hu sd) ⟨.bl _, H, I, rfl, q⟩
    · obtain ⟨bs, r2⟩ := Dp.reads I _ y u he ry
      exact SeqAt.notIn_tuple_reads r2 r1 cs (SeqAt.canLay_of_shaped sd) (room_in (n := 0) hu sd) ⟨.bl _, H, I, rfl, q⟩
  · rw [Bool.true_xor] at q
    exact op_notIn_sign pins s σ H _ _ v u Q I rx ry ⟨c, z, rfl, rfl, by simpa using q⟩
  · rw [Bool.true_xor] at q
    cases ry
    exact f.nmem hu I dv rx hk so fun t => ⟨.bl _, H, I.tok t, rfl, q⟩
def rIs (b : Bool) : R2 := fun x y H Q => (y = .non ∧ Q (.bl (b ^^ decide (x = .non))) H) ∨ ∃ i j, x = .bl i ∧ y = .bl j ∧ Q (.bl (b ^^ decide (i = j))) H
theorem op_is : OpR X (compareOp .Is) (rIs false) := by
  intro pins s σ H x y v u Q I rx ry h
  rcases h with ⟨e, q⟩ | ⟨i, j, e1, e2, q⟩
  · exact op_isN pins s σ H x y v u Q I rx ry ⟨e, by simpa using q⟩
  · exact op_isBl pins s σ H x y v u Q I rx ry ⟨i, j, e1, e2, by simpa using q⟩
theorem op_nis : OpR X (compareOp .IsNot) (rIs true) := by
  intro pins s σ H x y v u Q I rx ry h
  rcases h with ⟨e, q⟩ | ⟨i, j, e1, e2, q⟩
  · exact op_notN pins s σ H x y v u Q I rx ry ⟨e, by simpa using q⟩
  · exact op_notBl pins s σ H x y v u Q I rx ry ⟨i, j, e1, e2, by simpa using q⟩
def rEqS (K : PySem.W.Frag) (b : Bool) : R2 := rD2 K (fun d e => SeqAt.shaped d = true ∧ SeqAt.shaped e = true) fun d e => b ^^ PyData.eqv d e
theorem op_eqS (hu : X.A.units + 80 < cLine) : OpR X (compareOp .Eq) (rEqS X.K false) := by
  intro pins s σ H x y v u Q I rx ry h
  obtain ⟨d, e, hd, he, ⟨sd, se⟩, q⟩ := h
  exact op_eqD (by omega) pins s σ H x y v u Q I rx ry ⟨d, e, hd, he, sd, se, by simpa using q⟩
theorem op_neS (hu : X.A.units + 80 < cLine) : OpR X (compareOp .NotEq) (rEqS X.K true) := by
  intro pins s σ H x y v u Q I rx ry h
  obtain ⟨d, e, hd, he, ⟨sd, se⟩, q⟩ := h
  exact op_neD (by omega) pins s σ H x y v u Q I rx ry ⟨d, e, hd, he, sd, se, by simpa using q⟩
def rCmp (X : Cx) : Co → R2
  | .eq => rEqS X.K false
  | .ne => rEqS X.K true
  | .lt => rD2 X.K (fun d e => okLt d e = true) fun x y => PySem.W.dataLt x y
  | .gt => rD2 X.K (fun d e => okLt d e = true) fun x y => PySem.W.dataLt y x
  | .le => rD2 X.K (fun d e => okLt d e = true) fun x y => !PySem.W.dataLt y x
  | .ge => rD2 X.K (fun d e => okLt d e = true) fun x y => !PySem.W.dataLt x y
  | .mem => rMem X false
  | .nmem => rMem X true
  | .is => rIs false
  | .nis => rIs true
theorem op_cmp (hu : X.A.units + 80 < cLine) (o : Co) : OpR X (compareOp o.op) (rCmp X o) := by
  cases o with
  | eq => exact op_eqS hu
  | ne => exact op_neS hu
  | lt => exact op_ord hu .lt _ (.inl ⟨rfl, rfl⟩)
  | gt => exact op_ord hu .gt _ (.inr (.inl ⟨rfl, rfl⟩))
  | le => exact op_ord hu .le _ (.inr (.inr (.inl ⟨rfl, rfl⟩)))
  | ge => exact op_ord hu .ge _ (.inr (.inr (.inr ⟨rfl, rfl⟩)))
  | mem => exact op_mem hu
  | nmem => exact op_nmem hu
  | is => exact op_is
  | nis => exact op_nis
end
theorem okLt_lay {x y : D} (h : okLt x y = true) : x.canLay0 = true ∧ y.canLay0 = true := by
  unfold okLt at h
  simp only [Bool.and_eq_true] at h
  exact ⟨SeqAt.canLay_of_shaped h.1.1.1, SeqAt.canLay_of_shaped h.1.1.2⟩
section
variable {X : Cx} {F : Addr → Prop} {H : Hp} {x y : V} {Q : VK}
theorem VV.key {w : World} {K : PySem.W.Frag} {d : D} {k : NestedKey} (h : VV w K F H x d) (n : dkey d = some k) : DV w K F H x d := by
  cases h with
  | dv h => exact h
  | lst a b c => cases n
  | dic a b c d e => cases n
theorem VV.nn {w : World} {K : PySem.W.Frag} {d : D} (h : VV w K F H x d) (n : d ≠ .none) : x ≠ .non := by
  intro e
  subst e
  cases h with
  | dv h => cases h; exact n rfl
theorem mem_ok {d e : D} {c b : Bool} (hx : VV X.w X.K F H x d) (hy : VV X.w X.K F H y e) (hz : memD d e = some c) (q : Q (.bl (b ^^ c)) H) : rMem X b x y H Q := by
  unfold memD at hz
  split at hz
  · split at hz
    · rename_i h
      rw [Bool.and_eq_true] at h
      have := SeqAt.canLay_of_shaped h.2
      cases hz
      exact .inl ⟨d, _, hx.dp (SeqAt.canLay_of_shaped h.1), .inl (hy.dp this), h.1, by simpa [PyData.canLay0] using this, q⟩
    · cases hz
  · split at hz
    · rename_i h
      rw [Bool.and_eq_true] at h
      have := SeqAt.canLay_of_shaped h.2
      cases hz
      exact .inl ⟨d, _, hx.dp (SeqAt.canLay_of_shaped h.1), .inr (hy.dp this), h.1, by simpa [PyData.canLay0] using this, q⟩
    · cases hz
  · split at hz
    · split at hz
      · rename_i s _ c' h
        cases hz
        have e1 : s = ⟨#[c']⟩ := PySem.W.str_of_cps (by rw [h])
        exact .inr (.inl ⟨c', _, by rw [hx.str, e1], hy.str, q⟩)
      · cases hz
    · cases hz
  · split at hz
    · rename_i ks k hk
      split at hz
      · rename_i so
        cases hz
        obtain ⟨a, es, rfl, f⟩ := hy.df
        exact .inr (.inr ⟨a, es, _, _, F, d, k, rfl, f, hx.key hk, hk, so, q⟩)
      · cases hz
    · cases hz
  · cases hz
theorem is_ok {d e : D} {c b : Bool} (hx : VV X.w X.K F H x d) (hy : VV X.w X.K F H y e) (hz : sameIs d e = some c) (q : Q (.bl (b ^^ c)) H) : rIs b x y H Q := by
  unfold sameIs at hz
  split at hz
  · cases hz
    refine .inl ⟨hy.non, ?_⟩
    rw [hx.non]
    simpa using q
  · cases hz
    exact .inr ⟨_, _, hx.bl, hy.bl, by rw [← Bool.beq_eq_decide_eq]; exact q⟩
  · rename_i n
    cases hz
    refine .inl ⟨hy.non, ?_⟩
    rw [decide_eq_false (hx.nn n)]
    exact q
  · cases hz
theorem cmp_ok {o : Co} {d e : D} {c : Bool} (hx : VV X.w X.K F H x d) (hy : VV X.w X.K F H y e) (hz : cmpB o d e = some c) (q : Q (.bl c) H) : rCmp X o x y H Q := by
  cases o with
  | eq =>
    simp only [cmpB] at hz
    split at hz
    · rename_i h; rw [Bool.and_eq_true] at h; cases hz
      exact ⟨d, e, hx.dp (SeqAt.canLay_of_shaped h.1), hy.dp (SeqAt.canLay_of_shaped h.2), h, by simpa using q⟩
    · cases hz
  | ne =>
    simp only [cmpB] at hz
    split at hz
    · rename_i h; rw [Bool.and_eq_true] at h; cases hz
      exact ⟨d, e, hx.dp (SeqAt.canLay_of_shaped h.1), hy.dp (SeqAt.canLay_of_shaped h.2), h, by simpa using q⟩
    · cases hz
  | lt =>
    simp only [cmpB] at hz
    split at hz
    · rename_i h; cases hz; exact ⟨d, e, hx.dp (okLt_lay h).1, hy.dp (okLt_lay h).2, h, q⟩
    · cases hz
  | gt =>
    simp only [cmpB] at hz
    split at hz
    · rename_i h; cases hz; exact ⟨d, e, hx.dp (okLt_lay h).1, hy.dp (okLt_lay h).2, h, q⟩
    · cases hz
  | le =>
    simp only [cmpB] at hz
    split at hz
    · rename_i h; cases hz; exact ⟨d, e, hx.dp (okLt_lay h).1, hy.dp (okLt_lay h).2, h, q⟩
    · cases hz
  | ge =>
    simp only [cmpB] at hz
    split at hz
    · rename_i h; cases hz; exact ⟨d, e, hx.dp (okLt_lay h).1, hy.dp (okLt_lay h).2, h, q⟩
    · cases hz
  | mem => exact mem_ok hx hy hz (by simpa using q)
  | nmem =>
    simp only [cmpB] at hz
    cases z : memD d e with
    | none => rw [z] at hz; cases hz
    | some b => rw [z] at hz; cases hz; exact mem_ok hx hy z (by simpa using q)
  | is => exact is_ok hx hy hz (by simpa using q)
  | nis =>
    simp only [cmpB] at hz
    cases z : sameIs d e with
    | none => rw [z] at hz; cases hz
    | some b => rw [z] at hz; cases hz; exact is_ok hx hy z (by simpa using q)
end
end Pg

namespace Pg
open PySem L2
def toB : W → Mu → R Bool
  | .p (.bool b), m => .ok b m
  | _, _ => .bad
/-- by a bool -/
def kIf {α : Type} (k : W) (x y : R α) : R α := match k with
  | .p (.bool true) => x
  | .p (.bool false) => y
  | _ => .bad
def fB (f : FE) : FT := fun η m => (f η m).bd toB
def ofB (b : Bool) (m : Mu) : R W := .ok (.p (.bool b)) m
section
variable {X : Cx} {XR : XRel} {Wx : WX} {e e1 e2 e3 : Expr} {es : List Expr} {pos : Pos}
/-- a value as a test -/
theorem rdB {f : FE} {σ : St} {H : Hp} {Q : Bool → Hp → Prop} (h : tT X XR Wx (fB f) σ H Q) : tE X XR Wx f σ H (fun x H' => ∃ k, x = .bl k ∧ Q k H') := by
  obtain ⟨B, ρ, η, m, r, c⟩ := h
  refine ⟨B, ρ, η, m, r, Cn.bd c r.rs fun u m1 b H1 ρ1 _ s1 rs1 q1 c1 => ?_⟩
  unfold toB at c1
  split at c1
  · rename_i b' _
    cases q1
    exact ⟨_, rfl, c1.here rs1 rfl⟩
  · exact c1.elim
theorem st_val {f : FE} (h : SE X XR Wx e f) (he : ∀ whole, isTrue e X.env whole = (do let v ← whole; standAt e.pos; holding [v] (truthy v))) : ST X XR Wx e (fB f) :=
  pt_imp (pt_val h he) fun σ H Q h => rdB h
theorem rd2cmp {f f' : FE} (o : Co) : ∀ σ H Q, tE X XR Wx (fB2 f f' (gD2 (cmpD o))) σ H Q → tOp (rCmp X o) (tE X XR Wx f) (tE X XR Wx f') σ H Q :=
  rd2 fun B ρ H m σ η x y a b Q rl wa wb c => by
    obtain ⟨d, e, z, h1, h2, h3, c⟩ := gD2_ok rl.rs wa wb c
    unfold cmpD at h3
    cases q : cmpB o d e with
    | none => rw [q] at h3; cases h3
    | some k =>
      rw [q] at h3; cases h3
      exact cmp_ok h1 h2 q (c.here rl.rs (.bl k))
theorem se_cmp {f f' : FE} (hu : X.A.units + 80 < cLine) (o : Co) (ha : SE X XR Wx e1 f) (hb : SE X XR Wx e2 f') (hm : behindInMarks o.op e2 = false) : SE X XR Wx (.Compare e1 [o.op] [e2] pos) (fB2 f f' (gD2 (cmpD o))) :=
  pe_imp (pe_cmpR (op_cmp hu o) ha hb hm) (rd2cmp o)
theorem st_cmp {f f' : FE} (hu : X.A.units + 80 < cLine) (o : Co) (ha : SE X XR Wx e1 f) (hb : SE X XR Wx e2 f') (hm : behindInMarks o.op e2 = false) : ST X XR Wx (.Compare e1 [o.op] [e2] pos) (fB (fB2 f f' (gD2 (cmpD o)))) :=
  pt_imp (pt_cmpR (op_cmp hu o) ha hb hm) fun σ H Q h => rd2cmp o _ _ _ (rdB h)
/-- a o b o' c -/
def fChn (o o' : Co) (f f' f2 : FE) : FE := fun η m => (f η m).bd fun a m => (f' η m).bd fun b m => (gD2 (cmpD o) a b m).bd fun k m => kIf k ((f2 η m).bd fun c m => gD2 (cmpD o') b c m) (.ok (.p (.bool false)) m)
theorem rdChn {f f' f2 : FE} (o o' : Co) {σ : St} {H : Hp} {Q : VK} (h : tE X XR Wx (fChn o o' f f' f2) σ H Q) : tChain (rCmp X o) (rCmp X o') (tE X XR Wx f) (tE X XR Wx f') (tE X XR Wx f2) σ H Q := by
  obtain ⟨B, ρ, η, m, rl, c⟩ := h
  refine ⟨B, ρ, η, m, rl, Cn.bd c rl.rs fun a m1 x H1 ρ1 _ s1 rs1 wa c1 => ?_⟩
  have rl1 := rl.stp s1 rs1
  refine ⟨B, ρ1, η, m1, rl1, Cn.bd c1 rs1 fun b m2 y H2 ρ2 _ s2 rs2 wb c2 => ?_⟩
  have rl2 := rl1.stp s2 rs2
  have wa2 := wa.stp s2 rs1
  unfold gD2 at c2
  cases e1 : view m2 a with
  | none => rw [e1] at c2; exact c2.elim
  | some d =>
    cases e2 : view m2 b with
    | none => rw [e1, e2] at c2; exact c2.elim
    | some e =>
      rw [e1, e2] at c2
      unfold cmpD at c2
      cases q : cmpB o d e with
      | none => simp only [q] at c2; exact c2.elim
      | some k =>
        simp only [q] at c2
        refine cmp_ok (view_ok rs2 wa2 e1) (view_ok rs2 wb e2) q ⟨k, rfl, ?_⟩
        cases k with
        | false => exact (show Cn X.w X.K XR (WV X.w X.K) B ρ2 H2 (fun c d => Wx c d σ) (.ok (.p (.bool false)) m2) Q from c2).here rs2 (.bl false)
        | true =>
          rw [if_pos rfl]
          have c2 : Cn X.w X.K XR (WV X.w X.K) B ρ2 H2 (fun c d => Wx c d σ) ((f2 η m2).bd fun c m => gD2 (cmpD o') b c m) Q := c2
          refine ⟨B, ρ2, η, m2, rl2, Cn.bd c2 rs2 fun c m3 z H3 ρ3 _ s3 rs3 wc c3 => ?_⟩
          obtain ⟨d', e', z', h1, h2, h3, c4⟩ := gD2_ok rs3 (wb.stp s3 rs2) wc c3
          have h3 : (match cmpB o' d' e' with
            | some b => some (PyData.bool b)
            | none => none) = some z' := h3
          cases q' : cmpB o' d' e' with
          | none => rw [q'] at h3; cases h3
          | some k' =>
            rw [q'] at h3; cases h3
            exact cmp_ok h1 h2 q' (c4.here rs3 (.bl k'))
theorem se_chn {f f' f2 : FE} (hu : X.A.units + 80 < cLine) (o o' : Co) (ha : SE X XR Wx e1 f) (hb : SE X XR Wx e2 f') (hc : SE X XR Wx e3 f2) (hm : lastMarks [o.op, o'.op] [e2, e3] = false) : SE X XR Wx (.Compare e1 [o.op, o'.op] [e2, e3] pos) (fChn o o' f f' f2) :=
  pe_imp (pe_chain (op_cmp hu o) (op_cmp hu o') ha hb hc hm) fun σ H Q h => rdChn o o' h
theorem st_chn {f f' f2 : FE} (hu : X.A.units + 80 < cLine) (o o' : Co) (ha : SE X XR Wx e1 f) (hb : SE X XR Wx e2 f') (hc : SE X XR Wx e3 f2) (hm : lastMarks [o.op, o'.op] [e2, e3] = false) : ST X XR Wx (.Compare e1 [o.op, o'.op] [e2, e3] pos) (fB (fChn o o' f f' f2)) :=
  pt_imp (pt_chain (op_cmp hu o) (op_cmp hu o') ha hb hc hm) fun σ H Q h => rdChn o o' (rdB h)
def fAnd (f g : FE) : FE := fun η m => (f η m).bd fun k m => kIf k (g η m) (.ok (.p (.bool false)) m)
def fOr (f g : FE) : FE := fun η m => (f η m).bd fun k m => kIf k (.ok (.p (.bool true)) m) (g η m)
def kNot : W → Mu → R W
  | .p (.bool b), m => .ok (.p (.bool (!b))) m
  | _, _ => .bad
def fNot (f : FE) : FE := fun η m => (f η m).bd kNot
def fIte (c f g : FE) : FE := fun η m => (c η m).bd fun k m => kIf k (f η m) (g η m)
theorem se_and {f g : FE} (ha : SE X XR Wx e1 f) (hb : SE X XR Wx (.BoolOp .And (e2 :: es) pos) g) : SE X XR Wx (.BoolOp .And (e1 :: e2 :: es) pos) (fAnd f g) :=
  pe_imp (pe_and ha hb) fun σ H Q h => by
    obtain ⟨B, ρ, η, m, rl, c⟩ := h
    refine ⟨B, ρ, η, m, rl, Cn.bd c rl.rs fun a m1 x H1 ρ1 _ s1 rs1 wa c1 => ?_⟩
    unfold kIf at c1
    split at c1
    · cases wa; exact ⟨true, rfl, by rw [if_pos rfl]; exact ⟨B, ρ1, η, m1, rl.stp s1 rs1, c1⟩⟩
    · cases wa; exact ⟨false, rfl, c1.here rs1 (.bl false)⟩
    · exact c1.elim
theorem se_or {f g : FE} (ha : SE X XR Wx e1 f) (hb : SE X XR Wx (.BoolOp .Or (e2 :: es) pos) g) : SE X XR Wx (.BoolOp .Or (e1 :: e2 :: es) pos) (fOr f g) :=
  pe_imp (pe_or ha hb) fun σ H Q h => by
    obtain ⟨B, ρ, η, m, rl, c⟩ := h
    refine ⟨B, ρ, η, m, rl, Cn.bd c rl.rs fun a m1 x H1 ρ1 _ s1 rs1 wa c1 => ?_⟩
    unfold kIf at c1
    split at c1
    · cases wa; exact ⟨true, rfl, by rw [if_pos rfl]; exact c1.here rs1 (.bl true)⟩
    · cases wa; exact ⟨false, rfl, ⟨B, ρ1, η, m1, rl.stp s1 rs1, c1⟩⟩
    · exact c1.elim
theorem se_not {f : FE} (ha : SE X XR Wx e1 f) : SE X XR Wx (.UnaryOp .Not e1 pos) (fNot f) :=
  pe_imp (pe_not ha) fun σ H Q h => by
    obtain ⟨B, ρ, η, m, rl, c⟩ := h
    refine ⟨B, ρ, η, m, rl, Cn.bd c rl.rs fun a m1 x H1 ρ1 _ s1 rs1 wa c1 => ?_⟩
    unfold kNot at c1
    split at c1
    · cases wa; exact ⟨_, rfl, c1.here rs1 (.bl _)⟩
    · exact c1.elim
/-- the test's way, opened -/
theorem rdIf {c f g : FE} {σ : St} {H : Hp} {Q : VK} (h : tE X XR Wx (fIte c f g) σ H Q) : tT X XR Wx (fB c) σ H (fun b H1 => if b = true then tE X XR Wx f σ H1 Q else tE X XR Wx g σ H1 Q) := by
  obtain ⟨B, ρ, η, m, rl, c0⟩ := h
  refine ⟨B, ρ, η, m, rl, ?_⟩
  unfold fIte at c0
  unfold fB
  cases q : c η m with
  | bad => rw [q] at c0; exact c0.elim
  | exc a b m1 => rw [q] at c0; exact c0
  | ok a m1 =>
    rw [q] at c0
    show Cn _ _ _ _ _ _ _ _ (toB a m1) _
    have c1 : Cn X.w X.K XR (WV X.w X.K) B ρ H (fun c d => Wx c d σ) (kIf a (f η m1) (g η m1)) Q := c0
    unfold toB
    unfold kIf at c1
    split at c1
    · intro b H1 ρ1 s1 rs1 e
      subst e
      rw [if_pos rfl]
      exact ⟨B, ρ1, η, m1, rl.stp s1 rs1, c1.stp rl.rs s1 rs1⟩
    · intro b H1 ρ1 s1 rs1 e
      subst e
      exact ⟨B, ρ1, η, m1, rl.stp s1 rs1, c1.stp rl.rs s1 rs1⟩
    · exact c1.elim
theorem se_ite {c f g : FE} (hc : ST X XR Wx e1 (fB c)) (ha : SE X XR Wx e2 f) (hb : SE X XR Wx e3 g) : SE X XR Wx (.IfExp e1 e2 e3 pos) (fIte c f g) :=
  pe_imp (pe_ifExp hc ha hb) fun σ H Q h => rdIf h
theorem st_not {f : FE} (ha : ST X XR Wx e1 (fB f)) : ST X XR Wx (.UnaryOp .Not e1 pos) (fB (fNot f)) :=
  pt_imp (pt_not ha) fun σ H Q h => by
    obtain ⟨B, ρ, η, m, rl, c⟩ := h
    refine ⟨B, ρ, η, m, rl, ?_⟩
    unfold fB fNot at c
    unfold fB
    cases q : f η m with
    | bad => rw [q] at c; exact c.elim
    | exc a b m1 => rw [q] at c; exact c
    | ok a m1 =>
      rw [q] at c
      have c1 : Cn X.w X.K XR (fun _ _ _ b a => b = a) B ρ H (fun c d => Wx c d σ) ((kNot a m1).bd toB) Q := c
      show Cn _ _ _ _ _ _ _ _ (toB a m1) _
      unfold toB
      unfold kNot at c1
      split at c1
      · intro b H1 ρ1 s1 rs1 e
        subst e
        exact c1 _ H1 ρ1 s1 rs1 rfl
      · exact c1.elim
theorem st_and {f g : FE} (ha : ST X XR Wx e1 (fB f)) (hb : SW X XR Wx (.BoolOp .And (e2 :: es) pos) (fB g)) : SW X XR Wx (.BoolOp .And (e1 :: e2 :: es) pos) (fB (fAnd f g)) :=
  pw_imp (pw_and ha hb) fun σ H Q h => by
    obtain ⟨B, ρ, η, m, rl, c⟩ := h
    refine ⟨B, ρ, η, m, rl, ?_⟩
    unfold fB fAnd at c
    unfold fB
    cases q : f η m with
    | bad => rw [q] at c; exact c.elim
    | exc a b m1 => rw [q] at c; exact c
    | ok a m1 =>
      rw [q] at c
      have c1 : Cn X.w X.K XR (fun _ _ _ b a => b = a) B ρ H (fun c d => Wx c d σ) ((kIf a (g η m1) (.ok (.p (.bool false)) m1)).bd toB) Q := c
      show Cn _ _ _ _ _ _ _ _ (toB a m1) _
      unfold toB
      unfold kIf at c1
      split at c1
      · intro b H1 ρ1 s1 rs1 e
        subst e
        rw [if_pos rfl]
        exact ⟨B, ρ1, η, m1, rl.stp s1 rs1, c1.stp rl.rs s1 rs1⟩
      · intro b H1 ρ1 s1 rs1 e
        subst e
        exact c1 _ H1 ρ1 s1 rs1 rfl
      · exact c1.elim
theorem st_or {f g : FE} (ha : ST X XR Wx e1 (fB f)) (hb : SW X XR Wx (.BoolOp .Or (e2 :: es) pos) (fB g)) : SW X XR Wx (.BoolOp .Or (e1 :: e2 :: es) pos) (fB (fOr f g)) :=
  pw_imp (pw_or ha hb) fun σ H Q h => by
    obtain ⟨B, ρ, η, m, rl, c⟩ := h
    refine ⟨B, ρ, η, m, rl, ?_⟩
    unfold fB fOr at c
    unfold fB
    cases q : f η m with
    | bad => rw [q] at c; exact c.elim
    | exc a b m1 => rw [q] at c; exact c
    | ok a m1 =>
      rw [q] at c
      have c1 : Cn X.w X.K XR (fun _ _ _ b a => b = a) B ρ H (fun c d => Wx c d σ) ((kIf a (.ok (.p (.bool true)) m1) (g η m1)).bd toB) Q := c
      show Cn _ _ _ _ _ _ _ _ (toB a m1) _
      unfold toB
      unfold kIf at c1
      split at c1
      · intro b H1 ρ1 s1 rs1 e
        subst e
        exact c1 _ H1 ρ1 s1 rs1 rfl
      · intro b H1 ρ1 s1 rs1 e
        subst e
        exact ⟨B, ρ1, η, m1, rl.stp s1 rs1, c1.stp rl.rs s1 rs1⟩
      · exact c1.elim
theorem st_and1 {f : FE} (ha : ST X XR Wx e1 (fB f)) : SW X XR Wx (.BoolOp .And [e1] pos) (fB f) := pw_and1 ha
theorem st_or1 {f : FE} (ha : ST X XR Wx e1 (fB f)) : SW X XR Wx (.BoolOp .Or [e1] pos) (fB f) := pw_or1 ha
theorem se_one {f : FE} {op} (ha : SE X XR Wx e1 f) : SE X XR Wx (.BoolOp op [e1] pos) f := pe_one ha
def fNil : FA := fun _ m => .ok [] m
def fCons (f : FE) (g : FA) : FA := fun η m => (f η m).bd fun a m => (g η m).bd fun l m => .ok (a :: l) m
theorem Paired.wv {w : World} {K : PySem.W.Frag} {B : Addr → Prop} {ρ ρ' : List Addr} {H H' : Hp} {m : Mu} (x : Stp ρ H ρ' H') (r : RS w K B ρ H m) {vs : List V} {us : List W} (h : Paired (WV w K B ρ H) vs us) : Paired (WV w K B ρ' H') vs us := Paired.imp' (fun _ _ q => q.stp x r) h
theorem sa_nil : SA X XR Wx [] fNil := pa_imp pa_nil fun σ H Q ⟨B, ρ, η, m, rl, c⟩ => c.here rl.rs .nil
theorem sa_cons {f : FE} {g : FA} (ha : SE X XR Wx e f) (hr : SA X XR Wx es g) (hs : starEach (e :: es) X.env = (false, eval e X.env) :: starEach es X.env) : SA X XR Wx (e :: es) (fCons f g) :=
  pa_imp (pa_cons ha hr hs) fun σ H Q ⟨B, ρ, η, m, rl, c⟩ => by
    refine ⟨B, ρ, η, m, rl, Cn.bd c rl.rs fun a m1 x H1 ρ1 _ s1 rs1 wa c1 => ?_⟩
    have rl1 := rl.stp s1 rs1
    refine ⟨B, ρ1, η, m1, rl1, Cn.bd c1 rs1 fun l m2 y H2 ρ2 _ s2 rs2 wb c2 => ?_⟩
    exact c2.here rs2 (.cons (wa.stp s2 rs1) wb)
def up {α β : Type} (o : Option α) (m : Mu) (k : α → R β) : R β := match o with
  | some a => k a
  | none => .bad
/-- (a, b, ..) of data -/
def fTup (g : FA) : FE := fun η m => (g η m).bd fun l m => up (pures l) m fun ds => if l.length ≤ ln then .ok (.p (.tuple ds)) m else .bad
def fLst (g : FA) : FE := fun η m => (g η m).bd fun l m => up (pures l) m fun ds => if l.length ≤ ln then .ok (.p (.list ds)) m else .bad
/-- [a, b, ..] that may be changed later -/
def fLstM (g : FA) : FE := fun η m => (g η m).bd fun l m => if l.length ≤ ln then .ok (.r m.length) (m ++ [.lst l]) else .bad
/-- what comes to the store -/
theorem RS.add {w : World} {K : PySem.W.Frag} {B : Addr → Prop} {ρ : List Addr} {H : Hp} {m : Mu} {p : Addr} {o : HO} {ob : O} (rs : RS w K B ρ H m) (hp : H p = none) (h : ObR w K B (ρ ++ [p]) (upd H p o) p ob) :
    RS w K B (ρ ++ [p]) (upd H p o) (m ++ [ob]) ∧ Stp ρ H (ρ ++ [p]) (upd H p o) := by
  have s : Stp ρ H (ρ ++ [p]) (upd H p o) := ⟨⟨[p], rfl, fun a ha => by
    have e : a = p := by simpa using ha
    rw [e]; exact hp⟩, fun a u e _ => upd_keep hp a u e⟩
  have np : p ∉ ρ := fun z => rs.alive z hp
  refine ⟨⟨?_, by simp [rs.len], fun i a u ha hu => ?_, fun a h => ?_⟩, s⟩
  · rw [List.nodup_append]
    exact ⟨rs.nd, by simp, fun a ha b hb e => by
      have e2 : b = p := by simpa using hb
      rw [e, e2] at ha; exact np ha⟩
  · by_cases hi : i < ρ.length
    · rw [List.getElem?_append_left hi] at ha
      rw [List.getElem?_append_left (by rw [← rs.len]; exact hi)] at hu
      have q := rs.at_ i a u ha hu
      have na : a ≠ p := fun z => by rw [z] at ha; exact np (List.mem_of_getElem? ha)
      cases u with
      | lst ws =>
        obtain ⟨xs, e, l, pr⟩ := q
        exact ⟨xs, by rw [upd_ne na]; exact e, l, Paired.wv s rs pr⟩
      | dic ks =>
        obtain ⟨es, ep, e, y, l, o, pr⟩ := q
        exact ⟨es, ep, by rw [upd_ne na]; exact e, y, l, o, Paired.imp' (fun _ _ q => q.stp s rs) pr⟩
    · have hi' : i = ρ.length := by
        have := (List.getElem?_eq_some_iff.mp ha).1
        rw [List.length_append, List.length_singleton] at this
        omega
      subst hi'
      rw [List.getElem?_append_right (Nat.le_refl _)] at ha
      rw [rs.len, List.getElem?_append_right (Nat.le_refl _)] at hu
      simp at ha hu
      subst ha hu
      exact h
  · obtain ⟨z1, z2⟩ := rs.bt a h
    have na : a ≠ p := fun z => by rw [z] at z1; exact z1 hp
    exact ⟨by rw [upd_ne na]; exact z1, fun z => (List.mem_append.mp z).elim z2 fun z => na (by simpa using z)⟩
theorem se_tup {g : FA} {x1} (h : SA X XR Wx es g) : SE X XR Wx (.Tuple es x1 pos) (fTup g) :=
  pe_imp (pe_tupN h) fun σ H Q ⟨B, ρ, η, m, rl, c⟩ => by
    refine ⟨B, ρ, η, m, rl, Cn.bd c rl.rs fun l m1 xs H1 ρ1 _ s1 rs1 pr c1 => ?_⟩
    unfold up at c1
    cases q : pures l with
    | none => rw [q] at c1; exact c1.elim
    | some ds =>
      rw [q] at c1
      have hd := pures_ok q pr
      have hl := Paired.length pr
      dsimp only at c1
      split at c1
      · rename_i hz
        rw [← ln_eq] at hz
        exact ⟨by omega, fun p ob hp hb => c1.grown rs1 (upd_keep hp) (new_tup hp hb (by omega) hd)⟩
      · exact c1.elim
theorem se_lst {g : FA} (h : SA X XR Wx es g) : SE X XR Wx (.List es pos) (fLst g) :=
  pe_imp (pe_lst h) fun σ H Q ⟨B, ρ, η, m, rl, c⟩ => by
    refine ⟨B, ρ, η, m, rl, Cn.bd c rl.rs fun l m1 xs H1 ρ1 _ s1 rs1 pr c1 => ?_⟩
    unfold up at c1
    cases q : pures l with
    | none => rw [q] at c1; exact c1.elim
    | some ds =>
      rw [q] at c1
      have hd := pures_ok q pr
      have hl := Paired.length pr
      dsimp only at c1
      split at c1
      · rename_i hz
        rw [← ln_eq] at hz
        exact ⟨by omega, fun p hp => c1.grown rs1 (upd_keep hp) (new_lst rs1 hp (by omega) hd)⟩
      · exact c1.elim
theorem new_mut {w : World} {K : PySem.W.Frag} {B : Addr → Prop} {ρ : List Addr} {H : Hp} {m : Mu} {Xw : Value → Option Addr → Hp → Prop} {p : Addr} {l : List W} {xs : List V} {Q : VK} (rs : RS w K B ρ H m) (hp : H p = none) (hz : xs.length ≤ sizeLine) (pr : Paired (WV w K B ρ H) xs l)
    (c : Cn w K XR (WV w K) B ρ H Xw (.ok (.r m.length) (m ++ [.lst l])) Q) : Q (.ref p) (upd H p (.lst xs)) := by
  have s0 : Stp ρ H (ρ ++ [p]) (upd H p (.lst xs)) := ⟨⟨[p], rfl, fun a ha => by
    have e : a = p := by simpa using ha
    rw [e]; exact hp⟩, fun a u e _ => upd_keep hp a u e⟩
  obtain ⟨r2, s2⟩ := rs.add (o := .lst xs) (ob := .lst l) hp ⟨xs, upd_same, hz, Paired.wv s0 rs pr⟩
  exact c _ _ _ s2 r2 ⟨p, by rw [← rs.len, List.getElem?_append_right (Nat.le_refl _)]; simp, rfl⟩
theorem se_lstM {g : FA} (h : SA X XR Wx es g) : SE X XR Wx (.List es pos) (fLstM g) :=
  pe_imp (pe_lst h) fun σ H Q ⟨B, ρ, η, m, rl, c⟩ => by
    refine ⟨B, ρ, η, m, rl, Cn.bd c rl.rs fun l m1 xs H1 ρ1 _ s1 rs1 pr c1 => ?_⟩
    have hl := Paired.length pr
    split at c1
    · rename_i hz
      rw [← ln_eq] at hz
      exact ⟨by omega, fun p hp => new_mut rs1 hp (by omega) pr c1⟩
    · exact c1.elim
end
end Pg

namespace Pg
open PySem L2
def noStar : Expr → Bool
  | .Starred _ _ => false
  | _ => true
theorem star_cons {e : Expr} {es : List Expr} {env : PySem.Env} (h : noStar e = true) : starEach (e :: es) env = (false, eval e env) :: starEach es env := by
  cases e <;> first | rfl | cases h
theorem star_all {env : PySem.Env} {pos : Pos} : ∀ {es : List Expr}, es.all noStar = true → (backTo pos (starEach es env)).any (·.1) = false
  | [], _ => rfl
  | e :: es, h => by
    rw [List.all_cons, Bool.and_eq_true] at h
    rw [star_cons h.1]
    show (false || (backTo pos (starEach es env)).any (·.1)) = false
    rw [star_all h.2]
    rfl
def gD1 (g : D → Option D) : W → Mu → R W := fun a m => match view m a with
  | some x => (match g x with
    | some z => .ok (.p z) m
    | none => .bad)
  | none => .bad
def fD1 (g : D → Option D) (f : FE) : FE := fun η m => (f η m).bd (gD1 g)
section
variable {X : Cx} {XR : XRel} {Wx : WX} {e e1 e2 : Expr} {es : List Expr} {pos p : Pos} {x : Str}
theorem gD1_ok {g : D → Option D} {B : Addr → Prop} {ρ : List Addr} {H : Hp} {m : Mu} {Xw : Value → Option Addr → Hp → Prop} {x : V} {a : W} {Q : VK} (rs : RS X.w X.K B ρ H m) (wa : WV X.w X.K B ρ H x a)
    (c : Cn X.w X.K XR (WV X.w X.K) B ρ H Xw (gD1 g a m) Q) : ∃ d z, VV X.w X.K (Fb B ρ) H x d ∧ g d = some z ∧ Cn X.w X.K XR (WV X.w X.K) B ρ H Xw (.ok (.p z) m) Q := by
  unfold gD1 at c
  cases e1 : view m a with
  | none => rw [e1] at c; exact c.elim
  | some d =>
    rw [e1] at c
    cases e3 : g d with
    | none => simp only [e3] at c; exact c.elim
    | some z =>
      simp only [e3] at c
      exact ⟨d, z, view_ok rs wa e1, e3, c⟩
/-- what a rule of one argument must serve -/
def Serves (X : Cx) (XR : XRel) (r : List V → Hp → VK → Prop) (g : D → Option D) : Prop :=
  ∀ B ρ H m (Xw : Value → Option Addr → Hp → Prop) x d z Q, RS X.w X.K B ρ H m → VV X.w X.K (Fb B ρ) H x d → g d = some z → Cn X.w X.K XR (WV X.w X.K) B ρ H Xw (.ok (.p z) m) Q → r [x] H Q
theorem rd1 {f : FE} {g : D → Option D} {r : List V → Hp → VK → Prop} (h : Serves X XR r g) : ∀ σ H Q, tE X XR Wx (fD1 g f) σ H Q → tCB r (tCons (tE X XR Wx f) tNil) σ H Q := by
  rintro σ H Q ⟨B, ρ, η, m, rl, c⟩
  refine ⟨B, ρ, η, m, rl, Cn.bd c rl.rs fun a m1 x H1 ρ1 _ s1 rs1 wa c1 => ?_⟩
  obtain ⟨d, z, h1, h2, c2⟩ := gD1_ok rs1 wa c1
  exact h B ρ1 H1 m1 _ x d z Q rs1 h1 h2 c2
theorem se_blt {id : String} {r : List V → Hp → VK → Prop} {g : D → Option D} {f : FE} (hc : CallR X (.builtin id) r) (hv : bootBuiltins x = some (.builtin id)) (sv : Serves X XR r g) (hg : Gl X x) (hm : X.mg x = none) (ha : SE X XR Wx e f) (ns : noStar e = true)
    (hn : x ≠ "__name__") (hdb : (x == ("__debug__" : Str)) = false) : SE X XR Wx (.Call (.Name x p) [e] [] pos) (fD1 g f) :=
  pe_imp (pe_callB hc hg hm hv (pa_cons ha pa_nil (star_cons ns)) hn hdb (star_cons ns) rfl) (rd1 sv)
theorem se_typ {T : String} {r : List V → Hp → VK → Prop} {g : D → Option D} {f : FE} (hc : CallR X (.type T) r) (hv : bootBuiltins x = some (.type T)) (sv : Serves X XR r g) (hg : Gl X x) (hm : X.mg x = none) (ha : SE X XR Wx e f) (ns : noStar e = true)
    (hn : x ≠ "__name__") (hdb : (x == ("__debug__" : Str)) = false) : SE X XR Wx (.Call (.Name x p) [e] [] pos) (fD1 g f) :=
  pe_imp (pe_callTy hc hg hm hv (pa_cons ha pa_nil (star_cons ns)) hn hdb (star_cons ns) rfl) (rd1 sv)
end
def lenD : D → Option D
  | .list ds => some (.int ds.length)
  | .tuple ds => some (.int ds.length)
  | .dict ks => some (.int ks.length)
  | .str x => if x.length ≤ ln then some (.int x.length) else none
  | _ => none
def intD : D → Option D
  | .int i => some (.int i)
  | .bool b => some (.int (if b then 1 else 0))
  | _ => none
def tupleD : D → Option D
  | .list ds => some (.tuple ds)
  | .tuple ds => some (.tuple ds)
  | _ => none
def listD : D → Option D
  | .list ds => some (.list ds)
  | .tuple ds => some (.list ds)
  | .dict ks => some (.list (ks.map (·.1)))
  | _ => none
def boolsOf : List D → Option (List Bool)
  | [] => some []
  | .bool b :: r => (boolsOf r).map (b :: ·)
  | _ :: _ => none
def intsOf : List D → Option (List Int)
  | [] => some []
  | .int b :: r => (intsOf r).map (b :: ·)
  | _ :: _ => none
def allD : D → Option D
  | .list ds => (boolsOf ds).map fun bs => .bool (bs.all id)
  | _ => none
def anyD : D → Option D
  | .list ds => (boolsOf ds).map fun bs => .bool (bs.any id)
  | _ => none
def sumD : D → Option D
  | .list ds => (intsOf ds).map fun bs => .int bs.sum
  | _ => none
def most : Int → List Int → Int
  | a, [] => a
  | a, b :: r => most (if a < b then b else a) r
def least : Int → List Int → Int
  | a, [] => a
  | a, b :: r => least (if b < a then b else a) r
def maxD : D → Option D
  | .list ds => (match intsOf ds with
    | some (a :: r) => some (.int (most a r))
    | _ => none)
  | _ => none
def minD : D → Option D
  | .list ds => (match intsOf ds with
    | some (a :: r) => some (.int (least a r))
    | _ => none)
  | _ => none
theorem most_ok : ∀ (a : Int) (r : List Int), (most a r = a ∨ most a r ∈ r) ∧ a ≤ most a r ∧ ∀ y ∈ r, y ≤ most a r
  | a, [] => ⟨.inl rfl, Int.le_refl _, fun _ h => nomatch h⟩
  | a, b :: r => by
    obtain ⟨h1, h2, h3⟩ := most_ok (if a < b then b else a) r
    unfold most
    by_cases h : a < b
    · simp only [if_pos h] at h1 h2 h3 ⊢
      refine ⟨h1.elim (fun e => .inr (by rw [e]; simp)) fun e => .inr (List.mem_cons_of_mem _ e), by omega, fun y hy => ?_⟩
      rcases List.mem_cons.mp hy with e | e
      · rw [e]; exact h2
      · exact h3 y e
    · simp only [if_neg h] at h1 h2 h3 ⊢
      refine ⟨h1.elim .inl fun e => .inr (List.mem_cons_of_mem _ e), h2, fun y hy => ?_⟩
      rcases List.mem_cons.mp hy with e | e
      · rw [e]; omega
      · exact h3 y e
theorem least_ok : ∀ (a : Int) (r : List Int), (least a r = a ∨ least a r ∈ r) ∧ least a r ≤ a ∧ ∀ y ∈ r, least a r ≤ y
  | a, [] => ⟨.inl rfl, Int.le_refl _, fun _ h => nomatch h⟩
  | a, b :: r => by
    obtain ⟨h1, h2, h3⟩ := least_ok (if b < a then b else a) r
    unfold least
    by_cases h : b < a
    · simp only [if_pos h] at h1 h2 h3 ⊢
      refine ⟨h1.elim (fun e => .inr (by rw [e]; simp)) fun e => .inr (List.mem_cons_of_mem _ e), by omega, fun y hy => ?_⟩
      rcases List.mem_cons.mp hy with e | e
      · rw [e]; exact h2
      · exact h3 y e
    · simp only [if_neg h] at h1 h2 h3 ⊢
      refine ⟨h1.elim .inl fun e => .inr (List.mem_cons_of_mem _ e), h2, fun y hy => ?_⟩
      rcases List.mem_cons.mp hy with e | e
      · rw [e]; omega
      · exact h3 y e
section
variable {w : World} {K : PySem.W.Frag} {F : Addr → Prop} {H : Hp}
theorem bools_ok : ∀ {ds : List D} {bs : List Bool} {xs : List V}, boolsOf ds = some bs → DVs w K F H xs ds → xs = bs.map V.bl
  | [], bs, xs, h, r => by cases h; cases r; rfl
  | d :: ds, bs, xs, h, r => by
    cases r with
    | cons a r =>
      cases d with
      | bool b =>
        simp only [boolsOf, Option.map_eq_some_iff] at h
        obtain ⟨cs, h1, rfl⟩ := h
        cases a
        rw [bools_ok h1 r]
        rfl
      | _ => simp [boolsOf] at h
theorem ints_ok : ∀ {ds : List D} {bs : List Int} {xs : List V}, intsOf ds = some bs → DVs w K F H xs ds → xs = bs.map V.int
  | [], bs, xs, h, r => by cases h; cases r; rfl
  | d :: ds, bs, xs, h, r => by
    cases r with
    | cons a r =>
      cases d with
      | int b =>
        simp only [intsOf, Option.map_eq_some_iff] at h
        obtain ⟨cs, h1, rfl⟩ := h
        cases a
        rw [ints_ok h1 r]
        rfl
      | _ => simp [intsOf] at h
end
section
variable {X : Cx} {XR : XRel}
def rInt : List V → Hp → VK → Prop := fun xs H Q => (∃ i, xs = [.int i] ∧ Q (.int i) H) ∨ ∃ k, xs = [.bl k] ∧ Q (.int (if k then 1 else 0)) H
theorem sv_int : Serves X XR rInt intD := fun B ρ H m Xw x d z Q rs hx hz c => by
  cases d with
  | int i => cases hz; exact .inl ⟨i, by rw [hx.int], c.here rs (.int _)⟩
  | bool b => cases hz; exact .inr ⟨b, by rw [hx.bl], c.here rs (.int _)⟩
  | _ => simp [intD] at hz
/-- len of a list, a tuple, a text -/
def lenS : D → Option D
  | .dict _ => none
  | d => lenD d
def rLenS (K : PySem.W.Frag) : List V → Hp → VK → Prop := fun xs H Q => (∃ p ys, xs = [.ref p] ∧ (SqL K H p ys ∨ SqT K H p ys) ∧ Q (.int ys.length) H) ∨ ∃ z, xs = [.str z] ∧ z.length ≤ sizeLine ∧ Q (.int z.length) H
theorem call_lenS : CallR X (.builtin "len") (rLenS X.K) := call_len_seq.or call_len_str
theorem sv_lenS : Serves X XR (rLenS X.K) lenS := fun B ρ H m Xw x d z Q rs hx hz c => by
  cases d with
  | list ds =>
    cases hz
    obtain ⟨a, xs, rfl, sx, lx, dx⟩ := hx.list
    refine .inl ⟨a, xs, rfl, .inl sx, ?_⟩
    rw [dx.length]
    exact c.here rs (.int _)
  | tuple ds =>
    cases hz
    obtain ⟨a, xs, rfl, sx, lx, dx⟩ := hx.tup
    refine .inl ⟨a, xs, rfl, .inr sx, ?_⟩
    rw [dx.length]
    exact c.here rs (.int _)
  | str y =>
    simp only [lenS, lenD] at hz
    split at hz
    · rename_i h
      rw [← ln_eq] at h
      cases hz
      exact .inr ⟨y, by rw [hx.str], h, c.here rs (.int _)⟩
    · cases hz
  | _ => simp [lenS, lenD] at hz
/-- list(..) of a list, a tuple -/
def listS : D → Option D
  | .list ds => some (.list ds)
  | .tuple ds => some (.list ds)
  | _ => none
def rLst (K : PySem.W.Frag) : List V → Hp → VK → Prop := fun xs H Q => ∃ p ys, xs = [.ref p] ∧ (SqL K H p ys ∨ SqT K H p ys) ∧ ∀ l, H l = none → Q (.ref l) (upd H l (.lst ys))
theorem sv_list : Serves X XR (rLst X.K) listS := fun B ρ H m Xw x d z Q rs hx hz c => by
  cases d with
  | list ds =>
    cases hz
    obtain ⟨a, xs, rfl, sx, lx, dx⟩ := hx.list
    exact ⟨a, xs, rfl, .inl sx, fun l hl => c.grown rs (upd_keep hl) (new_lst rs hl lx dx)⟩
  | tuple ds =>
    cases hz
    obtain ⟨a, xs, rfl, sx, lx, dx⟩ := hx.tup
    exact ⟨a, xs, rfl, .inr sx, fun l hl => c.grown rs (upd_keep hl) (new_lst rs hl lx dx)⟩
  | _ => simp [listS] at hz
theorem sv_all : Serves X XR (rAll X.K) allD := fun B ρ H m Xw x d z Q rs hx hz c => by
  cases d with
  | list ds =>
    simp only [allD, Option.map_eq_some_iff] at hz
    obtain ⟨bs, h1, rfl⟩ := hz
    obtain ⟨a, xs, rfl, sx, lx, dx⟩ := hx.list
    rw [bools_ok h1 dx] at sx
    exact ⟨a, bs, rfl, sx, c.here rs (.bl _)⟩
  | _ => simp [allD] at hz
theorem sv_any : Serves X XR (rAny X.K) anyD := fun B ρ H m Xw x d z Q rs hx hz c => by
  cases d with
  | list ds =>
    simp only [anyD, Option.map_eq_some_iff] at hz
    obtain ⟨bs, h1, rfl⟩ := hz
    obtain ⟨a, xs, rfl, sx, lx, dx⟩ := hx.list
    rw [bools_ok h1 dx] at sx
    exact ⟨a, bs, rfl, sx, c.here rs (.bl _)⟩
  | _ => simp [anyD] at hz
theorem sv_sum : Serves X XR (rSum X.K) sumD := fun B ρ H m Xw x d z Q rs hx hz c => by
  cases d with
  | list ds =>
    simp only [sumD, Option.map_eq_some_iff] at hz
    obtain ⟨bs, h1, rfl⟩ := hz
    obtain ⟨a, xs, rfl, sx, lx, dx⟩ := hx.list
    rw [ints_ok h1 dx] at sx
    exact ⟨a, bs, rfl, sx, c.here rs (.int _)⟩
  | _ => simp [sumD] at hz
theorem sv_max : Serves X XR (rMax X.K) maxD := fun B ρ H m Xw x d z Q rs hx hz c => by
  cases d with
  | list ds =>
    simp only [maxD] at hz
    split at hz
    · rename_i b r h1
      cases hz
      obtain ⟨a, xs, rfl, sx, lx, dx⟩ := hx.list
      rw [ints_ok h1 dx] at sx
      obtain ⟨m1, m2, m3⟩ := most_ok b r
      refine ⟨a, b :: r, rfl, sx, Nat.zero_lt_succ _, fun y hy hb => ?_⟩
      have e : y = most b r := Int.le_antisymm ((List.mem_cons.mp hy).elim (fun e => by rw [e]; exact m2) (m3 y)) (hb _ (m1.elim (fun e => by rw [e]; simp) (List.mem_cons_of_mem _)))
      rw [e]
      exact c.here rs (.int _)
    · cases hz
  | _ => simp [maxD] at hz
theorem sv_min : Serves X XR (rMin X.K) minD := fun B ρ H m Xw x d z Q rs hx hz c => by
  cases d with
  | list ds =>
    simp only [minD] at hz
    split at hz
    · rename_i b r h1
      cases hz
      obtain ⟨a, xs, rfl, sx, lx, dx⟩ := hx.list
      rw [ints_ok h1 dx] at sx
      obtain ⟨m1, m2, m3⟩ := least_ok b r
      refine ⟨a, b :: r, rfl, sx, Nat.zero_lt_succ _, fun y hy hb => ?_⟩
      have e : y = least b r := Int.le_antisymm (hb _ (m1.elim (fun e => by rw [e]; simp) (List.mem_cons_of_mem _))) ((List.mem_cons.mp hy).elim (fun e => by rw [e]; exact m2) (m3 y))
      rw [e]
      exact c.here rs (.int _)
    · cases hz
  | _ => simp [minD] at hz
theorem sv_tuple : Serves X XR (rTupN X.K) tupleD := fun B ρ H m Xw x d z Q rs hx hz c => by
  cases d with
  | list ds =>
    cases hz
    obtain ⟨a, xs, rfl, sx, lx, dx⟩ := hx.list
    exact ⟨a, xs, rfl, .inl ⟨sx, fun l ob hl hb => c.grown rs (upd_keep hl) (new_tup hl hb lx dx)⟩⟩
  | tuple ds =>
    cases hz
    obtain ⟨a, xs, rfl, nx, lx, dx⟩ := hx.tupN
    exact ⟨a, xs, rfl, .inr ⟨nx.sq, c.here rs (.tup nx lx dx)⟩⟩
  | _ => simp [tupleD] at hz
def gListM : W → Mu → R W
  | .r i, m => (match m[i]? with
    | some (.lst ws) => .ok (.r m.length) (m ++ [.lst ws])
    | _ => .bad)
  | .p (.list ds), m => .ok (.r m.length) (m ++ [.lst (ds.map .p)])
  | .p (.tuple ds), m => .ok (.r m.length) (m ++ [.lst (ds.map .p)])
  | _, _ => .bad
def fListM (f : FE) : FE := fun η m => (f η m).bd gListM
theorem pair_p {w : World} {K : PySem.W.Frag} {B : Addr → Prop} {ρ : List Addr} {H : Hp} : ∀ {ds : List D} {xs : List V}, DVs w K (Fb B ρ) H xs ds → Paired (WV w K B ρ H) xs (ds.map .p)
  | _, _, .nil => .nil
  | _, _, .cons a r => .cons a (pair_p r)
variable {Wx : WX} {e e1 e2 : Expr} {pos p : Pos}
theorem se_listM {f : FE} (hg : Gl X "list") (hm : X.mg "list" = none) (ha : SE X XR Wx e f) (ns : noStar e = true) : SE X XR Wx (.Call (.Name "list" p) [e] [] pos) (fListM f) :=
  pe_imp (pe_callTy call_list_of hg hm (by decide +kernel) (pa_cons ha pa_nil (star_cons ns)) (by decide) (by decide) (star_cons ns) rfl) fun σ H Q ⟨B, ρ, η, m, rl, c⟩ => by
    refine ⟨B, ρ, η, m, rl, Cn.bd c rl.rs fun a m1 x H1 ρ1 _ s1 rs1 wa c1 => ?_⟩
    unfold gListM at c1
    split at c1
    · rename_i i _
      split at c1
      · rename_i ws hi
        obtain ⟨ad, had, rfl⟩ := wa
        obtain ⟨xs, e1, l1, p1⟩ := rs1.at_ i ad _ had hi
        exact ⟨ad, xs, rfl, .inl (.inl (.inl e1)), fun l hl => new_mut rs1 hl l1 p1 c1⟩
      · exact c1.elim
    · obtain ⟨a, xs, rfl, sx, lx, dx⟩ := (VV.dv wa).list
      exact ⟨a, xs, rfl, .inl sx, fun l hl => new_mut rs1 hl lx (pair_p dx) c1⟩
    · obtain ⟨a, xs, rfl, sx, lx, dx⟩ := (VV.dv wa).tup
      exact ⟨a, xs, rfl, .inr sx, fun l hl => new_mut rs1 hl lx (pair_p dx) c1⟩
    · exact c1.elim
def tyD : D → String
  | .none => "NoneType"
  | .bool _ => "bool"
  | .int _ => "int"
  | .str _ => "str"
  | .list _ => "list"
  | .tuple _ => "tuple"
  | .dict _ => "dict"
def isiD (T : String) (d : D) : Option D := match PySem.W.kitOne [] (.type (tyD d)) (.type T) with
  | some b => some (.bool b)
  | none => none
theorem kit_K (K : PySem.W.Frag) (a b : String) : PySem.W.kitOne K (.type a) (.type b) = PySem.W.kitOne [] (.type a) (.type b) := rfl
theorem kit_V {F : Addr → Prop} {pins : List (Addr × Obj)} {σ : St} {H : Hp} {s : Shared} {v : V} {d : D} {u : Value} (I : Inv X pins σ H s) (h : VV X.w X.K F H v d) (r : RelV v u) :
    ∃ P : Heap → Prop, PySem.W.KitX X.K u (.type (tyD d)) P ∧ P s.heap ∧ u ≠ .builtin "__main__.__loader__#opaque" := by
  cases d with
  | none => rw [h.non] at r; cases r; exact ⟨_, PySem.W.kitx_none, True.intro, fun z => nomatch z⟩
  | bool b => rw [h.bl] at r; cases r; exact ⟨_, PySem.W.kitx_bool, True.intro, fun z => nomatch z⟩
  | int i => rw [h.int] at r; obtain ⟨t, rfl⟩ := r; exact ⟨_, PySem.W.kitx_int, True.intro, fun z => nomatch z⟩
  | str y => rw [h.str] at r; obtain ⟨t, rfl⟩ := r; exact ⟨_, PySem.W.kitx_str, True.intro, fun z => nomatch z⟩
  | list ds =>
    obtain ⟨a, xs, rfl, sx, lx, dx⟩ := h.list
    cases r
    obtain ⟨its, _, ⟨o, n, e, hc, _⟩, _⟩ := I.list sx
    exact ⟨_, PySem.W.kitx_list, ⟨o, e, hc⟩, fun z => nomatch z⟩
  | tuple ds =>
    obtain ⟨a, xs, rfl, sx, lx, dx⟩ := h.tup
    cases r
    obtain ⟨its, _, ⟨o, e, hc, _⟩, _⟩ := I.tuple sx
    exact ⟨_, PySem.W.kitx_tuple, ⟨o, e, hc⟩, fun z => nomatch z⟩
  | dict ks =>
    obtain ⟨a, es, rfl, ⟨o, ep, e, hx, _⟩, _⟩ := VV.dict I h
    cases r
    exact ⟨_, PySem.W.kitx_dict, ⟨o, e, hx.1⟩, fun z => nomatch z⟩
theorem se_isi {f : FE} {T : Str} {t : String} (hg : Gl X "isinstance") (hm : X.mg "isinstance" = none) (gT : Gl X T) (mT : X.mg T = none) (bT : bootBuiltins T = some (.type t)) (nT : T ≠ "__name__") (dT : (T == ("__debug__" : Str)) = false) (ha : SE X XR Wx e f) (ns : noStar e = true) {p2 : Pos} :
    SE X XR Wx (.Call (.Name "isinstance" p) [e, .Name T p2] [] pos) (fD1 (isiD t) f) := by
  refine ⟨fun pins s σ H Q I h => ?_⟩
  obtain ⟨B, ρ, η, m, rl, c⟩ := h
  have hT : PE X (.Name T p2) (tC (.ty t)) := pe_bltn gT mT bT rfl nT dT
  refine wpAny_Call_Name_kw (ld_blt I hg hm (by decide +kernel : bootBuiltins "isinstance" = some (.builtin "isinstance")) ?_)
  refine PyProof.Rows.callWith_builtin1 (thn ((pa_cons ha (pa_cons hT pa_nil (star_cons rfl)) (star_cons ns)).run pos pins s σ H (fun vs H' => ∃ F x d b, vs = [x, .ty t] ∧ VV X.w X.K F H' x d ∧ PySem.W.kitOne [] (.type (tyD d)) (.type t) = some b ∧ Q (.bl b) H') I ?_) fun us s1 ⟨vs, H1, I1, r1, q1⟩ => ?_) (star_cons ns) rfl
  · refine ⟨B, ρ, η, m, rl, Cn.bd c rl.rs fun a m1 x H1 ρ1 _ s1 rs1 wa c1 => ?_⟩
    obtain ⟨d, z, h1, h2, c2⟩ := gD1_ok rs1 wa c1
    unfold isiD at h2
    cases q : PySem.W.kitOne [] (.type (tyD d)) (.type t) with
    | none => rw [q] at h2; cases h2
    | some b =>
      rw [q] at h2
      cases h2
      exact ⟨_, x, d, b, rfl, h1, q, c2.here rs1 (.bl b)⟩
  · obtain ⟨F, x, d, b, rfl, hv, hk, q⟩ := q1
    cases r1 with
    | cons ru rr =>
      cases rr with
      | cons rt rr =>
        cases rr
        cases rt
        obtain ⟨P, Z, pp, hx⟩ := kit_V I1 hv ru
        exact PySem.W.kia_one Z I1.kIn pp (by rw [kit_K]; exact hk) hx fun tk => ⟨.bl b, H1, I1.tok tk, rfl, q⟩
end
end Pg

namespace Pg
open PySem L2
/-- v[i] -/
def gIx : W → W → Mu → R W := fun a b m => match b with
  | .r _ => .bad
  | .p i => (match a with
    | .p (.list ds) => (match i with
      | .int j => (match atI ds j with | some d => .ok (.p d) m | none => .bad)
      | _ => .bad)
    | .p (.tuple ds) => (match i with
      | .int j => (match atI ds j with | some d => .ok (.p d) m | none => .bad)
      | _ => .bad)
    | .p (.str x) => (match i with
      | .int j => if x.length ≤ ln then (match atI x.cps.toList j with | some c => .ok (.p (.str ⟨#[c]⟩)) m | none => .bad) else .bad
      | _ => .bad)
    | .p (.dict ks) => (match dkey i with
      | some k => if sortOk ks i = true then (match findK ks k with | some c => .ok (.p c) m | none => .bad) else .bad
      | none => .bad)
    | .r n => (match m[n]? with
      | some (.lst ws) => (match i with
        | .int j => (match atI ws j with | some u => .ok u m | none => .bad)
        | _ => .bad)
      | some (.dic ks) => (match dkey i with
        | some k => if sortOk ks i = true then (match findK ks k with | some c => .ok c m | none => .bad) else .bad
        | none => .bad)
      | none => .bad)
    | .p _ => .bad)
theorem paired_get {α β : Type} {F : α → β → Prop} : ∀ {xs : List α} {ys : List β} {j : Nat} {y : β}, Paired F xs ys → ys[j]? = some y → ∃ x, xs[j]? = some x ∧ F x y
  | _, _, _, _, .nil, e => by simp at e
  | _, _, 0, _, .cons a r, e => by
    have := Option.some.inj e
    subst this
    exact ⟨_, rfl, a⟩
  | _, _, j + 1, _, .cons a r, e => paired_get (j := j) r (by simpa using e)
theorem paired_atI {α β : Type} {F : α → β → Prop} {xs : List α} {ys : List β} {j : Int} {y : β} (p : Paired F xs ys) (h : atI ys j = some y) : ∃ x, atI xs j = some x ∧ F x y := by
  unfold atI at h ⊢
  rw [Paired.length p]
  cases q : ixN ys.length j with
  | none => rw [q] at h; cases h
  | some k => rw [q] at h; exact paired_get p h
theorem DVs.pair {w : World} {K : PySem.W.Frag} {F : Addr → Prop} {H : Hp} : ∀ {xs : List V} {ds : List D}, DVs w K F H xs ds → Paired (DV w K F H) xs ds
  | _, _, .nil => .nil
  | _, _, .cons a r => .cons a (DVs.pair r)
theorem DVs.of {w : World} {K : PySem.W.Frag} {F : Addr → Prop} {H : Hp} : ∀ {xs : List V} {ds : List D}, Paired (DV w K F H) xs ds → DVs w K F H xs ds
  | _, _, .nil => .nil
  | _, _, .cons a r => .cons a (DVs.of r)
section
variable {X : Cx} {XR : XRel} {Wx : WX} {e e1 e2 : Expr} {es : List Expr} {pos p2 : Pos}
def rIxD (X : Cx) : R2 := fun x y H Q => ∃ (a : Addr) (es : List DictEntry) (β : Type) (val : V → β → Prop) (F F' : Addr → Prop) (ks : List (D × β)) (d : D) (k : NestedKey) (c : β),
  x = .ref a ∧ DF X F H a es val ks ∧ DV X.w X.K F' H y d ∧ dkey d = some k ∧ sortOk ks d = true ∧ findK ks k = some c ∧ ∀ z, val z c → Q z H
theorem ix_dict (hu : X.A.units + 80 < cLine) : IxR X (rIxD X) := by
  intro value slice pins s σ H x y v u Q I rx ry h hs
  obtain ⟨a, es, β, val, F, F', ks, d, k, c, rfl, f, dv, hk, so, hf, q⟩ := h
  cases rx
  exact PyProof.Rows.tail_any (f.typ I) slot_dict_getitem.lookup (f.get hu I dv ry hk so hf fun z z' t rz vz => ⟨z, H, I.tok t, rz, q z vz⟩) hs
def rIxA (X : Cx) : R2 := fun x y H Q => rIx X.K x y H Q ∨ rIxD X x y H Q
theorem ix_any (hu : X.A.units + 80 < cLine) : IxR X (rIxA X) := ix_seq.or (ix_dict hu)
theorem ix_ok {B : Addr → Prop} {ρ : List Addr} {H : Hp} {m : Mu} {Xw : Value → Option Addr → Hp → Prop} {x y : V} {a b : W} {Q : VK} (rs : RS X.w X.K B ρ H m) (wa : WV X.w X.K B ρ H x a) (wb : WV X.w X.K B ρ H y b)
    (c : Cn X.w X.K XR (WV X.w X.K) B ρ H Xw (gIx a b m) Q) : rIxA X x y H Q := by
  unfold gIx at c
  split at c
  · exact c.elim
  · rename_i i
    split at c
    · rename_i ds
      split at c
      · rename_i j
        split at c
        · rename_i d hd
          obtain ⟨a, xs, rfl, sx, lx, dx⟩ := (VV.dv wa).list
          obtain ⟨v, hv, dv⟩ := paired_atI dx.pair hd
          rw [(VV.dv wb).int]
          exact .inl (.inl ⟨a, xs, j, v, rfl, rfl, sx, hv, c.here rs dv⟩)
        · exact c.elim
      · exact c.elim
    · rename_i ds
      split at c
      · rename_i j
        split at c
        · rename_i d hd
          obtain ⟨a, xs, rfl, sx, lx, dx⟩ := (VV.dv wa).tup
          obtain ⟨v, hv, dv⟩ := paired_atI dx.pair hd
          rw [(VV.dv wb).int]
          exact .inl (.inr (.inl ⟨a, xs, j, v, rfl, rfl, sx, hv, c.here rs dv⟩))
        · exact c.elim
      · exact c.elim
    · rename_i z
      split at c
      · rename_i j
        split at c
        · rename_i hl
          rw [← ln_eq] at hl
          split at c
          · rename_i cc hd
            rw [(VV.dv wb).int, (VV.dv wa).str]
            exact .inl (.inr (.inr ⟨z, j, cc, rfl, rfl, hl, hd, c.here rs (.str _)⟩))
          · exact c.elim
        · exact c.elim
      · exact c.elim
    · rename_i ks
      split at c
      · rename_i k hk
        split at c
        · rename_i so
          split at c
          · rename_i cc hf
            obtain ⟨a, es, rfl, f⟩ := (VV.dv wa).df
            exact .inr ⟨a, es, _, _, _, _, ks, i, k, cc, rfl, f, wb, hk, so, hf, fun z vz => c.here rs vz⟩
          · exact c.elim
        · exact c.elim
      · exact c.elim
    · rename_i n
      obtain ⟨ad, had, rfl⟩ := wa
      split at c
      · rename_i ws hi
        split at c
        · rename_i j
          split at c
          · rename_i u hu
            obtain ⟨xs, e1, l1, p1⟩ := rs.at_ n ad _ had hi
            obtain ⟨v, hv, wv⟩ := paired_atI p1 hu
            rw [(VV.dv wb).int]
            exact .inl (.inl ⟨ad, xs, j, v, rfl, rfl, .inl (.inl e1), hv, c.here rs wv⟩)
          · exact c.elim
        · exact c.elim
      · rename_i ks hi
        split at c
        · rename_i k hk
          split at c
          · rename_i so
            split at c
            · rename_i cc hf
              obtain ⟨es, ep, e1, f⟩ := RS.df (X := X) rs had hi
              exact .inr ⟨ad, es, _, _, _, _, ks, i, k, cc, rfl, f, wb, hk, so, hf, fun z vz => c.here rs vz⟩
            · exact c.elim
          · exact c.elim
        · exact c.elim
      · exact c.elim
    · exact c.elim
def plainIx : Expr → Bool
  | .Slice _ _ _ _ => false
  | .Tuple _ _ _ => false
  | _ => true
theorem plain_ix {b : Expr} (h : plainIx b = true) : PlainIx b := by
  cases b <;> first | (intro o i; rfl) | cases h
theorem se_ix {f g : FE} (hu : X.A.units + 80 < cLine) (ha : SE X XR Wx e1 f) (hb : SE X XR Wx e2 g) (hp : plainIx e2 = true) : SE X XR Wx (.Subscript e1 e2 pos) (fB2 f g gIx) :=
  pe_imp (pe_ix (ix_any hu) ha hb (plain_ix hp)) (rd2 fun B ρ H m σ η x y a b Q rl wa wb c => ix_ok rl.rs wa wb c)
def cutD {α : Type} (xs : List α) (lo hi : Option Int) : List α := (xs.drop (HT.sIx xs.length 0 lo)).take (HT.sIx xs.length xs.length hi - HT.sIx xs.length 0 lo)
end
def sliceD (lo hi : Option Int) : D → Option D
  | .list ds => some (.list (cutD ds lo hi))
  | .tuple ds => some (.tuple (cutD ds lo hi))
  | .str x => if x.length ≤ ln then some (.str (cutS x lo hi)) else none
  | _ => none
abbrev FO := Env → Mu → R (Option Int)
def oNone : FO := fun _ m => .ok none m
def gInt : W → Mu → R (Option Int)
  | .p (.int i), m => .ok (some i) m
  | _, _ => .bad
def oSome (f : FE) : FO := fun η m => (f η m).bd gInt
def gSl (a : W) (l u : Option Int) : Mu → R W := fun m => match view m a with
  | some d => (match sliceD l u d with
    | some z => .ok (.p z) m
    | none => .bad)
  | none => .bad
def fSlice (f : FE) (lo hi : FO) : FE := fun η m => (f η m).bd fun a m => (lo η m).bd fun l m => (hi η m).bd fun u m => gSl a l u m
section
variable {X : Cx} {XR : XRel} {Wx : WX} {e e1 e2 : Expr} {lo hi : Option Expr} {es : List Expr} {pos p2 : Pos}
def tO (X : Cx) (XR : XRel) (Wx : WX) (f : FO) : TO := fun σ H Q => ∃ B ρ η m, Rel X.w X.K B ρ σ H η m ∧ Cn X.w X.K XR (fun _ _ _ b a => b = a) B ρ H (fun c d => Wx c d σ) (f η m) Q
abbrev SO (X : Cx) (XR : XRel) (Wx : WX) (e : Option Expr) (f : FO) : Prop := PO X e (tO X XR Wx f)
theorem po_imp {e : Option Expr} {t t' : TO} (h : PO X e t) (i : ∀ σ H Q, t' σ H Q → t σ H Q) : PO X e t' := ⟨fun p s σ H Q I x => h.run p s σ H Q I (i _ _ _ x)⟩
theorem so_none : SO X XR Wx none oNone := po_imp po_none fun σ H Q ⟨B, ρ, η, m, rl, c⟩ => c.here rl.rs rfl
theorem so_some {f : FE} (h : SE X XR Wx e f) : SO X XR Wx (some e) (oSome f) := po_imp (po_some h) fun σ H Q ⟨B, ρ, η, m, rl, c⟩ => by
  refine ⟨B, ρ, η, m, rl, Cn.bd c rl.rs fun a m1 x H1 ρ1 _ s1 rs1 wa c1 => ?_⟩
  unfold gInt at c1
  split at c1
  · rename_i i _
    exact ⟨i, (VV.dv wa).int, c1.here rs1 rfl⟩
  · exact c1.elim
def rSl (X : Cx) : V → Option Int → Option Int → Hp → VK → Prop := fun x l u H Q => rSlL X.K x l u H Q ∨ rSlN X.K x l u H Q ∨ rSlS x l u H Q
theorem sl_any : SlR X (rSl X) := sl_list.or (sl_tupN.or sl_str)
theorem cut_all {α : Type} (xs : List α) (l u : Option Int) (h : HT.sIx xs.length 0 l = 0 ∧ HT.sIx xs.length xs.length u = xs.length) : cutD xs l u = xs := by
  unfold cutD
  rw [h.1, h.2]
  simp
theorem se_slice {f : FE} {l u : FO} (he : SE X XR Wx e f) (hl : SO X XR Wx lo l) (hu : SO X XR Wx hi u) : SE X XR Wx (.Subscript e (.Slice lo hi none p2) pos) (fSlice f l u) :=
  pe_imp (pe_slice sl_any he hl hu) fun σ H Q ⟨B, ρ, η, m, rl, c⟩ => by
    refine ⟨B, ρ, η, m, rl, Cn.bd c rl.rs fun a m1 x H1 ρ1 _ s1 rs1 wa c1 => ?_⟩
    have rl1 := rl.stp s1 rs1
    refine ⟨B, ρ1, η, m1, rl1, Cn.bd c1 rs1 fun li m2 lv H2 ρ2 _ s2 rs2 el c2 => ?_⟩
    have rl2 := rl1.stp s2 rs2
    refine ⟨B, ρ2, η, m2, rl2, Cn.bd c2 rs2 fun ui m3 uv H3 ρ3 _ s3 rs3 eu c3 => ?_⟩
    subst el eu
    have wa3 := (wa.stp s2 rs1).stp s3 rs2
    unfold gSl at c3
    split at c3
    · rename_i d hd
      have vv := view_ok rs3 wa3 hd
      split at c3
      · rename_i z hz
        unfold sliceD at hz
        split at hz
        · rename_i ds
          cases hz
          obtain ⟨ad, xs, rfl, sx, lx, dx⟩ := vv.list
          refine .inl ⟨ad, xs, rfl, sx, fun p hp => c3.grown rs3 (upd_keep hp) (new_lst rs3 hp (Nat.le_trans (cutV_length xs _ _) lx) ?_)⟩
          unfold cutV cutD
          rw [dx.length]
          exact (dx.drop _).take _
        · rename_i ds
          cases hz
          obtain ⟨ad, xs, rfl, nx, lx, dx⟩ := vv.tupN
          have hlen := dx.length
          refine .inr (.inl ⟨ad, xs, rfl, nx.sq, fun hw => ?_, fun hw p ob hp hb => c3.grown rs3 (upd_keep hp) (new_tup hp hb (Nat.le_trans (cutV_length xs _ _) lx) ?_)⟩)
          · rw [hlen] at hw
            rw [cut_all ds _ _ hw] at c3
            exact c3.here rs3 (.tup nx lx dx)
          · unfold cutV cutD
            rw [hlen]
            exact (dx.drop _).take _
        · split at hz
          · rename_i hl
            rw [← ln_eq] at hl
            cases hz
            exact .inr (.inr ⟨_, vv.str, hl, c3.here rs3 (.str _)⟩)
          · cases hz
        · cases hz
      · exact c3.elim
    · exact c3.elim
def revD : D → Option D
  | .list ds => some (.list ds.reverse)
  | _ => none
theorem DVs.rev {w : World} {K : PySem.W.Frag} {F : Addr → Prop} {H : Hp} : ∀ {xs : List V} {ds : List D}, DVs w K F H xs ds → DVs w K F H xs.reverse ds.reverse
  | _, _, .nil => .nil
  | _, _, .cons a r => by rw [List.reverse_cons, List.reverse_cons]; exact (DVs.rev r).app (.cons a .nil)
theorem se_rev {f : FE} {k : Nat} {p1 p2 p3 pos : Pos} (he : SE X XR Wx e f) : SE X XR Wx (.Subscript e (.Slice none none (some (.UnaryOp .USub (.Constant (.int 1) k p1) p2)) p3) pos) (fD1 revD f) :=
  pe_imp (pe_revL he) fun σ H Q ⟨B, ρ, η, m, rl, c⟩ => by
    refine ⟨B, ρ, η, m, rl, Cn.bd c rl.rs fun a m1 x H1 ρ1 _ s1 rs1 wa c1 => ?_⟩
    obtain ⟨d, z, h1, h2, c2⟩ := gD1_ok rs1 wa c1
    cases d with
    | list ds =>
      cases h2
      obtain ⟨ad, xs, rfl, sx, lx, dx⟩ := h1.list
      exact ⟨ad, xs, rfl, sx, fun p hp => c2.grown rs1 (upd_keep hp) (new_lst rs1 hp (by rw [List.length_reverse]; exact lx) dx.rev)⟩
    | _ => simp [revD] at h2
def seqW (m : Mu) : W → Option (List W)
  | .p (.list ds) => some (ds.map .p)
  | .p (.tuple ds) => some (ds.map .p)
  | .r i => (match m[i]? with
    | some (.lst ws) => some ws
    | _ => none)
  | _ => none
def fStar (f : FE) (g : FA) : FA := fun η m => (f η m).bd fun a m => up (seqW m a) m fun l => (g η m).bd fun r m => .ok (l ++ r) m
theorem seqW_ok {w : World} {K : PySem.W.Frag} {B : Addr → Prop} {ρ : List Addr} {H : Hp} {m : Mu} {x : V} {a : W} {l : List W} (rs : RS w K B ρ H m) (wa : WV w K B ρ H x a) (h : seqW m a = some l) : ∃ p xs, x = .ref p ∧ (SqT K H p xs ∨ SqL K H p xs) ∧ xs.length ≤ sizeLine ∧ Paired (WV w K B ρ H) xs l := by
  unfold seqW at h
  split at h
  · cases h
    obtain ⟨ad, xs, rfl, sx, lx, dx⟩ := (VV.dv wa).list
    exact ⟨ad, xs, rfl, .inr sx, lx, pair_p dx⟩
  · cases h
    obtain ⟨ad, xs, rfl, sx, lx, dx⟩ := (VV.dv wa).tup
    exact ⟨ad, xs, rfl, .inl sx, lx, pair_p dx⟩
  · rename_i i
    split at h
    · rename_i ws hi
      cases h
      obtain ⟨ad, had, rfl⟩ := wa
      obtain ⟨xs, e1, l1, p1⟩ := rs.at_ i ad _ had hi
      exact ⟨ad, xs, rfl, .inr (.inl (.inl e1)), l1, p1⟩
    · cases h
  · cases h
theorem paired_app {α β : Type} {F : α → β → Prop} : ∀ {a : List α} {b : List β} {c : List α} {d : List β}, Paired F a b → Paired F c d → Paired F (a ++ c) (b ++ d)
  | _, _, _, _, .nil, s => s
  | _, _, _, _, .cons h r, s => .cons h (paired_app r s)
theorem sa_star {f : FE} {g : FA} {p : Pos} (ha : SE X XR Wx e f) (hr : SA X XR Wx es g) : SA X XR Wx (.Starred e p :: es) (fStar f g) :=
  pa_imp (StX.pa_star ha hr) fun σ H Q ⟨B, ρ, η, m, rl, c⟩ => by
    refine ⟨B, ρ, η, m, rl, Cn.bd c rl.rs fun a m1 x H1 ρ1 _ s1 rs1 wa c1 => ?_⟩
    have rl1 := rl.stp s1 rs1
    unfold up at c1
    split at c1
    · rename_i l hl
      obtain ⟨ad, xs, rfl, sx, lx, px⟩ := seqW_ok rs1 wa hl
      refine ⟨ad, xs, rfl, sx, B, ρ1, η, m1, rl1, Cn.bd c1 rs1 fun r m2 ys H2 ρ2 _ s2 rs2 py c2 => ?_⟩
      exact c2.here rs2 (paired_app (Paired.wv s2 rs1 px) py)
    · exact c1.elim
end
section
variable {w : World} {K : PySem.W.Frag} {B : Addr → Prop} {ρ : List Addr} {H : Hp} {m : Mu}
/-- what stands at a of the store is another -/
theorem RS.put {n : Nat} {a : Addr} {o : HO} {ob : O} (rs : RS w K B ρ H m) (ha : ρ[n]? = some a) (h : ObR w K B ρ (upd H a o) a ob) : RS w K B ρ (upd H a o) (m.set n ob) ∧ Stp ρ H ρ (upd H a o) := by
  have hm : a ∈ ρ := List.mem_of_getElem? ha
  have s : Stp ρ H ρ (upd H a o) := ⟨⟨[], by simp, by simp⟩, fun b u e nb => by
    have ne : b ≠ a := fun z => nb (by rw [z]; exact hm)
    rw [upd_ne ne]; exact e⟩
  refine ⟨⟨rs.nd, by rw [List.length_set]; exact rs.len, fun i b u hb hu => ?_, fun b hb => ?_⟩, s⟩
  · by_cases hi : i = n
    · subst hi
      rw [ha] at hb; cases hb
      have hl : i < m.length := by rw [← rs.len]; exact (List.getElem?_eq_some_iff.mp ha).1
      rw [List.getElem?_set_self hl] at hu
      cases hu
      exact h
    · rw [List.getElem?_set_ne (Ne.symm hi)] at hu
      have ne : b ≠ a := fun z => by
        subst z
        exact hi ((List.getElem?_inj (List.getElem?_eq_some_iff.mp hb).1 rs.nd).mp (hb.trans ha.symm))
      have q := rs.at_ i b u hb hu
      cases u with
      | lst ws =>
        obtain ⟨xs, e, l, pr⟩ := q
        exact ⟨xs, by rw [upd_ne ne]; exact e, l, Paired.wv s rs pr⟩
      | dic ks =>
        obtain ⟨es, ep, e, y, l, o, pr⟩ := q
        exact ⟨es, ep, by rw [upd_ne ne]; exact e, y, l, o, Paired.imp' (fun _ _ q => q.stp s rs) pr⟩
  · obtain ⟨z1, z2⟩ := rs.bt b hb
    have ne : b ≠ a := fun z => z2 (by rw [z]; exact hm)
    exact ⟨by rw [upd_ne ne]; exact z1, z2⟩
theorem paired_set {α β : Type} {F : α → β → Prop} {x : α} {y : β} (h : F x y) : ∀ {xs : List α} {ys : List β} (i : Nat), Paired F xs ys → Paired F (xs.set i x) (ys.set i y)
  | _, _, _, .nil => .nil
  | _, _, 0, .cons _ t => .cons h t
  | _, _, i + 1, .cons r t => .cons r (paired_set h i t)
end
/-- o[i] = v -/
def putM (m : Mu) (o i v : W) : Option Mu := match o, i with
  | .r n, .p d => (match m[n]? with
    | some (.lst ws) => (match d with
      | .int j => (match ixN ws.length j with
        | some k => some (m.set n (.lst (ws.set k v)))
        | none => none)
      | _ => none)
    | some (.dic ks) => (match dkey d with
      | some k => if sortOk ks d = true ∧ ks.length < ln then some (m.set n (.dic (putKv ks k d v))) else none
      | none => none)
    | none => none)
  | _, _ => none
section
variable {X : Cx} {XR : XRel} {Wx : WX} {e e1 e2 : Expr}
def rSetDD (X : Cx) : TSet := fun o i v H Q => ∃ (a : Addr) (es : List DictEntry) (ep : Nat) (β : Type) (val : V → β → Prop) (F : Addr → Prop) (ks : List (D × β)) (d : D) (k : NestedKey) (c : β),
  o = .ref a ∧ H a = some (dicO a es ep) ∧ DF X F H a es val ks ∧ DV X.w X.K F H i d ∧ dkey d = some k ∧ sortOk ks d = true ∧ val v c ∧
  ∀ es' ep', es'.length = (putKv ks k d c).length → Paired (EnG X.w X.K F H val) es' (putKv ks k d c) → Q (upd H a (dicO a es' ep'))
theorem dict_write {pins : List (Addr × Obj)} {σ : St} {H : Hp} {s : Shared} {h' : Heap} {t' : Nat} {a : Addr} {es es' : List DictEntry} {ep ep' : Nat} {o : Obj} (I : Inv X pins σ H s) (e : H a = some (dicO a es ep)) (hs : Heap.SameBut a s.heap h') (e1 : h'.get? a = some o) (e2 : o.ExactDict) (e3 : o.data = .dict es'.toArray ep') :
    Inv X pins σ (upd H a (dicO a es' ep')) { s with heap := h', toks := t' } := by
  refine I.write (x := a) (e := a) (by rw [e]; exact True.intro) (.inl rfl) (fun b q hb z => (hs.2 b hb).trans z) ⟨o, e1⟩ ?_
  exact ⟨⟨o, e1, e2, e3⟩, ⟨o, e1⟩, fun h1 h2 ⟨o1, q1, q2, q3⟩ k => ⟨o1, k _ q1, q2, q3⟩⟩
theorem set_dictA (hu : X.A.units + 80 < cLine) : PSet X (rSetDD X) := by
  intro pins s σ H o i v ov iv u Q I ro ri rv h
  obtain ⟨a, es, ep, β, val, F, ks, d, k, c, rfl, e, f, dv, hk, so, vz, q⟩ := h
  cases ro
  refine f.set hu I dv ri hk so rv vz fun h' es' o' ep' t e1 e2 e3 p hs => ⟨_, dict_write I e hs e1 e2 e3, q es' ep' (Paired.length p) p⟩
theorem PSet.or {r r' : TSet} (h : PSet X r) (h' : PSet X r') : PSet X (fun o i v H Q => r o i v H Q ∨ r' o i v H Q) := by
  intro pins s σ H o i v ov iv u Q I ro ri rv q
  rcases q with q | q
  · exact h pins s σ H o i v ov iv u Q I ro ri rv q
  · exact h' pins s σ H o i v ov iv u Q I ro ri rv q
def rPut (X : Cx) : TSet := fun o i v H Q => rSetL o i v H Q ∨ rSetDD X o i v H Q
theorem set_any (hu : X.A.units + 80 < cLine) : PSet X (rPut X) := PSet.or set_list (set_dictA hu)
theorem put_ok {B : Addr → Prop} {ρ : List Addr} {H : Hp} {m m' : Mu} {x y z : V} {o i v : W} {Q : Hp → Prop} (rs : RS X.w X.K B ρ H m) (wo : WV X.w X.K B ρ H x o) (wi : WV X.w X.K B ρ H y i) (wv : WV X.w X.K B ρ H z v) (h : putM m o i v = some m')
    (q : ∀ H', Stp ρ H ρ H' → RS X.w X.K B ρ H' m' → Q H') : rPut X x y z H Q := by
  unfold putM at h
  split at h
  · rename_i n d
    obtain ⟨a, ha, rfl⟩ := wo
    split at h
    · rename_i ws hn
      split at h
      · rename_i j
        split at h
        · rename_i k hk
          cases h
          obtain ⟨xs, e, l, p⟩ := rs.at_ n a _ ha hn
          rw [(VV.dv wi).int]
          refine .inl ⟨a, xs, j, k, rfl, rfl, e, by rw [Paired.length p]; exact hk, ?_⟩
          have s0 : Stp ρ H ρ (upd H a (.lst (xs.set k z))) := ⟨⟨[], by simp, by simp⟩, fun b u e nb => by
            rw [upd_ne (fun z => nb (by rw [z]; exact List.mem_of_getElem? ha))]; exact e⟩
          obtain ⟨r2, s2⟩ := rs.put (o := .lst (xs.set k z)) (ob := .lst (ws.set k v)) ha ⟨_, upd_same, by rw [List.length_set]; exact l, Paired.wv s0 rs (paired_set wv k p)⟩
          exact q _ s2 r2
        · cases h
      · cases h
    · rename_i ks hn
      split at h
      · rename_i k hk
        split at h
        · rename_i hc
          cases h
          obtain ⟨es, ep, e, f⟩ := RS.df (X := X) rs ha hn
          refine .inr ⟨a, es, ep, _, _, _, ks, d, k, v, rfl, e, f, wi, hk, hc.1, wv, fun es' ep' hl p => ?_⟩
          have s0 : Stp ρ H ρ (upd H a (dicO a es' ep')) := ⟨⟨[], by simp, by simp⟩, fun b u e nb => by
            rw [upd_ne (fun z => nb (by rw [z]; exact List.mem_of_getElem? ha))]; exact e⟩
          have hle := putKv_le (k := k) (d := d) (c := v) ks
          obtain ⟨r2, s2⟩ := rs.put (o := dicO a es' ep') (ob := .dic (putKv ks k d v)) ha
            ⟨es', ep', upd_same, f.ns, by rw [hl, ln_eq]; have := hc.2; unfold ln at *; omega, putKv_ok f.ok (EnG.key f.ps) hk hc.1, Paired.imp' (fun _ _ (q : EnR X.w X.K B ρ H _ _) => q.stp s0 rs) p⟩
          exact q _ s2 r2
        · cases h
      · cases h
    · cases h
  · cases h
end
end Pg

namespace Pg
open PySem L2
inductive Kd where | l | t | d | s
  deriving DecidableEq
def Kd.nm : Kd → String
  | .l => "list" | .t => "tuple" | .d => "dict" | .s => "str"
def kdW (m : Mu) : W → Option Kd
  | .p (.list _) => some .l
  | .p (.tuple _) => some .t
  | .p (.dict _) => some .d
  | .p (.str _) => some .s
  | .p _ => none
  | .r i => (match m[i]? with
    | some (.lst _) => some .l
    | some (.dic _) => some .d
    | none => none)
section
variable {X : Cx} {XR : XRel} {Wx : WX} {e e1 e2 o : Expr} {es : List Expr} {pos apos cpos : Pos} {name : Str}
def tyN (X : Cx) (x : V) (H : Hp) (k : Kd) : Prop := ∀ pins σ s v, Inv X pins σ H s → RelV x v → s.TypeIs v k.nm ∧ ∀ a, v = .ref a → ∃ ob, s.heap.get? a = some ob ∧ ob.dict = none
theorem WV.ty {B : Addr → Prop} {ρ : List Addr} {H : Hp} {m : Mu} {x : V} {a : W} {k : Kd} (rs : RS X.w X.K B ρ H m) (wa : WV X.w X.K B ρ H x a) (h : kdW m a = some k) : tyN X x H k := by
  intro pins σ s v I r
  have lst : ∀ {p : Addr} {xs : List V}, SqL X.K H p xs → s.TypeIs (.ref p) "list" ∧ ∀ a, Value.ref p = .ref a → ∃ ob, s.heap.get? a = some ob ∧ ob.dict = none := fun {p xs} hq => by
    obtain ⟨its, _, pl, _⟩ := I.list hq
    refine ⟨pl.isList.typeIs, fun a e => ?_⟩
    cases e
    obtain ⟨o, n, e, c, hd, _⟩ := pl
    exact ⟨o, e, hd⟩
  have dct : ∀ {β : Type} {F : Addr → Prop} {p : Addr} {es : List DictEntry} {val : V → β → Prop} {ks : List (D × β)}, DF X F H p es val ks → s.TypeIs (.ref p) "dict" ∧ ∀ a, Value.ref p = .ref a → ∃ ob, s.heap.get? a = some ob ∧ ob.dict = none := fun f => by
    obtain ⟨o, ep, e, hx, _⟩ := f.at_ _ _ _ I
    refine ⟨⟨o, e, hx.1⟩, fun a z => ?_⟩
    cases z
    exact ⟨o, e, hx.2.1⟩
  unfold kdW at h
  split at h
  · cases h
    obtain ⟨a, xs, rfl, sx, lx, dx⟩ := (VV.dv wa).list
    cases r
    exact lst sx
  · cases h
    obtain ⟨a, xs, rfl, nx, lx, dx⟩ := (VV.dv wa).tupN
    cases r
    obtain ⟨its, _, pl, _⟩ := I.tuple nx.sq
    refine ⟨pl.typeIs, fun a z => ?_⟩
    cases z
    exact nx.nodict I
  · cases h
    obtain ⟨a, es, rfl, f⟩ := (VV.dv wa).df
    cases r
    exact dct f
  · cases h
    rw [(VV.dv wa).str] at r
    obtain ⟨t, rfl⟩ := r
    exact ⟨typeIs_str s _ t, fun _ e => nomatch e⟩
  · cases h
  · rename_i i
    obtain ⟨a, ha, rfl⟩ := wa
    cases r
    split at h
    · rename_i ws hi
      cases h
      obtain ⟨xs, e1, l1, p1⟩ := rs.at_ i a _ ha hi
      exact lst (xs := xs) (.inl (.inl e1))
    · rename_i ks hi
      cases h
      obtain ⟨es, ep, e1, f⟩ := RS.df (X := X) rs ha hi
      exact dct f
    · cases h
abbrev MRule := V → List V → Hp → VK → Prop
/-- for each kind that has the method: its function, its rule -/
structure MTab (X : Cx) (name : Str) (Has : Kd → Option String) (r : Kd → MRule) : Prop where
  get : ∀ k id, Has k = some id → PlainAttrs k.nm ∧ Slot k.nm name id ∧ typeOf (.builtin id) = pure (.type "method_descriptor") ∧ MtR X id (r k)
def plainBase : Expr → Bool
  | .Call _ _ _ _ => false
  | _ => true
theorem plain_base {o : Expr} {attr : Str} {env : PySem.Env} (h : plainBase o = true) : attributeBase o attr env (eval o env) = eval o env := by
  cases o <;> first | rfl | cases h
def tM0 (X : Cx) (Has : Kd → Option String) (r : Kd → MRule) (to : TE) : TE := fun σ H Q => to σ H fun x H1 => ∃ k, (Has k).isSome = true ∧ tyN X x H1 k ∧ r k x [] H1 Q
def tM1 (X : Cx) (Has : Kd → Option String) (r : Kd → MRule) (to te : TE) : TE := fun σ H Q => to σ H fun x H1 => ∃ k, (Has k).isSome = true ∧ tyN X x H1 k ∧ te σ H1 fun y H2 => r k x [y] H2 Q
def tM2 (X : Cx) (Has : Kd → Option String) (r : Kd → MRule) (to te tf : TE) : TE := fun σ H Q => to σ H fun x H1 => ∃ k, (Has k).isSome = true ∧ tyN X x H1 k ∧ te σ H1 fun y H2 => tf σ H2 fun z H3 => r k x [y, z] H3 Q
theorem pe_m0 {Has : Kd → Option String} {r : Kd → MRule} {to : TE} (tab : MTab X name Has r) (ho : PE X o to) (pb : plainBase o = true) (hline : (apos.endLine == cpos.line) = true) : PE X (.Call (.Attribute o name apos) [] [] cpos) (tM0 X Has r to) := by
  refine ⟨fun pins s σ H Q I h => ?_⟩
  refine wpAny_Call_method0_late (plain_base pb) hline (thn (ho.run pins s σ H _ I h) fun v s1 ⟨x, H1, I1, r1, k, hk, ty, q1⟩ => ?_)
  obtain ⟨id, hid⟩ := Option.isSome_iff_exists.mp hk
  obtain ⟨pa, slot, hty, hm⟩ := tab.get k id hid
  obtain ⟨h1, h2⟩ := ty pins σ s1 v I1 r1
  exact ⟨k.nm, id, pa, slot, hty, h1, h2, Calls.callWith_builtin rfl (PySem.evalArgs_none (hm pins s1 σ H1 x [] v [] Q I1 r1 .nil q1))⟩
theorem pe_m1 {Has : Kd → Option String} {r : Kd → MRule} {to te : TE} (tab : MTab X name Has r) (ho : PE X o to) (he : PE X e te) (pb : plainBase o = true) (ns : noStar e = true) (hline : (apos.endLine == cpos.line) = true) : PE X (.Call (.Attribute o name apos) [e] [] cpos) (tM1 X Has r to te) := by
  refine ⟨fun pins s σ H Q I h => ?_⟩
  have hs := star_cons (es := []) (env := X.env) ns
  refine wpAny_Call_method_late (plain_base pb) (by rw [hs]; rfl) hline rfl (thn (ho.run pins s σ H _ I h) fun v s1 ⟨x, H1, I1, r1, k, hk, ty, q1⟩ => ?_)
  obtain ⟨id, hid⟩ := Option.isSome_iff_exists.mp hk
  obtain ⟨pa, slot, hty, hm⟩ := tab.get k id hid
  obtain ⟨h1, h2⟩ := ty pins σ s1 v I1 r1
  refine ⟨k.nm, id, pa, slot, hty, h1, h2, ?_⟩
  have hA := (pa_cons he pa_nil hs).run cpos pins s1 σ H1 (fun vs H2 => r k x vs H2 Q) I1 q1
  rw [hs] at hA ⊢
  refine Calls.callWith_builtin rfl (Calls.evalArgs_plain ?_)
  exact thn hA fun us s2 ⟨vs, H2, I2, r2, q2⟩ => hm pins s2 σ H2 x vs v us Q I2 r1 r2 q2
theorem pe_m2 {Has : Kd → Option String} {r : Kd → MRule} {to te tf : TE} (tab : MTab X name Has r) (ho : PE X o to) (he : PE X e te) (hf : PE X e1 tf) (pb : plainBase o = true) (ns : noStar e = true) (ns1 : noStar e1 = true) (hline : (apos.endLine == cpos.line) = true) : PE X (.Call (.Attribute o name apos) [e, e1] [] cpos) (tM2 X Has r to te tf) := by
  refine ⟨fun pins s σ H Q I h => ?_⟩
  have hs1 := star_cons (es := []) (env := X.env) ns1
  have hs := star_cons (es := [e1]) (env := X.env) ns
  refine wpAny_Call_method_late (plain_base pb) (by rw [hs, hs1]; rfl) hline rfl (thn (ho.run pins s σ H _ I h) fun v s1 ⟨x, H1, I1, r1, k, hk, ty, q1⟩ => ?_)
  obtain ⟨id, hid⟩ := Option.isSome_iff_exists.mp hk
  obtain ⟨pa, slot, hty, hm⟩ := tab.get k id hid
  obtain ⟨h1, h2⟩ := ty pins σ s1 v I1 r1
  refine ⟨k.nm, id, pa, slot, hty, h1, h2, ?_⟩
  have hA := (pa_cons he (pa_cons hf pa_nil hs1) hs).run cpos pins s1 σ H1 (fun vs H2 => r k x vs H2 Q) I1 q1
  rw [hs, hs1] at hA ⊢
  refine Calls.callWith_builtin rfl (Calls.evalArgs_plain ?_)
  exact thn hA fun us s2 ⟨vs, H2, I2, r2, q2⟩ => hm pins s2 σ H2 x vs v us Q I2 r1 r2 q2
def kdHas (Has : Kd → Option String) (m : Mu) (a : W) : Option Kd := match kdW m a with
  | some k => (match Has k with
    | some _ => some k
    | none => none)
  | none => none
def fM0 (Has : Kd → Option String) (g : Kd → W → Mu → R W) (f : FE) : FE := fun η m => (f η m).bd fun a m => up (kdHas Has m a) m fun k => g k a m
def fM1 (Has : Kd → Option String) (g : Kd → W → W → Mu → R W) (f f1 : FE) : FE := fun η m => (f η m).bd fun a m => up (kdHas Has m a) m fun k => (f1 η m).bd fun b m => g k a b m
def fM2 (Has : Kd → Option String) (g : Kd → W → W → W → Mu → R W) (f f1 f2 : FE) : FE := fun η m => (f η m).bd fun a m => up (kdHas Has m a) m fun k => (f1 η m).bd fun b m => (f2 η m).bd fun c m => g k a b c m
theorem kdHas_ok {Has : Kd → Option String} {m : Mu} {a : W} {k : Kd} (h : kdHas Has m a = some k) : kdW m a = some k ∧ (Has k).isSome = true := by
  unfold kdHas at h
  cases q : kdW m a with
  | none => rw [q] at h; cases h
  | some j =>
    rw [q] at h
    dsimp only at h
    split at h
    · rename_i z hz
      cases h
      exact ⟨rfl, by rw [hz]; rfl⟩
    · cases h
/-- what a method's rule must serve -/
def MS0 (X : Cx) (XR : XRel) (r : Kd → MRule) (g : Kd → W → Mu → R W) : Prop := ∀ k B ρ H m (Xw : Value → Option Addr → Hp → Prop) x a Q, RS X.w X.K B ρ H m → WV X.w X.K B ρ H x a → Cn X.w X.K XR (WV X.w X.K) B ρ H Xw (g k a m) Q → r k x [] H Q
def MS1 (X : Cx) (XR : XRel) (r : Kd → MRule) (g : Kd → W → W → Mu → R W) : Prop := ∀ k B ρ H m (Xw : Value → Option Addr → Hp → Prop) x y a b Q, RS X.w X.K B ρ H m → WV X.w X.K B ρ H x a → WV X.w X.K B ρ H y b → Cn X.w X.K XR (WV X.w X.K) B ρ H Xw (g k a b m) Q → r k x [y] H Q
def MS2 (X : Cx) (XR : XRel) (r : Kd → MRule) (g : Kd → W → W → W → Mu → R W) : Prop := ∀ k B ρ H m (Xw : Value → Option Addr → Hp → Prop) x y z a b c Q, RS X.w X.K B ρ H m → WV X.w X.K B ρ H x a → WV X.w X.K B ρ H y b → WV X.w X.K B ρ H z c → Cn X.w X.K XR (WV X.w X.K) B ρ H Xw (g k a b c m) Q → r k x [y, z] H Q
theorem se_m0 {Has : Kd → Option String} {r : Kd → MRule} {g : Kd → W → Mu → R W} {f : FE} (tab : MTab X name Has r) (ms : MS0 X XR r g) (ho : SE X XR Wx o f) (pb : plainBase o = true) (hline : (apos.endLine == cpos.line) = true) : SE X XR Wx (.Call (.Attribute o name apos) [] [] cpos) (fM0 Has g f) :=
  pe_imp (pe_m0 tab ho pb hline) fun σ H Q ⟨B, ρ, η, m, rl, c⟩ => by
    refine ⟨B, ρ, η, m, rl, Cn.bd c rl.rs fun a m1 x H1 ρ1 _ s1 rs1 wa c1 => ?_⟩
    unfold up at c1
    split at c1
    · rename_i k hk
      obtain ⟨h1, h2⟩ := kdHas_ok hk
      exact ⟨k, h2, WV.ty rs1 wa h1, ms k _ _ _ _ _ _ _ _ rs1 wa c1⟩
    · exact c1.elim
theorem se_m1 {Has : Kd → Option String} {r : Kd → MRule} {g : Kd → W → W → Mu → R W} {f f1 : FE} (tab : MTab X name Has r) (ms : MS1 X XR r g) (ho : SE X XR Wx o f) (he : SE X XR Wx e f1) (pb : plainBase o = true) (ns : noStar e = true) (hline : (apos.endLine == cpos.line) = true) : SE X XR Wx (.Call (.Attribute o name apos) [e] [] cpos) (fM1 Has g f f1) :=
  pe_imp (pe_m1 tab ho he pb ns hline) fun σ H Q ⟨B, ρ, η, m, rl, c⟩ => by
    refine ⟨B, ρ, η, m, rl, Cn.bd c rl.rs fun a m1 x H1 ρ1 _ s1 rs1 wa c1 => ?_⟩
    have rl1 := rl.stp s1 rs1
    unfold up at c1
    split at c1
    · rename_i k hk
      obtain ⟨h1, h2⟩ := kdHas_ok hk
      refine ⟨k, h2, WV.ty rs1 wa h1, B, ρ1, η, m1, rl1, Cn.bd c1 rs1 fun b m2 y H2 ρ2 _ s2 rs2 wb c2 => ?_⟩
      exact ms k _ _ _ _ _ _ _ _ _ _ rs2 (wa.stp s2 rs1) wb c2
    · exact c1.elim
theorem se_m2 {Has : Kd → Option String} {r : Kd → MRule} {g : Kd → W → W → W → Mu → R W} {f f1 f2 : FE} (tab : MTab X name Has r) (ms : MS2 X XR r g) (ho : SE X XR Wx o f) (he : SE X XR Wx e f1) (he1 : SE X XR Wx e1 f2) (pb : plainBase o = true) (ns : noStar e = true) (ns1 : noStar e1 = true) (hline : (apos.endLine == cpos.line) = true) : SE X XR Wx (.Call (.Attribute o name apos) [e, e1] [] cpos) (fM2 Has g f f1 f2) :=
  pe_imp (pe_m2 tab ho he he1 pb ns ns1 hline) fun σ H Q ⟨B, ρ, η, m, rl, c⟩ => by
    refine ⟨B, ρ, η, m, rl, Cn.bd c rl.rs fun a m1 x H1 ρ1 _ s1 rs1 wa c1 => ?_⟩
    have rl1 := rl.stp s1 rs1
    unfold up at c1
    split at c1
    · rename_i k hk
      obtain ⟨h1, h2⟩ := kdHas_ok hk
      refine ⟨k, h2, WV.ty rs1 wa h1, B, ρ1, η, m1, rl1, Cn.bd c1 rs1 fun b m2 y H2 ρ2 _ s2 rs2 wb c2 => ?_⟩
      have rl2 := rl1.stp s2 rs2
      refine ⟨B, ρ2, η, m2, rl2, Cn.bd c2 rs2 fun d m3 z H3 ρ3 _ s3 rs3 wd c3 => ?_⟩
      exact ms k _ _ _ _ _ _ _ _ _ _ _ _ rs3 ((wa.stp s2 rs1).stp s3 rs2) (wb.stp s3 rs2) wd c3
    · exact c1.elim
def rIdxT (K : PySem.W.Frag) : MRule := fun x xs H Q => ∃ (a : Addr) (y : V) (d : PyData) (ds : List PyData) (j : Nat) (z : PyData), x = V.ref a ∧ xs = [y] ∧ Dp K H (V.ref a) (.tuple ds) ∧ Dp K H y d ∧
  SeqAt.shaped (.tuple ds) = true ∧ SeqAt.shaped d = true ∧ ds[j]? = some z ∧ PyData.eqv z d = true ∧ (∀ (m : Nat) (z' : PyData), m < j → ds[m]? = some z' → PyData.eqv z' d = false) ∧ Q (.int (j : Nat)) H
theorem mt_indexT (hu : X.A.units + 80 < cLine) : MtR X "tuple.index" (rIdxT X.K) := by
  intro pins s σ H x xs v us Q I rx rxs h
  obtain ⟨a, y, d, ds, j, z, rfl, rfl, hl, hy, sl, sd, hz, hzj, hno, q⟩ := h
  cases rx
  cases rxs with
  | cons ry rt =>
    rename_i uy ut
    cases rt
    obtain ⟨bs, r1⟩ := Dp.reads I d y uy hy ry
    have hxs : PyData.canLayAll0 ds = true := by simpa [PyData.canLay0] using SeqAt.canLay_of_shaped sl
    have hroom : X.A.units + 1 + min (PyData.depthAll ds) d.depth < cLine := room_in (n := 0) hu sd
    cases hl with
    | tup hs ha =>
      obtain ⟨its, rv, ⟨⟨cls, dd, data, sls⟩, ho, hc, n, hdt⟩, hlen⟩ := I.tuple hs
      simp only at hc hdt
      subst hc hdt
      obtain ⟨as, h4⟩ := Dp.readsAll I ds _ its ha rv
      have hn : its.length = ds.length := SeqAt.ReadsAll.length ds its as h4
      have hmap : its.map (SeqAt.readOf s.heap) = ds := SeqAt.readsAll_map ds its as hxs h4
      have hvl := rv.length
      have hsl := sizeLine_eq
      obtain ⟨hjd, _⟩ := List.getElem?_eq_some_iff.mp hz
      have hjl : j < its.length := by omega
      have hj : j < its.toArray.size := by simpa using hjl
      have at_ : ∀ (m : Nat) (hm : m < its.toArray.size) (z' : PyData), ds[m]? = some z' → SeqAt.readOf s.heap its.toArray[m] = z' := by
        intro m hm z' hz'
        have hml : m < its.length := by simpa using hm
        rw [← hmap, List.getElem?_map, List.getElem?_eq_getElem hml] at hz'
        have e1 : SeqAt.readOf s.heap its[m] = z' := Option.some.inj (show some (SeqAt.readOf s.heap its[m]) = some z' from hz')
        simpa using e1
      refine call_meets PySem.F.slot_tuple_index ⟨_, ho, rfl⟩ PySem.F.entry_tuple_index (PySem.F.args_tuple_index_2 _ _)
        (TI.tuple_indexAt a its.toArray n dd sls uy (fun u => PyData.eqv (SeqAt.readOf s.heap u) d) j hj ?_ ?_) ⟨ho, SeqAt.items_eqAt (vs := its.toArray) (show ReadsAll s.heap its.toArray.toList ds as from h4) r1 hxs (SeqAt.canLay_of_shaped sd) hroom, ?_⟩
      · show PyData.eqv (SeqAt.readOf s.heap its.toArray[j]) d = true
        rw [at_ j hj z hz]
        exact hzj
      · intro m hm hmj
        have hmd : m < ds.length := by omega
        have hz' : ds[m]? = some ds[m] := List.getElem?_eq_getElem hmd
        show PyData.eqv (SeqAt.readOf s.heap its.toArray[m]) d = false
        rw [at_ m hm _ hz']
        exact hno m _ hmj hz'
      · exact ⟨.int (j : Nat), H, I.tok _, ⟨_, rfl⟩, q⟩
def hasIdx : Kd → Option String
  | .l => some "list.index"
  | .t => some "tuple.index"
  | _ => none
def rIdx (X : Cx) : Kd → MRule
  | .l => rIndexD X.K
  | .t => rIdxT X.K
  | _ => fun _ _ _ _ => False
theorem tab_index (hu : X.A.units + 80 < cLine) : MTab X "index" hasIdx (rIdx X) := ⟨fun k id h => by
  cases k with
  | l => cases h; exact ⟨F.plainAttrs_list, F.slot_list_index, by show builtinType _ = _; rw [builtinType_eq_fast]; kernel_rfl, mt_indexD (by omega)⟩
  | t => cases h; exact ⟨F.plainAttrs_tuple, F.slot_tuple_index, by show builtinType _ = _; rw [builtinType_eq_fast]; kernel_rfl, mt_indexT hu⟩
  | _ => cases h⟩
def indexIn (x : D) : List D → Nat → Option Nat
  | [], _ => none
  | z :: r, n => if PyData.eqv z x = true then some n else indexIn x r (n + 1)
theorem indexIn_ok {x : D} : ∀ {ds : List D} {n j : Nat}, indexIn x ds n = some j → ∃ i z, j = n + i ∧ ds[i]? = some z ∧ PyData.eqv z x = true ∧ ∀ (m : Nat) (z' : D), m < i → ds[m]? = some z' → PyData.eqv z' x = false
  | [], n, j, h => by cases h
  | z :: r, n, j, h => by
    unfold indexIn at h
    split at h
    · rename_i hz
      cases h
      exact ⟨0, z, rfl, rfl, hz, fun m _ hm => absurd hm (Nat.not_lt_zero _)⟩
    · rename_i hz
      obtain ⟨i, y, e1, e2, e3, e4⟩ := indexIn_ok h
      refine ⟨i + 1, y, by omega, by simpa using e2, e3, fun m z' hm hz' => ?_⟩
      cases m with
      | zero =>
        have : z = z' := Option.some.inj hz'
        rw [← this]
        simpa using hz
      | succ m => exact e4 m z' (by omega) (by simpa using hz')
def indexD : D → D → Option D
  | .list ds, x => if SeqAt.shaped (.list ds) && SeqAt.shaped x then (match indexIn x ds 0 with | some j => some (.int (j : Nat)) | none => none) else none
  | .tuple ds, x => if SeqAt.shaped (.tuple ds) && SeqAt.shaped x then (match indexIn x ds 0 with | some j => some (.int (j : Nat)) | none => none) else none
  | _, _ => none
def kOfD : D → Kd
  | .list _ => .l | .tuple _ => .t | .dict _ => .d | _ => .s
def gIdx : Kd → W → W → Mu → R W := fun k a b m => match view m a, view m b with
  | some x, some y => if kOfD x = k then (match indexD x y with
    | some z => .ok (.p z) m
    | none => .bad) else .bad
  | _, _ => .bad
theorem ms_index : MS1 X XR (rIdx X) gIdx := fun k B ρ H m Xw x y a b Q rs wa wb c => by
  unfold gIdx at c
  split at c
  · rename_i d e h1 h2
    have v1 := view_ok rs wa h1
    have v2 := view_ok rs wb h2
    split at c
    · rename_i hk
      subst hk
      split at c
      · rename_i z hz
        cases d with
        | list ds =>
          simp only [indexD] at hz
          split at hz
          · rename_i hs
            rw [Bool.and_eq_true] at hs
            split at hz
            · rename_i j hj
              cases hz
              obtain ⟨i, z', e1, e2, e3, e4⟩ := indexIn_ok hj
              rw [Nat.zero_add] at e1
              subst e1
              obtain ⟨ad, xs, rfl, _⟩ := v1.list
              exact ⟨ad, y, e, ds, _, z', rfl, rfl, v1.dp (SeqAt.canLay_of_shaped hs.1), v2.dp (SeqAt.canLay_of_shaped hs.2), hs.1, hs.2, e2, e3, e4, c.here rs (.int _)⟩
            · cases hz
          · cases hz
        | tuple ds =>
          simp only [indexD] at hz
          split at hz
          · rename_i hs
            rw [Bool.and_eq_true] at hs
            split at hz
            · rename_i j hj
              cases hz
              obtain ⟨i, z', e1, e2, e3, e4⟩ := indexIn_ok hj
              rw [Nat.zero_add] at e1
              subst e1
              obtain ⟨ad, xs, rfl, _⟩ := v1.tup
              exact ⟨ad, y, e, ds, _, z', rfl, rfl, v1.dp (SeqAt.canLay_of_shaped hs.1), v2.dp (SeqAt.canLay_of_shaped hs.2), hs.1, hs.2, e2, e3, e4, c.here rs (.int _)⟩
            · cases hz
          · cases hz
        | _ => simp [indexD] at hz
      · exact c.elim
    · exact c.elim
  · exact c.elim
def hasL (id : String) : Kd → Option String
  | .l => some id
  | _ => none
def only (r : MRule) : Kd → MRule
  | .l => r
  | _ => fun _ _ _ _ => False
theorem tab_l {id : String} {r : MRule} (sl : Slot "list" name id) (ty : typeOf (.builtin id) = pure (.type "method_descriptor")) (m : MtR X id r) : MTab X name (hasL id) (only r) := ⟨fun k i h => by
  cases k with
  | l => cases h; exact ⟨F.plainAttrs_list, sl, ty, m⟩
  | _ => cases h⟩
theorem tab_append : MTab X "append" (hasL "list.append") (only rAppend) := tab_l F.slot_list_append (by show builtinType _ = _; rw [builtinType_eq_fast]; kernel_rfl) mt_append
def gApp : Kd → W → W → Mu → R W := fun k a b m => match k, a with
  | .l, .r n => (match m[n]? with
    | some (.lst ws) => if ws.length < ln then .ok (.p .none) (m.set n (.lst (ws ++ [b]))) else .bad
    | _ => .bad)
  | _, _ => .bad
theorem write_lst {B : Addr → Prop} {ρ : List Addr} {H : Hp} {m : Mu} {n : Nat} {a : Addr} {xs : List V} {ws : List W} {Xw : Value → Option Addr → Hp → Prop} {v : V} {u : W} {Q : VK} (rs : RS X.w X.K B ρ H m) (ha : ρ[n]? = some a) (hz : xs.length ≤ sizeLine) (p : Paired (WV X.w X.K B ρ H) xs ws) (wv : WV X.w X.K B ρ H v u)
    (c : Cn X.w X.K XR (WV X.w X.K) B ρ H Xw (.ok u (m.set n (.lst ws))) Q) : Q v (upd H a (.lst xs)) := by
  have s0 : Stp ρ H ρ (upd H a (.lst xs)) := ⟨⟨[], by simp, by simp⟩, fun b o e nb => by
    rw [upd_ne (fun z => nb (by rw [z]; exact List.mem_of_getElem? ha))]; exact e⟩
  obtain ⟨r2, s2⟩ := rs.put (o := .lst xs) (ob := .lst ws) ha ⟨xs, upd_same, hz, Paired.wv s0 rs p⟩
  exact c v _ ρ s2 r2 (wv.stp s2 rs)
theorem ms_append : MS1 X XR (only rAppend) gApp := fun k B ρ H m Xw x y a b Q rs wa wb c => by
  unfold gApp at c
  split at c
  · rename_i n
    obtain ⟨ad, ha, rfl⟩ := wa
    split at c
    · rename_i ws hn
      split at c
      · rename_i hl
        obtain ⟨xs, e, l, p⟩ := rs.at_ n ad _ ha hn
        have hle := Paired.length p
        have hlt : xs.length < sizeLine := by rw [hle, ln_eq]; exact hl
        exact ⟨ad, xs, y, rfl, rfl, e, hlt, write_lst rs ha (by rw [List.length_append, List.length_singleton]; omega) (paired_app p (.cons wb .nil)) (u := .p .none) DV.non c⟩
      · exact c.elim
    · exact c.elim
  · exact c.elim
theorem tab_pop : MTab X "pop" (hasL "list.pop") (only rPop) := tab_l F.slot_list_pop (by show builtinType _ = _; rw [builtinType_eq_fast]; kernel_rfl) mt_pop
end
end Pg

namespace Pg
open PySem L2
/-- one thing that a loop gives: a value, or a new tuple of values -/
inductive Itm where
  | one (u : W) | many (us : List W)
def IV (w : World) (K : PySem.W.Frag) (B : Addr → Prop) (ρ : List Addr) (H : Hp) (x : V) : Itm → Prop
  | .one u => WV w K B ρ H x u
  | .many us => ∃ a xs, x = .ref a ∧ SqT K H a xs ∧ Paired (WV w K B ρ H) xs us
/-- a later state -/
structure Lat (w : World) (K : PySem.W.Frag) (B : Addr → Prop) (ρ : List Addr) (H : Hp) (B' : Addr → Prop) (ρ' : List Addr) (H' : Hp) (m' : Mu) : Prop where
  kp : Kp (Fb B ρ) (Fb B' ρ') H H'
  ex : ∃ n, ρ' = ρ ++ n
  rs : RS w K B' ρ' H' m'
theorem Lat.of {w : World} {K : PySem.W.Frag} {B : Addr → Prop} {ρ ρ' : List Addr} {H H' : Hp} {m m' : Mu} (r : RS w K B ρ H m) (s : Stp ρ H ρ' H') (r' : RS w K B ρ' H' m') : Lat w K B ρ H B ρ' H' m' := ⟨s.kp r, let ⟨⟨n, e, _⟩, _⟩ := s; ⟨n, e⟩, r'⟩
/-- J gives these, one by one, whatever the body does to the store -/
structure Gv (w : World) (K : PySem.W.Frag) (B : Addr → Prop) (ρ : List Addr) (H : Hp) (J : It) (its : List Itm) : Prop where
  go : ∀ i B' ρ' H' m', Lat w K B ρ H B' ρ' H' m' → i < its.length → J.go i H'
  stop : ∀ B' ρ' H' m', Lat w K B ρ H B' ρ' H' m' → J.stop its.length H'
  yld : ∀ i B' ρ' H' m' x H2 u, Lat w K B ρ H B' ρ' H' m' → its[i]? = some u → J.yld i H' x H2 → (∀ a o, H' a = some o → H2 a = some o) ∧ IV w K B' ρ' H2 x u
abbrev FI := Env → Mu → R (List Itm)
def tI (X : Cx) (XR : XRel) (Wx : WX) (f : FI) : TI := fun σ H Q => ∃ B ρ η m, Rel X.w X.K B ρ σ H η m ∧ Cn X.w X.K XR (fun B ρ H J its => Gv X.w X.K B ρ H J its) B ρ H (fun c d => Wx c d σ) (f η m) Q
abbrev SI (X : Cx) (XR : XRel) (Wx : WX) (tg e : Expr) (f : FI) : Prop := PI X tg e (tI X XR Wx f)
theorem pi_imp {X : Cx} {tg e : Expr} {t t' : TI} (h : PI X tg e t) (i : ∀ σ H Q, t' σ H Q → t σ H Q) : PI X tg e t' := ⟨fun p s σ H Q I x => h.run p s σ H Q I (i _ _ _ x)⟩
def ones (us : List W) : List Itm := us.map .one
theorem ones_get {us : List W} {i : Nat} {t : Itm} (h : (ones us)[i]? = some t) : ∃ u, us[i]? = some u ∧ t = .one u := by
  unfold ones at h
  rw [List.getElem?_map] at h
  cases q : us[i]? with
  | none => rw [q] at h; cases h
  | some u => rw [q] at h; cases h; exact ⟨u, rfl, rfl⟩
theorem ones_len (us : List W) : (ones us).length = us.length := by simp [ones]
def ItD (n : Nat) (G : Hp → Prop) (Y : Nat → Hp → V → Hp → Prop) : It := ⟨fun i H => i < n ∧ G H, Y, fun i H => i = n ∧ G H⟩
section
variable {X : Cx} {XR : XRel} {Wx : WX} {tg e e1 e2 e3 : Expr} {pos p tpos apos cpos : Pos} {elts : List Expr} {kk : Nat}
theorem gv_list {B : Addr → Prop} {ρ : List Addr} {H : Hp} {a : Addr} {xs : List V} {ds : List D} (st : ∀ B' ρ' H' m', Lat X.w X.K B ρ H B' ρ' H' m' → SqL X.K H' a xs ∧ DVs X.w X.K (Fb B' ρ') H' xs ds) : Gv X.w X.K B ρ H (Itl X.K a) (ones (ds.map .p)) where
  go := fun i B' ρ' H' m' L hi => by
    obtain ⟨h1, h2⟩ := st _ _ _ _ L
    rw [ones_len, List.length_map, ← h2.length] at hi
    exact ⟨xs, xs[i], h1, by simp [hi]⟩
  stop := fun B' ρ' H' m' L => by
    obtain ⟨h1, h2⟩ := st _ _ _ _ L
    exact ⟨xs, h1, by rw [ones_len, List.length_map, h2.length]; exact Nat.le_refl _⟩
  yld := fun i B' ρ' H' m' x H2 u L hu y => by
    obtain ⟨h1, h2⟩ := st _ _ _ _ L
    obtain ⟨rfl, y⟩ := y
    obtain ⟨u', hu', rfl⟩ := ones_get hu
    obtain ⟨v, hv, wv⟩ := paired_get (pair_p (ρ := ρ') (B := B') h2) hu'
    rw [y xs h1] at hv
    cases hv
    exact ⟨fun _ _ e => e, wv⟩
theorem gv_tup {B : Addr → Prop} {ρ : List Addr} {H : Hp} {a : Addr} {xs : List V} {ds : List D} (st : ∀ B' ρ' H' m', Lat X.w X.K B ρ H B' ρ' H' m' → SqT X.K H' a xs ∧ DVs X.w X.K (Fb B' ρ') H' xs ds) : Gv X.w X.K B ρ H (Itt X.K a) (ones (ds.map .p)) where
  go := fun i B' ρ' H' m' L hi => by
    obtain ⟨h1, h2⟩ := st _ _ _ _ L
    rw [ones_len, List.length_map, ← h2.length] at hi
    exact ⟨xs, xs[i], h1, by simp [hi]⟩
  stop := fun B' ρ' H' m' L => by
    obtain ⟨h1, h2⟩ := st _ _ _ _ L
    exact ⟨xs, h1, by rw [ones_len, List.length_map, h2.length]; exact Nat.le_refl _⟩
  yld := fun i B' ρ' H' m' x H2 u L hu y => by
    obtain ⟨h1, h2⟩ := st _ _ _ _ L
    obtain ⟨rfl, y⟩ := y
    obtain ⟨u', hu', rfl⟩ := ones_get hu
    obtain ⟨v, hv, wv⟩ := paired_get (pair_p (ρ := ρ') (B := B') h2) hu'
    rw [y xs h1] at hv
    cases hv
    exact ⟨fun _ _ e => e, wv⟩
theorem gv_str {B : Addr → Prop} {ρ : List Addr} {H : Hp} {z : Str} : Gv X.w X.K B ρ H (Its z) (ones (z.cps.toList.map fun c => .p (.str ⟨#[c]⟩))) where
  go := fun i B' ρ' H' m' L hi => by
    rw [ones_len, List.length_map, Array.length_toList] at hi
    exact hi
  stop := fun B' ρ' H' m' L => by
    rw [ones_len, List.length_map, Array.length_toList]
    exact Nat.le_refl _
  yld := fun i B' ρ' H' m' x H2 u L hu y => by
    obtain ⟨rfl, c, hc, rfl⟩ := y
    obtain ⟨u', hu', rfl⟩ := ones_get hu
    rw [List.getElem?_map, Array.getElem?_toList, hc] at hu'
    cases hu'
    exact ⟨fun _ _ e => e, DV.str _⟩
def ItKy (K : PySem.W.Frag) (a : Addr) (es : List DictEntry) (ep : Nat) (vs : List V) : It := ItD es.length (fun H => DcR K H a es ep) (fun i H v H' => H' = H ∧ vs[i]? = some v)
theorem dcr_raw {X : Cx} {pins : List (Addr × Obj)} {σ : St} {H : Hp} {s : Shared} {a : Addr} {es : List DictEntry} {ep : Nat} (I : Inv X pins σ H s) (h : DcR X.K H a es ep) : s.heap.DictRaw a es.toArray ep := h.at_ I
theorem turn_keys {P : Program} {w : World} {K : PySem.W.Frag} {tg : Expr} (a it : Addr) (es : List DictEntry) (ep : Nat) (vs : List V) (hv : Paired (fun v (e : DictEntry) => RelV v e.key) vs es) :
    Turn P w K tg (ItKy K a es ep vs) [it] it (fun i h => h.IsKeyIter it a i es.length ep ∧ a ≠ it) where
  mem := by simp
  obj := fun i h st b hb => by
    have e : b = it := by simpa using hb
    subst e
    obtain ⟨⟨o, e, c, d⟩, _⟩ := st
    exact ⟨o, e, fun v z => by rw [d] at z; cases z⟩
  keep := fun i h h' st k => by
    obtain ⟨⟨o, e, c, d⟩, n⟩ := st
    exact ⟨⟨o, k it (by simp) o e, c, d⟩, n⟩
  item := by
    intro X hP hw hK hc i pins s σ H E I hf st hg
    subst hP hw hK
    obtain ⟨f0, f1, f2, f3, f4, f5⟩ := hf it (by simp)
    obtain ⟨st, hne⟩ := st
    obtain ⟨hi, hd⟩ := hg
    have raw := dcr_raw I hd
    have W := Goes.rawKeys (prog := X.prog) (w := X.w) (target := tg) (I.ok.hd hc) it a hne es.toArray ep
    refine W.goes i s (fun v s2 => ∃ x H', Inv X pins σ H' s2 ∧ RelV x v ∧ (ItKy X.K a es ep vs).yld i H x H' ∧ (s2.heap.IsKeyIter it a (i + 1) es.length ep ∧ a ≠ it) ∧ ∀ b ∈ [it], H' b = none) E (by simpa using hi) ⟨by simpa using st, raw⟩ fun v h' tk hY st' hk htk => ?_
    obtain ⟨hi', rfl⟩ := hY
    have hel : es[i]? = some es[i] := List.getElem?_eq_getElem hi
    obtain ⟨x, hx, rx⟩ := paired_get hv hel
    exact ⟨x, H, I.turned (fun b o hb e => hk b o (by simpa using hb) e) f0 f1 f3 f4 f5, by simpa using rx, ⟨rfl, hx⟩, ⟨by simpa using st'.1, hne⟩, fun b hb => (hf b hb).1⟩
  done := by
    intro X hP hw hK hc i pins s σ H E I hf st hg
    subst hP hw hK
    obtain ⟨f0, f1, f2, f3, f4, f5⟩ := hf it (by simp)
    obtain ⟨st, hne⟩ := st
    obtain ⟨hi, hd⟩ := hg
    have raw := dcr_raw I hd
    exact wpAny_pyNext_keys_end_raw (I.ok.hd hc) (i := i) (by simpa using st) raw (by rw [hi]; simp) fun h' eb => ⟨rfl, I.turned (t' := s.toks) (fun b o hb e => eb b o hb e) f0 f1 f3 f4 f5⟩
  self := fun A i s Q E st h => wpAny_pyIter_keyiter st.1 h
theorem DEs.app1 {w : World} {K : PySem.W.Frag} {F : Addr → Prop} {H : Hp} {es : List DictEntry} {ks : List (D × D)} (r : DEs w K F H es ks) : ∃ vs us, Paired (fun v (e : DictEntry) => RelV v e.key) vs es ∧ Paired (fun v (e : DictEntry) => RelV v e.val) us es ∧ DVs w K F H vs (ks.map (·.1)) ∧ DVs w K F H us (ks.map (·.2)) := by
  induction ks generalizing es with
  | nil => cases r; exact ⟨[], [], .nil, .nil, .nil, .nil⟩
  | cons q ks ih =>
    cases r with
    | cons a b c e f g r =>
      obtain ⟨vs, us, h1, h2, h3, h4⟩ := ih r
      exact ⟨_, _, .cons a h1, .cons f h2, .cons b h3, .cons g h4⟩
theorem gv_keys {B : Addr → Prop} {ρ : List Addr} {H : Hp} {a : Addr} {es : List DictEntry} {ep : Nat} {vs : List V} {ds : List D} (hl : es.length = ds.length) (st : ∀ B' ρ' H' m', Lat X.w X.K B ρ H B' ρ' H' m' → DcR X.K H' a es ep ∧ DVs X.w X.K (Fb B' ρ') H' vs ds) : Gv X.w X.K B ρ H (ItKy X.K a es ep vs) (ones (ds.map .p)) where
  go := fun i B' ρ' H' m' L hi => by
    rw [ones_len, List.length_map] at hi
    exact ⟨by rw [hl]; exact hi, (st _ _ _ _ L).1⟩
  stop := fun B' ρ' H' m' L => ⟨by rw [ones_len, List.length_map, hl], (st _ _ _ _ L).1⟩
  yld := fun i B' ρ' H' m' x H2 u L hu y => by
    obtain ⟨h1, h2⟩ := st _ _ _ _ L
    obtain ⟨rfl, y⟩ := y
    obtain ⟨u', hu', rfl⟩ := ones_get hu
    obtain ⟨v, hv, wv⟩ := paired_get (pair_p (ρ := ρ') (B := B') h2) hu'
    rw [y] at hv
    cases hv
    exact ⟨fun _ _ e => e, wv⟩
def gItems : W → Mu → R (List Itm)
  | .p (.list ds), m => .ok (ones (ds.map .p)) m
  | .p (.tuple ds), m => .ok (ones (ds.map .p)) m
  | .p (.str z), m => .ok (ones (z.cps.toList.map fun c => .p (.str ⟨#[c]⟩))) m
  | .p (.dict ks), m => .ok (ones ((ks.map (·.1)).map .p)) m
  | _, _ => .bad
def fItems (f : FE) : FI := fun η m => (f η m).bd gItems
theorem si_val {f : FE} (he : SE X XR Wx e f) : SI X XR Wx tg e (fItems f) := by
  refine ⟨fun pins s σ H R I ⟨B, ρ, η, m, rl, c⟩ => ?_⟩
  refine thn (he.run pins s σ H (fun x H1 => ∃ ρ1 m1 a, Stp ρ H ρ1 H1 ∧ RS X.w X.K B ρ1 H1 m1 ∧ WV X.w X.K B ρ1 H1 x a ∧ Cn X.w X.K XR (fun B ρ H J its => Gv X.w X.K B ρ H J its) B ρ1 H1 (fun c d => Wx c d σ) (gItems a m1) R) I
    ⟨B, ρ, η, m, rl, Cn.bd c rl.rs fun a m1 x H1 ρ1 _ s1 rs1 wa c1 => ⟨ρ1, m1, a, s1, rs1, wa, c1⟩⟩) fun v s1 ⟨x, H1, I1, r1, ρ1, m1, a, st1, rs1, wa, c1⟩ => ?_
  unfold gItems at c1
  split at c1
  · rename_i ds _ _
    have wa2 := wa
    cases wa2 with
    | lst hb lx dx =>
      rename_i ad xs
      cases r1
      obtain ⟨its, rv, p, hz⟩ := I1.list hb.seq
      refine wpAny_pyIter_list p.isList ?_
      refine pi_one (tk := s1.toks) I1 _ (turn_list _ _) ⟨_, Heap.get?_push_size _ rfl, rfl, rfl⟩ (c1.here rs1 (gv_list (xs := xs) fun B' ρ' H' m' L => ?_))
      have k := L.kp
      exact ⟨(hb.kp k).seq, DVs.kp k dx⟩
  · rename_i ds _ _
    have wa2 := wa
    cases wa2 with
    | tup hb lx dx =>
      rename_i ad xs
      cases r1
      obtain ⟨its, rv, p, hz⟩ := I1.tuple hb.sq
      refine wpAny_pyIter_tuple (show s1.heap.IsTuple _ its.toArray from p) ?_
      refine pi_one (tk := s1.toks) I1 _ (turn_tuple _ _) ⟨_, Heap.get?_push_size _ rfl, rfl, rfl⟩ (c1.here rs1 (gv_tup (xs := xs) fun B' ρ' H' m' L => ?_))
      have k := L.kp
      exact ⟨(hb.kp k).sq, DVs.kp k dx⟩
  · rename Str => z
    rw [(VV.dv wa).str] at r1
    obtain ⟨t, rfl⟩ := r1
    cases ha : z.cps.all (· < 128)
    · exact wpAny_pyIter_wide ha (pi_one (tk := s1.toks) I1 _ (turn_str _ z t "str_iterator" (.inr rfl)) ⟨_, Heap.get?_push_size _ rfl, rfl, rfl⟩ (c1.here rs1 gv_str))
    · exact wpAny_pyIter_ascii ha (pi_one (tk := s1.toks) I1 _ (turn_str _ z t "str_ascii_iterator" (.inl rfl)) ⟨_, Heap.get?_push_size _ rfl, rfl, rfl⟩ (c1.here rs1 gv_str))
  · rename_i _ _ ks _
    have wa2 := wa
    cases wa2 with
    | dic hb le ok de =>
      cases r1
      obtain ⟨⟨ep, hd⟩, ns⟩ := hb
      have raw := dcr_raw I1 hd.rd
      obtain ⟨vs, us, h1, h2, h3, h4⟩ := de.app1
      rename_i ad es _
      have hlt : ad < s1.heap.objs.size := by obtain ⟨o, e, _⟩ := raw; exact Heap.lt_size e
      refine wpAny_pyIter_dict_raw ns raw ?_
      refine pi_one (tk := s1.toks) I1 _ (turn_keys ad _ es ep vs h1) ⟨⟨_, Heap.get?_push_size _ rfl, rfl, by simp⟩, Nat.ne_of_lt hlt⟩ (c1.here rs1 (gv_keys ?_ fun B' ρ' H' m' L => ?_))
      · rw [← Paired.length h1]; exact h3.length
      · have k := L.kp
        exact ⟨(hd.kp k).rd, DVs.kp k h3⟩
  · exact c1.elim
def rangeI (lo : Int) (n : Nat) : List Itm := ones ((List.range n).map fun i => .p (.int (lo + (i : Nat))))
theorem gv_range {B : Addr → Prop} {ρ : List Addr} {H : Hp} {lo : Int} {n : Nat} : Gv X.w X.K B ρ H (Itr lo n) (rangeI lo n) where
  go := fun i B' ρ' H' m' L hi => by
    rw [rangeI, ones_len, List.length_map, List.length_range] at hi
    exact hi
  stop := fun B' ρ' H' m' L => by
    rw [rangeI, ones_len, List.length_map, List.length_range]
    exact Nat.le_refl _
  yld := fun i B' ρ' H' m' x H2 u L hu y => by
    obtain ⟨rfl, rfl⟩ := y
    obtain ⟨u', hu', rfl⟩ := ones_get hu
    rw [List.getElem?_map] at hu'
    cases q : (List.range n)[i]? with
    | none => rw [q] at hu'; cases hu'
    | some j =>
      rw [q] at hu'
      cases hu'
      have : j = i := by
        have := (List.getElem?_eq_some_iff.mp q).2
        simpa using this.symm
      subst this
      exact ⟨fun _ _ e => e, DV.int _⟩
def bnd62 (i : Int) : Bool := decide (-(2 ^ 62) ≤ i) && decide (i < 2 ^ 62)
def gRange1 : W → Mu → R (List Itm)
  | .p (.int j), m => if bnd62 j = true then .ok (rangeI 0 j.toNat) m else .bad
  | _, _ => .bad
def gRange2 : W → W → Mu → R (List Itm)
  | .p (.int i), .p (.int j), m => if bnd62 i = true ∧ bnd62 j = true then .ok (rangeI i (j - i).toNat) m else .bad
  | _, _, _ => .bad
def fRange1 (f : FE) : FI := fun η m => (f η m).bd gRange1
def fRange2 (f g : FE) : FI := fun η m => (f η m).bd fun a m => (g η m).bd fun b m => gRange2 a b m
theorem bnd62_ok {i : Int} (h : bnd62 i = true) : -(2 ^ 62) ≤ i ∧ i < 2 ^ 62 := by
  unfold bnd62 at h
  rw [Bool.and_eq_true] at h
  exact ⟨of_decide_eq_true h.1, of_decide_eq_true h.2⟩
theorem si_range1 {f : FE} (hg : Gl X "range") (hm : X.mg "range" = none) (he : SE X XR Wx e f) (ns : noStar e = true) : SI X XR Wx tg (.Call (.Name "range" p) [e] [] pos) (fRange1 f) :=
  pi_imp (pi_range1 hg hm (pa_cons he pa_nil (star_cons ns)) (star_cons ns)) fun σ H Q ⟨B, ρ, η, m, rl, c⟩ => by
    refine ⟨B, ρ, η, m, rl, Cn.bd c rl.rs fun a m1 x H1 ρ1 _ s1 rs1 wa c1 => ?_⟩
    unfold gRange1 at c1
    split at c1
    · rename_i j _
      split at c1
      · rename_i hb
        obtain ⟨b1, b2⟩ := bnd62_ok hb
        exact ⟨j, by rw [(VV.dv wa).int], b1, b2, c1.here rs1 gv_range⟩
      · exact c1.elim
    · exact c1.elim
theorem si_range2 {f g : FE} (hg : Gl X "range") (hm : X.mg "range" = none) (he : SE X XR Wx e f) (he1 : SE X XR Wx e1 g) (ns : noStar e = true) (ns1 : noStar e1 = true) : SI X XR Wx tg (.Call (.Name "range" p) [e, e1] [] pos) (fRange2 f g) :=
  pi_imp (pi_range2 hg hm (pa_cons he (pa_cons he1 pa_nil (star_cons ns1)) (star_cons ns)) (by rw [star_cons ns, star_cons ns1]; rfl) (by rw [star_cons ns1]; rfl)) fun σ H Q ⟨B, ρ, η, m, rl, c⟩ => by
    refine ⟨B, ρ, η, m, rl, Cn.bd c rl.rs fun a m1 x H1 ρ1 _ s1 rs1 wa c1 => ?_⟩
    have rl1 := rl.stp s1 rs1
    refine ⟨B, ρ1, η, m1, rl1, Cn.bd c1 rs1 fun b m2 y H2 ρ2 _ s2 rs2 wb c2 => ?_⟩
    have wa2 := wa.stp s2 rs1
    unfold gRange2 at c2
    split at c2
    · split at c2
      · rename_i hb
        obtain ⟨b1, b2⟩ := bnd62_ok hb.1
        obtain ⟨b3, b4⟩ := bnd62_ok hb.2
        exact ⟨_, _, by rw [(VV.dv wa2).int, (VV.dv wb).int], ⟨b1, b2, b3, b4⟩, c2.here rs2 gv_range⟩
      · exact c2.elim
    · exact c2.elim
end
end Pg

namespace Pg
open PySem L2
def SqK (K : PySem.W.Frag) (b : Bool) (H : Hp) (a : Addr) (xs : List V) : Prop := match b with
  | true => SqL K H a xs
  | false => SqT K H a xs
def IsSq (b : Bool) (h : Heap) (a : Addr) (its : Array Value) : Prop := match b with
  | true => h.IsList a its
  | false => h.IsTuple a its
def IsIt (b : Bool) (h : Heap) (it a : Addr) (i : Nat) : Prop := match b with
  | true => h.IsListIter it a i
  | false => h.IsTupleIter it a i
def objK (b : Bool) (a : Addr) : Obj := match b with
  | true => { cls := .type "list_iterator", data := .fields #[.ref a, .int 0 0] }
  | false => { cls := .type "tuple_iterator", data := .fields #[.ref a, .int 0 0] }
theorem isIt_obj {b : Bool} {h : Heap} {it a : Addr} (e : h.get? it = some (objK b a)) : IsIt b h it a 0 := by
  cases b
  · exact ⟨_, e, rfl, rfl⟩
  · exact ⟨_, e, rfl, rfl⟩
theorem isIt_at {b : Bool} {h : Heap} {it a : Addr} {i : Nat} (s : IsIt b h it a i) : ∃ o, h.get? it = some o ∧ ∀ v, o.data ≠ .cell v := by
  cases b
  · obtain ⟨o, e, c, d⟩ := s; exact ⟨o, e, fun v z => by rw [d] at z; cases z⟩
  · obtain ⟨o, e, c, d⟩ := s; exact ⟨o, e, fun v z => by rw [d] at z; cases z⟩
theorem isIt_keep {b : Bool} {h h' : Heap} {it a : Addr} {i : Nat} (s : IsIt b h it a i) (k : ∀ o, h.get? it = some o → h'.get? it = some o) : IsIt b h' it a i := by
  cases b
  · obtain ⟨o, e, r⟩ := s; exact ⟨o, k o e, r⟩
  · obtain ⟨o, e, r⟩ := s; exact ⟨o, k o e, r⟩
theorem begins_sq (b : Bool) (a : Addr) (its : Array Value) : Begins (.ref a) (objK b a) (fun h => IsSq b h a its) := by
  cases b
  · exact begins_tuple a its
  · exact begins_list a its
theorem draws_sq {prog : Program} {w : World} {A : Around} (hh : A.handled = none) (b : Bool) (it a : Addr) (hne : a ≠ it) (its : Array Value) :
    Draws prog w A it [it, a] its.size (fun i v => its[i]? = some v) (fun i h => IsIt b h it a i ∧ IsSq b h a its) := by
  cases b
  · exact Draws.tuple hh it a hne its
  · exact Draws.list hh it a hne its
section
variable {X : Cx} {XR : XRel} {Wx : WX} {tg e e1 e2 e3 : Expr} {pos p tpos apos cpos : Pos} {elts : List Expr} {kk : Nat}
theorem seq_k {pins : List (Addr × Obj)} {σ : St} {H : Hp} {s : Shared} {b : Bool} {a : Addr} {xs : List V} (I : Inv X pins σ H s) (h : SqK X.K b H a xs) : ∃ its : List Value, Vals xs its ∧ IsSq b s.heap a its.toArray ∧ xs.length ≤ sizeLine ∧ a < s.heap.objs.size := by
  cases b
  · obtain ⟨its, r, p, z⟩ := I.tuple h
    exact ⟨its, r, p, z, by obtain ⟨o, e, _⟩ := p; exact Heap.lt_size e⟩
  · obtain ⟨its, r, p, z⟩ := I.list h
    exact ⟨its, r, p.isList, z, by obtain ⟨o, e, _⟩ := p.isList; exact Heap.lt_size e⟩
def ItEn (K : PySem.W.Frag) (b : Bool) (a : Addr) (xs : List V) : It := ItD xs.length (fun H => SqK K b H a xs) (fun i H v H' => ∃ T x, v = .ref T ∧ H T = none ∧ H' = upd H T (.tup [.int (i : Nat), x]) ∧ xs[i]? = some x)
theorem turn_en {P : Program} {w : World} {K : PySem.W.Frag} (b : Bool) (a e it : Addr) (xs : List V) :
    Turn P w K (.Tuple elts kk tpos) (ItEn K b a xs) [e, it] e (fun i h => (∃ old, IsEnum h e it ((i : Nat) : Int) old) ∧ IsIt b h it a i ∧ e ≠ it ∧ a ≠ e ∧ a ≠ it) where
  mem := by simp
  obj := fun i h st c hc => by
    obtain ⟨⟨old, he⟩, hi, _⟩ := st
    have e' : c = e ∨ c = it := by simpa using hc
    rcases e' with z | z
    · rw [z]; exact ⟨_, he, fun v q => nomatch q⟩
    · rw [z]; exact isIt_at hi
  keep := fun i h h' st k => let ⟨⟨old, he⟩, hi, r⟩ := st; ⟨⟨old, k e (by simp) _ he⟩, isIt_keep hi fun o q => k it (by simp) o q, r⟩
  item := by
    intro X hP hw hK hc i pins s σ H E I hf st hg
    subst hP hw hK
    obtain ⟨⟨old, he⟩, hit, hne, n1, n2⟩ := st
    obtain ⟨hi, hq⟩ := hg
    obtain ⟨its, rv, p, hz, _⟩ := seq_k I hq
    have hlen := rv.length
    have hel : e < s.heap.objs.size := Heap.lt_size he
    have hil : it < s.heap.objs.size := by obtain ⟨_, q, _⟩ := isIt_at hit; exact Heap.lt_size q
    have W := GoesN.enumFrom (prog := X.prog) (w := X.w) (A := X.A) (elts := elts) (x1 := kk) (pos := tpos) 0 (draws_sq (prog := X.prog) (w := X.w) (A := X.A.in1) (show X.A.in1.handled = none from I.ok.hd hc) b it a n2 its.toArray) e hne (by simp [hne, Ne.symm n1]) (by simp)
    refine W.goes i s (fun v s2 => ∃ x H', Inv X pins σ H' s2 ∧ RelV x v ∧ (ItEn X.K b a xs).yld i H x H' ∧ ((∃ old, IsEnum s2.heap e it ((i + 1 : Nat) : Int) old) ∧ IsIt b s2.heap it a (i + 1) ∧ e ≠ it ∧ a ≠ e ∧ a ≠ it) ∧ ∀ c ∈ [e, it], H' c = none) E (by rw [List.size_toArray, ← hlen]; exact hi) ⟨⟨old, by simpa using he⟩, hit, p⟩ fun v h' tk hY st' hk htk => ?_
    obtain ⟨T, t, u, rfl, hT, hu, hTu⟩ := hY
    obtain ⟨⟨old', he'⟩, hit', _⟩ := st'
    have hx : xs[i]? = some xs[i] := List.getElem?_eq_getElem hi
    obtain ⟨u', hu', ru⟩ := rv.get hx
    have eu : u = u' := by
      have : its[i]? = some u := by simpa using hu
      rw [this] at hu'
      exact Option.some.inj hu'
    subst eu
    have new : ObjOk X.prog X.w (upd H T (.tup [.int (i : Nat), xs[i]])) h' T (.tup [.int (i : Nat), xs[i]]) :=
      ⟨by show 2 ≤ sizeLine; decide, [.int (0 + (i : Nat)) t, u], .cons ⟨t, by simp⟩ (.cons ru .nil), hTu⟩
    have I1 := I.turnedNew (t' := tk) (ch := [e, it]) (fun c o hc q => hk c o (by simpa using hc) q) hf hT new
    refine ⟨.ref T, _, I1, rfl, ⟨T, xs[i], rfl, I.hok.fresh hT, rfl, hx⟩, ⟨⟨old', by simpa using he'⟩, hit', hne, n1, n2⟩, fun c hc => ?_⟩
    have hlt : c < s.heap.objs.size := by
      have e' : c = e ∨ c = it := by simpa using hc
      rcases e' with z | z
      · rw [z]; exact hel
      · rw [z]; exact hil
    rw [upd_ne (Nat.ne_of_lt (Nat.lt_of_lt_of_le hlt hT))]
    exact (hf c hc).1
  done := by
    intro X hP hw hK hc i pins s σ H E I hf st hg
    subst hP hw hK
    obtain ⟨⟨old, he⟩, hit, hne, n1, n2⟩ := st
    obtain ⟨hi, hq⟩ := hg
    obtain ⟨its, rv, p, hz, _⟩ := seq_k I hq
    have hlen := rv.length
    obtain ⟨f0, f1, f2, f3, f4, f5⟩ := hf it (by simp)
    exact wpAny_pyNext_enum_endD (draws_sq (prog := X.prog) (w := X.w) (A := X.A.in1) (show X.A.in1.handled = none from I.ok.hd hc) b it a n2 its.toArray) he (by rw [List.size_toArray, ← hlen, ← hi]; exact ⟨hit, p⟩) fun h' eb => ⟨rfl, I.turned (t' := s.toks) (fun c o hb q => eb c o hb q) f0 f1 f3 f4 f5⟩
  self := fun A i s Q E st h => let ⟨⟨_, he⟩, _⟩ := st; wpAny_pyIter_enum he h
def enumI : Nat → List W → List Itm
  | _, [] => []
  | n, u :: r => .many [.p (.int (n : Int)), u] :: enumI (n + 1) r
theorem enumI_len : ∀ (n : Nat) (us : List W), (enumI n us).length = us.length
  | _, [] => rfl
  | n, u :: r => by simp [enumI, enumI_len (n + 1) r]
theorem enumI_get : ∀ {us : List W} {n i : Nat} {t : Itm}, (enumI n us)[i]? = some t → ∃ u, us[i]? = some u ∧ t = .many [.p (.int ((n + i : Nat) : Int)), u]
  | [], _, _, _, h => by simp [enumI] at h
  | u :: r, n, 0, t, h => by
    have : Itm.many [.p (.int (n : Int)), u] = t := Option.some.inj h
    exact ⟨u, rfl, this.symm⟩
  | u :: r, n, i + 1, t, h => by
    obtain ⟨u', h1, h2⟩ := enumI_get (us := r) (n := n + 1) (i := i) (t := t) (by simpa [enumI] using h)
    exact ⟨u', by simpa using h1, by rw [h2, show n + 1 + i = n + (i + 1) by omega]⟩
/-- a list or a tuple of data: where it lies, whatever comes -/
structure Lay (X : Cx) (B : Addr → Prop) (ρ : List Addr) (H : Hp) (b : Bool) (a : Addr) (xs : List V) (ds : List D) : Prop where
  st : ∀ B' ρ' H' m', Lat X.w X.K B ρ H B' ρ' H' m' → SqK X.K b H' a xs ∧ DVs X.w X.K (Fb B' ρ') H' xs ds
/-- the items of data that is a list or a tuple -/
def seqD : W → Option (List D)
  | .p (.list ds) => some ds
  | .p (.tuple ds) => some ds
  | _ => none
theorem seqD_lay {B : Addr → Prop} {ρ : List Addr} {H : Hp} {m : Mu} {x : V} {a : W} {ds : List D} (rs : RS X.w X.K B ρ H m) (wa : WV X.w X.K B ρ H x a) (h : seqD a = some ds) : ∃ b p xs, x = .ref p ∧ Lay X B ρ H b p xs ds := by
  unfold seqD at h
  split at h
  · cases h
    cases wa with
    | lst hb lx dx => exact ⟨true, _, _, rfl, ⟨fun B' ρ' H' m' L => ⟨(hb.kp L.kp).seq, DVs.kp L.kp dx⟩⟩⟩
  · cases h
    cases wa with
    | tup hb lx dx => exact ⟨false, _, _, rfl, ⟨fun B' ρ' H' m' L => ⟨(hb.kp L.kp).sq, DVs.kp L.kp dx⟩⟩⟩
  · cases h
theorem Lay.here {B : Addr → Prop} {ρ : List Addr} {H : Hp} {m : Mu} {b : Bool} {a : Addr} {xs : List V} {ds : List D} (l : Lay X B ρ H b a xs ds) (rs : RS X.w X.K B ρ H m) : SqK X.K b H a xs ∧ DVs X.w X.K (Fb B ρ) H xs ds := l.st _ _ _ _ (.of rs .refl rs)
theorem gv_en {B : Addr → Prop} {ρ : List Addr} {H : Hp} {m : Mu} {b : Bool} {a : Addr} {xs : List V} {ds : List D} (rs : RS X.w X.K B ρ H m) (l : Lay X B ρ H b a xs ds) : Gv X.w X.K B ρ H (ItEn X.K b a xs) (enumI 0 (ds.map .p)) where
  go := fun i B' ρ' H' m' L hi => by
    obtain ⟨h1, h2⟩ := l.st _ _ _ _ L
    rw [enumI_len, List.length_map, ← h2.length] at hi
    exact ⟨hi, h1⟩
  stop := fun B' ρ' H' m' L => by
    obtain ⟨h1, h2⟩ := l.st _ _ _ _ L
    exact ⟨by rw [enumI_len, List.length_map, h2.length], h1⟩
  yld := fun i B' ρ' H' m' x H2 u L hu y => by
    obtain ⟨h1, h2⟩ := l.st _ _ _ _ L
    obtain ⟨T, z, rfl, hT, rfl, hz⟩ := y
    obtain ⟨u', hu', rfl⟩ := enumI_get hu
    obtain ⟨v, hv, wv⟩ := paired_get (pair_p (ρ := ρ') (B := B') h2) hu'
    rw [hz] at hv
    cases hv
    refine ⟨upd_keep hT, T, _, rfl, .inl (.inl upd_same), .cons ?_ (.cons (wv.stp (.of (upd_keep hT)) L.rs) .nil)⟩
    rw [Nat.zero_add]
    exact DV.int _
def gEnum (a : W) (m : Mu) : R (List Itm) := match seqD a with
  | some ds => .ok (enumI 0 (ds.map .p)) m
  | none => .bad
def fEnum (f : FE) : FI := fun η m => (f η m).bd gEnum
theorem meets_enumerate_new1B {v : Value} {o : Obj} {H : Heap → Prop} (B : Begins v o H) :
    Meets (Builtin.«enumerate.__new__» ⟨[.type "enumerate", v], []⟩) (fun _ R s => H s.heap ∧
      R (.ok (.ret (.ref (s.heap.push o).objs.size))) { s with heap := (s.heap.push o).push { cls := .type "enumerate", data := .fields #[.none, .bool false, .ref s.heap.objs.size, rawInt 0, .none, .none] } }) :=
  .of_wp fun prog w A R s h => by
    obtain ⟨hp, g, d, tk, os⟩ := s; obtain ⟨h1, h⟩ := h
    have hsub := sub_enumerate
    have q1 : ∀ {A' : Around} {E : Value → Shared → Prop} {Q : Value → Shared → Prop}, Q (.ref hp.objs.size) ⟨hp.push o, g, d, tk, os⟩ → wpAny (model prog w) A' (pyIter v) Q E ⟨hp, g, d, tk, os⟩ :=
      fun q => B.iter prog w _ _ ⟨hp, g, d, tk, os⟩ _ h1 q
    wp_walk using q1
    refine wpAny_stack_any fun st => wpAny_pure ?_
    split
    · rename_i c _ _ _ _ _
      cases (c == Value.type "enumerate")
      · wp_walk using q1
        exact ⟨_, rfl, h⟩
      · wp_walk using q1
        exact ⟨_, rfl, h⟩
    · wp_walk using q1
      exact ⟨_, rfl, h⟩
theorem enum_begins1 {prog : Program} {w : World} {A : Around} {E : Value → Shared → Prop} {s : Shared} {v : Value} {o : Obj} {H : Heap → Prop} {Q : Value → Shared → Prop} (B : Begins v o H) (h1 : H s.heap)
    (h : ∀ h', IsEnum h' (s.heap.objs.size + 1) s.heap.objs.size 0 .none → h'.get? s.heap.objs.size = some o → h'.objs.size = s.heap.objs.size + 2 →
      (∀ b o, s.heap.get? b = some o → h'.get? b = some o) → Q (.ref (s.heap.objs.size + 1)) { s with heap := h' }) :
    wpAny (model prog w) A (call (.type "enumerate") [v]) Q E s := by
  refine callType_new F.called_enumerate (by decide) (F.typeCall_enumerate_1 _) (F.newCall_enumerate_1 _) (fun obj => F.args_object_init_2 obj _) F.entry_enumerate_new
    (meets_enumerate_new1B B) ⟨h1, ?_⟩
  have hz : (s.heap.push o).objs.size = s.heap.objs.size + 1 := Heap.size_push ..
  show _ ∧ _
  rw [hz]
  have he : IsEnum ((s.heap.push o).push { cls := .type "enumerate", data := .fields #[.none, .bool false, .ref s.heap.objs.size, rawInt 0, .none, .none] }) (s.heap.objs.size + 1) s.heap.objs.size 0 .none := by
    have := Heap.get?_push_size (s.heap.push o) (o := { cls := .type "enumerate", data := .fields #[.none, .bool false, .ref s.heap.objs.size, rawInt 0, .none, .none] }) rfl
    rw [hz] at this; exact this
  refine ⟨⟨_, he, rfl⟩, h _ he (Heap.get?_push_of_some _ (Heap.get?_push_size _ B.free)) (by rw [Heap.size_push, hz]) fun b o x => Heap.get?_push_of_some _ (Heap.get?_push_of_some _ x)⟩
theorem si_enum {f : FE} (hg : Gl X "enumerate") (hm : X.mg "enumerate" = none) (he : SE X XR Wx e f) (ns : noStar e = true) : SI X XR Wx (.Tuple elts kk tpos) (.Call (.Name "enumerate" p) [e] [] pos) (fEnum f) := by
  refine ⟨fun pins s σ H R I ⟨B, ρ, η, m, rl, c⟩ => ?_⟩
  have hs := star_cons (es := []) (env := X.env) ns
  refine PyProof.Rows.Call_ (ld_blt I hg hm (by decide +kernel : bootBuiltins "enumerate" = some (.type "enumerate")) (PyProof.Rows.callWith_type1 (thn ((pa_cons he pa_nil hs).run pos pins s σ H (fun vs H1 => ∃ x ρ1 m1 a, vs = [x] ∧ RS X.w X.K B ρ1 H1 m1 ∧ WV X.w X.K B ρ1 H1 x a ∧ Cn X.w X.K XR (fun B ρ H J its => Gv X.w X.K B ρ H J its) B ρ1 H1 (fun c d => Wx c d σ) (gEnum a m1) R) I
    ⟨B, ρ, η, m, rl, Cn.bd c rl.rs fun a m1 x H1 ρ1 _ s1 rs1 wa c1 => ⟨x, ρ1, m1, a, rfl, rs1, wa, c1⟩⟩) fun us s1 ⟨vs, H1, I1, r1, x, ρ1, m1, a, ev, rs1, wa, c1⟩ => ?_) hs rfl))
  subst ev
  obtain ⟨u, rfl, rx⟩ := vals1 r1
  unfold gEnum at c1
  split at c1
  · rename_i ds hd
    obtain ⟨b, ad, xs, rfl, l⟩ := seqD_lay rs1 wa hd
    cases rx
    obtain ⟨q1, q2⟩ := l.here rs1
    obtain ⟨its, rv, p', hz, hlt⟩ := seq_k I1 q1
    refine enum_begins1 (begins_sq b ad its.toArray) p' fun h' he hit hsz hk => wpAny_pyIter_enum he ?_
    have I2 : Inv X pins σ H1 { s1 with heap := h' } := I1.kept (t' := s1.toks) hk
    refine ⟨s1.heap.objs.size + 1, [s1.heap.objs.size + 1, s1.heap.objs.size], _, _, H1, rfl, I2, turn_en b ad (s1.heap.objs.size + 1) s1.heap.objs.size xs, ⟨⟨.none, he⟩, isIt_obj hit, Nat.succ_ne_self _, Nat.ne_of_lt (Nat.lt_succ_of_lt hlt), Nat.ne_of_lt hlt⟩, fun c hc => ?_, c1.here rs1 (gv_en rs1 l)⟩
    have e' : c = s1.heap.objs.size + 1 ∨ c = s1.heap.objs.size := by simpa using hc
    have hle : s1.heap.objs.size ≤ c := by
      rcases e' with z | z
      · rw [z]; exact Nat.le_add_right _ _
      · rw [z]; exact Nat.le_refl _
    exact I1.fpOk hle (I1.hok.fresh hle)
  · exact c1.elim
def ItZp (K : PySem.W.Frag) (b b2 : Bool) (a a2 : Addr) (xs ys : List V) : It := ItD (min xs.length ys.length) (fun H => SqK K b H a xs ∧ SqK K b2 H a2 ys) (fun i H v H' => ∃ T x y, v = .ref T ∧ H T = none ∧ H' = upd H T (.tup [x, y]) ∧ xs[i]? = some x ∧ ys[i]? = some y)
abbrev zfp (N : Addr) : List Addr := [N + 4, N + 2, N + 3, N, N + 1]
theorem turn_zp {P : Program} {w : World} {K : PySem.W.Frag} (b b2 : Bool) (a a2 N : Addr) (xs ys : List V) (ha : a < N) (ha2 : a2 < N) :
    Turn P w K (.Tuple elts kk tpos) (ItZp K b b2 a a2 xs ys) (zfp N) (N + 4) (fun i h => IsZip h (N + 4) (N + 2) (N + 3) .none ∧ IsTupOf2 h (N + 2) (.ref N) (.ref (N + 1)) ∧ (∃ u v, IsTupOf2 h (N + 3) u v) ∧ IsIt b h N a i ∧ IsIt b2 h (N + 1) a2 i) where
  mem := by simp [zfp]
  obj := fun i h st c hc => by
    obtain ⟨hz, hTI, ⟨u, v, hTO⟩, h1, h2⟩ := st
    have e' : c = N + 4 ∨ c = N + 2 ∨ c = N + 3 ∨ c = N ∨ c = N + 1 := by simpa [zfp] using hc
    rcases e' with q | q | q | q | q
    · rw [q]; exact ⟨_, hz, fun v q => nomatch q⟩
    · rw [q]; exact ⟨_, hTI, fun v q => nomatch q⟩
    · rw [q]; exact ⟨_, hTO, fun v q => nomatch q⟩
    · rw [q]; exact isIt_at h1
    · rw [q]; exact isIt_at h2
  keep := fun i h h' st k => by
    obtain ⟨hz, hTI, ⟨u, v, hTO⟩, h1, h2⟩ := st
    exact ⟨k _ (by simp [zfp]) _ hz, k _ (by simp [zfp]) _ hTI, ⟨u, v, k _ (by simp [zfp]) _ hTO⟩, isIt_keep h1 fun o q => k N (by simp [zfp]) o q, isIt_keep h2 fun o q => k (N + 1) (by simp [zfp]) o q⟩
  item := by
    intro X hP hw hK hc i pins s σ H E I hf st hg
    subst hP hw hK
    obtain ⟨hz, hTI, hTO, h1, h2⟩ := st
    obtain ⟨hi, hqx, hqy⟩ := hg
    obtain ⟨its, rv, p, _, _⟩ := seq_k I hqx
    obtain ⟨its2, rv2, p2, _, _⟩ := seq_k I hqy
    have l1 := rv.length
    have l2 := rv2.length
    have hzl : N + 4 < s.heap.objs.size := Heap.lt_size hz
    have hh : X.A.in1.handled = none := I.ok.hd hc
    have S : ZipSep2 (N + 4) (N + 2) (N + 3) N (N + 1) [N, a] [N + 1, a2] := zip_sep2 (fp1 := [a]) (fp2 := [a2]) (by simpa using ha) (by simpa using ha2)
    have W := GoesN.zip2 (prog := X.prog) (w := X.w) (A := X.A) (elts := elts) (x1 := kk) (pos := tpos) S (draws_sq (prog := X.prog) (w := X.w) hh b N a (Nat.ne_of_lt ha) its.toArray) (draws_sq (prog := X.prog) (w := X.w) hh b2 (N + 1) a2 (Nat.ne_of_lt (Nat.lt_succ_of_lt ha2)) its2.toArray)
    refine W.goes i s (fun v s2 => ∃ x H', Inv X pins σ H' s2 ∧ RelV x v ∧ (ItZp X.K b b2 a a2 xs ys).yld i H x H' ∧ (IsZip s2.heap (N + 4) (N + 2) (N + 3) .none ∧ IsTupOf2 s2.heap (N + 2) (.ref N) (.ref (N + 1)) ∧ (∃ u v, IsTupOf2 s2.heap (N + 3) u v) ∧ IsIt b s2.heap N a (i + 1) ∧ IsIt b2 s2.heap (N + 1) a2 (i + 1)) ∧ ∀ c ∈ zfp N, H' c = none) E
      (by rw [List.size_toArray, List.size_toArray, ← l1, ← l2]; exact hi) ⟨hz, hTI, hTO, ⟨h1, p⟩, ⟨h2, p2⟩⟩ fun v h' tk hY st' hk htk => ?_
    obtain ⟨T, u, u2, rfl, hT, hu, hu2, hTu⟩ := hY
    obtain ⟨z1, z2, z3, ⟨z4, _⟩, ⟨z5, _⟩⟩ := st'
    have hi1 : i < xs.length := by omega
    have hi2 : i < ys.length := by omega
    have hx : xs[i]? = some xs[i] := List.getElem?_eq_getElem hi1
    have hy : ys[i]? = some ys[i] := List.getElem?_eq_getElem hi2
    obtain ⟨u', hu', ru⟩ := rv.get hx
    obtain ⟨u2', hu2', ru2⟩ := rv2.get hy
    have eu : u = u' := by
      have : its[i]? = some u := by simpa using hu
      rw [this] at hu'
      exact Option.some.inj hu'
    have eu2 : u2 = u2' := by
      have : its2[i]? = some u2 := by simpa using hu2
      rw [this] at hu2'
      exact Option.some.inj hu2'
    subst eu eu2
    have new : ObjOk X.prog X.w (upd H T (.tup [xs[i], ys[i]])) h' T (.tup [xs[i], ys[i]]) :=
      ⟨by show 2 ≤ sizeLine; decide, [u, u2], .cons ru (.cons ru2 .nil), hTu⟩
    have I1 := I.turnedNew (t' := tk) (ch := zfp N) (fun c o hc q => hk c o (fun z => hc (by
      have e' : c = N + 4 ∨ c = N + 3 ∨ c = N ∨ c = N + 1 := by simpa using z
      rcases e' with q | q | q | q <;> simp [zfp, q])) q) hf hT new
    refine ⟨.ref T, _, I1, rfl, ⟨T, xs[i], ys[i], rfl, I.hok.fresh hT, rfl, hx, hy⟩, ⟨z1, z2, z3, z4, z5⟩, fun c hc => ?_⟩
    have hlt : c < s.heap.objs.size := by
      have e' : c = N + 4 ∨ c = N + 2 ∨ c = N + 3 ∨ c = N ∨ c = N + 1 := by simpa [zfp] using hc
      have up : ∀ k, k ≤ 4 → N + k < s.heap.objs.size := fun k hk => Nat.lt_of_le_of_lt (Nat.add_le_add_left hk N) hzl
      rcases e' with q | q | q | q | q <;> rw [q]
      · exact up 4 (by decide)
      · exact up 2 (by decide)
      · exact up 3 (by decide)
      · exact up 0 (by decide)
      · exact up 1 (by decide)
    rw [upd_ne (Nat.ne_of_lt (Nat.lt_of_lt_of_le hlt hT))]
    exact (hf c hc).1
  done := by
    intro X hP hw hK hc i pins s σ H E I hf st hg
    subst hP hw hK
    obtain ⟨hz, hTI, hTO, h1, h2⟩ := st
    obtain ⟨hi, hqx, hqy⟩ := hg
    obtain ⟨its, rv, p, _, _⟩ := seq_k I hqx
    obtain ⟨its2, rv2, p2, _, _⟩ := seq_k I hqy
    have l1 := rv.length
    have l2 := rv2.length
    have hh : X.A.in1.handled = none := I.ok.hd hc
    have S : ZipSep2 (N + 4) (N + 2) (N + 3) N (N + 1) [N, a] [N + 1, a2] := zip_sep2 (fp1 := [a]) (fp2 := [a2]) (by simpa using ha) (by simpa using ha2)
    have W := GoesN.zip2 (prog := X.prog) (w := X.w) (A := X.A) (elts := elts) (x1 := kk) (pos := tpos) S (draws_sq (prog := X.prog) (w := X.w) hh b N a (Nat.ne_of_lt ha) its.toArray) (draws_sq (prog := X.prog) (w := X.w) hh b2 (N + 1) a2 (Nat.ne_of_lt (Nat.lt_succ_of_lt ha2)) its2.toArray)
    have ei : i = min its.toArray.size its2.toArray.size := by rw [List.size_toArray, List.size_toArray, ← l1, ← l2]; exact hi
    refine W.stops s (fun s1 => Inv X pins σ H s1) E (by rw [← ei]; exact ⟨hz, hTI, hTO, ⟨h1, p⟩, ⟨h2, p2⟩⟩) fun h' tk hk htk => ?_
    exact I.turnedL (t' := tk) (ch := zfp N) (fun c o hc q => hk c o (fun z => hc (by
      have e' : c = N + 4 ∨ c = N + 3 ∨ c = N ∨ c = N + 1 := by simpa using z
      rcases e' with q | q | q | q <;> simp [zfp, q])) q) hf
  self := fun A i s Q E st h => wpAny_pyIter_zip st.1 h
def zipI : List W → List W → List Itm
  | u :: r, v :: q => .many [u, v] :: zipI r q
  | _, _ => []
theorem zipI_len : ∀ (us vs : List W), (zipI us vs).length = min us.length vs.length
  | [], _ => by simp [zipI]
  | _ :: _, [] => by simp [zipI]
  | u :: r, v :: q => by simp [zipI, zipI_len r q] <;> omega
theorem zipI_get : ∀ {us vs : List W} {i : Nat} {t : Itm}, (zipI us vs)[i]? = some t → ∃ u v, us[i]? = some u ∧ vs[i]? = some v ∧ t = .many [u, v]
  | [], _, _, _, h => by simp [zipI] at h
  | _ :: _, [], _, _, h => by simp [zipI] at h
  | u :: r, v :: q, 0, t, h => by
    have : Itm.many [u, v] = t := Option.some.inj h
    exact ⟨u, v, rfl, rfl, this.symm⟩
  | u :: r, v :: q, i + 1, t, h => by
    obtain ⟨u', v', h1, h2, h3⟩ := zipI_get (us := r) (vs := q) (i := i) (t := t) (by simpa [zipI] using h)
    exact ⟨u', v', by simpa using h1, by simpa using h2, h3⟩
theorem gv_zp {B : Addr → Prop} {ρ : List Addr} {H : Hp} {m : Mu} {b b2 : Bool} {a a2 : Addr} {xs ys : List V} {ds cs : List D} (rs : RS X.w X.K B ρ H m) (l : Lay X B ρ H b a xs ds) (l2 : Lay X B ρ H b2 a2 ys cs) : Gv X.w X.K B ρ H (ItZp X.K b b2 a a2 xs ys) (zipI (ds.map .p) (cs.map .p)) where
  go := fun i B' ρ' H' m' L hi => by
    obtain ⟨h1, h2⟩ := l.st _ _ _ _ L
    obtain ⟨h3, h4⟩ := l2.st _ _ _ _ L
    rw [zipI_len, List.length_map, List.length_map, ← h2.length, ← h4.length] at hi
    exact ⟨hi, h1, h3⟩
  stop := fun B' ρ' H' m' L => by
    obtain ⟨h1, h2⟩ := l.st _ _ _ _ L
    obtain ⟨h3, h4⟩ := l2.st _ _ _ _ L
    exact ⟨by rw [zipI_len, List.length_map, List.length_map, h2.length, h4.length], h1, h3⟩
  yld := fun i B' ρ' H' m' x H2 u L hu y => by
    obtain ⟨h1, h2⟩ := l.st _ _ _ _ L
    obtain ⟨h3, h4⟩ := l2.st _ _ _ _ L
    obtain ⟨T, z, z2, rfl, hT, rfl, hz, hz2⟩ := y
    obtain ⟨u', v', hu', hv', rfl⟩ := zipI_get hu
    obtain ⟨v, hv, wv⟩ := paired_get (pair_p (ρ := ρ') (B := B') h2) hu'
    obtain ⟨v2, hv2, wv2⟩ := paired_get (pair_p (ρ := ρ') (B := B') h4) hv'
    rw [hz] at hv
    rw [hz2] at hv2
    cases hv
    cases hv2
    exact ⟨upd_keep hT, T, _, rfl, .inl (.inl upd_same), .cons (wv.stp (.of (upd_keep hT)) L.rs) (.cons (wv2.stp (.of (upd_keep hT)) L.rs) .nil)⟩
def gZip (a b : W) (m : Mu) : R (List Itm) := match seqD a, seqD b with
  | some ds, some cs => .ok (zipI (ds.map .p) (cs.map .p)) m
  | _, _ => .bad
def fZip (f g : FE) : FI := fun η m => (f η m).bd fun a m => (g η m).bd fun b m => gZip a b m
theorem si_zip {f g : FE} (hg : Gl X "zip") (hm : X.mg "zip" = none) (he : SE X XR Wx e f) (he1 : SE X XR Wx e1 g) (ns : noStar e = true) (ns1 : noStar e1 = true) : SI X XR Wx (.Tuple elts kk tpos) (.Call (.Name "zip" p) [e, e1] [] pos) (fZip f g) := by
  refine ⟨fun pins s σ H R I ⟨B, ρ, η, m, rl, c⟩ => ?_⟩
  have hs1 := star_cons (es := []) (env := X.env) ns1
  have hs := star_cons (es := [e1]) (env := X.env) ns
  refine PyProof.Rows.Call_ (ld_blt I hg hm PyProof.Rows.boot_zip (PyProof.Rows.callWith_type1 (thn ((pa_cons he (pa_cons he1 pa_nil hs1) hs).run pos pins s σ H (fun vs H1 => ∃ x y ρ1 m1 a b, vs = [x, y] ∧ RS X.w X.K B ρ1 H1 m1 ∧ WV X.w X.K B ρ1 H1 x a ∧ WV X.w X.K B ρ1 H1 y b ∧ Cn X.w X.K XR (fun B ρ H J its => Gv X.w X.K B ρ H J its) B ρ1 H1 (fun c d => Wx c d σ) (gZip a b m1) R) I
    ⟨B, ρ, η, m, rl, Cn.bd c rl.rs fun a m1 x H1 ρ1 _ s1 rs1 wa c1 => ⟨B, ρ1, η, m1, rl.stp s1 rs1, Cn.bd c1 rs1 fun b m2 y H2 ρ2 _ s2 rs2 wb c2 => ⟨x, y, ρ2, m2, a, b, rfl, rs2, wa.stp s2 rs1, wb, c2⟩⟩⟩) fun us s1 ⟨vs, H1, I1, r1, x, y, ρ1, m1, a, b, ev, rs1, wa, wb, c1⟩ => ?_) hs (by rw [hs1]; rfl)))
  subst ev
  obtain ⟨u, u2, rfl, rx, ry⟩ := r1.two
  unfold gZip at c1
  split at c1
  · rename_i ds cs hd hcs
    obtain ⟨k, ad, xs, rfl, l⟩ := seqD_lay rs1 wa hd
    obtain ⟨k2, ad2, ys, rfl, l2⟩ := seqD_lay rs1 wb hcs
    cases rx
    cases ry
    obtain ⟨its, rv, p', hz, hlt⟩ := seq_k I1 (l.here rs1).1
    obtain ⟨its2, rv2, p2, hz2, hlt2⟩ := seq_k I1 (l2.here rs1).1
    refine zip_begins2 (begins_sq k ad its.toArray) (begins_sq k2 ad2 its2.toArray) p' p2 fun h' hz hTI hTO h1 h2 hsz hk => wpAny_pyIter_zip hz ?_
    have I2 : Inv X pins σ H1 { s1 with heap := h' } := I1.kept (t' := s1.toks) hk
    refine ⟨s1.heap.objs.size + 4, zfp s1.heap.objs.size, _, _, H1, rfl, I2, turn_zp k k2 ad ad2 s1.heap.objs.size xs ys hlt hlt2, ⟨hz, hTI, ⟨_, _, hTO⟩, isIt_obj h1, isIt_obj h2⟩, fun c hc => ?_, c1.here rs1 (gv_zp rs1 l l2)⟩
    have e' : c = s1.heap.objs.size + 4 ∨ c = s1.heap.objs.size + 2 ∨ c = s1.heap.objs.size + 3 ∨ c = s1.heap.objs.size ∨ c = s1.heap.objs.size + 1 := by simpa [zfp] using hc
    have hle : s1.heap.objs.size ≤ c := by
      rcases e' with z | z | z | z | z <;> rw [z] <;> first | exact Nat.le_add_right _ _ | exact Nat.le_refl _
    exact I1.fpOk hle (I1.hok.fresh hle)
  · exact c1.elim
end
end Pg

namespace Pg
open PySem L2
inductive Tg where
  | nm (i : Nat) | tp (is : List Nat)
def Tg.slots : Tg → List Nat
  | .nm i => [i]
  | .tp is => is
def asgs : List Nat → List W → Env → Option Env
  | [], us, η => (match us with | [] => some η | _ :: _ => none)
  | i :: is, us, η => (match us with | u :: us => asgs is us (η.set i (some u)) | [] => none)
def Tg.asg (g : Tg) (t : Itm) (η : Env) : Option Env := match g with
  | .nm i => (match t with
    | .one u => some (η.set i (some u))
    | .many _ => none)
  | .tp is => (match t with
    | .many us => asgs is us η
    | .one (.p (.tuple ds)) => asgs is (ds.map .p) η
    | .one _ => none)
section
variable {w : World} {K : PySem.W.Frag} {B B' : Addr → Prop} {ρ : List Addr} {H : Hp} {m : Mu} {σ : St} {η : Env}
theorem get_set_self {η : Env} {i : Nat} {o : Option W} (h : i < η.length) : get (η.set i o) i = o := by
  unfold get
  rw [List.getElem?_set_self h]
  cases o <;> rfl
theorem get_set_ne {η : Env} {i j : Nat} {o : Option W} (h : i ≠ j) : get (η.set i o) j = get η j := by
  unfold get
  rw [List.getElem?_set_ne h]
theorem Rel.set {i : Nat} {v : V} {u : W} (r : Rel w K B ρ σ H η m) (wv : WV w K B ρ H v u) : Rel w K B ρ (σ.set i (some v)) H (η.set i (some u)) m := by
  refine ⟨r.rs, by rw [List.length_set, List.length_set]; exact r.len, fun j x hj => ?_⟩
  by_cases e : i = j
  · subst e
    by_cases hl : i < η.length
    · rw [get_set_self hl] at hj
      cases hj
      exact ⟨v, List.getElem?_set_self (by rw [← r.len]; exact hl), wv⟩
    · have : η.set i (some u) = η := List.set_eq_of_length_le (by omega)
      rw [this] at hj
      obtain ⟨v', h1, h2⟩ := r.ev i x hj
      have : σ.set i (some v) = σ := List.set_eq_of_length_le (by rw [← r.len]; omega)
      rw [this]
      exact ⟨v', h1, h2⟩
  · rw [get_set_ne e] at hj
    obtain ⟨v', h1, h2⟩ := r.ev j x hj
    exact ⟨v', by rw [List.getElem?_set_ne e]; exact h1, h2⟩
def wipeE (η : Env) : List Nat → Env
  | [] => η
  | v :: vs => (wipeE η vs).set v none
theorem wipeE_get {j : Nat} {u : W} : ∀ {vs : List Nat}, get (wipeE η vs) j = some u → get η j = some u ∧ j ∉ vs
  | [], h => ⟨h, by simp⟩
  | v :: vs, h => by
    unfold wipeE at h
    by_cases e : v = j
    · subst e
      by_cases hl : v < (wipeE η vs).length
      · rw [get_set_self hl] at h; cases h
      · have : (wipeE η vs).set v none = wipeE η vs := List.set_eq_of_length_le (by omega)
        rw [this] at h
        unfold get at h
        rw [List.getElem?_eq_none (by omega)] at h
        cases h
    · rw [get_set_ne e] at h
      obtain ⟨h1, h2⟩ := wipeE_get h
      exact ⟨h1, by simp only [List.mem_cons, not_or]; exact ⟨fun z => e z.symm, h2⟩⟩
theorem wipe_out {j : Nat} : ∀ {vs : List Nat}, j ∉ vs → (wipe σ vs)[j]? = σ[j]?
  | [], _ => rfl
  | v :: vs, h => by
    simp only [List.mem_cons, not_or] at h
    unfold wipe
    rw [List.getElem?_set_ne (Ne.symm h.1)]
    exact wipe_out h.2
theorem wipeE_length : ∀ vs : List Nat, (wipeE η vs).length = η.length
  | [] => rfl
  | v :: vs => by unfold wipeE; rw [List.length_set, wipeE_length vs]
theorem Rel.wipe (r : Rel w K B ρ σ H η m) (vs : List Nat) : Rel w K B ρ (L2.wipe σ vs) H (wipeE η vs) m := by
  refine ⟨r.rs, by rw [wipeE_length, wipe_length]; exact r.len, fun j x hj => ?_⟩
  obtain ⟨h1, h2⟩ := wipeE_get hj
  obtain ⟨v, h3, h4⟩ := r.ev j x h1
  exact ⟨v, by rw [wipe_out h2]; exact h3, h4⟩
theorem wipe_set {i : Nat} {o : Option V} : ∀ {vs : List Nat}, i ∈ vs → wipe (σ.set i o) vs = wipe σ vs := by
  intro vs hi
  apply List.ext_getElem?
  intro j
  by_cases hj : j ∈ vs
  · have key : ∀ τ : St, τ.length = σ.length → (wipe τ vs)[j]? = if j < σ.length then some none else none := fun τ hl => by
      by_cases hjl : j < σ.length
      · rw [if_pos hjl]
        have : ∃ y, (wipe τ vs)[j]? = some y := ⟨(wipe τ vs)[j]'(by rw [wipe_length, hl]; exact hjl), List.getElem?_eq_getElem _⟩
        obtain ⟨y, hy⟩ := this
        cases y with
        | none => exact hy
        | some y => exact absurd hj (wipe_some hy).2
      · rw [if_neg hjl, List.getElem?_eq_none (by rw [wipe_length, hl]; omega)]
    rw [key _ (by rw [List.length_set]), key _ rfl]
  · rw [wipe_out hj, wipe_out hj, List.getElem?_set_ne (fun e => hj (by rw [← e]; exact hi))]
theorem wipe_wipe (vs : List Nat) : wipe (wipe σ vs) vs = wipe σ vs := by
  have : ∀ us : List Nat, (∀ i ∈ us, i ∈ vs) → wipe (wipe σ us) vs = wipe σ vs := by
    intro us
    induction us with
    | nil => intro _; rfl
    | cons v us ih =>
      intro h
      show wipe ((wipe σ us).set v none) vs = _
      rw [wipe_set (h v (List.mem_cons_self ..))]
      exact ih fun i hi => h i (List.mem_cons_of_mem _ hi)
  exact this vs fun _ h => h
/-- less is forbidden -/
theorem Kp.less {F F' : Addr → Prop} (h : ∀ a, F' a → F a) : Kp F F' H H := ⟨fun a o e n => ⟨e, fun z => n (h a z)⟩, fun a o e _ => e⟩
theorem WV.less {v : V} (h : ∀ a, B' a → B a) : ∀ {u : W}, WV w K B ρ H v u → WV w K B' ρ H v u
  | .p d, q => DV.kp (Kp.less fun a z => z.elim (fun z => .inl (h a z)) .inr) q
  | .r i, q => q
theorem RS.less (h : ∀ a, B' a → B a) (rs : RS w K B ρ H m) : RS w K B' ρ H m := by
  refine ⟨rs.nd, rs.len, fun i a o ha ho => ?_, fun a z => rs.bt a (h a z)⟩
  have := rs.at_ i a o ha ho
  cases o with
  | lst ws =>
    obtain ⟨xs, e, l, p⟩ := this
    exact ⟨xs, e, l, Paired.imp' (fun _ _ q => WV.less h q) p⟩
  | dic ks =>
    obtain ⟨es, ep, e, y, l, o, p⟩ := this
    refine ⟨es, ep, e, y, l, o, Paired.imp' (fun _ _ q => ?_) p⟩
    obtain ⟨v, u, kk, q1, q2, q3, q5, q6, q7⟩ := q
    exact ⟨v, u, kk, q1, DV.kp (Kp.less fun a z => z.elim (fun z => .inl (h a z)) .inr) q2, q3, q5, q6, WV.less h q7⟩
end
section
variable {X : Cx} {XR : XRel} {Wx : WX} {e tgE iter elt : Expr} {es elts ifs : List Expr} {pos : Pos}
def tG (X : Cx) (g : Tg) : TG := fun v σ H Q => ∃ B ρ η m t η', Rel X.w X.K B ρ σ H η m ∧ IV X.w X.K B ρ H v t ∧ g.asg t η = some η' ∧ ∀ σ', Rel X.w X.K B ρ σ' H η' m → (∀ vs, (∀ i ∈ g.slots, i ∈ vs) → wipe σ' vs = wipe σ vs) → Q σ' H
abbrev SG (X : Cx) (e : Expr) (g : Tg) : Prop := PG X e (tG X g)
theorem pg_imp {X : Cx} {e : Expr} {t t' : TG} (h : PG X e t) (i : ∀ v σ H Q, t' v σ H Q → t v σ H Q) : PG X e t' := ⟨fun p s σ H v u Q I r x => h.run p s σ H v u Q I r (i _ _ _ _ x)⟩
theorem sg_nm {i : Nat} {x : Str} (hN : X.N.Nodup) (hi : X.N[i]? = some x) (hx : Loc X.env.scope x) (hf : X.fn x = true ∨ X.env.scope.names.lookup x = some .local) : SG X (.Name x pos) (.nm i) :=
  pg_imp (pg_name hN hi hx hf) fun v σ H Q ⟨B, ρ, η, m, t, η', rl, iv, ha, q⟩ => by
    cases t with
    | one u =>
      cases ha
      exact q _ (rl.set iv) fun vs hs => wipe_set (hs i (List.mem_singleton.mpr rfl))
    | many us => cases ha
/-- names one behind the other -/
inductive Names (X : Cx) : List Expr → List Nat → Prop
  | nil : Names X [] []
  | cons {i : Nat} {x : Str} {pos : Pos} {es : List Expr} {is : List Nat} : X.N[i]? = some x → Loc X.env.scope x → (X.fn x = true ∨ X.env.scope.names.lookup x = some .local) → Names X es is → Names X (.Name x pos :: es) (i :: is)
def tGs (X : Cx) (is : List Nat) : TGs := fun vs σ H Q => ∃ B ρ η m us η', Rel X.w X.K B ρ σ H η m ∧ Paired (WV X.w X.K B ρ H) vs us ∧ asgs is us η = some η' ∧ ∀ σ', Rel X.w X.K B ρ σ' H η' m → (∀ vs, (∀ i ∈ is, i ∈ vs) → wipe σ' vs = wipe σ vs) → Q σ' H
theorem pgs_imp {X : Cx} {e : List Expr} {t t' : TGs} (h : PGs X e t) (i : ∀ v σ H Q, t' v σ H Q → t v σ H Q) : PGs X e t' := ⟨fun p s σ H v u Q I r x => h.run p s σ H v u Q I r (i _ _ _ _ x)⟩
theorem sgs_of (hN : X.N.Nodup) : ∀ {es : List Expr} {is : List Nat}, Names X es is → PGs X es (tGs X is)
  | _, _, .nil => pgs_imp pgs_nil fun vs σ H Q ⟨B, ρ, η, m, us, η', rl, p, ha, q⟩ => by
    cases p with
    | nil => cases ha; exact ⟨rfl, q σ rl fun _ _ => rfl⟩
    | cons _ _ => cases ha
  | _, _, .cons (i := i) (is := is) h1 h2 h3 r => pgs_imp (pgs_cons (pg_name hN h1 h2 h3) (sgs_of hN r)) fun vs σ H Q ⟨B, ρ, η, m, us, η', rl, p, ha, q⟩ => by
    cases p with
    | nil => cases ha
    | cons wv pr =>
      refine ⟨_, _, rfl, B, ρ, _, m, _, η', rl.set wv, pr, ha, fun σ' rl' hw => q σ' rl' fun ws hs => ?_⟩
      rw [hw ws fun j hj => hs j (List.mem_cons_of_mem _ hj)]
      exact wipe_set (hs i (List.mem_cons_self ..))
theorem names_each {es : List Expr} {is : List Nat} (h : Names X es is) : (assignEach es X.env).length = is.length ∧ (assignEach es X.env).findIdx? (·.1) = none := by
  induction h with
  | nil => exact ⟨rfl, rfl⟩
  | @cons i x pos es is h1 h2 h3 r ih =>
    have e : assignEach (.Name x pos :: es) X.env = (false, assign (.Name x pos) X.env) :: assignEach es X.env := rfl
    rw [e]
    refine ⟨by rw [List.length_cons, List.length_cons, ih.1], ?_⟩
    rw [List.findIdx?_cons, ih.2]
    rfl
theorem asgs_len : ∀ {is : List Nat} {us : List W} {η η' : Env}, asgs is us η = some η' → us.length = is.length
  | [], [], _, _, _ => rfl
  | [], _ :: _, _, _, h => by cases h
  | _ :: _, [], _, _, h => by cases h
  | _ :: is, _ :: us, _, _, h => by
    have := asgs_len (is := is) (us := us) h
    simp [this]
theorem sg_tp {is : List Nat} {kk : Nat} (hc : X.calm = true) (hN : X.N.Nodup) (h : Names X elts is) : SG X (.Tuple elts kk pos) (.tp is) := by
  obtain ⟨h1, h2⟩ := names_each h
  refine pg_imp (pg_tup (n := is.length) hc (sgs_of hN h) h1 h2) fun v σ H Q ⟨B, ρ, η, m, t, η', rl, iv, ha, q⟩ => ?_
  cases t with
  | many us =>
    obtain ⟨a, xs, rfl, hs, p⟩ := iv
    have hl := asgs_len (show asgs is us η = some η' from ha)
    exact ⟨a, xs, rfl, hs, by rw [Paired.length p]; exact hl, B, ρ, η, m, us, η', rl, p, ha, q⟩
  | one u =>
    cases u with
    | r i => cases ha
    | p d =>
      cases d with
      | tuple ds =>
        obtain ⟨a, xs, rfl, hs, lx, dx⟩ := (VV.dv (show DV X.w X.K (Fb B ρ) H v (.tuple ds) from iv)).tup
        have p := pair_p (B := B) (ρ := ρ) dx
        have hl := asgs_len (show asgs is (ds.map .p) η = some η' from ha)
        exact ⟨a, xs, rfl, hs, by rw [Paired.length p]; exact hl, B, ρ, η, m, _, η', rl, p, ha, q⟩
      | _ => cases ha
def noX {α : Type} : R α → R α
  | .ok a m => .ok a m
  | .exc _ _ _ => .bad
  | .bad => .bad
def fYes : FT := fun _ m => .ok true m
abbrev FTs := FT
def lcGo (g : Tg) (c : FT) (el : FE) (η : Env) : List Itm → List W → Mu → R (List W)
  | [], acc, m => .ok acc m
  | t :: r, acc, m => (match g.asg t η with
    | some η' => (noX (c η' m)).bd fun b m => (match b with
      | true => (noX (el η' m)).bd fun u m => lcGo g c el η r (acc ++ [u]) m
      | false => lcGo g c el η r acc m)
    | none => .bad)
def lcRun (vs : List Nat) (g : Tg) (it : FI) (c : FT) (el : FE) : FA := fun η m => (it η m).bd fun its m => if its.length ≤ ln then noX (lcGo g c el (wipeE η vs) its [] m) else .bad
/-- [..] of data -/
def fLc (vs : List Nat) (g : Tg) (it : FI) (c : FT) (el : FE) : FE := fun η m => (lcRun vs g it c el η m).bd fun l m => up (pures l) m fun ds => .ok (.p (.list ds)) m
/-- [..] that may be changed later -/
def fLcM (vs : List Nat) (g : Tg) (it : FI) (c : FT) (el : FE) : FE := fun η m => (lcRun vs g it c el η m).bd fun l m => .ok (.r m.length) (m ++ [.lst l])
abbrev W0 : WX := fun _ _ _ _ => False
theorem cn_noX {α β : Type} {w : World} {K : PySem.W.Frag} {rel : (Addr → Prop) → List Addr → Hp → β → α → Prop} {B : Addr → Prop} {ρ : List Addr} {H : Hp} {Xw Xw' : Value → Option Addr → Hp → Prop} {r : R α} {Q : β → Hp → Prop} (h : Cn w K XR rel B ρ H Xw (noX r) Q) : Cn w K XR rel B ρ H Xw' r Q := by
  cases r with
  | ok a m => exact h
  | exc c d m => exact h.elim
  | bad => exact h
/-- with D forbidden too -/
def BD (B : Addr → Prop) (D : Addr) : Addr → Prop := fun a => B a ∨ a = D
theorem cn_to {α β : Type} {w : World} {K : PySem.W.Frag} {rel rel' : (Addr → Prop) → List Addr → Hp → β → α → Prop} {B B' : Addr → Prop} {ρ : List Addr} {H : Hp} {Xw Xw' : Value → Option Addr → Hp → Prop} {r r' : R α} {Q : β → Hp → Prop} (e : r = r') (h : Cn w K XR rel B ρ H Xw r Q) : Cn w K XR rel B ρ H Xw r' Q := e ▸ h
/-- later on -/
structure Ltr (F F' : Addr → Prop) (ρ : List Addr) (H : Hp) (ρ' : List Addr) (H' : Hp) : Prop where
  kp : Kp F F' H H'
  ex : ∃ n, ρ' = ρ ++ n
theorem Kp.trans {F F' F2 : Addr → Prop} {H H' H2 : Hp} (a : Kp F F' H H') (b : Kp F' F2 H' H2) : Kp F F2 H H2 :=
  ⟨fun x o e n => let ⟨e1, n1⟩ := a.keep x o e n; b.keep x o e1 n1, fun x o e t => b.tup x o (a.tup x o e t) t⟩
theorem Ltr.trans {F F' F2 : Addr → Prop} {ρ ρ' ρ2 : List Addr} {H H' H2 : Hp} (a : Ltr F F' ρ H ρ' H') (b : Ltr F' F2 ρ' H' ρ2 H2) : Ltr F F2 ρ H ρ2 H2 :=
  ⟨a.kp.trans b.kp, let ⟨n, e⟩ := a.ex; let ⟨n2, e2⟩ := b.ex; ⟨n ++ n2, by rw [e2, e, List.append_assoc]⟩⟩
theorem Ltr.of {B : Addr → Prop} {ρ ρ' : List Addr} {H H' : Hp} {m : Mu} (r : RS X.w X.K B ρ H m) (s : Stp ρ H ρ' H') : Ltr (Fb B ρ) (Fb B ρ') ρ H ρ' H' := ⟨s.kp r, let ⟨⟨n, e, _⟩, _⟩ := s; ⟨n, e⟩⟩
theorem Ltr.refl {F : Addr → Prop} {ρ : List Addr} {H : Hp} : Ltr F F ρ H ρ H := ⟨⟨fun _ _ e n => ⟨e, n⟩, fun _ _ e _ => e⟩, [], by simp⟩
theorem Ltr.wv {B B' : Addr → Prop} {ρ ρ' : List Addr} {H H' : Hp} {v : V} (l : Ltr (Fb B ρ) (Fb B' ρ') ρ H ρ' H') : ∀ {u : W}, WV X.w X.K B ρ H v u → WV X.w X.K B' ρ' H' v u
  | .p d, q => DV.kp l.kp q
  | .r i, ⟨a, h1, h2⟩ => let ⟨n, e⟩ := l.ex; ⟨a, by rw [e, List.getElem?_append_left (List.getElem?_eq_some_iff.mp h1).1]; exact h1, h2⟩
theorem Ltr.rel {B B' : Addr → Prop} {ρ ρ' : List Addr} {H H' : Hp} {m m' : Mu} {σ : St} {η : Env} (l : Ltr (Fb B ρ) (Fb B' ρ') ρ H ρ' H') (r : Rel X.w X.K B ρ σ H η m) (rs : RS X.w X.K B' ρ' H' m') : Rel X.w X.K B' ρ' σ H' η m' :=
  ⟨rs, r.len, fun i u h => let ⟨v, h1, h2⟩ := r.ev i u h; ⟨v, h1, l.wv h2⟩⟩
theorem Ltr.gv {B B' : Addr → Prop} {ρ ρ' : List Addr} {H H' : Hp} {J : It} {its : List Itm} (l : Ltr (Fb B ρ) (Fb B' ρ') ρ H ρ' H') (g : Gv X.w X.K B ρ H J its) : Gv X.w X.K B' ρ' H' J its := by
  have k : ∀ {B2 : Addr → Prop} {ρ2 : List Addr} {H2 : Hp} {m2 : Mu}, Lat X.w X.K B' ρ' H' B2 ρ2 H2 m2 → Lat X.w X.K B ρ H B2 ρ2 H2 m2 := fun L => ⟨l.kp.trans L.kp, (let ⟨n, e⟩ := l.ex; let ⟨n2, e2⟩ := L.ex; ⟨n ++ n2, by rw [e2, e, List.append_assoc]⟩), L.rs⟩
  exact ⟨fun i B2 ρ2 H2 m2 L h => g.go i _ _ _ _ (k L) h, fun B2 ρ2 H2 m2 L => g.stop _ _ _ _ (k L), fun i B2 ρ2 H2 m2 x H3 u L hu y => g.yld i _ _ _ _ x H3 u (k L) hu y⟩
/-- the state of the loop: the new list at D -/
structure LcS (X : Cx) (B : Addr → Prop) (ρ1 : List Addr) (H1 : Hp) (D : Addr) (H : Hp) (ρ : List Addr) (m : Mu) (ws : List W) : Prop where
  st : Stp ρ1 H1 ρ H
  rs : RS X.w X.K (BD B D) ρ H m
  ac : ∃ xs, H D = some (.lst xs) ∧ Paired (WV X.w X.K (BD B D) ρ H) xs ws
theorem BD.w {B : Addr → Prop} {D : Addr} : ∀ a, B a → BD B D a := fun a h => .inl h
abbrev FD (B : Addr → Prop) (D : Addr) (ρ : List Addr) : Addr → Prop := Fb (BD B D) ρ
/-- D is written -/
theorem LcS.write {B : Addr → Prop} {ρ1 ρ : List Addr} {H1 H : Hp} {D : Addr} {m : Mu} {ws : List W} {v : V} {u : W} (hD : H1 D = none) (s : LcS X B ρ1 H1 D H ρ m ws) (wv : WV X.w X.K (BD B D) ρ H v u) :
    ∃ xs, H D = some (.lst xs) ∧ xs.length = ws.length ∧ LcS X B ρ1 H1 D (upd H D (.lst (xs ++ [v]))) ρ m (ws ++ [u]) ∧ Ltr (FD B D ρ) (FD B D ρ) ρ H ρ (upd H D (.lst (xs ++ [v]))) := by
  obtain ⟨xs, e, p⟩ := s.ac
  have kp : Kp (Fb (BD B D) ρ) (Fb (BD B D) ρ) H (upd H D (.lst (xs ++ [v]))) := ⟨fun a o q n => ⟨by rw [upd_ne (fun z => n (.inl (.inr z)))]; exact q, n⟩, fun a o q t => by
    rw [upd_ne (fun z => ?_)]
    · exact q
    · subst z
      rw [e] at q
      cases q
      obtain ⟨ys, t | ⟨_, t⟩⟩ := t <;> cases t⟩
  have lt : Ltr (FD B D ρ) (FD B D ρ) ρ H ρ (upd H D (.lst (xs ++ [v]))) := ⟨kp, [], by simp⟩
  refine ⟨xs, e, Paired.length p, ?_, lt⟩
  have nD : D ∉ ρ := (s.rs.bt D (.inr rfl)).2
  refine ⟨⟨s.st.ext, fun a o q n => ?_⟩, ⟨s.rs.nd, s.rs.len, fun j a o ha ho => ?_, fun a q => ⟨?_, (s.rs.bt a q).2⟩⟩, xs ++ [v], upd_same, paired_app (Paired.imp' (fun _ _ q => lt.wv q) p) (.cons (lt.wv wv) .nil)⟩
  · rw [upd_ne (fun z => by rw [z, hD] at q; cases q)]
    exact s.st.keep a o q n
  · have na : a ≠ D := fun z => by rw [z] at ha; exact nD (List.mem_of_getElem? ha)
    have q := s.rs.at_ j a o ha ho
    cases o with
    | lst ys =>
      obtain ⟨zs, e', l', p'⟩ := q
      exact ⟨zs, by rw [upd_ne na]; exact e', l', Paired.imp' (fun _ _ q => lt.wv q) p'⟩
    | dic ks =>
      obtain ⟨es, ep, e', y', l', o', p'⟩ := q
      refine ⟨es, ep, by rw [upd_ne na]; exact e', y', l', o', Paired.imp' (fun _ _ q => ?_) p'⟩
      obtain ⟨a1, a2, kk, q1, q2, q3, q5, q6, q7⟩ := q
      exact ⟨a1, a2, kk, q1, DV.kp kp q2, q3, q5, q6, lt.wv q7⟩
  · by_cases z : a = D
    · rw [z, upd_same]; simp
    · rw [upd_ne z]; exact (s.rs.bt a q).1
/-- an evaluation within the loop -/
theorem LcS.ev {B : Addr → Prop} {ρ1 ρ ρ' : List Addr} {H1 H H' : Hp} {D : Addr} {m m' m1 : Mu} {ws : List W} (r1 : RS X.w X.K B ρ1 H1 m1) (s : LcS X B ρ1 H1 D H ρ m ws) (st : Stp ρ H ρ' H') (rs : RS X.w X.K (BD B D) ρ' H' m') : LcS X B ρ1 H1 D H' ρ' m' ws := by
  obtain ⟨xs, e, p⟩ := s.ac
  exact ⟨s.st.trans r1 (s.rs.less BD.w) st, rs, xs, st.keep D _ e (s.rs.bt D (.inr rfl)).2, Paired.wv st s.rs p⟩
/-- what is wanted of a comprehension's end: nothing of an exception -/
structure LcQ (LE : R (List W) → Prop) : Prop where
  bad : ¬ LE .bad
  exc : ∀ c d m, ¬ LE (.exc c d m)
theorem LcQ.cn {LE : R (List W) → Prop} (hq : LcQ LE) {α : Type} {β : Type} {rel : (Addr → Prop) → List Addr → Hp → β → α → Prop} {B : Addr → Prop} {ρ1 ρ : List Addr} {H1 H : Hp} {D : Addr} {m m1 : Mu} {ws : List W} {r : R α} {k : α → Mu → R (List W)} {Q' : β → Hp → Prop} {Xw : Value → Option Addr → Hp → Prop}
    (r1 : RS X.w X.K B ρ1 H1 m1) (s : LcS X B ρ1 H1 D H ρ m ws) (h : LE ((noX r).bd k)) (hk : ∀ a m' b H' ρ', LcS X B ρ1 H1 D H' ρ' m' ws → Stp ρ H ρ' H' → rel (BD B D) ρ' H' b a → LE (k a m') → Q' b H') : Cn X.w X.K XR rel (BD B D) ρ H Xw r Q' := by
  cases r with
  | ok a m' => exact fun b H' ρ' st rs rl => hk a m' b H' ρ' (s.ev r1 st rs) st rl h
  | exc c d m' => exact (hq.bad h).elim
  | bad => exact (hq.bad h).elim
/-- one loop of a comprehension -/
theorem lcs_loop {LE : R (List W) → Prop} (hq : LcQ LE) {vs : List Nat} {g : Tg} {c : FT} {el : FE} {σ : St} {η0 : Env} {B : Addr → Prop} {ρ1 ρ0 : List Addr} {H1 H0 : Hp} {D : Addr} {m0 m1 : Mu} {ws0 : List W} {J : It} {its : List Itm} {cont : Hp → Prop} (gs : ∀ i ∈ g.slots, i ∈ vs)
    (r1 : RS X.w X.K B ρ1 H1 m1) (hD : H1 D = none) (base : Rel X.w X.K (BD B D) ρ0 (wipe σ vs) H0 η0 m0) (gv : Gv X.w X.K (BD B D) ρ0 H0 J its) (s0 : LcS X B ρ1 H1 D H0 ρ0 m0 ws0) (hz : ws0.length + its.length ≤ ln) {kk : List W → Mu → R (List W)}
    (le0 : LE ((lcGo g c el η0 its ws0 m0).bd kk)) (hend : ∀ ws m H ρ, LcS X B ρ1 H1 D H ρ m ws → Ltr (FD B D ρ0) (FD B D ρ) ρ0 H0 ρ H → LE (kk ws m) → cont H) :
    ∃ W1 : Nat → Nat → Hp → Prop, (∃ m, W1 0 m H0) ∧ ∀ j k H, W1 j k H → (J.stop j H ∧ cont H) ∨ (J.go j H ∧ ∃ Nx1 : Hp → Prop, (∀ H', Nx1 H' → ∃ k', k' < k ∧ W1 (j + 1) k' H') ∧ ∀ x H', J.yld j H x H' → (tG X g) x (wipe σ vs) H' fun σ3 H5 => wipe σ3 vs = wipe σ vs ∧ (tT X XR W0 c) σ3 H5 fun b H6 =>
      if b = true then (tE X XR W0 el) σ3 H6 fun y H7 => ∃ acc, H7 D = some (.lst acc) ∧ acc.length < sizeLine ∧ Nx1 (upd H7 D (.lst (acc ++ [y]))) else Nx1 H6) := by
  refine ⟨fun i k H2 => k = its.length - i ∧ i ≤ its.length ∧ ∃ ρ2 m2 ws, LcS X B ρ1 H1 D H2 ρ2 m2 ws ∧ Ltr (FD B D ρ0) (FD B D ρ2) ρ0 H0 ρ2 H2 ∧ ws.length ≤ ws0.length + i ∧ LE ((lcGo g c el η0 (its.drop i) ws m2).bd kk), ⟨its.length, by simp, Nat.zero_le _, ρ0, m0, ws0, s0, .refl, Nat.le_refl _, le0⟩, ?_⟩
  rintro i k H2 ⟨rfl, hi, ρ2, m2, ws, s, lt, hw, le⟩
  have lat : ∀ {H2 : Hp} {ρ2 : List Addr} {m2 : Mu} {ws : List W}, LcS X B ρ1 H1 D H2 ρ2 m2 ws → Ltr (FD B D ρ0) (FD B D ρ2) ρ0 H0 ρ2 H2 → Lat X.w X.K (BD B D) ρ0 H0 (BD B D) ρ2 H2 m2 := fun s lt => ⟨lt.kp, lt.ex, s.rs⟩
  by_cases hlt : i < its.length
  · refine .inr ⟨gv.go i _ ρ2 H2 m2 (lat s lt) hlt, fun H' => ∃ ρ2 m2 ws, LcS X B ρ1 H1 D H' ρ2 m2 ws ∧ Ltr (FD B D ρ0) (FD B D ρ2) ρ0 H0 ρ2 H' ∧ ws.length ≤ ws0.length + (i + 1) ∧ LE ((lcGo g c el η0 (its.drop (i + 1)) ws m2).bd kk),
      fun H' ⟨ρ3, m3, ws3, s3, lt3, hw3, l3⟩ => ⟨its.length - (i + 1), by omega, rfl, hlt, ρ3, m3, ws3, s3, lt3, hw3, l3⟩, fun x H' y => ?_⟩
    have hit : its[i]? = some its[i] := List.getElem?_eq_getElem hlt
    obtain ⟨k2, iv⟩ := gv.yld i _ ρ2 H2 m2 x H' its[i] (lat s lt) hit y
    have st2 : Stp ρ2 H2 ρ2 H' := .of k2
    have s2 : LcS X B ρ1 H1 D H' ρ2 m2 ws := s.ev r1 st2 (s.rs.grow k2)
    have lt2 := lt.trans (.of s.rs st2)
    rw [List.drop_eq_getElem_cons hlt] at le
    unfold lcGo at le
    split at le
    · rename_i η' hη
      refine ⟨BD B D, ρ2, η0, m2, its[i], η', lt2.rel base s2.rs, iv, hη, fun σ' rl' hw' => ⟨by rw [hw' vs gs, wipe_wipe], BD B D, ρ2, η', m2, rl', ?_⟩⟩
      have le : LE ((noX (c η' m2)).bd fun b m => (match b with
        | true => (noX (el η' m)).bd fun u m => lcGo g c el η0 (its.drop (i + 1)) (ws ++ [u]) m
        | false => lcGo g c el η0 (its.drop (i + 1)) ws m).bd kk) := by
        cases q : noX (c η' m2) <;> rw [q] at le <;> exact le
      refine LcQ.cn hq r1 s2 le fun b m3 b' H3 ρ3 s3 st3 eb le3 => ?_
      subst eb
      have rl3 := rl'.stp st3 s3.rs
      have lt3 := lt2.trans (.of s2.rs st3)
      cases b' with
      | true =>
        rw [if_pos rfl]
        have le3 : LE ((noX (el η' m3)).bd fun u m => (lcGo g c el η0 (its.drop (i + 1)) (ws ++ [u]) m).bd kk) := by
          cases q : noX (el η' m3) <;> simp only [q] at le3 <;> exact le3
        refine ⟨BD B D, ρ3, η', m3, rl3, LcQ.cn hq r1 s3 le3 fun u m4 v H4 ρ4 s4 st4 wv le4 => ?_⟩
        obtain ⟨xs, e1, e2, s5, lt5⟩ := s4.write hD wv
        refine ⟨xs, e1, ?_, ρ4, m4, _, s5, (lt3.trans (.of s3.rs st4)).trans lt5, ?_, le4⟩
        · rw [ln_eq, e2]
          omega
        · rw [List.length_append, List.length_singleton]
          omega
      | false =>
        rw [if_neg Bool.false_ne_true]
        exact ⟨ρ3, m3, ws, s3, lt3, by omega, le3⟩
    · exact (hq.bad le).elim
  · have e : i = its.length := by omega
    subst e
    rw [List.drop_length] at le
    exact .inl ⟨gv.stop _ ρ2 H2 m2 (lat s lt), hend ws m2 H2 ρ2 s lt le⟩
/-- the start -/
theorem lcs_start {B : Addr → Prop} {ρ1 : List Addr} {H1 : Hp} {D : Addr} {m1 : Mu} (rs1 : RS X.w X.K B ρ1 H1 m1) (hD : H1 D = none) : LcS X B ρ1 H1 D (upd H1 D (.lst [])) ρ1 m1 [] ∧ Ltr (Fb B ρ1) (FD B D ρ1) ρ1 H1 ρ1 (upd H1 D (.lst [])) := by
  have nB : ¬ B D := fun z => (rs1.bt D z).1 hD
  have nρ : D ∉ ρ1 := fun z => rs1.alive z hD
  have kp0 : Kp (Fb B ρ1) (Fb (BD B D) ρ1) H1 (upd H1 D (.lst [])) := ⟨fun a o q n => ⟨upd_keep hD a o q, fun z => z.elim (fun z => z.elim (fun z => n (.inl z)) fun z => by rw [z, hD] at q; cases q) fun z => n (.inr z)⟩, fun a o q _ => upd_keep hD a o q⟩
  have lt : Ltr (Fb B ρ1) (FD B D ρ1) ρ1 H1 ρ1 (upd H1 D (.lst [])) := ⟨kp0, [], by simp⟩
  refine ⟨⟨.of (upd_keep hD), ⟨rs1.nd, rs1.len, fun j a o ha ho => ?_, fun a q => ?_⟩, [], upd_same, .nil⟩, lt⟩
  · have na : a ≠ D := fun z => by rw [z] at ha; exact nρ (List.mem_of_getElem? ha)
    have q := rs1.at_ j a o ha ho
    cases o with
    | lst ys =>
      obtain ⟨zs, e', l', p'⟩ := q
      exact ⟨zs, by rw [upd_ne na]; exact e', l', Paired.imp' (fun _ _ q => lt.wv q) p'⟩
    | dic ks =>
      obtain ⟨es, ep, e', y', l', o', p'⟩ := q
      refine ⟨es, ep, by rw [upd_ne na]; exact e', y', l', o', Paired.imp' (fun _ _ q => ?_) p'⟩
      obtain ⟨a1, a2, kk, q1, q2, q3, q5, q6, q7⟩ := q
      exact ⟨a1, a2, kk, q1, DV.kp kp0 q2, q3, q5, q6, lt.wv q7⟩
  · rcases q with q | q
    · have na : a ≠ D := fun z => nB (z ▸ q)
      exact ⟨by rw [upd_ne na]; exact (rs1.bt a q).1, (rs1.bt a q).2⟩
    · subst q
      exact ⟨by rw [upd_same]; simp, nρ⟩
/-- what the whole wants -/
def LcF (X : Cx) (B : Addr → Prop) (ρ1 : List Addr) (H1 : Hp) (D : Addr) (Q : VK) : R (List W) → Prop
  | .ok ws m => ∀ H ρ, LcS X B ρ1 H1 D H ρ m ws → Q (.ref D) H
  | .exc _ _ _ => False
  | .bad => False
theorem lcF_q {B : Addr → Prop} {ρ1 : List Addr} {H1 : Hp} {D : Addr} {Q : VK} : LcQ (LcF X B ρ1 H1 D Q) := ⟨fun h => h, fun _ _ _ h => h⟩
def LcK (X : Cx) (XR : XRel) (Wx : WX) (σ : St) (Q : VK) (k : List W → Mu → R W) : Prop := ∀ B ρ1 H1 D m1 ws m H2 ρ2, RS X.w X.K B ρ1 H1 m1 → H1 D = none → LcS X B ρ1 H1 D H2 ρ2 m ws → ws.length ≤ ln → Cn X.w X.K XR (WV X.w X.K) B ρ1 H1 (fun c d => Wx c d σ) (k ws m) Q → Q (.ref D) H2
theorem noX_of {α : Type} {r : R α} {β : Type} {k : α → Mu → R β} {P : R β → Prop} (hb : ¬ P .bad) (h : P ((noX r).bd k)) : ∃ a m, r = .ok a m ∧ P (k a m) := by
  cases r with
  | ok a m => exact ⟨a, m, rfl, h⟩
  | exc _ _ _ => exact (hb h).elim
  | bad => exact (hb h).elim
theorem lcGo_len {g : Tg} {c : FT} {el : FE} {η : Env} : ∀ {its : List Itm} {acc ws : List W} {m m' : Mu}, lcGo g c el η its acc m = .ok ws m' → ws.length ≤ acc.length + its.length
  | [], acc, ws, m, m', h => by
    unfold lcGo at h
    cases h
    exact Nat.le_refl _
  | t :: r, acc, ws, m, m', h => by
    unfold lcGo at h
    split at h
    · rename_i η' _
      cases q : noX (c η' m) with
      | ok b m2 =>
        rw [q] at h
        cases b with
        | true =>
          have h : (noX (el η' m2)).bd (fun u m => lcGo g c el η r (acc ++ [u]) m) = .ok ws m' := h
          cases q2 : noX (el η' m2) with
          | ok u m3 =>
            rw [q2] at h
            have := lcGo_len (its := r) (show lcGo g c el η r (acc ++ [u]) m3 = .ok ws m' from h)
            rw [List.length_append, List.length_singleton] at this
            rw [List.length_cons]
            omega
          | exc _ _ _ => rw [q2] at h; cases h
          | bad => rw [q2] at h; cases h
        | false =>
          have := lcGo_len (its := r) (show lcGo g c el η r acc m2 = .ok ws m' from h)
          rw [List.length_cons]
          omega
      | exc _ _ _ => rw [q] at h; cases h
      | bad => rw [q] at h; cases h
    · cases h
theorem lc_read {vs : List Nat} {g : Tg} {it : FI} {c : FT} {el : FE} {σ : St} {H : Hp} {Q : VK} (gs : ∀ i ∈ g.slots, i ∈ vs) {k : List W → Mu → R W} (hk : LcK X XR Wx σ Q k)
    (h : tE X XR Wx (fun η m => (lcRun vs g it c el η m).bd k) σ H Q) : tLc (tI X XR Wx it) (tG X g) (tT X XR W0 c) (tE X XR W0 el) vs σ H Q := by
  obtain ⟨B, ρ, η, m, rl, cn⟩ := h
  have cn : Cn X.w X.K XR (WV X.w X.K) B ρ H (fun c d => Wx c d σ) ((it η m).bd fun its m => (if its.length ≤ ln then noX (lcGo g c el (wipeE η vs) its [] m) else .bad).bd k) Q := by
    unfold lcRun at cn
    dsimp only at cn
    cases q : it η m with
    | ok a m' => rw [q] at cn; exact cn
    | exc a b m' => rw [q] at cn; exact cn
    | bad => rw [q] at cn; exact cn
  refine ⟨B, ρ, η, m, rl, Cn.bd cn rl.rs fun its m1 J H1 ρ1 _ s1 rs1 gv c1 D hD => ?_⟩
  have rl1 := rl.stp s1 rs1
  by_cases hz : its.length ≤ ln
  · rw [if_pos hz] at c1
    obtain ⟨st0, lt0⟩ := lcs_start rs1 hD
    obtain ⟨ws, m', hr, c2⟩ := noX_of (P := fun r => Cn X.w X.K XR (WV X.w X.K) B ρ1 H1 (fun c d => Wx c d σ) r Q) (fun z => z) c1
    have hl := lcGo_len hr
    refine lcs_loop (lcF_q (X := X) (B := B) (ρ1 := ρ1) (H1 := H1) (D := D) (Q := Q)) (kk := fun ws m => .ok ws m) gs rs1 hD (lt0.rel (rl1.wipe vs) st0.rs) (lt0.gv gv) st0 (by simpa using hz) (by
      rw [hr]
      exact fun H2 ρ2 s => hk B ρ1 H1 D m1 ws m' H2 ρ2 rs1 hD s (by rw [List.length_nil] at hl; omega) c2) fun ws2 m2 H2 ρ2 s lt le => le H2 ρ2 s
  · rw [if_neg hz] at c1
    exact c1.elim
/-- the list as data -/
theorem lc_data {σ : St} {Q : VK} : LcK X XR Wx σ Q (fun ws m => up (pures ws) m fun ds => .ok (.p (.list ds)) m) := by
  intro B ρ1 H1 D m1 ws m H2 ρ2 rs1 hD s hn c
  obtain ⟨xs, e, p⟩ := s.ac
  have l : xs.length ≤ sizeLine := by rw [Paired.length p, ln_eq]; exact hn
  unfold up at c
  dsimp only at c
  split at c
  · rename_i ds hd
    have dx := pures_ok hd p
    have nD : ¬ Fb B ρ2 D := fun z => z.elim (fun z => (rs1.bt D z).1 hD) (s.rs.bt D (.inr rfl)).2
    exact c _ H2 ρ2 s.st (s.rs.less BD.w) (.lst (.inl ⟨.inl e, nD⟩) l (DVs.kp (Kp.less fun a z => z.elim (fun z => .inl (.inl z)) .inr) dx))
  · exact c.elim
/-- .. in the store -/
theorem lc_mut {σ : St} {Q : VK} : LcK X XR Wx σ Q (fun ws m => .ok (.r m.length) (m ++ [.lst ws])) := by
  intro B ρ1 H1 D m1 ws m H2 ρ2 rs1 hD s hn c
  obtain ⟨xs, e, p⟩ := s.ac
  have l : xs.length ≤ sizeLine := by rw [Paired.length p, ln_eq]; exact hn
  have nD : D ∉ ρ2 := (s.rs.bt D (.inr rfl)).2
  have nB : ¬ B D := fun z => (rs1.bt D z).1 hD
  obtain ⟨⟨nn, e1, hnn⟩, kk⟩ := s.st
  have kp : Kp (Fb (BD B D) ρ2) (Fb B (ρ2 ++ [D])) H2 H2 := ⟨fun a o q n => ⟨q, fun z => z.elim (fun z => n (.inl (.inl z))) fun z => (List.mem_append.mp z).elim (fun z => n (.inr z)) fun z => n (.inl (.inr (by simpa using z)))⟩, fun a o q _ => q⟩
  have wk : ∀ {x : V} {y : W}, WV X.w X.K (BD B D) ρ2 H2 x y → WV X.w X.K B (ρ2 ++ [D]) H2 x y := fun {x y} q => by
    cases y with
    | p d => exact DV.kp kp q
    | r i =>
      obtain ⟨a, h1, h2⟩ := q
      exact ⟨a, by rw [List.getElem?_append_left (List.getElem?_eq_some_iff.mp h1).1]; exact h1, h2⟩
  have rs2 : RS X.w X.K B (ρ2 ++ [D]) H2 (m ++ [.lst ws]) := by
    refine ⟨?_, by simp [s.rs.len], fun i a o ha ho => ?_, fun a h => ?_⟩
    · rw [List.nodup_append]
      exact ⟨s.rs.nd, by simp, fun a ha b hb e => by
        have e2 : b = D := by simpa using hb
        rw [e, e2] at ha; exact nD ha⟩
    · by_cases hi : i < ρ2.length
      · rw [List.getElem?_append_left hi] at ha
        rw [List.getElem?_append_left (by rw [← s.rs.len]; exact hi)] at ho
        have q := s.rs.at_ i a o ha ho
        cases o with
        | lst ys =>
          obtain ⟨zs, e', l', p'⟩ := q
          exact ⟨zs, e', l', Paired.imp' (fun _ _ q => wk q) p'⟩
        | dic ks =>
          obtain ⟨es, ep, e', y', l', o', p'⟩ := q
          refine ⟨es, ep, e', y', l', o', Paired.imp' (fun _ _ q => ?_) p'⟩
          obtain ⟨a1, a2, kk, q1, q2, q3, q5, q6, q7⟩ := q
          exact ⟨a1, a2, kk, q1, DV.kp kp q2, q3, q5, q6, wk q7⟩
      · have hi' : i = ρ2.length := by
          have := (List.getElem?_eq_some_iff.mp ha).1
          rw [List.length_append, List.length_singleton] at this
          omega
        subst hi'
        rw [List.getElem?_append_right (Nat.le_refl _)] at ha
        rw [s.rs.len, List.getElem?_append_right (Nat.le_refl _)] at ho
        simp at ha ho
        subst ha ho
        exact ⟨xs, e, l, Paired.imp' (fun _ _ q => wk q) p⟩
    · obtain ⟨z1, z2⟩ := s.rs.bt a (.inl h)
      exact ⟨z1, fun z => (List.mem_append.mp z).elim z2 fun z => nB (by
        have : a = D := by simpa using z
        rw [← this]; exact h)⟩
  refine c _ H2 (ρ2 ++ [D]) ⟨⟨nn ++ [D], by rw [e1, List.append_assoc], fun a h => (List.mem_append.mp h).elim (hnn a) fun h => by
    have : a = D := by simpa using h
    rw [this]; exact hD⟩, kk⟩ rs2 ⟨D, by rw [← s.rs.len, List.getElem?_append_right (Nat.le_refl _)]; simp, rfl⟩
def lc2Go (g : Tg) (c : FT) (it1 : FI) (vs1 : List Nat) (g1 : Tg) (c1 : FT) (el : FE) (η : Env) : List Itm → List W → Mu → R (List W)
  | [], acc, m => .ok acc m
  | t :: r, acc, m => (match g.asg t η with
    | some η' => (noX (c η' m)).bd fun b m => (match b with
      | true => (noX (it1 η' m)).bd fun its1 m => if acc.length + its1.length ≤ ln then (lcGo g1 c1 el (wipeE η' vs1) its1 acc m).bd fun acc m => lc2Go g c it1 vs1 g1 c1 el η r acc m else .bad
      | false => lc2Go g c it1 vs1 g1 c1 el η r acc m)
    | none => .bad)
def lc2Run (vs : List Nat) (g : Tg) (it : FI) (c : FT) (it1 : FI) (vs1 : List Nat) (g1 : Tg) (c1 : FT) (el : FE) : FA := fun η m => (it η m).bd fun its m => (noX (lc2Go g c it1 vs1 g1 c1 el (wipeE η vs) its [] m)).bd fun ws m => if ws.length ≤ ln then .ok ws m else .bad
def fLc2 (vs : List Nat) (g : Tg) (it : FI) (c : FT) (it1 : FI) (vs1 : List Nat) (g1 : Tg) (c1 : FT) (el : FE) : FE := fun η m => (lc2Run vs g it c it1 vs1 g1 c1 el η m).bd fun l m => up (pures l) m fun ds => .ok (.p (.list ds)) m
theorem lc2_read {vs vs1 : List Nat} {g g1 : Tg} {it it1 : FI} {c c1 : FT} {el : FE} {σ : St} {H : Hp} {Q : VK} (gs : ∀ i ∈ g.slots, i ∈ vs) (gs1 : ∀ i ∈ g1.slots, i ∈ vs1) {k : List W → Mu → R W} (hk : LcK X XR Wx σ Q k)
    (h : tE X XR Wx (fun η m => (lc2Run vs g it c it1 vs1 g1 c1 el η m).bd k) σ H Q) : tLc2 (tI X XR Wx it) (tG X g) (tT X XR W0 c) (tI X XR W0 it1) (tG X g1) (tT X XR W0 c1) (tE X XR W0 el) vs vs1 σ H Q := by
  obtain ⟨B, ρ, η, m, rl, cn⟩ := h
  have cn : Cn X.w X.K XR (WV X.w X.K) B ρ H (fun c d => Wx c d σ) ((it η m).bd fun its m => (noX (lc2Go g c it1 vs1 g1 c1 el (wipeE η vs) its [] m)).bd fun ws m => (if ws.length ≤ ln then R.ok ws m else .bad).bd k) Q := by
    unfold lc2Run at cn
    dsimp only at cn
    cases q : it η m with
    | ok a m' =>
      rw [q] at cn
      dsimp only [R.bd] at cn ⊢
      cases q2 : noX (lc2Go g c it1 vs1 g1 c1 el (wipeE η vs) a [] m') with
      | ok a2 m2 => rw [q2] at cn; exact cn
      | exc _ _ _ => rw [q2] at cn; exact cn
      | bad => rw [q2] at cn; exact cn
    | exc a b m' => rw [q] at cn; exact cn
    | bad => rw [q] at cn; exact cn
  refine ⟨B, ρ, η, m, rl, Cn.bd cn rl.rs fun its m1 J H1 ρ1 _ s1 rs1 gv0 c1' D hD => ?_⟩
  have rl1 := rl.stp s1 rs1
  obtain ⟨st0, lt0⟩ := lcs_start rs1 hD
  obtain ⟨wsE, mE, hr, c2⟩ := noX_of (P := fun r => Cn X.w X.K XR (WV X.w X.K) B ρ1 H1 (fun c d => Wx c d σ) r Q) (fun z => z) c1'
  have hwl : wsE.length ≤ ln := by
    by_cases h : wsE.length ≤ ln
    · exact h
    · rw [if_neg h] at c2; exact c2.elim
  rw [if_pos hwl] at c2
  have hq := lcF_q (X := X) (B := B) (ρ1 := ρ1) (H1 := H1) (D := D) (Q := Q)
  have gv := lt0.gv gv0
  have base := lt0.rel (rl1.wipe vs) st0.rs
  have e0 : LcF X B ρ1 H1 D Q (lc2Go g c it1 vs1 g1 c1 el (wipeE η vs) its [] m1) := by
    rw [hr]
    exact fun H2 ρ2 s => hk B ρ1 H1 D m1 wsE mE H2 ρ2 rs1 hD s hwl c2
  generalize hH0 : upd H1 D (.lst []) = H0 at *
  refine ⟨fun i k H2 => k = its.length - i ∧ i ≤ its.length ∧ ∃ ρ2 m2 ws, LcS X B ρ1 H1 D H2 ρ2 m2 ws ∧ Ltr (FD B D ρ1) (FD B D ρ2) ρ1 H0 ρ2 H2 ∧ LcF X B ρ1 H1 D Q (lc2Go g c it1 vs1 g1 c1 el (wipeE η vs) (its.drop i) ws m2), ⟨its.length, by simp, Nat.zero_le _, ρ1, m1, [], st0, .refl, e0⟩, ?_⟩
  rintro i kk H2 ⟨rfl, hi, ρ2, m2, ws, s, lt, le⟩
  by_cases hlt : i < its.length
  · refine .inr ⟨gv.go i _ ρ2 H2 m2 ⟨lt.kp, lt.ex, s.rs⟩ hlt, fun H' => ∃ ρ2 m2 ws, LcS X B ρ1 H1 D H' ρ2 m2 ws ∧ Ltr (FD B D ρ1) (FD B D ρ2) ρ1 H0 ρ2 H' ∧ LcF X B ρ1 H1 D Q (lc2Go g c it1 vs1 g1 c1 el (wipeE η vs) (its.drop (i + 1)) ws m2),
      fun H' ⟨ρ3, m3, ws3, s3, lt3, l3⟩ => ⟨its.length - (i + 1), by omega, rfl, hlt, ρ3, m3, ws3, s3, lt3, l3⟩, fun x H' y => ?_⟩
    have hit : its[i]? = some its[i] := List.getElem?_eq_getElem hlt
    obtain ⟨k2, iv⟩ := gv.yld i _ ρ2 H2 m2 x H' its[i] ⟨lt.kp, lt.ex, s.rs⟩ hit y
    have st2 : Stp ρ2 H2 ρ2 H' := .of k2
    have s2 : LcS X B ρ1 H1 D H' ρ2 m2 ws := s.ev rs1 st2 (s.rs.grow k2)
    have lt2 := lt.trans (.of s.rs st2)
    rw [List.drop_eq_getElem_cons hlt] at le
    unfold lc2Go at le
    split at le
    · rename_i η' hη
      refine ⟨BD B D, ρ2, wipeE η vs, m2, its[i], η', lt2.rel base s2.rs, iv, hη, fun σ' rl' hw' => ⟨by rw [hw' vs gs, wipe_wipe], BD B D, ρ2, η', m2, rl', ?_⟩⟩
      refine LcQ.cn hq rs1 s2 le fun b m3 b' H3 ρ3 s3 st3 eb le3 => ?_
      subst eb
      have rl3 := rl'.stp st3 s3.rs
      have lt3 := lt2.trans (.of s2.rs st3)
      cases b' with
      | true =>
        rw [if_pos rfl]
        refine ⟨BD B D, ρ3, η', m3, rl3, LcQ.cn hq rs1 s3 le3 fun its1 m4 J1 H4 ρ4 s4 st4 gv1 le4 => ?_⟩
        have rl4 := rl3.stp st4 s4.rs
        have lt4 := lt3.trans (.of s3.rs st4)
        by_cases hz : ws.length + its1.length ≤ ln
        · rw [if_pos hz] at le4
          exact lcs_loop hq (kk := fun acc m => lc2Go g c it1 vs1 g1 c1 el (wipeE η vs) (its.drop (i + 1)) acc m) gs1 rs1 hD (rl4.wipe vs1) gv1 s4 hz le4 fun ws5 m5 H5 ρ5 s5 lt5 le5 => ⟨ρ5, m5, ws5, s5, lt4.trans lt5, le5⟩
        · rw [if_neg hz] at le4
          exact le4.elim
      | false =>
        rw [if_neg Bool.false_ne_true]
        exact ⟨ρ3, m3, ws, s3, lt3, le3⟩
    · exact le.elim
  · have e : i = its.length := by omega
    subst e
    rw [List.drop_length] at le
    exact .inl ⟨gv.stop _ ρ2 H2 m2 ⟨lt.kp, lt.ex, s.rs⟩, le H2 ρ2 s⟩
theorem pts_yes {X : Cx} : PTs X [] (tT X XR W0 fYes) := by
  refine ⟨fun pins s σ H Q I ⟨B, ρ, η, m, rl, c⟩ => ?_⟩
  exact pts_nil.run pins s σ H Q I (c.here rl.rs rfl)
abbrev LcIn (X : Cx) (scope : Scope) (P : Cx → Prop) : Prop := ∀ (s : Shared) (H : Hp) (C : Addr) (cl : List (Str × Addr)) (fp : List Addr), P (X.blk s H scope (compEnvC scope cl C X.env) fp)
section
variable {scope : Scope} {own : List (Str × Nat)} {g : Tg} {it : FI} {c : FT} {el : FE} {apos : Pos}
theorem se_lc (hc : X.calm = true) (hN : X.N.Nodup) (hi : SI X XR Wx tgE iter it) (ok : BlkOk X.N X.env.scope scope own) (gs : ∀ i ∈ g.slots, i ∈ own.map (·.2))
    (hg : LcIn X scope fun Y => SG Y tgE g) (ht : LcIn X scope fun Y => PTs Y ifs (tT X XR W0 c)) (he : LcIn X scope fun Y => PE Y elt (tE X XR W0 el)) (hs : ∀ x, foldedSetIterable iter X.env x = pure x) :
    SE X XR Wx (.ListComp elt [⟨tgE, iter, ifs, 0⟩] scope pos) (fLc (own.map (·.2)) g it c el) :=
  pe_imp (pe_lc hc hN hi ok hg ht he hs) fun σ H Q h => lc_read gs lc_data h
theorem se_lcM (hc : X.calm = true) (hN : X.N.Nodup) (hi : SI X XR Wx tgE iter it) (ok : BlkOk X.N X.env.scope scope own) (gs : ∀ i ∈ g.slots, i ∈ own.map (·.2))
    (hg : LcIn X scope fun Y => SG Y tgE g) (ht : LcIn X scope fun Y => PTs Y ifs (tT X XR W0 c)) (he : LcIn X scope fun Y => PE Y elt (tE X XR W0 el)) (hs : ∀ x, foldedSetIterable iter X.env x = pure x) :
    SE X XR Wx (.ListComp elt [⟨tgE, iter, ifs, 0⟩] scope pos) (fLcM (own.map (·.2)) g it c el) :=
  pe_imp (pe_lc hc hN hi ok hg ht he hs) fun σ H Q h => lc_read gs lc_mut h
theorem se_lc2 {tgE1 iter1 : Expr} {ifs1 : List Expr} {vs1 : List Nat} {g1 : Tg} {it1 : FI} {c1 : FT} (hc : X.calm = true) (hN : X.N.Nodup) (hi : SI X XR Wx tgE iter it) (ok : BlkOk X.N X.env.scope scope own) (hv : ∀ i ∈ vs1, i ∈ own.map (·.2)) (gs : ∀ i ∈ g.slots, i ∈ own.map (·.2)) (gs1 : ∀ i ∈ g1.slots, i ∈ vs1)
    (hg : LcIn X scope fun Y => SG Y tgE g) (ht : LcIn X scope fun Y => PTs Y ifs (tT X XR W0 c)) (hi1 : LcIn X scope fun Y => PI Y tgE1 iter1 (tI X XR W0 it1)) (hg1 : LcIn X scope fun Y => SG Y tgE1 g1) (ht1 : LcIn X scope fun Y => PTs Y ifs1 (tT X XR W0 c1)) (he : LcIn X scope fun Y => PE Y elt (tE X XR W0 el))
    (hs : ∀ x, foldedSetIterable iter X.env x = pure x) (hs1 : ∀ env x, foldedSetIterable iter1 env x = pure x) :
    SE X XR Wx (.ListComp elt [⟨tgE, iter, ifs, 0⟩, ⟨tgE1, iter1, ifs1, 0⟩] scope pos) (fLc2 (own.map (·.2)) g it c it1 vs1 g1 c1 el) :=
  pe_imp (pe_lc2 hc hN hi ok hv hg ht hi1 hg1 ht1 he hs hs1) fun σ H Q h => lc2_read gs gs1 lc_data h
end
end
end Pg

namespace Pg
open PySem L2
inductive Fl where
  | nx (η : Env) | rt (u : W) | bk (η : Env) | ct (η : Env)
abbrev FS := Env → Mu → R Fl
/-- an end as it is wanted -/
def FlR (X : Cx) (B : Addr → Prop) (ρ : List Addr) (H : Hp) (m : Mu) (D : Ends) : Fl → Prop
  | .nx η => ∀ σ, Rel X.w X.K B ρ σ H η m → D.nx σ H
  | .rt u => ∀ v, WV X.w X.K B ρ H v u → D.rt v H
  | .bk η => ∀ σ, Rel X.w X.K B ρ σ H η m → D.bk σ H
  | .ct η => ∀ σ, Rel X.w X.K B ρ σ H η m → D.ct σ H
def CnS (X : Cx) (XR : XRel) (Wx : WX) (B : Addr → Prop) (ρ : List Addr) (H : Hp) (r : R Fl) (D : Ends) : Prop := match r with
  | .ok fl m => ∀ ρ' H', Stp ρ H ρ' H' → RS X.w X.K B ρ' H' m → FlR X B ρ' H' m D fl
  | .exc c d m => ∀ H' ρ' cls dd σ, Stp ρ H ρ' H' → RS X.w X.K B ρ' H' m → XR H' cls dd c d → Wx cls dd σ H'
  | .bad => False
def tS (X : Cx) (XR : XRel) (Wx : WX) (f : FS) : TS := fun D σ H => ∃ B ρ η m, Rel X.w X.K B ρ σ H η m ∧ CnS X XR Wx B ρ H (f η m) D
abbrev SS (X : Cx) (XR : XRel) (Wx : WX) (s : Stmt) (f : FS) : Prop := PS X s (tS X XR Wx f)
abbrev SSs (X : Cx) (XR : XRel) (Wx : WX) (s : List Stmt) (f : FS) : Prop := PSs X s (tS X XR Wx f)
section
variable {X : Cx} {XR : XRel} {Wx : WX} {B : Addr → Prop} {ρ ρ' : List Addr} {H H' : Hp} {m m' : Mu} {σ : St} {η : Env} {D : Ends}
theorem CnS.stp {r : R Fl} (h : CnS X XR Wx B ρ H r D) (rs : RS X.w X.K B ρ H m) (s : Stp ρ H ρ' H') (rs' : RS X.w X.K B ρ' H' m') : CnS X XR Wx B ρ' H' r D := by
  cases r with
  | ok fl m2 => exact fun ρ2 H2 s2 r2 => h ρ2 H2 (s.trans rs rs' s2) r2
  | exc c d m2 => exact fun H2 ρ2 cls dd σ s2 r2 x => h H2 ρ2 cls dd σ (s.trans rs rs' s2) r2 x
  | bad => exact h
/-- an expression, then the rest -/
theorem CnS.bd {α β : Type} {rel : (Addr → Prop) → List Addr → Hp → β → α → Prop} {r : R α} {k : α → Mu → R Fl} {Q : β → Hp → Prop} (h : CnS X XR Wx B ρ H (r.bd k) D) (rs : RS X.w X.K B ρ H m)
    (hk : ∀ a m1 b H1 ρ1, Stp ρ H ρ1 H1 → RS X.w X.K B ρ1 H1 m1 → rel B ρ1 H1 b a → CnS X XR Wx B ρ1 H1 (k a m1) D → Q b H1) : Cn X.w X.K XR rel B ρ H (fun c d => Wx c d σ) r Q := by
  cases r with
  | ok a m1 => exact fun b H1 ρ1 s rs1 q => hk a m1 b H1 ρ1 s rs1 q (CnS.stp (r := k a m1) h rs s rs1)
  | exc c d m2 => exact fun H' ρ' cls dd s rs' x => h H' ρ' cls dd σ s rs' x
  | bad => exact h
theorem CnS.nx {η : Env} (h : CnS X XR Wx B ρ H (.ok (.nx η) m) D) (rl : Rel X.w X.K B ρ σ H η m) : D.nx σ H := h ρ H .refl rl.rs σ rl
theorem CnS.rt {u : W} {v : V} (h : CnS X XR Wx B ρ H (.ok (.rt u) m) D) (rs : RS X.w X.K B ρ H m) (wv : WV X.w X.K B ρ H v u) : D.rt v H := h ρ H .refl rs v wv
end
section
variable {X : Cx} {XR : XRel} {Wx : WX} {e e1 e2 e3 tgE iter : Expr} {es elts : List Expr} {st : Stmt} {ss ss2 body : List Stmt} {pos p1 p2 p3 : Pos} {kk k2 : Nat}
def fNext : FS := fun η m => .ok (.nx η) m
def fSeq (f g : FS) : FS := fun η m => (f η m).bd fun fl m => (match fl with
  | .nx η' => g η' m
  | .rt u => .ok (.rt u) m
  | .bk η' => .ok (.bk η') m
  | .ct η' => .ok (.ct η') m)
theorem ss_nil : SSs X XR Wx [] fNext := pss_imp pss_nil fun D σ H ⟨B, ρ, η, m, rl, c⟩ => c.nx rl
theorem cns_seq {B : Addr → Prop} {ρ : List Addr} {H : Hp} {r : R Fl} {g : FS} {D : Ends} {m : Mu} (rs : RS X.w X.K B ρ H m)
    (h : CnS X XR Wx B ρ H (r.bd fun fl m => (match fl with
      | .nx η' => g η' m
      | .rt u => .ok (.rt u) m
      | .bk η' => .ok (.bk η') m
      | .ct η' => .ok (.ct η') m)) D) : CnS X XR Wx B ρ H r { D with nx := tS X XR Wx g D } := by
  cases r with
  | ok fl m2 =>
    cases fl with
    | nx η' => exact fun ρ' H' s rs' σ rl => ⟨B, ρ', η', m2, rl, CnS.stp (m := m) (show CnS X XR Wx B ρ H (g η' m2) D from h) rs s rs'⟩
    | rt u => exact h
    | bk η' => exact h
    | ct η' => exact h
  | exc c d m2 => exact h
  | bad => exact h
theorem ss_cons {f g : FS} (h1 : SS X XR Wx st f) (h2 : SSs X XR Wx ss g) : SSs X XR Wx (st :: ss) (fSeq f g) :=
  pss_imp (pss_cons h1 h2) fun D σ H ⟨B, ρ, η, m, rl, c⟩ => ⟨B, ρ, η, m, rl, cns_seq rl.rs c⟩
def fSet (i : Nat) (f : FE) : FS := fun η m => (f η m).bd fun u m => .ok (.nx (η.set i (some u))) m
theorem rd_set {i : Nat} {f : FE} {D : Ends} {σ : St} {H : Hp} (h : tS X XR Wx (fSet i f) D σ H) : tE X XR Wx f σ H fun x H1 => D.nx (σ.set i (some x)) H1 := by
  obtain ⟨B, ρ, η, m, rl, c⟩ := h
  exact ⟨B, ρ, η, m, rl, CnS.bd c rl.rs fun a m1 x H1 ρ1 s1 rs1 wa c1 => c1.nx ((rl.stp s1 rs1).set wa)⟩
theorem ss_set {i : Nat} {x : Str} {f : FE} (hN : X.N.Nodup) (hi : X.N[i]? = some x) (hx : Loc X.env.scope x) (hf : X.fn x = true ∨ X.env.scope.names.lookup x = some .local) (he : SE X XR Wx e f) (hs : swapsWith e (some (.Name x p1)) pos.line X.env = pure false) : SS X XR Wx (.Assign [.Name x p1] e pos) (fSet i f) :=
  ps_imp (ps_set hN hi hx he hs hf) fun D σ H h => rd_set h
theorem ss_setLc {i : Nat} {y : Str} {elt : Expr} {ifs : List Expr} {scope : Scope} {own : List (Str × Nat)} {g : Tg} {it : FI} {c : FT} {el : FE} (hc : X.calm = true) (hN : X.N.Nodup) (hy : X.N[i]? = some y) (hyl : X.env.scope.names.lookup y = some .local)
    (hsw : swapsWith (.ListComp elt [⟨tgE, iter, ifs, 0⟩] scope p2) (some (.Name y p1)) pos.line X.env = pure true) (hi : SI X XR Wx tgE iter it) (ok : BlkOk X.N X.env.scope scope own) (gs : ∀ i ∈ g.slots, i ∈ own.map (·.2))
    (hg : LcIn X scope fun Y => SG Y tgE g) (ht : LcIn X scope fun Y => PTs Y ifs (tT X XR W0 c)) (he : LcIn X scope fun Y => PE Y elt (tE X XR W0 el)) (hs : ∀ x, foldedSetIterable iter X.env x = pure x) :
    SS X XR Wx (.Assign [.Name y p1] (.ListComp elt [⟨tgE, iter, ifs, 0⟩] scope p2) pos) (fSet i (fLc (own.map (·.2)) g it c el)) :=
  ps_imp (ps_setLc hc hN hy hyl hsw hi ok hg ht he hs) fun D σ H h => lc_read gs lc_data (rd_set h)
theorem ss_setLcM {i : Nat} {y : Str} {elt : Expr} {ifs : List Expr} {scope : Scope} {own : List (Str × Nat)} {g : Tg} {it : FI} {c : FT} {el : FE} (hc : X.calm = true) (hN : X.N.Nodup) (hy : X.N[i]? = some y) (hyl : X.env.scope.names.lookup y = some .local)
    (hsw : swapsWith (.ListComp elt [⟨tgE, iter, ifs, 0⟩] scope p2) (some (.Name y p1)) pos.line X.env = pure true) (hi : SI X XR Wx tgE iter it) (ok : BlkOk X.N X.env.scope scope own) (gs : ∀ i ∈ g.slots, i ∈ own.map (·.2))
    (hg : LcIn X scope fun Y => SG Y tgE g) (ht : LcIn X scope fun Y => PTs Y ifs (tT X XR W0 c)) (he : LcIn X scope fun Y => PE Y elt (tE X XR W0 el)) (hs : ∀ x, foldedSetIterable iter X.env x = pure x) :
    SS X XR Wx (.Assign [.Name y p1] (.ListComp elt [⟨tgE, iter, ifs, 0⟩] scope p2) pos) (fSet i (fLcM (own.map (·.2)) g it c el)) :=
  ps_imp (ps_setLc hc hN hy hyl hsw hi ok hg ht he hs) fun D σ H h => lc_read gs lc_mut (rd_set h)
theorem ss_setLc2 {i : Nat} {y : Str} {elt tgE1 iter1 : Expr} {ifs ifs1 : List Expr} {scope : Scope} {own : List (Str × Nat)} {vs1 : List Nat} {g g1 : Tg} {it it1 : FI} {c c1 : FT} {el : FE} (hc : X.calm = true) (hN : X.N.Nodup) (hy : X.N[i]? = some y) (hyl : X.env.scope.names.lookup y = some .local)
    (hsw : swapsWith (.ListComp elt [⟨tgE, iter, ifs, 0⟩, ⟨tgE1, iter1, ifs1, 0⟩] scope p2) (some (.Name y p1)) pos.line X.env = pure true) (hi : SI X XR Wx tgE iter it) (ok : BlkOk X.N X.env.scope scope own) (hv : ∀ i ∈ vs1, i ∈ own.map (·.2)) (gs : ∀ i ∈ g.slots, i ∈ own.map (·.2)) (gs1 : ∀ i ∈ g1.slots, i ∈ vs1)
    (hg : LcIn X scope fun Y => SG Y tgE g) (ht : LcIn X scope fun Y => PTs Y ifs (tT X XR W0 c)) (hi1 : LcIn X scope fun Y => PI Y tgE1 iter1 (tI X XR W0 it1)) (hg1 : LcIn X scope fun Y => SG Y tgE1 g1) (ht1 : LcIn X scope fun Y => PTs Y ifs1 (tT X XR W0 c1)) (he : LcIn X scope fun Y => PE Y elt (tE X XR W0 el))
    (hs : ∀ x, foldedSetIterable iter X.env x = pure x) (hs1 : ∀ env x, foldedSetIterable iter1 env x = pure x) :
    SS X XR Wx (.Assign [.Name y p1] (.ListComp elt [⟨tgE, iter, ifs, 0⟩, ⟨tgE1, iter1, ifs1, 0⟩] scope p2) pos) (fSet i (fLc2 (own.map (·.2)) g it c it1 vs1 g1 c1 el)) :=
  ps_imp (ps_setLc2 hc hN hy hyl hsw hi ok hv hg ht hi1 hg1 ht1 he hs hs1) fun D σ H h => lc2_read gs gs1 lc_data (rd_set h)
/-- target = value, by unpacking -/
def fUnp (g : Tg) (f : FE) : FS := fun η m => (f η m).bd fun u m => (match g.asg (.one u) η with
  | some η' => .ok (.nx η') m
  | none => .bad)
theorem ss_unp {g : Tg} {f : FE} (he : SE X XR Wx e f) (hg : SG X tgE g) (hs : swapsWithSole [tgE] e pos.line X.env = pure false) (hw : swappedStores [tgE] e X.env = pure none) (h1 : (assignEach [tgE] X.env).map (·.2) = [assign tgE X.env]) : SS X XR Wx (.Assign [tgE] e pos) (fUnp g f) :=
  ps_imp (ps_asg he hg hs hw h1) fun D σ H ⟨B, ρ, η, m, rl, c⟩ => by
    refine ⟨B, ρ, η, m, rl, CnS.bd c rl.rs fun a m1 x H1 ρ1 s1 rs1 wa c1 => ?_⟩
    split at c1
    · rename_i η' ha
      exact ⟨B, ρ1, η, m1, .one a, η', rl.stp s1 rs1, wa, ha, fun σ' rl' _ => c1.nx rl'⟩
    · exact c1.elim
/-- a, b = x, y -/
def fPar (is : List Nat) (g : FA) : FS := fun η m => (g η m).bd fun us m => (match asgs is us η with
  | some η' => .ok (.nx η') m
  | none => .bad)
theorem ss_par2 {i j : Nat} {x y : Str} {a b : Expr} {g : FA} {px py pt : Pos} {kt k2 pt2} (hc : X.calm = true) (hN : X.N.Nodup) (hi : X.N[i]? = some x) (hj : X.N[j]? = some y) (hij : i ≠ j)
    (hx : X.env.scope.names.lookup x = some .local) (hy : X.env.scope.names.lookup y = some .local) (ha : SA X XR Wx [a, b] g) (hw : swappedStores [.Tuple [.Name x px, .Name y py] kt pt] (.Tuple [a, b] k2 pt2) X.env = pure (some [x, y])) :
    SS X XR Wx (.Assign [.Tuple [.Name x px, .Name y py] kt pt] (.Tuple [a, b] k2 pt2) pos) (fPar [i, j] g) :=
  ps_imp (ps_par hc hN hi hj hij hx hy ha hw) fun D σ H ⟨B, ρ, η, m, rl, c⟩ => by
    refine ⟨B, ρ, η, m, rl, CnS.bd c rl.rs fun us m1 vs H1 ρ1 s1 rs1 pr c1 => ?_⟩
    have rl1 := rl.stp s1 rs1
    match us, vs, pr, c1 with
    | [u, u2], [v, v2], .cons w1 (.cons w2 .nil), c1 => exact ⟨v, v2, rfl, c1.nx ((rl1.set w1).set w2)⟩
    | [], _, _, c1 => exact c1.elim
    | [u], _, _, c1 => exact c1.elim
    | u :: u2 :: u3 :: r, _, _, c1 => exact c1.elim
theorem ss_par3 {i j l : Nat} {x y z : Str} {a b c : Expr} {g : FA} {px py pz pt : Pos} {kt k2 pt2} (hc : X.calm = true) (hN : X.N.Nodup) (hi : X.N[i]? = some x) (hj : X.N[j]? = some y) (hl : X.N[l]? = some z) (hij : i ≠ j) (hil : i ≠ l) (hjl : j ≠ l)
    (hx : X.env.scope.names.lookup x = some .local) (hy : X.env.scope.names.lookup y = some .local) (hz : X.env.scope.names.lookup z = some .local) (ha : SA X XR Wx [a, b, c] g) (hw : swappedStores [.Tuple [.Name x px, .Name y py, .Name z pz] kt pt] (.Tuple [a, b, c] k2 pt2) X.env = pure (some [x, y, z])) :
    SS X XR Wx (.Assign [.Tuple [.Name x px, .Name y py, .Name z pz] kt pt] (.Tuple [a, b, c] k2 pt2) pos) (fPar [i, j, l] g) :=
  ps_imp (ps_par3 hc hN hi hj hl hij hil hjl hx hy hz ha hw) fun D σ H ⟨B, ρ, η, m, rl, c⟩ => by
    refine ⟨B, ρ, η, m, rl, CnS.bd c rl.rs fun us m1 vs H1 ρ1 s1 rs1 pr c1 => ?_⟩
    have rl1 := rl.stp s1 rs1
    match us, vs, pr, c1 with
    | [u, u2, u3], [v, v2, v3], .cons w1 (.cons w2 (.cons w3 .nil)), c1 => exact ⟨v, v2, v3, rfl, c1.nx (((rl1.set w1).set w2).set w3)⟩
    | [], _, _, c1 => exact c1.elim
    | [u], _, _, c1 => exact c1.elim
    | [u, u2], _, _, c1 => exact c1.elim
    | u :: u2 :: u3 :: u4 :: r, _, _, c1 => exact c1.elim
/-- o[i] = v -/
def fPut (fo fi fv : FE) : FS := fun η m => (fv η m).bd fun v m => (fo η m).bd fun o m => (fi η m).bd fun i m => (match putM m o i v with
  | some m' => .ok (.nx η) m'
  | none => .bad)
def plainPut : Expr → Bool
  | .Slice _ _ _ _ => false
  | .Tuple _ _ _ => false
  | _ => true
theorem ss_put {fo fi fv : FE} (hu : X.A.units + 80 < cLine) (ho : SE X XR Wx e1 fo) (hi : SE X XR Wx e2 fi) (hv : SE X XR Wx e3 fv) (hs : swapsWithSole [.Subscript e1 e2 p1] e3 pos.line X.env = pure false) (hw : swappedStores [.Subscript e1 e2 p1] e3 X.env = pure none)
    (h1 : (assignEach [.Subscript e1 e2 p1] X.env).map (·.2) = [assign (.Subscript e1 e2 p1) X.env]) (ha : ∀ v, assign (.Subscript e1 e2 p1) X.env v = (do
      let ov ← holding [v] (eval e1 X.env)
      let iv ← holding [v, ov] (eval e2 X.env)
      standAt p1
      holding [v, ov, iv] (setItem ov iv v)
      release [v, ov, iv] [])) : SS X XR Wx (.Assign [.Subscript e1 e2 p1] e3 pos) (fPut fo fi fv) :=
  ps_imp (ps_asg hv (pg_sub ho hi (set_any hu) ha) hs hw h1) fun D σ H ⟨B, ρ, η, m, rl, c⟩ => by
    refine ⟨B, ρ, η, m, rl, CnS.bd c rl.rs fun v m1 x H1 ρ1 s1 rs1 wv c1 => ?_⟩
    have rl1 := rl.stp s1 rs1
    refine ⟨B, ρ1, η, m1, rl1, CnS.bd c1 rs1 fun o m2 y H2 ρ2 s2 rs2 wo c2 => ?_⟩
    have rl2 := rl1.stp s2 rs2
    refine ⟨B, ρ2, η, m2, rl2, CnS.bd c2 rs2 fun i m3 z H3 ρ3 s3 rs3 wi c3 => ?_⟩
    have rl3 := rl2.stp s3 rs3
    split at c3
    · rename_i m' hm
      exact put_ok rs3 (wo.stp s3 rs2) wi ((wv.stp s2 rs1).stp s3 rs2) hm fun H' s' rs' => (CnS.stp c3 rs3 s' rs').nx (rl3.stp s' rs')
    · exact c3.elim
def fDo (f : FE) : FS := fun η m => (f η m).bd fun _ m => .ok (.nx η) m
theorem ss_do {f : FE} (he : SE X XR Wx e f) (hs : swapsWith e none pos.line X.env = pure false) : SS X XR Wx (.Expr e pos) (fDo f) :=
  ps_imp (ps_expr he hs) fun D σ H ⟨B, ρ, η, m, rl, c⟩ => ⟨B, ρ, η, m, rl, CnS.bd c rl.rs fun v m1 x H1 ρ1 s1 rs1 wv c1 => c1.nx (rl.stp s1 rs1)⟩
def fRet (f : FE) : FS := fun η m => (f η m).bd fun u m => .ok (.rt u) m
theorem ss_ret {f : FE} (he : SE X XR Wx e f) : SS X XR Wx (.Return (some e) pos) (fRet f) :=
  ps_imp (ps_ret he) fun D σ H ⟨B, ρ, η, m, rl, c⟩ => ⟨B, ρ, η, m, rl, CnS.bd c rl.rs fun v m1 x H1 ρ1 s1 rs1 wv c1 => c1.rt rs1 wv⟩
def fRetN : FS := fun η m => .ok (.rt (.p .none)) m
theorem ss_retN : SS X XR Wx (.Return none pos) fRetN :=
  ps_imp ps_retN fun D σ H ⟨B, ρ, η, m, rl, c⟩ => CnS.rt (u := .p .none) c rl.rs DV.non
theorem ss_pass : SS X XR Wx (.Pass pos) fNext := ps_imp ps_pass fun D σ H ⟨B, ρ, η, m, rl, c⟩ => c.nx rl
def fBrk : FS := fun η m => .ok (.bk η) m
def fCnt : FS := fun η m => .ok (.ct η) m
theorem ss_brk : SS X XR Wx (.Break pos) fBrk := ps_imp ps_break fun D σ H ⟨B, ρ, η, m, rl, c⟩ => c ρ H .refl rl.rs σ rl
theorem ss_cnt : SS X XR Wx (.Continue pos) fCnt := ps_imp ps_continue fun D σ H ⟨B, ρ, η, m, rl, c⟩ => c ρ H .refl rl.rs σ rl
def fIf (c : FT) (f g : FS) : FS := fun η m => (c η m).bd fun b m => (match b with
  | true => f η m
  | false => g η m)
theorem ss_if {c : FT} {f g : FS} (hc : ST X XR Wx e c) (hf : SSs X XR Wx ss f) (hg : SSs X XR Wx ss2 g) : SS X XR Wx (.If e ss ss2 pos) (fIf c f g) :=
  ps_imp (ps_if hc hf hg) fun D σ H ⟨B, ρ, η, m, rl, c⟩ => by
    refine ⟨B, ρ, η, m, rl, CnS.bd c rl.rs fun b m1 b' H1 ρ1 s1 rs1 eb c1 => ?_⟩
    subst eb
    cases b' with
    | true => rw [if_pos rfl]; exact ⟨B, ρ1, η, m1, rl.stp s1 rs1, c1⟩
    | false => rw [if_neg Bool.false_ne_true]; exact ⟨B, ρ1, η, m1, rl.stp s1 rs1, c1⟩
def forGo (g : Tg) (f : FS) : List Itm → Env → Mu → R Fl
  | [], η, m => .ok (.nx η) m
  | t :: r, η, m => (match g.asg t η with
    | some η' => (f η' m).bd fun fl m => (match fl with
      | .nx η2 => forGo g f r η2 m
      | .ct η2 => forGo g f r η2 m
      | .bk η2 => .ok (.nx η2) m
      | .rt u => .ok (.rt u) m)
    | none => .bad)
def fFor (g : Tg) (it : FI) (f : FS) : FS := fun η m => (it η m).bd fun its m => forGo g f its η m
theorem ss_for {g : Tg} {it : FI} {f : FS} (hp : PassesOwn (model X.prog X.w) X.A X.env X.xe) (hc : X.calm = true) (hi : SI X XR Wx tgE iter it) (hg : SG X tgE g) (hb : SSs X XR Wx body f) (hs : ∀ x, foldedSetIterable iter X.env x = pure x) :
    SS X XR Wx (.For tgE iter body [] pos) (fFor g it f) :=
  ps_imp (ps_for hp hc hi hg hb hs) fun D σ H ⟨B, ρ, η, m, rl, c⟩ => by
    refine ⟨B, ρ, η, m, rl, CnS.bd c rl.rs fun its m1 J H1 ρ1 s1 rs1 gv c1 => ?_⟩
    refine ⟨fun i k σ H => k = its.length - i ∧ i ≤ its.length ∧ ∃ ρ2 η2 m2, Stp ρ1 H1 ρ2 H ∧ Rel X.w X.K B ρ2 σ H η2 m2 ∧ CnS X XR Wx B ρ2 H (forGo g f (its.drop i) η2 m2) D, ⟨its.length, by simp, Nat.zero_le _, ρ1, η, m1, .refl, rl.stp s1 rs1, c1⟩, ?_⟩
    rintro i k σ2 H2 ⟨rfl, hi, ρ2, η2, m2, st2, rl2, c2⟩
    by_cases hlt : i < its.length
    · refine .inr ⟨gv.go i _ ρ2 H2 m2 (.of rs1 st2 rl2.rs) hlt, fun σ H => ∃ ρ2 η2 m2, Stp ρ1 H1 ρ2 H ∧ Rel X.w X.K B ρ2 σ H η2 m2 ∧ CnS X XR Wx B ρ2 H (forGo g f (its.drop (i + 1)) η2 m2) D, fun σ' H' h => ⟨its.length - (i + 1), by omega, rfl, hlt, h⟩, fun x H3 y => ?_⟩
      have hit : its[i]? = some its[i] := List.getElem?_eq_getElem hlt
      obtain ⟨k2, iv⟩ := gv.yld i _ ρ2 H2 m2 x H3 its[i] (.of rs1 st2 rl2.rs) hit y
      have st3 : Stp ρ2 H2 ρ2 H3 := .of k2
      have rs3 := rl2.rs.grow k2
      have c3 := CnS.stp c2 rl2.rs st3 rs3
      rw [List.drop_eq_getElem_cons hlt] at c3
      unfold forGo at c3
      split at c3
      · rename_i η' hη
        refine ⟨B, ρ2, η2, m2, its[i], η', rl2.stp st3 rs3, iv, hη, fun σ' rl' _ => ⟨B, ρ2, η', m2, rl', ?_⟩⟩
        have st13 := st2.trans rs1 rl2.rs st3
        cases q : f η' m2 with
        | bad => rw [q] at c3; exact c3.elim
        | exc c d m4 => rw [q] at c3; exact c3
        | ok fl m4 =>
          rw [q] at c3
          intro ρ4 H4 s4 rs4
          have c4 := CnS.stp c3 rs3 s4 rs4
          have st14 := st13.trans rs1 rs3 s4
          cases fl with
          | nx η5 => exact fun σ5 rl5 => ⟨ρ4, η5, m4, st14, rl5, c4⟩
          | ct η5 => exact fun σ5 rl5 => ⟨ρ4, η5, m4, st14, rl5, c4⟩
          | bk η5 => exact fun σ5 rl5 => CnS.nx c4 rl5
          | rt u => exact fun v wv => (show CnS X XR Wx B ρ4 H4 (.ok (.rt u) m4) D from c4).rt rs4 wv
      · exact c3.elim
    · have e : i = its.length := by omega
      subst e
      rw [List.drop_length] at c2
      exact .inl ⟨gv.stop _ ρ2 H2 m2 (.of rs1 st2 rl2.rs), CnS.nx c2 rl2⟩
def whlGo (c : FT) (f : FS) : Nat → Env → Mu → R Fl
  | 0, _, _ => .bad
  | n + 1, η, m => (c η m).bd fun b m => (match b with
    | false => .ok (.nx η) m
    | true => (f η m).bd fun fl m => (match fl with
      | .nx η2 => whlGo c f n η2 m
      | .ct η2 => whlGo c f n η2 m
      | .bk η2 => .ok (.nx η2) m
      | .rt u => .ok (.rt u) m))
def fWhl (n : Nat) (c : FT) (f : FS) : FS := fun η m => whlGo c f n η m
theorem ss_whl {n : Nat} {c : FT} {f : FS} (hp : PassesOwn (model X.prog X.w) X.A X.env X.xe) (hc : ST X XR Wx e c) (hb : SSs X XR Wx body f) : SS X XR Wx (.While e body [] pos) (fWhl n c f) :=
  ps_imp (ps_while hp hc hb) fun D σ H ⟨B, ρ, η, m, rl, c0⟩ => by
    refine ⟨fun k σ H => ∃ ρ2 η2 m2, Rel X.w X.K B ρ2 σ H η2 m2 ∧ CnS X XR Wx B ρ2 H (whlGo c f k η2 m2) D, ⟨n, ρ, η, m, rl, c0⟩, ?_⟩
    rintro k σ2 H2 ⟨ρ2, η2, m2, rl2, c2⟩
    cases k with
    | zero => exact c2.elim
    | succ k =>
      unfold whlGo at c2
      refine ⟨B, ρ2, η2, m2, rl2, CnS.bd c2 rl2.rs fun b m3 b' H3 ρ3 s3 rs3 eb c3 => ?_⟩
      subst eb
      have rl3 := rl2.stp s3 rs3
      cases b' with
      | false => rw [if_neg Bool.false_ne_true]; exact CnS.nx c3 rl3
      | true =>
        rw [if_pos rfl]
        refine ⟨fun σ H => ∃ ρ2 η2 m2, Rel X.w X.K B ρ2 σ H η2 m2 ∧ CnS X XR Wx B ρ2 H (whlGo c f k η2 m2) D, fun σ' H' h => ⟨k, Nat.lt_succ_self k, h⟩, B, ρ3, η2, m3, rl3, ?_⟩
        cases q : f η2 m3 with
        | bad => simp only [q] at c3; exact c3.elim
        | exc c d m4 => simp only [q] at c3; exact c3
        | ok fl m4 =>
          simp only [q] at c3
          intro ρ4 H4 s4 rs4
          have c4 := CnS.stp c3 rs3 s4 rs4
          cases fl with
          | nx η5 => exact fun σ5 rl5 => ⟨ρ4, η5, m4, rl5, c4⟩
          | ct η5 => exact fun σ5 rl5 => ⟨ρ4, η5, m4, rl5, c4⟩
          | bk η5 => exact fun σ5 rl5 => CnS.nx c4 rl5
          | rt u => exact fun v wv => (show CnS X XR Wx B ρ4 H4 (.ok (.rt u) m4) D from c4).rt rs4 wv
end
end Pg

namespace Pg
open PySem L2
section
variable {X : Cx} {XR : XRel} {Wx : WX} {e e1 e2 : Expr} {pos p p1 : Pos} {pins : List (Addr × Obj)} {σ : St} {H : Hp} {s : Shared}
/-- a step of a display's filling -/
theorem DF.dset {β : Type} {val : V → β → Prop} {F : Addr → Prop} {a : Addr} {es : List DictEntry} {ks : List (D × β)} {A : Around} {E : Value → Shared → Prop} {y : V} {u : Value} {d : D} {k : NestedKey} {c : β}
    (f : DF X F H a es val ks) (hu : A.units + 80 < cLine) (I : Inv X pins σ H s) (dv : DV X.w X.K F H y d) (ry : RelV y u) (hk : dkey d = some k) (so : sortOk ks d = true) {z : V} {zv : Value} (rz : RelV z zv) (vz : val z c)
    {Q : Unit → Shared → Prop} (h : ∀ h' es' o ep t, h'.get? a = some o → o.ExactDict → o.data = .dict es'.toArray ep → Paired (EnG X.w X.K F H val) es' (putKv ks k d c) → Heap.SameBut a s.heap h' → Q () { s with heap := h', toks := t }) :
    wpAny (model X.prog X.w) A (dictSet a u zv) Q E s := by
  have all := sortOk_all f.ok so
  have hl := Paired.length f.ps
  cases t : isTup d with
  | true =>
    obtain ⟨xs, e1, e2, p⟩ := nest_of I f.ps fun q hq => (all q hq).trans t
    obtain ⟨b, rfl, rfl, ib⟩ := key_is I dv ry hk t
    have hz : xs.length ≤ sizeLine := by
      have := f.le
      rw [e1, List.length_map] at this
      exact this
    refine wpAny_dictSet_heap (hsz := hz) (show A.units + 8 < cLine by omega) ib (f.hN I e1 e2 p) fun h' dd' hs => ?_
    obtain ⟨o, es', ep, z1, z2, z3, z4, z5, z6⟩ := dd'
    have pp := nx_put (P := X.prog) (a := b) (v := zv) hk ⟨.ref b, z, k, ry, dv, hk, rfl, rz, vz⟩ p (nx_nodup p f.ok)
    refine h h' es'.toList o ep _ z1 z2 (by rw [z3, Array.toArray_toList]) ?_ hs
    rw [z4]
    exact nx_back pp
  | false =>
    obtain ⟨xs, e1, e2, p⟩ := mix_of X.prog f.ps fun q hq => (all q hq).trans t
    obtain ⟨kk, rfl, rfl⟩ := dkey_flat hk t
    rw [DV_kD dv] at ry
    have hz : xs.length ≤ sizeLine := by
      rw [← e1.length]; exact f.le
    refine wpAny_dictSet_pairs (hsz := hz) (kV_is ry) (f.hM I e1 e2 p) fun h' dd' hs => ?_
    obtain ⟨o, es', ep, z1, z2, z3, z4, z5, z6⟩ := dd'
    have pp := mx_put (k := kk) rz vz p (mx_nodup p f.ok)
    refine h h' es'.toList o ep _ z1 z2 (by rw [z3, Array.toArray_toList]) ?_ hs
    exact mx_back pp z5 fun e he => z4 e (by simpa using he)
def putAll (acc : List (D × W)) : List (W × W) → Option (List (D × W))
  | [] => some acc
  | (.p d, u) :: r => (match dkey d with
    | some k => if sortOk acc d = true then putAll (putKv acc k d u) r else none
    | none => none)
  | (.r _, _) :: _ => none
/-- a dict under work at D -/
structure DcS (X : Cx) (B : Addr → Prop) (ρ1 : List Addr) (H1 : Hp) (D : Addr) (H : Hp) (ρ : List Addr) (m : Mu) (ks : List (Pg.D × W)) : Prop where
  st : Stp ρ1 H1 ρ H
  rs : RS X.w X.K (BD B D) ρ H m
  ac : ∃ es ep, H D = some (dicO D es ep) ∧ DF X (FD B D ρ) H D es (WV X.w X.K (BD B D) ρ H) ks
theorem kp_at {B : Addr → Prop} {ρ : List Addr} {D : Addr} {es : List DictEntry} {ep : Nat} {o : HO} (e : H D = some (dicO D es ep)) : Kp (FD B D ρ) (FD B D ρ) H (upd H D o) :=
  ⟨fun a o q n => ⟨by rw [upd_ne (fun z => n (.inl (.inr z)))]; exact q, n⟩, fun a o q t => by
    rw [upd_ne (fun z => ?_)]
    · exact q
    · subst z
      rw [e] at q
      cases q
      obtain ⟨ys, t | ⟨_, t⟩⟩ := t <;> (unfold dicO at t; cases t)⟩
theorem enG_ltr {B B' : Addr → Prop} {ρ ρ' : List Addr} {H H' : Hp} {e : DictEntry} {q : Pg.D × W} (l : Ltr (Fb B ρ) (Fb B' ρ') ρ H ρ' H') (h : EnG X.w X.K (Fb B ρ) H (WV X.w X.K B ρ H) e q) : EnG X.w X.K (Fb B' ρ') H' (WV X.w X.K B' ρ' H') e q := by
  obtain ⟨v, u, kk, q1, q2, q3, q5, q6, q7⟩ := h
  exact ⟨v, u, kk, q1, DV.kp l.kp q2, q3, q5, q6, l.wv q7⟩
theorem DcS.write {B : Addr → Prop} {ρ1 ρ : List Addr} {H1 : Hp} {D : Addr} {m : Mu} {ks ks' : List (Pg.D × W)} {es' : List DictEntry} {ep' : Nat} (hD : H1 D = none) (c : DcS X B ρ1 H1 D H ρ m ks) (ok : KsOk ks') (hl : es'.length ≤ sizeLine) (pr : Paired (EnG X.w X.K (FD B D ρ) H (WV X.w X.K (BD B D) ρ H)) es' ks') :
    DcS X B ρ1 H1 D (upd H D (dicO D es' ep')) ρ m ks' ∧ Ltr (FD B D ρ) (FD B D ρ) ρ H ρ (upd H D (dicO D es' ep')) := by
  obtain ⟨es, ep, e, f⟩ := c.ac
  have lt : Ltr (FD B D ρ) (FD B D ρ) ρ H ρ (upd H D (dicO D es' ep')) := ⟨kp_at e, [], by simp⟩
  have nD : D ∉ ρ := (c.rs.bt D (.inr rfl)).2
  refine ⟨⟨⟨c.st.ext, fun a o q n => ?_⟩, ⟨c.rs.nd, c.rs.len, fun j a o ha ho => ?_, fun a q => ⟨?_, (c.rs.bt a q).2⟩⟩, es', ep', upd_same, ⟨ep', .inl (.inl upd_same)⟩, f.ns, hl, ok, Paired.imp' (fun _ _ q => enG_ltr lt q) pr⟩, lt⟩
  · rw [upd_ne (fun z => by rw [z, hD] at q; cases q)]
    exact c.st.keep a o q n
  · have na : a ≠ D := fun z => by rw [z] at ha; exact nD (List.mem_of_getElem? ha)
    have q := c.rs.at_ j a o ha ho
    cases o with
    | lst ys =>
      obtain ⟨zs, e', l', p'⟩ := q
      exact ⟨zs, by rw [upd_ne na]; exact e', l', Paired.imp' (fun _ _ q => lt.wv q) p'⟩
    | dic ks =>
      obtain ⟨es, ep, e', y', l', o', p'⟩ := q
      exact ⟨es, ep, by rw [upd_ne na]; exact e', y', l', o', Paired.imp' (fun _ _ q => enG_ltr lt q) p'⟩
  · by_cases z : a = D
    · rw [z, upd_same]; simp
    · rw [upd_ne z]; exact (c.rs.bt a q).1
theorem store_all {B : Addr → Prop} {ρ1 ρ : List Addr} {H1 : Hp} {D : Addr} {m : Mu} {E : Value → Shared → Prop} {A : Around} (hu : A.units + 80 < cLine) (hD : H1 D = none) : ∀ (vs : List (Value × Value)) (qs : List (V × V)) (cs : List (W × W)) (ks ks' : List (Pg.D × W)) (H : Hp) (s : Shared) (Q : PUnit → Shared → Prop),
    Inv X pins σ H s → DcS X B ρ1 H1 D H ρ m ks → L2.VV qs vs → Paired (fun (q : V × V) (c : W × W) => WV X.w X.K (BD B D) ρ H q.1 c.1 ∧ WV X.w X.K (BD B D) ρ H q.2 c.2) qs cs → putAll ks cs = some ks' → ks.length + cs.length ≤ 100 →
    (∀ H' s', Inv X pins σ H' s' → DcS X B ρ1 H1 D H' ρ m ks' → Q PUnit.unit s') →
    wpAny (model X.prog X.w) A (forIn vs PUnit.unit fun (x : Value × Value) (_ : PUnit) => (do dictSet D x.1 x.2; pure (ForInStep.yield PUnit.unit) : Sem (ForInStep PUnit))) Q E s
  | [], qs, cs, ks, ks', H, s, Q, I, c, rv, rc, hp, hn, hQ => by
    cases rv
    cases rc
    cases hp
    rw [List.forIn_nil]
    exact wpAny_pure (hQ H s I c)
  | v :: vs, qs, cs, ks, ks', H, s, Q, I, c, rv, rc, hp, hn, hQ => by
    cases rv with
    | cons h1 h2 =>
      cases rc with
      | cons g1 g2 =>
        rename_i q qs cc cs
        obtain ⟨cc1, cc2⟩ := cc
        cases cc1 with
        | r i => cases hp
        | p d =>
          dsimp only at g1
          simp only [putAll] at hp
          split at hp
          · rename_i k hk
            split at hp
            · rename_i so
              obtain ⟨es, ep, e, f⟩ := c.ac
              rw [List.forIn_cons]
              have hle := putKv_le (k := k) (d := d) (c := cc2) ks
              rw [List.length_cons] at hn
              refine wpAny_bind (wpAny_bind (f.dset hu I g1.1 h1.1 hk so h1.2 g1.2 fun h' es' o ep' t z1 z2 z3 (z4 : Paired _ es' (putKv ks k d cc2)) z5 => wpAny_pure ?_))
              obtain ⟨c2, lt⟩ := c.write (ep' := ep') hD (putKv_ok f.ok (EnG.key f.ps) hk so) (by rw [Paired.length z4, ln_eq]; unfold ln; omega) z4
              exact store_all hu hD vs qs cs _ ks' _ _ Q (dict_write I e z5 z1 z2 z3) c2 h2 (Paired.imp' (fun _ _ w => ⟨lt.wv w.1, lt.wv w.2⟩) g2) hp (by omega) hQ
            · cases hp
          · cases hp
/-- the pairs of a display -/
def evPairs : List (FE × FE) → Env → Mu → R (List (W × W))
  | [], _, m => .ok [] m
  | (f, g) :: r, η, m => (f η m).bd fun a m => (g η m).bd fun b m => (evPairs r η m).bd fun l m => .ok ((a, b) :: l) m
def trsOf (X : Cx) (XR : XRel) (Wx : WX) (fs : List (FE × FE)) : List (TE × TE) := fs.map fun q => (tE X XR Wx q.1, tE X XR Wx q.2)
abbrev relP (w : World) (K : PySem.W.Frag) : (Addr → Prop) → List Addr → Hp → List (V × V) → List (W × W) → Prop := fun B ρ H => Paired fun (q : V × V) (c : W × W) => WV w K B ρ H q.1 c.1 ∧ WV w K B ρ H q.2 c.2
theorem rd_pairs : ∀ (fs : List (FE × FE)) {B : Addr → Prop} {ρ : List Addr} {η : Env} {m : Mu} {σ : St} {H : Hp} {Q : List (V × V) → Hp → Prop}, Rel X.w X.K B ρ σ H η m → Cn X.w X.K XR (relP X.w X.K) B ρ H (fun c d => Wx c d σ) (evPairs fs η m) Q → tPairs (trsOf X XR Wx fs) σ H Q
  | [], B, ρ, η, m, σ, H, Q, rl, c => c.here rl.rs .nil
  | (f, g) :: fs, B, ρ, η, m, σ, H, Q, rl, c => by
    refine ⟨B, ρ, η, m, rl, Cn.bd c rl.rs fun a m1 x H1 ρ1 _ s1 rs1 wa c1 => ?_⟩
    have rl1 := rl.stp s1 rs1
    refine ⟨B, ρ1, η, m1, rl1, Cn.bd c1 rs1 fun b m2 y H2 ρ2 _ s2 rs2 wb c2 => ?_⟩
    have rl2 := rl1.stp s2 rs2
    refine rd_pairs fs rl2 (Cn.bd c2 rs2 fun l m3 ps H3 ρ3 _ s3 rs3 wl c3 => ?_)
    exact c3.here rs3 (.cons ⟨(wa.stp s2 rs1).stp s3 rs2, wb.stp s3 rs2⟩ wl)
def fDic (fs : List (FE × FE)) : FE := fun η m => (evPairs fs η m).bd fun cs m => (match putAll [] cs with
  | some ks => .ok (.r m.length) (m ++ [.dic ks])
  | none => .bad)
/-- an object under work joins the store -/
theorem join_dic {B : Addr → Prop} {ρ1 ρ2 : List Addr} {H1 H2 : Hp} {D : Addr} {m m1 : Mu} {ks : List (Pg.D × W)} {Xw : Value → Option Addr → Hp → Prop} {Q : VK} (rs1 : RS X.w X.K B ρ1 H1 m1) (hD : H1 D = none) (s : DcS X B ρ1 H1 D H2 ρ2 m ks)
    (c : Cn X.w X.K XR (WV X.w X.K) B ρ1 H1 Xw (.ok (.r m.length) (m ++ [.dic ks])) Q) : Q (.ref D) H2 := by
  obtain ⟨es, ep, e, f⟩ := s.ac
  have nD : D ∉ ρ2 := (s.rs.bt D (.inr rfl)).2
  have nB : ¬ B D := fun z => (rs1.bt D z).1 hD
  obtain ⟨⟨nn, e1, hnn⟩, kk⟩ := s.st
  have lt : Ltr (FD B D ρ2) (Fb B (ρ2 ++ [D])) ρ2 H2 (ρ2 ++ [D]) H2 := ⟨⟨fun a o q n => ⟨q, fun z => z.elim (fun z => n (.inl (.inl z))) fun z => (List.mem_append.mp z).elim (fun z => n (.inr z)) fun z => n (.inl (.inr (by simpa using z)))⟩, fun a o q _ => q⟩, [D], rfl⟩
  have rs2 : RS X.w X.K B (ρ2 ++ [D]) H2 (m ++ [.dic ks]) := by
    refine ⟨?_, by simp [s.rs.len], fun i a o ha ho => ?_, fun a h => ?_⟩
    · rw [List.nodup_append]
      exact ⟨s.rs.nd, by simp, fun a ha b hb e => by
        have e2 : b = D := by simpa using hb
        rw [e, e2] at ha; exact nD ha⟩
    · by_cases hi : i < ρ2.length
      · rw [List.getElem?_append_left hi] at ha
        rw [List.getElem?_append_left (by rw [← s.rs.len]; exact hi)] at ho
        have q := s.rs.at_ i a o ha ho
        cases o with
        | lst ys =>
          obtain ⟨zs, e', l', p'⟩ := q
          exact ⟨zs, e', l', Paired.imp' (fun _ _ q => lt.wv q) p'⟩
        | dic ks =>
          obtain ⟨es, ep, e', y', l', o', p'⟩ := q
          exact ⟨es, ep, e', y', l', o', Paired.imp' (fun _ _ q => enG_ltr lt q) p'⟩
      · have hi' : i = ρ2.length := by
          have := (List.getElem?_eq_some_iff.mp ha).1
          rw [List.length_append, List.length_singleton] at this
          omega
        subst hi'
        rw [List.getElem?_append_right (Nat.le_refl _)] at ha
        rw [s.rs.len, List.getElem?_append_right (Nat.le_refl _)] at ho
        simp at ha ho
        subst ha ho
        exact ⟨es, ep, e, f.ns, f.le, f.ok, Paired.imp' (fun _ _ q => enG_ltr lt q) f.ps⟩
    · obtain ⟨z1, z2⟩ := s.rs.bt a (.inl h)
      exact ⟨z1, fun z => (List.mem_append.mp z).elim z2 fun z => nB (by
        have : a = D := by simpa using z
        rw [← this]; exact h)⟩
  refine c _ H2 (ρ2 ++ [D]) ⟨⟨nn ++ [D], by rw [e1, List.append_assoc], fun a h => (List.mem_append.mp h).elim (hnn a) fun h => by
    have : a = D := by simpa using h
    rw [this]; exact hD⟩, kk⟩ rs2 ⟨D, by rw [← s.rs.len, List.getElem?_append_right (Nat.le_refl _)]; simp, rfl⟩
theorem dic_start {B : Addr → Prop} {ρ1 : List Addr} {H1 : Hp} {D : Addr} {m1 : Mu} (rs1 : RS X.w X.K B ρ1 H1 m1) (hD : H1 D = none) (ns : (D == sysModules) = false) : DcS X B ρ1 H1 D (upd H1 D (dicO D [] 0)) ρ1 m1 [] ∧ Ltr (Fb B ρ1) (FD B D ρ1) ρ1 H1 ρ1 (upd H1 D (dicO D [] 0)) := by
  have nB : ¬ B D := fun z => (rs1.bt D z).1 hD
  have nρ : D ∉ ρ1 := fun z => rs1.alive z hD
  have lt : Ltr (Fb B ρ1) (FD B D ρ1) ρ1 H1 ρ1 (upd H1 D (dicO D [] 0)) := ⟨⟨fun a o q n => ⟨upd_keep hD a o q, fun z => z.elim (fun z => z.elim (fun z => n (.inl z)) fun z => by rw [z, hD] at q; cases q) fun z => n (.inr z)⟩, fun a o q _ => upd_keep hD a o q⟩, [], by simp⟩
  refine ⟨⟨.of (upd_keep hD), ⟨rs1.nd, rs1.len, fun j a o ha ho => ?_, fun a q => ?_⟩, [], 0, upd_same, ⟨0, .inl (.inl upd_same)⟩, ns, Nat.zero_le _, ⟨by simp, fun q h => nomatch h⟩, .nil⟩, lt⟩
  · have na : a ≠ D := fun z => by rw [z] at ha; exact nρ (List.mem_of_getElem? ha)
    have q := rs1.at_ j a o ha ho
    cases o with
    | lst ys =>
      obtain ⟨zs, e', l', p'⟩ := q
      exact ⟨zs, by rw [upd_ne na]; exact e', l', Paired.imp' (fun _ _ q => lt.wv q) p'⟩
    | dic ks =>
      obtain ⟨es, ep, e', y', l', o', p'⟩ := q
      exact ⟨es, ep, by rw [upd_ne na]; exact e', y', l', o', Paired.imp' (fun _ _ q => enG_ltr lt q) p'⟩
  · rcases q with q | q
    · have na : a ≠ D := fun z => nB (z ▸ q)
      exact ⟨by rw [upd_ne na]; exact (rs1.bt a q).1, (rs1.bt a q).2⟩
    · subst q
      exact ⟨by rw [upd_same]; simp, nρ⟩
theorem evPairs_len : ∀ (fs : List (FE × FE)) {η : Env} {m m' : Mu} {cs : List (W × W)}, evPairs fs η m = .ok cs m' → cs.length = fs.length
  | [], η, m, m', cs, h => by cases h; rfl
  | (f, g) :: fs, η, m, m', cs, h => by
    unfold evPairs at h
    cases q1 : f η m with
    | ok a m1 =>
      rw [q1] at h
      dsimp only [R.bd] at h
      cases q2 : g η m1 with
      | ok b m2 =>
        rw [q2] at h
        dsimp only [R.bd] at h
        cases q3 : evPairs fs η m2 with
        | ok l m3 =>
          rw [q3] at h
          cases h
          have := evPairs_len fs q3
          simp [this]
        | exc _ _ _ => rw [q3] at h; cases h
        | bad => rw [q3] at h; cases h
      | exc _ _ _ => rw [q2] at h; cases h
      | bad => rw [q2] at h; cases h
    | exc _ _ _ => rw [q1] at h; cases h
    | bad => rw [q1] at h; cases h
theorem se_dic0 : SE X XR Wx (.Dict [] [] pos) (fDic []) := by
  refine ⟨fun pins s σ H Q I ⟨B, ρ, η, m, rl, c⟩ => ?_⟩
  have hD := I.hok.fresh (Nat.le_refl s.heap.objs.size)
  have ns : (s.heap.objs.size == sysModules) = false := beq_eq_false_iff_ne.mpr (Ne.symm (Nat.ne_of_lt I.big))
  obtain ⟨d0, _⟩ := dic_start rl.rs hD ns
  refine wpAny_Dict_empty ⟨.ref s.heap.objs.size, upd H s.heap.objs.size (dicO s.heap.objs.size [] 0), I.laid (a := s.heap.objs.size) (t' := s.toks) (fun _ _ q => Heap.get?_push_of_some _ q) (Nat.le_refl _) ?_, rfl, join_dic rl.rs hD d0 c⟩
  exact ⟨⟨_, Heap.get?_push_size _ rfl, ⟨rfl, rfl, rfl⟩, rfl⟩, ⟨_, Heap.get?_push_size _ rfl⟩, fun h1 h2 ⟨o1, q1, q2, q3⟩ k => ⟨o1, k _ q1, q2, q3⟩⟩
theorem se_dic {keys : List (Option Expr)} {values : List Expr} {fs : List (FE × FE)} (hu : X.A.units + 80 < cLine) (hp : PPs X pos keys values (trsOf X XR Wx fs)) (hall : keys.all (·.isSome) = true) (hl : keys.length = values.length) (h0 : keys ≠ []) (h15 : keys.length ≤ 15) (hf : fs.length = keys.length) :
    SE X XR Wx (.Dict keys values pos) (fDic fs) := by
  refine ⟨fun pins s σ H Q I ⟨B, ρ, η, m, rl, c⟩ => ?_⟩
  have hD := I.hok.fresh (Nat.le_refl s.heap.objs.size)
  have ns : (s.heap.objs.size == sysModules) = false := beq_eq_false_iff_ne.mpr (Ne.symm (Nat.ne_of_lt I.big))
  obtain ⟨d0, lt0⟩ := dic_start rl.rs hD ns
  have hn := pairTrees_length keys values X.env pos hall hl
  have hne : pairTrees keys values X.env pos ≠ [] := fun he => by
    rw [he] at hn
    exact h0 (List.length_eq_zero_iff.mp hn.symm)
  have I1 : Inv X pins σ (upd H s.heap.objs.size (dicO s.heap.objs.size [] 0)) { s with heap := s.heap.push { cls := .type "dict", data := .dict #[] } } := I.laid (a := s.heap.objs.size) (t' := s.toks) (fun _ _ q => Heap.get?_push_of_some _ q) (Nat.le_refl _)
    ⟨⟨_, Heap.get?_push_size _ rfl, ⟨rfl, rfl, rfl⟩, rfl⟩, ⟨_, Heap.get?_push_size _ rfl⟩, fun h1 h2 ⟨o1, q1, q2, q3⟩ k => ⟨o1, k _ q1, q2, q3⟩⟩
  rw [arm_eval_Dict, zip_pairTrees keys values X.env pos hall hl, dictDisplay_pairs (pairTrees keys values X.env pos) hne (by rw [hn]; omega)]
  refine wpAny_bind (wpAny_standAt (wpAny_bind ?_))
  unfold subDict
  refine wpAny_bind (wpAny_alloc ?_)
  refine wpAny_bind (wpAny_holding ?_)
  rw [if_pos (by rw [hn]; exact h15)]
  have key : Cn X.w X.K XR (relP X.w X.K) (BD B s.heap.objs.size) ρ (upd H s.heap.objs.size (dicO s.heap.objs.size [] 0)) (fun c d => Wx c d σ) (evPairs fs η m)
      (fun ps H2 => ∃ cs m2 ρ2, DcS X B ρ H s.heap.objs.size H2 ρ2 m2 [] ∧ relP X.w X.K (BD B s.heap.objs.size) ρ2 H2 ps cs ∧ cs.length ≤ 15 ∧ Cn X.w X.K XR (WV X.w X.K) B ρ H (fun c d => Wx c d σ) (match putAll [] cs with
        | some ks => .ok (.r m2.length) (m2 ++ [.dic ks])
        | none => .bad) Q) := by
    unfold fDic at c
    cases q : evPairs fs η m with
    | ok cs m2 =>
      rw [q] at c
      intro ps H2 ρ2 s2 rs2 rl2
      refine ⟨cs, m2, ρ2, ⟨d0.st.trans rl.rs (d0.rs.less BD.w) s2, rs2, ?_⟩, rl2, by rw [evPairs_len fs q, hf]; exact h15, c⟩
      refine ⟨[], 0, s2.keep _ _ upd_same (d0.rs.bt _ (.inr rfl)).2, ⟨0, .inl (.inl (s2.keep _ _ upd_same (d0.rs.bt _ (.inr rfl)).2))⟩, ns, Nat.zero_le _, ⟨by simp, fun q h => nomatch h⟩, .nil⟩
    | exc a b m2 =>
      rw [q] at c
      exact fun H' ρ' cls dd s2 rs2 x => c H' ρ' cls dd (d0.st.trans rl.rs (d0.rs.less BD.w) s2) (rs2.less BD.w) x
    | bad => rw [q] at c; exact c.elim
  refine wpAny_bind (thn (hp.run pins _ σ _ _ I1 (rd_pairs fs (lt0.rel rl d0.rs) key)) fun vs s2 ⟨ps, H2, I2, rv, cs, m2, ρ2, d2, rc, h15', c2⟩ => ?_)
  refine wpAny_holding ?_
  split at c2
  · rename_i ks hks
    exact wpAny_bind (store_all hu hD vs ps cs [] ks H2 s2 _ I2 d2 rv rc hks (by rw [List.length_nil]; omega) fun H' s' I' d' => wpAny_pure (wpAny_pure (wpAny_pure ⟨.ref s.heap.objs.size, H', I', rfl, join_dic rl.rs hD d' c2⟩)))
  · exact c2.elim
def lenDic : D → Option D
  | .dict ks => some (.int ks.length)
  | _ => none
def rLenD (X : Cx) : List V → Hp → VK → Prop := fun xs H Q => ∃ (a : Addr) (es : List DictEntry) (F : Addr → Prop) (ks : List (D × D)), xs = [.ref a] ∧ DF X F H a es (DV X.w X.K F H) ks ∧ Q (.int ks.length) H
theorem call_lenD : CallR X (.builtin "len") (rLenD X) := by
  intro pins s σ H xs us Q I r h
  obtain ⟨a, es, F, ks, rfl, f, q⟩ := h
  obtain ⟨u, rfl, rx⟩ := vals1 r
  cases rx
  have hn := line63
  have hl := Paired.length f.ps
  have hle := f.le
  have fin : ∀ t t', EP X pins σ Q (.int ks.length t) { s with toks := t' } := fun t t' => ⟨.int ks.length, H, I.tok _, ⟨t, rfl⟩, q⟩
  cases hk : ks with
  | nil =>
    subst hk
    obtain ⟨xs, e1, e2, p⟩ := mix_of X.prog f.ps (fun q hq => nomatch hq)
    have hx := Paired.length p
    refine call_len_dict f.ns (f.hM I e1 e2 p) (by rw [← hx]; simp) ?_
    rw [← hx]
    exact fin _ _
  | cons q0 r0 =>
    have all : ∀ q ∈ ks, isTup q.1 = isTup q0.1 := fun q hq => f.ok.2 q hq q0 (by rw [hk]; exact List.mem_cons_self ..)
    cases t : isTup q0.1 with
    | true =>
      obtain ⟨xs, e1, e2, p⟩ := nest_of I f.ps fun q hq => (all q hq).trans t
      have hx := Paired.length p
      refine call_len_dictH f.ns (f.hN I e1 e2 p) (by rw [← hx, ← hl]; omega) ?_
      rw [← hx]
      exact fin _ _
    | false =>
      obtain ⟨xs, e1, e2, p⟩ := mix_of X.prog f.ps fun q hq => (all q hq).trans t
      have hx := Paired.length p
      refine call_len_dict f.ns (f.hM I e1 e2 p) (by rw [← hx, ← hl]; omega) ?_
      rw [← hx]
      exact fin _ _
def rLenA (X : Cx) : List V → Hp → VK → Prop := fun xs H Q => rLenS X.K xs H Q ∨ rLenD X xs H Q
theorem call_lenA : CallR X (.builtin "len") (rLenA X) := call_lenS.or call_lenD
theorem sv_len : Serves X XR (rLenA X) lenD := fun B ρ H m Xw x d z Q rs hx hz c => by
  cases d with
  | dict ks =>
    cases hz
    obtain ⟨a, es, rfl, f⟩ := hx.df
    exact .inr ⟨a, es, _, ks, rfl, f, c.here rs (.int _)⟩
  | list ds => exact .inl (sv_lenS (XR := XR) B ρ H m Xw x _ z Q rs hx hz c)
  | tuple ds => exact .inl (sv_lenS (XR := XR) B ρ H m Xw x _ z Q rs hx hz c)
  | str ds => exact .inl (sv_lenS (XR := XR) B ρ H m Xw x _ z Q rs hx hz c)
  | _ => simp [lenD] at hz
def rgD (a b : Int) : List D := (List.range (b - a).toNat).map fun i => .int (a + (i : Nat))
theorem dvs_rg {w : World} {K : PySem.W.Frag} {F : Addr → Prop} {H : Hp} {a b : Int} : DVs w K F H (rgV a b) (rgD a b) := by
  unfold rgV rgD
  generalize List.range (b - a).toNat = l
  induction l with
  | nil => exact .nil
  | cons i l ih => exact .cons (.int _) ih
def rgOk (a b : Int) : Bool := bnd62 a && bnd62 b && decide ((b - a).toNat ≤ ln)
theorem rgOk_ok {a b : Int} (h : rgOk a b = true) : RgOk a b := by
  unfold rgOk at h
  simp only [Bool.and_eq_true, decide_eq_true_eq] at h
  obtain ⟨⟨h1, h2⟩, h3⟩ := h
  obtain ⟨a1, a2⟩ := bnd62_ok h1
  obtain ⟨a3, a4⟩ := bnd62_ok h2
  exact ⟨a1, a2, a3, a4, by unfold ln at h3; omega⟩
def gTR1 : W → Mu → R W
  | .p (.int j), m => if rgOk 0 j = true then .ok (.p (.tuple (rgD 0 j))) m else .bad
  | _, _ => .bad
def gTR2 : W → W → Mu → R W
  | .p (.int i), .p (.int j), m => if rgOk i j = true then .ok (.p (.tuple (rgD i j))) m else .bad
  | _, _, _ => .bad
def gLR1 : W → Mu → R W
  | .p (.int j), m => if rgOk 0 j = true then .ok (.p (.list (rgD 0 j))) m else .bad
  | _, _ => .bad
def gLR2 : W → W → Mu → R W
  | .p (.int i), .p (.int j), m => if rgOk i j = true then .ok (.p (.list (rgD i j))) m else .bad
  | _, _, _ => .bad
def tTupRgN (te : St → Hp → (Int → Int → Hp → Prop) → Prop) : TE := fun σ H Q => te σ H fun a b H1 => RgOk a b ∧ NT H1 Q (rgV a b)
theorem pe_tupRgN {te : St → Hp → (Int → Int → Hp → Prop) → Prop} (hc : X.calm = true) (hg : Gl X "tuple") (hm : X.mg "tuple" = none) (he : PRg X e te) (na : starEach [e] X.env = (false, eval e X.env) :: starEach [] X.env) : PE X (.Call (.Name "tuple" p) [e] [] pos) (tTupRgN te) := by
  refine ⟨fun pins s σ H Q I h => ?_⟩
  refine PyProof.Rows.Call_ (ld_blt I hg hm (by decide +kernel : bootBuiltins "tuple" = some (.type "tuple")) (PyProof.Rows.callWith_type1 (PyProof.Rows.args_cons (thn (he pins s σ H _ I h) fun x s1 ⟨r, a, b, t, u, v, H1, ex, hr, I1, ok, q⟩ => PyProof.Rows.args_nil ?_) na) na))
  subst ex
  obtain ⟨b1, b2, b3, b4, b5⟩ := ok
  refine call_tuple_range (n := (b - a).toNat) (I1.ok.hd hc) hr (small_one b1 b2 b3 b4) (PyProof.Rows.rangeSize_nat a b) b5 fun h' tk acc hk hi => ?_
  have I2 : Inv X pins σ H1 { s1 with heap := h', toks := tk } := I1.kept hk
  have z := NT.push I2 q (vals_rg hi) (by rw [rgV_length, sizeLine_eq]; omega)
  rw [Array.toArray_toList] at z
  exact z
end
section
variable {X : Cx} {XR : XRel} {Wx : WX} {e e1 e2 : Expr} {pos p p1 pos2 : Pos}
theorem se_tupR1 {f : FE} (hc : X.calm = true) (hg : Gl X "tuple") (hm : X.mg "tuple" = none) (hgr : Gl X "range") (hmr : X.mg "range" = none) (he : SE X XR Wx e f) (ns : noStar e = true) : SE X XR Wx (.Call (.Name "tuple" p) [.Call (.Name "range" p1) [e] [] pos2] [] pos) (fB1 f gTR1) :=
  pe_imp (pe_tupRgN hc hg hm (prg_1 hgr hmr he (star_cons ns)) (star_cons rfl)) fun σ H Q ⟨B, ρ, η, m, rl, c⟩ => by
    refine ⟨B, ρ, η, m, rl, Cn.bd c rl.rs fun a m1 x H1 ρ1 _ s1 rs1 wa c1 => ?_⟩
    unfold gTR1 at c1
    split at c1
    · split at c1
      · rename_i hb
        exact ⟨_, (VV.dv wa).int, rgOk_ok hb, fun p ob hp hd => c1.grown rs1 (upd_keep hp) (new_tup hp hd (by rw [rgV_length, sizeLine_eq]; have := (rgOk_ok hb).2.2.2.2; omega) dvs_rg)⟩
      · exact c1.elim
    · exact c1.elim
theorem se_tupR2 {f g : FE} (hc : X.calm = true) (hg : Gl X "tuple") (hm : X.mg "tuple" = none) (hgr : Gl X "range") (hmr : X.mg "range" = none) (he : SE X XR Wx e f) (he1 : SE X XR Wx e1 g) (ns : noStar e = true) (ns1 : noStar e1 = true) : SE X XR Wx (.Call (.Name "tuple" p) [.Call (.Name "range" p1) [e, e1] [] pos2] [] pos) (fB2 f g gTR2) :=
  pe_imp (pe_tupRgN hc hg hm (prg_2 hgr hmr he he1 (star_cons ns) (star_cons ns1) (by rw [star_cons ns1]; rfl)) (star_cons rfl)) fun σ H Q ⟨B, ρ, η, m, rl, c⟩ => by
    refine ⟨B, ρ, η, m, rl, Cn.bd c rl.rs fun a m1 x H1 ρ1 _ s1 rs1 wa c1 => ?_⟩
    have rl1 := rl.stp s1 rs1
    refine ⟨B, ρ1, η, m1, rl1, Cn.bd c1 rs1 fun b m2 y H2 ρ2 _ s2 rs2 wb c2 => ?_⟩
    have wa2 := wa.stp s2 rs1
    unfold gTR2 at c2
    split at c2
    · split at c2
      · rename_i hb
        exact ⟨_, _, (VV.dv wa2).int, (VV.dv wb).int, rgOk_ok hb, fun p ob hp hd => c2.grown rs2 (upd_keep hp) (new_tup hp hd (by rw [rgV_length, sizeLine_eq]; have := (rgOk_ok hb).2.2.2.2; omega) dvs_rg)⟩
      · exact c2.elim
    · exact c2.elim
theorem se_lstR1 {f : FE} (hc : X.calm = true) (hg : Gl X "list") (hm : X.mg "list" = none) (hgr : Gl X "range") (hmr : X.mg "range" = none) (he : SE X XR Wx e f) (ns : noStar e = true) : SE X XR Wx (.Call (.Name "list" p) [.Call (.Name "range" p1) [e] [] pos2] [] pos) (fB1 f gLR1) :=
  pe_imp (pe_listRg hc hg hm (prg_1 hgr hmr he (star_cons ns)) (star_cons rfl)) fun σ H Q ⟨B, ρ, η, m, rl, c⟩ => by
    refine ⟨B, ρ, η, m, rl, Cn.bd c rl.rs fun a m1 x H1 ρ1 _ s1 rs1 wa c1 => ?_⟩
    unfold gLR1 at c1
    split at c1
    · split at c1
      · rename_i hb
        exact ⟨_, (VV.dv wa).int, rgOk_ok hb, fun p hp => c1.grown rs1 (upd_keep hp) (new_lst rs1 hp (by rw [rgV_length, sizeLine_eq]; have := (rgOk_ok hb).2.2.2.2; omega) dvs_rg)⟩
      · exact c1.elim
    · exact c1.elim
def negD : D → Option D
  | .int i => some (.int (-i))
  | _ => none
theorem se_neg {f : FE} (he : SE X XR Wx e f) : SE X XR Wx (.UnaryOp .USub e pos) (fD1 negD f) :=
  pe_imp (pe_un un_neg he) fun σ H Q ⟨B, ρ, η, m, rl, c⟩ => by
    refine ⟨B, ρ, η, m, rl, Cn.bd c rl.rs fun a m1 x H1 ρ1 _ s1 rs1 wa c1 => ?_⟩
    obtain ⟨d, z, h1, h2, c2⟩ := gD1_ok rs1 wa c1
    cases d with
    | int i => cases h2; exact ⟨i, h1.int, c2.here rs1 (.int _)⟩
    | _ => simp [negD] at h2
def powD : D → D → Option D
  | .int i, .int j => if 0 ≤ j ∧ j ≤ 1000 ∧ i.natAbs < 2 ^ 64 then some (.int (i ^ j.toNat)) else none
  | _, _ => none
theorem se_pow {f f' : FE} (ha : SE X XR Wx e1 f) (hb : SE X XR Wx e2 f') : SE X XR Wx (.BinOp e1 .Pow e2 pos) (fB2 f f' (gD2 powD)) :=
  se_bin op_pow (fun B ρ H m σ η x y a b Q rl wa wb c => by
    obtain ⟨d, e, z, h1, h2, h3, c⟩ := gD2_ok rl.rs wa wb c
    unfold powD at h3
    split at h3
    · split at h3
      · rename_i h
        cases h3
        exact ⟨_, _, h1.int, h2.int, ⟨h.1, by omega, h.2.2⟩, c.here rl.rs (.int _)⟩
      · cases h3
    · cases h3) ha hb
end
end Pg

namespace Pg
open PySem L2
abbrev Cal := Nat → List W → Mu → R W
/-- a value of the store as data -/
def mapO {α β : Type} (f : α → Option β) : List α → Option (List β)
  | [] => some []
  | a :: r => match f a with
    | some b => (match mapO f r with
      | some l => some (b :: l)
      | none => none)
    | none => none
def frz : Nat → Mu → W → Option D
  | _, _, .p d => some d
  | 0, _, .r _ => none
  | n + 1, m, .r i => match m[i]? with
    | some (.lst ws) => (match mapO (frz n m) ws with
      | some ds => some (.list ds)
      | none => none)
    | some (.dic ks) => (match mapO (fun q => match frz n m q.2 with | some d => some (q.1, d) | none => none) ks with
      | some es => some (.dict es)
      | none => none)
    | none => none
/-- a call with data alone: its own store -/
def gCall (cl : Cal) (j : Nat) (us : List W) (m : Mu) : R W := match pures us with
  | some _ => (match cl j us [] with
    | .ok u m2 => (match frz (m2.length + 1) m2 u with
      | some d => .ok (.p d) m
      | none => .bad)
    | .exc _ _ _ => .bad
    | .bad => .bad)
  | none => .bad
def fCall (cl : Cal) (j : Nat) (g : FA) : FE := fun η m => (g η m).bd fun us m => gCall cl j us m
/-- a call in the caller's store -/
def fCallM (cl : Cal) (j : Nat) (g : FA) : FE := fun η m => (g η m).bd fun us m => noX (cl j us m)
inductive Bf where | len | int | tup | lst | all | any | sum | max | min
  deriving DecidableEq
def Bf.nm : Bf → Str
  | .len => "len" | .int => "int" | .tup => "tuple" | .lst => "list" | .all => "all" | .any => "any" | .sum => "sum" | .max => "max" | .min => "min"
def Bf.fn : Bf → D → Option D
  | .len => lenD | .int => intD | .tup => tupleD | .lst => listS | .all => allD | .any => anyD | .sum => sumD | .max => maxD | .min => minD
inductive Ty where | int | bool | str | tuple | list | dict
  deriving DecidableEq
def Ty.nm : Ty → String
  | .int => "int" | .bool => "bool" | .str => "str" | .tuple => "tuple" | .list => "list" | .dict => "dict"
mutual
inductive CE where
  | bad
  | k (d : D) | v (i : Nat) | g (j : Nat)
  | bo (o : Bo) (a b : CE) | pow (a b : CE) | neg (a : CE)
  | cmp (o : Co) (a b : CE) | chn (o o' : Co) (a b c : CE)
  | and (l : CB) | or (l : CB) | not (a : CE) | ite (c a b : CE)
  | tup (l : CA) | lst (l : CA) | lstM (l : CA) | dic (l : CP)
  | ix (a b : CE) | sl (a : CE) (lo hi : CO) | rev (a : CE)
  | b1 (f : Bf) (a : CE) | listM (a : CE) | isi (t : Ty) (a : CE)
  | tr1 (a : CE) | tr2 (a b : CE) | lr1 (a : CE)
  | call (j : Nat) (l : CA) | callM (j : Nat) (l : CA)
  | idx (o a : CE) | app (o a : CE)
  | lc (vs : List Nat) (g : Tg) (it : CI) (c : CC) (el : CE)
  | lcM (vs : List Nat) (g : Tg) (it : CI) (c : CC) (el : CE)
  | lc2 (vs : List Nat) (g : Tg) (it : CI) (c : CC) (it1 : CI) (vs1 : List Nat) (g1 : Tg) (c1 : CC) (el : CE)
inductive CA where
  | nil | cons (a : CE) (r : CA) | star (a : CE) (r : CA)
inductive CP where
  | nil | cons (k v : CE) (r : CP)
inductive CB where
  | one (a : CE) | cons (a : CE) (r : CB)
inductive CO where
  | no | yes (a : CE)
inductive CC where
  | yes | one (a : CE)
inductive CI where
  | val (a : CE) | r1 (a : CE) | r2 (a b : CE) | en (a : CE) | zp (a b : CE)
end
structure Sem0 where
  cl : Cal
  gd : List D
mutual
def semE (S : Sem0) : CE → FE
  | .bad => fun _ _ => .bad
  | .k d => fK d
  | .v i => fVar i
  | .g j => fun _ m => (match S.gd[j]? with
    | some d => .ok (.p d) m
    | none => .bad)
  | .bo o a b => fB2 (semE S a) (semE S b) (gD2 (binD o))
  | .pow a b => fB2 (semE S a) (semE S b) (gD2 powD)
  | .neg a => fD1 negD (semE S a)
  | .cmp o a b => fB2 (semE S a) (semE S b) (gD2 (cmpD o))
  | .chn o o' a b c => fChn o o' (semE S a) (semE S b) (semE S c)
  | .and l => semAnd S l
  | .or l => semOr S l
  | .not a => fNot (semE S a)
  | .ite c a b => fIte (semE S c) (semE S a) (semE S b)
  | .tup l => fTup (semA S l)
  | .lst l => fLst (semA S l)
  | .lstM l => fLstM (semA S l)
  | .dic l => fDic (semP S l)
  | .ix a b => fB2 (semE S a) (semE S b) gIx
  | .sl a lo hi => fSlice (semE S a) (semO S lo) (semO S hi)
  | .rev a => fD1 revD (semE S a)
  | .b1 f a => fD1 f.fn (semE S a)
  | .listM a => fListM (semE S a)
  | .isi t a => fD1 (isiD t.nm) (semE S a)
  | .tr1 a => fB1 (semE S a) gTR1
  | .tr2 a b => fB2 (semE S a) (semE S b) gTR2
  | .lr1 a => fB1 (semE S a) gLR1
  | .call j l => fCall S.cl j (semA S l)
  | .callM j l => fCallM S.cl j (semA S l)
  | .idx o a => fM1 hasIdx gIdx (semE S o) (semE S a)
  | .app o a => fM1 (hasL "list.append") gApp (semE S o) (semE S a)
  | .lc vs g it c el => fLc vs g (semI S it) (semC S c) (semE S el)
  | .lcM vs g it c el => fLcM vs g (semI S it) (semC S c) (semE S el)
  | .lc2 vs g it c it1 vs1 g1 c1 el => fLc2 vs g (semI S it) (semC S c) (semI S it1) vs1 g1 (semC S c1) (semE S el)
def semA (S : Sem0) : CA → FA
  | .nil => fNil
  | .cons a r => fCons (semE S a) (semA S r)
  | .star a r => fStar (semE S a) (semA S r)
def semP (S : Sem0) : CP → List (FE × FE)
  | .nil => []
  | .cons k v r => (semE S k, semE S v) :: semP S r
def semAnd (S : Sem0) : CB → FE
  | .one a => semE S a
  | .cons a r => fAnd (semE S a) (semAnd S r)
def semOr (S : Sem0) : CB → FE
  | .one a => semE S a
  | .cons a r => fOr (semE S a) (semOr S r)
def semO (S : Sem0) : CO → FO
  | .no => oNone
  | .yes a => oSome (semE S a)
def semC (S : Sem0) : CC → FT
  | .yes => fYes
  | .one a => fB (semE S a)
def semI (S : Sem0) : CI → FI
  | .val a => fItems (semE S a)
  | .r1 a => fRange1 (semE S a)
  | .r2 a b => fRange2 (semE S a) (semE S b)
  | .en a => fEnum (semE S a)
  | .zp a b => fZip (semE S a) (semE S b)
end
structure Mx where
  sc : Scope
  N : List Str
  fnc : Option Scope
structure Nm where
  fs : List Str
  gn : List Str
def glb (M : Mx) (x : Str) : Bool := decide (M.sc.names.lookup x = some .globalImplicit)
def visB (M : Mx) (x : Str) : Bool := decide (M.sc.names.lookup x = some .local) || decide (M.sc.names.lookup x = some .cell) || decide (M.sc.names.lookup x = some .free)
def locB (M : Mx) (x : Str) : Bool := decide (M.sc.names.lookup x = some .local) || decide (M.sc.names.lookup x = some .cell)
def fnB (M : Mx) (x : Str) : Bool := match M.fnc with
  | none => true
  | some s => s.names.lookup x == some .cell
def tgN (M : Mx) (i : Nat) (x : Str) : Bool := decide (M.N[i]? = some x) && locB M x && (fnB M x || decide (M.sc.names.lookup x = some .local))
def okNm (x : Str) : Bool := !(x == ("__debug__" : Str)) && !(x == ("__classdict__" : Str))
def mNames (M : Mx) : List Nat → List Expr → Bool
  | [], es => (match es with | [] => true | _ => false)
  | i :: is, es => (match es with
    | .Name x _ :: es => tgN M i x && mNames M is es
    | _ => false)
def mTg (M : Mx) (g : Tg) (e : Expr) : Bool := match g with
  | .nm i => (match e with
    | .Name x _ => tgN M i x
    | _ => false)
  | .tp is => (match e with
    | .Tuple es _ _ => mNames M is es
    | _ => false)
def isTupE : Expr → Bool
  | .Tuple _ _ _ => true
  | _ => false
def plainIter : Expr → Bool
  | .Set _ _ _ => false
  | _ => true
def ownOf (N : List Str) (vs : List Nat) : List (Str × Nat) := vs.map fun i => ((N[i]?).getD "", i)
theorem ownOf_snd (N : List Str) (vs : List Nat) : (ownOf N vs).map (·.2) = vs := by
  unfold ownOf
  rw [List.map_map]
  exact List.map_id' vs
def subNat (a b : List Nat) : Bool := a.all fun i => b.contains i
theorem subNat_ok {a b : List Nat} (h : subNat a b = true) : ∀ i ∈ a, i ∈ b := fun i hi => by
  have := List.all_eq_true.mp h i hi
  simpa using this
def inner (M : Mx) (scope : Scope) : Mx := ⟨relS scope M.sc, M.N, some scope⟩
def kC (d : D) (c : Const) : Bool := match d with
  | .none => (match c with | .none => true | _ => false)
  | .bool b => (match c with | .bool b' => b == b' | _ => false)
  | .int i => (match c with | .int j => decide (i = j) | _ => false)
  | .str x => (match c with | .str y => decide (x = y) | _ => false)
  | _ => false
def blNames : List Str := ["len", "int", "tuple", "list", "all", "any", "sum", "max", "min", "isinstance", "bool", "str", "dict", "range", "enumerate", "zip"]
section
variable (Z : Nm)
mutual
def mE (M : Mx) : CE → Expr → Bool
  | .bad, _ => true
  | .k d, e => (match e with | .Constant c _ _ => kC d c | _ => false)
  | .v i, e => (match e with | .Name x _ => decide (M.N[i]? = some x) && visB M x && okNm x | _ => false)
  | .g j, e => (match e with | .Name x _ => decide (Z.gn[j]? = some x) && glb M x && okNm x | _ => false)
  | .bo o a b, e => (match e with | .BinOp x op y _ => decide (op = o.op) && mE M a x && mE M b y | _ => false)
  | .pow a b, e => (match e with | .BinOp x op y _ => decide (op = .Pow) && mE M a x && mE M b y | _ => false)
  | .neg a, e => (match e with | .UnaryOp op x _ => decide (op = .USub) && mE M a x | _ => false)
  | .cmp o a b, e => (match e with | .Compare x [op] [y] _ => decide (op = o.op) && mE M a x && mE M b y && !(behindInMarks o.op y) | _ => false)
  | .chn o o' a b c, e => (match e with | .Compare x [op, op'] [y, z] _ => decide (op = o.op) && decide (op' = o'.op) && mE M a x && mE M b y && mE M c z && !(lastMarks [o.op, o'.op] [y, z]) | _ => false)
  | .and l, e => (match e with | .BoolOp op es _ => decide (op = .And) && mB M l es | _ => false)
  | .or l, e => (match e with | .BoolOp op es _ => decide (op = .Or) && mB M l es | _ => false)
  | .not a, e => (match e with | .UnaryOp op x _ => decide (op = .Not) && mE M a x | _ => false)
  | .ite c a b, e => (match e with | .IfExp x y z _ => mE M c x && tOk c x && mE M a y && mE M b z | _ => false)
  | .tup l, e => (match e with | .Tuple es _ _ => mA M l es | _ => false)
  | .lst l, e => (match e with | .List es _ => mA M l es | _ => false)
  | .lstM l, e => (match e with | .List es _ => mA M l es | _ => false)
  | .dic l, e => (match e with | .Dict ks vs _ => mP M l ks vs && decide (ks.length ≤ 15) | _ => false)
  | .ix a b, e => (match e with | .Subscript x y _ => mE M a x && mE M b y && plainIx y | _ => false)
  | .sl a lo hi, e => (match e with | .Subscript x (.Slice l h none _) _ => mE M a x && mO M lo l && mO M hi h | _ => false)
  | .rev a, e => (match e with | .Subscript x (.Slice none none (some (.UnaryOp .USub (.Constant (.int 1) _ _) _)) _) _ => mE M a x | _ => false)
  | .b1 f a, e => (match e with | .Call (.Name x _) [y] [] _ => decide (x = f.nm) && glb M x && mE M a y && noStar y | _ => false)
  | .listM a, e => (match e with | .Call (.Name x _) [y] [] _ => decide (x = "list") && glb M x && mE M a y && noStar y | _ => false)
  | .isi t a, e => (match e with | .Call (.Name x _) [y, .Name z _] [] _ => decide (x = "isinstance") && glb M x && decide (z = t.nm) && glb M z && mE M a y && noStar y | _ => false)
  | .tr1 a, e => (match e with | .Call (.Name x _) [.Call (.Name z _) [y] [] _] [] _ => decide (x = "tuple") && decide (z = "range") && glb M x && glb M z && mE M a y && noStar y | _ => false)
  | .tr2 a b, e => (match e with | .Call (.Name x _) [.Call (.Name z _) [y, y'] [] _] [] _ => decide (x = "tuple") && decide (z = "range") && glb M x && glb M z && mE M a y && noStar y && mE M b y' && noStar y' | _ => false)
  | .lr1 a, e => (match e with | .Call (.Name x _) [.Call (.Name z _) [y] [] _] [] _ => decide (x = "list") && decide (z = "range") && glb M x && glb M z && mE M a y && noStar y | _ => false)
  | .call j l, e => (match e with | .Call (.Name x _) es [] _ => decide (Z.fs[j]? = some x) && glb M x && okNm x && mA M l es && es.all noStar | _ => false)
  | .callM j l, e => (match e with | .Call (.Name x _) es [] _ => decide (Z.fs[j]? = some x) && glb M x && okNm x && mA M l es && es.all noStar | _ => false)
  | .idx o a, e => (match e with | .Call (.Attribute x n p) [y] [] p2 => decide (n = "index") && mE M o x && mE M a y && plainBase x && noStar y && (p.endLine == p2.line) | _ => false)
  | .app o a, e => (match e with | .Call (.Attribute x n p) [y] [] p2 => decide (n = "append") && mE M o x && mE M a y && plainBase x && noStar y && (p.endLine == p2.line) | _ => false)
  | .lc vs g it c el, e => (match e with
    | .ListComp x [⟨t, i, ifs, as⟩] sc _ => decide (as = 0) && mI M it t i && plainIter i && blkC M.N M.sc sc (ownOf M.N vs) && subNat g.slots vs && mTg (inner M sc) g t && mC (inner M sc) c ifs && mE (inner M sc) el x
    | _ => false)
  | .lcM vs g it c el, e => (match e with
    | .ListComp x [⟨t, i, ifs, as⟩] sc _ => decide (as = 0) && mI M it t i && plainIter i && blkC M.N M.sc sc (ownOf M.N vs) && subNat g.slots vs && mTg (inner M sc) g t && mC (inner M sc) c ifs && mE (inner M sc) el x
    | _ => false)
  | .lc2 vs g it c it1 vs1 g1 c1 el, e => (match e with
    | .ListComp x [⟨t, i, ifs, as⟩, ⟨t1, i1, ifs1, as1⟩] sc _ => decide (as = 0) && decide (as1 = 0) && mI M it t i && plainIter i && plainIter i1 && blkC M.N M.sc sc (ownOf M.N vs) && subNat vs1 vs && subNat g.slots vs && subNat g1.slots vs1
        && mTg (inner M sc) g t && mC (inner M sc) c ifs && mI (inner M sc) it1 t1 i1 && mTg (inner M sc) g1 t1 && mC (inner M sc) c1 ifs1 && mE (inner M sc) el x
    | _ => false)
def mA (M : Mx) : CA → List Expr → Bool
  | .nil, es => (match es with | [] => true | _ => false)
  | .cons a r, es => (match es with | e :: es => mE M a e && noStar e && mA M r es | [] => false)
  | .star a r, es => (match es with | .Starred e _ :: es => mE M a e && mA M r es | _ => false)
def mP (M : Mx) : CP → List (Option Expr) → List Expr → Bool
  | .nil, ks, vs => (match ks, vs with | [], [] => true | _, _ => false)
  | .cons k v r, ks, vs => (match ks, vs with | some x :: ks, y :: vs => mE M k x && mE M v y && mP M r ks vs | _, _ => false)
def mB (M : Mx) : CB → List Expr → Bool
  | .one a, es => (match es with | [e] => mE M a e | _ => false)
  | .cons a r, es => (match es with | e :: e2 :: es => mE M a e && mB M r (e2 :: es) | _ => false)
def mO (M : Mx) : CO → Option Expr → Bool
  | .no, o => (match o with | none => true | _ => false)
  | .yes a, o => (match o with | some e => mE M a e | _ => false)
def mC (M : Mx) : CC → List Expr → Bool
  | .yes, es => (match es with | [] => true | _ => false)
  | .one a, es => (match es with | [e] => mE M a e && tOk a e | _ => false)
def mI (M : Mx) : CI → Expr → Expr → Bool
  | .val a, _, e => mE M a e
  | .r1 a, _, e => (match e with | .Call (.Name x _) [y] [] _ => decide (x = "range") && glb M x && mE M a y && noStar y | _ => false)
  | .r2 a b, _, e => (match e with | .Call (.Name x _) [y, y'] [] _ => decide (x = "range") && glb M x && mE M a y && noStar y && mE M b y' && noStar y' | _ => false)
  | .en a, t, e => (match e with | .Call (.Name x _) [y] [] _ => decide (x = "enumerate") && glb M x && mE M a y && noStar y && isTupE t | _ => false)
  | .zp a b, t, e => (match e with | .Call (.Name x _) [y, y'] [] _ => decide (x = "zip") && glb M x && mE M a y && noStar y && mE M b y' && noStar y' && isTupE t | _ => false)
/-- a test of that form -/
def tOk : CE → Expr → Bool
  | .bad, _ => true
  | .cmp _ _ _, _ => true
  | .chn _ _ _ _ _, _ => true
  | .not a, e => (match e with | .UnaryOp _ x _ => tOk a x | _ => false)
  | .and l, e => (match e with | .BoolOp _ es _ => tOkB l es | _ => false)
  | .or l, e => (match e with | .BoolOp _ es _ => tOkB l es | _ => false)
  | .ite _ _ _, _ => false
  | .neg _, _ => false
  | _, _ => true
def tOkB : CB → List Expr → Bool
  | .one a, es => (match es with | [e] => tOk a e | _ => false)
  | .cons a r, es => (match es with | e :: e2 :: es => tOk a e && tOkB r (e2 :: es) | _ => false)
end
end
end Pg

namespace Pg
open PySem L2
/-- what a def of the table keeps -/
def SpecOf (w : World) (K : PySem.W.Frag) (XR : XRel) (cl : Cal) (j : Nat) : Sp := fun vs H Q E => ∃ B ρ m us, RS w K B ρ H m ∧ Paired (WV w K B ρ H) vs us ∧ Cn w K XR (WV w K) B ρ H E (noX (cl j us m)) Q
theorem cn_noX2 {α β : Type} {w : World} {K : PySem.W.Frag} {XR : XRel} {rel : (Addr → Prop) → List Addr → Hp → β → α → Prop} {B : Addr → Prop} {ρ : List Addr} {H : Hp} {Xw Xw' : Value → Option Addr → Hp → Prop} {r : R α} {Q : β → Hp → Prop} (h : Cn w K XR rel B ρ H Xw (noX r) Q) : Cn w K XR rel B ρ H Xw' (noX r) Q := by
  cases r with
  | ok a m => exact h
  | exc c d m => exact h.elim
  | bad => exact h.elim
structure Cee (X : Cx) (XR : XRel) (cl : Cal) (j : Nat) (x : Str) : Prop where
  ex : ∃ (k : Nat) (f : Addr) (fd : FuncData) (ps : List Str), FnOk X.prog X.w X.K X.mg X.base CX0 k f fd ps (SpecOf X.w X.K XR cl j) ∧ Room k X.A ∧ X.mg x = some (.ref f) ∧ PySem.W.keepIn X.K (.ref f) = true ∧ Binds X.K fd ps []
structure Good (X : Cx) (XR : XRel) (Z : Nm) (S : Sem0) (M : Mx) : Prop where
  sc : X.env.scope = M.sc
  N : X.N = M.N
  nd : M.N.Nodup
  calm : X.calm = true
  hu : X.A.units + 80 < cLine
  fn : ∀ x, fnB M x = true → X.fn x = true
  bl : ∀ x ∈ blNames, X.mg x = none
  gl : ∀ (j : Nat) (x : Str) (d : D), Z.gn[j]? = some x → S.gd[j]? = some d → ∃ v u, X.mg x = some u ∧ RelV v u ∧ KData X.w X.K v d
  ca : ∀ (j : Nat) (x : Str), Z.fs[j]? = some x → Cee X XR S.cl j x
theorem Good.blk {X : Cx} {XR : XRel} {Z : Nm} {S : Sem0} {M : Mx} (g : Good X XR Z S M) (scope : Scope) : LcIn X scope fun Y => Good Y XR Z S (inner M scope) := fun s H C cl fp =>
  ⟨by show relS scope X.env.scope = relS scope M.sc; rw [g.sc], g.N, g.nd, g.calm, g.hu, fun x h => h, g.bl, g.gl, fun j x h => ⟨(g.ca j x h).ex⟩⟩
section
variable {X : Cx} {XR : XRel} {Wx : WX} {Z : Nm} {S : Sem0} {M : Mx}
theorem Good.glob (g : Good X XR Z S M) {x : Str} (h : glb M x = true) : Gl X x := by
  show X.env.scope.names.lookup x = _
  rw [g.sc]
  exact of_decide_eq_true h
theorem Good.vis (g : Good X XR Z S M) {x : Str} (h : visB M x = true) : Vis X.env.scope x := by
  rw [g.sc]
  unfold visB at h
  simp only [Bool.or_eq_true, decide_eq_true_eq] at h
  rcases h with (h | h) | h
  · exact .inl h
  · exact .inr (.inl h)
  · exact .inr (.inr h)
theorem Good.loc (g : Good X XR Z S M) {x : Str} (h : locB M x = true) : Loc X.env.scope x := by
  rw [g.sc]
  unfold locB at h
  simp only [Bool.or_eq_true, decide_eq_true_eq] at h
  exact h
theorem okNm_ok {x : Str} (h : okNm x = true) : (x == ("__debug__" : Str)) = false ∧ (x == ("__classdict__" : Str)) = false := by
  unfold okNm at h
  simpa using h
theorem Good.tgn (g : Good X XR Z S M) {i : Nat} {x : Str} (h : tgN M i x = true) : X.N[i]? = some x ∧ Loc X.env.scope x ∧ (X.fn x = true ∨ X.env.scope.names.lookup x = some .local) := by
  unfold tgN at h
  simp only [Bool.and_eq_true, Bool.or_eq_true, decide_eq_true_eq] at h
  obtain ⟨⟨h1, h2⟩, h3⟩ := h
  refine ⟨by rw [g.N]; exact h1, g.loc h2, ?_⟩
  rcases h3 with h3 | h3
  · exact .inl (g.fn x h3)
  · exact .inr (by rw [g.sc]; exact h3)
theorem names_of (g : Good X XR Z S M) : ∀ {is : List Nat} {es : List Expr}, mNames M is es = true → Names X es is
  | [], [], _ => .nil
  | [], _ :: _, h => by cases h
  | i :: is, [], h => by cases h
  | i :: is, e :: es, h => by
    unfold mNames at h
    split at h
    · rename_i x p es' heq
      cases heq
      rw [Bool.and_eq_true] at h
      obtain ⟨h1, h2, h3⟩ := g.tgn h.1
      exact .cons h1 h2 h3 (names_of g h.2)
    · cases h
theorem okTg (g : Good X XR Z S M) {t : Tg} {e : Expr} (h : mTg M t e = true) : SG X e t := by
  unfold mTg at h
  split at h
  · split at h
    · obtain ⟨h1, h2, h3⟩ := g.tgn h
      exact sg_nm (by rw [g.N]; exact g.nd) h1 h2 h3
    · cases h
  · split at h
    · exact sg_tp g.calm (by rw [g.N]; exact g.nd) (names_of g h)
    · cases h
theorem plain_iter {e : Expr} {env : PySem.Env} (h : plainIter e = true) : ∀ x, foldedSetIterable e env x = pure x := by
  cases e <;> first | (intro _; rfl) | cases h
theorem okB1 (g : Good X XR Z S M) {f : FE} {e : Expr} {pos p : Pos} (b : Bf) (hg : glb M b.nm = true) (he : SE X XR Wx e f) (ns : noStar e = true) : SE X XR Wx (.Call (.Name b.nm p) [e] [] pos) (fD1 b.fn f) := by
  have hG := g.glob hg
  cases b with
  | len => exact se_blt call_lenA (by decide +kernel) sv_len hG (g.bl _ (by decide +kernel)) he ns (by decide +kernel) (by decide +kernel)
  | int => exact se_typ call_int1 (by decide +kernel) sv_int hG (g.bl _ (by decide +kernel)) he ns (by decide +kernel) (by decide +kernel)
  | tup => exact se_typ call_tupleN (by decide +kernel) sv_tuple hG (g.bl _ (by decide +kernel)) he ns (by decide +kernel) (by decide +kernel)
  | lst => exact se_typ call_list_of (by decide +kernel) sv_list hG (g.bl _ (by decide +kernel)) he ns (by decide +kernel) (by decide +kernel)
  | all => exact se_blt (cr_all g.calm) (by decide +kernel) sv_all hG (g.bl _ (by decide +kernel)) he ns (by decide +kernel) (by decide +kernel)
  | any => exact se_blt (cr_any g.calm) (by decide +kernel) sv_any hG (g.bl _ (by decide +kernel)) he ns (by decide +kernel) (by decide +kernel)
  | sum => exact se_blt (cr_sum g.calm) (by decide +kernel) sv_sum hG (g.bl _ (by decide +kernel)) he ns (by decide +kernel) (by decide +kernel)
  | max => exact se_blt (cr_max g.calm) (by decide +kernel) sv_max hG (g.bl _ (by decide +kernel)) he ns (by decide +kernel) (by decide +kernel)
  | min => exact se_blt (cr_min g.calm) (by decide +kernel) sv_min hG (g.bl _ (by decide +kernel)) he ns (by decide +kernel) (by decide +kernel)
theorem okIsi (g : Good X XR Z S M) {f : FE} {e : Expr} {pos p p2 : Pos} (t : Ty) (hg : glb M "isinstance" = true) (ht : glb M t.nm = true) (he : SE X XR Wx e f) (ns : noStar e = true) : SE X XR Wx (.Call (.Name "isinstance" p) [e, .Name t.nm p2] [] pos) (fD1 (isiD t.nm) f) := by
  have hG := g.glob hg
  have hT := g.glob ht
  cases t <;> exact se_isi hG (g.bl _ (by decide +kernel)) hT (g.bl _ (by decide +kernel)) (by decide +kernel) (by decide +kernel) (by decide +kernel) he ns
theorem mapO_ok {α β γ : Type} {f : α → Option β} {R : γ → α → Prop} {R' : γ → β → Prop} (h : ∀ c a b, R c a → f a = some b → R' c b) : ∀ {cs : List γ} {as : List α} {bs : List β}, Paired R cs as → mapO f as = some bs → Paired R' cs bs
  | _, _, _, .nil, e => by cases e; exact .nil
  | _, a :: as, bs, .cons r t, e => by
    unfold mapO at e
    cases q : f a with
    | none => rw [q] at e; cases e
    | some b =>
      rw [q] at e
      cases q2 : mapO f as with
      | none => rw [q2] at e; cases e
      | some l => rw [q2] at e; cases e; exact .cons (h _ _ _ r q) (mapO_ok h t q2)
theorem frz_ok {w : World} {K : PySem.W.Frag} {B' F : Addr → Prop} {ρ : List Addr} {H : Hp} {m : Mu} (rs : RS w K B' ρ H m) (hF : ∀ a, F a → B' a) : ∀ (n : Nat) {v : V} {u : W} {d : D}, WV w K B' ρ H v u → frz n m u = some d → DV w K F H v d := by
  have low : ∀ {v : V} {d : D}, DV w K (Fb B' ρ) H v d → DV w K F H v d := fun h => DV.kp (Kp.less fun a z => .inl (hF a z)) h
  have nF : ∀ {a : Addr}, a ∈ ρ → ¬ F a := fun h z => (rs.bt _ (hF _ z)).2 h
  intro n
  induction n with
  | zero =>
    intro v u d h e
    cases u with
    | p d' => cases e; exact low h
    | r i => cases e
  | succ n ih =>
    intro v u d h e
    cases u with
    | p d' => cases e; exact low h
    | r i =>
      obtain ⟨a, ha, rfl⟩ := h
      unfold frz at e
      split at e
      · rename_i ws hi
        split at e
        · rename_i ds hd
          cases e
          obtain ⟨xs, e1, l, p⟩ := rs.at_ i a _ ha hi
          exact .lst (.inl ⟨.inl e1, nF (List.mem_of_getElem? ha)⟩) l (.of (mapO_ok (R := WV w K B' ρ H) (R' := DV w K F H) (fun c a b r q => ih r q) p hd))
        · cases e
      · rename_i ks hi
        split at e
        · rename_i es' hd
          cases e
          obtain ⟨es, ep, e1, ns, l, ok, p⟩ := rs.at_ i a _ ha hi
          have key : ∀ {ks : List (D × W)} {es' : List (D × D)}, mapO (fun q => match frz n m q.2 with | some d => some (q.1, d) | none => none) ks = some es' → es'.map (·.1) = ks.map (·.1) := by
            intro ks
            induction ks with
            | nil => intro es' h; cases h; rfl
            | cons q ks ih2 =>
              intro es' h
              unfold mapO at h
              cases q1 : frz n m q.2 with
              | none => simp only [q1] at h; cases h
              | some d1 =>
                simp only [q1] at h
                split at h
                · rename_i l hl
                  cases h
                  simp [ih2 hl]
                · cases h
          refine .dic ⟨⟨ep, .inl ⟨.inl e1, nF (List.mem_of_getElem? ha)⟩⟩, ns⟩ l (ksOk_keys ok (key hd)) (.of (mapO_ok (R := EnR w K B' ρ H) (R' := EnG w K F H (DV w K F H)) (fun c q b r hq => ?_) p hd))
          obtain ⟨v1, u1, kk, q1, q2, q3, q5, q6, q7⟩ := r
          cases qq : frz n m q.2 with
          | none => simp only [qq] at hq; cases hq
          | some d1 =>
            simp only [qq] at hq
            cases hq
            exact ⟨v1, u1, kk, q1, low q2, q3, q5, q6, ih q7 qq⟩
        · cases e
      · cases e
theorem pures_pair {w : World} {K : PySem.W.Frag} {B : Addr → Prop} {ρ : List Addr} {H : Hp} : ∀ {us : List W} {ds : List D} {vs : List V}, pures us = some ds → Paired (WV w K B ρ H) vs us → Paired (WV w K (Fb B ρ) [] H) vs us
  | [], _, _, _, .nil => .nil
  | .r _ :: _, _, _, h, _ => by cases h
  | .p d :: us, ds, _, h, .cons a r => by
    unfold pures at h
    cases q : pures us with
    | none => rw [q] at h; cases h
    | some l => exact .cons (DV.kp (Kp.less fun x z => z.elim id (fun z => nomatch z)) (show DV w K (Fb B ρ) H _ d from a)) (pures_pair q r)
theorem call_read {cl : Cal} {j : Nat} {g : FA} {σ : St} {H : Hp} {Q : VK} (h : tE X XR Wx (fCall cl j g) σ H Q) : tCall (SpecOf X.w X.K XR cl j) [] E0 (tA X XR Wx g) σ H Q := by
  obtain ⟨B, ρ, η, m, rl, c⟩ := h
  refine ⟨B, ρ, η, m, rl, Cn.bd c rl.rs fun us m1 vs H1 ρ1 _ s1 rs1 pr c1 => ?_⟩
  unfold gCall at c1
  split at c1
  · rename_i ds hd
    rw [List.append_nil]
    refine ⟨Fb B ρ1, [], [], us, ⟨List.nodup_nil, rfl, fun i a o ha _ => by simp at ha, fun a h => ⟨?_, by simp⟩⟩, pures_pair hd pr, ?_⟩
    · exact h.elim (fun z => (rs1.bt a z).1) fun z => rs1.alive z
    · split at c1
      · rename_i u m2 hu
        rw [hu]
        split at c1
        · rename_i d hf
          intro v H2 ρ2 s2 rs2 wv
          have dv := frz_ok rs2 (F := Fb B ρ1) (fun a h => h) _ wv hf
          have k : ∀ a o, H1 a = some o → H2 a = some o := fun a o e => s2.keep a o e (by simp)
          exact c1.grown rs1 k dv
        · exact c1.elim
      · exact c1.elim
      · exact c1.elim
  · exact c1.elim
theorem callM_read {cl : Cal} {j : Nat} {g : FA} {σ : St} {H : Hp} {Q : VK} (h : tE X XR Wx (fCallM cl j g) σ H Q) : tCall (SpecOf X.w X.K XR cl j) [] E0 (tA X XR Wx g) σ H Q := by
  obtain ⟨B, ρ, η, m, rl, c⟩ := h
  refine ⟨B, ρ, η, m, rl, Cn.bd c rl.rs fun us m1 vs H1 ρ1 _ s1 rs1 pr c1 => ?_⟩
  rw [List.append_nil]
  exact ⟨B, ρ1, m1, us, rs1, pr, cn_noX2 c1⟩
theorem okCall (g : Good X XR Z S M) {j : Nat} {x : Str} {es : List Expr} {p pos : Pos} {l : CA} {t : TE} (hj : Z.fs[j]? = some x) (hg : glb M x = true) (hx : okNm x = true) (hl : mA Z M l es = true) (ha : SA X XR Wx es (semA S l)) (ns : es.all noStar = true)
    (hr : ∀ σ H Q, t σ H Q → tCall (SpecOf X.w X.K XR S.cl j) [] E0 (tA X XR Wx (semA S l)) σ H Q) : PE X (.Call (.Name x p) es [] pos) t := by
  obtain ⟨k, fa, fd, ps, F, room, hm, hk, hb⟩ := (g.ca j x hj).ex
  have hG := g.glob hg
  cases es with
  | nil =>
    refine pe_imp (pe_call0 F room hG hm hk hb .nil pass0 (okNm_ok hx).1) fun σ H Q h => ?_
    obtain ⟨B, ρ, η, m, rl, c⟩ := hr σ H Q h
    cases l with
    | nil =>
      unfold semA at c
      exact Cn.here (rel := fun B ρ H => Paired (WV X.w X.K B ρ H)) c rl.rs .nil
    | cons a r => simp [mA] at hl
    | star a r => simp [mA] at hl
  | cons e es =>
    rw [List.all_cons, Bool.and_eq_true] at ns
    exact pe_imp (pe_call F room hG hm hk hb .nil pass0 ha (okNm_ok hx).1 (star_cons ns.1) (star_all ns.2)) hr
end
end Pg

namespace Pg
open PySem L2
section
variable {XR : XRel} {Z : Nm} {S : Sem0}
structure OkE (XR : XRel) (Z : Nm) (S : Sem0) (X : Cx) (c : CE) (e : Expr) : Prop where
  val : ∀ Wx, SE X XR Wx e (semE S c)
  test : tOk Z c e = true → ∀ Wx, ST X XR Wx e (fB (semE S c))
theorem OkE.of {X : Cx} {c : CE} {e : Expr} (h : ∀ Wx, SE X XR Wx e (semE S c)) (he : ∀ whole, isTrue e X.env whole = (do let v ← whole; standAt e.pos; holding [v] (truthy v))) : OkE XR Z S X c e := ⟨h, fun _ Wx => st_val (h Wx) he⟩
theorem co_op {o : Co} {op : CmpOp} (h : decide (op = o.op) = true) : op = o.op := of_decide_eq_true h
theorem blk_ok {X : Cx} {M : Mx} {sc : Scope} {vs : List Nat} (g : Good X XR Z S M) (h : blkC M.N M.sc sc (ownOf M.N vs) = true) : BlkOk X.N X.env.scope sc (ownOf M.N vs) := by
  rw [g.N, g.sc]
  exact blkOk_by h
theorem se_bad {X : Cx} {e : Expr} {Wx : WX} : SE X XR Wx e (fun _ _ => .bad) := pe_imp (t := fun _ _ _ => False) ⟨fun _ _ _ _ _ _ z => z.elim⟩ fun σ H Q ⟨B, ρ, η, m, rl, c⟩ => c
theorem st_bad {X : Cx} {e : Expr} {Wx : WX} : ST X XR Wx e (fB fun _ _ => .bad) := pt_imp (t := fun _ _ _ => False) ⟨fun _ _ _ _ _ _ z => z.elim⟩ fun σ H Q ⟨B, ρ, η, m, rl, c⟩ => c
mutual
theorem okE : ∀ (c : CE) (M : Mx) (X : Cx) (e : Expr), Good X XR Z S M → mE Z M c e = true → OkE XR Z S X c e
  | .bad, M, X, e, g, h => ⟨fun Wx => by unfold semE; exact se_bad, fun _ Wx => by unfold semE; exact st_bad⟩
  | .k d, M, X, e, g, h => by
    unfold mE at h
    split at h
    · rename_i c j p
      cases d with
      | none => cases c <;> first | (exact .of (fun Wx => se_non) fun _ => rfl) | cases h
      | bool b => cases c with
        | bool b' =>
          have : b = b' := by simpa [kC] using h
          subst this
          exact .of (fun Wx => se_bl) fun _ => rfl
        | _ => cases h
      | int b => cases c with
        | int b' =>
          have : b = b' := by simpa [kC] using h
          subst this
          exact .of (fun Wx => se_int) fun _ => rfl
        | _ => cases h
      | str b => cases c with
        | str b' =>
          have : b = b' := by simpa [kC] using h
          subst this
          exact .of (fun Wx => se_str) fun _ => rfl
        | _ => cases h
      | _ => cases h
    · cases h
  | .v i, M, X, e, g, h => by
    unfold mE at h
    split at h
    · simp only [Bool.and_eq_true, decide_eq_true_eq] at h
      obtain ⟨⟨h1, h2⟩, h3⟩ := h
      exact .of (fun Wx => se_var (by rw [g.N]; exact h1) (g.vis h2) (okNm_ok h3).1 (okNm_ok h3).2) fun _ => rfl
    · cases h
  | .g j, M, X, e, g, h => by
    unfold mE at h
    split at h
    · simp only [Bool.and_eq_true, decide_eq_true_eq] at h
      obtain ⟨⟨h1, h2⟩, h3⟩ := h
      refine .of (fun Wx => ?_) fun _ => rfl
      unfold semE
      cases q : S.gd[j]? with
      | none => exact pe_imp (t := fun _ _ _ => False) ⟨fun _ _ _ _ _ _ z => z.elim⟩ fun σ H Q ⟨B, ρ, η, m, rl, c⟩ => c
      | some d =>
        obtain ⟨v, u, hm, r, kd⟩ := g.gl j _ d h1 q
        exact se_glb (g.glob h2) hm r kd (okNm_ok h3).1
    · cases h
  | .bo o a b, M, X, e, g, h => by
    unfold mE at h
    split at h
    · simp only [Bool.and_eq_true, decide_eq_true_eq] at h
      obtain ⟨⟨h1, h2⟩, h3⟩ := h
      subst h1
      exact .of (fun Wx => se_bo ((okE a M X _ g h2).val Wx) ((okE b M X _ g h3).val Wx)) fun _ => rfl
    · cases h
  | .pow a b, M, X, e, g, h => by
    unfold mE at h
    split at h
    · simp only [Bool.and_eq_true, decide_eq_true_eq] at h
      obtain ⟨⟨h1, h2⟩, h3⟩ := h
      subst h1
      exact .of (fun Wx => se_pow ((okE a M X _ g h2).val Wx) ((okE b M X _ g h3).val Wx)) fun _ => rfl
    · cases h
  | .neg a, M, X, e, g, h => by
    unfold mE at h
    split at h
    · simp only [Bool.and_eq_true, decide_eq_true_eq] at h
      obtain ⟨h1, h2⟩ := h
      subst h1
      exact ⟨fun Wx => se_neg ((okE a M X _ g h2).val Wx), fun z => by simp [tOk] at z⟩
    · cases h
  | .cmp o a b, M, X, e, g, h => by
    unfold mE at h
    split at h
    · simp only [Bool.and_eq_true, decide_eq_true_eq, Bool.not_eq_true'] at h
      obtain ⟨⟨⟨h1, h2⟩, h3⟩, h4⟩ := h
      subst h1
      exact ⟨fun Wx => se_cmp g.hu o ((okE a M X _ g h2).val Wx) ((okE b M X _ g h3).val Wx) h4, fun _ Wx => st_cmp g.hu o ((okE a M X _ g h2).val Wx) ((okE b M X _ g h3).val Wx) h4⟩
    · cases h
  | .chn o o' a b c, M, X, e, g, h => by
    unfold mE at h
    split at h
    · simp only [Bool.and_eq_true, decide_eq_true_eq, Bool.not_eq_true'] at h
      obtain ⟨⟨⟨⟨⟨h1, h2⟩, h3⟩, h4⟩, h5⟩, h6⟩ := h
      subst h1 h2
      exact ⟨fun Wx => se_chn g.hu o o' ((okE a M X _ g h3).val Wx) ((okE b M X _ g h4).val Wx) ((okE c M X _ g h5).val Wx) h6, fun _ Wx => st_chn g.hu o o' ((okE a M X _ g h3).val Wx) ((okE b M X _ g h4).val Wx) ((okE c M X _ g h5).val Wx) h6⟩
    · cases h
  | .and l, M, X, e, g, h => by
    unfold mE at h
    split at h
    · rename_i op es p
      simp only [Bool.and_eq_true, decide_eq_true_eq] at h
      obtain ⟨h1, h2⟩ := h
      subst h1
      have q := okAnd l M X es g h2
      exact ⟨fun Wx => (q p Wx).1, fun z Wx => PW.pt ((q p Wx).2 z)⟩
    · cases h
  | .or l, M, X, e, g, h => by
    unfold mE at h
    split at h
    · rename_i op es p
      simp only [Bool.and_eq_true, decide_eq_true_eq] at h
      obtain ⟨h1, h2⟩ := h
      subst h1
      have q := okOr l M X es g h2
      exact ⟨fun Wx => (q p Wx).1, fun z Wx => PW.pt ((q p Wx).2 z)⟩
    · cases h
  | .not a, M, X, e, g, h => by
    unfold mE at h
    split at h
    · simp only [Bool.and_eq_true, decide_eq_true_eq] at h
      obtain ⟨h1, h2⟩ := h
      subst h1
      exact ⟨fun Wx => se_not ((okE a M X _ g h2).val Wx), fun z Wx => st_not ((okE a M X _ g h2).test (by simpa [tOk] using z) Wx)⟩
    · cases h
  | .ite c a b, M, X, e, g, h => by
    unfold mE at h
    split at h
    · simp only [Bool.and_eq_true] at h
      obtain ⟨⟨⟨h1, h2⟩, h3⟩, h4⟩ := h
      exact ⟨fun Wx => se_ite ((okE c M X _ g h1).test h2 Wx) ((okE a M X _ g h3).val Wx) ((okE b M X _ g h4).val Wx), fun z => by simp [tOk] at z⟩
    · cases h
  | .tup l, M, X, e, g, h => by
    unfold mE at h
    split at h
    · exact .of (fun Wx => se_tup (okA l M X _ g h Wx)) fun _ => rfl
    · cases h
  | .lst l, M, X, e, g, h => by
    unfold mE at h
    split at h
    · exact .of (fun Wx => se_lst (okA l M X _ g h Wx)) fun _ => rfl
    · cases h
  | .lstM l, M, X, e, g, h => by
    unfold mE at h
    split at h
    · exact .of (fun Wx => se_lstM (okA l M X _ g h Wx)) fun _ => rfl
    · cases h
  | .dic l, M, X, e, g, h => by
    unfold mE at h
    split at h
    · rename_i ks vs p
      simp only [Bool.and_eq_true, decide_eq_true_eq] at h
      obtain ⟨h1, h2⟩ := h
      refine .of (fun Wx => ?_) fun _ => rfl
      obtain ⟨q1, q2, q3, q4⟩ := okP l M X ks vs g h1
      cases l with
      | nil =>
        have : ks = [] := by cases ks <;> first | rfl | (cases vs <;> simp [mP] at h1)
        subst this
        have : vs = [] := by cases vs <;> first | rfl | simp [mP] at h1
        subst this
        exact se_dic0
      | cons k v r =>
        refine se_dic g.hu (q4 p Wx) q1 q2 (fun z => ?_) h2 q3
        subst z
        simp [mP] at h1
    · cases h
  | .ix a b, M, X, e, g, h => by
    unfold mE at h
    split at h
    · simp only [Bool.and_eq_true] at h
      obtain ⟨⟨h1, h2⟩, h3⟩ := h
      exact .of (fun Wx => se_ix g.hu ((okE a M X _ g h1).val Wx) ((okE b M X _ g h2).val Wx) h3) fun _ => rfl
    · cases h
  | .sl a lo hi, M, X, e, g, h => by
    unfold mE at h
    split at h
    · simp only [Bool.and_eq_true] at h
      obtain ⟨⟨h1, h2⟩, h3⟩ := h
      exact .of (fun Wx => se_slice ((okE a M X _ g h1).val Wx) (okO lo M X _ g h2 Wx) (okO hi M X _ g h3 Wx)) fun _ => rfl
    · cases h
  | .rev a, M, X, e, g, h => by
    unfold mE at h
    split at h
    · exact .of (fun Wx => se_rev ((okE a M X _ g h).val Wx)) fun _ => rfl
    · cases h
  | .b1 f a, M, X, e, g, h => by
    unfold mE at h
    split at h
    · simp only [Bool.and_eq_true, decide_eq_true_eq] at h
      obtain ⟨⟨⟨h1, h2⟩, h3⟩, h4⟩ := h
      subst h1
      exact .of (fun Wx => okB1 g f h2 ((okE a M X _ g h3).val Wx) h4) fun _ => rfl
    · cases h
  | .listM a, M, X, e, g, h => by
    unfold mE at h
    split at h
    · simp only [Bool.and_eq_true, decide_eq_true_eq] at h
      obtain ⟨⟨⟨h1, h2⟩, h3⟩, h4⟩ := h
      subst h1
      exact .of (fun Wx => se_listM (g.glob h2) (g.bl _ (by decide +kernel)) ((okE a M X _ g h3).val Wx) h4) fun _ => rfl
    · cases h
  | .isi t a, M, X, e, g, h => by
    unfold mE at h
    split at h
    · simp only [Bool.and_eq_true, decide_eq_true_eq] at h
      obtain ⟨⟨⟨⟨⟨h1, h2⟩, h3⟩, h4⟩, h5⟩, h6⟩ := h
      subst h1 h3
      exact .of (fun Wx => okIsi g t h2 h4 ((okE a M X _ g h5).val Wx) h6) fun _ => rfl
    · cases h
  | .tr1 a, M, X, e, g, h => by
    unfold mE at h
    split at h
    · simp only [Bool.and_eq_true, decide_eq_true_eq] at h
      obtain ⟨⟨⟨⟨⟨h1, h2⟩, h3⟩, h4⟩, h5⟩, h6⟩ := h
      subst h1 h2
      exact .of (fun Wx => se_tupR1 g.calm (g.glob h3) (g.bl _ (by decide +kernel)) (g.glob h4) (g.bl _ (by decide +kernel)) ((okE a M X _ g h5).val Wx) h6) fun _ => rfl
    · cases h
  | .tr2 a b, M, X, e, g, h => by
    unfold mE at h
    split at h
    · simp only [Bool.and_eq_true, decide_eq_true_eq] at h
      obtain ⟨⟨⟨⟨⟨⟨⟨h1, h2⟩, h3⟩, h4⟩, h5⟩, h6⟩, h7⟩, h8⟩ := h
      subst h1 h2
      exact .of (fun Wx => se_tupR2 g.calm (g.glob h3) (g.bl _ (by decide +kernel)) (g.glob h4) (g.bl _ (by decide +kernel)) ((okE a M X _ g h5).val Wx) ((okE b M X _ g h7).val Wx) h6 h8) fun _ => rfl
    · cases h
  | .lr1 a, M, X, e, g, h => by
    unfold mE at h
    split at h
    · simp only [Bool.and_eq_true, decide_eq_true_eq] at h
      obtain ⟨⟨⟨⟨⟨h1, h2⟩, h3⟩, h4⟩, h5⟩, h6⟩ := h
      subst h1 h2
      exact .of (fun Wx => se_lstR1 g.calm (g.glob h3) (g.bl _ (by decide +kernel)) (g.glob h4) (g.bl _ (by decide +kernel)) ((okE a M X _ g h5).val Wx) h6) fun _ => rfl
    · cases h
  | .call j l, M, X, e, g, h => by
    unfold mE at h
    split at h
    · simp only [Bool.and_eq_true, decide_eq_true_eq] at h
      obtain ⟨⟨⟨⟨h1, h2⟩, h3⟩, h4⟩, h5⟩ := h
      exact .of (fun Wx => okCall g h1 h2 h3 h4 (okA l M X _ g h4 Wx) h5 fun σ H Q z => call_read z) fun _ => rfl
    · cases h
  | .callM j l, M, X, e, g, h => by
    unfold mE at h
    split at h
    · simp only [Bool.and_eq_true, decide_eq_true_eq] at h
      obtain ⟨⟨⟨⟨h1, h2⟩, h3⟩, h4⟩, h5⟩ := h
      exact .of (fun Wx => okCall g h1 h2 h3 h4 (okA l M X _ g h4 Wx) h5 fun σ H Q z => callM_read z) fun _ => rfl
    · cases h
  | .idx o a, M, X, e, g, h => by
    unfold mE at h
    split at h
    · simp only [Bool.and_eq_true, decide_eq_true_eq] at h
      obtain ⟨⟨⟨⟨⟨h1, h2⟩, h3⟩, h4⟩, h5⟩, h6⟩ := h
      subst h1
      exact .of (fun Wx => se_m1 (tab_index g.hu) ms_index ((okE o M X _ g h2).val Wx) ((okE a M X _ g h3).val Wx) h4 h5 h6) fun _ => rfl
    · cases h
  | .app o a, M, X, e, g, h => by
    unfold mE at h
    split at h
    · simp only [Bool.and_eq_true, decide_eq_true_eq] at h
      obtain ⟨⟨⟨⟨⟨h1, h2⟩, h3⟩, h4⟩, h5⟩, h6⟩ := h
      subst h1
      exact .of (fun Wx => se_m1 tab_append ms_append ((okE o M X _ g h2).val Wx) ((okE a M X _ g h3).val Wx) h4 h5 h6) fun _ => rfl
    · cases h
  | .lc vs t it c el, M, X, e, g, h => by
    unfold mE at h
    split at h
    · simp only [Bool.and_eq_true, decide_eq_true_eq] at h
      obtain ⟨⟨⟨⟨⟨⟨⟨h0, h1⟩, h2⟩, h3⟩, h4⟩, h5⟩, h6⟩, h7⟩ := h
      subst h0
      refine .of (fun Wx => ?_) fun _ => rfl
      have q := fun pos => se_lc (pos := pos) (Wx := Wx) g.calm (by rw [g.N]; exact g.nd) (okI it M X _ _ g h1 Wx) (blk_ok g h3) (by rw [ownOf_snd]; exact subNat_ok h4) (fun s H C cl fp => okTg (g.blk _ s H C cl fp) h5) (fun s H C cl fp => okC c _ _ _ (g.blk _ s H C cl fp) h6) (fun s H C cl fp => (okE el _ _ _ (g.blk _ s H C cl fp) h7).val W0) (plain_iter h2)
      simp only [ownOf_snd] at q
      exact q _
    · cases h
  | .lcM vs t it c el, M, X, e, g, h => by
    unfold mE at h
    split at h
    · simp only [Bool.and_eq_true, decide_eq_true_eq] at h
      obtain ⟨⟨⟨⟨⟨⟨⟨h0, h1⟩, h2⟩, h3⟩, h4⟩, h5⟩, h6⟩, h7⟩ := h
      subst h0
      refine .of (fun Wx => ?_) fun _ => rfl
      have q := fun pos => se_lcM (pos := pos) (Wx := Wx) g.calm (by rw [g.N]; exact g.nd) (okI it M X _ _ g h1 Wx) (blk_ok g h3) (by rw [ownOf_snd]; exact subNat_ok h4) (fun s H C cl fp => okTg (g.blk _ s H C cl fp) h5) (fun s H C cl fp => okC c _ _ _ (g.blk _ s H C cl fp) h6) (fun s H C cl fp => (okE el _ _ _ (g.blk _ s H C cl fp) h7).val W0) (plain_iter h2)
      simp only [ownOf_snd] at q
      exact q _
    · cases h
  | .lc2 vs t it c it1 vs1 t1 c1 el, M, X, e, g, h => by
    unfold mE at h
    split at h
    · simp only [Bool.and_eq_true, decide_eq_true_eq] at h
      obtain ⟨⟨⟨⟨⟨⟨⟨⟨⟨⟨⟨⟨⟨⟨h0, h01⟩, h1⟩, h2⟩, h21⟩, h3⟩, h31⟩, h4⟩, h41⟩, h5⟩, h6⟩, h7⟩, h8⟩, h9⟩, h10⟩ := h
      subst h0 h01
      refine .of (fun Wx => ?_) fun _ => rfl
      have q := fun pos => se_lc2 (pos := pos) (Wx := Wx) (it1 := semI S it1) (c := semC S c) (c1 := semC S c1) (el := semE S el) g.calm (by rw [g.N]; exact g.nd) (okI it M X _ _ g h1 Wx) (blk_ok g h3) (by rw [ownOf_snd]; exact subNat_ok h31) (by rw [ownOf_snd]; exact subNat_ok h4) (subNat_ok h41) (fun s H C cl fp => okTg (g.blk _ s H C cl fp) h5) (fun s H C cl fp => okC c _ _ _ (g.blk _ s H C cl fp) h6)
        (fun s H C cl fp => okI it1 _ _ _ _ (g.blk _ s H C cl fp) h7 W0) (fun s H C cl fp => okTg (g.blk _ s H C cl fp) h8) (fun s H C cl fp => okC c1 _ _ _ (g.blk _ s H C cl fp) h9) (fun s H C cl fp => (okE el _ _ _ (g.blk _ s H C cl fp) h10).val W0) (plain_iter h2) (fun env => plain_iter h21)
      simp only [ownOf_snd] at q
      exact q _
    · cases h
theorem okA : ∀ (l : CA) (M : Mx) (X : Cx) (es : List Expr), Good X XR Z S M → mA Z M l es = true → ∀ Wx, SA X XR Wx es (semA S l)
  | .nil, M, X, es, g, h, Wx => by
    unfold mA at h
    split at h
    · exact sa_nil
    · cases h
  | .cons a r, M, X, es, g, h, Wx => by
    unfold mA at h
    split at h
    · simp only [Bool.and_eq_true] at h
      obtain ⟨⟨h1, h2⟩, h3⟩ := h
      exact sa_cons ((okE a M X _ g h1).val Wx) (okA r M X _ g h3 Wx) (star_cons h2)
    · cases h
  | .star a r, M, X, es, g, h, Wx => by
    unfold mA at h
    split at h
    · simp only [Bool.and_eq_true] at h
      exact sa_star ((okE a M X _ g h.1).val Wx) (okA r M X _ g h.2 Wx)
    · cases h
theorem okP : ∀ (l : CP) (M : Mx) (X : Cx) (ks : List (Option Expr)) (vs : List Expr), Good X XR Z S M → mP Z M l ks vs = true → ks.all (·.isSome) = true ∧ ks.length = vs.length ∧ (semP S l).length = ks.length ∧ ∀ pos Wx, PPs X pos ks vs (trsOf X XR Wx (semP S l))
  | .nil, M, X, ks, vs, g, h => by
    unfold mP at h
    split at h
    · exact ⟨rfl, rfl, rfl, fun pos Wx => pps_nil⟩
    · cases h
  | .cons k v r, M, X, ks, vs, g, h => by
    unfold mP at h
    split at h
    · simp only [Bool.and_eq_true] at h
      obtain ⟨⟨h1, h2⟩, h3⟩ := h
      obtain ⟨q1, q2, q3, q4⟩ := okP r M X _ _ g h3
      exact ⟨by simpa using q1, by simp [q2], by simp [semP, q3], fun pos Wx => pps_cons ((okE k M X _ g h1).val Wx) ((okE v M X _ g h2).val Wx) (q4 pos Wx)⟩
    · cases h
theorem okAnd : ∀ (l : CB) (M : Mx) (X : Cx) (es : List Expr), Good X XR Z S M → mB Z M l es = true → ∀ pos Wx, SE X XR Wx (.BoolOp .And es pos) (semAnd S l) ∧ (tOkB Z l es = true → SW X XR Wx (.BoolOp .And es pos) (fB (semAnd S l)))
  | .one a, M, X, es, g, h, pos, Wx => by
    unfold mB at h
    split at h
    · exact ⟨se_one ((okE a M X _ g h).val Wx), fun z => st_and1 ((okE a M X _ g h).test (by simpa [tOkB] using z) Wx)⟩
    · cases h
  | .cons a r, M, X, es, g, h, pos, Wx => by
    unfold mB at h
    split at h
    · simp only [Bool.and_eq_true] at h
      have q := okAnd r M X _ g h.2 pos Wx
      refine ⟨se_and ((okE a M X _ g h.1).val Wx) q.1, fun z => ?_⟩
      simp only [tOkB, Bool.and_eq_true] at z
      exact st_and ((okE a M X _ g h.1).test z.1 Wx) (q.2 z.2)
    · cases h
theorem okOr : ∀ (l : CB) (M : Mx) (X : Cx) (es : List Expr), Good X XR Z S M → mB Z M l es = true → ∀ pos Wx, SE X XR Wx (.BoolOp .Or es pos) (semOr S l) ∧ (tOkB Z l es = true → SW X XR Wx (.BoolOp .Or es pos) (fB (semOr S l)))
  | .one a, M, X, es, g, h, pos, Wx => by
    unfold mB at h
    split at h
    · exact ⟨se_one ((okE a M X _ g h).val Wx), fun z => st_or1 ((okE a M X _ g h).test (by simpa [tOkB] using z) Wx)⟩
    · cases h
  | .cons a r, M, X, es, g, h, pos, Wx => by
    unfold mB at h
    split at h
    · simp only [Bool.and_eq_true] at h
      have q := okOr r M X _ g h.2 pos Wx
      refine ⟨se_or ((okE a M X _ g h.1).val Wx) q.1, fun z => ?_⟩
      simp only [tOkB, Bool.and_eq_true] at z
      exact st_or ((okE a M X _ g h.1).test z.1 Wx) (q.2 z.2)
    · cases h
theorem okO : ∀ (o : CO) (M : Mx) (X : Cx) (e : Option Expr), Good X XR Z S M → mO Z M o e = true → ∀ Wx, SO X XR Wx e (semO S o)
  | .no, M, X, e, g, h, Wx => by
    unfold mO at h
    split at h
    · exact so_none
    · cases h
  | .yes a, M, X, e, g, h, Wx => by
    unfold mO at h
    split at h
    · exact so_some ((okE a M X _ g h).val Wx)
    · cases h
theorem okC : ∀ (c : CC) (M : Mx) (X : Cx) (es : List Expr), Good X XR Z S M → mC Z M c es = true → PTs X es (tT X XR W0 (semC S c))
  | .yes, M, X, es, g, h => by
    unfold mC at h
    split at h
    · exact pts_yes
    · cases h
  | .one a, M, X, es, g, h => by
    unfold mC at h
    split at h
    · simp only [Bool.and_eq_true] at h
      exact pts_one ((okE a M X _ g h.1).test h.2 W0)
    · cases h
theorem okI : ∀ (c : CI) (M : Mx) (X : Cx) (t e : Expr), Good X XR Z S M → mI Z M c t e = true → ∀ Wx, SI X XR Wx t e (semI S c)
  | .val a, M, X, t, e, g, h, Wx => by
    unfold mI at h
    exact si_val ((okE a M X _ g h).val Wx)
  | .r1 a, M, X, t, e, g, h, Wx => by
    unfold mI at h
    split at h
    · simp only [Bool.and_eq_true, decide_eq_true_eq] at h
      obtain ⟨⟨⟨h1, h2⟩, h3⟩, h4⟩ := h
      subst h1
      exact si_range1 (g.glob h2) (g.bl _ (by decide +kernel)) ((okE a M X _ g h3).val Wx) h4
    · cases h
  | .r2 a b, M, X, t, e, g, h, Wx => by
    unfold mI at h
    split at h
    · simp only [Bool.and_eq_true, decide_eq_true_eq] at h
      obtain ⟨⟨⟨⟨⟨h1, h2⟩, h3⟩, h4⟩, h5⟩, h6⟩ := h
      subst h1
      exact si_range2 (g.glob h2) (g.bl _ (by decide +kernel)) ((okE a M X _ g h3).val Wx) ((okE b M X _ g h5).val Wx) h4 h6
    · cases h
  | .en a, M, X, t, e, g, h, Wx => by
    unfold mI at h
    split at h
    · simp only [Bool.and_eq_true, decide_eq_true_eq] at h
      obtain ⟨⟨⟨⟨h1, h2⟩, h3⟩, h4⟩, h5⟩ := h
      subst h1
      cases t with
      | Tuple es k p => exact si_enum (g.glob h2) (g.bl _ (by decide +kernel)) ((okE a M X _ g h3).val Wx) h4
      | _ => cases h5
    · cases h
  | .zp a b, M, X, t, e, g, h, Wx => by
    unfold mI at h
    split at h
    · simp only [Bool.and_eq_true, decide_eq_true_eq] at h
      obtain ⟨⟨⟨⟨⟨⟨h1, h2⟩, h3⟩, h4⟩, h5⟩, h6⟩, h7⟩ := h
      subst h1
      cases t with
      | Tuple es k p => exact si_zip (g.glob h2) (g.bl _ (by decide +kernel)) ((okE a M X _ g h3).val Wx) ((okE b M X _ g h5).val Wx) h4 h6
      | _ => cases h7
    · cases h
end
end
end Pg

namespace Pg
open PySem L2
mutual
inductive CS where
  | bad
  | set (i : Nat) (e : CE) | unp (g : Tg) (e : CE) | par (is : List Nat) (l : CA) | put (o i e : CE)
  | ex (e : CE) | iff (c : CE) (t e : CSs) | forr (g : Tg) (it : CI) (b : CSs) | whl (n : Nat) (c : CE) (b : CSs)
  | ret (e : CE) | retN | pass | brk | cnt
inductive CSs where
  | nil | cons (s : CS) (r : CSs)
end
mutual
def semS (S : Sem0) : CS → FS
  | .bad => fun _ _ => .bad
  | .set i e => fSet i (semE S e)
  | .unp g e => fUnp g (semE S e)
  | .par is l => fPar is (semA S l)
  | .put o i e => fPut (semE S o) (semE S i) (semE S e)
  | .ex e => fDo (semE S e)
  | .iff c t e => fIf (fB (semE S c)) (semSs S t) (semSs S e)
  | .forr g it b => fFor g (semI S it) (semSs S b)
  | .whl n c b => fWhl n (fB (semE S c)) (semSs S b)
  | .ret e => fRet (semE S e)
  | .retN => fRetN
  | .pass => fNext
  | .brk => fBrk
  | .cnt => fCnt
def semSs (S : Sem0) : CSs → FS
  | .nil => fNext
  | .cons s r => fSeq (semS S s) (semSs S r)
end
def swB (sc0 sc : Scope) (x : Str) (l1 l2 : Nat) : Bool := (if sc0.kind.isAnnotationScope then ScopeKind.function else sc0.kind) == .function && sc0.names.lookup x == some .local && l1 == l2 && !(sc.names.any fun (n, k) => n == x && (k == .local || k == .cell))
theorem sw_lc {elt : Expr} {gens : List Comprehension} {sc : Scope} {p1 p2 : Pos} {x : Str} {line : Nat} {env : PySem.Env} : swapsWith (.ListComp elt gens sc p2) (some (.Name x p1)) line env = pure (swB env.scope sc x p1.line p2.line) := rfl
def noComp : Expr → Bool
  | .ListComp _ _ _ _ => false
  | .SetComp _ _ _ _ => false
  | .DictComp _ _ _ _ _ => false
  | _ => true
theorem sw_no {e : Expr} {t : Option Expr} {line : Nat} {env : PySem.Env} (h : noComp e = true) : swapsWith e t line env = pure false := by
  cases e <;> first | rfl | cases h
def isLc : CE → Bool
  | .lc _ _ _ _ _ => true
  | .lcM _ _ _ _ _ => true
  | .lc2 _ _ _ _ _ _ _ _ _ => true
  | _ => false
/-- value = not a tuple, or one of four and more -/
def unpC (t v : Expr) : Bool := noComp v && (match v with
  | .Tuple _ _ _ => (match t with
    | .Tuple ts _ _ => !(ts.length == 2 || ts.length == 3)
    | _ => false)
  | _ => true)
def isTgt : Expr → Bool
  | .Name _ _ => true
  | .Tuple _ _ _ => true
  | _ => false
theorem swapped_none {t v : Expr} {env : PySem.Env} (h : unpC t v = true) : swappedStores [t] v env = pure none := by
  unfold unpC at h
  rw [Bool.and_eq_true] at h
  obtain ⟨_, h⟩ := h
  cases v with
  | Tuple vs k p =>
    cases t with
    | Tuple ts k2 p2 =>
      have h : (!(ts.length == 2 || ts.length == 3)) = true := h
      unfold swappedStores
      dsimp only
      rw [h]
      rfl
    | _ => cases h
  | _ => cases t <;> rfl
def parC2 (sc : Scope) (x y : Str) (px py : Pos) (a b : Expr) : Bool := decide (sc.kind = .function) && decide (sc.names.lookup x = some .local) && decide (sc.names.lookup y = some .local) && !(x == y) && (py.line == px.line) && noStar a && noStar b && !([a, b].all (foldedForSure 8)) && !([a, b].all (constantsAlone 8))
def parC3 (sc : Scope) (x y z : Str) (px py pz : Pos) (a b c : Expr) : Bool := decide (sc.kind = .function) && decide (sc.names.lookup x = some .local) && decide (sc.names.lookup y = some .local) && decide (sc.names.lookup z = some .local) && !(x == y) && !(x == z) && !(y == z) && (py.line == px.line) && (pz.line == px.line) && noStar a && noStar b && noStar c && !([a, b, c].all (foldedForSure 8)) && !([a, b, c].all (constantsAlone 8))
theorem dups2 {x y : Str} (h : (x == y) = false) : [x, y].eraseDups.length = 2 := by
  have hxy : y ≠ x := fun e => by rw [e] at h; simp at h
  simp [List.eraseDups_cons, hxy]
theorem dups3 {x y z : Str} (h : (x == y) = false) (h2 : (x == z) = false) (h3 : (y == z) = false) : [x, y, z].eraseDups.length = 3 := by
  have a1 : y ≠ x := fun e => by rw [e] at h; simp at h
  have a2 : z ≠ x := fun e => by rw [e] at h2; simp at h2
  have a3 : z ≠ y := fun e => by rw [e] at h3; simp at h3
  simp [List.eraseDups_cons, a1, a2, a3]
theorem swapped_2 {x y : Str} {px py pt pt2 : Pos} {kt k2 : Nat} {a b : Expr} {env : PySem.Env} (h : parC2 env.scope x y px py a b = true) : swappedStores [.Tuple [.Name x px, .Name y py] kt pt] (.Tuple [a, b] k2 pt2) env = pure (some [x, y]) := by
  unfold parC2 at h
  simp only [Bool.and_eq_true, decide_eq_true_eq, Bool.not_eq_true'] at h
  obtain ⟨⟨⟨⟨⟨⟨⟨⟨h1, h2⟩, h3⟩, h4⟩, h5⟩, h6⟩, h7⟩, h8⟩, h9⟩ := h
  have n1 : env.blockKind = .function := by unfold PySem.Env.blockKind; rw [h1]; rfl
  have l1 : env.kindOf x = some .local := h2
  have l2 : env.kindOf y = some .local := h3
  unfold swappedStores
  simp only [n1, l1, l2, h5, h8, h9, List.length_cons, List.length_nil, List.head?_cons, Option.map_some, Expr.pos, Option.getD_some, List.filterMap_cons, List.filterMap_nil, List.any_cons, List.any_nil]
  simp
  refine (if_neg ?_).trans (if_pos (dups2 h4))
  rintro (z | z)
  · cases a <;> first | exact Bool.noConfusion z | exact Bool.noConfusion h6
  · cases b <;> first | exact Bool.noConfusion z | exact Bool.noConfusion h7
theorem swapped_3 {x y z : Str} {px py pz pt pt2 : Pos} {kt k2 : Nat} {a b c : Expr} {env : PySem.Env} (h : parC3 env.scope x y z px py pz a b c = true) : swappedStores [.Tuple [.Name x px, .Name y py, .Name z pz] kt pt] (.Tuple [a, b, c] k2 pt2) env = pure (some [x, y, z]) := by
  unfold parC3 at h
  simp only [Bool.and_eq_true, decide_eq_true_eq, Bool.not_eq_true'] at h
  obtain ⟨⟨⟨⟨⟨⟨⟨⟨⟨⟨⟨⟨⟨h1, h2⟩, h3⟩, h3'⟩, h4⟩, h4'⟩, h4''⟩, h5⟩, h5'⟩, h6⟩, h7⟩, h7'⟩, h8⟩, h9⟩ := h
  have n1 : env.blockKind = .function := by unfold PySem.Env.blockKind; rw [h1]; rfl
  have l1 : env.kindOf x = some .local := h2
  have l2 : env.kindOf y = some .local := h3
  have l3 : env.kindOf z = some .local := h3'
  unfold swappedStores
  simp only [n1, l1, l2, l3, h5, h5', h8, h9, List.length_cons, List.length_nil, List.head?_cons, Option.map_some, Expr.pos, Option.getD_some, List.filterMap_cons, List.filterMap_nil, List.any_cons, List.any_nil]
  simp
  refine (if_neg ?_).trans (if_pos (dups3 h4 h4' h4''))
  rintro (z | z | z)
  · cases a <;> first | exact Bool.noConfusion z | exact Bool.noConfusion h6
  · cases b <;> first | exact Bool.noConfusion z | exact Bool.noConfusion h7
  · cases c <;> first | exact Bool.noConfusion z | exact Bool.noConfusion h7'
def setC (M : Mx) (e : CE) (x : Str) (p1 : Pos) (v : Expr) : Bool := noComp v || (match v with
  | .ListComp _ _ sc p2 => if swB M.sc sc x p1.line p2.line = true then isLc e && decide (M.sc.names.lookup x = some .local) else true
  | _ => false)
section
variable (Z : Nm)
mutual
def mS (M : Mx) : CS → Stmt → Bool
  | .bad, _ => true
  | .set i e, s => (match s with
    | .Assign [.Name x p1] v _ => tgN M i x && mE Z M e v && setC M e x p1 v
    | _ => false)
  | .unp g e, s => (match s with
    | .Assign [t] v _ => mTg M g t && isTgt t && mE Z M e v && unpC t v
    | _ => false)
  | .par is l, s => (match s with
    | .Assign [.Tuple [.Name x px, .Name y py] _ _] (.Tuple [a, b] _ _) _ => (match is with
      | [i, j] => decide (M.N[i]? = some x) && decide (M.N[j]? = some y) && !(i == j) && parC2 M.sc x y px py a b && mA Z M l [a, b]
      | _ => false)
    | .Assign [.Tuple [.Name x px, .Name y py, .Name z pz] _ _] (.Tuple [a, b, c] _ _) _ => (match is with
      | [i, j, k] => decide (M.N[i]? = some x) && decide (M.N[j]? = some y) && decide (M.N[k]? = some z) && !(i == j) && !(i == k) && !(j == k) && parC3 M.sc x y z px py pz a b c && mA Z M l [a, b, c]
      | _ => false)
    | _ => false)
  | .put o i e, s => (match s with
    | .Assign [.Subscript x y _] v _ => mE Z M o x && mE Z M i y && mE Z M e v && plainPut y
    | _ => false)
  | .ex e, s => (match s with
    | .Expr v _ => mE Z M e v && noComp v
    | _ => false)
  | .iff c t e, s => (match s with
    | .If x a b _ => mE Z M c x && tOk Z c x && mSs M t a && mSs M e b
    | _ => false)
  | .forr g it b, s => (match s with
    | .For t i a [] _ => mTg M g t && mI Z M it t i && plainIter i && mSs M b a
    | _ => false)
  | .whl _ c b, s => (match s with
    | .While x a [] _ => mE Z M c x && tOk Z c x && mSs M b a
    | _ => false)
  | .ret e, s => (match s with
    | .Return (some v) _ => mE Z M e v
    | _ => false)
  | .retN, s => (match s with
    | .Return none _ => true
    | _ => false)
  | .pass, s => (match s with
    | .Pass _ => true
    | _ => false)
  | .brk, s => (match s with
    | .Break _ => true
    | _ => false)
  | .cnt, s => (match s with
    | .Continue _ => true
    | _ => false)
def mSs (M : Mx) : CSs → List Stmt → Bool
  | .nil, ss => (match ss with | [] => true | _ => false)
  | .cons s r, ss => (match ss with | x :: ss => mS M s x && mSs M r ss | [] => false)
end
end
section
variable {XR : XRel} {Z : Nm} {S : Sem0} {X : Cx} {M : Mx} {Wx : WX}
theorem sole_eq {t v : Expr} {line : Nat} {env : PySem.Env} : swapsWithSole [t] v line env = swapsWith v (some t) line env := rfl
theorem okPut (g : Good X XR Z S M) {o i e : CE} {x y v : Expr} {p pos : Pos} (h1 : mE Z M o x = true) (h2 : mE Z M i y = true) (h3 : mE Z M e v = true) (h4 : plainPut y = true) : SS X XR Wx (.Assign [.Subscript x y p] v pos) (fPut (semE S o) (semE S i) (semE S e)) := by
  refine ss_put g.hu ((okE o M X _ g h1).val Wx) ((okE i M X _ g h2).val Wx) ((okE e M X _ g h3).val Wx) ?_ ?_ rfl ?_
  · cases v <;> rfl
  · cases v <;> rfl
  · intro u
    cases y <;> first | rfl | cases h4
theorem okSet (g : Good X XR Z S M) {i : Nat} {e : CE} {x : Str} {v : Expr} {p1 pos : Pos} (h1 : tgN M i x = true) (h2 : mE Z M e v = true) (h3 : setC M e x p1 v = true) : SS X XR Wx (.Assign [.Name x p1] v pos) (fSet i (semE S e)) := by
  obtain ⟨t1, t2, t3⟩ := g.tgn h1
  have nd : X.N.Nodup := by rw [g.N]; exact g.nd
  have plain : swapsWith v (some (.Name x p1)) pos.line X.env = pure false → SS X XR Wx (.Assign [.Name x p1] v pos) (fSet i (semE S e)) := fun hs => ss_set nd t1 t2 t3 ((okE e M X _ g h2).val Wx) hs
  by_cases hc : noComp v = true
  · exact plain (sw_no hc)
  · have hc' : noComp v = false := by simpa using hc
    unfold setC at h3
    rw [hc', Bool.false_or] at h3
    cases v with
    | ListComp elt gens sc p2 =>
      dsimp only at h3
      cases hb : swB M.sc sc x p1.line p2.line with
      | false =>
        refine plain ?_
        rw [sw_lc, g.sc, hb]
      | true =>
        rw [hb, if_pos rfl, Bool.and_eq_true, decide_eq_true_eq] at h3
        obtain ⟨hl, hloc⟩ := h3
        have hy : X.env.scope.names.lookup x = some .local := by rw [g.sc]; exact hloc
        have hsw : ∀ {gens : List Comprehension}, swapsWith (.ListComp elt gens sc p2) (some (.Name x p1)) pos.line X.env = pure true := by intro gens; rw [sw_lc, g.sc, hb]
        cases e with
        | lc vs t it c el =>
          unfold mE at h2
          split at h2
          · rename_i heq
            cases heq
            simp only [Bool.and_eq_true, decide_eq_true_eq] at h2
            obtain ⟨⟨⟨⟨⟨⟨⟨h0, h1⟩, h2⟩, h3⟩, h4⟩, h5⟩, h6⟩, h7⟩ := h2
            subst h0
            have q := ss_setLc (Wx := Wx) (pos := pos) (p1 := p1) (p2 := p2) g.calm nd t1 hy hsw (okI it M X _ _ g h1 Wx) (blk_ok g h3) (by rw [ownOf_snd]; exact subNat_ok h4) (fun s H C cl fp => okTg (g.blk _ s H C cl fp) h5) (fun s H C cl fp => okC c _ _ _ (g.blk _ s H C cl fp) h6) (fun s H C cl fp => (okE el _ _ _ (g.blk _ s H C cl fp) h7).val W0) (plain_iter h2)
            simp only [ownOf_snd] at q
            exact q
          · cases h2
        | lcM vs t it c el =>
          unfold mE at h2
          split at h2
          · rename_i heq
            cases heq
            simp only [Bool.and_eq_true, decide_eq_true_eq] at h2
            obtain ⟨⟨⟨⟨⟨⟨⟨h0, h1⟩, h2⟩, h3⟩, h4⟩, h5⟩, h6⟩, h7⟩ := h2
            subst h0
            have q := ss_setLcM (Wx := Wx) (pos := pos) (p1 := p1) (p2 := p2) g.calm nd t1 hy hsw (okI it M X _ _ g h1 Wx) (blk_ok g h3) (by rw [ownOf_snd]; exact subNat_ok h4) (fun s H C cl fp => okTg (g.blk _ s H C cl fp) h5) (fun s H C cl fp => okC c _ _ _ (g.blk _ s H C cl fp) h6) (fun s H C cl fp => (okE el _ _ _ (g.blk _ s H C cl fp) h7).val W0) (plain_iter h2)
            simp only [ownOf_snd] at q
            exact q
          · cases h2
        | lc2 vs t it c it1 vs1 t1' c1 el =>
          unfold mE at h2
          split at h2
          · rename_i heq
            cases heq
            simp only [Bool.and_eq_true, decide_eq_true_eq] at h2
            obtain ⟨⟨⟨⟨⟨⟨⟨⟨⟨⟨⟨⟨⟨⟨h0, h01⟩, h1⟩, h2⟩, h21⟩, h3⟩, h31⟩, h4⟩, h41⟩, h5⟩, h6⟩, h7⟩, h8⟩, h9⟩, h10⟩ := h2
            subst h0 h01
            have q := ss_setLc2 (Wx := Wx) (pos := pos) (p1 := p1) (p2 := p2) (it1 := semI S it1) (c := semC S c) (c1 := semC S c1) (el := semE S el) g.calm nd t1 hy hsw (okI it M X _ _ g h1 Wx) (blk_ok g h3) (by rw [ownOf_snd]; exact subNat_ok h31) (by rw [ownOf_snd]; exact subNat_ok h4) (subNat_ok h41) (fun s H C cl fp => okTg (g.blk _ s H C cl fp) h5) (fun s H C cl fp => okC c _ _ _ (g.blk _ s H C cl fp) h6)
              (fun s H C cl fp => okI it1 _ _ _ _ (g.blk _ s H C cl fp) h7 W0) (fun s H C cl fp => okTg (g.blk _ s H C cl fp) h8) (fun s H C cl fp => okC c1 _ _ _ (g.blk _ s H C cl fp) h9) (fun s H C cl fp => (okE el _ _ _ (g.blk _ s H C cl fp) h10).val W0) (plain_iter h2) (fun env => plain_iter h21)
            simp only [ownOf_snd] at q
            exact q
          · cases h2
        | _ => cases hl
    | _ => cases h3
end
end Pg

namespace Pg
open PySem L2
section
variable {XR : XRel} {Z : Nm} {S : Sem0}
theorem each_one {t : Expr} {env : PySem.Env} (h : isTgt t = true) : (assignEach [t] env).map (·.2) = [assign t env] := by
  cases t <;> first | rfl | cases h
mutual
theorem okS : ∀ (c : CS) (M : Mx) (X : Cx) (s : Stmt), Good X XR Z S M → PassesOwn (model X.prog X.w) X.A X.env X.xe → mS Z M c s = true → ∀ Wx, SS X XR Wx s (semS S c)
  | .bad, M, X, s, g, hp, h, Wx => by
    unfold semS
    exact ps_imp (t := fun _ _ _ => False) ⟨fun _ _ _ _ _ _ z => z.elim⟩ fun D σ H ⟨B, ρ, η, m, rl, c⟩ => c
  | .set i e, M, X, s, g, hp, h, Wx => by
    unfold mS at h
    split at h
    · simp only [Bool.and_eq_true] at h
      exact okSet g h.1.1 h.1.2 h.2
    · cases h
  | .unp t e, M, X, s, g, hp, h, Wx => by
    unfold mS at h
    split at h
    · simp only [Bool.and_eq_true] at h
      obtain ⟨⟨⟨h1, h2⟩, h3⟩, h4⟩ := h
      refine ss_unp ((okE e M X _ g h3).val Wx) (okTg g h1) ?_ (swapped_none h4) (each_one h2)
      rw [sole_eq]
      unfold unpC at h4
      rw [Bool.and_eq_true] at h4
      exact sw_no h4.1
    · cases h
  | .par is l, M, X, s, g, hp, h, Wx => by
    unfold mS at h
    split at h
    · split at h
      · simp only [Bool.and_eq_true, decide_eq_true_eq, Bool.not_eq_true', beq_eq_false_iff_ne] at h
        obtain ⟨⟨⟨⟨h1, h2⟩, h3⟩, h4⟩, h5⟩ := h
        have hw := h4
        unfold parC2 at h4
        simp only [Bool.and_eq_true, decide_eq_true_eq] at h4
        exact ss_par2 g.calm (by rw [g.N]; exact g.nd) (by rw [g.N]; exact h1) (by rw [g.N]; exact h2) h3 (by rw [g.sc]; exact h4.1.1.1.1.1.1.1.2) (by rw [g.sc]; exact h4.1.1.1.1.1.1.2) (okA l M X _ g h5 Wx) (swapped_2 (by rw [g.sc]; exact hw))
      · cases h
    · split at h
      · simp only [Bool.and_eq_true, decide_eq_true_eq, Bool.not_eq_true', beq_eq_false_iff_ne] at h
        obtain ⟨⟨⟨⟨⟨⟨⟨h1, h2⟩, h2'⟩, h3⟩, h3'⟩, h3''⟩, h4⟩, h5⟩ := h
        have hw := h4
        unfold parC3 at h4
        simp only [Bool.and_eq_true, decide_eq_true_eq] at h4
        obtain ⟨⟨⟨⟨⟨⟨⟨⟨⟨⟨⟨⟨⟨a1, a2⟩, a3⟩, a4⟩, _⟩, _⟩, _⟩, _⟩, _⟩, _⟩, _⟩, _⟩, _⟩, _⟩ := h4
        exact ss_par3 g.calm (by rw [g.N]; exact g.nd) (by rw [g.N]; exact h1) (by rw [g.N]; exact h2) (by rw [g.N]; exact h2') h3 h3' h3'' (by rw [g.sc]; exact a2) (by rw [g.sc]; exact a3) (by rw [g.sc]; exact a4) (okA l M X _ g h5 Wx) (swapped_3 (by rw [g.sc]; exact hw))
      · cases h
    · cases h
  | .put o i e, M, X, s, g, hp, h, Wx => by
    unfold mS at h
    split at h
    · simp only [Bool.and_eq_true] at h
      exact okPut g h.1.1.1 h.1.1.2 h.1.2 h.2
    · cases h
  | .ex e, M, X, s, g, hp, h, Wx => by
    unfold mS at h
    split at h
    · simp only [Bool.and_eq_true] at h
      exact ss_do ((okE e M X _ g h.1).val Wx) (sw_no h.2)
    · cases h
  | .iff c t e, M, X, s, g, hp, h, Wx => by
    unfold mS at h
    split at h
    · simp only [Bool.and_eq_true] at h
      obtain ⟨⟨⟨h1, h2⟩, h3⟩, h4⟩ := h
      exact ss_if ((okE c M X _ g h1).test h2 Wx) (okSs t M X _ g hp h3 Wx) (okSs e M X _ g hp h4 Wx)
    · cases h
  | .forr t it b, M, X, s, g, hp, h, Wx => by
    unfold mS at h
    split at h
    · simp only [Bool.and_eq_true] at h
      obtain ⟨⟨⟨h1, h2⟩, h3⟩, h4⟩ := h
      exact ss_for hp g.calm (okI it M X _ _ g h2 Wx) (okTg g h1) (okSs b M X _ g hp h4 Wx) (plain_iter h3)
    · cases h
  | .whl n c b, M, X, s, g, hp, h, Wx => by
    unfold mS at h
    split at h
    · simp only [Bool.and_eq_true] at h
      obtain ⟨⟨h1, h2⟩, h3⟩ := h
      exact ss_whl hp ((okE c M X _ g h1).test h2 Wx) (okSs b M X _ g hp h3 Wx)
    · cases h
  | .ret e, M, X, s, g, hp, h, Wx => by
    unfold mS at h
    split at h
    · exact ss_ret ((okE e M X _ g h).val Wx)
    · cases h
  | .retN, M, X, s, g, hp, h, Wx => by
    unfold mS at h
    split at h
    · exact ss_retN
    · cases h
  | .pass, M, X, s, g, hp, h, Wx => by
    unfold mS at h
    split at h
    · exact ss_pass
    · cases h
  | .brk, M, X, s, g, hp, h, Wx => by
    unfold mS at h
    split at h
    · exact ss_brk
    · cases h
  | .cnt, M, X, s, g, hp, h, Wx => by
    unfold mS at h
    split at h
    · exact ss_cnt
    · cases h
theorem okSs : ∀ (c : CSs) (M : Mx) (X : Cx) (s : List Stmt), Good X XR Z S M → PassesOwn (model X.prog X.w) X.A X.env X.xe → mSs Z M c s = true → ∀ Wx, SSs X XR Wx s (semSs S c)
  | .nil, M, X, s, g, hp, h, Wx => by
    unfold mSs at h
    split at h
    · exact ss_nil
    · cases h
  | .cons c r, M, X, s, g, hp, h, Wx => by
    unfold mSs at h
    split at h
    · simp only [Bool.and_eq_true] at h
      exact ss_cons (okS c M X _ g hp h.1 Wx) (okSs r M X _ g hp h.2 Wx)
    · cases h
end
end
structure Fn where
  np : Nat
  N : List Str
  body : CSs
def finR : Fl → Mu → R W
  | .nx _, m => .ok (.p .none) m
  | .rt u, m => .ok u m
  | .bk _, _ => .bad
  | .ct _, _ => .bad
def runFn (S : Sem0) (fn : Fn) (us : List W) (m : Mu) : R W :=
  if us.length = fn.np then (semSs S fn.body (us.map some ++ List.replicate (fn.N.length - us.length) none) m).bd finR else .bad
structure Tb where
  fns : List Fn
  gd : List D
def callF (T : Tb) : Nat → Cal
  | 0 => fun _ _ _ => .bad
  | n + 1 => fun j us m => match T.fns[j]? with
    | some fn => runFn ⟨callF T n, T.gd⟩ fn us m
    | none => .bad
/-- the start's slots -/
theorem rel_start {w : World} {K : PySem.W.Frag} {B : Addr → Prop} {ρ : List Addr} {H : Hp} {m : Mu} {N : List Str} {vs : List V} {us : List W} (rs : RS w K B ρ H m) (p : Paired (WV w K B ρ H) vs us) : Rel w K B ρ (L2.start N vs) H (us.map some ++ List.replicate (N.length - us.length) none) m := by
  have hl := Paired.length p
  refine ⟨rs, ?_, fun i u h => ?_⟩
  · unfold L2.start
    rw [List.length_append, List.length_append, List.length_map, List.length_map, List.length_replicate, List.length_replicate, hl]
  · unfold get at h
    by_cases hi : i < us.length
    · rw [List.getElem?_append_left (by simpa using hi), List.getElem?_map] at h
      have hu : us[i]? = some us[i] := List.getElem?_eq_getElem hi
      rw [hu] at h
      have e : us[i] = u := by simpa using h
      obtain ⟨v, hv, wv⟩ := paired_get p hu
      refine ⟨v, ?_, by rw [← e]; exact wv⟩
      unfold L2.start
      rw [List.getElem?_append_left (by rw [List.length_map, hl]; exact hi), List.getElem?_map, hv]
      rfl
    · rw [List.getElem?_append_right (by simpa using hi), List.getElem?_replicate] at h
      split at h
      · rename_i w' hw
        split at hw <;> cases hw
      · cases h
/-- a def's text and its code -/
structure DefOk (K : PySem.W.Frag) (mg : Str → Option Value) (Z : Nm) (j : Nat) (fn : Fn) : Prop where
  ex : ∃ (x qual : Str) (st : Stmt) (f : Addr) (fd : FuncData) (ps : List Str), Z.fs[j]? = some x ∧ Fun K x qual st f fd ∧ mg x = some (.ref f) ∧ Binds K fd ps [] ∧ FnScope fn.N ps (defScope st) ∧ ps.length = fn.np ∧ mSs Z ⟨defScope st, fn.N, none⟩ fn.body (defBody st) = true
theorem cn_fl {X : Cx} {XR : XRel} {B : Addr → Prop} {ρ : List Addr} {H : Hp} {r : R Fl} {Q : VK} {E : XK} (h : Cn X.w X.K XR (WV X.w X.K) B ρ H E (noX (r.bd finR)) Q) : CnS X XR W0 B ρ H r { nx := fun _ H' => Q .non H', rt := Q } := by
  cases r with
  | ok fl m =>
    cases fl with
    | nx η => exact fun ρ' H' s rs σ rl => h .non H' ρ' s rs DV.non
    | rt u => exact fun ρ' H' s rs v wv => h v H' ρ' s rs wv
    | bk η => exact h.elim
    | ct η => exact h.elim
  | exc c d m => exact h.elim
  | bad => exact h.elim
theorem _root_.L2.Fun.lk {K : PySem.W.Frag} {x qual : Str} {st : Stmt} {f : Addr} {fd : FuncData} (F : Fun K x qual st f fd) : ∃ oc od osl, K.lookup f = some ⟨oc, od, .func fd, osl⟩ := by
  obtain ⟨oc, od, kV, doc, pm, an, cdv, ct, osl, e, lk, _⟩ := F.ex
  exact ⟨oc, od, osl, lk⟩
theorem fns_ok {P : Program} {w : World} {K : PySem.W.Frag} {mg : Str → Option Value} {base : Heap} {XR : XRel} {Z : Nm} {T : Tb} (hl : Z.fs.length = T.fns.length) (hb : ∀ x ∈ blNames, mg x = none)
    (hgl : ∀ (j : Nat) (x : Str) (d : D), Z.gn[j]? = some x → T.gd[j]? = some d → ∃ v u, mg x = some u ∧ RelV v u ∧ KData w K v d)
    (hd : ∀ (j : Nat) (fn : Fn), T.fns[j]? = some fn → DefOk K mg Z j fn) :
    ∀ (n j : Nat) (fn : Fn), T.fns[j]? = some fn → ∃ (x : Str) (f : Addr) (fd : FuncData) (ps : List Str), Z.fs[j]? = some x ∧ FnOk P w K mg base CX0 n f fd ps (SpecOf w K XR (callF T n) j) ∧ mg x = some (.ref f) ∧ PySem.W.keepIn K (.ref f) = true ∧ Binds K fd ps [] ∧ (∃ oc od osl, K.lookup f = some ⟨oc, od, .func fd, osl⟩) ∧ ps = fn.N.take fn.np := by
  intro n
  induction n with
  | zero =>
    intro j fn hj
    obtain ⟨x, qual, st, f, fd, ps, hx, F, hm, hbi, sc, hnp, _⟩ := (hd j fn hj).ex
    have pse : ps = fn.N.take fn.np := by rw [← hnp, sc.pre]
    refine ⟨x, f, fd, ps, hx, ⟨fun vs H Q E ⟨B, ρ, m, us, _, _, c⟩ => c.elim, fun A outer s H args us vs Q E _ _ _ _ ⟨B, ρ, m, us', _, _, c⟩ => c.elim⟩, hm, F.kp, hbi, F.lk, pse⟩
  | succ n ih =>
    intro j fn hj
    obtain ⟨x, qual, st, f, fd, ps, hx, F, hm, hbi, sc, hnp, ht⟩ := (hd j fn hj).ex
    have pse : ps = fn.N.take fn.np := by rw [← hnp, sc.pre]
    have eq : ∀ us m, callF T (n + 1) j us m = runFn ⟨callF T n, T.gd⟩ fn us m := fun us m => by
      show (match T.fns[j]? with
        | some fn => runFn ⟨callF T n, T.gd⟩ fn us m
        | none => .bad) = _
      rw [hj]
    refine ⟨x, f, fd, ps, hx, ?_, hm, F.kp, hbi, F.lk, pse⟩
    refine F.ok (k := n) sc (fun vs H Q E ⟨B, ρ, m, us, rs, p, c⟩ => ?_) (fun cdv A outer s H vs Q E hr ⟨B, ρ, m, us, rs, p, c⟩ => ?_)
    · rw [eq] at c
      unfold runFn at c
      split at c
      · rename_i hlen
        rw [Paired.length p, hlen, hnp]
      · exact c.elim
    · rw [eq] at c
      unfold runFn at c
      split at c
      · have g : Good (cxOf CX0 P w K mg base fn.N qual (defScope st) f cdv A outer s H E).nox XR Z ⟨callF T n, T.gd⟩ ⟨defScope st, fn.N, none⟩ := by
          refine ⟨rfl, rfl, sc.nd, rfl, ?_, fun x _ => rfl, hb, hgl, fun j' x' hx' => ?_⟩
          · exact Nat.lt_of_le_of_lt (Nat.add_le_add_left (by omega : 80 ≤ 16 * n + 200) _) (by have := hr.un; rw [Nat.add_assoc] at this; exact this)
          · have hj' : j' < T.fns.length := by rw [← hl]; exact (List.getElem?_eq_some_iff.mp hx').1
            obtain ⟨x2, f2, fd2, ps2, e1, F2, m2, k2, b2, _⟩ := ih j' T.fns[j'] (List.getElem?_eq_getElem hj')
            rw [hx'] at e1
            cases e1
            exact ⟨n, f2, fd2, ps2, F2, hr, m2, k2, b2⟩
        refine ⟨_, okSs fn.body _ _ _ g PassesOwn.never ht W0, B, ρ, _, m, rel_start rs p, cn_fl c⟩
      · exact c.elim
end Pg

namespace Pg
open PySem L2
inductive Sh where
  | non | bl (b : Bool) | int (i : Int) | str (x : Str) | lst (l : List Sh) | tup (l : List Sh) | dic (l : List (Sh × Int × Sh)) | bad
def rdV (K : PySem.W.Frag) : Nat → Value → Sh
  | 0, _ => .bad
  | n + 1, v => match v with
    | .none => .non
    | .bool b => .bl b
    | .int i _ => .int i
    | .str x _ => .str x
    | .ref a => (match K.lookup a with
      | some ⟨.type c, none, .seq its _, _⟩ => (match decide (c = "tuple" ∧ its.size ≤ sizeLine) with
        | true => .tup (its.toList.map (rdV K n))
        | false => (match decide (c = "list" ∧ its.size ≤ sizeLine) with
          | true => .lst (its.toList.map (rdV K n))
          | false => .bad))
      | some ⟨.type c, none, .dict es _, sl⟩ => (match decide (c = "dict" ∧ es.size ≤ sizeLine) && (sl.isEmpty && !(a == sysModules)) with
        | true => .dic (es.toList.map fun e => (rdV K n e.key, e.hash, rdV K n e.val))
        | false => .bad)
      | _ => .bad)
    | _ => .bad
mutual
def shD (w : World) : D → Sh
  | .none => .non
  | .bool b => .bl b
  | .int i => .int i
  | .str x => .str x
  | .list xs => .lst (shDs w xs)
  | .tuple xs => .tup (shDs w xs)
  | .dict ks => .dic (shDd w ks)
def shDs (w : World) : List D → List Sh
  | [] => []
  | x :: xs => shD w x :: shDs w xs
def shDd (w : World) : List (D × D) → List (Sh × Int × Sh)
  | [] => []
  | (k, v) :: r => (shD w k, (match dkey k with
    | some q => q.hash w
    | none => 0), shD w v) :: shDd w r
end
mutual
def okD : D → Bool
  | .none => true
  | .bool _ => true
  | .int _ => true
  | .str _ => true
  | .list xs => okDs xs
  | .tuple xs => okDs xs
  | .dict ks => decide ((ks.map fun q => dkey q.1).Nodup) && ((ks.all fun q => ks.all fun q' => isTup q.1 == isTup q'.1) && okDd ks)
def okDs : List D → Bool
  | [] => true
  | x :: xs => okD x && okDs xs
def okDd : List (D × D) → Bool
  | [] => true
  | (k, v) :: r => (dkey k).isSome && (okD k && (okD v && okDd r))
end
theorem b2 {a b : Bool} (h : (a && b) = true) : a = true ∧ b = true := Bool.and_eq_true_iff.mp h
section
variable {w : World} {K : PySem.W.Frag}
mutual
theorem rdV_ok : ∀ (d : D) (n : Nat) (u : Value), rdV K n u = shD w d → okD d = true → ∃ v, RelV v u ∧ KData w K v d
  | d, 0, u, h, ok => by
    unfold rdV at h
    cases d <;> simp [shD] at h
  | d, n + 1, u, h, ok => by
    unfold rdV at h
    split at h
    · cases d <;> simp [shD] at h
      exact ⟨.non, rfl, fun _ _ => .non⟩
    · rename_i b
      cases d <;> simp [shD] at h
      subst h
      exact ⟨.bl _, rfl, fun _ _ => .bl _⟩
    · rename_i i t
      cases d <;> simp [shD] at h
      subst h
      exact ⟨.int _, ⟨t, rfl⟩, fun _ _ => .int _⟩
    · rename_i i t
      cases d <;> simp [shD] at h
      subst h
      exact ⟨.str _, ⟨t, rfl⟩, fun _ _ => .str _⟩
    · rename_i a
      split at h
      · rename_i c its ep sl lk
        split at h
        · rename_i hc
          obtain ⟨rfl, hl⟩ := of_decide_eq_true hc
          cases d with
          | tuple ds =>
            unfold shD at h
            injection h with h
            unfold okD at ok
            obtain ⟨vs, rv, kd, el⟩ := rdVs_ok ds n its.toList h ok
            exact ⟨.ref a, rfl, fun F H => .tup (.inr ⟨_, its, ep, lk, rfl, rfl, hl, rv, rfl⟩) (by rw [el]; exact hl) (kd F H)⟩
          | _ => simp [shD] at h
        · split at h
          · rename_i hc
            obtain ⟨rfl, hl⟩ := of_decide_eq_true hc
            cases d with
            | list ds =>
              unfold shD at h
              injection h with h
              unfold okD at ok
              obtain ⟨vs, rv, kd, el⟩ := rdVs_ok ds n its.toList h ok
              exact ⟨.ref a, rfl, fun F H => .lst (.inr ⟨_, its, ep, lk, rfl, rfl, rfl, hl, rv⟩) (by rw [el]; exact hl) (kd F H)⟩
            | _ => simp [shD] at h
          · cases d <;> simp [shD] at h
      · rename_i c es ep sl lk
        split at h
        · rename_i hc
          obtain ⟨h1, h2⟩ := b2 hc
          obtain ⟨h3, h4⟩ := b2 h2
          obtain ⟨rfl, hl⟩ := of_decide_eq_true h1
          cases d with
          | dict ks =>
            unfold shD at h
            injection h with h
            unfold okD at ok
            obtain ⟨o1, o2⟩ := b2 ok
            obtain ⟨o3, o4⟩ := b2 o2
            have kd := rdVd_ok ks n es.toList h o4
            refine ⟨.ref a, rfl, fun F H => .dic ⟨⟨ep, .inr ⟨_, lk, ⟨rfl, rfl, Array.isEmpty_iff.mp h3⟩, by simp⟩⟩, by simpa using h4⟩ hl ⟨of_decide_eq_true o1, fun q hq q' hq' => ?_⟩ (kd F H)⟩
            exact eq_of_beq (List.all_eq_true.mp (List.all_eq_true.mp o3 q hq) q' hq')
          | _ => simp [shD] at h
        · cases d <;> simp [shD] at h
      · cases d <;> simp [shD] at h
    · cases d <;> simp [shD] at h
theorem rdVs_ok : ∀ (ds : List D) (n : Nat) (us : List Value), us.map (rdV K n) = shDs w ds → okDs ds = true → ∃ vs, Vals vs us ∧ (∀ F H, DVs w K F H vs ds) ∧ vs.length = us.length
  | [], n, [], h, ok => ⟨[], .nil, fun _ _ => .nil, rfl⟩
  | [], n, _ :: _, h, ok => by simp [shDs] at h
  | d :: ds, n, [], h, ok => by simp [shDs] at h
  | d :: ds, n, u :: us, h, ok => by
    rw [List.map_cons] at h
    unfold shDs at h
    injection h with h1 h2
    unfold okDs at ok
    obtain ⟨o1, o2⟩ := b2 ok
    obtain ⟨v, rv, kd⟩ := rdV_ok d n u h1 o1
    obtain ⟨vs, rvs, kds, el⟩ := rdVs_ok ds n us h2 o2
    exact ⟨v :: vs, .cons rv rvs, fun F H => .cons (kd F H) (kds F H), congrArg Nat.succ el⟩
theorem rdVd_ok : ∀ (ds : List (D × D)) (n : Nat) (es : List DictEntry), (es.map fun e => (rdV K n e.key, e.hash, rdV K n e.val)) = shDd w ds → okDd ds = true → ∀ F H, DEs w K F H es ds
  | [], n, [], h, ok => fun _ _ => .nil
  | [], n, _ :: _, h, ok => by simp [shDd] at h
  | (k, c) :: ds, n, [], h, ok => by simp [shDd] at h
  | (k, c) :: ds, n, e :: es, h, ok => by
    rw [List.map_cons] at h
    unfold shDd at h
    injection h with h1 h2
    injection h1 with h3 h4
    injection h4 with h5 h6
    unfold okDd at ok
    obtain ⟨o1, o2⟩ := b2 ok
    obtain ⟨o3, o4⟩ := b2 o2
    obtain ⟨o5, o6⟩ := b2 o4
    obtain ⟨q, hq⟩ := Option.isSome_iff_exists.mp o1
    obtain ⟨v, rv, kd⟩ := rdV_ok k n e.key h3 o3
    obtain ⟨u, ru, kd2⟩ := rdV_ok c n e.val h6 o5
    have hh : e.hash = q.hash w := by rw [h5, hq]
    exact fun F H => .cons rv (kd F H) hq hh ru (kd2 F H) (rdVd_ok ds n es h2 o6 F H)
end
end
abbrev AlP : Type := He.AlD × List Sh
def shG (K : PySem.W.Frag) (x : Str) : Sh := match PySem.W.nsIn K mainGlobals x with
  | some (some v) => rdV K 9 v
  | _ => .bad
def obsP (fa : List He.Fa) (fn : List He.DefD) (gs : List Str) (K : PySem.W.Frag) : AlP := (He.obsD fa fn K, gs.map (shG K))
def valP (fn : List He.DefD) (gd : List D) (w : World) : AlP := (He.valD fn, gd.map (shD w))
def obsPG (n : Nat) (fa : List He.Fa) (fn : List He.DefD) (gs : List Str) (g : Addr → Option Obj) : AlP := obsP fa fn gs (He.frG g (He.asD g n))
def SaysP (fa : List He.Fa) (fn : List He.DefD) (gs : List Str) (gd : List D) (w : World) (K : PySem.W.Frag) : Prop := obsP fa fn gs K = valP fn gd w
def hookP (n : Nat) (fa : List He.Fa) (fn : List He.DefD) (gs : List Str) (gd : List D) : PySem.W.Hook where
  α := AlP
  obs := fun s => obsPG n fa fn gs s.heap.get?
  val := fun w => valP fn gd w
  says := fun w h => ∃ K : PySem.W.Frag, K.In h ∧ SaysP fa fn gs gd w K
  of := fun _ _ e => ⟨_, He.frG_in, e⟩
  keeps := fun _ _ _ ⟨K, hK, c⟩ k => ⟨K, PySem.W.Frag.In.keeps hK k, c⟩
theorem obsPG_eq {n : Nat} {fa : List He.Fa} {fn : List He.DefD} {gs : List Str} {gd : List D} {g : Addr → Option Obj} {s : Shared} (h : ∀ a, g a = s.heap.get? a) : obsPG n fa fn gs g = (hookP n fa fn gs gd).obs s := by
  have e : g = s.heap.get? := funext h
  rw [e] <;> rfl
section
variable {fa : List He.Fa} {fn : List He.DefD} {gs : List Str} {gd : List D} {w : World} {K : PySem.W.Frag} {h : Heap} {mg : Str → Option Value}
theorem SaysP.d (c : SaysP fa fn gs gd w K) : He.SaysD fa fn K := congrArg (fun z : AlP => z.1) c
theorem SaysP.fact (c : SaysP fa fn gs gd w K) {f : He.Fa} (hf : f ∈ fa) : f.ok K = true := by
  obtain ⟨i, hi, e⟩ := List.mem_iff_getElem.mp hf
  exact c.d.fact i (f := f) (by rw [List.getElem?_eq_getElem hi, e])
theorem SaysP.glb (c : SaysP fa fn gs gd w K) (X : K.In h) (G : h.Ns mainGlobals mg) (ok : gd.all okD = true) (j : Nat) (x : Str) (d : D) (hx : gs[j]? = some x) (hd : gd[j]? = some d) : ∃ v u, mg x = some u ∧ RelV v u ∧ KData w K v d := by
  have e : gs.map (shG K) = gd.map (shD w) := congrArg (fun z : AlP => z.2) c
  have e2 : (gs.map (shG K))[j]? = (gd.map (shD w))[j]? := by rw [e]
  rw [List.getElem?_map, List.getElem?_map, hx, hd] at e2
  have e3 : shG K x = shD w d := Option.some.inj e2
  have okd := List.all_eq_true.mp ok d (List.mem_of_getElem? hd)
  unfold shG at e3
  split at e3
  · rename_i v hv
    obtain ⟨v', rv, kd⟩ := rdV_ok d _ _ e3 okd
    exact ⟨v', v, PySem.W.mg_of X G hv, rv, kd⟩
  · cases d <;> simp [shD] at e3
end
theorem fun_of_funD {K : PySem.W.Frag} {x qual : Str} {st : Stmt} {f : Addr} {fd : FuncData} (F : FunD K x qual (defArgs st) (defBody st) (defScope st) [] [] f fd) : Fun K x qual st f fd := by
  obtain ⟨⟨oc, od, dV, kV, doc, pm, an, cdv, ct, osl, rfl, lk, hcd, hD, hK⟩, kp⟩ := F
  rcases hD with ⟨_, rfl⟩ | ⟨e, _⟩
  · exact ⟨⟨oc, od, kV, doc, pm, an, cdv, ct, osl, rfl, lk, hcd⟩, kp⟩
  · exact absurd rfl e
def mkD (st : Stmt) (x : Str) : He.DefD := ⟨(x, none), x, x, defArgs st, defBody st, defScope st, [], []⟩
def faOf (fs : List Str) : List He.Fa := (fs.map He.Fa.glo) ++ blNames.map He.Fa.free
theorem defOk_of {fs gs : List Str} {fn : List He.DefD} {gd : List D} {w : World} {K : PySem.W.Frag} {h : Heap} {mg : Str → Option Value} {Z : Nm} {g : Fn} {st : Stmt} {x : Str} {ps : List Str}
    (c : SaysP (faOf fs) fn gs gd w K) (X : K.In h) (G : h.Ns mainGlobals mg) (j : Nat) (hf : fn[j]? = some (mkD st x)) (hx : Z.fs[j]? = some x) (hm : x ∈ fs)
    (hb : ∀ (kV doc pm : Value) (an : Option Addr) (cdv ct : Value) (us : List Value), us.length = ps.length → bindArgs (PySem.W.fnOf x x (defArgs st) (defBody st) (defScope st) .none kV doc pm an cdv ct) ⟨us, []⟩ = pure (ps.zip us))
    (sc : FnScope g.N ps (defScope st)) (hn : ps.length = g.np) (hs : mSs Z ⟨defScope st, g.N, none⟩ g.body (defBody st) = true) : DefOk K mg Z j g := by
  obtain ⟨fd, FD⟩ := c.d.def_ j hf
  have F : Fun K x x st (He.fAd K (x, none)) fd := fun_of_funD FD
  have hg := c.fact (f := .glo x) (List.mem_append_left _ (List.mem_map.mpr ⟨x, hm, rfl⟩))
  exact ⟨x, x, st, He.ga K x, fd, ps, hx, F, He.glo_ok X G hg, F.binds hb, sc, hn, hs⟩
theorem free_of {fs gs : List Str} {fn : List He.DefD} {gd : List D} {w : World} {K : PySem.W.Frag} {h : Heap} {mg : Str → Option Value} (c : SaysP (faOf fs) fn gs gd w K) (X : K.In h) (G : h.Ns mainGlobals mg) : ∀ x ∈ blNames, mg x = none :=
  fun x hx => He.free_ok X G (c.fact (f := .free x) (List.mem_append_right _ (List.mem_map.mpr ⟨x, hx, rfl⟩)))
theorem dvs_ints {w : World} {K : PySem.W.Frag} {F : Addr → Prop} {H : Hp} : ∀ ns : List Int, DVs w K F H (ns.map V.int) (ns.map PyData.int)
  | [] => .nil
  | n :: ns => .cons (.int n) (dvs_ints ns)
theorem spec_law {w : World} {K : PySem.W.Frag} {XR : XRel} {cl : Cal} {j n : Nat} (hn : n ≤ sizeLine) (hL : ∀ ns : List Int, ns.length ≤ n → ∃ m, cl j [.p (.list (ns.map .int))] [] = .ok (.p (.bool true)) m)
    (H : Hp) (a : Addr) (ns : List Int) (hl : ns.length ≤ n) (hS : SqL K H a (ns.map V.int)) : SpecOf w K XR cl j [.ref a] H (fun v _ => v = .bl true) fun _ _ _ => False := by
  obtain ⟨m, e⟩ := hL ns hl
  refine ⟨fun _ => False, [], [], [.p (.list (ns.map .int))], ⟨List.nodup_nil, rfl, fun i a o h => by simp at h, fun a h => h.elim⟩, .cons ?_ .nil, ?_⟩
  · refine DV.lst ?_ (by simpa using Nat.le_trans hl hn) (dvs_ints ns)
    rcases hS with h | h
    · exact .inl ⟨h, fun q => by rcases q with q | q; exact q; cases q⟩
    · exact .inr h
  · rw [e]
    intro b H' ρ' _ _ wv
    have wv' : DV w K (Fb (fun _ => False) ρ') H' b (.bool true) := wv
    cases wv'
    rfl
end Pg

namespace Pg
open PySem L2
def sv (l : List Nat) : Str := ⟨(l.toArray)⟩
def cMixed (N : List Str) : Fn := { np := 2, N := N, body := (.cons (.set 0 (.bo .mod (.b1 .int (.v 0)) (.k (.int 2147483647)))) (.cons (.ret (.bo .mod (.bo .mul (.bo .mod (.bo .add (.bo .add (.bo .mul (.v 0) (.bo .add (.k (.int 48271)) (.bo .mul (.bo .mul (.k (.int 2)) (.v 1)) (.v 1)))) (.bo .mul (.k (.int 69621)) (.v 1))) (.k (.int 11))) (.k (.int 2147483647))) (.k (.int 69621))) (.k (.int 2147483629)))) .nil)) }
theorem binD_add (i j : Int) : binD .add (.int i) (.int j) = some (.int (i + j)) := rfl
theorem binD_mul (i j : Int) (h : (-(2 ^ 64) < i ∧ i < 2 ^ 64) ∨ (-(2 ^ 64) < j ∧ j < 2 ^ 64)) : binD .mul (.int i) (.int j) = some (.int (i * j)) := if_pos h
theorem binD_mod (i j : Int) (h : 0 < j) : binD .mod (.int i) (.int j) = some (.int (i % j)) := if_pos h
theorem binD_fdiv (i j : Int) (h : 0 < j ∧ j < 1073741824) : binD .fdiv (.int i) (.int j) = some (.int (i / j)) := if_pos h
theorem view_p (m : Mu) (d : D) : view m (.p d) = some d := rfl
theorem mixed_ok {T : Tb} {jm : Nat} {N : List Str} (hN : N.length = 2) (hm : T.fns[jm]? = some (cMixed N)) (n : Nat) (c k : Int) (m : Mu) (hk : 0 ≤ k) (hk2 : k < 1048576) :
    ∃ z : Int, 0 ≤ z ∧ z < 2147483629 ∧ callF T (n + 1) jm [.p (.int c), .p (.int k)] m = .ok (.p (.int z)) m := by
  have h1 : 0 ≤ c % 2147483647 := Int.emod_nonneg _ (by decide)
  have h2 : c % 2147483647 < 2147483647 := Int.emod_lt_of_pos _ (by decide)
  refine ⟨((c % 2147483647 * (48271 + 2 * k * k) + 69621 * k + 11) % 2147483647 * 69621) % 2147483629, Int.emod_nonneg _ (by decide), Int.emod_lt_of_pos _ (by decide), ?_⟩
  show (match T.fns[jm]? with
    | some fn => runFn ⟨callF T n, T.gd⟩ fn [.p (.int c), .p (.int k)] m
    | none => .bad) = _
  rw [hm]
  have q1 : binD .mul (.int (c % 2147483647)) (.int (48271 + 2 * k * k)) = some (.int (c % 2147483647 * (48271 + 2 * k * k))) := binD_mul _ _ (by omega)
  have q2 : binD .mul (.int 2) (.int k) = some (.int (2 * k)) := binD_mul _ _ (by omega)
  have q3 : binD .mul (.int (2 * k)) (.int k) = some (.int (2 * k * k)) := binD_mul _ _ (by omega)
  have q4 : binD .mul (.int 69621) (.int k) = some (.int (69621 * k)) := binD_mul _ _ (by omega)
  have q5 : ∀ i : Int, binD .mul (.int i) (.int 69621) = some (.int (i * 69621)) := fun i => binD_mul _ _ (by omega)
  have q6 : ∀ i : Int, binD .mod (.int i) (.int 2147483647) = some (.int (i % 2147483647)) := fun i => binD_mod _ _ (by omega)
  have q7 : ∀ i : Int, binD .mod (.int i) (.int 2147483629) = some (.int (i % 2147483629)) := fun i => binD_mod _ _ (by omega)
  simp [runFn, cMixed, hN, semSs, semS, fSeq, fSet, fRet, semE, fB2, fD1, fVar, fK, get, R.bd, gD2, gD1, view_p, binD_add, q1, q2, q3, q4, q5, q6, q7, Bf.fn, fNext, finR, intD]
end Pg

namespace Pg
open PySem L2
abbrev sCells : Str := ⟨#[99, 101, 108, 108, 115]⟩
abbrev sLefts : Str := ⟨#[108, 101, 102, 116, 115]⟩
abbrev sAt : Str := ⟨#[97, 116]⟩
abbrev sRoom : Str := ⟨#[114, 111, 111, 109]⟩
def stm (cs ls : List Int) (a : Int) : Mu := [.lst (ls.map fun i => .p (.int i)), .dic [(.str sCells, .p (.list (cs.map .int))), (.str sLefts, .r 0), (.str sAt, .p (.int a)), (.str sRoom, .p (.int 0))]]
theorem st_at (cs ls : List Int) (a : Int) : gIx (.r 1) (.p (.str sAt)) (stm cs ls a) = .ok (.p (.int a)) (stm cs ls a) := rfl
theorem st_cells (cs ls : List Int) (a : Int) : gIx (.r 1) (.p (.str sCells)) (stm cs ls a) = .ok (.p (.list (cs.map .int))) (stm cs ls a) := rfl
theorem st_lefts (cs ls : List Int) (a : Int) : gIx (.r 1) (.p (.str sLefts)) (stm cs ls a) = .ok (.r 0) (stm cs ls a) := rfl
theorem put_at (cs ls : List Int) (a b : Int) : putM (stm cs ls a) (.r 1) (.p (.str sAt)) (.p (.int b)) = some (stm cs ls b) := rfl
theorem ixN_in {n : Nat} {i : Int} (h : 0 ≤ i) (h2 : i < n) : ixN n i = some i.toNat := by
  unfold ixN
  rw [if_pos h, if_pos h2]
theorem atI_in {α : Type} {xs : List α} {i : Int} (h : 0 ≤ i) (h2 : i < xs.length) : atI xs i = xs[i.toNat]? := by
  unfold atI
  rw [ixN_in h h2]
  rfl
theorem ix_left {cs ls : List Int} {a i : Int} {l : Int} (h : 0 ≤ i) (h2 : i < ls.length) (e : ls[i.toNat]? = some l) : gIx (.r 0) (.p (.int i)) (stm cs ls a) = .ok (.p (.int l)) (stm cs ls a) := by
  show (match atI (ls.map fun i => W.p (.int i)) i with | some u => R.ok u (stm cs ls a) | none => .bad) = _
  rw [atI_in h (by simpa using h2), List.getElem?_map, e]
  rfl
theorem ix_cell {cs : List Int} {m : Mu} {i : Int} {l : Int} (h : 0 ≤ i) (h2 : i < cs.length) (e : cs[i.toNat]? = some l) : gIx (.p (.list (cs.map .int))) (.p (.int i)) m = .ok (.p (.int l)) m := by
  show (match atI (cs.map PyData.int) i with | some u => R.ok (W.p u) m | none => .bad) = _
  rw [atI_in h (by simpa using h2), List.getElem?_map, e]
  rfl
theorem put_left {cs ls : List Int} {a i v : Int} (h : 0 ≤ i) (h2 : i < ls.length) : putM (stm cs ls a) (.r 0) (.p (.int i)) (.p (.int v)) = some (stm cs (ls.set i.toNat v) a) := by
  show (match ixN (ls.map fun i => W.p (.int i)).length i with
        | some k => some ((stm cs ls a).set 0 (.lst ((ls.map fun i => W.p (.int i)).set k (.p (.int v)))))
        | none => none) = _
  rw [ixN_in h (by simpa using h2)]
  simp [stm, List.map_set]
theorem cmp_gt (i j : Int) : cmpD .gt (.int i) (.int j) = some (.bool (decide (j < i))) := by
  show (match (if okLt (.int i) (.int j) = true then some (PySem.W.dataLt (.int j) (.int i)) else none) with | some b => some (PyData.bool b) | none => none) = _
  rw [if_pos (show okLt (.int i) (.int j) = true from rfl), PySem.W.dataLt_int]
theorem cmp_ge (i j : Int) : cmpD .ge (.int i) (.int j) = some (.bool (!decide (i < j))) := by
  show (match (if okLt (.int i) (.int j) = true then some (!PySem.W.dataLt (.int i) (.int j)) else none) with | some b => some (PyData.bool b) | none => none) = _
  rw [if_pos (show okLt (.int i) (.int j) = true from rfl), PySem.W.dataLt_int]
def cDraw (jm : Nat) (N : List Str) : Fn := { np := 2, N := N, body := (.cons (.set 2 (.ix (.v 0) (.k (.str sAt)))) (.cons (.put (.v 0) (.k (.str sAt)) (.bo .add (.v 2) (.k (.int 1)))) (.cons (.set 3 (.bo .mod (.b1 .int (.v 2)) (.b1 .len (.ix (.v 0) (.k (.str sCells)))))) (.cons (.set 4 (.ix (.ix (.v 0) (.k (.str sLefts))) (.v 3))) (.cons (.iff (.cmp .gt (.v 4) (.k (.int 0))) (.cons (.put (.ix (.v 0) (.k (.str sLefts))) (.v 3) (.bo .fdiv (.v 4) (.v 1))) (.cons (.ret (.bo .mod (.b1 .int (.v 4)) (.v 1))) .nil)) .nil) (.cons (.set 5 (.call jm (.cons (.callM jm (.cons (.ix (.ix (.v 0) (.k (.str sCells))) (.v 3)) (.cons (.v 2) .nil))) (.cons (.bo .add (.k (.int 40)) (.v 2)) .nil)))) (.cons (.ret (.bo .mod (.bo .fdiv (.b1 .int (.bo .add (.bo .mul (.v 5) (.k (.int 2147483647))) (.call jm (.cons (.v 5) (.cons (.bo .add (.k (.int 7)) (.v 2)) .nil))))) (.k (.int 64))) (.v 1))) .nil))))))) }
theorem draw_ok {T : Tb} {jm jd : Nat} {N N2 : List Str} (hN : N.length = 2) (hN2 : N2.length = 6) (hm : T.fns[jm]? = some (cMixed N)) (hd : T.fns[jd]? = some (cDraw jm N2)) (n : Nat) {cs ls : List Int} {a many : Int} (ha : 0 ≤ a) (ha2 : a < 1000000) (h1 : 1 ≤ many) (h2 : many < 1073741824) (hc : cs ≠ []) (hl : ls.length = cs.length) :
    ∃ (d : Int) (ls' : List Int), 0 ≤ d ∧ d < many ∧ ls'.length = cs.length ∧ callF T (n + 2) jd [.r 1, .p (.int many)] (stm cs ls a) = .ok (.p (.int d)) (stm cs ls' (a + 1)) := by
  have e0 : callF T (n + 2) jd [.r 1, .p (.int many)] (stm cs ls a) = runFn ⟨callF T (n + 1), T.gd⟩ (cDraw jm N2) [.r 1, .p (.int many)] (stm cs ls a) := by
    show (match T.fns[jd]? with
      | some fn => runFn ⟨callF T (n + 1), T.gd⟩ fn [.r 1, .p (.int many)] (stm cs ls a)
      | none => .bad) = _
    rw [hd]
  have hp : 0 < cs.length := List.length_pos_iff.mpr hc
  have q1 : binD .mod (.int a) (.int cs.length) = some (.int (a % cs.length)) := binD_mod _ _ (by omega)
  have p0 : 0 ≤ a % (cs.length : Int) := Int.emod_nonneg _ (by omega)
  have p1 : a % (cs.length : Int) < cs.length := Int.emod_lt_of_pos _ (by omega)
  have p2 : a % (cs.length : Int) < ls.length := by rw [hl]; exact p1
  obtain ⟨l, el⟩ : ∃ l, ls[(a % (cs.length : Int)).toNat]? = some l := ⟨_, List.getElem?_eq_getElem (by omega)⟩
  obtain ⟨c, ec⟩ : ∃ c, cs[(a % (cs.length : Int)).toNat]? = some c := ⟨_, List.getElem?_eq_getElem (by omega)⟩
  have f1 : binD .fdiv (.int l) (.int many) = some (.int (l / many)) := binD_fdiv _ _ (by omega)
  have f2 : ∀ x : Int, binD .mod (.int x) (.int many) = some (.int (x % many)) := fun x => binD_mod _ _ (by omega)
  have f3 : ∀ x : Int, binD .fdiv (.int x) (.int 64) = some (.int (x / 64)) := fun x => binD_fdiv _ _ (by omega)
  have f4 : ∀ x : Int, binD .mul (.int x) (.int 2147483647) = some (.int (x * 2147483647)) := fun x => binD_mul _ _ (by omega)
  have k0 : Bf.fn .len (.list (cs.map PyData.int)) = some (.int cs.length) := by
    show some (PyData.int ((cs.map PyData.int).length)) = _
    rw [List.length_map]
  have k1 : ∀ i : Int, Bf.fn .int (.int i) = some (.int i) := fun _ => rfl
  rw [e0]
  by_cases hg : 0 < l
  · refine ⟨l % many, ls.set (a % (cs.length : Int)).toNat (l / many), Int.emod_nonneg _ (by omega), Int.emod_lt_of_pos _ (by omega), by rw [List.length_set, hl], ?_⟩
    simp [runFn, cDraw, hN2, semSs, semS, fSeq, fSet, fRet, fPut, fIf, fB, toB, semE, fB2, fD1, fVar, fK, get, R.bd, gD2, gD1, view_p, binD_add, fNext, finR, st_at, st_cells, st_lefts, put_at, q1, k0, k1, ix_left p0 p2 el, put_left p0 p2, cmp_gt, hg, f1, f2]
  · obtain ⟨z1, a1, b1, m1⟩ := mixed_ok hN hm n c a (stm cs ls (a + 1)) ha (by omega)
    obtain ⟨z2, a2, b2, m2⟩ := mixed_ok hN hm n z1 (40 + a) [] (by omega) (by omega)
    obtain ⟨z3, a3, b3, m3⟩ := mixed_ok hN hm n z2 (7 + a) [] (by omega) (by omega)
    refine ⟨((z2 * 2147483647 + z3) / 64) % many, ls, Int.emod_nonneg _ (by omega), Int.emod_lt_of_pos _ (by omega), hl, ?_⟩
    simp [runFn, cDraw, hN2, semSs, semS, fSeq, fSet, fRet, fPut, fIf, fB, toB, semE, semA, fCons, fNil, fCall, fCallM, gCall, pures, frz, noX, fB2, fD1, fVar, fK, get, R.bd, gD2, gD1, view_p, binD_add, fNext, finR, st_at, st_cells, st_lefts, put_at, q1, k0, k1, ix_left p0 p2 el, ix_cell p0 p1 ec, cmp_gt, hg, f1, f2, f3, f4, m1, m2, m3]
end Pg

namespace Pg
open PySem L2
def cBegin (N : List Str) : Fn := { np := 1, N := N, body := (.cons (.set 1 (.ite (.cmp .ne (.v 0) (.lst .nil)) (.b1 .lst (.v 0)) (.lst (.cons (.k (.int 0)) .nil)))) (.cons (.ret (.dic (.cons (.k (.str sCells)) (.v 1) (.cons (.k (.str sLefts)) (.lcM [2] (.nm 2) (.val (.v 1)) .yes (.ite (.cmp .ge (.v 2) (.pow (.k (.int 10)) (.k (.int 18)))) (.v 2) (.k (.int 0)))) (.cons (.k (.str sAt)) (.k (.int 0)) (.cons (.k (.str sRoom)) (.k (.int 0)) .nil)))))) .nil)) }
def csOf (ns : List Int) : List Int := if ns = [] then [0] else ns
def lsOf (cs : List Int) : List Int := cs.map fun c => if c < 1000000000000000000 then 0 else c
theorem eqv_nil (ns : List Int) : PyData.eqv (.list (ns.map PyData.int)) (.list []) = decide (ns = []) := by
  cases ns with
  | nil => rfl
  | cons n ns => rfl
theorem cmp_ne_nil (ns : List Int) : cmpD .ne (.list (ns.map .int)) (.list []) = some (.bool (!decide (ns = []))) := by
  show (match (if (SeqAt.shaped (.list (ns.map .int)) && SeqAt.shaped (.list [])) = true then some (!PyData.eqv (.list (ns.map .int)) (.list [])) else none) with | some b => some (PyData.bool b) | none => none) = _
  rw [if_pos (by rw [PySem.W.ke_shaped_ints]; rfl), eqv_nil]
def elB (S : Sem0) : FE := semE S (.ite (.cmp .ge (.v 2) (.pow (.k (.int 10)) (.k (.int 18)))) (.v 2) (.k (.int 0)))
theorem elB_ok (S : Sem0) (x y z : Option W) (c : Int) (m : Mu) : elB S [x, y, some (.p (.int c))] m = .ok (.p (.int (if c < 1000000000000000000 then 0 else c))) m := by
  have q : powD (.int 10) (.int 18) = some (.int 1000000000000000000) := rfl
  unfold elB
  by_cases h : c < 1000000000000000000 <;> simp [semE, fIte, fB2, fVar, fK, get, R.bd, gD2, view_p, q, cmp_ge, h, kIf]
theorem lc_ok (S : Sem0) (x y : Option W) (m : Mu) : ∀ (cs : List Int) (acc : List W), lcGo (.nm 2) fYes (elB S) [x, y, none] (ones (cs.map fun i => .p (.int i))) acc m = .ok (acc ++ (lsOf cs).map fun i => .p (.int i)) m
  | [], acc => by simp [ones, lcGo, lsOf]
  | c :: cs, acc => by
    have e : (Tg.nm 2).asg (.one (.p (.int c))) [x, y, none] = some [x, y, some (.p (.int c))] := rfl
    have ih := lc_ok S x y m cs (acc ++ [.p (.int (if c < 1000000000000000000 then 0 else c))])
    show lcGo (.nm 2) fYes (elB S) [x, y, none] (.one (.p (.int c)) :: ones (cs.map fun i => .p (.int i))) acc m = _
    unfold lcGo
    rw [e]
    show (noX (fYes [x, y, some (.p (.int c))] m)).bd _ = _
    show (noX (elB S [x, y, some (.p (.int c))] m)).bd _ = _
    rw [elB_ok S x y none c m]
    show lcGo (.nm 2) fYes (elB S) [x, y, none] (ones (cs.map fun i => .p (.int i))) (acc ++ [.p (.int (if c < 1000000000000000000 then 0 else c))]) m = _
    rw [ih]
    simp [lsOf]
theorem begin_ok {T : Tb} {jb : Nat} {N : List Str} (hN : N.length = 3) (hb : T.fns[jb]? = some (cBegin N)) (n : Nat) (ns : List Int) (hl : ns.length ≤ 1000) :
    callF T (n + 1) jb [.p (.list (ns.map .int))] [] = .ok (.r 1) (stm (csOf ns) (lsOf (csOf ns)) 0) := by
  have e0 : callF T (n + 1) jb [.p (.list (ns.map .int))] [] = runFn ⟨callF T n, T.gd⟩ (cBegin N) [.p (.list (ns.map .int))] [] := by
    show (match T.fns[jb]? with
      | some fn => runFn ⟨callF T n, T.gd⟩ fn [.p (.list (ns.map .int))] []
      | none => .bad) = _
    rw [hb]
  rw [e0]
  have l1 : Bf.fn .lst (.list (ns.map PyData.int)) = some (.list (ns.map .int)) := rfl
  have s1 : fIte (fB2 (fVar 0) (fLst fNil) (gD2 (cmpD .ne))) (fD1 (Bf.fn .lst) (fVar 0)) (fLst (fCons (fK (.int 0)) fNil)) [some (.p (.list (ns.map .int))), none, none] [] = .ok (.p (.list ((csOf ns).map .int))) [] := by
    by_cases h : ns = []
    · subst h
      rfl
    · simp [fIte, fB2, fD1, fLst, fNil, fVar, get, R.bd, up, pures, ln, gD2, gD1, view_p, cmp_ne_nil, h, kIf, l1, csOf]
  have len : (ones ((csOf ns).map fun i => W.p (.int i))).length ≤ ln := by
    unfold ones csOf ln
    split
    · simp
    · simp; omega
  have s2 : fLcM [2] (.nm 2) (fItems (fVar 1)) fYes (elB ⟨callF T n, T.gd⟩) [some (.p (.list (ns.map .int))), some (.p (.list ((csOf ns).map .int))), none] [] = .ok (.r 0) [.lst ((lsOf (csOf ns)).map fun i => .p (.int i))] := by
    have e1 : fItems (fVar 1) [some (.p (.list (ns.map .int))), some (.p (.list ((csOf ns).map .int))), none] [] = .ok (ones ((csOf ns).map fun i => W.p (.int i))) [] := by
      show R.ok (ones (((csOf ns).map PyData.int).map W.p)) [] = _
      rw [List.map_map]
      rfl
    unfold fLcM lcRun
    rw [e1]
    show ((if (ones ((csOf ns).map fun i => W.p (.int i))).length ≤ ln then noX (lcGo (.nm 2) fYes (elB ⟨callF T n, T.gd⟩) [some (.p (.list (ns.map .int))), some (.p (.list ((csOf ns).map .int))), none] (ones ((csOf ns).map fun i => W.p (.int i))) [] []) else .bad).bd _) = _
    rw [if_pos len, lc_ok]
    rfl
  have c1 : dkey (.str sCells) = some (.text sCells) := rfl
  unfold runFn
  simp only [cBegin, hN, List.length_cons, List.length_nil, if_true]
  show (fSeq (fSet 1 (fIte (fB2 (fVar 0) (fLst fNil) (gD2 (cmpD .ne))) (fD1 (Bf.fn .lst) (fVar 0)) (fLst (fCons (fK (.int 0)) fNil)))) (fSeq (fRet (fDic [(fK (.str sCells), fVar 1), (fK (.str sLefts), fLcM [2] (.nm 2) (fItems (fVar 1)) fYes (elB ⟨callF T n, T.gd⟩)), (fK (.str sAt), fK (.int 0)), (fK (.str sRoom), fK (.int 0))])) fNext) [some (.p (.list (ns.map .int))), none, none] []).bd finR = _
  unfold fSeq fSet
  rw [s1]
  show ((fRet (fDic [(fK (.str sCells), fVar 1), (fK (.str sLefts), fLcM [2] (.nm 2) (fItems (fVar 1)) fYes (elB ⟨callF T n, T.gd⟩)), (fK (.str sAt), fK (.int 0)), (fK (.str sRoom), fK (.int 0))]) [some (.p (.list (ns.map .int))), some (.p (.list ((csOf ns).map .int))), none] []).bd _).bd finR = _
  unfold fRet fDic
  have e2 : evPairs [(fK (.str sCells), fVar 1), (fK (.str sLefts), fLcM [2] (.nm 2) (fItems (fVar 1)) fYes (elB ⟨callF T n, T.gd⟩)), (fK (.str sAt), fK (.int 0)), (fK (.str sRoom), fK (.int 0))] [some (.p (.list (ns.map .int))), some (.p (.list ((csOf ns).map .int))), none] [] = .ok [(.p (.str sCells), .p (.list ((csOf ns).map .int))), (.p (.str sLefts), .r 0), (.p (.str sAt), .p (.int 0)), (.p (.str sRoom), .p (.int 0))] [.lst ((lsOf (csOf ns)).map fun i => .p (.int i))] := by
    simp [evPairs, fK, fVar, get, R.bd, s2]
  rw [e2]
  rfl
end Pg

namespace Pg
namespace Kl
open PySem L2
/-- is_integer -/
def f_is_integer : Fn := { np := 1, N := [(⟨#[116, 104, 105, 110, 103]⟩ : PySem.Str)], body := (.cons (.ret (.and (.cons (.isi .int (.v 0)) (.one (.not (.isi .bool (.v 0))))))) .nil) }
/-- is_between -/
def f_is_between : Fn := { np := 3, N := [(⟨#[116, 104, 105, 110, 103]⟩ : PySem.Str), (⟨#[108, 101, 97, 115, 116]⟩ : PySem.Str), (⟨#[109, 111, 115, 116]⟩ : PySem.Str)], body := (.cons (.ret (.and (.cons (.call 0 (.cons (.v 0) .nil)) (.one (.chn .le .le (.v 1) (.v 0) (.v 2)))))) .nil) }
/-- is_word -/
def f_is_word : Fn := { np := 1, N := [(⟨#[116, 104, 105, 110, 103]⟩ : PySem.Str), (⟨#[108, 101, 116, 116, 101, 114]⟩ : PySem.Str)], body := (.cons (.iff (.or (.cons (.not (.isi .str (.v 0))) (.one (.not (.chn .le .le (.k (.int 1)) (.b1 .len (.v 0)) (.g 0)))))) (.cons (.ret (.k (.bool false))) .nil) .nil) (.cons (.ret (.b1 .all (.lc [1] (.nm 1) (.val (.v 0)) .yes (.cmp .mem (.v 1) (.g 1))))) .nil)) }
/-- is_rising -/
def f_is_rising : Fn := { np := 1, N := [(⟨#[115, 111, 109, 101]⟩ : PySem.Str), (⟨#[111, 110, 101]⟩ : PySem.Str), (⟨#[111, 116, 104, 101, 114]⟩ : PySem.Str)], body := (.cons (.ret (.b1 .all (.lc [1, 2] (.tp [1, 2]) (.zp (.v 0) (.sl (.v 0) (.yes (.k (.int 1))) .no)) .yes (.cmp .lt (.v 1) (.v 2))))) .nil) }
/-- are_words -/
def f_are_words : Fn := { np := 2, N := [(⟨#[116, 104, 105, 110, 103]⟩ : PySem.Str), (⟨#[109, 111, 115, 116]⟩ : PySem.Str), (⟨#[119, 111, 114, 100]⟩ : PySem.Str)], body := (.cons (.iff (.or (.cons (.not (.isi .tuple (.v 0))) (.cons (.not (.chn .le .le (.k (.int 1)) (.b1 .len (.v 0)) (.v 1))) (.one (.not (.b1 .all (.lc [2] (.nm 2) (.val (.v 0)) .yes (.call 2 (.cons (.v 2) .nil))))))))) (.cons (.ret (.k (.bool false))) .nil) .nil) (.cons (.ret (.call 3 (.cons (.v 0) .nil))) .nil)) }
/-- is_part -/
def f_is_part : Fn := { np := 5, N := [(⟨#[110, 97, 109, 101, 115]⟩ : PySem.Str), (⟨#[115, 105, 110, 103, 108, 101, 115]⟩ : PySem.Str), (⟨#[112, 108, 97, 99, 101, 115]⟩ : PySem.Str), (⟨#[107, 105, 110, 100]⟩ : PySem.Str), (⟨#[116, 104, 105, 110, 103]⟩ : PySem.Str)], body := (.cons (.iff (.cmp .eq (.v 3) (.k (.str (⟨#[112, 108, 97, 99, 101]⟩ : PySem.Str)))) (.cons (.ret (.call 1 (.cons (.v 4) (.cons (.k (.int 0)) (.cons (.bo .sub (.v 2) (.k (.int 1))) .nil))))) .nil) .nil) (.cons (.ret (.and (.cons (.isi .str (.v 4)) (.one (.cmp .mem (.v 4) (.ite (.cmp .eq (.v 3) (.k (.str (⟨#[110, 97, 109, 101]⟩ : PySem.Str)))) (.v 0) (.v 1))))))) .nil)) }
/-- is_deed -/
def f_is_deed : Fn := { np := 4, N := [(⟨#[110, 97, 109, 101, 115]⟩ : PySem.Str), (⟨#[115, 105, 110, 103, 108, 101, 115]⟩ : PySem.Str), (⟨#[112, 108, 97, 99, 101, 115]⟩ : PySem.Str), (⟨#[116, 104, 105, 110, 103]⟩ : PySem.Str), (⟨#[107, 105, 110, 100, 115]⟩ : PySem.Str), (⟨#[107, 105, 110, 100]⟩ : PySem.Str), (⟨#[112, 97, 114, 116]⟩ : PySem.Str)], body := (.cons (.iff (.or (.cons (.not (.isi .tuple (.v 3))) (.cons (.cmp .eq (.v 3) (.tup .nil)) (.cons (.not (.isi .str (.ix (.v 3) (.k (.int 0))))) (.one (.cmp .nmem (.ix (.v 3) (.k (.int 0))) (.g 2))))))) (.cons (.ret (.k (.bool false))) .nil) .nil) (.cons (.set 4 (.ix (.g 2) (.ix (.v 3) (.k (.int 0))))) (.cons (.iff (.cmp .ne (.b1 .len (.v 3)) (.bo .add (.b1 .len (.v 4)) (.k (.int 1)))) (.cons (.ret (.k (.bool false))) .nil) .nil) (.cons (.ret (.b1 .all (.lc [5, 6] (.tp [5, 6]) (.zp (.v 4) (.sl (.v 3) (.yes (.k (.int 1))) .no)) .yes (.call 5 (.cons (.v 0) (.cons (.v 1) (.cons (.v 2) (.cons (.v 5) (.cons (.v 6) .nil))))))))) .nil)))) }
/-- are_nexts -/
def f_are_nexts : Fn := { np := 2, N := [(⟨#[109, 97, 110, 121]⟩ : PySem.Str), (⟨#[116, 104, 105, 110, 103]⟩ : PySem.Str), (⟨#[111, 110, 101]⟩ : PySem.Str)], body := (.cons (.iff (.or (.cons (.not (.isi .tuple (.v 1))) (.one (.cmp .gt (.b1 .len (.v 1)) (.g 3))))) (.cons (.ret (.k (.bool false))) .nil) .nil) (.cons (.ret (.and (.cons (.b1 .all (.lc [2] (.nm 2) (.val (.v 1)) .yes (.call 1 (.cons (.v 2) (.cons (.k (.int 0)) (.cons (.bo .sub (.v 0) (.k (.int 1))) .nil)))))) (.one (.call 3 (.cons (.v 1) .nil)))))) .nil)) }
/-- need_program -/
def f_need_program : Fn := { np := 1, N := [(⟨#[116, 104, 105, 110, 103]⟩ : PySem.Str), (⟨#[110, 97, 109, 101, 115]⟩ : PySem.Str), (⟨#[115, 105, 110, 103, 108, 101, 115]⟩ : PySem.Str), (⟨#[112, 108, 97, 99, 101, 115]⟩ : PySem.Str), (⟨#[110, 111, 100, 101, 115]⟩ : PySem.Str), (⟨#[110, 117, 109, 98, 101, 114]⟩ : PySem.Str), (⟨#[110, 111, 100, 101]⟩ : PySem.Str), (⟨#[119, 111, 114, 100]⟩ : PySem.Str)], body := (.cons (.iff (.or (.cons (.not (.isi .tuple (.v 0))) (.one (.cmp .ne (.b1 .len (.v 0)) (.k (.int 4)))))) (.cons .bad .nil) .nil) (.cons (.unp (.tp [1, 2, 3, 4]) (.v 0)) (.cons (.iff (.not (.call 4 (.cons (.v 1) (.cons (.g 4) .nil)))) (.cons .bad .nil) .nil) (.cons (.iff (.or (.cons (.not (.call 4 (.cons (.v 2) (.cons (.g 6) .nil)))) (.one (.b1 .any (.lc [7] (.nm 7) (.val (.v 2)) .yes (.cmp .mem (.v 7) (.v 1))))))) (.cons .bad .nil) .nil) (.cons (.iff (.not (.call 1 (.cons (.v 3) (.cons (.k (.int 1)) (.cons (.g 5) .nil))))) (.cons .bad .nil) .nil) (.cons (.iff (.or (.cons (.not (.isi .tuple (.v 4))) (.one (.not (.chn .le .le (.k (.int 1)) (.b1 .len (.v 4)) (.g 7)))))) (.cons .bad .nil) .nil) (.cons (.forr (.tp [5, 6]) (.en (.v 4)) (.cons (.iff (.or (.cons (.not (.isi .tuple (.v 6))) (.cons (.cmp .ne (.b1 .len (.v 6)) (.k (.int 2))) (.one (.not (.call 6 (.cons (.v 1) (.cons (.v 2) (.cons (.v 3) (.cons (.ix (.v 6) (.k (.int 0))) .nil)))))))))) (.cons .bad .nil) .nil) (.cons (.iff (.not (.call 7 (.cons (.b1 .len (.v 4)) (.cons (.ix (.v 6) (.k (.int 1))) .nil)))) (.cons .bad .nil) .nil) .nil))) (.cons (.ret (.v 0)) .nil)))))))) }
/-- puts_in -/
def f_puts_in : Fn := { np := 1, N := [(⟨#[112, 114, 111, 103, 114, 97, 109]⟩ : PySem.Str), (⟨#[110, 117, 109, 98, 101, 114]⟩ : PySem.Str), (⟨#[110, 111, 100, 101]⟩ : PySem.Str)], body := (.cons (.ret (.b1 .tup (.lc [1, 2] (.tp [1, 2]) (.en (.ix (.v 0) (.k (.int 3)))) (.one (.cmp .eq (.ix (.ix (.v 2) (.k (.int 0))) (.k (.int 0))) (.g 8))) (.v 1)))) .nil) }
/-- nexts_of -/
def f_nexts_of : Fn := { np := 2, N := [(⟨#[112, 114, 111, 103, 114, 97, 109]⟩ : PySem.Str), (⟨#[110, 111, 100, 101]⟩ : PySem.Str)], body := (.cons (.ret (.ite (.cmp .ge (.v 1) (.k (.int 0))) (.ix (.ix (.ix (.v 0) (.k (.int 3))) (.v 1)) (.k (.int 1))) (.tup (.cons (.k (.int 0)) .nil)))) .nil) }
/-- is_choice -/
def f_is_choice : Fn := { np := 2, N := [(⟨#[112, 114, 111, 103, 114, 97, 109]⟩ : PySem.Str), (⟨#[116, 104, 105, 110, 103]⟩ : PySem.Str), (⟨#[111, 110, 101]⟩ : PySem.Str)], body := (.cons (.iff (.or (.cons (.not (.isi .tuple (.v 1))) (.one (.not (.b1 .all (.lc [2] (.nm 2) (.val (.v 1)) .yes (.call 0 (.cons (.v 2) .nil)))))))) (.cons (.ret (.k (.bool false))) .nil) .nil) (.cons (.ret (.and (.cons (.call 3 (.cons (.v 1) .nil)) (.one (.b1 .all (.lc [2] (.nm 2) (.val (.v 1)) .yes (.cmp .mem (.v 2) (.call 9 (.cons (.v 0) .nil))))))))) .nil)) }
/-- need_choice -/
def f_need_choice : Fn := { np := 2, N := [(⟨#[112, 114, 111, 103, 114, 97, 109]⟩ : PySem.Str), (⟨#[99, 104, 111, 105, 99, 101]⟩ : PySem.Str)], body := (.cons (.iff (.not (.call 11 (.cons (.v 0) (.cons (.v 1) .nil)))) (.cons .bad .nil) .nil) .nil) }
/-- with_at -/
def f_with_at : Fn := { np := 3, N := [(⟨#[114, 111, 119]⟩ : PySem.Str), (⟨#[115, 112, 111, 116]⟩ : PySem.Str), (⟨#[116, 104, 105, 110, 103]⟩ : PySem.Str)], body := (.cons (.ret (.bo .add (.bo .add (.sl (.v 0) .no (.yes (.v 1))) (.tup (.cons (.v 2) .nil))) (.sl (.v 0) (.yes (.bo .add (.v 1) (.k (.int 1)))) .no))) .nil) }
/-- wanted_by -/
def f_wanted_by : Fn := { np := 2, N := [(⟨#[112, 114, 111, 103, 114, 97, 109]⟩ : PySem.Str), (⟨#[100, 101, 101, 100]⟩ : PySem.Str)], body := (.cons (.iff (.cmp .eq (.ix (.v 1) (.k (.int 0))) (.g 9)) (.cons (.ret (.ix (.v 0) (.k (.int 2)))) .nil) .nil) (.cons (.ret (.b1 .int (.cmp .eq (.ix (.v 1) (.k (.int 0))) (.g 10)))) .nil)) }
/-- first_state -/
def f_first_state : Fn := { np := 2, N := [(⟨#[112, 114, 111, 103, 114, 97, 109]⟩ : PySem.Str), (⟨#[99, 111, 110, 116, 101, 110, 116, 115]⟩ : PySem.Str), (⟨#[112, 108, 97, 99, 101, 115]⟩ : PySem.Str), (⟨#[114, 111, 119, 115]⟩ : PySem.Str), (⟨#[115, 105, 110, 103, 108, 101, 115]⟩ : PySem.Str), (⟨#[115, 112, 111, 116]⟩ : PySem.Str)], body := (.cons (.set 2 (.ix (.v 0) (.k (.int 2)))) (.cons (.set 3 (.b1 .tup (.lc [5] (.nm 5) (.r1 (.b1 .len (.ix (.v 0) (.k (.int 0))))) .yes (.b1 .tup (.sl (.v 1) (.yes (.bo .mul (.v 5) (.v 2))) (.yes (.bo .mul (.bo .add (.v 5) (.k (.int 1))) (.v 2)))))))) (.cons (.set 4 (.b1 .tup (.sl (.v 1) (.yes (.bo .mul (.b1 .len (.v 3)) (.v 2))) (.yes (.bo .add (.bo .mul (.b1 .len (.v 3)) (.v 2)) (.b1 .len (.ix (.v 0) (.k (.int 1))))))))) (.cons (.ret (.tup (.cons (.tr1 (.b1 .len (.v 3))) (.cons (.v 3) (.cons (.v 3) (.cons (.v 4) (.cons (.v 4) .nil))))))) .nil)))) }
/-- new_box -/
def f_new_box : Fn := { np := 4, N := [(⟨#[115, 116, 97, 116, 101]⟩ : PySem.Str), (⟨#[115, 112, 111, 116]⟩ : PySem.Str), (⟨#[114, 111, 119]⟩ : PySem.Str), (⟨#[109, 101, 97, 110, 115]⟩ : PySem.Str), (⟨#[104, 111, 108, 100, 115]⟩ : PySem.Str), (⟨#[98, 111, 120, 101, 115]⟩ : PySem.Str), (⟨#[114, 111, 119, 115]⟩ : PySem.Str), (⟨#[104, 97, 115]⟩ : PySem.Str), (⟨#[116, 104, 111, 117, 103, 104, 116]⟩ : PySem.Str)], body := (.cons (.unp (.tp [4, 5, 6, 7, 8]) (.v 0)) (.cons (.ret (.tup (.cons (.call 13 (.cons (.v 4) (.cons (.v 1) (.cons (.b1 .len (.v 5)) .nil)))) (.cons (.bo .add (.v 5) (.tup (.cons (.v 2) .nil))) (.cons (.call 13 (.cons (.v 6) (.cons (.v 1) (.cons (.v 3) .nil)))) (.cons (.v 7) (.cons (.v 8) .nil))))))) .nil)) }
/-- put_state -/
def f_put_state : Fn := { np := 4, N := [(⟨#[115, 116, 97, 116, 101]⟩ : PySem.Str), (⟨#[100, 101, 101, 100]⟩ : PySem.Str), (⟨#[115, 112, 111, 116, 115]⟩ : PySem.Str), (⟨#[105, 115, 95, 105, 110, 95, 112, 108, 97, 99, 101]⟩ : PySem.Str), (⟨#[114, 111, 119]⟩ : PySem.Str), (⟨#[109, 101, 97, 110, 115]⟩ : PySem.Str), (⟨#[98, 111, 120]⟩ : PySem.Str), (⟨#[104, 111, 108, 100, 115]⟩ : PySem.Str), (⟨#[98, 111, 120, 101, 115]⟩ : PySem.Str), (⟨#[114, 111, 119, 115]⟩ : PySem.Str), (⟨#[104, 97, 115]⟩ : PySem.Str), (⟨#[116, 104, 111, 117, 103, 104, 116]⟩ : PySem.Str), (⟨#[109, 105, 110, 101]⟩ : PySem.Str), (⟨#[121, 111, 117, 114, 115]⟩ : PySem.Str), (⟨#[115, 105, 110, 103, 108, 101]⟩ : PySem.Str)], body := (.cons (.unp (.tp [7, 8, 9, 10, 11]) (.v 0)) (.cons (.unp (.tp [12, 13, 14]) (.v 2)) (.cons (.set 4 (.call 13 (.cons (.ix (.v 8) (.ix (.v 7) (.v 13))) (.cons (.ix (.v 1) (.k (.int 3))) (.cons (.ix (.v 10) (.v 14)) .nil))))) (.cons (.set 5 (.call 13 (.cons (.ix (.v 9) (.v 13)) (.cons (.ix (.v 1) (.k (.int 3))) (.cons (.ix (.v 11) (.v 14)) .nil))))) (.cons (.iff (.not (.v 3)) (.cons (.ret (.call 16 (.cons (.v 0) (.cons (.v 12) (.cons (.v 4) (.cons (.v 5) .nil)))))) .nil) .nil) (.cons (.set 6 (.ix (.v 7) (.v 13))) (.cons (.ret (.tup (.cons (.call 13 (.cons (.v 7) (.cons (.v 12) (.cons (.v 6) .nil)))) (.cons (.call 13 (.cons (.v 8) (.cons (.v 6) (.cons (.v 4) .nil)))) (.cons (.call 13 (.cons (.v 9) (.cons (.v 12) (.cons (.v 5) .nil)))) (.cons (.v 10) (.cons (.v 11) .nil))))))) .nil))))))) }
/-- state_behind -/
def f_state_behind : Fn := { np := 5, N := [(⟨#[112, 114, 111, 103, 114, 97, 109]⟩ : PySem.Str), (⟨#[115, 116, 97, 116, 101]⟩ : PySem.Str), (⟨#[100, 101, 101, 100]⟩ : PySem.Str), (⟨#[105, 115, 95, 105, 110, 95, 112, 108, 97, 99, 101]⟩ : PySem.Str), (⟨#[102, 114, 101, 115, 104]⟩ : PySem.Str), (⟨#[115, 105, 110, 103, 108, 101]⟩ : PySem.Str), (⟨#[121, 111, 117, 114, 115]⟩ : PySem.Str), (⟨#[119, 111, 114, 100]⟩ : PySem.Str), (⟨#[110, 97, 109, 101, 115]⟩ : PySem.Str), (⟨#[115, 105, 110, 103, 108, 101, 115]⟩ : PySem.Str), (⟨#[104, 111, 108, 100, 115]⟩ : PySem.Str), (⟨#[98, 111, 120, 101, 115]⟩ : PySem.Str), (⟨#[114, 111, 119, 115]⟩ : PySem.Str), (⟨#[104, 97, 115]⟩ : PySem.Str), (⟨#[109, 101, 97, 110, 115]⟩ : PySem.Str), (⟨#[115, 112, 111, 116, 115]⟩ : PySem.Str), (⟨#[104, 97, 100, 95, 116, 104, 101, 114, 101]⟩ : PySem.Str), (⟨#[109, 101, 97, 110, 116, 95, 116, 104, 101, 114, 101]⟩ : PySem.Str), (⟨#[109, 105, 110, 101]⟩ : PySem.Str)], body := (.cons (.par [7, 8, 9] (.cons (.ix (.v 2) (.k (.int 0))) (.cons (.ix (.v 0) (.k (.int 0))) (.cons (.ix (.v 0) (.k (.int 1))) .nil)))) (.cons (.unp (.tp [10, 11, 12, 13, 14]) (.v 1)) (.cons (.iff (.cmp .eq (.v 7) (.g 9)) (.cons (.ret (.call 16 (.cons (.v 1) (.cons (.idx (.v 8) (.ix (.v 2) (.k (.int 1)))) (.cons (.b1 .tup (.v 4)) (.cons (.b1 .tup (.v 4)) .nil)))))) .nil) .nil) (.cons (.iff (.cmp .eq (.v 7) (.g 11)) (.cons (.par [18, 6] (.cons (.idx (.v 8) (.ix (.v 2) (.k (.int 1)))) (.cons (.idx (.v 8) (.ix (.v 2) (.k (.int 2)))) .nil))) (.cons (.ret (.tup (.cons (.call 13 (.cons (.v 10) (.cons (.v 18) (.cons (.ix (.v 10) (.v 6)) .nil)))) (.cons (.v 11) (.cons (.call 13 (.cons (.v 12) (.cons (.v 18) (.cons (.ix (.v 12) (.v 6)) .nil)))) (.cons (.v 13) (.cons (.v 14) .nil))))))) .nil)) .nil) (.cons (.iff (.cmp .eq (.v 7) (.g 8)) (.cons (.set 15 (.tup (.cons (.idx (.v 8) (.ix (.v 2) (.k (.int 1)))) (.cons (.idx (.v 8) (.ix (.v 2) (.k (.int 2)))) (.cons (.idx (.v 9) (.ix (.v 2) (.k (.int 4)))) .nil))))) (.cons (.ret (.call 17 (.cons (.v 1) (.cons (.v 2) (.cons (.v 15) (.cons (.v 3) .nil)))))) .nil)) .nil) (.cons (.iff (.cmp .mem (.v 7) (.tup (.cons (.g 12) (.cons (.g 13) .nil)))) (.cons (.ret (.v 1)) .nil) .nil) (.cons (.set 5 (.idx (.v 9) (.ix (.v 2) (.k (.int 1))))) (.cons (.iff (.cmp .eq (.v 7) (.g 10)) (.cons (.ret (.tup (.cons (.v 10) (.cons (.v 11) (.cons (.v 12) (.cons (.call 13 (.cons (.v 13) (.cons (.v 5) (.cons (.ix (.v 4) (.k (.int 0))) .nil)))) (.cons (.call 13 (.cons (.v 14) (.cons (.v 5) (.cons (.ix (.v 4) (.k (.int 0))) .nil)))) .nil))))))) .nil) .nil) (.cons (.set 6 (.idx (.v 8) (.ix (.v 2) (.k (.int 2))))) (.cons (.par [16, 17] (.cons (.ix (.ix (.v 11) (.ix (.v 10) (.v 6))) (.ix (.v 2) (.k (.int 3)))) (.cons (.ix (.ix (.v 12) (.v 6)) (.ix (.v 2) (.k (.int 3)))) .nil))) (.cons (.ret (.tup (.cons (.v 10) (.cons (.v 11) (.cons (.v 12) (.cons (.call 13 (.cons (.v 13) (.cons (.v 5) (.cons (.v 16) .nil)))) (.cons (.call 13 (.cons (.v 14) (.cons (.v 5) (.cons (.v 17) .nil)))) .nil))))))) .nil))))))))))) }
/-- first_wanted -/
def f_first_wanted : Fn := { np := 1, N := [(⟨#[112, 114, 111, 103, 114, 97, 109]⟩ : PySem.Str)], body := (.cons (.ret (.bo .add (.bo .mul (.b1 .len (.ix (.v 0) (.k (.int 0)))) (.ix (.v 0) (.k (.int 2)))) (.b1 .len (.ix (.v 0) (.k (.int 1)))))) .nil) }
/-- numbers_of -/
def f_numbers_of : Fn := { np := 1, N := [(⟨#[116, 104, 105, 110, 103, 115]⟩ : PySem.Str), (⟨#[102, 111, 117, 110, 100]⟩ : PySem.Str), (⟨#[116, 104, 105, 110, 103]⟩ : PySem.Str)], body := (.cons (.set 1 (.dic .nil)) (.cons (.forr (.nm 2) (.val (.v 0)) (.cons (.iff (.cmp .nmem (.v 2) (.v 1)) (.cons (.put (.v 1) (.v 2) (.b1 .len (.v 1))) .nil) .nil) .nil)) (.cons (.ret (.v 1)) .nil))) }
/-- contents_in -/
def f_contents_in : Fn := { np := 1, N := [(⟨#[115, 116, 97, 116, 101]⟩ : PySem.Str), (⟨#[104, 111, 108, 100, 115]⟩ : PySem.Str), (⟨#[98, 111, 120, 101, 115]⟩ : PySem.Str), (⟨#[114, 111, 119, 115]⟩ : PySem.Str), (⟨#[104, 97, 115]⟩ : PySem.Str), (⟨#[109, 101, 97, 110, 115]⟩ : PySem.Str), (⟨#[114, 111, 119]⟩ : PySem.Str), (⟨#[111, 110, 101]⟩ : PySem.Str)], body := (.cons (.unp (.tp [1, 2, 3, 4, 5]) (.v 0)) (.cons (.ret (.lc2 [6, 7] (.nm 6) (.val (.bo .add (.bo .add (.v 2) (.v 3)) (.tup (.cons (.v 4) (.cons (.v 5) .nil))))) .yes (.val (.v 6)) [7] (.nm 7) .yes (.v 7))) .nil)) }
/-- normed -/
def f_normed : Fn := { np := 1, N := [(⟨#[115, 116, 97, 116, 101]⟩ : PySem.Str), (⟨#[112, 108, 97, 99, 101, 115]⟩ : PySem.Str), (⟨#[107, 101, 112, 116]⟩ : PySem.Str), (⟨#[107, 110, 111, 119, 110]⟩ : PySem.Str), (⟨#[116, 111, 108, 100]⟩ : PySem.Str), (⟨#[115, 105, 110, 103, 108, 101, 115]⟩ : PySem.Str), (⟨#[104, 111, 108, 100, 115]⟩ : PySem.Str), (⟨#[98, 111, 120, 101, 115]⟩ : PySem.Str), (⟨#[114, 111, 119, 115]⟩ : PySem.Str), (⟨#[104, 97, 115]⟩ : PySem.Str), (⟨#[109, 101, 97, 110, 115]⟩ : PySem.Str), (⟨#[115, 111, 109, 101]⟩ : PySem.Str), (⟨#[114, 111, 119]⟩ : PySem.Str), (⟨#[111, 110, 101]⟩ : PySem.Str)], body := (.cons (.unp (.tp [6, 7, 8, 9, 10]) (.v 0)) (.cons (.set 1 (.call 20 (.cons (.v 6) .nil))) (.cons (.set 2 (.tup (.cons (.b1 .tup (.lc [13] (.nm 13) (.val (.v 6)) .yes (.ix (.v 1) (.v 13)))) (.cons (.b1 .tup (.lc [13] (.nm 13) (.val (.v 1)) .yes (.ix (.v 7) (.v 13)))) (.cons (.v 8) (.cons (.v 9) (.cons (.v 10) .nil))))))) (.cons (.set 3 (.call 20 (.cons (.call 21 (.cons (.v 2) .nil)) .nil))) (.cons (.set 4 (.lc [11] (.nm 11) (.val (.tup (.cons (.ix (.v 2) (.k (.int 1))) (.cons (.v 8) .nil)))) .yes (.b1 .tup (.lc [12] (.nm 12) (.val (.v 11)) .yes (.b1 .tup (.lc [13] (.nm 13) (.val (.v 12)) .yes (.ix (.v 3) (.v 13)))))))) (.cons (.set 5 (.lc [12] (.nm 12) (.val (.tup (.cons (.v 9) (.cons (.v 10) .nil)))) .yes (.b1 .tup (.lc [13] (.nm 13) (.val (.v 12)) .yes (.ix (.v 3) (.v 13)))))) (.cons (.ret (.tup (.cons (.ix (.v 2) (.k (.int 0))) (.cons (.ix (.v 4) (.k (.int 0))) (.cons (.ix (.v 4) (.k (.int 1))) (.cons (.ix (.v 5) (.k (.int 0))) (.cons (.ix (.v 5) (.k (.int 1))) .nil))))))) .nil))))))) }
/-- first_of -/
def f_first_of : Fn := { np := 1, N := [(⟨#[112, 114, 111, 103, 114, 97, 109]⟩ : PySem.Str)], body := (.cons (.ret (.call 22 (.cons (.call 15 (.cons (.v 0) (.cons (.tr1 (.call 19 (.cons (.v 0) .nil))) .nil))) .nil))) .nil) }
/-- next_standing -/
def f_next_standing : Fn := { np := 4, N := [(⟨#[112, 114, 111, 103, 114, 97, 109]⟩ : PySem.Str), (⟨#[99, 104, 111, 105, 99, 101]⟩ : PySem.Str), (⟨#[115, 116, 97, 110, 100, 105, 110, 103]⟩ : PySem.Str), (⟨#[110, 111, 100, 101]⟩ : PySem.Str), (⟨#[102, 114, 101, 115, 104]⟩ : PySem.Str), (⟨#[100, 101, 101, 100]⟩ : PySem.Str), (⟨#[116, 111, 112]⟩ : PySem.Str)], body := (.cons (.par [5, 6] (.cons (.ix (.ix (.ix (.v 0) (.k (.int 3))) (.v 3)) (.k (.int 0))) (.cons (.bo .add (.b1 .max (.call 21 (.cons (.v 2) .nil))) (.k (.int 1))) .nil))) (.cons (.set 4 (.tr2 (.v 6) (.bo .add (.v 6) (.call 14 (.cons (.v 0) (.cons (.v 5) .nil)))))) (.cons (.ret (.call 22 (.cons (.call 18 (.cons (.v 0) (.cons (.v 2) (.cons (.v 5) (.cons (.cmp .mem (.v 3) (.v 1)) (.cons (.v 4) .nil)))))) .nil))) .nil))) }
/-- is_betrayed -/
def f_is_betrayed : Fn := { np := 3, N := [(⟨#[112, 114, 111, 103, 114, 97, 109]⟩ : PySem.Str), (⟨#[115, 116, 97, 110, 100, 105, 110, 103]⟩ : PySem.Str), (⟨#[110, 111, 100, 101]⟩ : PySem.Str), (⟨#[100, 101, 101, 100]⟩ : PySem.Str), (⟨#[115, 105, 110, 103, 108, 101]⟩ : PySem.Str)], body := (.cons (.set 3 (.ix (.ix (.ix (.v 0) (.k (.int 3))) (.v 2)) (.k (.int 0)))) (.cons (.iff (.cmp .ne (.ix (.v 3) (.k (.int 0))) (.g 12)) (.cons (.ret (.k (.bool false))) .nil) .nil) (.cons (.set 4 (.idx (.ix (.v 0) (.k (.int 1))) (.ix (.v 3) (.k (.int 1))))) (.cons (.ret (.cmp .ne (.ix (.ix (.v 1) (.k (.int 3))) (.v 4)) (.ix (.ix (.v 1) (.k (.int 4))) (.v 4)))) .nil)))) }
/-- spots_behind -/
def f_spots_behind : Fn := { np := 3, N := [(⟨#[112, 114, 111, 103, 114, 97, 109]⟩ : PySem.Str), (⟨#[99, 104, 111, 105, 99, 101]⟩ : PySem.Str), (⟨#[115, 112, 111, 116]⟩ : PySem.Str), (⟨#[110, 111, 100, 101]⟩ : PySem.Str)], body := (.cons (.ret (.lc [3] (.nm 3) (.val (.call 10 (.cons (.v 0) (.cons (.ix (.v 2) (.k (.int 0))) .nil)))) .yes (.tup (.cons (.v 3) (.cons (.call 24 (.cons (.v 0) (.cons (.v 1) (.cons (.ix (.v 2) (.k (.int 1))) (.cons (.v 3) .nil))))) .nil))))) .nil) }
/-- reached -/
def f_reached : Fn := { np := 2, N := [(⟨#[112, 114, 111, 103, 114, 97, 109]⟩ : PySem.Str), (⟨#[99, 104, 111, 105, 99, 101]⟩ : PySem.Str), (⟨#[98, 101, 103, 105, 110, 95, 115, 111]⟩ : PySem.Str), (⟨#[102, 111, 117, 110, 100]⟩ : PySem.Str), (⟨#[108, 97, 121, 101, 114]⟩ : PySem.Str), (⟨#[108, 97, 116, 101, 114]⟩ : PySem.Str), (⟨#[115, 112, 111, 116]⟩ : PySem.Str), (⟨#[102, 114, 101, 115, 104]⟩ : PySem.Str)], body := (.cons (.set 2 (.tup (.cons (.neg (.k (.int 1))) (.cons (.call 23 (.cons (.v 0) .nil)) .nil)))) (.cons (.set 3 (.dic (.cons (.v 2) (.k .none) .nil))) (.cons (.set 4 (.lst (.cons (.v 2) .nil))) (.cons (.whl 600 (.cmp .ne (.v 4) (.lst .nil)) (.cons (.set 5 (.lstM .nil)) (.cons (.forr (.nm 6) (.val (.v 4)) (.cons (.forr (.nm 7) (.val (.call 26 (.cons (.v 0) (.cons (.v 1) (.cons (.v 6) .nil))))) (.cons (.iff (.cmp .nmem (.v 7) (.v 3)) (.cons (.put (.v 3) (.v 7) (.v 6)) (.cons (.ex (.app (.v 5) (.v 7))) .nil)) .nil) .nil)) .nil)) (.cons (.iff (.cmp .gt (.b1 .len (.v 3)) (.g 14)) (.cons .bad .nil) .nil) (.cons (.set 4 (.b1 .lst (.v 5))) .nil))))) (.cons (.ret (.v 3)) .nil))))) }
/-- way_to -/
def f_way_to : Fn := { np := 2, N := [(⟨#[102, 111, 117, 110, 100]⟩ : PySem.Str), (⟨#[115, 112, 111, 116]⟩ : PySem.Str), (⟨#[119, 97, 121]⟩ : PySem.Str)], body := (.cons (.set 2 (.lstM .nil)) (.cons (.whl 600 (.cmp .ge (.ix (.v 1) (.k (.int 0))) (.k (.int 0))) (.cons (.ex (.app (.v 2) (.ix (.v 1) (.k (.int 0))))) (.cons (.set 1 (.ix (.v 0) (.v 1))) .nil))) (.cons (.ret (.b1 .tup (.rev (.v 2)))) .nil))) }
/-- betrayal_in -/
def f_betrayal_in : Fn := { np := 2, N := [(⟨#[112, 114, 111, 103, 114, 97, 109]⟩ : PySem.Str), (⟨#[99, 104, 111, 105, 99, 101]⟩ : PySem.Str), (⟨#[102, 111, 117, 110, 100]⟩ : PySem.Str), (⟨#[115, 112, 111, 116]⟩ : PySem.Str), (⟨#[110, 111, 100, 101]⟩ : PySem.Str)], body := (.cons (.set 2 (.call 27 (.cons (.v 0) (.cons (.v 1) .nil)))) (.cons (.forr (.nm 3) (.val (.v 2)) (.cons (.forr (.nm 4) (.val (.call 10 (.cons (.v 0) (.cons (.ix (.v 3) (.k (.int 0))) .nil)))) (.cons (.iff (.call 25 (.cons (.v 0) (.cons (.ix (.v 3) (.k (.int 1))) (.cons (.v 4) .nil)))) (.cons (.ret (.tup (.star (.call 28 (.cons (.v 2) (.cons (.v 3) .nil))) (.cons (.v 4) .nil)))) .nil) .nil) .nil)) .nil)) (.cons (.ret (.k .none)) .nil))) }
/-- is_unseen -/
def f_is_unseen : Fn := { np := 2, N := [(⟨#[112, 114, 111, 103, 114, 97, 109]⟩ : PySem.Str), (⟨#[99, 104, 111, 105, 99, 101]⟩ : PySem.Str)], body := (.cons (.ex (.call 12 (.cons (.call 8 (.cons (.v 0) .nil)) (.cons (.v 1) .nil)))) (.cons (.ret (.cmp .is (.call 29 (.cons (.v 0) (.cons (.v 1) .nil))) (.k .none))) .nil)) }
/-- betraying_way -/
def f_betraying_way : Fn := { np := 2, N := [(⟨#[112, 114, 111, 103, 114, 97, 109]⟩ : PySem.Str), (⟨#[99, 104, 111, 105, 99, 101]⟩ : PySem.Str)], body := (.cons (.ex (.call 12 (.cons (.call 8 (.cons (.v 0) .nil)) (.cons (.v 1) .nil)))) (.cons (.ret (.call 29 (.cons (.v 0) (.cons (.v 1) .nil)))) .nil)) }
/-- _law_mixed -/
def f_law_mixed : Fn := { np := 2, N := [(⟨#[95, 108, 97, 119, 95, 99, 101, 108, 108]⟩ : PySem.Str), (⟨#[95, 108, 97, 119, 95, 107]⟩ : PySem.Str)], body := (.cons (.set 0 (.bo .mod (.b1 .int (.v 0)) (.k (.int 2147483647)))) (.cons (.ret (.bo .mod (.bo .mul (.bo .mod (.bo .add (.bo .add (.bo .mul (.v 0) (.bo .add (.k (.int 48271)) (.bo .mul (.bo .mul (.k (.int 2)) (.v 1)) (.v 1)))) (.bo .mul (.k (.int 69621)) (.v 1))) (.k (.int 11))) (.k (.int 2147483647))) (.k (.int 69621))) (.k (.int 2147483629)))) .nil)) }
/-- _law_begin -/
def f_law_begin : Fn := { np := 1, N := [(⟨#[95, 108, 97, 119, 95, 115, 99, 114, 105, 112, 116]⟩ : PySem.Str), (⟨#[95, 108, 97, 119, 95, 99, 101, 108, 108, 115]⟩ : PySem.Str), (⟨#[95, 108, 97, 119, 95, 99, 101, 108, 108]⟩ : PySem.Str)], body := (.cons (.set 1 (.ite (.cmp .ne (.v 0) (.lst .nil)) (.b1 .lst (.v 0)) (.lst (.cons (.k (.int 0)) .nil)))) (.cons (.ret (.dic (.cons (.k (.str (⟨#[99, 101, 108, 108, 115]⟩ : PySem.Str))) (.v 1) (.cons (.k (.str (⟨#[108, 101, 102, 116, 115]⟩ : PySem.Str))) (.lcM [2] (.nm 2) (.val (.v 1)) .yes (.ite (.cmp .ge (.v 2) (.pow (.k (.int 10)) (.k (.int 18)))) (.v 2) (.k (.int 0)))) (.cons (.k (.str (⟨#[97, 116]⟩ : PySem.Str))) (.k (.int 0)) (.cons (.k (.str (⟨#[114, 111, 111, 109]⟩ : PySem.Str))) (.k (.int 0)) .nil)))))) .nil)) }
/-- _law_draw -/
def f_law_draw : Fn := { np := 2, N := [(⟨#[95, 108, 97, 119, 95, 115, 116, 97, 116, 101]⟩ : PySem.Str), (⟨#[95, 108, 97, 119, 95, 109, 97, 110, 121]⟩ : PySem.Str), (⟨#[95, 108, 97, 119, 95, 97, 116]⟩ : PySem.Str), (⟨#[95, 108, 97, 119, 95, 112, 108, 97, 99, 101]⟩ : PySem.Str), (⟨#[95, 108, 97, 119, 95, 108, 101, 102, 116]⟩ : PySem.Str), (⟨#[95, 108, 97, 119, 95, 110, 117, 109, 98, 101, 114]⟩ : PySem.Str)], body := (.cons (.set 2 (.ix (.v 0) (.k (.str (⟨#[97, 116]⟩ : PySem.Str))))) (.cons (.put (.v 0) (.k (.str (⟨#[97, 116]⟩ : PySem.Str))) (.bo .add (.v 2) (.k (.int 1)))) (.cons (.set 3 (.bo .mod (.b1 .int (.v 2)) (.b1 .len (.ix (.v 0) (.k (.str (⟨#[99, 101, 108, 108, 115]⟩ : PySem.Str))))))) (.cons (.set 4 (.ix (.ix (.v 0) (.k (.str (⟨#[108, 101, 102, 116, 115]⟩ : PySem.Str)))) (.v 3))) (.cons (.iff (.cmp .gt (.v 4) (.k (.int 0))) (.cons (.put (.ix (.v 0) (.k (.str (⟨#[108, 101, 102, 116, 115]⟩ : PySem.Str)))) (.v 3) (.bo .fdiv (.v 4) (.v 1))) (.cons (.ret (.bo .mod (.b1 .int (.v 4)) (.v 1))) .nil)) .nil) (.cons (.set 5 (.call 32 (.cons (.callM 32 (.cons (.ix (.ix (.v 0) (.k (.str (⟨#[99, 101, 108, 108, 115]⟩ : PySem.Str)))) (.v 3)) (.cons (.v 2) .nil))) (.cons (.bo .add (.k (.int 40)) (.v 2)) .nil)))) (.cons (.ret (.bo .mod (.bo .fdiv (.b1 .int (.bo .add (.bo .mul (.v 5) (.k (.int 2147483647))) (.call 32 (.cons (.v 5) (.cons (.bo .add (.k (.int 7)) (.v 2)) .nil))))) (.k (.int 64))) (.v 1))) .nil))))))) }
/-- _law_line -/
def f_law_line : Fn := { np := 2, N := [(⟨#[95, 108, 97, 119, 95, 100, 101, 101, 100, 115]⟩ : PySem.Str), (⟨#[95, 108, 97, 119, 95, 109, 111, 114, 101]⟩ : PySem.Str), (⟨#[95, 108, 97, 119, 95, 110, 111, 100, 101, 115]⟩ : PySem.Str), (⟨#[95, 108, 97, 119, 95, 114, 111, 119, 115]⟩ : PySem.Str), (⟨#[95, 108, 97, 119, 95, 115, 112, 111, 116]⟩ : PySem.Str), (⟨#[95, 108, 97, 119, 95, 100, 101, 101, 100]⟩ : PySem.Str)], body := (.cons (.set 2 (.bo .add (.bo .mul (.lst (.cons (.tup (.cons (.k (.str (⟨#[112, 97, 115, 115]⟩ : PySem.Str))) .nil)) .nil)) (.v 1)) (.v 0))) (.cons (.set 3 (.lc [4, 5] (.tp [4, 5]) (.en (.sl (.v 2) .no (.yes (.neg (.k (.int 1)))))) .yes (.tup (.cons (.v 5) (.cons (.tup (.cons (.bo .add (.v 4) (.k (.int 1))) .nil)) .nil))))) (.cons (.ret (.tup (.cons (.tup (.cons (.k (.str (⟨#[120]⟩ : PySem.Str))) (.cons (.k (.str (⟨#[121]⟩ : PySem.Str))) (.cons (.k (.str (⟨#[122]⟩ : PySem.Str))) .nil)))) (.cons (.tup (.cons (.k (.str (⟨#[115]⟩ : PySem.Str))) (.cons (.k (.str (⟨#[116]⟩ : PySem.Str))) .nil))) (.cons (.k (.int 2)) (.cons (.b1 .tup (.bo .add (.v 3) (.lst (.cons (.tup (.cons (.ix (.v 2) (.neg (.k (.int 1)))) (.cons (.tup .nil) .nil))) .nil)))) .nil)))))) .nil))) }
/-- _law_old_right -/
def f_law_old_right : Fn := { np := 1, N := [(⟨#[95, 108, 97, 119, 95, 109, 111, 114, 101]⟩ : PySem.Str), (⟨#[95, 108, 97, 119, 95, 110, 97, 109, 101]⟩ : PySem.Str), (⟨#[95, 108, 97, 119, 95, 112, 108, 97, 99, 101]⟩ : PySem.Str), (⟨#[95, 108, 97, 119, 95, 105, 115, 95, 115, 101, 101, 110]⟩ : PySem.Str), (⟨#[95, 108, 97, 119, 95, 112, 114, 111, 103, 114, 97, 109]⟩ : PySem.Str), (⟨#[95, 108, 97, 119, 95, 119, 97, 121]⟩ : PySem.Str)], body := (.cons (.forr (.tp [1, 2, 3]) (.val (.lst (.cons (.tup (.cons (.k (.str (⟨#[121]⟩ : PySem.Str))) (.cons (.k (.int 0)) (.cons (.k (.bool true)) .nil)))) (.cons (.tup (.cons (.k (.str (⟨#[121]⟩ : PySem.Str))) (.cons (.k (.int 1)) (.cons (.k (.bool false)) .nil)))) (.cons (.tup (.cons (.k (.str (⟨#[120]⟩ : PySem.Str))) (.cons (.k (.int 0)) (.cons (.k (.bool false)) .nil)))) (.cons (.tup (.cons (.k (.str (⟨#[122]⟩ : PySem.Str))) (.cons (.k (.int 0)) (.cons (.k (.bool false)) .nil)))) .nil)))))) (.cons (.set 4 (.call 35 (.cons (.lst (.cons (.tup (.cons (.k (.str (⟨#[112, 117, 116]⟩ : PySem.Str))) (.cons (.k (.str (⟨#[120]⟩ : PySem.Str))) (.cons (.k (.str (⟨#[121]⟩ : PySem.Str))) (.cons (.k (.int 0)) (.cons (.k (.str (⟨#[115]⟩ : PySem.Str))) .nil)))))) (.cons (.tup (.cons (.k (.str (⟨#[103, 101, 116]⟩ : PySem.Str))) (.cons (.k (.str (⟨#[116]⟩ : PySem.Str))) (.cons (.v 1) (.cons (.v 2) .nil))))) (.cons (.tup (.cons (.k (.str (⟨#[115, 104, 111, 119]⟩ : PySem.Str))) (.cons (.k (.str (⟨#[116]⟩ : PySem.Str))) .nil))) .nil)))) (.cons (.v 0) .nil)))) (.cons (.set 5 (.ite (.v 3) (.tr1 (.bo .add (.v 0) (.k (.int 3)))) (.k .none))) (.cons (.iff (.or (.cons (.cmp .eq (.call 30 (.cons (.v 4) (.cons (.tup (.cons (.v 0) .nil)) .nil))) (.v 3)) (.one (.cmp .ne (.call 31 (.cons (.v 4) (.cons (.tup (.cons (.v 0) .nil)) .nil))) (.v 5))))) (.cons (.ret (.k (.bool false))) .nil) .nil) .nil)))) (.cons (.ret (.k (.bool true))) .nil)) }
/-- _law_bars_right -/
def f_law_bars_right : Fn := { np := 1, N := [(⟨#[95, 108, 97, 119, 95, 109, 111, 114, 101]⟩ : PySem.Str), (⟨#[95, 108, 97, 119, 95, 100, 101, 101, 100, 115]⟩ : PySem.Str), (⟨#[95, 108, 97, 119, 95, 112, 114, 111, 103, 114, 97, 109]⟩ : PySem.Str)], body := (.cons (.set 1 (.lst (.cons (.tup (.cons (.k (.str (⟨#[112, 117, 116]⟩ : PySem.Str))) (.cons (.k (.str (⟨#[120]⟩ : PySem.Str))) (.cons (.k (.str (⟨#[121]⟩ : PySem.Str))) (.cons (.k (.int 0)) (.cons (.k (.str (⟨#[115]⟩ : PySem.Str))) .nil)))))) (.cons (.tup (.cons (.k (.str (⟨#[112, 117, 116]⟩ : PySem.Str))) (.cons (.k (.str (⟨#[122]⟩ : PySem.Str))) (.cons (.k (.str (⟨#[121]⟩ : PySem.Str))) (.cons (.k (.int 0)) (.cons (.k (.str (⟨#[116]⟩ : PySem.Str))) .nil)))))) (.cons (.tup (.cons (.k (.str (⟨#[103, 101, 116]⟩ : PySem.Str))) (.cons (.k (.str (⟨#[115]⟩ : PySem.Str))) (.cons (.k (.str (⟨#[120]⟩ : PySem.Str))) (.cons (.k (.int 0)) .nil))))) (.cons (.tup (.cons (.k (.str (⟨#[115, 104, 111, 119]⟩ : PySem.Str))) (.cons (.k (.str (⟨#[115]⟩ : PySem.Str))) .nil))) .nil)))))) (.cons (.set 2 (.call 35 (.cons (.v 1) (.cons (.v 0) .nil)))) (.cons (.iff (.or (.cons (.cmp .nis (.call 30 (.cons (.v 2) (.cons (.tup (.cons (.v 0) .nil)) .nil))) (.k (.bool true))) (.one (.cmp .nis (.call 30 (.cons (.v 2) (.cons (.tup (.cons (.bo .add (.v 0) (.k (.int 1))) .nil)) .nil))) (.k (.bool true)))))) (.cons (.ret (.k (.bool false))) .nil) .nil) (.cons (.ret (.and (.cons (.cmp .is (.call 30 (.cons (.v 2) (.cons (.tup (.cons (.v 0) (.cons (.bo .add (.v 0) (.k (.int 1))) .nil))) .nil))) (.k (.bool false))) (.one (.cmp .eq (.b1 .len (.call 31 (.cons (.v 2) (.cons (.tup (.cons (.v 0) (.cons (.bo .add (.v 0) (.k (.int 1))) .nil))) .nil)))) (.bo .add (.v 0) (.k (.int 4)))))))) .nil)))) }
/-- _law_mended_right -/
def f_law_mended_right : Fn := { np := 1, N := [(⟨#[95, 108, 97, 119, 95, 109, 111, 114, 101]⟩ : PySem.Str), (⟨#[95, 108, 97, 119, 95, 100, 101, 101, 100, 115]⟩ : PySem.Str), (⟨#[95, 108, 97, 119, 95, 112, 114, 111, 103, 114, 97, 109]⟩ : PySem.Str)], body := (.cons (.set 1 (.lst (.cons (.tup (.cons (.k (.str (⟨#[103, 101, 116]⟩ : PySem.Str))) (.cons (.k (.str (⟨#[116]⟩ : PySem.Str))) (.cons (.k (.str (⟨#[121]⟩ : PySem.Str))) (.cons (.k (.int 0)) .nil))))) (.cons (.tup (.cons (.k (.str (⟨#[112, 117, 116]⟩ : PySem.Str))) (.cons (.k (.str (⟨#[120]⟩ : PySem.Str))) (.cons (.k (.str (⟨#[121]⟩ : PySem.Str))) (.cons (.k (.int 0)) (.cons (.k (.str (⟨#[115]⟩ : PySem.Str))) .nil)))))) (.cons (.tup (.cons (.k (.str (⟨#[112, 117, 116]⟩ : PySem.Str))) (.cons (.k (.str (⟨#[120]⟩ : PySem.Str))) (.cons (.k (.str (⟨#[120]⟩ : PySem.Str))) (.cons (.k (.int 0)) (.cons (.k (.str (⟨#[116]⟩ : PySem.Str))) .nil)))))) .nil))))) (.cons (.set 2 (.call 35 (.cons (.bo .add (.v 1) (.lst (.cons (.tup (.cons (.k (.str (⟨#[103, 101, 116]⟩ : PySem.Str))) (.cons (.k (.str (⟨#[115]⟩ : PySem.Str))) (.cons (.k (.str (⟨#[121]⟩ : PySem.Str))) (.cons (.k (.int 0)) .nil))))) (.cons (.tup (.cons (.k (.str (⟨#[115, 104, 111, 119]⟩ : PySem.Str))) (.cons (.k (.str (⟨#[115]⟩ : PySem.Str))) .nil))) .nil)))) (.cons (.v 0) .nil)))) (.cons (.iff (.or (.cons (.cmp .nis (.call 30 (.cons (.v 2) (.cons (.tup (.cons (.bo .add (.v 0) (.k (.int 1))) (.cons (.bo .add (.v 0) (.k (.int 2))) .nil))) .nil))) (.k (.bool true))) (.one (.cmp .nis (.call 30 (.cons (.v 2) (.cons (.tup (.cons (.bo .add (.v 0) (.k (.int 2))) .nil)) .nil))) (.k (.bool true)))))) (.cons (.ret (.k (.bool false))) .nil) .nil) (.cons (.ret (.cmp .is (.call 30 (.cons (.v 2) (.cons (.tup (.cons (.bo .add (.v 0) (.k (.int 1))) .nil)) .nil))) (.k (.bool false)))) .nil)))) }
/-- _law_loop_right -/
def f_law_loop_right : Fn := { np := 1, N := [(⟨#[95, 108, 97, 119, 95, 116, 117, 114, 110]⟩ : PySem.Str), (⟨#[95, 108, 97, 119, 95, 98, 111, 116, 104]⟩ : PySem.Str), (⟨#[95, 108, 97, 119, 95, 110, 111, 100, 101, 115]⟩ : PySem.Str), (⟨#[95, 108, 97, 119, 95, 112, 114, 111, 103, 114, 97, 109]⟩ : PySem.Str)], body := (.cons (.set 1 (.ix (.tup (.cons (.tup (.cons (.k (.int 0)) (.cons (.k (.int 2)) .nil))) (.cons (.tup (.cons (.k (.int 1)) (.cons (.k (.int 2)) .nil))) .nil))) (.v 0))) (.cons (.set 2 (.tup (.cons (.tup (.cons (.tup (.cons (.k (.str (⟨#[112, 117, 116]⟩ : PySem.Str))) (.cons (.k (.str (⟨#[120]⟩ : PySem.Str))) (.cons (.k (.str (⟨#[121]⟩ : PySem.Str))) (.cons (.k (.int 0)) (.cons (.k (.str (⟨#[115]⟩ : PySem.Str))) .nil)))))) (.cons (.tup (.cons (.k (.int 1)) .nil)) .nil))) (.cons (.tup (.cons (.tup (.cons (.k (.str (⟨#[112, 97, 115, 115]⟩ : PySem.Str))) .nil)) (.cons (.v 1) .nil))) (.cons (.tup (.cons (.tup (.cons (.k (.str (⟨#[103, 101, 116]⟩ : PySem.Str))) (.cons (.k (.str (⟨#[116]⟩ : PySem.Str))) (.cons (.k (.str (⟨#[121]⟩ : PySem.Str))) (.cons (.k (.int 0)) .nil))))) (.cons (.tup (.cons (.k (.int 3)) .nil)) .nil))) (.cons (.tup (.cons (.tup (.cons (.k (.str (⟨#[115, 104, 111, 119]⟩ : PySem.Str))) (.cons (.k (.str (⟨#[116]⟩ : PySem.Str))) .nil))) (.cons (.tup .nil) .nil))) .nil)))))) (.cons (.set 3 (.tup (.cons (.tup (.cons (.k (.str (⟨#[120]⟩ : PySem.Str))) (.cons (.k (.str (⟨#[121]⟩ : PySem.Str))) .nil))) (.cons (.tup (.cons (.k (.str (⟨#[115]⟩ : PySem.Str))) (.cons (.k (.str (⟨#[116]⟩ : PySem.Str))) .nil))) (.cons (.k (.int 1)) (.cons (.v 2) .nil)))))) (.cons (.iff (.cmp .ne (.call 31 (.cons (.v 3) (.cons (.tup (.cons (.k (.int 0)) .nil)) .nil))) (.tup (.cons (.k (.int 0)) (.cons (.k (.int 1)) (.cons (.k (.int 2)) (.cons (.k (.int 3)) .nil)))))) (.cons (.ret (.k (.bool false))) .nil) .nil) (.cons (.set 2 (.tup (.cons (.tup (.cons (.tup (.cons (.k (.str (⟨#[112, 117, 116]⟩ : PySem.Str))) (.cons (.k (.str (⟨#[121]⟩ : PySem.Str))) (.cons (.k (.str (⟨#[121]⟩ : PySem.Str))) (.cons (.k (.int 0)) (.cons (.k (.str (⟨#[115]⟩ : PySem.Str))) .nil)))))) (.cons (.tup (.cons (.k (.int 0)) (.cons (.k (.int 1)) .nil))) .nil))) (.cons (.tup (.cons (.tup (.cons (.k (.str (⟨#[103, 101, 116]⟩ : PySem.Str))) (.cons (.k (.str (⟨#[116]⟩ : PySem.Str))) (.cons (.k (.str (⟨#[121]⟩ : PySem.Str))) (.cons (.k (.int 0)) .nil))))) (.cons (.tup (.cons (.k (.int 2)) .nil)) .nil))) (.cons (.tup (.cons (.tup (.cons (.k (.str (⟨#[115, 104, 111, 119]⟩ : PySem.Str))) (.cons (.k (.str (⟨#[116]⟩ : PySem.Str))) .nil))) (.cons (.tup (.cons (.k (.int 0)) .nil)) .nil))) .nil))))) (.cons (.ret (.cmp .is (.call 30 (.cons (.tup (.cons (.tup (.cons (.k (.str (⟨#[120]⟩ : PySem.Str))) (.cons (.k (.str (⟨#[121]⟩ : PySem.Str))) .nil))) (.cons (.tup (.cons (.k (.str (⟨#[115]⟩ : PySem.Str))) (.cons (.k (.str (⟨#[116]⟩ : PySem.Str))) .nil))) (.cons (.k (.int 1)) (.cons (.v 2) .nil))))) (.cons (.tup (.cons (.k (.int 0)) .nil)) .nil))) (.k (.bool true)))) .nil)))))) }
/-- law -/
def f_law : Fn := { np := 1, N := [(⟨#[95, 108, 97, 119, 95, 115, 99, 114, 105, 112, 116]⟩ : PySem.Str), (⟨#[95, 108, 97, 119, 95, 115, 116, 97, 116, 101]⟩ : PySem.Str), (⟨#[95, 108, 97, 119, 95, 109, 111, 114, 101]⟩ : PySem.Str)], body := (.cons (.set 1 (.callM 33 (.cons (.v 0) .nil))) (.cons (.set 2 (.callM 34 (.cons (.v 1) (.cons (.k (.int 6)) .nil)))) (.cons (.iff (.or (.cons (.not (.call 36 (.cons (.v 2) .nil))) (.cons (.not (.call 37 (.cons (.v 2) .nil))) (.one (.not (.call 38 (.cons (.v 2) .nil))))))) (.cons (.ret (.k (.bool false))) .nil) .nil) (.cons (.ret (.call 39 (.cons (.callM 34 (.cons (.v 1) (.cons (.k (.int 2)) .nil))) .nil))) .nil)))) }
def nm : Nm := { fs := [(⟨#[105, 115, 95, 105, 110, 116, 101, 103, 101, 114]⟩ : PySem.Str), (⟨#[105, 115, 95, 98, 101, 116, 119, 101, 101, 110]⟩ : PySem.Str), (⟨#[105, 115, 95, 119, 111, 114, 100]⟩ : PySem.Str), (⟨#[105, 115, 95, 114, 105, 115, 105, 110, 103]⟩ : PySem.Str), (⟨#[97, 114, 101, 95, 119, 111, 114, 100, 115]⟩ : PySem.Str), (⟨#[105, 115, 95, 112, 97, 114, 116]⟩ : PySem.Str), (⟨#[105, 115, 95, 100, 101, 101, 100]⟩ : PySem.Str), (⟨#[97, 114, 101, 95, 110, 101, 120, 116, 115]⟩ : PySem.Str), (⟨#[110, 101, 101, 100, 95, 112, 114, 111, 103, 114, 97, 109]⟩ : PySem.Str), (⟨#[112, 117, 116, 115, 95, 105, 110]⟩ : PySem.Str), (⟨#[110, 101, 120, 116, 115, 95, 111, 102]⟩ : PySem.Str), (⟨#[105, 115, 95, 99, 104, 111, 105, 99, 101]⟩ : PySem.Str), (⟨#[110, 101, 101, 100, 95, 99, 104, 111, 105, 99, 101]⟩ : PySem.Str), (⟨#[119, 105, 116, 104, 95, 97, 116]⟩ : PySem.Str), (⟨#[119, 97, 110, 116, 101, 100, 95, 98, 121]⟩ : PySem.Str), (⟨#[102, 105, 114, 115, 116, 95, 115, 116, 97, 116, 101]⟩ : PySem.Str), (⟨#[110, 101, 119, 95, 98, 111, 120]⟩ : PySem.Str), (⟨#[112, 117, 116, 95, 115, 116, 97, 116, 101]⟩ : PySem.Str), (⟨#[115, 116, 97, 116, 101, 95, 98, 101, 104, 105, 110, 100]⟩ : PySem.Str), (⟨#[102, 105, 114, 115, 116, 95, 119, 97, 110, 116, 101, 100]⟩ : PySem.Str), (⟨#[110, 117, 109, 98, 101, 114, 115, 95, 111, 102]⟩ : PySem.Str), (⟨#[99, 111, 110, 116, 101, 110, 116, 115, 95, 105, 110]⟩ : PySem.Str), (⟨#[110, 111, 114, 109, 101, 100]⟩ : PySem.Str), (⟨#[102, 105, 114, 115, 116, 95, 111, 102]⟩ : PySem.Str), (⟨#[110, 101, 120, 116, 95, 115, 116, 97, 110, 100, 105, 110, 103]⟩ : PySem.Str), (⟨#[105, 115, 95, 98, 101, 116, 114, 97, 121, 101, 100]⟩ : PySem.Str), (⟨#[115, 112, 111, 116, 115, 95, 98, 101, 104, 105, 110, 100]⟩ : PySem.Str), (⟨#[114, 101, 97, 99, 104, 101, 100]⟩ : PySem.Str), (⟨#[119, 97, 121, 95, 116, 111]⟩ : PySem.Str), (⟨#[98, 101, 116, 114, 97, 121, 97, 108, 95, 105, 110]⟩ : PySem.Str), (⟨#[105, 115, 95, 117, 110, 115, 101, 101, 110]⟩ : PySem.Str), (⟨#[98, 101, 116, 114, 97, 121, 105, 110, 103, 95, 119, 97, 121]⟩ : PySem.Str), (⟨#[95, 108, 97, 119, 95, 109, 105, 120, 101, 100]⟩ : PySem.Str), (⟨#[95, 108, 97, 119, 95, 98, 101, 103, 105, 110]⟩ : PySem.Str), (⟨#[95, 108, 97, 119, 95, 100, 114, 97, 119]⟩ : PySem.Str), (⟨#[95, 108, 97, 119, 95, 108, 105, 110, 101]⟩ : PySem.Str), (⟨#[95, 108, 97, 119, 95, 111, 108, 100, 95, 114, 105, 103, 104, 116]⟩ : PySem.Str), (⟨#[95, 108, 97, 119, 95, 98, 97, 114, 115, 95, 114, 105, 103, 104, 116]⟩ : PySem.Str), (⟨#[95, 108, 97, 119, 95, 109, 101, 110, 100, 101, 100, 95, 114, 105, 103, 104, 116]⟩ : PySem.Str), (⟨#[95, 108, 97, 119, 95, 108, 111, 111, 112, 95, 114, 105, 103, 104, 116]⟩ : PySem.Str), (⟨#[108, 97, 119]⟩ : PySem.Str)], gn := [(⟨#[77, 79, 83, 84, 95, 76, 69, 84, 84, 69, 82, 83]⟩ : PySem.Str), (⟨#[76, 69, 84, 84, 69, 82, 83]⟩ : PySem.Str), (⟨#[70, 79, 82, 77, 83]⟩ : PySem.Str), (⟨#[77, 79, 83, 84, 95, 78, 69, 88, 84, 83]⟩ : PySem.Str), (⟨#[77, 79, 83, 84, 95, 78, 65, 77, 69, 83]⟩ : PySem.Str), (⟨#[77, 79, 83, 84, 95, 80, 76, 65, 67, 69, 83]⟩ : PySem.Str), (⟨#[77, 79, 83, 84, 95, 83, 73, 78, 71, 76, 69, 83]⟩ : PySem.Str), (⟨#[77, 79, 83, 84, 95, 78, 79, 68, 69, 83]⟩ : PySem.Str), (⟨#[80, 85, 84]⟩ : PySem.Str), (⟨#[78, 69, 87]⟩ : PySem.Str), (⟨#[70, 82, 69, 83, 72]⟩ : PySem.Str), (⟨#[83, 65, 77, 69]⟩ : PySem.Str), (⟨#[83, 72, 79, 87]⟩ : PySem.Str), (⟨#[80, 65, 83, 83]⟩ : PySem.Str), (⟨#[77, 79, 83, 84, 95, 83, 80, 79, 84, 83]⟩ : PySem.Str)] }
def gdat : List D := [(.int 6), (.str (⟨#[97, 98, 99, 100, 101, 102, 103, 104, 105, 106, 107, 108, 109, 110, 111, 112, 113, 114, 115, 116, 117, 118, 119, 120, 121, 122]⟩ : PySem.Str)), (.dict [((.str (⟨#[110, 101, 119]⟩ : PySem.Str)), (.tuple [(.str (⟨#[110, 97, 109, 101]⟩ : PySem.Str))])), ((.str (⟨#[115, 97, 109, 101]⟩ : PySem.Str)), (.tuple [(.str (⟨#[110, 97, 109, 101]⟩ : PySem.Str)), (.str (⟨#[110, 97, 109, 101]⟩ : PySem.Str))])), ((.str (⟨#[112, 117, 116]⟩ : PySem.Str)), (.tuple [(.str (⟨#[110, 97, 109, 101]⟩ : PySem.Str)), (.str (⟨#[110, 97, 109, 101]⟩ : PySem.Str)), (.str (⟨#[112, 108, 97, 99, 101]⟩ : PySem.Str)), (.str (⟨#[115, 105, 110, 103, 108, 101]⟩ : PySem.Str))])), ((.str (⟨#[103, 101, 116]⟩ : PySem.Str)), (.tuple [(.str (⟨#[115, 105, 110, 103, 108, 101]⟩ : PySem.Str)), (.str (⟨#[110, 97, 109, 101]⟩ : PySem.Str)), (.str (⟨#[112, 108, 97, 99, 101]⟩ : PySem.Str))])), ((.str (⟨#[102, 114, 101, 115, 104]⟩ : PySem.Str)), (.tuple [(.str (⟨#[115, 105, 110, 103, 108, 101]⟩ : PySem.Str))])), ((.str (⟨#[115, 104, 111, 119]⟩ : PySem.Str)), (.tuple [(.str (⟨#[115, 105, 110, 103, 108, 101]⟩ : PySem.Str))])), ((.str (⟨#[112, 97, 115, 115]⟩ : PySem.Str)), (.tuple []))]), (.int 3), (.int 4), (.int 3), (.int 3), (.int 14), (.str (⟨#[112, 117, 116]⟩ : PySem.Str)), (.str (⟨#[110, 101, 119]⟩ : PySem.Str)), (.str (⟨#[102, 114, 101, 115, 104]⟩ : PySem.Str)), (.str (⟨#[115, 97, 109, 101]⟩ : PySem.Str)), (.str (⟨#[115, 104, 111, 119]⟩ : PySem.Str)), (.str (⟨#[112, 97, 115, 115]⟩ : PySem.Str)), (.int 20000)]
def tb : Tb := { fns := [f_is_integer, f_is_between, f_is_word, f_is_rising, f_are_words, f_is_part, f_is_deed, f_are_nexts, f_need_program, f_puts_in, f_nexts_of, f_is_choice, f_need_choice, f_with_at, f_wanted_by, f_first_state, f_new_box, f_put_state, f_state_behind, f_first_wanted, f_numbers_of, f_contents_in, f_normed, f_first_of, f_next_standing, f_is_betrayed, f_spots_behind, f_reached, f_way_to, f_betrayal_in, f_is_unseen, f_betraying_way, f_law_mixed, f_law_begin, f_law_draw, f_law_line, f_law_old_right, f_law_bars_right, f_law_mended_right, f_law_loop_right, f_law], gd := gdat }
end Kl
end Pg
namespace Pg
namespace Kl
open PySem PySem.W PySem.Calls PyProof.Rows
abbrev R : OpenRow := OpenLaw.row PySem.Challenge.rw_putinplace_k06_programs_by_hand
abbrev qv : Program := PySem.W.view R.prog [66]
def names : List PySem.Str := ([(PySem.Str.ofString "__name__"), (PySem.Str.ofString "PlaceError"), (PySem.Str.ofString "BadProgram"), (PySem.Str.ofString "BadChoice"), (PySem.Str.ofString "TooMany"), (PySem.Str.ofString "NEW"), (PySem.Str.ofString "SAME"), (PySem.Str.ofString "PUT"), (PySem.Str.ofString "GET"), (PySem.Str.ofString "FRESH"), (PySem.Str.ofString "SHOW"), (PySem.Str.ofString "PASS"), (PySem.Str.ofString "FORMS"), (PySem.Str.ofString "LETTERS"), (PySem.Str.ofString "MOST_LETTERS"), (PySem.Str.ofString "MOST_NAMES"), (PySem.Str.ofString "MOST_SINGLES"), (PySem.Str.ofString "MOST_PLACES"), (PySem.Str.ofString "MOST_NODES"), (PySem.Str.ofString "MOST_NEXTS"), (PySem.Str.ofString "is_integer"), (PySem.Str.ofString "is_between"), (PySem.Str.ofString "is_word"), (PySem.Str.ofString "is_rising"), (PySem.Str.ofString "are_words"), (PySem.Str.ofString "is_part"), (PySem.Str.ofString "is_deed"), (PySem.Str.ofString "are_nexts"), (PySem.Str.ofString "need_program"), (PySem.Str.ofString "puts_in"), (PySem.Str.ofString "nexts_of"), (PySem.Str.ofString "is_choice"), (PySem.Str.ofString "need_choice"), (PySem.Str.ofString "with_at"), (PySem.Str.ofString "wanted_by")] : List PySem.Str) ++ ([(PySem.Str.ofString "first_state"), (PySem.Str.ofString "new_box"), (PySem.Str.ofString "put_state"), (PySem.Str.ofString "state_behind"), (PySem.Str.ofString "first_wanted"), (PySem.Str.ofString "numbers_of"), (PySem.Str.ofString "contents_in"), (PySem.Str.ofString "normed"), (PySem.Str.ofString "first_of"), (PySem.Str.ofString "next_standing"), (PySem.Str.ofString "is_betrayed"), (PySem.Str.ofString "MOST_SPOTS"), (PySem.Str.ofString "spots_behind"), (PySem.Str.ofString "reached"), (PySem.Str.ofString "way_to"), (PySem.Str.ofString "betrayal_in"), (PySem.Str.ofString "is_unseen"), (PySem.Str.ofString "betraying_way"), (PySem.Str.ofString "_law_mixed"), (PySem.Str.ofString "_law_begin"), (PySem.Str.ofString "_law_draw"), (PySem.Str.ofString "_law_line"), (PySem.Str.ofString "_law_old_right"), (PySem.Str.ofString "_law_bars_right"), (PySem.Str.ofString "_law_mended_right"), (PySem.Str.ofString "_law_loop_right")] : List PySem.Str)
def tp (i : Nat) : Stmt := PySem.Challenge.rw_putinplace_k06_programs_by_hand.prog.main.body.getD i (.Pass ⟨0, 0, 0, 0⟩)
def fnD : List He.DefD := [mkD (tp 21) (⟨#[105, 115, 95, 105, 110, 116, 101, 103, 101, 114]⟩ : PySem.Str), mkD (tp 22) (⟨#[105, 115, 95, 98, 101, 116, 119, 101, 101, 110]⟩ : PySem.Str), mkD (tp 23) (⟨#[105, 115, 95, 119, 111, 114, 100]⟩ : PySem.Str), mkD (tp 24) (⟨#[105, 115, 95, 114, 105, 115, 105, 110, 103]⟩ : PySem.Str), mkD (tp 25) (⟨#[97, 114, 101, 95, 119, 111, 114, 100, 115]⟩ : PySem.Str), mkD (tp 26) (⟨#[105, 115, 95, 112, 97, 114, 116]⟩ : PySem.Str), mkD (tp 27) (⟨#[105, 115, 95, 100, 101, 101, 100]⟩ : PySem.Str), mkD (tp 28) (⟨#[97, 114, 101, 95, 110, 101, 120, 116, 115]⟩ : PySem.Str), mkD (tp 29) (⟨#[110, 101, 101, 100, 95, 112, 114, 111, 103, 114, 97, 109]⟩ : PySem.Str), mkD (tp 30) (⟨#[112, 117, 116, 115, 95, 105, 110]⟩ : PySem.Str), mkD (tp 31) (⟨#[110, 101, 120, 116, 115, 95, 111, 102]⟩ : PySem.Str), mkD (tp 33) (⟨#[105, 115, 95, 99, 104, 111, 105, 99, 101]⟩ : PySem.Str), mkD (tp 34) (⟨#[110, 101, 101, 100, 95, 99, 104, 111, 105, 99, 101]⟩ : PySem.Str), mkD (tp 35) (⟨#[119, 105, 116, 104, 95, 97, 116]⟩ : PySem.Str), mkD (tp 36) (⟨#[119, 97, 110, 116, 101, 100, 95, 98, 121]⟩ : PySem.Str), mkD (tp 37) (⟨#[102, 105, 114, 115, 116, 95, 115, 116, 97, 116, 101]⟩ : PySem.Str), mkD (tp 38) (⟨#[110, 101, 119, 95, 98, 111, 120]⟩ : PySem.Str), mkD (tp 39) (⟨#[112, 117, 116, 95, 115, 116, 97, 116, 101]⟩ : PySem.Str), mkD (tp 40) (⟨#[115, 116, 97, 116, 101, 95, 98, 101, 104, 105, 110, 100]⟩ : PySem.Str), mkD (tp 41) (⟨#[102, 105, 114, 115, 116, 95, 119, 97, 110, 116, 101, 100]⟩ : PySem.Str), mkD (tp 43) (⟨#[110, 117, 109, 98, 101, 114, 115, 95, 111, 102]⟩ : PySem.Str), mkD (tp 44) (⟨#[99, 111, 110, 116, 101, 110, 116, 115, 95, 105, 110]⟩ : PySem.Str), mkD (tp 45) (⟨#[110, 111, 114, 109, 101, 100]⟩ : PySem.Str), mkD (tp 46) (⟨#[102, 105, 114, 115, 116, 95, 111, 102]⟩ : PySem.Str), mkD (tp 47) (⟨#[110, 101, 120, 116, 95, 115, 116, 97, 110, 100, 105, 110, 103]⟩ : PySem.Str), mkD (tp 48) (⟨#[105, 115, 95, 98, 101, 116, 114, 97, 121, 101, 100]⟩ : PySem.Str), mkD (tp 51) (⟨#[115, 112, 111, 116, 115, 95, 98, 101, 104, 105, 110, 100]⟩ : PySem.Str), mkD (tp 52) (⟨#[114, 101, 97, 99, 104, 101, 100]⟩ : PySem.Str), mkD (tp 53) (⟨#[119, 97, 121, 95, 116, 111]⟩ : PySem.Str), mkD (tp 54) (⟨#[98, 101, 116, 114, 97, 121, 97, 108, 95, 105, 110]⟩ : PySem.Str), mkD (tp 55) (⟨#[105, 115, 95, 117, 110, 115, 101, 101, 110]⟩ : PySem.Str), mkD (tp 56) (⟨#[98, 101, 116, 114, 97, 121, 105, 110, 103, 95, 119, 97, 121]⟩ : PySem.Str), mkD (tp 58) (⟨#[95, 108, 97, 119, 95, 109, 105, 120, 101, 100]⟩ : PySem.Str), mkD (tp 59) (⟨#[95, 108, 97, 119, 95, 98, 101, 103, 105, 110]⟩ : PySem.Str), mkD (tp 60) (⟨#[95, 108, 97, 119, 95, 100, 114, 97, 119]⟩ : PySem.Str), mkD (tp 61) (⟨#[95, 108, 97, 119, 95, 108, 105, 110, 101]⟩ : PySem.Str), mkD (tp 62) (⟨#[95, 108, 97, 119, 95, 111, 108, 100, 95, 114, 105, 103, 104, 116]⟩ : PySem.Str), mkD (tp 63) (⟨#[95, 108, 97, 119, 95, 98, 97, 114, 115, 95, 114, 105, 103, 104, 116]⟩ : PySem.Str), mkD (tp 64) (⟨#[95, 108, 97, 119, 95, 109, 101, 110, 100, 101, 100, 95, 114, 105, 103, 104, 116]⟩ : PySem.Str), mkD (tp 65) (⟨#[95, 108, 97, 119, 95, 108, 111, 111, 112, 95, 114, 105, 103, 104, 116]⟩ : PySem.Str), mkD (tp 66) (⟨#[108, 97, 119]⟩ : PySem.Str)]
abbrev fa : List He.Fa := faOf nm.fs
abbrev hk : PySem.W.Hook := hookP 4 fa fnD nm.gn gdat
def ob (s : PySem.W.SharedT) : AlP := obsPG 4 fa fnD nm.gn (HandSHeadRun.getT s)
theorem ob_eq (s : PySem.W.SharedT) : ob s = hk.obs s.abs := obsPG_eq (HandSHeadRun.getT_eq s)
theorem run (w : World) : HandSHeadRun.RunEq R qv hk ob 4000 names w :=
  byRow2 "special-get-raises" (P := fun w => HandSHeadRun.RunEq R qv hk ob 4000 names w) (fun w os => by kernel_rfl) (fun w os => by kernel_rfl) w
end Kl
end Pg

namespace Pg
namespace Kl
open PySem L2
section
variable {w : World} {K : PySem.W.Frag} {h : Heap} {mg : Str → Option Value}
theorem dk_0 (c : SaysP (faOf nm.fs) fnD nm.gn gdat w K) (X : K.In h) (G : h.Ns mainGlobals mg) : DefOk K mg nm 0 f_is_integer :=
  defOk_of (ps := [(⟨#[116, 104, 105, 110, 103]⟩ : PySem.Str)]) (st := tp 21) (x := (⟨#[105, 115, 95, 105, 110, 116, 101, 103, 101, 114]⟩ : PySem.Str)) c X G 0 rfl rfl (List.mem_of_getElem? (i := 0) rfl) (fun _ _ _ _ _ _ us hl => match us, hl with | [_], _ => rfl) ⟨rfl, rfl, rfl, by decide +kernel, rfl, by decide +kernel, by decide +kernel⟩ rfl (by decide +kernel)
theorem dk_1 (c : SaysP (faOf nm.fs) fnD nm.gn gdat w K) (X : K.In h) (G : h.Ns mainGlobals mg) : DefOk K mg nm 1 f_is_between :=
  defOk_of (ps := [(⟨#[116, 104, 105, 110, 103]⟩ : PySem.Str), (⟨#[108, 101, 97, 115, 116]⟩ : PySem.Str), (⟨#[109, 111, 115, 116]⟩ : PySem.Str)]) (st := tp 22) (x := (⟨#[105, 115, 95, 98, 101, 116, 119, 101, 101, 110]⟩ : PySem.Str)) c X G 1 rfl rfl (List.mem_of_getElem? (i := 1) rfl) (fun _ _ _ _ _ _ us hl => match us, hl with | [_, _, _], _ => rfl) ⟨rfl, rfl, rfl, by decide +kernel, rfl, by decide +kernel, by decide +kernel⟩ rfl (by decide +kernel)
theorem dk_2 (c : SaysP (faOf nm.fs) fnD nm.gn gdat w K) (X : K.In h) (G : h.Ns mainGlobals mg) : DefOk K mg nm 2 f_is_word :=
  defOk_of (ps := [(⟨#[116, 104, 105, 110, 103]⟩ : PySem.Str)]) (st := tp 23) (x := (⟨#[105, 115, 95, 119, 111, 114, 100]⟩ : PySem.Str)) c X G 2 rfl rfl (List.mem_of_getElem? (i := 2) rfl) (fun _ _ _ _ _ _ us hl => match us, hl with | [_], _ => rfl) ⟨rfl, rfl, rfl, by decide +kernel, rfl, by decide +kernel, by decide +kernel⟩ rfl (by decide +kernel)
theorem dk_3 (c : SaysP (faOf nm.fs) fnD nm.gn gdat w K) (X : K.In h) (G : h.Ns mainGlobals mg) : DefOk K mg nm 3 f_is_rising :=
  defOk_of (ps := [(⟨#[115, 111, 109, 101]⟩ : PySem.Str)]) (st := tp 24) (x := (⟨#[105, 115, 95, 114, 105, 115, 105, 110, 103]⟩ : PySem.Str)) c X G 3 rfl rfl (List.mem_of_getElem? (i := 3) rfl) (fun _ _ _ _ _ _ us hl => match us, hl with | [_], _ => rfl) ⟨rfl, rfl, rfl, by decide +kernel, rfl, by decide +kernel, by decide +kernel⟩ rfl (by decide +kernel)
theorem dk_4 (c : SaysP (faOf nm.fs) fnD nm.gn gdat w K) (X : K.In h) (G : h.Ns mainGlobals mg) : DefOk K mg nm 4 f_are_words :=
  defOk_of (ps := [(⟨#[116, 104, 105, 110, 103]⟩ : PySem.Str), (⟨#[109, 111, 115, 116]⟩ : PySem.Str)]) (st := tp 25) (x := (⟨#[97, 114, 101, 95, 119, 111, 114, 100, 115]⟩ : PySem.Str)) c X G 4 rfl rfl (List.mem_of_getElem? (i := 4) rfl) (fun _ _ _ _ _ _ us hl => match us, hl with | [_, _], _ => rfl) ⟨rfl, rfl, rfl, by decide +kernel, rfl, by decide +kernel, by decide +kernel⟩ rfl (by decide +kernel)
theorem dk_5 (c : SaysP (faOf nm.fs) fnD nm.gn gdat w K) (X : K.In h) (G : h.Ns mainGlobals mg) : DefOk K mg nm 5 f_is_part :=
  defOk_of (ps := [(⟨#[110, 97, 109, 101, 115]⟩ : PySem.Str), (⟨#[115, 105, 110, 103, 108, 101, 115]⟩ : PySem.Str), (⟨#[112, 108, 97, 99, 101, 115]⟩ : PySem.Str), (⟨#[107, 105, 110, 100]⟩ : PySem.Str), (⟨#[116, 104, 105, 110, 103]⟩ : PySem.Str)]) (st := tp 26) (x := (⟨#[105, 115, 95, 112, 97, 114, 116]⟩ : PySem.Str)) c X G 5 rfl rfl (List.mem_of_getElem? (i := 5) rfl) (fun _ _ _ _ _ _ us hl => match us, hl with | [_, _, _, _, _], _ => rfl) ⟨rfl, rfl, rfl, by decide +kernel, rfl, by decide +kernel, by decide +kernel⟩ rfl (by decide +kernel)
theorem dk_6 (c : SaysP (faOf nm.fs) fnD nm.gn gdat w K) (X : K.In h) (G : h.Ns mainGlobals mg) : DefOk K mg nm 6 f_is_deed :=
  defOk_of (ps := [(⟨#[110, 97, 109, 101, 115]⟩ : PySem.Str), (⟨#[115, 105, 110, 103, 108, 101, 115]⟩ : PySem.Str), (⟨#[112, 108, 97, 99, 101, 115]⟩ : PySem.Str), (⟨#[116, 104, 105, 110, 103]⟩ : PySem.Str)]) (st := tp 27) (x := (⟨#[105, 115, 95, 100, 101, 101, 100]⟩ : PySem.Str)) c X G 6 rfl rfl (List.mem_of_getElem? (i := 6) rfl) (fun _ _ _ _ _ _ us hl => match us, hl with | [_, _, _, _], _ => rfl) ⟨rfl, rfl, rfl, by decide +kernel, rfl, by decide +kernel, by decide +kernel⟩ rfl (by decide +kernel)
theorem dk_7 (c : SaysP (faOf nm.fs) fnD nm.gn gdat w K) (X : K.In h) (G : h.Ns mainGlobals mg) : DefOk K mg nm 7 f_are_nexts :=
  defOk_of (ps := [(⟨#[109, 97, 110, 121]⟩ : PySem.Str), (⟨#[116, 104, 105, 110, 103]⟩ : PySem.Str)]) (st := tp 28) (x := (⟨#[97, 114, 101, 95, 110, 101, 120, 116, 115]⟩ : PySem.Str)) c X G 7 rfl rfl (List.mem_of_getElem? (i := 7) rfl) (fun _ _ _ _ _ _ us hl => match us, hl with | [_, _], _ => rfl) ⟨rfl, rfl, rfl, by decide +kernel, rfl, by decide +kernel, by decide +kernel⟩ rfl (by decide +kernel)
theorem dk_8 (c : SaysP (faOf nm.fs) fnD nm.gn gdat w K) (X : K.In h) (G : h.Ns mainGlobals mg) : DefOk K mg nm 8 f_need_program :=
  defOk_of (ps := [(⟨#[116, 104, 105, 110, 103]⟩ : PySem.Str)]) (st := tp 29) (x := (⟨#[110, 101, 101, 100, 95, 112, 114, 111, 103, 114, 97, 109]⟩ : PySem.Str)) c X G 8 rfl rfl (List.mem_of_getElem? (i := 8) rfl) (fun _ _ _ _ _ _ us hl => match us, hl with | [_], _ => rfl) ⟨rfl, rfl, rfl, by decide +kernel, rfl, by decide +kernel, by decide +kernel⟩ rfl (by decide +kernel)
theorem dk_9 (c : SaysP (faOf nm.fs) fnD nm.gn gdat w K) (X : K.In h) (G : h.Ns mainGlobals mg) : DefOk K mg nm 9 f_puts_in :=
  defOk_of (ps := [(⟨#[112, 114, 111, 103, 114, 97, 109]⟩ : PySem.Str)]) (st := tp 30) (x := (⟨#[112, 117, 116, 115, 95, 105, 110]⟩ : PySem.Str)) c X G 9 rfl rfl (List.mem_of_getElem? (i := 9) rfl) (fun _ _ _ _ _ _ us hl => match us, hl with | [_], _ => rfl) ⟨rfl, rfl, rfl, by decide +kernel, rfl, by decide +kernel, by decide +kernel⟩ rfl (by decide +kernel)
theorem dk_10 (c : SaysP (faOf nm.fs) fnD nm.gn gdat w K) (X : K.In h) (G : h.Ns mainGlobals mg) : DefOk K mg nm 10 f_nexts_of :=
  defOk_of (ps := [(⟨#[112, 114, 111, 103, 114, 97, 109]⟩ : PySem.Str), (⟨#[110, 111, 100, 101]⟩ : PySem.Str)]) (st := tp 31) (x := (⟨#[110, 101, 120, 116, 115, 95, 111, 102]⟩ : PySem.Str)) c X G 10 rfl rfl (List.mem_of_getElem? (i := 10) rfl) (fun _ _ _ _ _ _ us hl => match us, hl with | [_, _], _ => rfl) ⟨rfl, rfl, rfl, by decide +kernel, rfl, by decide +kernel, by decide +kernel⟩ rfl (by decide +kernel)
theorem dk_11 (c : SaysP (faOf nm.fs) fnD nm.gn gdat w K) (X : K.In h) (G : h.Ns mainGlobals mg) : DefOk K mg nm 11 f_is_choice :=
  defOk_of (ps := [(⟨#[112, 114, 111, 103, 114, 97, 109]⟩ : PySem.Str), (⟨#[116, 104, 105, 110, 103]⟩ : PySem.Str)]) (st := tp 33) (x := (⟨#[105, 115, 95, 99, 104, 111, 105, 99, 101]⟩ : PySem.Str)) c X G 11 rfl rfl (List.mem_of_getElem? (i := 11) rfl) (fun _ _ _ _ _ _ us hl => match us, hl with | [_, _], _ => rfl) ⟨rfl, rfl, rfl, by decide +kernel, rfl, by decide +kernel, by decide +kernel⟩ rfl (by decide +kernel)
theorem dk_12 (c : SaysP (faOf nm.fs) fnD nm.gn gdat w K) (X : K.In h) (G : h.Ns mainGlobals mg) : DefOk K mg nm 12 f_need_choice :=
  defOk_of (ps := [(⟨#[112, 114, 111, 103, 114, 97, 109]⟩ : PySem.Str), (⟨#[99, 104, 111, 105, 99, 101]⟩ : PySem.Str)]) (st := tp 34) (x := (⟨#[110, 101, 101, 100, 95, 99, 104, 111, 105, 99, 101]⟩ : PySem.Str)) c X G 12 rfl rfl (List.mem_of_getElem? (i := 12) rfl) (fun _ _ _ _ _ _ us hl => match us, hl with | [_, _], _ => rfl) ⟨rfl, rfl, rfl, by decide +kernel, rfl, by decide +kernel, by decide +kernel⟩ rfl (by decide +kernel)
theorem dk_13 (c : SaysP (faOf nm.fs) fnD nm.gn gdat w K) (X : K.In h) (G : h.Ns mainGlobals mg) : DefOk K mg nm 13 f_with_at :=
  defOk_of (ps := [(⟨#[114, 111, 119]⟩ : PySem.Str), (⟨#[115, 112, 111, 116]⟩ : PySem.Str), (⟨#[116, 104, 105, 110, 103]⟩ : PySem.Str)]) (st := tp 35) (x := (⟨#[119, 105, 116, 104, 95, 97, 116]⟩ : PySem.Str)) c X G 13 rfl rfl (List.mem_of_getElem? (i := 13) rfl) (fun _ _ _ _ _ _ us hl => match us, hl with | [_, _, _], _ => rfl) ⟨rfl, rfl, rfl, by decide +kernel, rfl, by decide +kernel, by decide +kernel⟩ rfl (by decide +kernel)
theorem dk_14 (c : SaysP (faOf nm.fs) fnD nm.gn gdat w K) (X : K.In h) (G : h.Ns mainGlobals mg) : DefOk K mg nm 14 f_wanted_by :=
  defOk_of (ps := [(⟨#[112, 114, 111, 103, 114, 97, 109]⟩ : PySem.Str), (⟨#[100, 101, 101, 100]⟩ : PySem.Str)]) (st := tp 36) (x := (⟨#[119, 97, 110, 116, 101, 100, 95, 98, 121]⟩ : PySem.Str)) c X G 14 rfl rfl (List.mem_of_getElem? (i := 14) rfl) (fun _ _ _ _ _ _ us hl => match us, hl with | [_, _], _ => rfl) ⟨rfl, rfl, rfl, by decide +kernel, rfl, by decide +kernel, by decide +kernel⟩ rfl (by decide +kernel)
theorem dk_15 (c : SaysP (faOf nm.fs) fnD nm.gn gdat w K) (X : K.In h) (G : h.Ns mainGlobals mg) : DefOk K mg nm 15 f_first_state :=
  defOk_of (ps := [(⟨#[112, 114, 111, 103, 114, 97, 109]⟩ : PySem.Str), (⟨#[99, 111, 110, 116, 101, 110, 116, 115]⟩ : PySem.Str)]) (st := tp 37) (x := (⟨#[102, 105, 114, 115, 116, 95, 115, 116, 97, 116, 101]⟩ : PySem.Str)) c X G 15 rfl rfl (List.mem_of_getElem? (i := 15) rfl) (fun _ _ _ _ _ _ us hl => match us, hl with | [_, _], _ => rfl) ⟨rfl, rfl, rfl, by decide +kernel, rfl, by decide +kernel, by decide +kernel⟩ rfl (by decide +kernel)
theorem dk_16 (c : SaysP (faOf nm.fs) fnD nm.gn gdat w K) (X : K.In h) (G : h.Ns mainGlobals mg) : DefOk K mg nm 16 f_new_box :=
  defOk_of (ps := [(⟨#[115, 116, 97, 116, 101]⟩ : PySem.Str), (⟨#[115, 112, 111, 116]⟩ : PySem.Str), (⟨#[114, 111, 119]⟩ : PySem.Str), (⟨#[109, 101, 97, 110, 115]⟩ : PySem.Str)]) (st := tp 38) (x := (⟨#[110, 101, 119, 95, 98, 111, 120]⟩ : PySem.Str)) c X G 16 rfl rfl (List.mem_of_getElem? (i := 16) rfl) (fun _ _ _ _ _ _ us hl => match us, hl with | [_, _, _, _], _ => rfl) ⟨rfl, rfl, rfl, by decide +kernel, rfl, by decide +kernel, by decide +kernel⟩ rfl (by decide +kernel)
theorem dk_17 (c : SaysP (faOf nm.fs) fnD nm.gn gdat w K) (X : K.In h) (G : h.Ns mainGlobals mg) : DefOk K mg nm 17 f_put_state :=
  defOk_of (ps := [(⟨#[115, 116, 97, 116, 101]⟩ : PySem.Str), (⟨#[100, 101, 101, 100]⟩ : PySem.Str), (⟨#[115, 112, 111, 116, 115]⟩ : PySem.Str), (⟨#[105, 115, 95, 105, 110, 95, 112, 108, 97, 99, 101]⟩ : PySem.Str)]) (st := tp 39) (x := (⟨#[112, 117, 116, 95, 115, 116, 97, 116, 101]⟩ : PySem.Str)) c X G 17 rfl rfl (List.mem_of_getElem? (i := 17) rfl) (fun _ _ _ _ _ _ us hl => match us, hl with | [_, _, _, _], _ => rfl) ⟨rfl, rfl, rfl, by decide +kernel, rfl, by decide +kernel, by decide +kernel⟩ rfl (by decide +kernel)
theorem dk_18 (c : SaysP (faOf nm.fs) fnD nm.gn gdat w K) (X : K.In h) (G : h.Ns mainGlobals mg) : DefOk K mg nm 18 f_state_behind :=
  defOk_of (ps := [(⟨#[112, 114, 111, 103, 114, 97, 109]⟩ : PySem.Str), (⟨#[115, 116, 97, 116, 101]⟩ : PySem.Str), (⟨#[100, 101, 101, 100]⟩ : PySem.Str), (⟨#[105, 115, 95, 105, 110, 95, 112, 108, 97, 99, 101]⟩ : PySem.Str), (⟨#[102, 114, 101, 115, 104]⟩ : PySem.Str)]) (st := tp 40) (x := (⟨#[115, 116, 97, 116, 101, 95, 98, 101, 104, 105, 110, 100]⟩ : PySem.Str)) c X G 18 rfl rfl (List.mem_of_getElem? (i := 18) rfl) (fun _ _ _ _ _ _ us hl => match us, hl with | [_, _, _, _, _], _ => rfl) ⟨rfl, rfl, rfl, by decide +kernel, rfl, by decide +kernel, by decide +kernel⟩ rfl (by decide +kernel)
theorem dk_19 (c : SaysP (faOf nm.fs) fnD nm.gn gdat w K) (X : K.In h) (G : h.Ns mainGlobals mg) : DefOk K mg nm 19 f_first_wanted :=
  defOk_of (ps := [(⟨#[112, 114, 111, 103, 114, 97, 109]⟩ : PySem.Str)]) (st := tp 41) (x := (⟨#[102, 105, 114, 115, 116, 95, 119, 97, 110, 116, 101, 100]⟩ : PySem.Str)) c X G 19 rfl rfl (List.mem_of_getElem? (i := 19) rfl) (fun _ _ _ _ _ _ us hl => match us, hl with | [_], _ => rfl) ⟨rfl, rfl, rfl, by decide +kernel, rfl, by decide +kernel, by decide +kernel⟩ rfl (by decide +kernel)
theorem dk_20 (c : SaysP (faOf nm.fs) fnD nm.gn gdat w K) (X : K.In h) (G : h.Ns mainGlobals mg) : DefOk K mg nm 20 f_numbers_of :=
  defOk_of (ps := [(⟨#[116, 104, 105, 110, 103, 115]⟩ : PySem.Str)]) (st := tp 43) (x := (⟨#[110, 117, 109, 98, 101, 114, 115, 95, 111, 102]⟩ : PySem.Str)) c X G 20 rfl rfl (List.mem_of_getElem? (i := 20) rfl) (fun _ _ _ _ _ _ us hl => match us, hl with | [_], _ => rfl) ⟨rfl, rfl, rfl, by decide +kernel, rfl, by decide +kernel, by decide +kernel⟩ rfl (by decide +kernel)
theorem dk_21 (c : SaysP (faOf nm.fs) fnD nm.gn gdat w K) (X : K.In h) (G : h.Ns mainGlobals mg) : DefOk K mg nm 21 f_contents_in :=
  defOk_of (ps := [(⟨#[115, 116, 97, 116, 101]⟩ : PySem.Str)]) (st := tp 44) (x := (⟨#[99, 111, 110, 116, 101, 110, 116, 115, 95, 105, 110]⟩ : PySem.Str)) c X G 21 rfl rfl (List.mem_of_getElem? (i := 21) rfl) (fun _ _ _ _ _ _ us hl => match us, hl with | [_], _ => rfl) ⟨rfl, rfl, rfl, by decide +kernel, rfl, by decide +kernel, by decide +kernel⟩ rfl (by decide +kernel)
theorem dk_22 (c : SaysP (faOf nm.fs) fnD nm.gn gdat w K) (X : K.In h) (G : h.Ns mainGlobals mg) : DefOk K mg nm 22 f_normed :=
  defOk_of (ps := [(⟨#[115, 116, 97, 116, 101]⟩ : PySem.Str)]) (st := tp 45) (x := (⟨#[110, 111, 114, 109, 101, 100]⟩ : PySem.Str)) c X G 22 rfl rfl (List.mem_of_getElem? (i := 22) rfl) (fun _ _ _ _ _ _ us hl => match us, hl with | [_], _ => rfl) ⟨rfl, rfl, rfl, by decide +kernel, rfl, by decide +kernel, by decide +kernel⟩ rfl (by decide +kernel)
theorem dk_23 (c : SaysP (faOf nm.fs) fnD nm.gn gdat w K) (X : K.In h) (G : h.Ns mainGlobals mg) : DefOk K mg nm 23 f_first_of :=
  defOk_of (ps := [(⟨#[112, 114, 111, 103, 114, 97, 109]⟩ : PySem.Str)]) (st := tp 46) (x := (⟨#[102, 105, 114, 115, 116, 95, 111, 102]⟩ : PySem.Str)) c X G 23 rfl rfl (List.mem_of_getElem? (i := 23) rfl) (fun _ _ _ _ _ _ us hl => match us, hl with | [_], _ => rfl) ⟨rfl, rfl, rfl, by decide +kernel, rfl, by decide +kernel, by decide +kernel⟩ rfl (by decide +kernel)
theorem dk_24 (c : SaysP (faOf nm.fs) fnD nm.gn gdat w K) (X : K.In h) (G : h.Ns mainGlobals mg) : DefOk K mg nm 24 f_next_standing :=
  defOk_of (ps := [(⟨#[112, 114, 111, 103, 114, 97, 109]⟩ : PySem.Str), (⟨#[99, 104, 111, 105, 99, 101]⟩ : PySem.Str), (⟨#[115, 116, 97, 110, 100, 105, 110, 103]⟩ : PySem.Str), (⟨#[110, 111, 100, 101]⟩ : PySem.Str)]) (st := tp 47) (x := (⟨#[110, 101, 120, 116, 95, 115, 116, 97, 110, 100, 105, 110, 103]⟩ : PySem.Str)) c X G 24 rfl rfl (List.mem_of_getElem? (i := 24) rfl) (fun _ _ _ _ _ _ us hl => match us, hl with | [_, _, _, _], _ => rfl) ⟨rfl, rfl, rfl, by decide +kernel, rfl, by decide +kernel, by decide +kernel⟩ rfl (by decide +kernel)
theorem dk_25 (c : SaysP (faOf nm.fs) fnD nm.gn gdat w K) (X : K.In h) (G : h.Ns mainGlobals mg) : DefOk K mg nm 25 f_is_betrayed :=
  defOk_of (ps := [(⟨#[112, 114, 111, 103, 114, 97, 109]⟩ : PySem.Str), (⟨#[115, 116, 97, 110, 100, 105, 110, 103]⟩ : PySem.Str), (⟨#[110, 111, 100, 101]⟩ : PySem.Str)]) (st := tp 48) (x := (⟨#[105, 115, 95, 98, 101, 116, 114, 97, 121, 101, 100]⟩ : PySem.Str)) c X G 25 rfl rfl (List.mem_of_getElem? (i := 25) rfl) (fun _ _ _ _ _ _ us hl => match us, hl with | [_, _, _], _ => rfl) ⟨rfl, rfl, rfl, by decide +kernel, rfl, by decide +kernel, by decide +kernel⟩ rfl (by decide +kernel)
theorem dk_26 (c : SaysP (faOf nm.fs) fnD nm.gn gdat w K) (X : K.In h) (G : h.Ns mainGlobals mg) : DefOk K mg nm 26 f_spots_behind :=
  defOk_of (ps := [(⟨#[112, 114, 111, 103, 114, 97, 109]⟩ : PySem.Str), (⟨#[99, 104, 111, 105, 99, 101]⟩ : PySem.Str), (⟨#[115, 112, 111, 116]⟩ : PySem.Str)]) (st := tp 51) (x := (⟨#[115, 112, 111, 116, 115, 95, 98, 101, 104, 105, 110, 100]⟩ : PySem.Str)) c X G 26 rfl rfl (List.mem_of_getElem? (i := 26) rfl) (fun _ _ _ _ _ _ us hl => match us, hl with | [_, _, _], _ => rfl) ⟨rfl, rfl, rfl, by decide +kernel, rfl, by decide +kernel, by decide +kernel⟩ rfl (by decide +kernel)
theorem dk_27 (c : SaysP (faOf nm.fs) fnD nm.gn gdat w K) (X : K.In h) (G : h.Ns mainGlobals mg) : DefOk K mg nm 27 f_reached :=
  defOk_of (ps := [(⟨#[112, 114, 111, 103, 114, 97, 109]⟩ : PySem.Str), (⟨#[99, 104, 111, 105, 99, 101]⟩ : PySem.Str)]) (st := tp 52) (x := (⟨#[114, 101, 97, 99, 104, 101, 100]⟩ : PySem.Str)) c X G 27 rfl rfl (List.mem_of_getElem? (i := 27) rfl) (fun _ _ _ _ _ _ us hl => match us, hl with | [_, _], _ => rfl) ⟨rfl, rfl, rfl, by decide +kernel, rfl, by decide +kernel, by decide +kernel⟩ rfl (by decide +kernel)
theorem dk_28 (c : SaysP (faOf nm.fs) fnD nm.gn gdat w K) (X : K.In h) (G : h.Ns mainGlobals mg) : DefOk K mg nm 28 f_way_to :=
  defOk_of (ps := [(⟨#[102, 111, 117, 110, 100]⟩ : PySem.Str), (⟨#[115, 112, 111, 116]⟩ : PySem.Str)]) (st := tp 53) (x := (⟨#[119, 97, 121, 95, 116, 111]⟩ : PySem.Str)) c X G 28 rfl rfl (List.mem_of_getElem? (i := 28) rfl) (fun _ _ _ _ _ _ us hl => match us, hl with | [_, _], _ => rfl) ⟨rfl, rfl, rfl, by decide +kernel, rfl, by decide +kernel, by decide +kernel⟩ rfl (by decide +kernel)
theorem dk_29 (c : SaysP (faOf nm.fs) fnD nm.gn gdat w K) (X : K.In h) (G : h.Ns mainGlobals mg) : DefOk K mg nm 29 f_betrayal_in :=
  defOk_of (ps := [(⟨#[112, 114, 111, 103, 114, 97, 109]⟩ : PySem.Str), (⟨#[99, 104, 111, 105, 99, 101]⟩ : PySem.Str)]) (st := tp 54) (x := (⟨#[98, 101, 116, 114, 97, 121, 97, 108, 95, 105, 110]⟩ : PySem.Str)) c X G 29 rfl rfl (List.mem_of_getElem? (i := 29) rfl) (fun _ _ _ _ _ _ us hl => match us, hl with | [_, _], _ => rfl) ⟨rfl, rfl, rfl, by decide +kernel, rfl, by decide +kernel, by decide +kernel⟩ rfl (by decide +kernel)
theorem dk_30 (c : SaysP (faOf nm.fs) fnD nm.gn gdat w K) (X : K.In h) (G : h.Ns mainGlobals mg) : DefOk K mg nm 30 f_is_unseen :=
  defOk_of (ps := [(⟨#[112, 114, 111, 103, 114, 97, 109]⟩ : PySem.Str), (⟨#[99, 104, 111, 105, 99, 101]⟩ : PySem.Str)]) (st := tp 55) (x := (⟨#[105, 115, 95, 117, 110, 115, 101, 101, 110]⟩ : PySem.Str)) c X G 30 rfl rfl (List.mem_of_getElem? (i := 30) rfl) (fun _ _ _ _ _ _ us hl => match us, hl with | [_, _], _ => rfl) ⟨rfl, rfl, rfl, by decide +kernel, rfl, by decide +kernel, by decide +kernel⟩ rfl (by decide +kernel)
theorem dk_31 (c : SaysP (faOf nm.fs) fnD nm.gn gdat w K) (X : K.In h) (G : h.Ns mainGlobals mg) : DefOk K mg nm 31 f_betraying_way :=
  defOk_of (ps := [(⟨#[112, 114, 111, 103, 114, 97, 109]⟩ : PySem.Str), (⟨#[99, 104, 111, 105, 99, 101]⟩ : PySem.Str)]) (st := tp 56) (x := (⟨#[98, 101, 116, 114, 97, 121, 105, 110, 103, 95, 119, 97, 121]⟩ : PySem.Str)) c X G 31 rfl rfl (List.mem_of_getElem? (i := 31) rfl) (fun _ _ _ _ _ _ us hl => match us, hl with | [_, _], _ => rfl) ⟨rfl, rfl, rfl, by decide +kernel, rfl, by decide +kernel, by decide +kernel⟩ rfl (by decide +kernel)
theorem dk_32 (c : SaysP (faOf nm.fs) fnD nm.gn gdat w K) (X : K.In h) (G : h.Ns mainGlobals mg) : DefOk K mg nm 32 f_law_mixed :=
  defOk_of (ps := [(⟨#[95, 108, 97, 119, 95, 99, 101, 108, 108]⟩ : PySem.Str), (⟨#[95, 108, 97, 119, 95, 107]⟩ : PySem.Str)]) (st := tp 58) (x := (⟨#[95, 108, 97, 119, 95, 109, 105, 120, 101, 100]⟩ : PySem.Str)) c X G 32 rfl rfl (List.mem_of_getElem? (i := 32) rfl) (fun _ _ _ _ _ _ us hl => match us, hl with | [_, _], _ => rfl) ⟨rfl, rfl, rfl, by decide +kernel, rfl, by decide +kernel, by decide +kernel⟩ rfl (by decide +kernel)
theorem dk_33 (c : SaysP (faOf nm.fs) fnD nm.gn gdat w K) (X : K.In h) (G : h.Ns mainGlobals mg) : DefOk K mg nm 33 f_law_begin :=
  defOk_of (ps := [(⟨#[95, 108, 97, 119, 95, 115, 99, 114, 105, 112, 116]⟩ : PySem.Str)]) (st := tp 59) (x := (⟨#[95, 108, 97, 119, 95, 98, 101, 103, 105, 110]⟩ : PySem.Str)) c X G 33 rfl rfl (List.mem_of_getElem? (i := 33) rfl) (fun _ _ _ _ _ _ us hl => match us, hl with | [_], _ => rfl) ⟨rfl, rfl, rfl, by decide +kernel, rfl, by decide +kernel, by decide +kernel⟩ rfl (by decide +kernel)
theorem dk_34 (c : SaysP (faOf nm.fs) fnD nm.gn gdat w K) (X : K.In h) (G : h.Ns mainGlobals mg) : DefOk K mg nm 34 f_law_draw :=
  defOk_of (ps := [(⟨#[95, 108, 97, 119, 95, 115, 116, 97, 116, 101]⟩ : PySem.Str), (⟨#[95, 108, 97, 119, 95, 109, 97, 110, 121]⟩ : PySem.Str)]) (st := tp 60) (x := (⟨#[95, 108, 97, 119, 95, 100, 114, 97, 119]⟩ : PySem.Str)) c X G 34 rfl rfl (List.mem_of_getElem? (i := 34) rfl) (fun _ _ _ _ _ _ us hl => match us, hl with | [_, _], _ => rfl) ⟨rfl, rfl, rfl, by decide +kernel, rfl, by decide +kernel, by decide +kernel⟩ rfl (by decide +kernel)
theorem dk_35 (c : SaysP (faOf nm.fs) fnD nm.gn gdat w K) (X : K.In h) (G : h.Ns mainGlobals mg) : DefOk K mg nm 35 f_law_line :=
  defOk_of (ps := [(⟨#[95, 108, 97, 119, 95, 100, 101, 101, 100, 115]⟩ : PySem.Str), (⟨#[95, 108, 97, 119, 95, 109, 111, 114, 101]⟩ : PySem.Str)]) (st := tp 61) (x := (⟨#[95, 108, 97, 119, 95, 108, 105, 110, 101]⟩ : PySem.Str)) c X G 35 rfl rfl (List.mem_of_getElem? (i := 35) rfl) (fun _ _ _ _ _ _ us hl => match us, hl with | [_, _], _ => rfl) ⟨rfl, rfl, rfl, by decide +kernel, rfl, by decide +kernel, by decide +kernel⟩ rfl (by decide +kernel)
theorem dk_36 (c : SaysP (faOf nm.fs) fnD nm.gn gdat w K) (X : K.In h) (G : h.Ns mainGlobals mg) : DefOk K mg nm 36 f_law_old_right :=
  defOk_of (ps := [(⟨#[95, 108, 97, 119, 95, 109, 111, 114, 101]⟩ : PySem.Str)]) (st := tp 62) (x := (⟨#[95, 108, 97, 119, 95, 111, 108, 100, 95, 114, 105, 103, 104, 116]⟩ : PySem.Str)) c X G 36 rfl rfl (List.mem_of_getElem? (i := 36) rfl) (fun _ _ _ _ _ _ us hl => match us, hl with | [_], _ => rfl) ⟨rfl, rfl, rfl, by decide +kernel, rfl, by decide +kernel, by decide +kernel⟩ rfl (by decide +kernel)
theorem dk_37 (c : SaysP (faOf nm.fs) fnD nm.gn gdat w K) (X : K.In h) (G : h.Ns mainGlobals mg) : DefOk K mg nm 37 f_law_bars_right :=
  defOk_of (ps := [(⟨#[95, 108, 97, 119, 95, 109, 111, 114, 101]⟩ : PySem.Str)]) (st := tp 63) (x := (⟨#[95, 108, 97, 119, 95, 98, 97, 114, 115, 95, 114, 105, 103, 104, 116]⟩ : PySem.Str)) c X G 37 rfl rfl (List.mem_of_getElem? (i := 37) rfl) (fun _ _ _ _ _ _ us hl => match us, hl with | [_], _ => rfl) ⟨rfl, rfl, rfl, by decide +kernel, rfl, by decide +kernel, by decide +kernel⟩ rfl (by decide +kernel)
theorem dk_38 (c : SaysP (faOf nm.fs) fnD nm.gn gdat w K) (X : K.In h) (G : h.Ns mainGlobals mg) : DefOk K mg nm 38 f_law_mended_right :=
  defOk_of (ps := [(⟨#[95, 108, 97, 119, 95, 109, 111, 114, 101]⟩ : PySem.Str)]) (st := tp 64) (x := (⟨#[95, 108, 97, 119, 95, 109, 101, 110, 100, 101, 100, 95, 114, 105, 103, 104, 116]⟩ : PySem.Str)) c X G 38 rfl rfl (List.mem_of_getElem? (i := 38) rfl) (fun _ _ _ _ _ _ us hl => match us, hl with | [_], _ => rfl) ⟨rfl, rfl, rfl, by decide +kernel, rfl, by decide +kernel, by decide +kernel⟩ rfl (by decide +kernel)
theorem dk_39 (c : SaysP (faOf nm.fs) fnD nm.gn gdat w K) (X : K.In h) (G : h.Ns mainGlobals mg) : DefOk K mg nm 39 f_law_loop_right :=
  defOk_of (ps := [(⟨#[95, 108, 97, 119, 95, 116, 117, 114, 110]⟩ : PySem.Str)]) (st := tp 65) (x := (⟨#[95, 108, 97, 119, 95, 108, 111, 111, 112, 95, 114, 105, 103, 104, 116]⟩ : PySem.Str)) c X G 39 rfl rfl (List.mem_of_getElem? (i := 39) rfl) (fun _ _ _ _ _ _ us hl => match us, hl with | [_], _ => rfl) ⟨rfl, rfl, rfl, by decide +kernel, rfl, by decide +kernel, by decide +kernel⟩ rfl (by decide +kernel)
theorem dk_40 (c : SaysP (faOf nm.fs) fnD nm.gn gdat w K) (X : K.In h) (G : h.Ns mainGlobals mg) : DefOk K mg nm 40 f_law :=
  defOk_of (ps := [(⟨#[95, 108, 97, 119, 95, 115, 99, 114, 105, 112, 116]⟩ : PySem.Str)]) (st := tp 66) (x := (⟨#[108, 97, 119]⟩ : PySem.Str)) c X G 40 rfl rfl (List.mem_of_getElem? (i := 40) rfl) (fun _ _ _ _ _ _ us hl => match us, hl with | [_], _ => rfl) ⟨rfl, rfl, rfl, by decide +kernel, rfl, by decide +kernel, by decide +kernel⟩ rfl (by decide +kernel)
theorem dks (c : SaysP (faOf nm.fs) fnD nm.gn gdat w K) (X : K.In h) (G : h.Ns mainGlobals mg) : ∀ (j : Nat) (fn : Fn), tb.fns[j]? = some fn → DefOk K mg nm j fn
  | 0, _, h => by cases h; exact dk_0 c X G
  | 1, _, h => by cases h; exact dk_1 c X G
  | 2, _, h => by cases h; exact dk_2 c X G
  | 3, _, h => by cases h; exact dk_3 c X G
  | 4, _, h => by cases h; exact dk_4 c X G
  | 5, _, h => by cases h; exact dk_5 c X G
  | 6, _, h => by cases h; exact dk_6 c X G
  | 7, _, h => by cases h; exact dk_7 c X G
  | 8, _, h => by cases h; exact dk_8 c X G
  | 9, _, h => by cases h; exact dk_9 c X G
  | 10, _, h => by cases h; exact dk_10 c X G
  | 11, _, h => by cases h; exact dk_11 c X G
  | 12, _, h => by cases h; exact dk_12 c X G
  | 13, _, h => by cases h; exact dk_13 c X G
  | 14, _, h => by cases h; exact dk_14 c X G
  | 15, _, h => by cases h; exact dk_15 c X G
  | 16, _, h => by cases h; exact dk_16 c X G
  | 17, _, h => by cases h; exact dk_17 c X G
  | 18, _, h => by cases h; exact dk_18 c X G
  | 19, _, h => by cases h; exact dk_19 c X G
  | 20, _, h => by cases h; exact dk_20 c X G
  | 21, _, h => by cases h; exact dk_21 c X G
  | 22, _, h => by cases h; exact dk_22 c X G
  | 23, _, h => by cases h; exact dk_23 c X G
  | 24, _, h => by cases h; exact dk_24 c X G
  | 25, _, h => by cases h; exact dk_25 c X G
  | 26, _, h => by cases h; exact dk_26 c X G
  | 27, _, h => by cases h; exact dk_27 c X G
  | 28, _, h => by cases h; exact dk_28 c X G
  | 29, _, h => by cases h; exact dk_29 c X G
  | 30, _, h => by cases h; exact dk_30 c X G
  | 31, _, h => by cases h; exact dk_31 c X G
  | 32, _, h => by cases h; exact dk_32 c X G
  | 33, _, h => by cases h; exact dk_33 c X G
  | 34, _, h => by cases h; exact dk_34 c X G
  | 35, _, h => by cases h; exact dk_35 c X G
  | 36, _, h => by cases h; exact dk_36 c X G
  | 37, _, h => by cases h; exact dk_37 c X G
  | 38, _, h => by cases h; exact dk_38 c X G
  | 39, _, h => by cases h; exact dk_39 c X G
  | 40, _, h => by cases h; exact dk_40 c X G
  | j + 41, _, h => by cases h
end
end Kl
end Pg

namespace Pg
namespace Kl
open PySem L2
theorem facts {P : Program} {w : World} {K : PySem.W.Frag} {h : Heap} {mg : Str → Option Value} {f : Addr} {F : Nat} (X : K.In h) (G : h.Ns mainGlobals mg) (hfa : mg ("law" : Str) = some (.ref f)) (c : SaysP (faOf nm.fs) fnD nm.gn gdat w K) :
    ∃ fd : FuncData, (∀ (s : Shared) (v : Value), BindsTo s fd ⟨[v], []⟩ [("_law_script", v)]) ∧ ∀ base : Heap, K.In base → base.Ns mainGlobals mg → FnOk P w K mg base CX0 F f fd ["_law_script"] (SpecOf w K (fun _ _ _ _ _ => False) (callF tb F) 40) := by
  obtain ⟨fd, FD⟩ := c.d.def_ 40 (d := mkD (tp 66) "law") rfl
  have FD1 : FunD K "law" "law" (defArgs (tp 66)) (defBody (tp 66)) (defScope (tp 66)) [] [] (He.ga K "law") fd := FD
  have F0 := fun_of_funD FD1
  have b := FunD.bindsA (ps := ["_law_script"]) FD fun _ _ _ _ _ _ us hl => match us, hl with | [_], _ => rfl
  refine ⟨fd, fun s v => b s [v] rfl, fun base _ _ => ?_⟩
  obtain ⟨x, f2, fd2, ps2, hx, FO, hm, _, _, ⟨oc, od, osl, lk⟩, eps⟩ := fns_ok (P := P) (w := w) (base := base) (XR := fun _ _ _ _ _ => False) (Z := nm) (T := tb) rfl (free_of c X G) (c.glb X G (by decide +kernel)) (dks c X G) F 40 f_law rfl
  have ex : x = ("law" : Str) := (Option.some.inj hx).symm
  subst ex
  have ef : f = f2 := by
    have := hfa.symm.trans hm
    cases this
    rfl
  subst ef
  have hg := He.glo_ok X G (c.fact (f := .glo "law") (List.mem_append_left _ (List.mem_map.mpr ⟨"law", List.mem_of_getElem? (i := 40) rfl, rfl⟩)))
  have eg : f = He.ga K "law" := by
    have := hfa.symm.trans hg
    cases this
    rfl
  obtain ⟨oc1, od1, osl1, lk1⟩ := F0.lk
  have lk2 : K.lookup f = some ⟨oc1, od1, .func fd, osl1⟩ := by rw [eg]; exact lk1
  rw [lk] at lk2
  have efd : fd2 = fd := by
    injection Option.some.inj lk2 with _ _ q
    injection q
  subst efd
  have ep : ps2 = [("_law_script" : Str)] := eps
  rw [← ep]
  exact FO
theorem holds {F : Nat} (hF : L2.Room F callerA) (hL : ∀ ns : List Int, ns.length ≤ 63 → ∃ m, callF tb F 40 [.p (.list (ns.map .int))] [] = .ok (.p (.bool true)) m) : PySem.Challenge.rw_putinplace_k06_programs_by_hand.Holds := by
  w_on; o_law
  refine HandSHeadRun.head_any (r := PySem.W.OpenLaw.row PySem.Challenge.rw_putinplace_k06_programs_by_hand) (q := qv) (H := hk) (ob := ob) (M := 4000) (loose := names) (d := HandSHeadRun.topDef (PySem.W.OpenLaw.row PySem.Challenge.rw_putinplace_k06_programs_by_hand).prog 66) (kwd := []) ob_eq
    (by kernel_rfl) (fun s => by kernel_rfl) run (by kernel_rfl) (by kernel_rfl) (by kernel_rfl) (by rfl) (by first | assumption | decide +kernel) (by decide +kernel) ⟨rfl, rfl, rfl, rfl, rfl, by decide +kernel⟩ ?hw ?hc
  case hw => w_witness2
  case hc =>
    refine L2.walk_ofE (l := PySem.Challenge.rw_putinplace_k06_programs_by_hand) (n := 63) (k := F) (x := "_law_script") (CX := L2.CX0) rfl (by decide) (by kernel_rfl) hF ?F (fun _ _ _ _ z => z)
    intro w mg fa h Y G hmg0
    obtain ⟨K, KX, c⟩ := Y
    have hmg : mg ("law" : PySem.Str) = some (.ref fa) := by
      have e : (HandSHeadRun.topDef (PySem.W.OpenLaw.row PySem.Challenge.rw_putinplace_k06_programs_by_hand).prog 66).name = ("law" : PySem.Str) := by kernel_rfl
      rw [← e]
      exact hmg0
    obtain ⟨fd, hb, hFn⟩ := facts (P := (PySem.Challenge.rw_putinplace_k06_programs_by_hand).prog) (w := w) (F := F) KX G hmg c
    exact ⟨K, fd, SpecOf w K (fun _ _ _ _ _ => False) (callF tb F) 40, KX, hb, fun H a ns hl _ hS => spec_law (by decide) hL H a ns hl hS, hFn⟩
end Kl
end Pg

namespace Pg
namespace Kl
open PySem L2
def isT : Pg.R W → Bool
  | .ok (.p (.bool b)) _ => b
  | _ => false
theorem isT_ok {r : Pg.R W} (h : isT r = true) : ∃ m, r = .ok (.p (.bool true)) m := by
  unfold isT at h
  split at h
  · subst h
    exact ⟨_, rfl⟩
  · cases h
theorem call_t {cl : Cal} {j : Nat} {d : Int} (h : isT (cl j [.p (.int d)] []) = true) (m : Mu) : gCall cl j [.p (.int d)] m = .ok (.p (.bool true)) m := by
  obtain ⟨m2, e⟩ := isT_ok h
  show (match cl j [.p (.int d)] [] with
    | .ok u m2 => (match frz (m2.length + 1) m2 u with
      | some d => R.ok (W.p d) m
      | none => .bad)
    | .exc _ _ _ => .bad
    | .bad => .bad) = _
  rw [e]
  cases m2 <;> rfl
theorem law_plain (h1 : ∀ d : Int, 0 ≤ d → d < 6 → isT (callF tb 30 36 [.p (.int d)] []) = true ∧ isT (callF tb 30 37 [.p (.int d)] []) = true ∧ isT (callF tb 30 38 [.p (.int d)] []) = true)
    (h2 : ∀ d : Int, 0 ≤ d → d < 2 → isT (callF tb 30 39 [.p (.int d)] []) = true) (ns : List Int) (hl : ns.length ≤ 63) : ∃ m, callF tb 31 40 [.p (.list (ns.map .int))] [] = .ok (.p (.bool true)) m := by
  have hb := begin_ok (T := tb) (jb := 33) (N := f_law_begin.N) rfl rfl 29 ns (by omega)
  have hc : csOf ns ≠ [] := by unfold csOf; split <;> simp_all
  have hl0 : (lsOf (csOf ns)).length = (csOf ns).length := by unfold lsOf; rw [List.length_map]
  obtain ⟨d1, ls1, a1, b1, l1, e1⟩ := draw_ok (T := tb) (jm := 32) (jd := 34) (N := f_law_mixed.N) (N2 := f_law_draw.N) rfl rfl rfl rfl 28 (a := 0) (many := 6) (by decide) (by decide) (by decide) (by decide) hc hl0
  obtain ⟨d2, ls2, a2, b2, l2, e2⟩ := draw_ok (T := tb) (jm := 32) (jd := 34) (N := f_law_mixed.N) (N2 := f_law_draw.N) rfl rfl rfl rfl 28 (a := 0 + 1) (many := 2) (by decide) (by decide) (by decide) (by decide) hc l1
  obtain ⟨g1, g2, g3⟩ := h1 d1 a1 b1
  have g4 := h2 d2 a2 b2
  rw [show (0 : Int) + 1 + 1 = 2 from rfl, show (0 : Int) + 1 = 1 from rfl] at e2
  rw [show (0 : Int) + 1 = 1 from rfl] at e1
  have e0 : callF tb 31 40 [.p (.list (ns.map .int))] [] = runFn ⟨callF tb 30, tb.gd⟩ f_law [.p (.list (ns.map .int))] [] := rfl
  refine ⟨stm (csOf ns) ls2 2, ?_⟩
  rw [e0]
  have c1 := call_t (cl := callF tb 30) g1
  have c2 := call_t (cl := callF tb 30) g2
  have c3 := call_t (cl := callF tb 30) g3
  have c4 := call_t (cl := callF tb 30) g4
  simp [runFn, f_law, semSs, semS, fSeq, fSet, fRet, fIf, fB, toB, semE, semA, semOr, fOr, kIf, fNot, kNot, fCons, fNil, fCall, fCallM, noX, fVar, fK, get, R.bd, fNext, finR, hb, e1, e2, c1, c2, c3, c4]
end Kl
end Pg

namespace Pg
namespace Kl
open PySem L2
theorem ev_36_0 : isT (callF tb 30 36 [.p (.int 0)] []) = true := by decide +kernel
theorem ev_37_0 : isT (callF tb 30 37 [.p (.int 0)] []) = true := by decide +kernel
theorem ev_38_0 : isT (callF tb 30 38 [.p (.int 0)] []) = true := by decide +kernel
theorem ev_36_1 : isT (callF tb 30 36 [.p (.int 1)] []) = true := by decide +kernel
theorem ev_37_1 : isT (callF tb 30 37 [.p (.int 1)] []) = true := by decide +kernel
theorem ev_38_1 : isT (callF tb 30 38 [.p (.int 1)] []) = true := by decide +kernel
theorem ev_36_2 : isT (callF tb 30 36 [.p (.int 2)] []) = true := by decide +kernel
theorem ev_37_2 : isT (callF tb 30 37 [.p (.int 2)] []) = true := by decide +kernel
theorem ev_38_2 : isT (callF tb 30 38 [.p (.int 2)] []) = true := by decide +kernel
theorem ev_36_3 : isT (callF tb 30 36 [.p (.int 3)] []) = true := by decide +kernel
theorem ev_37_3 : isT (callF tb 30 37 [.p (.int 3)] []) = true := by decide +kernel
theorem ev_38_3 : isT (callF tb 30 38 [.p (.int 3)] []) = true := by decide +kernel
theorem ev_36_4 : isT (callF tb 30 36 [.p (.int 4)] []) = true := by decide +kernel
theorem ev_37_4 : isT (callF tb 30 37 [.p (.int 4)] []) = true := by decide +kernel
theorem ev_38_4 : isT (callF tb 30 38 [.p (.int 4)] []) = true := by decide +kernel
theorem ev_36_5 : isT (callF tb 30 36 [.p (.int 5)] []) = true := by decide +kernel
theorem ev_37_5 : isT (callF tb 30 37 [.p (.int 5)] []) = true := by decide +kernel
theorem ev_38_5 : isT (callF tb 30 38 [.p (.int 5)] []) = true := by decide +kernel
theorem ev_39_0 : isT (callF tb 30 39 [.p (.int 0)] []) = true := by decide +kernel
theorem ev_39_1 : isT (callF tb 30 39 [.p (.int 1)] []) = true := by decide +kernel
theorem law_true : ∀ ns : List Int, ns.length ≤ 63 → ∃ m, callF tb 31 40 [.p (.list (ns.map .int))] [] = .ok (.p (.bool true)) m := by
  refine law_plain (fun d h h2 => ?_) fun d h h2 => ?_
  · have e : d = 0 ∨ d = 1 ∨ d = 2 ∨ d = 3 ∨ d = 4 ∨ d = 5 := by omega
    rcases e with rfl | rfl | rfl | rfl | rfl | rfl
    · exact ⟨ev_36_0, ev_37_0, ev_38_0⟩
    · exact ⟨ev_36_1, ev_37_1, ev_38_1⟩
    · exact ⟨ev_36_2, ev_37_2, ev_38_2⟩
    · exact ⟨ev_36_3, ev_37_3, ev_38_3⟩
    · exact ⟨ev_36_4, ev_37_4, ev_38_4⟩
    · exact ⟨ev_36_5, ev_37_5, ev_38_5⟩
  · have e : d = 0 ∨ d = 1 := by omega
    rcases e with rfl | rfl
    · exact ev_39_0
    · exact ev_39_1
end Kl
end Pg

theorem PySem.Challenge.cw_putinplace_k06_programs_by_hand_holds : PySem.Challenge.rw_putinplace_k06_programs_by_hand.Holds := by
  exact Pg.Kl.holds (F := 31) ⟨rfl, by decide, by decide⟩ Pg.Kl.law_true
