import PyProof.Rows.All
import Wide.All
import OpenK.AllK
import Wide.FinOn
import HandS.ForMost
import HandS.IsInst
import HandS.Deep
import HandS.DictComp
import HandS.Zip
import HandS.TupAny
import HandS.Flow
import HandS.Style
import HandS.TupMul
import HandS.Wide
import HandS.Defaults
import HandS.EndBits
import KE.KDictPairs
import PyProof.DictUpdate
import HandS.CallLocal
import HandS.ClsMeth
import PySem.Challenge.RW_blamekeep_k96_whole_cells_and_coercions
set_option Elab.async false
set_option linter.all false
set_option maxRecDepth 100000
/-! DV: plain data values over the hand layer: what a walk computes, as functions of data. -/
namespace DV
open L2 PySem PySem.Spec PyProof.Rows

/-- plain data -/
inductive D where
  | non | bl (b : Bool) | int (i : Int) | str (x : Str) | ty (n : String) | fn (x : Str)
  | tup (xs : List D) | lst (xs : List D) | dic (ks vs : List D) | scr (ns : List Int)
  | ins (c : Str) (ns : List Str) (os : List Bool) (vs : List D)

structure Kc where
  K : PySem.W.Frag
  mg : Str → Option Value

def dkey : Key → D
  | .inl i => .int i
  | .inr x => .str x

mutual
/-- the value v stands for d: F are the addresses that never change any more -/
def Rep (K : Kc) (F : Addr → Prop) (H : Hp) : D → V → Prop
  | .non, v => v = .non
  | .bl b, v => v = .bl b
  | .int i, v => v = .int i
  | .str x, v => v = .str x
  | .ty n, v => v = .ty n
  | .fn x, v => ∃ f, v = .ref f ∧ K.mg x = some (.ref f)
  | .tup ds, v => ∃ a vs, v = .ref a ∧ SqT K.K H a vs ∧ RepL K F H ds vs
  | .scr ns, v => ∃ a, v = .ref a ∧ ((∃ o, H a = some (.frz o (.lst (ns.map V.int)))) ∨ ∀ H', SqL K.K H' a (ns.map V.int))
  | .lst ds, v => ∃ a vs, v = .ref a ∧ F a ∧ H a = some (.lst vs) ∧ RepL K F H ds vs
  | .dic ks ds, v => ∃ a o kvs, v = .ref a ∧ F a ∧ H a = some (.frz o (.dK kvs)) ∧ ks = kvs.map (fun p => dkey p.1) ∧ RepL K F H ds (kvs.map (·.2))
  | .ins _ _ _ _, _ => False
def RepL (K : Kc) (F : Addr → Prop) (H : Hp) : List D → List V → Prop
  | [], vs => vs = []
  | d :: ds, vs => ∃ v r, vs = v :: r ∧ Rep K F H d v ∧ RepL K F H ds r
end

/-- the same, but locks may have gone -/
structure Weak (F : Addr → Prop) (H : Hp) (F2 : Addr → Prop) (H2 : Hp) : Prop where
  fm : ∀ b, F b → F2 b
  tu : ∀ b vs, Rd H b (.tup vs) → Rd H2 b (.tup vs)
  ls : ∀ b vs, F b → H b = some (.lst vs) → H2 b = some (.lst vs)
  rd : ∀ b kvs, F b → Rd H b (.dK kvs) → Rd H2 b (.dK kvs)
  fz : ∀ b o u, H b = some (.frz o u) → H2 b = some (.frz o u)
/-- what a reading leans on is still there, and all locks -/
structure Stb (F : Addr → Prop) (H : Hp) (F2 : Addr → Prop) (H2 : Hp) : Prop where
  fm : ∀ b, F b → F2 b
  tu : ∀ b vs, Rd H b (.tup vs) → Rd H2 b (.tup vs)
  ls : ∀ b vs, F b → H b = some (.lst vs) → H2 b = some (.lst vs)
  rd : ∀ b kvs, F b → Rd H b (.dK kvs) → Rd H2 b (.dK kvs)
  fz : ∀ b o u, H b = some (.frz o u) → H2 b = some (.frz o u)
theorem Stb.weak {F : Addr → Prop} {H : Hp} {F2 : Addr → Prop} {H2 : Hp} (s : Stb F H F2 H2) : Weak F H F2 H2 := ⟨s.fm, s.tu, s.ls, s.rd, s.fz⟩
instance {F : Addr → Prop} {H : Hp} {F2 : Addr → Prop} {H2 : Hp} : Coe (Stb F H F2 H2) (Weak F H F2 H2) := ⟨Stb.weak⟩
theorem Stb.refl {F : Addr → Prop} {H : Hp} : Stb F H F H := ⟨fun _ h => h, fun _ _ h => h, fun _ _ _ h => h, fun _ _ _ h => h, fun _ _ _ h => h⟩
theorem Stb.trans {F F1 F2 : Addr → Prop} {H H1 H2 : Hp} (a : Stb F H F1 H1) (b : Stb F1 H1 F2 H2) : Stb F H F2 H2 :=
  ⟨fun x h => b.fm x (a.fm x h), fun x vs h => b.tu x vs (a.tu x vs h), fun x u f h => b.ls x u (a.fm x f) (a.ls x u f h), fun x u f h => b.rd x u (a.fm x f) (a.rd x u f h), fun x o u h => b.fz x o u (a.fz x o u h)⟩
theorem Weak.sqT {F F2 : Addr → Prop} {H H2 : Hp} (s : Weak F H F2 H2) {K : PySem.W.Frag} {a : Addr} {vs : List V} (h : SqT K H a vs) : SqT K H2 a vs := by
  rcases h with h | h
  · exact .inl (s.tu _ _ h)
  · exact .inr h

theorem Stb.sqT {F F2 : Addr → Prop} {H H2 : Hp} (s : Stb F H F2 H2) {K : PySem.W.Frag} {a : Addr} {vs : List V} (h : SqT K H a vs) : SqT K H2 a vs := s.weak.sqT h
mutual
theorem Rep.stb {K : Kc} {F F2 : Addr → Prop} {H H2 : Hp} (s : Weak F H F2 H2) : ∀ (d : D) (v : V), Rep K F H d v → Rep K F2 H2 d v
  | .non, v, h => by unfold Rep at h ⊢; exact h
  | .bl b, v, h => by unfold Rep at h ⊢; exact h
  | .int i, v, h => by unfold Rep at h ⊢; exact h
  | .str x, v, h => by unfold Rep at h ⊢; exact h
  | .ty n, v, h => by unfold Rep at h ⊢; exact h
  | .fn x, v, h => by unfold Rep at h ⊢; exact h
  | .tup ds, v, h => by
    unfold Rep at h ⊢
    obtain ⟨a, vs, e, h1, h2⟩ := h
    exact ⟨a, vs, e, s.sqT h1, RepL.stb s ds vs h2⟩
  | .lst ds, v, h => by
    unfold Rep at h ⊢
    obtain ⟨a, vs, e, h0, h1, h2⟩ := h
    exact ⟨a, vs, e, s.fm a h0, s.ls a _ h0 h1, RepL.stb s ds vs h2⟩
  | .scr ns, v, h => by
    unfold Rep at h ⊢
    obtain ⟨a, e, h1⟩ := h
    exact ⟨a, e, h1.imp_left fun ⟨o, h1⟩ => ⟨o, s.fz a o _ h1⟩⟩
  | .dic ks ds, v, h => by
    unfold Rep at h ⊢
    obtain ⟨a, o, kvs, e, h0, h1, h3, h2⟩ := h
    exact ⟨a, o, kvs, e, s.fm a h0, s.fz a o _ h1, h3, RepL.stb s ds _ h2⟩
  | .ins _ _ _ _, v, h => by unfold Rep at h; exact h.elim
theorem RepL.stb {K : Kc} {F F2 : Addr → Prop} {H H2 : Hp} (s : Weak F H F2 H2) : ∀ (ds : List D) (vs : List V), RepL K F H ds vs → RepL K F2 H2 ds vs
  | [], vs, h => by unfold RepL at h ⊢; exact h
  | d :: ds, vs, h => by
    unfold RepL at h ⊢
    obtain ⟨v, r, e, h1, h2⟩ := h
    exact ⟨v, r, e, Rep.stb s d v h1, RepL.stb s ds r h2⟩
end

theorem RepL.length {K : Kc} {F : Addr → Prop} {H : Hp} : ∀ {ds : List D} {vs : List V}, RepL K F H ds vs → vs.length = ds.length
  | [], vs, h => by unfold RepL at h; subst h; rfl
  | d :: ds, vs, h => by
    unfold RepL at h
    obtain ⟨v, r, rfl, h1, h2⟩ := h
    simp [RepL.length h2]
theorem RepL.nil {K : Kc} {F : Addr → Prop} {H : Hp} : RepL K F H [] [] := by unfold RepL; rfl
theorem RepL.cons {K : Kc} {F : Addr → Prop} {H : Hp} {d : D} {ds : List D} {v : V} {vs : List V} (h : Rep K F H d v) (t : RepL K F H ds vs) : RepL K F H (d :: ds) (v :: vs) := by
  unfold RepL; exact ⟨v, vs, rfl, h, t⟩
theorem RepL.append {K : Kc} {F : Addr → Prop} {H : Hp} : ∀ {ds es : List D} {vs us : List V}, RepL K F H ds vs → RepL K F H es us → RepL K F H (ds ++ es) (vs ++ us)
  | [], es, vs, us, h, k => by unfold RepL at h; subst h; exact k
  | d :: ds, es, vs, us, h, k => by
    unfold RepL at h
    obtain ⟨v, r, rfl, h1, h2⟩ := h
    exact RepL.cons h1 (RepL.append h2 k)
theorem RepL.get {K : Kc} {F : Addr → Prop} {H : Hp} : ∀ {ds : List D} {vs : List V} {i : Nat} {d : D}, RepL K F H ds vs → ds[i]? = some d → ∃ v, vs[i]? = some v ∧ Rep K F H d v
  | [], _, _, _, _, e => by simp at e
  | d :: ds, vs, 0, d', h, e => by
    unfold RepL at h
    obtain ⟨v, r, rfl, h1, h2⟩ := h
    simp at e; subst e
    exact ⟨v, rfl, h1⟩
  | d :: ds, vs, i + 1, d', h, e => by
    unfold RepL at h
    obtain ⟨v, r, rfl, h1, h2⟩ := h
    obtain ⟨v', e', q⟩ := RepL.get (i := i) h2 (by simpa using e)
    exact ⟨v', by simpa using e', q⟩
theorem RepL.set {K : Kc} {F : Addr → Prop} {H : Hp} {d' : D} {v' : V} (q : Rep K F H d' v') : ∀ {ds : List D} {vs : List V} (i : Nat), RepL K F H ds vs → RepL K F H (ds.set i d') (vs.set i v')
  | [], _, _, h => by unfold RepL at h; subst h; exact RepL.nil
  | d :: ds, vs, 0, h => by
    unfold RepL at h
    obtain ⟨v, r, rfl, h1, h2⟩ := h
    exact RepL.cons q h2
  | d :: ds, vs, i + 1, h => by
    unfold RepL at h
    obtain ⟨v, r, rfl, h1, h2⟩ := h
    exact RepL.cons h1 (RepL.set q i h2)
theorem RepL.drop {K : Kc} {F : Addr → Prop} {H : Hp} : ∀ {ds : List D} {vs : List V} (n : Nat), RepL K F H ds vs → RepL K F H (ds.drop n) (vs.drop n)
  | _, _, 0, h => h
  | [], _, n + 1, h => by unfold RepL at h; subst h; exact RepL.nil
  | d :: ds, vs, n + 1, h => by
    unfold RepL at h
    obtain ⟨v, r, rfl, h1, h2⟩ := h
    exact RepL.drop n h2
theorem RepL.take {K : Kc} {F : Addr → Prop} {H : Hp} : ∀ {ds : List D} {vs : List V} (n : Nat), RepL K F H ds vs → RepL K F H (ds.take n) (vs.take n)
  | _, _, 0, h => RepL.nil
  | [], _, n + 1, h => by unfold RepL at h; subst h; exact RepL.nil
  | d :: ds, vs, n + 1, h => by
    unfold RepL at h
    obtain ⟨v, r, rfl, h1, h2⟩ := h
    exact RepL.cons h1 (RepL.take n h2)

/-- from one state to a later one: as is what may change (the frame's own things) -/
structure Ext (F : Addr → Prop) (as : List Addr) (H : Hp) (F' : Addr → Prop) (as' : List Addr) (H' : Hp) : Prop where
  stb : Stb F H F' H'
  keep : ∀ b u, H b = some u → b ∉ as → H' b = some u
  dom : ∀ b, H' b = none → H b = none
  fnew : ∀ b, F' b → F b ∨ b ∈ as ∨ H b = none
  anew : ∀ b, b ∈ as' → b ∈ as ∨ H b = none
  fk : (∀ b, F b → H b ≠ none) → ∀ b, F' b → H' b ≠ none
theorem Ext.refl {F : Addr → Prop} {as : List Addr} {H : Hp} : Ext F as H F as H := ⟨.refl, fun _ _ h _ => h, fun _ h => h, fun _ h => .inl h, fun _ h => .inl h, fun h => h⟩
theorem Ext.trans {F F1 F2 : Addr → Prop} {as as1 as2 : List Addr} {H H1 H2 : Hp} (a : Ext F as H F1 as1 H1) (b : Ext F1 as1 H1 F2 as2 H2) : Ext F as H F2 as2 H2 := by
  refine ⟨a.stb.trans b.stb, fun x u h n => ?_, fun x h => a.dom x (b.dom x h), fun x h => ?_, fun x h => ?_, fun h => b.fk (a.fk h)⟩
  · refine b.keep x u (a.keep x u h n) fun m => ?_
    rcases a.anew x m with z | z
    · exact n z
    · rw [h] at z; cases z
  · rcases b.fnew x h with z | z | z
    · exact a.fnew x z
    · exact .inr (a.anew x z)
    · exact .inr (.inr (a.dom x z))
  · rcases b.anew x h with z | z
    · exact a.anew x z
    · exact .inr (a.dom x z)
/-- fewer own things at the end, more at the start -/
theorem Ext.sub {F F1 : Addr → Prop} {as as1 as2 : List Addr} {H H1 : Hp} (a : Ext F as H F1 as1 H1) (h : ∀ b, b ∈ as2 → b ∈ as1) : Ext F as H F1 as2 H1 :=
  ⟨a.stb, a.keep, a.dom, a.fnew, fun x m => a.anew x (h x m), a.fk⟩
/-- a frame around -/
theorem Ext.frame {F F1 : Addr → Prop} {as as1 fr : List Addr} {H H1 : Hp} (a : Ext F as H F1 as1 H1) : Ext F (as ++ fr) H F1 (as1 ++ fr) H1 :=
  ⟨a.stb, fun x u h n => a.keep x u h fun m => n (List.mem_append_left _ m), a.dom, fun x h => (a.fnew x h).imp_right (·.imp_left fun m => List.mem_append_left _ m),
    fun x h => (List.mem_append.mp h).elim (fun m => (a.anew x m).imp_left fun m => List.mem_append_left _ m) fun m => .inl (List.mem_append_right _ m), a.fk⟩
theorem Ext.frameL {F F1 : Addr → Prop} {as as1 fr : List Addr} {H H1 : Hp} (a : Ext F as H F1 as1 H1) : Ext F (fr ++ as) H F1 (fr ++ as1) H1 :=
  ⟨a.stb, fun x u h n => a.keep x u h fun m => n (List.mem_append_right _ m), a.dom, fun x h => (a.fnew x h).imp_right (·.imp_left fun m => List.mem_append_right _ m),
    fun x h => (List.mem_append.mp h).elim (fun m => .inl (List.mem_append_left _ m)) fun m => (a.anew x m).imp_left fun m => List.mem_append_right _ m, a.fk⟩
/-- nothing of the frame's own was touched -/
theorem Ext.pure {F F1 : Addr → Prop} {as : List Addr} {H H1 : Hp} (a : Ext F [] H F1 [] H1) : Ext F as H F1 as H1 :=
  ⟨a.stb, fun x u h _ => a.keep x u h (by simp), a.dom, fun x h => (a.fnew x h).imp_right (·.imp_left fun m => absurd m (by simp)), fun x h => .inl h, a.fk⟩

theorem Rd.upd {H : Hp} {p b : Addr} {o u : HO} (hp : H p = none) (h : Rd H b u) : Rd (upd H p o) b u := by
  rcases h with h | ⟨w, h⟩
  · exact .inl (by rw [upd_ne (ne_of_none h hp)]; exact h)
  · exact .inr ⟨w, by rw [upd_ne (ne_of_none h hp)]; exact h⟩
/-- a new object: among what never changes -/
theorem Ext.newF {F : Addr → Prop} {as : List Addr} {H : Hp} {p : Addr} {o : HO} (hp : H p = none) : Ext F as H (fun b => F b ∨ b = p) as (L2.upd H p o) := by
  refine ⟨⟨fun b h => .inl h, fun b vs h => Rd.upd hp h, fun b vs _ h => by rw [upd_ne (ne_of_none h hp)]; exact h, fun b u _ h => Rd.upd hp h, fun b o vs h => by rw [upd_ne (ne_of_none h hp)]; exact h⟩, fun b u h _ => by rw [upd_ne (ne_of_none h hp)]; exact h, fun b h => ?_, fun b h => ?_, fun b h => .inl h, fun k b h => ?_⟩
  · by_cases e : b = p
    · rw [e]; exact hp
    · rw [upd_ne e] at h; exact h
  · rcases h with h | h
    · exact .inl h
    · exact .inr (.inr (by rw [h]; exact hp))
  · by_cases e : b = p
    · rw [e, upd_same]; exact fun z => by cases z
    · rw [upd_ne e]; exact k b (h.resolve_right e)
/-- .. the frame's own -/
theorem Ext.newO {F : Addr → Prop} {as : List Addr} {H : Hp} {p : Addr} {o : HO} (hp : H p = none) : Ext F as H F (p :: as) (L2.upd H p o) := by
  refine ⟨⟨fun b h => h, fun b vs h => Rd.upd hp h, fun b vs _ h => by rw [upd_ne (ne_of_none h hp)]; exact h, fun b u _ h => Rd.upd hp h, fun b o vs h => by rw [upd_ne (ne_of_none h hp)]; exact h⟩, fun b u h _ => by rw [upd_ne (ne_of_none h hp)]; exact h, fun b h => ?_, fun b h => .inl h, fun b h => ?_, fun k b h => ?_⟩
  · by_cases e : b = p
    · rw [e]; exact hp
    · rw [upd_ne e] at h; exact h
  · rcases List.mem_cons.mp h with h | h
    · exact .inr (by rw [h]; exact hp)
    · exact .inl h
  · by_cases e : b = p
    · rw [e, upd_same]; exact fun z => by cases z
    · rw [upd_ne e]; exact k b h
/-- an own object is written -/
theorem Ext.write {F : Addr → Prop} {as : List Addr} {H : Hp} {p : Addr} {o u : HO} (hp : H p = some u) (hm : ∀ vs, u ≠ .tup vs) (hz : ∀ q w, u ≠ .frz q w) (ha : p ∈ as) (hf : ¬ F p) : Ext F as H F as (L2.upd H p o) := by
  have rd : ∀ b w, b ≠ p → Rd H b w → Rd (L2.upd H p o) b w := fun b w n h => by
    rcases h with h | ⟨z, h⟩
    · exact .inl (by rw [upd_ne n]; exact h)
    · exact .inr ⟨z, by rw [upd_ne n]; exact h⟩
  refine ⟨⟨fun b h => h, fun b vs h => rd b _ (fun e => ?_) h, fun b w f h => by rw [upd_ne (fun e => hf (by rw [← e]; exact f))]; exact h, fun b w f h => rd b _ (fun e => hf (by rw [← e]; exact f)) h, fun b q vs h => by rw [upd_ne (fun e => hz q _ (by rw [e, hp] at h; exact Option.some.inj h))]; exact h⟩, fun b w h n => by rw [upd_ne (fun e => n (by rw [e]; exact ha))]; exact h, fun b h => ?_, fun b h => .inl h, fun b h => .inl h, fun k b h => ?_⟩
  · subst e
    rcases h with h | ⟨z, h⟩
    · rw [hp] at h; exact hm vs (Option.some.inj h)
    · rw [hp] at h; exact hz z _ (Option.some.inj h)
  · by_cases e : b = p
    · rw [e, upd_same] at h; cases h
    · rw [upd_ne e] at h; exact h
  · by_cases e : b = p
    · rw [e, upd_same]; exact fun z => by cases z
    · rw [upd_ne e]; exact k b h
/-- an own object is frozen -/
theorem Ext.freeze {F : Addr → Prop} {as as' bs : List Addr} {H : Hp} (hs : ∀ b, b ∈ bs → b ∈ as) (h' : ∀ b, b ∈ as' → b ∈ as) (ht : ∀ b, b ∈ bs → H b ≠ none) : Ext F as H (fun b => F b ∨ b ∈ bs) as' H :=
  ⟨⟨fun b h => .inl h, fun _ _ h => h, fun _ _ _ h => h, fun _ _ _ h => h, fun _ _ _ h => h⟩, fun _ _ h _ => h, fun _ h => h, fun b h => h.elim .inl fun m => .inr (.inl (hs b m)), fun b h => .inl (h' b h), fun k b h => h.elim (k b) (ht b)⟩

/-! ### what one frame owns -/
def OwnC (K : Kc) (F : Addr → Prop) (H : Hp) : D → V → List Addr → Prop
  | .lst ds, v, as => ∃ a vs, v = .ref a ∧ H a = some (.lst vs) ∧ RepL K F H ds vs ∧ as = [a]
  | .dic ks ds, v, as => ∃ a kvs, v = .ref a ∧ H a = some (.dK kvs) ∧ ks = kvs.map (fun p => dkey p.1) ∧ RepL K F H ds (kvs.map (·.2)) ∧ as = [a]
  | _, _, _ => False
def OwnFs (K : Kc) (F : Addr → Prop) (H : Hp) : List Bool → List D → List V → List Addr → Prop
  | [], [], vs, as => vs = [] ∧ as = []
  | o :: os, d :: ds, vs, as => ∃ v r a1 a2, vs = v :: r ∧ as = a1 ++ a2 ∧ (if o then OwnC K F H d v a1 else Rep K F H d v ∧ a1 = []) ∧ OwnFs K F H os ds r a2
  | _, _, _, _ => False
def OwnI (K : Kc) (F : Addr → Prop) (H : Hp) (c : Str) (ns : List Str) (os : List Bool) (ds : List D) (v : V) (as : List Addr) : Prop :=
  ∃ a C dx fs a2, v = .ref a ∧ K.mg c = some (.ref C) ∧ H a = some (.ins C dx fs) ∧ H dx = some (.own a) ∧ fs.map (·.1) = ns ∧ OwnFs K F H os ds (fs.map (·.2)) a2 ∧ as = a :: dx :: a2
def Own (K : Kc) (F : Addr → Prop) (H : Hp) : D → V → List Addr → Prop
  | .ins c ns os ds, v, as => OwnI K F H c ns os ds v as
  | d, v, as => OwnC K F H d v as

/-- these are kept -/
def Kept (bs : List Addr) (H H2 : Hp) : Prop := ∀ b, b ∈ bs → ∀ u, H b = some u → H2 b = some u
theorem Kept.left {a b : List Addr} {H H2 : Hp} (k : Kept (a ++ b) H H2) : Kept a H H2 := fun x m => k x (List.mem_append_left _ m)
theorem Kept.right {a b : List Addr} {H H2 : Hp} (k : Kept (a ++ b) H H2) : Kept b H H2 := fun x m => k x (List.mem_append_right _ m)
theorem Kept.of {bs : List Addr} {H H2 : Hp} (h : ∀ b u, H b = some u → H2 b = some u) : Kept bs H H2 := fun b _ u q => h b u q
theorem Ext.kept {F F' : Addr → Prop} {as as' bs : List Addr} {H H' : Hp} (e : Ext F as H F' as' H') (h : ∀ b, b ∈ bs → b ∉ as) : Kept bs H H' := fun b m u q => e.keep b u q (h b m)

theorem OwnC.stb {K : Kc} {F F2 : Addr → Prop} {H H2 : Hp} (s : Weak F H F2 H2) {d : D} {v : V} {as : List Addr} (h : OwnC K F H d v as) (k : Kept as H H2) : OwnC K F2 H2 d v as := by
  cases d <;> unfold OwnC at h ⊢ <;> try exact h
  case lst ds =>
    obtain ⟨a, vs, e, h1, h2, h3⟩ := h
    subst h3
    exact ⟨a, vs, e, k a (by simp) _ h1, RepL.stb s _ _ h2, rfl⟩
  case dic ks ds =>
    obtain ⟨a, kvs, e, h1, h4, h2, h3⟩ := h
    subst h3
    exact ⟨a, kvs, e, k a (by simp) _ h1, h4, RepL.stb s _ _ h2, rfl⟩
theorem OwnFs.stb {K : Kc} {F F2 : Addr → Prop} {H H2 : Hp} (s : Weak F H F2 H2) : ∀ {os : List Bool} {ds : List D} {vs : List V} {as : List Addr}, OwnFs K F H os ds vs as → Kept as H H2 → OwnFs K F2 H2 os ds vs as
  | [], [], vs, as, h, k => by unfold OwnFs at h ⊢; exact h
  | o :: os, d :: ds, vs, as, h, k => by
    unfold OwnFs at h ⊢
    obtain ⟨v, r, a1, a2, e1, e2, h1, h2⟩ := h
    subst e2
    refine ⟨v, r, a1, a2, e1, rfl, ?_, OwnFs.stb s h2 k.right⟩
    cases o with
    | true => simp only [if_true] at h1 ⊢; exact h1.stb s k.left
    | false => simp only [Bool.false_eq_true, if_false] at h1 ⊢; exact ⟨Rep.stb s _ _ h1.1, h1.2⟩
  | [], _ :: _, _, _, h, _ => by unfold OwnFs at h; exact h.elim
  | _ :: _, [], _, _, h, _ => by unfold OwnFs at h; exact h.elim
theorem Own.stb {K : Kc} {F F2 : Addr → Prop} {H H2 : Hp} (s : Weak F H F2 H2) {d : D} {v : V} {as : List Addr} (h : Own K F H d v as) (k : Kept as H H2) : Own K F2 H2 d v as := by
  cases d <;> unfold Own at h ⊢ <;> try exact h.stb s k
  case ins c ns os ds =>
    obtain ⟨a, C, dx, fs, a2, e, h1, h2, h3, h4, h5, h6⟩ := h
    subst h6
    exact ⟨a, C, dx, fs, a2, e, h1, k a (by simp) _ h2, k dx (by simp) _ h3, h4, h5.stb s fun b m => k b (by simp [m]), rfl⟩

theorem OwnC.there {K : Kc} {F : Addr → Prop} {H : Hp} {d : D} {v : V} {as : List Addr} (h : OwnC K F H d v as) : ∀ a, a ∈ as → ∃ u, H a = some u := by
  cases d <;> unfold OwnC at h <;> try exact h.elim
  case lst ds =>
    obtain ⟨a, vs, e, h1, h2, h3⟩ := h
    subst h3
    intro b m
    have : b = a := by simpa using m
    exact ⟨_, by rw [this]; exact h1⟩
  case dic ks ds =>
    obtain ⟨a, kvs, e, h1, h4, h2, h3⟩ := h
    subst h3
    intro b m
    have : b = a := by simpa using m
    exact ⟨_, by rw [this]; exact h1⟩
theorem OwnFs.there {K : Kc} {F : Addr → Prop} {H : Hp} : ∀ {os : List Bool} {ds : List D} {vs : List V} {as : List Addr}, OwnFs K F H os ds vs as → ∀ a, a ∈ as → ∃ u, H a = some u
  | [], [], vs, as, h => by unfold OwnFs at h; rw [h.2]; intro a m; cases m
  | o :: os, d :: ds, vs, as, h => by
    unfold OwnFs at h
    obtain ⟨v, r, a1, a2, e1, e2, h1, h2⟩ := h
    subst e2
    intro b m
    rcases List.mem_append.mp m with m | m
    · cases o with
      | true => simp only [if_true] at h1; exact h1.there b m
      | false => simp only [Bool.false_eq_true, if_false] at h1; rw [h1.2] at m; cases m
    · exact OwnFs.there h2 b m
  | [], _ :: _, _, _, h => by unfold OwnFs at h; exact h.elim
  | _ :: _, [], _, _, h => by unfold OwnFs at h; exact h.elim
theorem Own.there {K : Kc} {F : Addr → Prop} {H : Hp} {d : D} {v : V} {as : List Addr} (h : Own K F H d v as) : ∀ a, a ∈ as → ∃ u, H a = some u := by
  cases d <;> unfold Own at h <;> try exact h.there
  case ins c ns os ds =>
    obtain ⟨a, C, dx, fs, a2, e, h1, h2, h3, h4, h5, h6⟩ := h
    subst h6
    intro b m
    rcases List.mem_cons.mp m with m | m
    · exact ⟨_, by rw [m]; exact h2⟩
    · rcases List.mem_cons.mp m with m | m
      · exact ⟨_, by rw [m]; exact h3⟩
      · exact h5.there b m

def isC : D → Bool
  | .lst _ => true
  | .dic _ _ => true
  | _ => false
/-- an own list that is shared from now on -/
theorem Own.frozen {K : Kc} {F : Addr → Prop} {H : Hp} {ds : List D} {v : V} {as : List Addr} (h : Own K F H (.lst ds) v as) : Rep K (fun b => F b ∨ b ∈ as) H (.lst ds) v := by
  have s : Stb F H (fun b => F b ∨ b ∈ as) H := ⟨fun b h => .inl h, fun _ _ h => h, fun _ _ _ h => h, fun _ _ _ h => h, fun _ _ _ h => h⟩
  unfold Own OwnC at h
  unfold Rep
  obtain ⟨a, vs, e, h1, h2, h3⟩ := h
  exact ⟨a, vs, e, .inr (by rw [h3]; simp), h1, RepL.stb s _ _ h2⟩
/-- an own dict that is locked for good -/
theorem Own.lockD {K : Kc} {F : Addr → Prop} {H : Hp} {ks ds : List D} {v : V} {as : List Addr} (h : Own K F H (.dic ks ds) v as) : ∃ a kvs, v = .ref a ∧ as = [a] ∧ H a = some (.dK kvs) ∧
    ∀ F' od, Stb F H F' (upd H a (.frz od (.dK kvs))) → F' a → Rep K F' (upd H a (.frz od (.dK kvs))) (.dic ks ds) v := by
  unfold Own OwnC at h
  obtain ⟨a, kvs, e, h1, h4, h2, h3⟩ := h
  refine ⟨a, kvs, e, h3, h1, fun F' od s hf => ?_⟩
  unfold Rep
  exact ⟨a, od, kvs, e, hf, upd_same, h4, RepL.stb s.weak _ _ h2⟩

/-! ### the names of a frame -/
inductive Sl where
  | no | sh (d : D) | ow (d : D) | bo (k : Nat) (d : D)
abbrev Env := List Sl
def SlR (K : Kc) (F : Addr → Prop) (B : List Addr) (H : Hp) : Sl → Option V → List Addr → Prop
  | .no, _, as => as = []
  | .sh d, o, as => as = [] ∧ ∃ v, o = some v ∧ Rep K F H d v
  | .ow d, o, as => ∃ v, o = some v ∧ Own K F H d v as
  | .bo k d, o, as => ∃ a, o = some (.ref a) ∧ B[k]? = some a ∧ Own K F H d (.ref a) as
def EnvR (K : Kc) (F : Addr → Prop) (B : List Addr) (H : Hp) : Env → L2.St → List Addr → Prop
  | [], σ, as => σ = [] ∧ as = []
  | s :: ρ, σ, as => ∃ o r a1 a2, σ = o :: r ∧ as = a1 ++ a2 ∧ SlR K F B H s o a1 ∧ EnvR K F B H ρ r a2
structure Sit (K : Kc) (F : Addr → Prop) (B : List Addr) (H : Hp) (ρ : Env) (σ : L2.St) (as : List Addr) : Prop where
  env : EnvR K F B H ρ σ as
  nd : as.Nodup
  nf : ∀ a, a ∈ as → ¬ F a
  fk : ∀ b, F b → H b ≠ none

theorem SlR.stb {K : Kc} {F F2 : Addr → Prop} {B : List Addr} {H H2 : Hp} (s : Weak F H F2 H2) {x : Sl} {o : Option V} {as : List Addr} (h : SlR K F B H x o as) (k : Kept as H H2) : SlR K F2 B H2 x o as := by
  cases x <;> unfold SlR at h ⊢
  case no => exact h
  case sh d => obtain ⟨e, v, e2, r⟩ := h; exact ⟨e, v, e2, Rep.stb s _ _ r⟩
  case ow d => obtain ⟨v, e, r⟩ := h; exact ⟨v, e, r.stb s k⟩
  case bo n d => obtain ⟨a, e, e2, r⟩ := h; exact ⟨a, e, e2, r.stb s k⟩
theorem SlR.there {K : Kc} {F : Addr → Prop} {B : List Addr} {H : Hp} {x : Sl} {o : Option V} {as : List Addr} (h : SlR K F B H x o as) : ∀ a, a ∈ as → ∃ u, H a = some u := by
  cases x <;> unfold SlR at h
  case no => rw [h]; intro a m; cases m
  case sh d => rw [h.1]; intro a m; cases m
  case ow d => obtain ⟨v, e, r⟩ := h; exact r.there
  case bo n d => obtain ⟨a, e, e2, r⟩ := h; exact r.there
theorem EnvR.stb {K : Kc} {F F2 : Addr → Prop} {B : List Addr} {H H2 : Hp} (s : Weak F H F2 H2) : ∀ {ρ : Env} {σ : L2.St} {as : List Addr}, EnvR K F B H ρ σ as → Kept as H H2 → EnvR K F2 B H2 ρ σ as
  | [], _, _, h, _ => by unfold EnvR at h ⊢; exact h
  | x :: ρ, σ, as, h, k => by
    unfold EnvR at h ⊢
    obtain ⟨o, r, a1, a2, e1, e2, h1, h2⟩ := h
    subst e2
    exact ⟨o, r, a1, a2, e1, rfl, h1.stb s k.left, EnvR.stb s h2 k.right⟩
theorem EnvR.there {K : Kc} {F : Addr → Prop} {B : List Addr} {H : Hp} : ∀ {ρ : Env} {σ : L2.St} {as : List Addr}, EnvR K F B H ρ σ as → ∀ a, a ∈ as → ∃ u, H a = some u
  | [], _, _, h => by unfold EnvR at h; rw [h.2]; intro a m; cases m
  | x :: ρ, σ, as, h => by
    unfold EnvR at h
    obtain ⟨o, r, a1, a2, e1, e2, h1, h2⟩ := h
    subst e2
    intro b m
    exact (List.mem_append.mp m).elim (h1.there b) (EnvR.there h2 b)
theorem EnvR.length {K : Kc} {F : Addr → Prop} {B : List Addr} {H : Hp} : ∀ {ρ : Env} {σ : L2.St} {as : List Addr}, EnvR K F B H ρ σ as → σ.length = ρ.length
  | [], _, _, h => by unfold EnvR at h; rw [h.1]; rfl
  | x :: ρ, σ, as, h => by
    unfold EnvR at h
    obtain ⟨o, r, a1, a2, e1, e2, h1, h2⟩ := h
    subst e1
    simp [EnvR.length h2]
/-- one name, and the others around it -/
theorem EnvR.split {K : Kc} {F : Addr → Prop} {B : List Addr} {H : Hp} : ∀ {ρ : Env} {σ : L2.St} {as : List Addr} {i : Nat} {x : Sl}, EnvR K F B H ρ σ as → ρ[i]? = some x →
    ∃ o p a q, as = p ++ (a ++ q) ∧ σ[i]? = some o ∧ SlR K F B H x o a ∧
      ∀ {F2 : Addr → Prop} {H2 : Hp} (x' : Sl) (o' : Option V) (a' : List Addr), Stb F H F2 H2 → Kept (p ++ q) H H2 → SlR K F2 B H2 x' o' a' → EnvR K F2 B H2 (ρ.set i x') (σ.set i o') (p ++ (a' ++ q))
  | [], _, _, _, _, _, e => by simp at e
  | y :: ρ, σ, as, 0, x, h, e => by
    unfold EnvR at h
    obtain ⟨o, r, a1, a2, e1, e2, h1, h2⟩ := h
    subst e1 e2
    simp at e; subst e
    refine ⟨o, [], a1, a2, rfl, rfl, h1, fun x' o' a' s k h' => ?_⟩
    simp only [List.set_cons_zero, List.nil_append]
    unfold EnvR
    exact ⟨o', r, a', a2, rfl, rfl, h', h2.stb s (by simpa using k)⟩
  | y :: ρ, σ, as, i + 1, x, h, e => by
    unfold EnvR at h
    obtain ⟨o, r, a1, a2, e1, e2, h1, h2⟩ := h
    subst e1 e2
    obtain ⟨o2, p, a, q, ea, eo, hs, hr⟩ := EnvR.split (i := i) h2 (by simpa using e)
    subst ea
    refine ⟨o2, a1 ++ p, a, q, by simp, by simpa using eo, hs, fun x' o' a' s k h' => ?_⟩
    simp only [List.set_cons_succ]
    unfold EnvR
    refine ⟨o, r.set i o', a1, p ++ (a' ++ q), rfl, by simp, h1.stb s fun b m => k b (by simp [m]), hr x' o' a' s (fun b m => k b ?_) h'⟩
    rcases List.mem_append.mp m with m | m <;> simp [m]

/-- nothing of the frame's own was touched: the same names mean the same -/
theorem Sit.step {K : Kc} {F F2 : Addr → Prop} {B : List Addr} {H H2 : Hp} {ρ : Env} {σ : L2.St} {as : List Addr} (S : Sit K F B H ρ σ as) (e : Ext F [] H F2 [] H2) : Sit K F2 B H2 ρ σ as := by
  refine ⟨S.env.stb e.stb (Kept.of fun b u h => e.keep b u h (by simp)), S.nd, fun a m f => ?_, e.fk S.fk⟩
  rcases e.fnew a f with z | z | z
  · exact S.nf a m z
  · cases z
  · obtain ⟨u, q⟩ := S.env.there a m
    rw [q] at z; cases z
theorem ne_none {α : Type} {o : Option α} (h : ∃ u, o = some u) : o ≠ none := fun e => by
  obtain ⟨u, q⟩ := h
  rw [q] at e; cases e
theorem set_same {α : Type} : ∀ {l : List α} {i : Nat} {x : α}, l[i]? = some x → l.set i x = l
  | [], _, _, h => by simp at h
  | y :: l, 0, x, h => by simp at h; subst h; rfl
  | y :: l, i + 1, x, h => by
    simp only [List.set_cons_succ]
    rw [set_same (by simpa using h)]
end DV

/-! DV2: what an expression computes. -/
namespace DV
open L2 PySem PySem.Spec PyProof.Rows
abbrev kc (X : Cx) : Kc := ⟨X.K, X.mg⟩
abbrev FD := Env → Option (D × Env)
abbrev FW := Env → Option (D × Bool × Env)
abbrev FT := Env → Option (Bool × Env)
abbrev FL := Env → Option (List D × Env)
/-- an operand: a name (looked up late), or a value -/
inductive Opd where
  | at (i : Nat) | va (d : D)
abbrev FO := Env → Option (Opd × Env)

def tD (K : Kc) (g : FD) : TE := fun σ H Q => ∃ F B as ρ d ρ', Sit K F B H ρ σ as ∧ g ρ = some (d, ρ') ∧
  ∀ v H' F' as', Ext F as H F' as' H' → Sit K F' B H' ρ' σ as' → Rep K F' H' d v → Q v H'
structure Sit2 (K : Kc) (F : Addr → Prop) (B : List Addr) (H : Hp) (ρ : Env) (σ : L2.St) (as : List Addr) (d : D) (w : Bool) (v : V) (bs : List Addr) : Prop where
  env : EnvR K F B H ρ σ as
  nd : (bs ++ as).Nodup
  nf : ∀ a, a ∈ bs ++ as → ¬ F a
  fk : ∀ b, F b → H b ≠ none
  res : if w = true then Own K F H d v bs else bs = [] ∧ Rep K F H d v
def tW (K : Kc) (g : FW) : TE := fun σ H Q => ∃ F B as ρ d w ρ', Sit K F B H ρ σ as ∧ g ρ = some (d, w, ρ') ∧
  ∀ v H' F' as' bs, Ext F as H F' (bs ++ as') H' → Sit2 K F' B H' ρ' σ as' d w v bs → Q v H'
def tB (K : Kc) (g : FT) : TT := fun σ H Q => ∃ F B as ρ b ρ', Sit K F B H ρ σ as ∧ g ρ = some (b, ρ') ∧
  ∀ H' F' as', Ext F as H F' as' H' → Sit K F' B H' ρ' σ as' → Q b H'
def tL (K : Kc) (g : FL) : TA := fun σ H Q => ∃ F B as ρ ds ρ', Sit K F B H ρ σ as ∧ g ρ = some (ds, ρ') ∧
  ∀ vs H' F' as', Ext F as H F' as' H' → Sit K F' B H' ρ' σ as' → RepL K F' H' ds vs → Q vs H'
def OpdR (K : Kc) (F : Addr → Prop) (H : Hp) (σ : L2.St) : Opd → V → Prop
  | .va d, v => Rep K F H d v
  | .at i, v => σ[i]? = some (some v)
def tO (K : Kc) (g : FO) : TE := fun σ H Q => ∃ F B as ρ o ρ', Sit K F B H ρ σ as ∧ g ρ = some (o, ρ') ∧
  ∀ v H' F' as', Ext F as H F' as' H' → Sit K F' B H' ρ' σ as' → OpdR K F' H' σ o v → Q v H'

theorem PE.to {X : Cx} {e : Expr} {t t' : TE} (h : PE X e t) (c : ∀ σ H Q, t' σ H Q → t σ H Q) : PE X e t' := ⟨fun pins s σ H Q I hq => h.run pins s σ H Q I (c σ H Q hq)⟩
/-- the answer may be locked for good -/
def tLk (t : TE) : TE := fun σ H Q => t σ H fun v H1 => Q v H1 ∨ ∃ d u, H1 d = some u ∧ Mut (some u) ∧ ∀ od, Q v (upd H1 d (.frz od u))
theorem PE.lk {X : Cx} {e : Expr} {t : TE} (h : PE X e t) : PE X e (tLk t) := by
  refine ⟨fun pins s σ H Q I hq => thn (h.run pins s σ H _ I hq) fun v s1 ⟨x, H1, I1, r, q⟩ => ?_⟩
  rcases q with q | ⟨d, u, hd, mu, q⟩
  · exact ⟨x, H1, I1, r, q⟩
  · obtain ⟨od, I2⟩ := I1.lock hd mu
    exact ⟨x, _, I2, r, q od⟩
theorem PT.to {X : Cx} {e : Expr} {t t' : TT} (h : PT X e t) (c : ∀ σ H Q, t' σ H Q → t σ H Q) : PT X e t' := ⟨fun pins s σ H Q I hq => h.run pins s σ H Q I (c σ H Q hq)⟩
theorem PA.to {X : Cx} {es : List Expr} {t t' : TA} (h : PA X es t) (c : ∀ σ H Q, t' σ H Q → t σ H Q) : PA X es t' := ⟨fun pos pins s σ H Q I hq => h.run pos pins s σ H Q I (c σ H Q hq)⟩

/-! ### a thing that is looked at: its parts never change -/
def Vw (K : Kc) (F : Addr → Prop) (H : Hp) : D → V → Prop
  | .lst ds, v => ∃ a vs, v = .ref a ∧ H a = some (.lst vs) ∧ RepL K F H ds vs
  | .dic ks ds, v => ∃ a kvs, v = .ref a ∧ Rd H a (.dK kvs) ∧ ks = kvs.map (fun p => dkey p.1) ∧ RepL K F H ds (kvs.map (·.2))
  | .ins c ns os ds, v => ∃ as, OwnI K F H c ns os ds v as
  | d, v => Rep K F H d v
theorem Rep.vw {K : Kc} {F : Addr → Prop} {H : Hp} {d : D} {v : V} (h : Rep K F H d v) : Vw K F H d v := by
  cases d with
  | lst ds => unfold Rep at h; unfold Vw; obtain ⟨a, vs, e, _, h1, h2⟩ := h; exact ⟨a, vs, e, h1, h2⟩
  | dic ks ds => unfold Rep at h; unfold Vw; obtain ⟨a, o, kvs, e, _, h1, h3, h2⟩ := h; exact ⟨a, kvs, e, .inr ⟨o, h1⟩, h3, h2⟩
  | ins c ns os ds => unfold Rep at h; exact h.elim
  | _ => unfold Vw; exact h
theorem Own.vw {K : Kc} {F : Addr → Prop} {H : Hp} {d : D} {v : V} {as : List Addr} (h : Own K F H d v as) : Vw K F H d v := by
  cases d with
  | lst ds => unfold Own OwnC at h; unfold Vw; obtain ⟨a, vs, e, h1, h2, _⟩ := h; exact ⟨a, vs, e, h1, h2⟩
  | dic ks ds => unfold Own OwnC at h; unfold Vw; obtain ⟨a, vs, e, h1, h3, h2, _⟩ := h; exact ⟨a, vs, e, .inl h1, h3, h2⟩
  | ins c ns os ds => unfold Own at h; unfold Vw; exact ⟨as, h⟩
  | _ => unfold Own OwnC at h; exact h.elim

def look (ρ : Env) (i : Nat) : Option D := match ρ[i]? with
  | some (.sh d) => some d
  | some (.ow d) => some d
  | some (.bo _ d) => some d
  | _ => none
def res (ρ : Env) : Opd → Option D
  | .va d => some d
  | .at i => look ρ i
theorem Sit.look {K : Kc} {F : Addr → Prop} {B : List Addr} {H : Hp} {ρ : Env} {σ : L2.St} {as : List Addr} (S : Sit K F B H ρ σ as) {i : Nat} {d : D} {v : V} (e : look ρ i = some d) (hv : σ[i]? = some (some v)) : Vw K F H d v := by
  unfold DV.look at e
  split at e
  · rename_i d' q
    cases e
    obtain ⟨o, p, a, qq, _, eo, hs, _⟩ := S.env.split q
    rw [hv] at eo; cases eo
    unfold SlR at hs
    obtain ⟨_, v', e1, r⟩ := hs
    cases e1; exact r.vw
  · rename_i d' q
    cases e
    obtain ⟨o, p, a, qq, _, eo, hs, _⟩ := S.env.split q
    rw [hv] at eo; cases eo
    unfold SlR at hs
    obtain ⟨v', e1, r⟩ := hs
    cases e1; exact r.vw
  · rename_i k d' q
    cases e
    obtain ⟨o, p, a, qq, _, eo, hs, _⟩ := S.env.split q
    rw [hv] at eo; cases eo
    unfold SlR at hs
    obtain ⟨v', e1, _, r⟩ := hs
    cases e1; exact r.vw
  · cases e
theorem Sit.there {K : Kc} {F : Addr → Prop} {B : List Addr} {H : Hp} {ρ : Env} {σ : L2.St} {as : List Addr} (S : Sit K F B H ρ σ as) {i : Nat} {d : D} (e : DV.look ρ i = some d) : ∃ v, σ[i]? = some (some v) := by
  unfold DV.look at e
  split at e
  · rename_i d' q
    obtain ⟨o, p, a, qq, _, eo, hs, _⟩ := S.env.split q
    unfold SlR at hs
    obtain ⟨_, v', e1, r⟩ := hs
    subst e1; exact ⟨v', eo⟩
  · rename_i d' q
    obtain ⟨o, p, a, qq, _, eo, hs, _⟩ := S.env.split q
    unfold SlR at hs
    obtain ⟨v', e1, r⟩ := hs
    subst e1; exact ⟨v', eo⟩
  · rename_i k d' q
    obtain ⟨o, p, a, qq, _, eo, hs, _⟩ := S.env.split q
    unfold SlR at hs
    obtain ⟨v', e1, _, r⟩ := hs
    subst e1; exact ⟨_, eo⟩
  · cases e
theorem Sit.res {K : Kc} {F : Addr → Prop} {B : List Addr} {H : Hp} {ρ : Env} {σ : L2.St} {as : List Addr} (S : Sit K F B H ρ σ as) {o : Opd} {d : D} {v : V} (e : DV.res ρ o = some d) (h : OpdR K F H σ o v) : Vw K F H d v := by
  cases o with
  | va d' => cases e; exact Rep.vw h
  | «at» i => exact S.look e h
theorem OpdR.stb {K : Kc} {F F2 : Addr → Prop} {H H2 : Hp} {σ : L2.St} (s : Stb F H F2 H2) {o : Opd} {v : V} (h : OpdR K F H σ o v) : OpdR K F2 H2 σ o v := by
  cases o with
  | va d => exact Rep.stb s _ _ h
  | «at» i => exact h

/-- two in a row -/
theorem seqOO {K : Kc} {ga gb : FO} {σ : L2.St} {H : Hp} {R : V → V → Hp → Prop} {F : Addr → Prop} {B : List Addr} {as : List Addr} {ρ ρ1 ρ2 : Env} {x y : Opd} (S : Sit K F B H ρ σ as) (e1 : ga ρ = some (x, ρ1)) (e2 : gb ρ1 = some (y, ρ2))
    (h : ∀ vx vy H2 F2 as2, Ext F as H F2 as2 H2 → Sit K F2 B H2 ρ2 σ as2 → OpdR K F2 H2 σ x vx → OpdR K F2 H2 σ y vy → R vx vy H2) : tO K ga σ H fun vx H1 => tO K gb σ H1 fun vy H2 => R vx vy H2 :=
  ⟨F, B, as, ρ, x, ρ1, S, e1, fun vx H1 F1 as1 E1 S1 r1 => ⟨F1, B, as1, ρ1, y, ρ2, S1, e2, fun vy H2 F2 as2 E2 S2 r2 => h vx vy H2 F2 as2 (E1.trans E2) S2 (r1.stb E2.stb) r2⟩⟩

section
variable {X : Cx} {pos : Pos}
/-! ### constants and names -/
theorem cd_int {i j} : PE X (.Constant (.int i) j pos) (tD (kc X) fun ρ => some (.int i, ρ)) := PE.to pe_int fun σ H Q ⟨F, B, as, ρ, d, ρ', S, e, h⟩ => by
  cases e; exact h _ H F as .refl S (by unfold Rep; rfl)
theorem cd_bl {i j} : PE X (.Constant (.bool i) j pos) (tD (kc X) fun ρ => some (.bl i, ρ)) := PE.to pe_bl fun σ H Q ⟨F, B, as, ρ, d, ρ', S, e, h⟩ => by
  cases e; exact h _ H F as .refl S (by unfold Rep; rfl)
theorem cd_non {j} : PE X (.Constant .none j pos) (tD (kc X) fun ρ => some (.non, ρ)) := PE.to pe_non fun σ H Q ⟨F, B, as, ρ, d, ρ', S, e, h⟩ => by
  cases e; exact h _ H F as .refl S (by unfold Rep; rfl)
theorem cd_str {i j} : PE X (.Constant (.str i) j pos) (tD (kc X) fun ρ => some (.str i, ρ)) := PE.to pe_str fun σ H Q ⟨F, B, as, ρ, d, ρ', S, e, h⟩ => by
  cases e; exact h _ H F as .refl S (by unfold Rep; rfl)
/-- a constant of the module -/
structure GlD (X : Cx) (x : Str) (d : D) : Prop where
  gl : Gl X x
  at_ : ∃ u v, X.mg x = some u ∧ RelV v u ∧ ∀ F H, Rep (kc X) F H d v
theorem cd_glob {x : Str} {d : D} (G : GlD X x d) (hd : (x == ("__debug__" : Str)) = false := by decide) : PE X (.Name x pos) (tD (kc X) fun ρ => some (d, ρ)) := by
  obtain ⟨u, v, hm, r, hr⟩ := G.at_
  exact PE.to (pe_glob G.gl hm r hd) fun σ H Q ⟨F, B, as, ρ, d, ρ', S, e, h⟩ => by cases e; exact h _ H F as .refl S (hr F H)
/-- a built-in type as a value -/
theorem cd_type {x : Str} {n : String} (hg : Gl X x) (hm : X.mg x = none) (hv : bootBuiltins x = some (.type n)) (hn : x ≠ "__name__" := by decide) (hd : (x == ("__debug__" : Str)) = false := by decide) : PE X (.Name x pos) (tD (kc X) fun ρ => some (.ty n, ρ)) :=
  PE.to (pe_bltn (v := .ty n) hg hm hv rfl hn hd) fun σ H Q ⟨F, B, as, ρ, d, ρ', S, e, h⟩ => by cases e; exact h _ H F as .refl S (by unfold Rep; rfl)
def gNm (i : Nat) : FD := fun ρ => match ρ[i]? with
  | some (.sh d) => some (d, ρ)
  | some (.ow d) => if isC d = true then some (d, ρ.set i (.sh d)) else none
  | _ => none
theorem nodup_mid {p a q : List Addr} (h : (p ++ (a ++ q)).Nodup) : (p ++ q).Nodup ∧ ∀ b, b ∈ p ++ q → b ∉ a := by
  rw [List.nodup_append] at h
  obtain ⟨h1, h2, h3⟩ := h
  rw [List.nodup_append] at h2
  obtain ⟨h4, h5, h6⟩ := h2
  refine ⟨List.nodup_append.mpr ⟨h1, h5, fun x hx y hy => h3 x hx y (List.mem_append_right _ hy)⟩, fun b hb ha => ?_⟩
  rcases List.mem_append.mp hb with hb | hb
  · exact h3 b hb b (List.mem_append_left _ ha) rfl
  · exact h6 b ha b hb rfl
/-- an own list of a name is shared from now on -/
theorem Sit.freeze {K : Kc} {F : Addr → Prop} {B : List Addr} {H : Hp} {ρ : Env} {σ : L2.St} {as : List Addr} (S : Sit K F B H ρ σ as) {i : Nat} {ds : List D} (e : ρ[i]? = some (.ow (.lst ds))) :
    ∃ v F' as', σ[i]? = some (some v) ∧ Ext F as H F' as' H ∧ Sit K F' B H (ρ.set i (.sh (.lst ds))) σ as' ∧ Rep K F' H (.lst ds) v := by
  obtain ⟨o, p, a, q, ea, eo, hs, hr⟩ := S.env.split e
  unfold SlR at hs
  obtain ⟨v, e1, r⟩ := hs
  subst e1 ea
  have fz := r.frozen
  obtain ⟨n1, n2⟩ := nodup_mid S.nd
  have th : ∀ b, b ∈ a → H b ≠ none := fun b m => ne_none (r.there b m)
  refine ⟨v, fun b => F b ∨ b ∈ a, p ++ q, eo, Ext.freeze (fun b m => by simp [m]) (fun b m => ?_) th, ⟨?_, n1, fun b m f => ?_, fun b h => h.elim (S.fk b) (th b)⟩, fz⟩
  · rcases List.mem_append.mp m with m | m <;> simp [m]
  · have s : Stb F H (fun b => F b ∨ b ∈ a) H := ⟨fun b h => .inl h, fun _ _ h => h, fun _ _ _ h => h, fun _ _ _ h => h, fun _ _ _ h => h⟩
    have z := hr (.sh (.lst ds)) (some v) [] s (Kept.of fun _ _ h => h) (by unfold SlR; exact ⟨rfl, v, rfl, fz⟩)
    rw [set_same eo] at z
    simpa using z
  · rcases f with f | f
    · refine S.nf b ?_ f
      rcases List.mem_append.mp m with m | m <;> simp [m]
    · exact n2 b m f
/-- an own dict of a name is locked for good -/
theorem Sit.lockD {K : Kc} {F : Addr → Prop} {B : List Addr} {H : Hp} {ρ : Env} {σ : L2.St} {as : List Addr} (S : Sit K F B H ρ σ as) {i : Nat} {ks ds : List D} (e : ρ[i]? = some (.ow (.dic ks ds))) :
    ∃ v a kvs as', σ[i]? = some (some v) ∧ H a = some (.dK kvs) ∧ ∀ od, Ext F as H (fun b => F b ∨ b ∈ [a]) as' (upd H a (.frz od (.dK kvs))) ∧ Sit K (fun b => F b ∨ b ∈ [a]) B (upd H a (.frz od (.dK kvs))) (ρ.set i (.sh (.dic ks ds))) σ as' ∧ Rep K (fun b => F b ∨ b ∈ [a]) (upd H a (.frz od (.dK kvs))) (.dic ks ds) v := by
  obtain ⟨o, p, aa, q, ea, eo, hs, hr⟩ := S.env.split e
  unfold SlR at hs
  obtain ⟨v, e1, r⟩ := hs
  subst e1 ea
  obtain ⟨a, kvs, e2, e3, h1, fin⟩ := r.lockD
  subst e3
  obtain ⟨n1, n2⟩ := nodup_mid S.nd
  have ma : a ∈ p ++ ([a] ++ q) := by simp
  refine ⟨v, a, kvs, p ++ q, eo, h1, fun od => ?_⟩
  have E1 : Ext F (p ++ ([a] ++ q)) H F (p ++ ([a] ++ q)) (upd H a (.frz od (.dK kvs))) := Ext.write h1 (fun _ z => by cases z) (fun _ _ z => by cases z) ma (S.nf a ma)
  have E2 : Ext F (p ++ ([a] ++ q)) (upd H a (.frz od (.dK kvs))) (fun b => F b ∨ b ∈ [a]) (p ++ q) (upd H a (.frz od (.dK kvs))) := Ext.freeze (fun b m => by rw [List.mem_singleton.mp m]; exact ma) (fun b m => by
    rcases List.mem_append.mp m with m | m <;> simp [m]) (fun b m => by rw [List.mem_singleton.mp m, upd_same]; exact fun z => by cases z)
  have E := E1.trans E2
  have rep := fin (fun b => F b ∨ b ∈ [a]) od E.stb (.inr (by simp))
  have z := hr (.sh (.dic ks ds)) (some v) [] E.stb (fun b m u hb => by rw [upd_ne (fun e => n2 b m (by rw [e]; simp))]; exact hb) (by unfold SlR; exact ⟨rfl, v, rfl, rep⟩)
  rw [set_same eo] at z
  refine ⟨E, ⟨by simpa using z, n1, fun b m f => ?_, E.fk S.fk⟩, rep⟩
  rcases f with f | f
  · refine S.nf b ?_ f
    rcases List.mem_append.mp m with m | m <;> simp [m]
  · exact n2 b m f
theorem cd_name {i : Nat} {x : Str} (hN : X.N[i]? = some x := by rfl) (hv : Vis X.env.scope x := by first | exact Or.inl rfl | exact Or.inr (Or.inl rfl) | exact Or.inr (Or.inr rfl)) (hd : (x == ("__debug__" : Str)) = false := by decide)
    (hcd : (x == ("__classdict__" : Str)) = false := by decide) : PE X (.Name x pos) (tD (kc X) (gNm i)) := PE.to (PE.lk (pe_var hN hv hd hcd)) fun σ H Q ⟨F, B, as, ρ, d, ρ', S, e, h⟩ => by
  unfold gNm at e
  split at e
  · rename_i d' q
    cases e
    obtain ⟨o, p, a, qq, _, eo, hs, _⟩ := S.env.split q
    unfold SlR at hs
    obtain ⟨_, v, e1, r⟩ := hs
    subst e1
    exact ⟨v, eo, .inl (h v H F as .refl S r)⟩
  · rename_i d' q
    split at e
    · rename_i hc
      cases e
      cases d with
      | lst ds =>
        obtain ⟨v, F', as', ev, E, S', r⟩ := S.freeze q
        exact ⟨v, ev, .inl (h v H F' as' E S' r)⟩
      | dic ks ds =>
        obtain ⟨v, a, kvs, as', ev, h1, fin⟩ := S.lockD q
        exact ⟨v, ev, .inr ⟨a, _, h1, True.intro, fun od => h v _ _ as' (fin od).1 (fin od).2.1 (fin od).2.2⟩⟩
      | _ => exact absurd hc (by simp [isC])
    · cases e
  · cases e
/-- a name as an operand -/
theorem co_name {i : Nat} {x : Str} (hN : X.N[i]? = some x := by rfl) (hv : Vis X.env.scope x := by first | exact Or.inl rfl | exact Or.inr (Or.inl rfl) | exact Or.inr (Or.inr rfl)) (hd : (x == ("__debug__" : Str)) = false := by decide)
    (hcd : (x == ("__classdict__" : Str)) = false := by decide) : PE X (.Name x pos) (tO (kc X) fun ρ => (look ρ i).map fun _ => (.at i, ρ)) := PE.to (pe_var hN hv hd hcd) fun σ H Q ⟨F, B, as, ρ, o, ρ', S, e, h⟩ => by
  obtain ⟨d, hl, e2⟩ := Option.map_eq_some_iff.mp e
  cases e2
  obtain ⟨v, ev⟩ := S.there hl
  exact ⟨v, ev, h v H F as .refl S ev⟩
theorem co_of {e : Expr} {g : FD} (h : PE X e (tD (kc X) g)) : PE X e (tO (kc X) fun ρ => (g ρ).map fun p => (.va p.1, p.2)) := PE.to h fun σ H Q ⟨F, B, as, ρ, o, ρ', S, e, h⟩ => by
  obtain ⟨p, hl, e2⟩ := Option.map_eq_some_iff.mp e
  cases e2
  exact ⟨F, B, as, ρ, p.1, p.2, S, hl, fun v H' F' as' E S' r => h v H' F' as' E S' r⟩

/-! ### owned results -/
theorem cw_of {e : Expr} {g : FD} (h : PE X e (tD (kc X) g)) : PE X e (tW (kc X) fun ρ => (g ρ).map fun p => (p.1, false, p.2)) := PE.to h fun σ H Q ⟨F, B, as, ρ, d, w, ρ', S, e, h⟩ => by
  obtain ⟨p, hl, e2⟩ := Option.map_eq_some_iff.mp e
  cases e2
  exact ⟨F, B, as, ρ, p.1, p.2, S, hl, fun v H' F' as' E S' r => h v H' F' as' [] E ⟨S'.env, S'.nd, S'.nf, S'.fk, by simp [r]⟩⟩
def shW (g : FW) : FD := fun ρ => match g ρ with
  | some (d, true, ρ') => if isC d = true then some (d, ρ') else none
  | some (d, false, ρ') => some (d, ρ')
  | none => none
theorem Sit2.frozen {K : Kc} {F : Addr → Prop} {B : List Addr} {H : Hp} {ρ : Env} {σ : L2.St} {as : List Addr} {ds : List D} {v : V} {bs : List Addr} (S : Sit2 K F B H ρ σ as (.lst ds) true v bs) :
    Ext F (bs ++ as) H (fun b => F b ∨ b ∈ bs) as H ∧ Sit K (fun b => F b ∨ b ∈ bs) B H ρ σ as ∧ Rep K (fun b => F b ∨ b ∈ bs) H (.lst ds) v := by
  have r := S.res
  simp only [if_true] at r
  have s : Stb F H (fun b => F b ∨ b ∈ bs) H := ⟨fun b h => .inl h, fun _ _ h => h, fun _ _ _ h => h, fun _ _ _ h => h, fun _ _ _ h => h⟩
  have n := List.nodup_append.mp S.nd
  have th : ∀ b, b ∈ bs → H b ≠ none := fun b m => ne_none (r.there b m)
  refine ⟨Ext.freeze (fun b m => by simp [m]) (fun b m => by simp [m]) th, ⟨S.env.stb s (Kept.of fun _ _ h => h), n.2.1, fun b m f => ?_, fun b h => h.elim (S.fk b) (th b)⟩, r.frozen⟩
  rcases f with f | f
  · exact S.nf b (List.mem_append_right _ m) f
  · exact n.2.2 b f b m rfl
theorem Sit2.lockD {K : Kc} {F : Addr → Prop} {B : List Addr} {H : Hp} {ρ : Env} {σ : L2.St} {as : List Addr} {ks ds : List D} {v : V} {bs : List Addr} (S : Sit2 K F B H ρ σ as (.dic ks ds) true v bs) :
    ∃ a kvs, H a = some (.dK kvs) ∧ ∀ od, Ext F (bs ++ as) H (fun b => F b ∨ b ∈ [a]) as (upd H a (.frz od (.dK kvs))) ∧ Sit K (fun b => F b ∨ b ∈ [a]) B (upd H a (.frz od (.dK kvs))) ρ σ as ∧ Rep K (fun b => F b ∨ b ∈ [a]) (upd H a (.frz od (.dK kvs))) (.dic ks ds) v := by
  have r := S.res
  simp only [if_true] at r
  obtain ⟨a, kvs, e2, e3, h1, fin⟩ := r.lockD
  subst e3
  have n := List.nodup_append.mp S.nd
  have ma : a ∈ [a] ++ as := by simp
  refine ⟨a, kvs, h1, fun od => ?_⟩
  have E1 : Ext F ([a] ++ as) H F ([a] ++ as) (upd H a (.frz od (.dK kvs))) := Ext.write h1 (fun _ z => by cases z) (fun _ _ z => by cases z) ma (S.nf a ma)
  have E2 : Ext F ([a] ++ as) (upd H a (.frz od (.dK kvs))) (fun b => F b ∨ b ∈ [a]) as (upd H a (.frz od (.dK kvs))) := Ext.freeze (fun b m => by rw [List.mem_singleton.mp m]; exact ma) (fun b m => by simp [m]) (fun b m => by rw [List.mem_singleton.mp m, upd_same]; exact fun z => by cases z)
  have E := E1.trans E2
  refine ⟨E, ⟨S.env.stb E.stb.weak (fun b m u hb => by rw [upd_ne (fun e => n.2.2 a (by simp) b m e.symm)]; exact hb), n.2.1, fun b m f => ?_, E.fk S.fk⟩, fin _ od E.stb (.inr (by simp))⟩
  rcases f with f | f
  · exact S.nf b (List.mem_append_right _ m) f
  · exact n.2.2 b f b m rfl
theorem Sit2.plain {K : Kc} {F : Addr → Prop} {B : List Addr} {H : Hp} {ρ : Env} {σ : L2.St} {as : List Addr} {d : D} {v : V} {bs : List Addr} (S : Sit2 K F B H ρ σ as d false v bs) : bs = [] ∧ Sit K F B H ρ σ as ∧ Rep K F H d v := by
  have r := S.res
  simp only [Bool.false_eq_true, if_false] at r
  obtain ⟨rfl, r⟩ := r
  exact ⟨rfl, ⟨S.env, S.nd, S.nf, S.fk⟩, r⟩
theorem cd_of {e : Expr} {g : FW} (h : PE X e (tW (kc X) g)) : PE X e (tD (kc X) (shW g)) := PE.to (PE.lk h) fun σ H Q ⟨F, B, as, ρ, d, ρ', S, e, h⟩ => by
  unfold shW at e
  split at e
  · rename_i d' ρ2 q
    split at e
    · rename_i hc
      cases e
      refine ⟨F, B, as, ρ, _, true, _, S, q, fun v H' F' as' bs E S' => ?_⟩
      cases d with
      | lst ds =>
        obtain ⟨E2, S2, r⟩ := S'.frozen
        exact .inl (h v H' _ as' (E.trans E2) S2 r)
      | dic ks ds =>
        obtain ⟨a, kvs, h1, fin⟩ := S'.lockD
        exact .inr ⟨a, _, h1, True.intro, fun od => h v _ _ as' (E.trans (fin od).1) (fin od).2.1 (fin od).2.2⟩
      | _ => exact absurd hc (by simp [isC])
    · cases e
  · rename_i d' ρ2 q
    cases e
    refine ⟨F, B, as, ρ, _, false, _, S, q, fun v H' F' as' bs E S' => ?_⟩
    obtain ⟨rfl, S2, r⟩ := S'.plain
    exact .inl (h v H' F' as' E S2 r)
  · cases e
/-- a name that is given up (returned) -/
def gMv (i : Nat) : FW := fun ρ => match ρ[i]? with
  | some (.sh d) => some (d, false, ρ)
  | some (.ow d) => some (d, true, ρ.set i .no)
  | _ => none
theorem cw_move {i : Nat} {x : Str} (hN : X.N[i]? = some x := by rfl) (hv : Vis X.env.scope x := by first | exact Or.inl rfl | exact Or.inr (Or.inl rfl) | exact Or.inr (Or.inr rfl)) (hd : (x == ("__debug__" : Str)) = false := by decide)
    (hcd : (x == ("__classdict__" : Str)) = false := by decide) : PE X (.Name x pos) (tW (kc X) (gMv i)) := PE.to (pe_var hN hv hd hcd) fun σ H Q ⟨F, B, as, ρ, d, w, ρ', S, e, h⟩ => by
  unfold gMv at e
  split at e
  · rename_i d' q
    cases e
    obtain ⟨o, p, a, qq, _, eo, hs, _⟩ := S.env.split q
    unfold SlR at hs
    obtain ⟨_, v, e1, r⟩ := hs
    subst e1
    exact ⟨v, eo, h v H F as [] .refl ⟨S.env, S.nd, S.nf, S.fk, by simp [r]⟩⟩
  · rename_i d' q
    cases e
    obtain ⟨o, p, a, qq, ea, eo, hs, hr⟩ := S.env.split q
    unfold SlR at hs
    obtain ⟨v, e1, r⟩ := hs
    subst e1 ea
    obtain ⟨n1, n2⟩ := nodup_mid S.nd
    have z := hr .no (some v) [] .refl (Kept.of fun _ _ h => h) (by unfold SlR; rfl)
    rw [set_same eo] at z
    have na : a.Nodup := by
      have := List.nodup_append.mp S.nd
      exact (List.nodup_append.mp this.2.1).1
    have mem : ∀ b, b ∈ a ++ (p ++ qq) → b ∈ p ++ (a ++ qq) := fun b m => by
      simp only [List.mem_append] at m ⊢
      rcases m with m | m | m <;> simp [m]
    refine ⟨v, eo, h v H F (p ++ qq) a (Ext.refl.sub mem) ⟨by simpa using z, List.nodup_append.mpr ⟨na, n1, fun x hx y hy e => n2 y hy (e ▸ hx)⟩, fun b m => S.nf b (mem b m), S.fk, by simp [r]⟩⟩
  · cases e

/-! ### argument lists -/
theorem cl_nil : PA X [] (tL (kc X) fun ρ => some ([], ρ)) := PA.to pa_nil fun σ H Q ⟨F, B, as, ρ, d, ρ', S, e, h⟩ => by
  cases e; exact h _ H F as .refl S RepL.nil
def gCons (ga : FD) (gr : FL) : FL := fun ρ => match ga ρ with
  | some (d, ρ1) => match gr ρ1 with
    | some (ds, ρ2) => some (d :: ds, ρ2)
    | none => none
  | none => none
theorem gCons_some {ga : FD} {gr : FL} {ρ : Env} {ds : List D} {ρ' : Env} (h : gCons ga gr ρ = some (ds, ρ')) : ∃ d ρ1 r, ga ρ = some (d, ρ1) ∧ gr ρ1 = some (r, ρ') ∧ ds = d :: r := by
  unfold gCons at h
  split at h
  · rename_i d ρ1 q
    split at h
    · rename_i r ρ2 q2
      cases h
      exact ⟨d, ρ1, r, q, q2, rfl⟩
    · cases h
  · cases h
theorem cl_cons {e : Expr} {es : List Expr} {ga : FD} {gr : FL} (ha : PE X e (tD (kc X) ga)) (hr : PA X es (tL (kc X) gr)) (hs : starEach (e :: es) X.env = (false, eval e X.env) :: starEach es X.env := by rfl) : PA X (e :: es) (tL (kc X) (gCons ga gr)) :=
  PA.to (pa_cons ha hr hs) fun σ H Q ⟨F, B, as, ρ, ds, ρ', S, e, h⟩ => by
    obtain ⟨d, ρ1, r, e1, e2, rfl⟩ := gCons_some e
    exact ⟨F, B, as, ρ, d, ρ1, S, e1, fun v H1 F1 as1 E1 S1 r1 => ⟨F1, B, as1, ρ1, r, ρ', S1, e2, fun vs H2 F2 as2 E2 S2 r2 => h _ H2 F2 as2 (E1.trans E2) S2 (RepL.cons (Rep.stb E2.stb _ _ r1) r2)⟩⟩

/-! ### displays -/
def SZ : Nat := 100000
theorem sz_le {n : Nat} (h : n ≤ SZ) : n ≤ sizeLine := by rw [sizeLine_eq]; unfold SZ at h; omega
theorem sz_lt {n : Nat} (h : n ≤ SZ) : n < sizeLine := by rw [sizeLine_eq]; unfold SZ at h; omega
theorem Rep.newF {K : Kc} {F : Addr → Prop} {H : Hp} {p : Addr} {o : HO} (hp : H p = none) {as : List Addr} : Stb F H (fun b => F b ∨ b = p) (upd H p o) := (Ext.newF (as := as) hp).stb
/-- a new tuple -/
theorem new_tup {K : Kc} {F : Addr → Prop} {H : Hp} {p : Addr} {ds : List D} {vs : List V} (hp : H p = none) (r : RepL K F H ds vs) : Ext F [] H F [] (upd H p (.tup vs)) ∧ Rep K F (upd H p (.tup vs)) (.tup ds) (.ref p) := by
  have E : Ext F [] H F [p] (upd H p (.tup vs)) := Ext.newO hp
  refine ⟨E.sub (fun b m => by cases m), ?_⟩
  unfold Rep
  exact ⟨p, vs, rfl, SqT.of upd_same, RepL.stb E.stb _ _ r⟩
def gTup (g : FL) : FD := fun ρ => match g ρ with
  | some (ds, ρ') => if ds.length ≤ SZ then some (.tup ds, ρ') else none
  | none => none
theorem cd_tup {es : List Expr} {g : FL} {k} (h : PA X es (tL (kc X) g)) : PE X (.Tuple es k pos) (tD (kc X) (gTup g)) := PE.to (pe_tup h) fun σ H Q ⟨F, B, as, ρ, d, ρ', S, e, h⟩ => by
  unfold gTup at e
  split at e
  · rename_i ds ρ2 q
    split at e
    · rename_i hz
      cases e
      refine ⟨F, B, as, ρ, ds, _, S, q, fun vs H' F' as' E S' r => ⟨sz_le (by rw [r.length]; exact hz), fun p hp => ?_⟩⟩
      obtain ⟨E2, r2⟩ := new_tup hp r
      exact h _ _ F' as' (E.trans E2.pure) (S'.step E2) r2
    · cases e
  · cases e
/-- a fresh own container -/
theorem new_own {K : Kc} {F : Addr → Prop} {B : List Addr} {H : Hp} {ρ : Env} {σ : L2.St} {as : List Addr} {p : Addr} {o : HO} {d : D} (hp : H p = none) (S : Sit K F B H ρ σ as) (r : Own K F (upd H p o) d (.ref p) [p]) :
    Ext F as H F ([p] ++ as) (upd H p o) ∧ Sit2 K F B (upd H p o) ρ σ as d true (.ref p) [p] := by
  have E : Ext F as H F (p :: as) (upd H p o) := Ext.newO hp
  have hf : ¬ F p := fun f => S.fk p f hp
  refine ⟨E, ⟨S.env.stb E.stb (Kept.of fun b u h => by rw [upd_ne (ne_of_none h hp)]; exact h), ?_, fun b m => ?_, E.fk S.fk, by simp only [if_true]; exact r⟩⟩
  · refine List.nodup_cons.mpr ⟨fun m => ?_, S.nd⟩
    obtain ⟨u, q⟩ := S.env.there p m
    rw [hp] at q; cases q
  · rcases List.mem_cons.mp m with m | m
    · rw [m]; exact hf
    · exact S.nf b m
end
end DV

/-! DV3: operators, comparisons, subscripts, tests, built-ins. -/
namespace DV
open L2 PySem PySem.Spec PyProof.Rows

/-! ### data as the library's data -/
mutual
def toPy : D → PyData
  | .non => .none
  | .bl b => .bool b
  | .int i => .int i
  | .str x => .str x
  | .lst xs => .list (toPyL xs)
  | .tup xs => .tuple (toPyL xs)
  | .ty _ => .dict []
  | .fn _ => .dict []
  | .dic _ _ => .dict []
  | .scr _ => .dict []
  | .ins _ _ _ _ => .dict []
def toPyL : List D → List PyData
  | [] => []
  | d :: ds => toPy d :: toPyL ds
end
def okPy (d : D) : Bool := SeqAt.shaped (toPy d)
mutual
theorem Rep.dp {K : Kc} {F : Addr → Prop} {H : Hp} : ∀ (d : D) (v : V), Rep K F H d v → (toPy d).canLay0 = true → Dp K.K H v (toPy d)
  | .non, v, h, _ => by unfold Rep at h; subst h; unfold toPy; exact .non
  | .bl b, v, h, _ => by unfold Rep at h; subst h; unfold toPy; exact .bl b
  | .int i, v, h, _ => by unfold Rep at h; subst h; unfold toPy; exact .int i
  | .str x, v, h, _ => by unfold Rep at h; subst h; unfold toPy; exact .str x
  | .lst ds, v, h, c => by
    unfold Rep at h
    obtain ⟨a, vs, rfl, _, h1, h2⟩ := h
    unfold toPy at c ⊢
    exact .lst (SqL.of h1) (RepL.dp ds vs h2 (by simpa [PyData.canLay0] using c))
  | .tup ds, v, h, c => by
    unfold Rep at h
    obtain ⟨a, vs, rfl, h1, h2⟩ := h
    unfold toPy at c ⊢
    exact .tup h1 (RepL.dp ds vs h2 (by simpa [PyData.canLay0] using c))
  | .ty _, _, _, c => by simp [toPy, PyData.canLay0] at c
  | .fn _, _, _, c => by simp [toPy, PyData.canLay0] at c
  | .dic _ _, _, _, c => by simp [toPy, PyData.canLay0] at c
  | .scr _, _, _, c => by simp [toPy, PyData.canLay0] at c
  | .ins _ _ _ _, _, _, c => by simp [toPy, PyData.canLay0] at c
theorem RepL.dp {K : Kc} {F : Addr → Prop} {H : Hp} : ∀ (ds : List D) (vs : List V), RepL K F H ds vs → PyData.canLayAll0 (toPyL ds) = true → DpAll K.K H vs (toPyL ds)
  | [], vs, h, _ => by unfold RepL at h; subst h; unfold toPyL; exact .nil
  | d :: ds, vs, h, c => by
    unfold RepL at h
    obtain ⟨v, r, rfl, h1, h2⟩ := h
    unfold toPyL at c ⊢
    simp only [PyData.canLayAll0, Bool.and_eq_true] at c
    exact .cons (Rep.dp d v h1 c.1) (RepL.dp ds r h2 c.2)
end
theorem Vw.dp {K : Kc} {F : Addr → Prop} {H : Hp} {d : D} {v : V} (h : Vw K F H d v) (c : okPy d = true) : Dp K.K H v (toPy d) := by
  have c := SeqAt.canLay_of_shaped c
  cases d with
  | lst ds =>
    unfold Vw at h
    obtain ⟨a, vs, rfl, h1, h2⟩ := h
    unfold toPy at c ⊢
    exact .lst (SqL.of h1) (RepL.dp ds vs h2 (by simpa [PyData.canLay0] using c))
  | dic ks ds => simp [toPy, PyData.canLay0] at c
  | ins _ _ _ _ => simp [toPy, PyData.canLay0] at c
  | _ => unfold Vw at h; exact Rep.dp _ _ h c

/-! ### values that are not objects -/
theorem Vw.int {K : Kc} {F : Addr → Prop} {H : Hp} {i : Int} {v : V} (h : Vw K F H (.int i) v) : v = .int i := by unfold Vw Rep at h; exact h
theorem Vw.str {K : Kc} {F : Addr → Prop} {H : Hp} {i : Str} {v : V} (h : Vw K F H (.str i) v) : v = .str i := by unfold Vw Rep at h; exact h
theorem Vw.bl {K : Kc} {F : Addr → Prop} {H : Hp} {i : Bool} {v : V} (h : Vw K F H (.bl i) v) : v = .bl i := by unfold Vw Rep at h; exact h
theorem Vw.non {K : Kc} {F : Addr → Prop} {H : Hp} {v : V} (h : Vw K F H .non v) : v = .non := by unfold Vw Rep at h; exact h
theorem Vw.tup {K : Kc} {F : Addr → Prop} {H : Hp} {ds : List D} {v : V} (h : Vw K F H (.tup ds) v) : ∃ a vs, v = .ref a ∧ SqT K.K H a vs ∧ RepL K F H ds vs := by unfold Vw Rep at h; exact h
theorem Vw.lst {K : Kc} {F : Addr → Prop} {H : Hp} {ds : List D} {v : V} (h : Vw K F H (.lst ds) v) : ∃ a vs, v = .ref a ∧ H a = some (.lst vs) ∧ RepL K F H ds vs := by unfold Vw at h; exact h
theorem Rep.int' {K : Kc} {F : Addr → Prop} {H : Hp} {i : Int} : Rep K F H (.int i) (.int i) := by unfold Rep; rfl
theorem Rep.str' {K : Kc} {F : Addr → Prop} {H : Hp} {i : Str} : Rep K F H (.str i) (.str i) := by unfold Rep; rfl
theorem Rep.bl' {K : Kc} {F : Addr → Prop} {H : Hp} {i : Bool} : Rep K F H (.bl i) (.bl i) := by unfold Rep; rfl
theorem Rep.non' {K : Kc} {F : Addr → Prop} {H : Hp} : Rep K F H .non .non := by unfold Rep; rfl
theorem Rep.tup' {K : Kc} {F : Addr → Prop} {H : Hp} {ds : List D} {a : Addr} {vs : List V} (h : SqT K.K H a vs) (r : RepL K F H ds vs) : Rep K F H (.tup ds) (.ref a) := by unfold Rep; exact ⟨a, vs, rfl, h, r⟩

/-! ### two-place operations -/
def PureR (K : Kc) (r : R2) (f : D → D → Option D) : Prop := ∀ (F : Addr → Prop) (H : Hp) (dx dy d : D) (vx vy : V) (Q : VK), (∀ b, F b → H b ≠ none) → f dx dy = some d → Vw K F H dx vx → Vw K F H dy vy →
  (∀ v F' H', Ext F [] H F' [] H' → Rep K F' H' d v → Q v H') → r vx vy H Q
theorem PureR.or {K : Kc} {r r' : R2} {f g : D → D → Option D} (h : PureR K r f) (h' : PureR K r' g) : PureR K (fun x y H Q => r x y H Q ∨ r' x y H Q) (fun x y => (f x y).or (g x y)) := by
  intro F H dx dy d vx vy Q fk e wx wy k
  cases q : f dx dy with
  | some d' =>
    simp only [q, Option.some_or] at e
    cases e
    exact .inl (h F H dx dy _ vx vy Q fk q wx wy k)
  | none =>
    simp only [q, Option.none_or] at e
    exact .inr (h' F H dx dy _ vx vy Q fk e wx wy k)
def gOp2 (f : D → D → Option D) (oa ob : FO) : FD := fun ρ => match oa ρ with
  | some (x, ρ1) => match ob ρ1 with
    | some (y, ρ2) => match res ρ2 x, res ρ2 y with
      | some dx, some dy => match f dx dy with
        | some d => some (d, ρ2)
        | none => none
      | _, _ => none
    | none => none
  | none => none
theorem gOp2_some {f : D → D → Option D} {oa ob : FO} {ρ : Env} {d : D} {ρ' : Env} (h : gOp2 f oa ob ρ = some (d, ρ')) : ∃ x ρ1 y dx dy, oa ρ = some (x, ρ1) ∧ ob ρ1 = some (y, ρ') ∧ res ρ' x = some dx ∧ res ρ' y = some dy ∧ f dx dy = some d := by
  unfold gOp2 at h
  split at h
  · rename_i x ρ1 q1
    split at h
    · rename_i y ρ2 q2
      split at h
      · rename_i dx dy q3 q4
        split at h
        · rename_i d' q5
          cases h
          exact ⟨x, ρ1, y, dx, dy, q1, q2, q3, q4, q5⟩
        · cases h
      · cases h
    · cases h
  · cases h
theorem op2_fit {K : Kc} {r : R2} {f : D → D → Option D} {oa ob : FO} (hp : PureR K r f) {σ : L2.St} {H : Hp} {Q : VK} (h : tD K (gOp2 f oa ob) σ H Q) : tOp r (tO K oa) (tO K ob) σ H Q := by
  obtain ⟨F, B, as, ρ, d, ρ', S, e, k⟩ := h
  obtain ⟨x, ρ1, y, dx, dy, e1, e2, e3, e4, e5⟩ := gOp2_some e
  exact seqOO S e1 e2 fun vx vy H2 F2 as2 E S2 rx ry => hp F2 H2 dx dy d vx vy Q S2.fk e5 (S2.res e3 rx) (S2.res e4 ry) fun v F' H' E' r => k v H' F' as2 (E.trans E'.pure) (S2.step E') r
section
variable {X : Cx} {pos : Pos}
theorem cd_bin {op : Operator} {r : R2} {f : D → D → Option D} {oa ob : FO} {a b : Expr} (ho : OpR X (binaryOp op) r) (hp : PureR (kc X) r f) (ha : PE X a (tO (kc X) oa)) (hb : PE X b (tO (kc X) ob)) : PE X (.BinOp a op b pos) (tD (kc X) (gOp2 f oa ob)) :=
  PE.to (pe_op ho ha hb) fun σ H Q h => op2_fit hp h
theorem cd_cmp {op : CmpOp} {r : R2} {f : D → D → Option D} {oa ob : FO} {a b : Expr} (ho : OpR X (compareOp op) r) (hp : PureR (kc X) r f) (ha : PE X a (tO (kc X) oa)) (hb : PE X b (tO (kc X) ob)) (hm : behindInMarks op b = false) : PE X (.Compare a [op] [b] pos) (tD (kc X) (gOp2 f oa ob)) :=
  PE.to (pe_cmpR ho ha hb hm) fun σ H Q h => op2_fit hp h
/-- as a test -/
def gT (g : FD) : FT := fun ρ => match g ρ with
  | some (.bl b, ρ') => some (b, ρ')
  | _ => none
theorem gT_some {g : FD} {ρ : Env} {b : Bool} {ρ' : Env} (h : gT g ρ = some (b, ρ')) : g ρ = some (.bl b, ρ') := by
  unfold gT at h
  split at h
  · rename_i b' ρ2 q; cases h; exact q
  · cases h
theorem tB_fit {K : Kc} {g : FD} {σ : L2.St} {H : Hp} {Q : Bool → Hp → Prop} (h : tB K (gT g) σ H Q) : tD K g σ H fun x H1 => ∃ k, x = .bl k ∧ Q k H1 := by
  obtain ⟨F, B, as, ρ, b, ρ', S, e, k⟩ := h
  exact ⟨F, B, as, ρ, .bl b, ρ', S, gT_some e, fun v H' F' as' E S' r => ⟨b, by unfold Rep at r; exact r, k H' F' as' E S'⟩⟩
theorem ct_cmp {op : CmpOp} {r : R2} {f : D → D → Option D} {oa ob : FO} {a b : Expr} (ho : OpR X (compareOp op) r) (hp : PureR (kc X) r f) (ha : PE X a (tO (kc X) oa)) (hb : PE X b (tO (kc X) ob)) (hm : behindInMarks op b = false) : PT X (.Compare a [op] [b] pos) (tB (kc X) (gT (gOp2 f oa ob))) :=
  PT.to (pt_cmpR ho ha hb hm) fun σ H Q h => op2_fit hp (tB_fit h)
theorem ct_val {e : Expr} {g : FD} (h : PE X e (tD (kc X) g)) (he : ∀ whole, isTrue e X.env whole = (do let v ← whole; standAt e.pos; holding [v] (truthy v)) := by intro _; rfl) : PT X e (tB (kc X) (gT g)) :=
  PT.to (pt_val h he) fun σ H Q h => tB_fit h
/-! ### and, or, not, if -/
def gAnd (a b : FT) : FT := fun ρ => match a ρ with
  | some (true, ρ1) => b ρ1
  | some (false, ρ1) => some (false, ρ1)
  | none => none
def gOr (a b : FT) : FT := fun ρ => match a ρ with
  | some (true, ρ1) => some (true, ρ1)
  | some (false, ρ1) => b ρ1
  | none => none
def gNot (a : FT) : FT := fun ρ => match a ρ with
  | some (c, ρ1) => some (!c, ρ1)
  | none => none
structure CB (X : Cx) (e : Expr) (g : FT) : Prop where
  run : PW X e (tB (kc X) g)
theorem CB.pt {e : Expr} {g : FT} (h : CB X e g) : PT X e (tB (kc X) g) := h.run.pt
theorem PW.to {e : Expr} {t t' : TT} (h : PW X e t) (c : ∀ σ H Q, t' σ H Q → t σ H Q) : PW X e t' := ⟨fun wh pins s σ H Q I hq => h.run wh pins s σ H Q I (c σ H Q hq)⟩
theorem cb_and1 {a : Expr} {g : FT} (h : PT X a (tB (kc X) g)) : CB X (.BoolOp .And [a] pos) g := ⟨pw_and1 h⟩
theorem cb_or1 {a : Expr} {g : FT} (h : PT X a (tB (kc X) g)) : CB X (.BoolOp .Or [a] pos) g := ⟨pw_or1 h⟩
theorem cb_and {a b : Expr} {rest : List Expr} {ga gb : FT} (ha : PT X a (tB (kc X) ga)) (hb : CB X (.BoolOp .And (b :: rest) pos) gb) : CB X (.BoolOp .And (a :: b :: rest) pos) (gAnd ga gb) :=
  ⟨PW.to (pw_and ha hb.run) fun σ H Q ⟨F, B, as, ρ, c, ρ', S, e, k⟩ => by
    unfold gAnd at e
    split at e
    · rename_i ρ1 q
      exact ⟨F, B, as, ρ, true, ρ1, S, q, fun H1 F1 as1 E1 S1 => by simp only [if_true]; exact ⟨F1, B, as1, ρ1, c, ρ', S1, e, fun H2 F2 as2 E2 S2 => k H2 F2 as2 (E1.trans E2) S2⟩⟩
    · rename_i ρ1 q
      cases e
      exact ⟨F, B, as, ρ, false, _, S, q, fun H1 F1 as1 E1 S1 => by simp only [Bool.false_eq_true, if_false]; exact k H1 F1 as1 E1 S1⟩
    · cases e⟩
theorem cb_or {a b : Expr} {rest : List Expr} {ga gb : FT} (ha : PT X a (tB (kc X) ga)) (hb : CB X (.BoolOp .Or (b :: rest) pos) gb) : CB X (.BoolOp .Or (a :: b :: rest) pos) (gOr ga gb) :=
  ⟨PW.to (pw_or ha hb.run) fun σ H Q ⟨F, B, as, ρ, c, ρ', S, e, k⟩ => by
    unfold gOr at e
    split at e
    · rename_i ρ1 q
      cases e
      exact ⟨F, B, as, ρ, true, _, S, q, fun H1 F1 as1 E1 S1 => by simp only [if_true]; exact k H1 F1 as1 E1 S1⟩
    · rename_i ρ1 q
      exact ⟨F, B, as, ρ, false, ρ1, S, q, fun H1 F1 as1 E1 S1 => by simp only [Bool.false_eq_true, if_false]; exact ⟨F1, B, as1, ρ1, c, ρ', S1, e, fun H2 F2 as2 E2 S2 => k H2 F2 as2 (E1.trans E2) S2⟩⟩
    · cases e⟩
theorem ct_not {a : Expr} {ga : FT} (ha : PT X a (tB (kc X) ga)) : PT X (.UnaryOp .Not a pos) (tB (kc X) (gNot ga)) := PT.to (pt_not ha) fun σ H Q ⟨F, B, as, ρ, c, ρ', S, e, k⟩ => by
  unfold gNot at e
  split at e
  · rename_i c' ρ1 q
    cases e
    exact ⟨F, B, as, ρ, c', _, S, q, fun H1 F1 as1 E1 S1 => k H1 F1 as1 E1 S1⟩
  · cases e
/-- .. as values -/
def gAndV (a b : FD) : FD := fun ρ => match a ρ with
  | some (.bl true, ρ1) => b ρ1
  | some (.bl false, ρ1) => some (.bl false, ρ1)
  | _ => none
def gOrV (a b : FD) : FD := fun ρ => match a ρ with
  | some (.bl true, ρ1) => some (.bl true, ρ1)
  | some (.bl false, ρ1) => b ρ1
  | _ => none
def gNotV (a : FD) : FD := fun ρ => match a ρ with
  | some (.bl c, ρ1) => some (.bl (!c), ρ1)
  | _ => none
theorem cd_one {op} {a : Expr} {g : FD} (h : PE X a (tD (kc X) g)) : PE X (.BoolOp op [a] pos) (tD (kc X) g) := pe_one h
theorem cd_and {a b : Expr} {rest : List Expr} {ga gb : FD} (ha : PE X a (tD (kc X) ga)) (hb : PE X (.BoolOp .And (b :: rest) pos) (tD (kc X) gb)) : PE X (.BoolOp .And (a :: b :: rest) pos) (tD (kc X) (gAndV ga gb)) :=
  PE.to (pe_and ha hb) fun σ H Q ⟨F, B, as, ρ, c, ρ', S, e, k⟩ => by
    unfold gAndV at e
    split at e
    · rename_i ρ1 q
      exact ⟨F, B, as, ρ, .bl true, ρ1, S, q, fun v H1 F1 as1 E1 S1 r => ⟨true, by unfold Rep at r; exact r, by simp only [if_true]; exact ⟨F1, B, as1, ρ1, c, ρ', S1, e, fun v H2 F2 as2 E2 S2 r => k v H2 F2 as2 (E1.trans E2) S2 r⟩⟩⟩
    · rename_i ρ1 q
      cases e
      exact ⟨F, B, as, ρ, .bl false, _, S, q, fun v H1 F1 as1 E1 S1 r => ⟨false, by unfold Rep at r; exact r, by simp only [Bool.false_eq_true, if_false]; exact k _ H1 F1 as1 E1 S1 Rep.bl'⟩⟩
    · cases e
theorem cd_or {a b : Expr} {rest : List Expr} {ga gb : FD} (ha : PE X a (tD (kc X) ga)) (hb : PE X (.BoolOp .Or (b :: rest) pos) (tD (kc X) gb)) : PE X (.BoolOp .Or (a :: b :: rest) pos) (tD (kc X) (gOrV ga gb)) :=
  PE.to (pe_or ha hb) fun σ H Q ⟨F, B, as, ρ, c, ρ', S, e, k⟩ => by
    unfold gOrV at e
    split at e
    · rename_i ρ1 q
      cases e
      exact ⟨F, B, as, ρ, .bl true, _, S, q, fun v H1 F1 as1 E1 S1 r => ⟨true, by unfold Rep at r; exact r, by simp only [if_true]; exact k _ H1 F1 as1 E1 S1 Rep.bl'⟩⟩
    · rename_i ρ1 q
      exact ⟨F, B, as, ρ, .bl false, ρ1, S, q, fun v H1 F1 as1 E1 S1 r => ⟨false, by unfold Rep at r; exact r, by simp only [Bool.false_eq_true, if_false]; exact ⟨F1, B, as1, ρ1, c, ρ', S1, e, fun v H2 F2 as2 E2 S2 r => k v H2 F2 as2 (E1.trans E2) S2 r⟩⟩⟩
    · cases e
theorem cd_not {a : Expr} {g : FD} (h : PE X a (tD (kc X) g)) : PE X (.UnaryOp .Not a pos) (tD (kc X) (gNotV g)) := PE.to (pe_not h) fun σ H Q ⟨F, B, as, ρ, c, ρ', S, e, k⟩ => by
  unfold gNotV at e
  split at e
  · rename_i c' ρ1 q
    cases e
    exact ⟨F, B, as, ρ, .bl c', _, S, q, fun v H1 F1 as1 E1 S1 r => ⟨c', by unfold Rep at r; exact r, k _ H1 F1 as1 E1 S1 Rep.bl'⟩⟩
  · cases e
def gIf (t : FT) (a b : FD) : FD := fun ρ => match t ρ with
  | some (true, ρ1) => a ρ1
  | some (false, ρ1) => b ρ1
  | none => none
def gIfW (t : FT) (a b : FW) : FW := fun ρ => match t ρ with
  | some (true, ρ1) => a ρ1
  | some (false, ρ1) => b ρ1
  | none => none
theorem cd_if {c a b : Expr} {t : FT} {ga gb : FD} (hc : PT X c (tB (kc X) t)) (ha : PE X a (tD (kc X) ga)) (hb : PE X b (tD (kc X) gb)) : PE X (.IfExp c a b pos) (tD (kc X) (gIf t ga gb)) :=
  PE.to (pe_ifExp hc ha hb) fun σ H Q ⟨F, B, as, ρ, d, ρ', S, e, k⟩ => by
    unfold gIf at e
    split at e
    · rename_i ρ1 q
      exact ⟨F, B, as, ρ, true, ρ1, S, q, fun H1 F1 as1 E1 S1 => by simp only [if_true]; exact ⟨F1, B, as1, ρ1, d, ρ', S1, e, fun v H2 F2 as2 E2 S2 r => k v H2 F2 as2 (E1.trans E2) S2 r⟩⟩
    · rename_i ρ1 q
      exact ⟨F, B, as, ρ, false, ρ1, S, q, fun H1 F1 as1 E1 S1 => by simp only [Bool.false_eq_true, if_false]; exact ⟨F1, B, as1, ρ1, d, ρ', S1, e, fun v H2 F2 as2 E2 S2 r => k v H2 F2 as2 (E1.trans E2) S2 r⟩⟩
    · cases e
theorem cw_if {c a b : Expr} {t : FT} {ga gb : FW} (hc : PT X c (tB (kc X) t)) (ha : PE X a (tW (kc X) ga)) (hb : PE X b (tW (kc X) gb)) : PE X (.IfExp c a b pos) (tW (kc X) (gIfW t ga gb)) :=
  PE.to (pe_ifExp hc ha hb) fun σ H Q ⟨F, B, as, ρ, d, w, ρ', S, e, k⟩ => by
    unfold gIfW at e
    split at e
    · rename_i ρ1 q
      exact ⟨F, B, as, ρ, true, ρ1, S, q, fun H1 F1 as1 E1 S1 => by simp only [if_true]; exact ⟨F1, B, as1, ρ1, d, w, ρ', S1, e, fun v H2 F2 as2 bs E2 S2 => k v H2 F2 as2 bs (E1.trans E2) S2⟩⟩
    · rename_i ρ1 q
      exact ⟨F, B, as, ρ, false, ρ1, S, q, fun H1 F1 as1 E1 S1 => by simp only [Bool.false_eq_true, if_false]; exact ⟨F1, B, as1, ρ1, d, w, ρ', S1, e, fun v H2 F2 as2 bs E2 S2 => k v H2 F2 as2 bs (E1.trans E2) S2⟩⟩
    · cases e

/-! ### one-argument built-ins -/
def PureC (K : Kc) (r : List V → Hp → VK → Prop) (f : D → Option D) : Prop := ∀ (F : Addr → Prop) (H : Hp) (dx d : D) (vx : V) (Q : VK), (∀ b, F b → H b ≠ none) → f dx = some d → Vw K F H dx vx →
  (∀ v F' H', Ext F [] H F' [] H' → Rep K F' H' d v → Q v H') → r [vx] H Q
def gOp1 (f : D → Option D) (oa : FO) : FD := fun ρ => match oa ρ with
  | some (x, ρ1) => match res ρ1 x with
    | some dx => match f dx with
      | some d => some (d, ρ1)
      | none => none
    | none => none
  | none => none
theorem gOp1_some {f : D → Option D} {oa : FO} {ρ : Env} {d : D} {ρ' : Env} (h : gOp1 f oa ρ = some (d, ρ')) : ∃ x dx, oa ρ = some (x, ρ') ∧ res ρ' x = some dx ∧ f dx = some d := by
  unfold gOp1 at h
  split at h
  · rename_i x ρ1 q1
    split at h
    · rename_i dx q2
      split at h
      · rename_i d' q3
        cases h
        exact ⟨x, dx, q1, q2, q3⟩
      · cases h
    · cases h
  · cases h
theorem op1_fit {K : Kc} {r : List V → Hp → VK → Prop} {f : D → Option D} {oa : FO} (hp : PureC K r f) {σ : L2.St} {H : Hp} {Q : VK} (h : tD K (gOp1 f oa) σ H Q) : tCB r (tCons (tO K oa) tNil) σ H Q := by
  obtain ⟨F, B, as, ρ, d, ρ', S, e, k⟩ := h
  obtain ⟨x, dx, e1, e3, e5⟩ := gOp1_some e
  exact ⟨F, B, as, ρ, x, ρ', S, e1, fun vx H2 F2 as2 E S2 rx => hp F2 H2 dx d vx Q S2.fk e5 (S2.res e3 rx) fun v F' H' E' r => k v H' F' as2 (E.trans E'.pure) (S2.step E') r⟩
theorem cd_call1 {x : Str} {id : String} {p : Pos} {a : Expr} {r : List V → Hp → VK → Prop} {f : D → Option D} {oa : FO} (hc : CallR X (.builtin id) r) (hp : PureC (kc X) r f) (hg : Gl X x) (hm : X.mg x = none) (hv : bootBuiltins x = some (.builtin id)) (ha : PE X a (tO (kc X) oa))
    (hn : x ≠ "__name__" := by decide) (hdb : (x == ("__debug__" : Str)) = false := by decide) (he : starEach [a] X.env = (false, eval a X.env) :: starEach [] X.env := by rfl) (hpl : (backTo pos (starEach [] X.env)).any (·.1) = false := by rfl) : PE X (.Call (.Name x p) [a] [] pos) (tD (kc X) (gOp1 f oa)) :=
  PE.to (pe_callB hc hg hm hv (pa_cons ha pa_nil he) hn hdb he hpl) fun σ H Q h => op1_fit hp h
theorem cd_callT1 {x : Str} {T : String} {p : Pos} {a : Expr} {r : List V → Hp → VK → Prop} {f : D → Option D} {oa : FO} (hc : CallR X (.type T) r) (hp : PureC (kc X) r f) (hg : Gl X x) (hm : X.mg x = none) (hv : bootBuiltins x = some (.type T)) (ha : PE X a (tO (kc X) oa))
    (hn : x ≠ "__name__" := by decide) (hdb : (x == ("__debug__" : Str)) = false := by decide) (he : starEach [a] X.env = (false, eval a X.env) :: starEach [] X.env := by rfl) (hpl : (backTo pos (starEach [] X.env)).any (·.1) = false := by rfl) : PE X (.Call (.Name x p) [a] [] pos) (tD (kc X) (gOp1 f oa)) :=
  PE.to (pe_callTy hc hg hm hv (pa_cons ha pa_nil he) hn hdb he hpl) fun σ H Q h => op1_fit hp h
/-- .. whose answer is a fresh own thing -/
def PureW (K : Kc) (r : List V → Hp → VK → Prop) (f : D → Option D) : Prop := ∀ (F : Addr → Prop) (H : Hp) (dx d : D) (vx : V) (Q : VK), (∀ b, F b → H b ≠ none) → f dx = some d → Vw K F H dx vx →
  (∀ p o, H p = none → Own K F (upd H p o) d (.ref p) [p] → Q (.ref p) (upd H p o)) → r [vx] H Q
def gOp1W (f : D → Option D) (oa : FO) : FW := fun ρ => (gOp1 f oa ρ).map fun p => (p.1, true, p.2)
theorem op1W_fit {K : Kc} {r : List V → Hp → VK → Prop} {f : D → Option D} {oa : FO} (hp : PureW K r f) {σ : L2.St} {H : Hp} {Q : VK} (h : tW K (gOp1W f oa) σ H Q) : tCB r (tCons (tO K oa) tNil) σ H Q := by
  obtain ⟨F, B, as, ρ, d, w, ρ', S, e, k⟩ := h
  obtain ⟨p, e9, e2⟩ := Option.map_eq_some_iff.mp e
  cases e2
  obtain ⟨x, dx, e1, e3, e5⟩ := gOp1_some e9
  exact ⟨F, B, as, ρ, x, p.2, S, e1, fun vx H2 F2 as2 E S2 rx => hp F2 H2 dx p.1 vx Q S2.fk e5 (S2.res e3 rx) fun q o hq r => by
    obtain ⟨E3, S3⟩ := new_own hq S2 r
    exact k _ _ F2 as2 [q] (E.trans E3) S3⟩
theorem cw_callT1 {x : Str} {T : String} {p : Pos} {a : Expr} {r : List V → Hp → VK → Prop} {f : D → Option D} {oa : FO} (hc : CallR X (.type T) r) (hp : PureW (kc X) r f) (hg : Gl X x) (hm : X.mg x = none) (hv : bootBuiltins x = some (.type T)) (ha : PE X a (tO (kc X) oa))
    (hn : x ≠ "__name__" := by decide) (hdb : (x == ("__debug__" : Str)) = false := by decide) (he : starEach [a] X.env = (false, eval a X.env) :: starEach [] X.env := by rfl) (hpl : (backTo pos (starEach [] X.env)).any (·.1) = false := by rfl) : PE X (.Call (.Name x p) [a] [] pos) (tW (kc X) (gOp1W f oa)) :=
  PE.to (pe_callTy hc hg hm hv (pa_cons ha pa_nil he) hn hdb he hpl) fun σ H Q h => op1W_fit hp h
theorem cw_callB1 {x : Str} {id : String} {p : Pos} {a : Expr} {r : List V → Hp → VK → Prop} {f : D → Option D} {oa : FO} (hc : CallR X (.builtin id) r) (hp : PureW (kc X) r f) (hg : Gl X x) (hm : X.mg x = none) (hv : bootBuiltins x = some (.builtin id)) (ha : PE X a (tO (kc X) oa))
    (hn : x ≠ "__name__" := by decide) (hdb : (x == ("__debug__" : Str)) = false := by decide) (he : starEach [a] X.env = (false, eval a X.env) :: starEach [] X.env := by rfl) (hpl : (backTo pos (starEach [] X.env)).any (·.1) = false := by rfl) : PE X (.Call (.Name x p) [a] [] pos) (tW (kc X) (gOp1W f oa)) :=
  PE.to (pe_callB hc hg hm hv (pa_cons ha pa_nil he) hn hdb he hpl) fun σ H Q h => op1W_fit hp h
end

/-! ### numbers -/
def addI : D → D → Option D
  | .int i, .int j => some (.int (i + j))
  | _, _ => none
def subI : D → D → Option D
  | .int i, .int j => some (.int (i - j))
  | _, _ => none
def mulI : D → D → Option D
  | .int i, .int j => if (-(2 ^ 64) < i ∧ i < 2 ^ 64) ∨ (-(2 ^ 64) < j ∧ j < 2 ^ 64) then some (.int (i * j)) else none
  | _, _ => none
def divI : D → D → Option D
  | .int i, .int j => if 0 < j ∧ j < 1073741824 then some (.int (i / j)) else none
  | _, _ => none
def modI : D → D → Option D
  | .int i, .int j => if 0 < j then some (.int (i % j)) else none
  | _, _ => none
def powI : D → D → Option D
  | .int i, .int j => if 0 ≤ j ∧ j ≤ 1000000 ∧ i.natAbs < 2 ^ 64 then some (.int (i ^ j.toNat)) else none
  | _, _ => none
def ltI : D → D → Option D
  | .int i, .int j => some (.bl (decide (i < j)))
  | _, _ => none
def leI : D → D → Option D
  | .int i, .int j => some (.bl (decide (i ≤ j)))
  | _, _ => none
def gtI : D → D → Option D
  | .int i, .int j => some (.bl (decide (j < i)))
  | _, _ => none
def geI : D → D → Option D
  | .int i, .int j => some (.bl (decide (j ≤ i)))
  | _, _ => none
section
variable {K : Kc}
theorem pr_i0 {g : Int → Int → V} {gd : Int → Int → D} (h : ∀ i j F H, Rep K F H (gd i j) (g i j)) : PureR K (rI0 g) (fun x y => match x, y with | .int i, .int j => some (gd i j) | _, _ => none) := by
  intro F H dx dy d vx vy Q fk e wx wy k
  dsimp only at e
  split at e
  · cases e
    exact ⟨_, _, wx.int, wy.int, k _ F H .refl (h _ _ _ _)⟩
  · cases e
theorem pr_add : PureR K (rI0 fun i j => .int (i + j)) addI := pr_i0 (gd := fun i j => .int (i + j)) fun _ _ _ _ => Rep.int'
theorem pr_sub : PureR K (rI0 fun i j => .int (i - j)) subI := pr_i0 (gd := fun i j => .int (i - j)) fun _ _ _ _ => Rep.int'
theorem pr_lt : PureR K (rI0 fun i j => .bl (decide (i < j))) ltI := pr_i0 (gd := fun i j => .bl (decide (i < j))) fun _ _ _ _ => Rep.bl'
theorem pr_le : PureR K (rI0 fun i j => .bl (decide (i ≤ j))) leI := pr_i0 (gd := fun i j => .bl (decide (i ≤ j))) fun _ _ _ _ => Rep.bl'
theorem pr_gt : PureR K (rI0 fun i j => .bl (decide (j < i))) gtI := pr_i0 (gd := fun i j => .bl (decide (j < i))) fun _ _ _ _ => Rep.bl'
theorem pr_ge : PureR K (rI0 fun i j => .bl (decide (j ≤ i))) geI := pr_i0 (gd := fun i j => .bl (decide (j ≤ i))) fun _ _ _ _ => Rep.bl'
theorem pr_iC {C : Int → Int → Prop} {c : Int → Int → Prop} [∀ i j, Decidable (c i j)] {g : Int → Int → Int} (hc : ∀ i j, c i j → C i j) : PureR K (rI C fun i j => .int (g i j)) (fun x y => match x, y with | .int i, .int j => if c i j then some (.int (g i j)) else none | _, _ => none) := by
  intro F H dx dy d vx vy Q fk e wx wy k
  dsimp only at e
  split at e
  · split at e
    · rename_i q
      cases e
      exact ⟨_, _, wx.int, wy.int, hc _ _ q, k _ F H .refl Rep.int'⟩
    · cases e
  · cases e
theorem pr_mul : PureR K (rI CMul fun i j => .int (i * j)) mulI := pr_iC (c := fun i j => (-(2 ^ 64) < i ∧ i < 2 ^ 64) ∨ (-(2 ^ 64) < j ∧ j < 2 ^ 64)) fun _ _ h => h
theorem pr_div : PureR K (rI CDiv fun i j => .int (i / j)) divI := pr_iC (c := fun i j => 0 < j ∧ j < 1073741824) fun _ _ h => h
theorem pr_mod : PureR K (rI (fun _ j => 0 < j) fun i j => .int (i % j)) modI := pr_iC (c := fun _ j => 0 < j) fun _ _ h => h
theorem pr_pow : PureR K (rI CPow fun i j => .int (i ^ j.toNat)) powI := pr_iC (c := fun i j => 0 ≤ j ∧ j ≤ 1000000 ∧ i.natAbs < 2 ^ 64) fun _ _ h => h
end

/-! ### + -/
def catT : D → D → Option D
  | .tup xs, .tup ys => if xs.length + ys.length ≤ SZ then some (.tup (xs ++ ys)) else none
  | _, _ => none
def catS : D → D → Option D
  | .str x, .str y => if x.length + y.length ≤ SZ then some (.str (x ++ y)) else none
  | _, _ => none
def catL : D → D → Option D
  | .lst xs, .lst ys => if xs.length + ys.length ≤ SZ then some (.lst (xs ++ ys)) else none
  | _, _ => none
def addD : D → D → Option D
  | .int i, .int j => some (.int (i + j))
  | .str x, .str y => if x.length + y.length ≤ SZ then some (.str (x ++ y)) else none
  | .tup xs, .tup ys => if xs.length + ys.length ≤ SZ then some (.tup (xs ++ ys)) else none
  | .lst xs, .lst ys => if xs.length + ys.length ≤ SZ then some (.lst (xs ++ ys)) else none
  | _, _ => none
section
variable {K : Kc}
theorem RepL.eq_nil {F : Addr → Prop} {H : Hp} {ds : List D} (r : RepL K F H ds []) : ds = [] := by
  have := r.length
  exact List.eq_nil_of_length_eq_zero (by simpa using this.symm)
theorem pr_catT : PureR K (rCatA K.K) catT := by
  intro F H dx dy d vx vy Q fk e wx wy k
  unfold catT at e
  split at e
  · rename_i xs ys
    split at e
    · rename_i hz
      cases e
      obtain ⟨a, us, rfl, h1, r1⟩ := wx.tup
      obtain ⟨b, ws, rfl, h2, r2⟩ := wy.tup
      refine ⟨a, b, us, ws, rfl, rfl, h1, h2, sz_le (by rw [r1.length, r2.length]; exact hz), fun z => ?_, fun z1 z2 => ?_, fun z1 z2 p hp => ?_⟩
      · subst z
        have z := r1.eq_nil
        subst z
        exact k _ F H .refl (Rep.tup' h2 r2)
      · subst z2
        have z := r2.eq_nil
        subst z
        rw [List.append_nil] at k
        exact k _ F H .refl (Rep.tup' h1 r1)
      · obtain ⟨E, r⟩ := new_tup hp (r1.append r2)
        exact k _ F _ E r
    · cases e
  · cases e
theorem pr_catS : PureR K (fun x y H Q => ∃ i j, x = .str i ∧ y = .str j ∧ i.length + j.length ≤ sizeLine ∧ Q (.str (i ++ j)) H) catS := by
  intro F H dx dy d vx vy Q fk e wx wy k
  unfold catS at e
  split at e
  · split at e
    · rename_i hz
      cases e
      exact ⟨_, _, wx.str, wy.str, sz_le hz, k _ F H .refl Rep.str'⟩
    · cases e
  · cases e
/-- a new list among what never changes -/
theorem new_lstF {F : Addr → Prop} {H : Hp} {p : Addr} {ds : List D} {vs : List V} (hp : H p = none) (r : RepL K F H ds vs) : Ext F [] H (fun b => F b ∨ b = p) [] (upd H p (.lst vs)) ∧ Rep K (fun b => F b ∨ b = p) (upd H p (.lst vs)) (.lst ds) (.ref p) := by
  have E : Ext F [] H (fun b => F b ∨ b = p) [] (upd H p (.lst vs)) := Ext.newF hp
  refine ⟨E, ?_⟩
  unfold Rep
  exact ⟨p, vs, rfl, .inr rfl, upd_same, RepL.stb E.stb _ _ r⟩
theorem pr_catL : PureR K rCat catL := by
  intro F H dx dy d vx vy Q fk e wx wy k
  unfold catL at e
  split at e
  · split at e
    · rename_i hz
      cases e
      obtain ⟨a, us, rfl, h1, r1⟩ := wx.lst
      obtain ⟨b, ws, rfl, h2, r2⟩ := wy.lst
      refine ⟨a, b, us, ws, rfl, rfl, h1, h2, sz_le (by rw [r1.length, r2.length]; exact hz), fun p hp => ?_⟩
      obtain ⟨E, r⟩ := new_lstF hp (r1.append r2)
      exact k _ _ _ E r
    · cases e
  · cases e
theorem PureR.eqf {r : R2} {f g : D → D → Option D} (h : PureR K r f) (e : ∀ x y d, g x y = some d → f x y = some d) : PureR K r g := fun F H dx dy d vx vy Q fk q => h F H dx dy d vx vy Q fk (e _ _ _ q)
def rAddAll (K : PySem.W.Frag) : R2 := fun x y H Q => rI0 (fun i j => .int (i + j)) x y H Q ∨ (fun x y H Q => (fun x y H Q => ∃ i j, x = .str i ∧ y = .str j ∧ i.length + j.length ≤ sizeLine ∧ Q (.str (i ++ j)) H) x y H Q ∨ (fun x y H Q => rCatA K x y H Q ∨ rCat x y H Q) x y H Q) x y H Q
theorem pr_addAll : PureR K (rAddAll K.K) addD := by
  refine PureR.eqf (PureR.or pr_add (PureR.or pr_catS (PureR.or pr_catT pr_catL))) fun x y d e => ?_
  unfold addD at e
  split at e
  · cases e; rfl
  · simp only [addI, catS, Option.none_or, e, Option.some_or]
  · simp only [addI, catS, catT, catL, Option.none_or, e, Option.or_none]
  · simp only [addI, catS, catT, catL, Option.none_or, e]
  · cases e
theorem or_addAll {X : Cx} : OpR X (binaryOp .Add) (rAddAll X.K) := op_add.or (op_add_str.or (op_catA.or op_cat))
end

/-! ### ==, != -/
def eqP (x y : D) : Option D := if okPy x = true ∧ okPy y = true then some (.bl (PyData.eqv (toPy x) (toPy y))) else none
def neP (x y : D) : Option D := if okPy x = true ∧ okPy y = true then some (.bl (!PyData.eqv (toPy x) (toPy y))) else none
def eqS : D → D → Option Bool
  | .str x, .str y => some (x == y)
  | .int x, .int y => some (x == y)
  | .bl x, .bl y => some (x == y)
  | .non, .non => some true
  | .non, .str _ => some false
  | .str _, .non => some false
  | _, _ => none
def eqD (x y : D) : Option D := ((eqS x y).map .bl).or (eqP x y)
def neD (x y : D) : Option D := ((eqS x y).map fun b => .bl (!b)).or (neP x y)
section
variable {K : Kc}
theorem eqS_scal {F : Addr → Prop} {H : Hp} {dx dy : D} {vx vy : V} {b : Bool} (e : eqS dx dy = some b) (wx : Vw K F H dx vx) (wy : Vw K F H dy vy) : scal vx vy = true ∧ decide (vx = vy) = b := by
  unfold eqS at e
  split at e <;> cases e
  · cases wx.str; cases wy.str; exact ⟨rfl, dec_str⟩
  · cases wx.int; cases wy.int; exact ⟨rfl, dec_int⟩
  · cases wx.bl; cases wy.bl; exact ⟨rfl, dec_bl⟩
  · cases wx.non; cases wy.non; exact ⟨rfl, by simp⟩
  · cases wx.non; cases wy.str; exact ⟨rfl, by simp⟩
  · cases wx.str; cases wy.non; exact ⟨rfl, by simp⟩
theorem pr_eqS : PureR K rEq (fun x y => (eqS x y).map .bl) := by
  intro F H dx dy d vx vy Q fk e wx wy k
  obtain ⟨b, e9, e2⟩ := Option.map_eq_some_iff.mp e
  cases e2
  obtain ⟨h1, h2⟩ := eqS_scal e9 wx wy
  exact ⟨h1, by rw [h2]; exact k _ F H .refl Rep.bl'⟩
theorem pr_neS : PureR K rNe (fun x y => (eqS x y).map fun b => .bl (!b)) := by
  intro F H dx dy d vx vy Q fk e wx wy k
  obtain ⟨b, e9, e2⟩ := Option.map_eq_some_iff.mp e
  cases e2
  obtain ⟨h1, h2⟩ := eqS_scal e9 wx wy
  exact ⟨h1, by rw [h2]; exact k _ F H .refl Rep.bl'⟩
theorem pr_eqP : PureR K (rEqD K.K) eqP := by
  intro F H dx dy d vx vy Q fk e wx wy k
  unfold eqP at e
  split at e
  · rename_i q
    cases e
    exact ⟨_, _, wx.dp q.1, wy.dp q.2, q.1, q.2, k _ F H .refl Rep.bl'⟩
  · cases e
theorem pr_neP : PureR K (rNeD K.K) neP := by
  intro F H dx dy d vx vy Q fk e wx wy k
  unfold neP at e
  split at e
  · rename_i q
    cases e
    exact ⟨_, _, wx.dp q.1, wy.dp q.2, q.1, q.2, k _ F H .refl Rep.bl'⟩
  · cases e
theorem pr_eq : PureR K (fun x y H Q => rEq x y H Q ∨ rEqD K.K x y H Q) eqD := pr_eqS.or pr_eqP
theorem pr_ne : PureR K (fun x y H Q => rNe x y H Q ∨ rNeD K.K x y H Q) neD := pr_neS.or pr_neP
theorem or_eq {X : Cx} (hu : X.A.units + 64 < cLine) : OpR X (compareOp .Eq) (fun x y H Q => rEq x y H Q ∨ rEqD X.K x y H Q) := op_eq.or (op_eqD hu)
theorem or_ne {X : Cx} (hu : X.A.units + 64 < cLine) : OpR X (compareOp .NotEq) (fun x y H Q => rNe x y H Q ∨ rNeD X.K x y H Q) := op_ne.or (op_neD hu)
end

/-! ### is -/
def isNon : D → Bool
  | .non => true
  | _ => false
def isP : D → D → Option Bool
  | x, .non => some (isNon x)
  | .bl a, .bl b => some (a == b)
  | _, _ => none
def isD (x y : D) : Option D := (isP x y).map .bl
def isnD (x y : D) : Option D := (isP x y).map fun b => .bl (!b)
section
variable {K : Kc}
theorem Vw.isNon {F : Addr → Prop} {H : Hp} {d : D} {v : V} (w : Vw K F H d v) : decide (v = .non) = DV.isNon d := by
  cases d with
  | non => cases w.non; simp [DV.isNon]
  | bl _ => cases w.bl; simp [DV.isNon]
  | int _ => cases w.int; simp [DV.isNon]
  | str _ => cases w.str; simp [DV.isNon]
  | ty _ => unfold Vw Rep at w; subst w; simp [DV.isNon]
  | fn _ => unfold Vw Rep at w; obtain ⟨f, rfl, _⟩ := w; simp [DV.isNon]
  | tup _ => obtain ⟨a, vs, rfl, _⟩ := w.tup; simp [DV.isNon]
  | lst _ => obtain ⟨a, vs, rfl, _⟩ := w.lst; simp [DV.isNon]
  | dic _ _ => unfold Vw at w; obtain ⟨a, vs, rfl, _⟩ := w; simp [DV.isNon]
  | scr _ => unfold Vw Rep at w; obtain ⟨a, rfl, _⟩ := w; simp [DV.isNon]
  | ins _ _ _ _ => unfold Vw at w; obtain ⟨as, a, _, _, _, _, rfl, _⟩ := w; simp [DV.isNon]
def rIsAll : R2 := fun x y H Q => (fun x y H Q => y = .non ∧ Q (.bl (decide (x = .non))) H) x y H Q ∨ rIsB x y H Q
def rIsnAll : R2 := fun x y H Q => (fun x y H Q => y = .non ∧ Q (.bl (!decide (x = .non))) H) x y H Q ∨ rNotB x y H Q
theorem pr_is : PureR K rIsAll isD := by
  intro F H dx dy d vx vy Q fk e wx wy k
  obtain ⟨b, e9, e2⟩ := Option.map_eq_some_iff.mp e
  cases e2
  clear e
  unfold isP at e9
  split at e9
  · cases e9
    exact .inl ⟨wy.non, by rw [wx.isNon]; exact k _ F H .refl Rep.bl'⟩
  · cases e9
    exact .inr ⟨_, _, wx.bl, wy.bl, by rw [← Bool.beq_eq_decide_eq]; exact k _ F H .refl Rep.bl'⟩
  · cases e9
theorem pr_isn : PureR K rIsnAll isnD := by
  intro F H dx dy d vx vy Q fk e wx wy k
  obtain ⟨b, e9, e2⟩ := Option.map_eq_some_iff.mp e
  cases e2
  clear e
  unfold isP at e9
  split at e9
  · cases e9
    exact .inl ⟨wy.non, by rw [wx.isNon]; exact k _ F H .refl Rep.bl'⟩
  · cases e9
    exact .inr ⟨_, _, wx.bl, wy.bl, by rw [← Bool.beq_eq_decide_eq]; exact k _ F H .refl Rep.bl'⟩
  · cases e9
theorem or_is {X : Cx} : OpR X (compareOp .Is) rIsAll := op_isN.or op_isBl
theorem or_isn {X : Cx} : OpR X (compareOp .IsNot) rIsnAll := op_notN.or op_notBl
end
end DV

/-! DV4: in, subscripts, slices, built-ins. -/
namespace DV
open L2 PySem PySem.Spec PyProof.Rows

/-! ### keys -/
def isKey : D → Bool
  | .int _ => true
  | .str _ => true
  | _ => false
def eqKey : D → D → Bool
  | .int i, .int j => i == j
  | .str x, .str y => x == y
  | _, _ => false
def dget : List D → List D → D → Option D
  | k' :: ks, v :: vs, k => if eqKey k' k = true then some v else dget ks vs k
  | _, _, _ => none
def toKey : D → Option Key
  | .int i => some (.inl i)
  | .str x => some (.inr x)
  | _ => none
theorem toKey_some {d : D} {k : Key} (h : toKey d = some k) : d = dkey k := by
  cases d <;> simp [toKey] at h <;> subst h <;> rfl
theorem isKey_to {d : D} (h : isKey d = true) : ∃ k, d = dkey k := by
  cases d <;> simp [isKey] at h
  · exact ⟨.inl _, rfl⟩
  · exact ⟨.inr _, rfl⟩
theorem eqKey_iff (a b : Key) : eqKey (dkey a) (dkey b) = decide (a = b) := by
  cases a <;> cases b <;> simp [dkey, eqKey]
  all_goals rfl
theorem Vw.key {K : Kc} {F : Addr → Prop} {H : Hp} {k : Key} {v : V} (w : Vw K F H (dkey k) v) : v = kV k := by
  cases k with
  | inl i => exact Vw.int w
  | inr x => exact Vw.str w
theorem dget_val {K : Kc} {F : Addr → Prop} {H : Hp} : ∀ {kvs : List (Key × V)} {ds : List D} (k : Key), RepL K F H ds (kvs.map (·.2)) →
    (dget (kvs.map fun p => dkey p.1) ds (dkey k) = none ∧ valV kvs k = none) ∨ ∃ d v, dget (kvs.map fun p => dkey p.1) ds (dkey k) = some d ∧ valV kvs k = some v ∧ Rep K F H d v
  | [], ds, k, r => by
    have := r.length
    have : ds = [] := List.eq_nil_of_length_eq_zero (by simpa using this.symm)
    subst this
    exact .inl ⟨rfl, rfl⟩
  | (k', v) :: kvs, [], k, r => by unfold RepL at r; simp at r
  | (k', v) :: kvs, d :: ds, k, r => by
    unfold RepL at r
    obtain ⟨v', r', e, h1, h2⟩ := r
    simp only [List.map_cons, List.cons.injEq] at e
    obtain ⟨rfl, rfl⟩ := e
    have ih := dget_val k h2
    simp only [List.map_cons, dget, eqKey_iff, decide_eq_true_eq]
    by_cases e : k' = k
    · rw [if_pos e, valV_pos e]
      exact .inr ⟨d, v, rfl, rfl, h1⟩
    · rw [if_neg e, valV_neg e]
      exact ih

/-! ### in -/
def inS : D → D → Option Bool
  | .str x, .str z => some (!(Builtin.Str.occurrences z x 0 z.length 1).isEmpty)
  | _, _ => none
def inK : D → D → Option Bool
  | k, .dic ks vs => if isKey k = true then some (dget ks vs k).isSome else none
  | _, _ => none
def seqOf : D → Option (List D)
  | .lst xs => some xs
  | .tup xs => some xs
  | _ => none
def flatD : D → Bool
  | .non => true
  | .bl _ => true
  | .int _ => true
  | .str _ => true
  | _ => false
def eqFl : D → D → Bool
  | .non, .non => true
  | .bl a, .bl b => a == b
  | .bl a, .int b => (if a then 1 else 0) == b
  | .int a, .bl b => a == (if b then 1 else 0)
  | .int a, .int b => a == b
  | .str a, .str b => a == b
  | _, _ => false
def inF (x y : D) : Option Bool := match seqOf y with
  | some xs => if flatD x = true ∧ xs.all flatD = true then some (xs.any fun z => eqFl z x) else none
  | none => none
def inP (x y : D) : Option Bool := match seqOf y with
  | some xs => if okPy x = true ∧ okPy y = true then some ((toPyL xs).any fun z => PyData.eqv z (toPy x)) else none
  | none => none
def inB (x y : D) : Option Bool := (inS x y).or ((inK x y).or ((inF x y).or (inP x y)))
def inD (x y : D) : Option D := (inB x y).map .bl
def ninD (x y : D) : Option D := (inB x y).map fun b => .bl (!b)

/-- y in x by values -/
def rInN (K : PySem.W.Frag) (n : Bool) : R2 := fun x y H Q =>
  (∃ i j, x = .str i ∧ y = .str j ∧ Q (.bl ((!(Builtin.Str.occurrences j i 0 j.length 1).isEmpty) != n)) H) ∨
  (∃ a o, y = .ref a ∧ DGet H a x o ∧ Q (.bl (o.isSome != n)) H) ∨
  (∃ p xs, y = .ref p ∧ (SqL K H p xs ∨ SqT K H p xs) ∧ flatV x = true ∧ xs.all flatV = true ∧ Q (.bl (inV x xs != n)) H) ∨
  (∃ d ds, Dp K H x d ∧ Dp K H y (.list ds) ∧ SeqAt.shaped d = true ∧ SeqAt.shaped (.list ds) = true ∧ Q (.bl ((ds.any fun z => PyData.eqv z d) != n)) H) ∨
  (∃ d ds, Dp K H x d ∧ Dp K H y (.tuple ds) ∧ SeqAt.shaped d = true ∧ SeqAt.shaped (.tuple ds) = true ∧ Q (.bl ((ds.any fun z => PyData.eqv z d) != n)) H)
section
variable {X : Cx}
theorem or_in (hu : X.A.units + 65 < cLine) : OpR X (compareOp .In) (rInN X.K false) := by
  intro pins s σ H x y v u Q I rx ry h
  rcases h with h | h | h | h | h
  · obtain ⟨i, j, e1, e2, q⟩ := h
    exact op_in_str pins s σ H x y v u Q I rx ry ⟨i, j, e1, e2, by simpa using q⟩
  · obtain ⟨a, o, e1, g, q⟩ := h
    subst e1
    cases ry
    exact d_in (by omega) I g rx fun s' I' => ⟨.bl o.isSome, H, I', rfl, by simpa using q⟩
  · obtain ⟨p, xs, e1, h1, h2, h3, q⟩ := h
    exact op_in_seq pins s σ H x y v u Q I rx ry ⟨p, xs, e1, h1, h2, h3, by simpa using q⟩
  · obtain ⟨d, ds, h1, h2, h3, h4, q⟩ := h
    exact op_inD hu pins s σ H x y v u Q I rx ry ⟨d, ds, h1, h2, h3, h4, by simpa using q⟩
  · obtain ⟨d, ds, h1, h2, h3, h4, q⟩ := h
    obtain ⟨as, r1⟩ := Dp.reads I d x v h1 rx
    obtain ⟨bs, r2⟩ := Dp.reads I (.tuple ds) y u h2 ry
    have cl : PyData.canLayAll0 ds = true := by simpa [PyData.canLay0] using SeqAt.canLay_of_shaped h4
    exact SeqAt.in_tuple_reads r2 r1 cl (SeqAt.canLay_of_shaped h3) (room_in_shaped h3 hu) ⟨.bl _, H, I, rfl, by simpa using q⟩
theorem or_nin (hu : X.A.units + 65 < cLine) : OpR X (compareOp .NotIn) (rInN X.K true) := by
  intro pins s σ H x y v u Q I rx ry h
  rcases h with h | h | h | h | h
  · obtain ⟨i, j, e1, e2, q⟩ := h
    exact op_notin_str pins s σ H x y v u Q I rx ry ⟨i, j, e1, e2, by simpa using q⟩
  · obtain ⟨a, o, e1, g, q⟩ := h
    subst e1
    cases ry
    exact d_notIn (by omega) I g rx fun s' I' => ⟨.bl (!o.isSome), H, I', rfl, by simpa using q⟩
  · obtain ⟨p, xs, e1, h1, h2, h3, q⟩ := h
    exact op_notIn_seq pins s σ H x y v u Q I rx ry ⟨p, xs, e1, h1, h2, h3, by simpa using q⟩
  · obtain ⟨d, ds, h1, h2, h3, h4, q⟩ := h
    exact op_notInD hu pins s σ H x y v u Q I rx ry ⟨d, ds, h1, h2, h3, h4, by simpa using q⟩
  · obtain ⟨d, ds, h1, h2, h3, h4, q⟩ := h
    obtain ⟨as, r1⟩ := Dp.reads I d x v h1 rx
    obtain ⟨bs, r2⟩ := Dp.reads I (.tuple ds) y u h2 ry
    have cl : PyData.canLayAll0 ds = true := by simpa [PyData.canLay0] using SeqAt.canLay_of_shaped h4
    exact SeqAt.notIn_tuple_reads r2 r1 cl (SeqAt.canLay_of_shaped h3) (room_in_shaped h3 hu) ⟨.bl _, H, I, rfl, by simpa using q⟩
end
section
variable {K : Kc} {F : Addr → Prop} {H : Hp}
theorem Rep.flat {d : D} {v : V} (h : Rep K F H d v) (f : flatD d = true) : flatV v = true := by
  cases d <;> simp [flatD] at f <;> (unfold Rep at h; subst h; rfl)
theorem Rep.eqFl {d e : D} {v u : V} (h : Rep K F H d v) (f : flatD d = true) (h' : Rep K F H e u) (f' : flatD e = true) : DV.eqFl d e = eqV v u := by
  cases d <;> simp [flatD] at f <;> cases e <;> simp [flatD] at f' <;> (unfold Rep at h h'; subst h; subst h'; rfl)
theorem RepL.flat : ∀ {ds : List D} {vs : List V}, RepL K F H ds vs → ds.all flatD = true → vs.all flatV = true
  | [], _, h, _ => by unfold RepL at h; subst h; rfl
  | d :: ds, _, h, f => by
    unfold RepL at h
    obtain ⟨v, r, rfl, h1, h2⟩ := h
    simp only [List.all_cons, Bool.and_eq_true] at f ⊢
    exact ⟨h1.flat f.1, RepL.flat h2 f.2⟩
theorem RepL.anyFl {x : D} {u : V} (hx : Rep K F H x u) (fx : flatD x = true) : ∀ {ds : List D} {vs : List V}, RepL K F H ds vs → ds.all flatD = true → (ds.any fun z => DV.eqFl z x) = inV u vs
  | [], _, h, _ => by unfold RepL at h; subst h; rfl
  | d :: ds, _, h, f => by
    unfold RepL at h
    obtain ⟨v, r, rfl, h1, h2⟩ := h
    simp only [List.all_cons, Bool.and_eq_true] at f
    have ih := RepL.anyFl hx fx h2 f.2
    unfold inV at ih ⊢
    simp only [List.any_cons, ih, h1.eqFl f.1 hx fx]
theorem Vw.flatRep {d : D} {v : V} (h : Vw K F H d v) (f : flatD d = true) : Rep K F H d v := by
  cases d <;> simp [flatD] at f <;> (unfold Vw at h; exact h)
theorem Vw.seq {d : D} {v : V} {xs : List D} (h : Vw K F H d v) (e : seqOf d = some xs) : ∃ p vs, v = .ref p ∧ (SqL K.K H p vs ∨ SqT K.K H p vs) ∧ RepL K F H xs vs := by
  cases d <;> simp [seqOf] at e
  · subst e; obtain ⟨a, vs, e, h1, h2⟩ := h.tup; exact ⟨a, vs, e, .inr h1, h2⟩
  · subst e; obtain ⟨a, vs, e, h1, h2⟩ := h.lst; exact ⟨a, vs, e, .inl (SqL.of h1), h2⟩
end
section
variable {K : Kc}
theorem pr_inN (n : Bool) : PureR K (rInN K.K n) (fun x y => (inB x y).map fun b => .bl (b != n)) := by
  intro F H dx dy d vx vy Q fk e wx wy k
  obtain ⟨b, e9, e2⟩ := Option.map_eq_some_iff.mp e
  clear e
  cases e2
  have fin : Q (.bl (b != n)) H := k _ F H .refl Rep.bl'
  unfold inB at e9
  cases q1 : inS dx dy with
  | some b1 =>
    rw [q1] at e9
    simp only [Option.some_or, Option.some.injEq] at e9
    subst e9
    unfold inS at q1
    split at q1
    · cases q1
      exact .inl ⟨_, _, wx.str, wy.str, fin⟩
    · cases q1
  | none =>
    rw [q1, Option.none_or] at e9
    cases q2 : inK dx dy with
    | some b1 =>
      rw [q2] at e9
      simp only [Option.some_or, Option.some.injEq] at e9
      subst e9
      unfold inK at q2
      split at q2
      · split at q2
        · rename_i hk
          cases q2
          obtain ⟨key, rfl⟩ := isKey_to hk
          unfold Vw at wy
          obtain ⟨a, kvs, rfl, h1, rfl, h3⟩ := wy
          cases wx.key
          refine .inr (.inl ⟨a, valV kvs key, rfl, .inl ⟨kvs, key, h1, rfl, rfl⟩, ?_⟩)
          rcases dget_val key h3 with ⟨z1, z2⟩ | ⟨d, v, z1, z2, _⟩
          · rw [z1] at fin; rw [z2]; exact fin
          · rw [z1] at fin; rw [z2]; exact fin
        · cases q2
      · cases q2
    | none =>
      rw [q2, Option.none_or] at e9
      cases q3 : inF dx dy with
      | some b1 =>
        rw [q3] at e9
        simp only [Option.some_or, Option.some.injEq] at e9
        subst e9
        unfold inF at q3
        split at q3
        · rename_i xs hs
          split at q3
          · rename_i hf
            cases q3
            obtain ⟨p, vs, rfl, h1, h2⟩ := wy.seq hs
            have hx := wx.flatRep hf.1
            refine .inr (.inr (.inl ⟨p, vs, rfl, h1, hx.flat hf.1, h2.flat hf.2, ?_⟩))
            rw [← RepL.anyFl hx hf.1 h2 hf.2]
            exact fin
          · cases q3
        · cases q3
      | none =>
        rw [q3, Option.none_or] at e9
        unfold inP at e9
        split at e9
        · rename_i xs hs
          split at e9
          · rename_i hf
            cases e9
            have d1 := wx.dp hf.1
            have d2 := wy.dp hf.2
            have s1 := hf.1
            have s2 := hf.2
            unfold okPy at s1 s2
            cases dy <;> simp [seqOf] at hs
            · subst hs
              unfold toPy at d2 s2
              exact .inr (.inr (.inr (.inr ⟨_, _, d1, d2, s1, s2, fin⟩)))
            · subst hs
              unfold toPy at d2 s2
              exact .inr (.inr (.inr (.inl ⟨_, _, d1, d2, s1, s2, fin⟩)))
          · cases e9
        · cases e9
theorem pr_in : PureR K (rInN K.K false) inD := by
  refine PureR.eqf (pr_inN false) fun x y d e => ?_
  unfold inD at e
  simpa using e
theorem pr_nin : PureR K (rInN K.K true) ninD := by
  refine PureR.eqf (pr_inN true) fun x y d e => ?_
  unfold ninD at e
  simpa using e
end

/-! ### subscripts -/
def ixD : D → D → Option D
  | .tup xs, .int i => atI xs i
  | .lst xs, .int i => atI xs i
  | .str z, .int i => if z.length ≤ SZ then (atI z.cps.toList i).map fun c => .str ⟨#[c]⟩ else none
  | .dic ks vs, k => if isKey k = true then dget ks vs k else none
  | _, _ => none
theorem RepL.atI {K : Kc} {F : Addr → Prop} {H : Hp} {ds : List D} {vs : List V} {i : Int} {d : D} (r : RepL K F H ds vs) (e : L2.atI ds i = some d) : ∃ v, L2.atI vs i = some v ∧ Rep K F H d v := by
  unfold L2.atI at e ⊢
  rw [r.length]
  cases q : ixN ds.length i with
  | none => rw [q] at e; cases e
  | some j =>
    rw [q] at e
    simp only [Option.bind_some] at e ⊢
    exact r.get e
def rIxAll (K : PySem.W.Frag) : R2 := fun x y H Q => rIx K x y H Q ∨ ∃ a v, x = .ref a ∧ DGet H a y (some v) ∧ Q v H
theorem ix_all {X : Cx} (hu : X.A.units + 1 < cLine) : IxR X (rIxAll X.K) := by
  refine ix_seq.or fun value slice pins s σ H x y v u Q I rx ry h hs => ?_
  obtain ⟨a, z, e1, g, q⟩ := h
  subst e1
  cases rx
  exact tail_any (dict_typeIs I g) PySem.F.slot_dict_getitem.lookup (d_getItem hu I g ry fun w' s' I' r => ⟨z, H, I', r, q⟩) hs
theorem pr_ix {K : Kc} : PureR K (rIxAll K.K) ixD := by
  intro F H dx dy d vx vy Q fk e wx wy k
  unfold ixD at e
  split at e
  · obtain ⟨a, vs, rfl, h1, r1⟩ := wx.tup
    obtain ⟨v, h2, r2⟩ := r1.atI e
    exact .inl (.inr (.inl ⟨a, vs, _, v, rfl, wy.int, h1, h2, k v F H .refl r2⟩))
  · obtain ⟨a, vs, rfl, h1, r1⟩ := wx.lst
    obtain ⟨v, h2, r2⟩ := r1.atI e
    exact .inl (.inl ⟨a, vs, _, v, rfl, wy.int, SqL.of h1, h2, k v F H .refl r2⟩)
  · split at e
    · rename_i hz
      obtain ⟨c, hc, e2⟩ := Option.map_eq_some_iff.mp e
      cases e2
      exact .inl (.inr (.inr ⟨_, _, c, wx.str, wy.int, sz_le hz, hc, k _ F H .refl Rep.str'⟩))
    · cases e
  · split at e
    · rename_i hk
      obtain ⟨key, rfl⟩ := isKey_to hk
      unfold Vw at wx
      obtain ⟨a, kvs, rfl, h1, rfl, h3⟩ := wx
      cases wy.key
      rcases dget_val key h3 with ⟨z1, z2⟩ | ⟨d', v, z1, z2, r⟩
      · rw [z1] at e; cases e
      · rw [z1] at e; cases e
        exact .inr ⟨a, v, rfl, .inl ⟨kvs, key, h1, rfl, z2.symm⟩, k v F H .refl r⟩
    · cases e
  · cases e
section
variable {X : Cx} {pos : Pos}
theorem cd_ix {a b : Expr} {oa ob : FO} (hu : X.A.units + 1 < cLine) (ha : PE X a (tO (kc X) oa)) (hb : PE X b (tO (kc X) ob)) (hs : PlainIx b) : PE X (.Subscript a b pos) (tD (kc X) (gOp2 ixD oa ob)) :=
  PE.to (pe_ix (ix_all hu) ha hb hs) fun σ H Q h => op2_fit pr_ix h

/-! ### slices -/
abbrev FP := Env → Option (Option Int × Env)
def tP (K : Kc) (g : FP) : TO := fun σ H Q => ∃ F B as ρ o ρ', Sit K F B H ρ σ as ∧ g ρ = some (o, ρ') ∧ ∀ H' F' as', Ext F as H F' as' H' → Sit K F' B H' ρ' σ as' → Q o H'
theorem PO.to {e : Option Expr} {t t' : TO} (h : PO X e t) (c : ∀ σ H Q, t' σ H Q → t σ H Q) : PO X e t' := ⟨fun pins s σ H Q I hq => h.run pins s σ H Q I (c σ H Q hq)⟩
theorem cp_none : PO X none (tP (kc X) fun ρ => some (none, ρ)) := PO.to po_none fun σ H Q ⟨F, B, as, ρ, o, ρ', S, e, k⟩ => by
  cases e; exact k H F as .refl S
def gPart (g : FD) : FP := fun ρ => match g ρ with
  | some (.int i, ρ1) => some (some i, ρ1)
  | _ => none
theorem cp_some {a : Expr} {g : FD} (ha : PE X a (tD (kc X) g)) : PO X (some a) (tP (kc X) (gPart g)) := PO.to (po_some ha) fun σ H Q ⟨F, B, as, ρ, o, ρ', S, e, k⟩ => by
  unfold gPart at e
  split at e
  · rename_i i ρ1 q
    cases e
    exact ⟨F, B, as, ρ, .int i, _, S, q, fun v H1 F1 as1 E1 S1 r => ⟨i, by unfold Rep at r; exact r, k H1 F1 as1 E1 S1⟩⟩
  · cases e
def cutD (xs : List D) (lo hi : Option Int) : List D := (xs.drop (HT.sIx xs.length 0 lo)).take (HT.sIx xs.length xs.length hi - HT.sIx xs.length 0 lo)
theorem RepL.cut {K : Kc} {F : Addr → Prop} {H : Hp} {ds : List D} {vs : List V} (r : RepL K F H ds vs) (lo hi : Option Int) : RepL K F H (cutD ds lo hi) (cutV vs lo hi) := by
  unfold cutD cutV
  rw [r.length]
  exact (r.drop _).take _
def slD : D → Option Int → Option Int → Option D
  | .tup xs, lo, hi => some (.tup (cutD xs lo hi))
  | .lst xs, lo, hi => some (.lst (cutD xs lo hi))
  | _, _, _ => none
def gSl (f : D → Option Int → Option Int → Option D) (oa : FO) (gl gh : FP) : FD := fun ρ => match oa ρ with
  | some (x, ρ1) => match gl ρ1 with
    | some (lo, ρ2) => match gh ρ2 with
      | some (hi, ρ3) => match res ρ3 x with
        | some dx => match f dx lo hi with
          | some d => some (d, ρ3)
          | none => none
        | none => none
      | none => none
    | none => none
  | none => none
theorem gSl_some {f : D → Option Int → Option Int → Option D} {oa : FO} {gl gh : FP} {ρ : Env} {d : D} {ρ' : Env} (h : gSl f oa gl gh ρ = some (d, ρ')) :
    ∃ x ρ1 lo ρ2 hi dx, oa ρ = some (x, ρ1) ∧ gl ρ1 = some (lo, ρ2) ∧ gh ρ2 = some (hi, ρ') ∧ res ρ' x = some dx ∧ f dx lo hi = some d := by
  unfold gSl at h
  split at h
  · rename_i x ρ1 q1
    split at h
    · rename_i lo ρ2 q2
      split at h
      · rename_i hi ρ3 q3
        split at h
        · rename_i dx q4
          split at h
          · rename_i d' q5
            cases h
            exact ⟨x, ρ1, lo, ρ2, hi, dx, q1, q2, q3, q4, q5⟩
          · cases h
        · cases h
      · cases h
    · cases h
  · cases h
def rSlAll (K : PySem.W.Frag) : V → Option Int → Option Int → Hp → VK → Prop := fun x lo hi H Q => rSlA K x lo hi H Q ∨ rSlL K x lo hi H Q
theorem cut_whole {n : Nat} {xs : List V} {lo hi : Option Int} (h : HT.sIx xs.length 0 lo = 0 ∧ HT.sIx xs.length xs.length hi = xs.length) : cutV xs lo hi = xs := by
  unfold cutV
  rw [h.1, h.2]
  simp
theorem cutD_whole {xs : List D} {lo hi : Option Int} (h : HT.sIx xs.length 0 lo = 0 ∧ HT.sIx xs.length xs.length hi = xs.length) : cutD xs lo hi = xs := by
  unfold cutD
  rw [h.1, h.2]
  simp
theorem cd_slice {a : Expr} {lo hi : Option Expr} {p2 : Pos} {oa : FO} {gl gh : FP} (ha : PE X a (tO (kc X) oa)) (hl : PO X lo (tP (kc X) gl)) (hh : PO X hi (tP (kc X) gh)) : PE X (.Subscript a (.Slice lo hi none p2) pos) (tD (kc X) (gSl slD oa gl gh)) :=
  PE.to (pe_slice (r := rSlAll X.K) (sl_tupA.or sl_list) ha hl hh) fun σ H Q ⟨F, B, as, ρ, d, ρ', S, e, k⟩ => by
    obtain ⟨x, ρ1, lo, ρ2, hi, dx, e1, e2, e3, e4, e5⟩ := gSl_some e
    refine ⟨F, B, as, ρ, x, ρ1, S, e1, fun vx H1 F1 as1 E1 S1 r1 => ⟨F1, B, as1, ρ1, lo, ρ2, S1, e2, fun H2 F2 as2 E2 S2 => ⟨F2, B, as2, ρ2, hi, ρ', S2, e3, fun H3 F3 as3 E3 S3 => ?_⟩⟩⟩
    have w := S3.res e4 ((r1.stb E2.stb).stb E3.stb)
    have E := (E1.trans E2).trans E3
    unfold slD at e5
    split at e5
    · cases e5
      obtain ⟨p, us, rfl, h1, q1⟩ := w.tup
      refine .inl ⟨p, us, rfl, h1, fun hw => ?_, fun hw q hq => ?_⟩
      · rw [q1.length] at hw
        rw [cutD_whole hw] at k
        exact k _ H3 F3 as3 E S3 (Rep.tup' h1 q1)
      · obtain ⟨E4, q2⟩ := new_tup hq (q1.cut lo hi)
        exact k _ _ F3 as3 (E.trans E4.pure) (S3.step E4) q2
    · cases e5
      obtain ⟨p, us, rfl, h1, q1⟩ := w.lst
      refine .inr ⟨p, us, rfl, SqL.of h1, fun q hq => ?_⟩
      obtain ⟨E4, q2⟩ := new_lstF hq (q1.cut lo hi)
      exact k _ _ _ as3 (E.trans E4.pure) (S3.step E4) q2
    · cases e5
end

/-! ### len, all, any, tuple, list, int -/
def lenD : D → Option D
  | .tup xs => some (.int xs.length)
  | .lst xs => some (.int xs.length)
  | .str z => if z.length ≤ SZ then some (.int z.length) else none
  | .dic ks _ => some (.int ks.length)
  | _ => none
def rLenAll (K : PySem.W.Frag) : List V → Hp → VK → Prop := fun xs H Q => (∃ x n, xs = [x] ∧ LenV K x H n ∧ Q (.int n) H) ∨ ∃ a kvs, xs = [.ref a] ∧ Rd H a (.dK kvs) ∧ Q (.int kvs.length) H
theorem cr_len {X : Cx} : CallR X (.builtin "len") (rLenAll X.K) := by
  intro pins s σ H xs us Q I r h
  rcases h with h | ⟨a, kvs, rfl, h, q⟩
  · exact call_len pins s σ H xs us Q I r h
  · have e := Vals.ref1 r
    subst e
    exact d_len I h fun t s' I' => ⟨.int kvs.length, H, I', ⟨t, rfl⟩, q⟩
theorem pc_len {K : Kc} : PureC K (rLenAll K.K) lenD := by
  intro F H dx d vx Q fk e w k
  unfold lenD at e
  split at e
  · cases e
    obtain ⟨a, vs, rfl, h1, r1⟩ := w.tup
    refine .inl ⟨_, vs.length, rfl, .inr ⟨vs, h1, rfl⟩, ?_⟩
    rw [r1.length]
    exact k _ F H .refl Rep.int'
  · cases e
    obtain ⟨a, vs, rfl, h1, r1⟩ := w.lst
    refine .inl ⟨_, vs.length, rfl, .inl ⟨vs, SqL.of h1, rfl⟩, ?_⟩
    rw [r1.length]
    exact k _ F H .refl Rep.int'
  · split at e
    · rename_i hz
      cases e
      cases w.str
      exact .inl ⟨_, _, rfl, ⟨sz_le hz, rfl⟩, k _ F H .refl Rep.int'⟩
    · cases e
  · cases e
    unfold Vw at w
    obtain ⟨a, kvs, rfl, h1, rfl, h3⟩ := w
    refine .inr ⟨a, kvs, rfl, h1, ?_⟩
    rw [List.length_map] at k
    exact k _ F H .refl Rep.int'
  · cases e
def blsOf : List D → Option (List Bool)
  | [] => some []
  | .bl b :: r => match blsOf r with
    | some bs => some (b :: bs)
    | none => none
  | _ => none
theorem RepL.bls {K : Kc} {F : Addr → Prop} {H : Hp} : ∀ {ds : List D} {vs : List V} {bs : List Bool}, RepL K F H ds vs → blsOf ds = some bs → vs = bs.map V.bl
  | [], _, _, h, e => by unfold RepL at h; subst h; cases e; rfl
  | .bl b :: r, _, bs, h, e => by
    unfold RepL at h
    obtain ⟨v, r', rfl, h1, h2⟩ := h
    unfold blsOf at e
    split at e
    · rename_i bs' q
      cases e
      unfold Rep at h1
      rw [h1, RepL.bls h2 q]
      rfl
    · cases e
  | .non :: r, _, _, _, e => by simp [blsOf] at e
  | .int _ :: r, _, _, _, e => by simp [blsOf] at e
  | .str _ :: r, _, _, _, e => by simp [blsOf] at e
  | .ty _ :: r, _, _, _, e => by simp [blsOf] at e
  | .fn _ :: r, _, _, _, e => by simp [blsOf] at e
  | .tup _ :: r, _, _, _, e => by simp [blsOf] at e
  | .lst _ :: r, _, _, _, e => by simp [blsOf] at e
  | .dic _ _ :: r, _, _, _, e => by simp [blsOf] at e
  | .scr _ :: r, _, _, _, e => by simp [blsOf] at e
  | .ins _ _ _ _ :: r, _, _, _, e => by simp [blsOf] at e
def allD : D → Option D
  | .lst ds => match blsOf ds with
    | some bs => some (.bl (bs.all id))
    | none => none
  | _ => none
def anyD : D → Option D
  | .lst ds => match blsOf ds with
    | some bs => some (.bl (bs.any id))
    | none => none
  | _ => none
theorem pc_all {K : Kc} : PureC K (rAll K.K) allD := by
  intro F H dx d vx Q fk e w k
  unfold allD at e
  split at e
  · split at e
    · rename_i bs q
      cases e
      obtain ⟨a, vs, rfl, h1, r1⟩ := w.lst
      have e := r1.bls q
      subst e
      exact ⟨a, bs, rfl, SqL.of h1, k _ F H .refl Rep.bl'⟩
    · cases e
  · cases e
theorem pc_any {K : Kc} : PureC K (rAny K.K) anyD := by
  intro F H dx d vx Q fk e w k
  unfold anyD at e
  split at e
  · split at e
    · rename_i bs q
      cases e
      obtain ⟨a, vs, rfl, h1, r1⟩ := w.lst
      have e := r1.bls q
      subst e
      exact ⟨a, bs, rfl, SqL.of h1, k _ F H .refl Rep.bl'⟩
    · cases e
  · cases e
def tupD : D → Option D
  | .lst xs => some (.tup xs)
  | .tup xs => some (.tup xs)
  | _ => none
theorem pc_tup {K : Kc} : PureC K (fun xs H Q => ∃ p ys, xs = [.ref p] ∧ ((SqL K.K H p ys ∧ ∀ l, H l = none → Q (.ref l) (upd H l (.tup ys))) ∨ (SqT K.K H p ys ∧ Q (.ref p) H))) tupD := by
  intro F H dx d vx Q fk e w k
  unfold tupD at e
  split at e
  · cases e
    obtain ⟨a, vs, rfl, h1, r1⟩ := w.lst
    refine ⟨a, vs, rfl, .inl ⟨SqL.of h1, fun l hl => ?_⟩⟩
    obtain ⟨E, r⟩ := new_tup hl r1
    exact k _ F _ E r
  · cases e
    obtain ⟨a, vs, rfl, h1, r1⟩ := w.tup
    exact ⟨a, vs, rfl, .inr ⟨h1, k _ F H .refl (Rep.tup' h1 r1)⟩⟩
  · cases e
def lstD : D → Option D
  | .lst xs => some (.lst xs)
  | .tup xs => some (.lst xs)
  | .scr ns => some (.lst (ns.map .int))
  | _ => none
theorem own_lst {K : Kc} {F : Addr → Prop} {H : Hp} {p : Addr} {ds : List D} {vs : List V} (hp : H p = none) (r : RepL K F H ds vs) : Own K F (upd H p (.lst vs)) (.lst ds) (.ref p) [p] := by
  have E : Ext F [] H F [p] (upd H p (.lst vs)) := Ext.newO hp
  unfold Own OwnC
  exact ⟨p, vs, rfl, upd_same, RepL.stb E.stb _ _ r, rfl⟩
theorem RepL.ints {K : Kc} {F : Addr → Prop} {H : Hp} : ∀ ns : List Int, RepL K F H (ns.map .int) (ns.map V.int)
  | [] => RepL.nil
  | n :: ns => RepL.cons Rep.int' (RepL.ints ns)
theorem pw_lst {K : Kc} : PureW K (fun xs H Q => ∃ p ys, xs = [.ref p] ∧ (SqL K.K H p ys ∨ SqT K.K H p ys) ∧ ∀ l, H l = none → Q (.ref l) (upd H l (.lst ys))) lstD := by
  intro F H dx d vx Q fk e w k
  unfold lstD at e
  split at e
  · cases e
    obtain ⟨a, vs, rfl, h1, r1⟩ := w.lst
    exact ⟨a, vs, rfl, .inl (SqL.of h1), fun l hl => k l _ hl (own_lst hl r1)⟩
  · cases e
    obtain ⟨a, vs, rfl, h1, r1⟩ := w.tup
    exact ⟨a, vs, rfl, .inr h1, fun l hl => k l _ hl (own_lst hl r1)⟩
  · cases e
    unfold Vw Rep at w
    obtain ⟨a, rfl, h1⟩ := w
    exact ⟨a, _, rfl, .inl (h1.elim (fun ⟨o, h1⟩ => .inl (.inr ⟨o, h1⟩)) fun h => h H), fun l hl => k l _ hl (own_lst hl (RepL.ints _))⟩
  · cases e
def intD : D → Option D
  | .int i => some (.int i)
  | .bl b => some (.int (if b then 1 else 0))
  | _ => none
theorem pc_int {K : Kc} : PureC K (fun xs H Q => (∃ i, xs = [.int i] ∧ Q (.int i) H) ∨ ∃ k, xs = [.bl k] ∧ Q (.int (if k then 1 else 0)) H) intD := by
  intro F H dx d vx Q fk e w k
  unfold intD at e
  split at e
  · cases e; cases w.int; exact .inl ⟨_, rfl, k _ F H .refl Rep.int'⟩
  · cases e; cases w.bl; exact .inr ⟨_, rfl, k _ F H .refl Rep.int'⟩
  · cases e

/-! ### isinstance -/
inductive Tg where
  | non | bl | int | str | tup | lst | dic
  deriving DecidableEq
def Tg.name : Tg → String
  | .non => "NoneType"
  | .bl => "bool"
  | .int => "int"
  | .str => "str"
  | .tup => "tuple"
  | .lst => "list"
  | .dic => "dict"
def tgD : D → Option Tg
  | .non => some .non
  | .bl _ => some .bl
  | .int _ => some .int
  | .str _ => some .str
  | .tup _ => some .tup
  | .lst _ => some .lst
  | .dic _ _ => some .dic
  | _ => none
def tgN (s : String) : Option Tg := if s = "bool" then some .bl else if s = "int" then some .int else if s = "str" then some .str else if s = "tuple" then some .tup else if s = "list" then some .lst else if s = "dict" then some .dic else none
def isTg (a b : Tg) : Bool := a = b || (a = .bl && b = .int)
theorem kit_tg : ∀ a b : Tg, b ≠ .non → kitB a.name b.name = some (isTg a b) := by
  intro a b h
  cases a <;> cases b <;> first | exact absurd rfl h | decide +kernel
theorem tgN_name {s : String} {t : Tg} (h : tgN s = some t) : s = t.name ∧ t ≠ .non := by
  unfold tgN at h
  repeat (split at h; · rename_i e; cases h; exact ⟨e, by decide⟩)
  cases h
def isiD : D → D → Option D
  | x, .ty n => match tgD x, tgN n with
    | some a, some b => some (.bl (isTg a b))
    | _, _ => none
  | _, _ => none
theorem Vw.ty {K : Kc} {F : Addr → Prop} {H : Hp} {d : D} {v : V} {t : Tg} (w : Vw K F H d v) (e : tgD d = some t) : TyX K.K H v (.type t.name) := by
  cases d <;> simp [tgD] at e <;> subst e
  · cases w.non; exact .base .non
  · cases w.bl; exact .base (.bl _)
  · cases w.int; exact .base (.int _)
  · cases w.str; exact .base (.str _)
  · obtain ⟨a, vs, rfl, h, _⟩ := w.tup
    rcases h with (h | ⟨o, h⟩) | ⟨o, its, n, h, hc, _⟩
    · exact .base (.tup h)
    · exact .fTuple h
    · exact .kTuple h hc
  · obtain ⟨a, vs, rfl, h, _⟩ := w.lst
    exact .base (.lst h)
  · unfold Vw at w
    obtain ⟨a, kvs, rfl, h, _⟩ := w
    rcases h with h | ⟨o, h⟩
    · exact .base (.dK h)
    · exact .fDict h
theorem cd_isi {X : Cx} {pos p : Pos} {a b : Expr} {oa ob : FO} (hg : Gl X "isinstance") (hm : X.mg "isinstance" = none) (hv : bootBuiltins "isinstance" = some (.builtin "isinstance")) (ha : PE X a (tO (kc X) oa)) (hb : PE X b (tO (kc X) ob))
    (he : starEach [a, b] X.env = (false, eval a X.env) :: starEach [b] X.env := by rfl) (he2 : starEach [b] X.env = (false, eval b X.env) :: starEach [] X.env := by rfl) (hpl : (backTo pos (starEach [b] X.env)).any (·.1) = false := by rfl) : PE X (.Call (.Name "isinstance" p) [a, b] [] pos) (tD (kc X) (gOp2 isiD oa ob)) :=
  PE.to (pe_callB call_isi hg hm hv (pa_cons ha (pa_cons hb pa_nil he2) he) (by decide) (by decide) he hpl) fun σ H Q ⟨F, B, as, ρ, d, ρ', S, e, k⟩ => by
    obtain ⟨x, ρ1, y, dx, dy, e1, e2, e3, e4, e5⟩ := gOp2_some e
    refine seqOO S e1 e2 fun vx vy H2 F2 as2 E S2 rx ry => ?_
    have wx := S2.res e3 rx
    have wy := S2.res e4 ry
    unfold isiD at e5
    split at e5
    · split at e5
      · rename_i n _ t u q1 q2
        cases e5
        obtain ⟨rfl, hn⟩ := tgN_name q2
        unfold Vw Rep at wy
        subst wy
        exact ⟨vx, _, _, _, _, rfl, .ty _, wx.ty q1, kit_ty (kit_tg t u hn), k _ H2 F2 as2 E S2 Rep.bl'⟩
      · cases e5
    · cases e5
end DV

/-! DV5: statements, calls of defs. -/
namespace DV
open L2 PySem PySem.Spec PyProof.Rows

inductive Fl where
  | nx | br | ct | rt (d : D) (w : Bool)
abbrev FS := Env → Option (Fl × Env)
def tSEnd (K : Kc) (F : Addr → Prop) (B : List Addr) (as : List Addr) (H : Hp) (D : Ends) (ρ' : Env) : Fl → Prop
  | .nx => ∀ σ' H' F' as', Ext F as H F' as' H' → Sit K F' B H' ρ' σ' as' → D.nx σ' H'
  | .br => ∀ σ' H' F' as', Ext F as H F' as' H' → Sit K F' B H' ρ' σ' as' → D.bk σ' H'
  | .ct => ∀ σ' H' F' as', Ext F as H F' as' H' → Sit K F' B H' ρ' σ' as' → D.ct σ' H'
  | .rt d w => ∀ v σ' H' F' as' bs, Ext F as H F' (bs ++ as') H' → Sit2 K F' B H' ρ' σ' as' d w v bs → D.rt v H'
def tS (K : Kc) (g : FS) : TS := fun D σ H => ∃ F B as ρ fl ρ', Sit K F B H ρ σ as ∧ g ρ = some (fl, ρ') ∧ tSEnd K F B as H D ρ' fl
theorem tSEnd.ext {K : Kc} {F F1 : Addr → Prop} {B as as1 : List Addr} {H H1 : Hp} {D : Ends} {ρ' : Env} {fl : Fl} (h : tSEnd K F B as H D ρ' fl) (E : Ext F as H F1 as1 H1) : tSEnd K F1 B as1 H1 D ρ' fl := by
  cases fl with
  | nx => exact fun σ' H' F' as' E' S => h σ' H' F' as' (E.trans E') S
  | br => exact fun σ' H' F' as' E' S => h σ' H' F' as' (E.trans E') S
  | ct => exact fun σ' H' F' as' E' S => h σ' H' F' as' (E.trans E') S
  | rt d w => exact fun v σ' H' F' as' bs E' S => h v σ' H' F' as' bs (E.trans E') S
theorem tSEnd.nx {K : Kc} {F : Addr → Prop} {B as : List Addr} {H : Hp} {D D' : Ends} {ρ' : Env} {fl : Fl} (h : tSEnd K F B as H D ρ' fl) (hn : fl = .nx → False) (e1 : D'.bk = D.bk) (e2 : D'.ct = D.ct) (e3 : D'.rt = D.rt) : tSEnd K F B as H D' ρ' fl := by
  cases fl with
  | nx => exact absurd rfl hn
  | br => unfold tSEnd at h ⊢; rw [e1]; exact h
  | ct => unfold tSEnd at h ⊢; rw [e2]; exact h
  | rt d w => unfold tSEnd at h ⊢; rw [e3]; exact h

theorem PS.to {X : Cx} {st : Stmt} {t t' : TS} (h : PS X st t) (c : ∀ D σ H, t' D σ H → t D σ H) : PS X st t' := ⟨fun pins s σ H D I hq => h.run pins s σ H D I (c D σ H hq)⟩
theorem PSs.to {X : Cx} {st : List Stmt} {t t' : TS} (h : PSs X st t) (c : ∀ D σ H, t' D σ H → t D σ H) : PSs X st t' := ⟨fun pins s σ H D I hq => h.run pins s σ H D I (c D σ H hq)⟩

theorem Sit2.drop {K : Kc} {F : Addr → Prop} {B : List Addr} {H : Hp} {ρ : Env} {σ : L2.St} {as : List Addr} {d : D} {w : Bool} {v : V} {bs : List Addr} (S : Sit2 K F B H ρ σ as d w v bs) : Sit K F B H ρ σ as :=
  ⟨S.env, (List.nodup_append.mp S.nd).2.1, fun a m => S.nf a (List.mem_append_right _ m), S.fk⟩

section
variable {X : Cx} {pos : Pos}
/-! ### blocks -/
def gSkip : FS := fun ρ => some (.nx, ρ)
theorem css_nil : PSs X [] (tS (kc X) gSkip) := PSs.to pss_nil fun D σ H ⟨F, B, as, ρ, fl, ρ', S, e, k⟩ => by
  cases e; exact k σ H F as .refl S
theorem cs_pass : PS X (.Pass pos) (tS (kc X) gSkip) := PS.to ps_pass fun D σ H ⟨F, B, as, ρ, fl, ρ', S, e, k⟩ => by
  cases e; exact k σ H F as .refl S
theorem cs_doc {x j p} : PS X (.Expr (.Constant (.str x) j p) pos) (tS (kc X) gSkip) := PS.to ps_doc fun D σ H ⟨F, B, as, ρ, fl, ρ', S, e, k⟩ => by
  cases e; exact k σ H F as .refl S
theorem cs_break : PS X (.Break pos) (tS (kc X) fun ρ => some (.br, ρ)) := PS.to ps_break fun D σ H ⟨F, B, as, ρ, fl, ρ', S, e, k⟩ => by
  cases e; exact k σ H F as .refl S
theorem cs_cont : PS X (.Continue pos) (tS (kc X) fun ρ => some (.ct, ρ)) := PS.to ps_continue fun D σ H ⟨F, B, as, ρ, fl, ρ', S, e, k⟩ => by
  cases e; exact k σ H F as .refl S
/-- what is never reached -/
theorem cs_never {st : Stmt} : PS X st (tS (kc X) fun _ => none) := PS.to ps_never fun D σ H ⟨F, B, as, ρ, fl, ρ', S, e, k⟩ => by cases e
theorem cd_never {e : Expr} : PE X e (tD (kc X) fun _ => none) := ⟨fun _ _ _ _ _ _ ⟨F, B, as, ρ, fl, ρ', S, e, k⟩ => by cases e⟩
theorem cw_never {e : Expr} : PE X e (tW (kc X) fun _ => none) := ⟨fun _ _ _ _ _ _ ⟨F, B, as, ρ, fl, w, ρ', S, e, k⟩ => by cases e⟩
theorem ct_never {e : Expr} : PT X e (tB (kc X) fun _ => none) := ⟨fun _ _ _ _ _ _ ⟨F, B, as, ρ, fl, ρ', S, e, k⟩ => by cases e⟩
def gSeq (a b : FS) : FS := fun ρ => match a ρ with
  | some (.nx, ρ1) => b ρ1
  | some (.br, ρ1) => some (.br, ρ1)
  | some (.ct, ρ1) => some (.ct, ρ1)
  | some (.rt d w, ρ1) => some (.rt d w, ρ1)
  | none => none
theorem css_cons {st : Stmt} {rest : List Stmt} {ga gb : FS} (h1 : PS X st (tS (kc X) ga)) (h2 : PSs X rest (tS (kc X) gb)) : PSs X (st :: rest) (tS (kc X) (gSeq ga gb)) :=
  PSs.to (pss_cons h1 h2) fun D σ H ⟨F, B, as, ρ, fl, ρ', S, e, k⟩ => by
    unfold gSeq at e
    split at e
    · rename_i ρ1 q
      exact ⟨F, B, as, ρ, .nx, ρ1, S, q, fun σ1 H1 F1 as1 E1 S1 => ⟨F1, B, as1, ρ1, fl, ρ', S1, e, k.ext E1⟩⟩
    · rename_i ρ1 q; cases e; exact ⟨F, B, as, ρ, _, _, S, q, k.nx (fun z => by cases z) rfl rfl rfl⟩
    · rename_i ρ1 q; cases e; exact ⟨F, B, as, ρ, _, _, S, q, k.nx (fun z => by cases z) rfl rfl rfl⟩
    · rename_i d w ρ1 q; cases e; exact ⟨F, B, as, ρ, _, _, S, q, k.nx (fun z => by cases z) rfl rfl rfl⟩
    · cases e
theorem css_one {st : Stmt} {g : FS} (h : PS X st (tS (kc X) g)) : PSs X [st] (tS (kc X) g) := pss_one h
/-! ### small statements -/
def gDrop (g : FW) : FS := fun ρ => match g ρ with
  | some (_, _, ρ1) => some (.nx, ρ1)
  | none => none
theorem cs_expr {e : Expr} {g : FW} (h : PE X e (tW (kc X) g)) (hs : swapsWith e none pos.line X.env = pure false := by rfl) : PS X (.Expr e pos) (tS (kc X) (gDrop g)) :=
  PS.to (ps_expr h hs) fun D σ H ⟨F, B, as, ρ, fl, ρ', S, e, k⟩ => by
    unfold gDrop at e
    split at e
    · rename_i d w ρ1 q
      cases e
      exact ⟨F, B, as, ρ, d, w, _, S, q, fun v H1 F1 as1 bs E1 S1 => k σ H1 F1 as1 (E1.sub fun b m => List.mem_append_right _ m) S1.drop⟩
    · cases e
def gRet (g : FW) : FS := fun ρ => match g ρ with
  | some (d, w, ρ1) => some (.rt d w, ρ1)
  | none => none
theorem cs_ret {e : Expr} {g : FW} (h : PE X e (tW (kc X) g)) : PS X (.Return (some e) pos) (tS (kc X) (gRet g)) :=
  PS.to (ps_ret h) fun D σ H ⟨F, B, as, ρ, fl, ρ', S, e, k⟩ => by
    unfold gRet at e
    split at e
    · rename_i d w ρ1 q
      cases e
      exact ⟨F, B, as, ρ, d, w, _, S, q, fun v H1 F1 as1 bs E1 S1 => k v σ H1 F1 as1 bs E1 S1⟩
    · cases e
theorem cs_retN : PS X (.Return none pos) (tS (kc X) fun ρ => some (.rt .non false, ρ)) := PS.to ps_retN fun D σ H ⟨F, B, as, ρ, fl, ρ', S, e, k⟩ => by
  cases e
  exact k .non σ H F as [] .refl ⟨S.env, S.nd, S.nf, S.fk, by simp [Rep.non']⟩
def gIfS (t : FT) (a b : FS) : FS := fun ρ => match t ρ with
  | some (true, ρ1) => a ρ1
  | some (false, ρ1) => b ρ1
  | none => none
theorem cs_if {c : Expr} {a b : List Stmt} {t : FT} {ga gb : FS} (hc : PT X c (tB (kc X) t)) (ha : PSs X a (tS (kc X) ga)) (hb : PSs X b (tS (kc X) gb)) : PS X (.If c a b pos) (tS (kc X) (gIfS t ga gb)) :=
  PS.to (ps_if hc ha hb) fun D σ H ⟨F, B, as, ρ, fl, ρ', S, e, k⟩ => by
    unfold gIfS at e
    split at e
    · rename_i ρ1 q
      exact ⟨F, B, as, ρ, true, ρ1, S, q, fun H1 F1 as1 E1 S1 => by simp only [if_true]; exact ⟨F1, B, as1, ρ1, fl, ρ', S1, e, k.ext E1⟩⟩
    · rename_i ρ1 q
      exact ⟨F, B, as, ρ, false, ρ1, S, q, fun H1 F1 as1 E1 S1 => by simp only [Bool.false_eq_true, if_false]; exact ⟨F1, B, as1, ρ1, fl, ρ', S1, e, k.ext E1⟩⟩
    · cases e
/-! ### a name is bound -/
def bind1 (i : Nat) (d : D) (w : Bool) (ρ : Env) : Option Env := match ρ[i]? with
  | some (.bo _ _) => none
  | some _ => some (ρ.set i (if w = true then .ow d else .sh d))
  | none => none
theorem nodup_swap {bs p a q : List Addr} (h : (bs ++ (p ++ (a ++ q))).Nodup) : (p ++ (bs ++ q)).Nodup := by
  simp only [List.nodup_append, List.mem_append] at h ⊢
  grind
theorem Sit2.bind {K : Kc} {F : Addr → Prop} {B : List Addr} {H : Hp} {ρ : Env} {σ : L2.St} {as : List Addr} {d : D} {w : Bool} {v : V} {bs : List Addr} (S : Sit2 K F B H ρ σ as d w v bs) {i : Nat} {ρ' : Env} (e : bind1 i d w ρ = some ρ') :
    ∃ as', Sit K F B H ρ' (σ.set i (some v)) as' ∧ ∀ b, b ∈ as' → b ∈ bs ++ as := by
  have main : ∀ x, ρ[i]? = some x → ∃ as', Sit K F B H (ρ.set i (if w = true then .ow d else .sh d)) (σ.set i (some v)) as' ∧ ∀ b, b ∈ as' → b ∈ bs ++ as := fun x hx => by
    obtain ⟨o, p, a, q, ea, eo, hs, hr⟩ := S.env.split hx
    subst ea
    have sl : SlR K F B H (if w = true then .ow d else .sh d) (some v) bs := by
      have r := S.res
      cases w with
      | true => simp only [if_true] at r ⊢; unfold SlR; exact ⟨v, rfl, r⟩
      | false => simp only [Bool.false_eq_true, if_false] at r ⊢; unfold SlR; exact ⟨r.1, v, rfl, r.2⟩
    have mem : ∀ b, b ∈ p ++ (bs ++ q) → b ∈ bs ++ (p ++ (a ++ q)) := fun b m => by
      simp only [List.mem_append] at m ⊢
      grind
    exact ⟨p ++ (bs ++ q), ⟨hr _ _ _ .refl (Kept.of fun _ _ h => h) sl, nodup_swap S.nd, fun b m => S.nf b (mem b m), S.fk⟩, mem⟩
  unfold bind1 at e
  split at e
  · cases e
  · rename_i x hno hx
    cases e
    exact main x hx
  · cases e
def gSet (i : Nat) (g : FW) : FS := fun ρ => match g ρ with
  | some (d, w, ρ1) => match bind1 i d w ρ1 with
    | some ρ2 => some (.nx, ρ2)
    | none => none
  | none => none
theorem gSet_some {i : Nat} {g : FW} {ρ : Env} {fl : Fl} {ρ' : Env} (h : gSet i g ρ = some (fl, ρ')) : ∃ d w ρ1, g ρ = some (d, w, ρ1) ∧ bind1 i d w ρ1 = some ρ' ∧ fl = .nx := by
  unfold gSet at h
  split at h
  · rename_i d w ρ1 q
    split at h
    · rename_i ρ2 q2
      cases h
      exact ⟨d, w, ρ1, q, q2, rfl⟩
    · cases h
  · cases h
theorem cs_set {i : Nat} {x : Str} {e : Expr} {g : FW} {p : Pos} (hN : X.N.Nodup) (hi : X.N[i]? = some x) (hx : Loc X.env.scope x) (he : PE X e (tW (kc X) g)) (hs : swapsWith e (some (.Name x p)) pos.line X.env = pure false := by rfl)
    (hf : X.fn x = true ∨ X.env.scope.names.lookup x = some .local := by first | exact .inl rfl | exact .inr rfl | assumption) : PS X (.Assign [.Name x p] e pos) (tS (kc X) (gSet i g)) :=
  PS.to (ps_set hN hi hx he hs hf) fun D σ H ⟨F, B, as, ρ, fl, ρ', S, e, k⟩ => by
    obtain ⟨d, w, ρ1, e1, e2, rfl⟩ := gSet_some e
    refine ⟨F, B, as, ρ, d, w, ρ1, S, e1, fun v H1 F1 as1 bs E1 S1 => ?_⟩
    obtain ⟨as2, S2, m⟩ := S1.bind e2
    exact k _ H1 F1 as2 (E1.sub m) S2
/-- x op= e -/
def gAug (i : Nat) (f : D → D → Option D) (g : FD) : FS := fun ρ => match ρ[i]? with
  | some (.sh d0) => match g ρ with
    | some (d1, ρ1) => match f d0 d1 with
      | some d => match bind1 i d false ρ1 with
        | some ρ2 => some (.nx, ρ2)
        | none => none
      | none => none
    | none => none
  | _ => none
theorem cs_aug {i : Nat} {x : Str} {e : Expr} {op : Operator} {r : R2} {f : D → D → Option D} {g : FD} {p : Pos} (hN : X.N.Nodup) (hi : X.N[i]? = some x) (hx : Loc X.env.scope x) (ho : OpR X (inplaceOp op) r) (hp : PureR (kc X) r f) (he : PE X e (tD (kc X) g))
    (hf : X.fn x = true ∨ X.env.scope.names.lookup x = some .local := by first | exact .inl rfl | exact .inr rfl | assumption) : PS X (.AugAssign (.Name x p) op e pos) (tS (kc X) (gAug i f g)) :=
  PS.to (ps_aug (ti := r) hN hi hx he (fun pins s σ H x y v u Q I rx ry q => ho pins s σ H x y v u Q I rx ry q) hf) fun D σ H ⟨F, B, as, ρ, fl, ρ', S, e, k⟩ => by
    unfold gAug at e
    split at e
    · rename_i d0 q0
      split at e
      · rename_i d1 ρ1 q1
        split at e
        · rename_i d q2
          split at e
          · rename_i ρ2 q3
            cases e
            obtain ⟨o, p, a, qq, _, eo, hs, _⟩ := S.env.split q0
            unfold SlR at hs
            obtain ⟨_, v0, rfl, r0⟩ := hs
            refine ⟨v0, eo, F, B, as, ρ, d1, ρ1, S, q1, fun v1 H1 F1 as1 E1 S1 r1 => ?_⟩
            refine hp F1 H1 d0 d1 d v0 v1 _ S1.fk q2 (Rep.stb E1.stb _ _ r0).vw r1.vw fun v F2 H2 E2 r2 => ?_
            have S2 := S1.step E2
            obtain ⟨as3, S3, m⟩ := Sit2.bind (bs := []) (w := false) (v := v) ⟨S2.env, S2.nd, S2.nf, S2.fk, by simp [r2]⟩ q3
            exact k _ H2 F2 as3 ((E1.trans E2.pure).sub m) S3
          · cases e
        · cases e
      · cases e
    · cases e
end

/-! ### calls of defs -/
def ArgR (K : Kc) (F : Addr → Prop) (H : Hp) : List Bool → List D → List V → List Addr → Prop
  | [], [], vs, as => vs = [] ∧ as = []
  | true :: bo, d :: ds, vs, as => ∃ v r a1 a2, vs = v :: r ∧ as = a1 ++ a2 ∧ Own K F H d v a1 ∧ ArgR K F H bo ds r a2
  | false :: bo, d :: ds, vs, as => ∃ v r, vs = v :: r ∧ Rep K F H d v ∧ ArgR K F H bo ds r as
  | _, _, _, _ => False
def BorR (K : Kc) (F : Addr → Prop) (H : Hp) : List Bool → List D → List V → List Addr → Prop
  | [], ds, vs, as => ds = [] ∧ vs = [] ∧ as = []
  | true :: bo, ds, vs, as => ∃ d e v r a1 a2, ds = d :: e ∧ vs = v :: r ∧ as = a1 ++ a2 ∧ Own K F H d v a1 ∧ BorR K F H bo e r a2
  | false :: bo, ds, vs, as => ∃ v r, vs = v :: r ∧ BorR K F H bo ds r as
abbrev FnD := List D → Option (D × Bool × List D)
def spD (K : Kc) (bo : List Bool) (g : FnD) : Sp := fun vs H Q _ => ∃ F as ds d w ds', ArgR K F H bo ds vs as ∧ as.Nodup ∧ (∀ a, a ∈ as → ¬ F a) ∧ (∀ b, F b → H b ≠ none) ∧ g ds = some (d, w, ds') ∧
  ∀ v H' F' as' bs, Ext F as H F' (bs ++ as') H' → BorR K F' H' bo ds' vs as' → (bs ++ as').Nodup → (∀ a, a ∈ bs ++ as' → ¬ F' a) → (∀ b, F' b → H' b ≠ none) →
    (if w = true then Own K F' H' d v bs else bs = [] ∧ Rep K F' H' d v) → Q v H'
theorem ArgR.length {K : Kc} {F : Addr → Prop} {H : Hp} : ∀ {bo : List Bool} {ds : List D} {vs : List V} {as : List Addr}, ArgR K F H bo ds vs as → vs.length = bo.length
  | [], [], _, _, h => by unfold ArgR at h; rw [h.1] <;> rfl
  | true :: bo, d :: ds, _, _, h => by unfold ArgR at h; obtain ⟨v, r, a1, a2, rfl, _, _, h⟩ := h; simp [ArgR.length h]
  | false :: bo, d :: ds, _, _, h => by unfold ArgR at h; obtain ⟨v, r, rfl, _, h⟩ := h; simp [ArgR.length h]
  | [], _ :: _, _, _, h => by unfold ArgR at h; exact h.elim
  | true :: _, [], _, _, h => by unfold ArgR at h; exact h.elim
  | false :: _, [], _, _, h => by unfold ArgR at h; exact h.elim

inductive Ar where
  | bo (i : Nat) | va (d : D)
abbrev FAr := Env → Option (List Ar × Env)
def ArsR (K : Kc) (F : Addr → Prop) (H : Hp) (σ : L2.St) : List Ar → List V → Prop
  | [], vs => vs = []
  | .va d :: r, vs => ∃ v u, vs = v :: u ∧ Rep K F H d v ∧ ArsR K F H σ r u
  | .bo i :: r, vs => ∃ v u, vs = v :: u ∧ σ[i]? = some (some v) ∧ ArsR K F H σ r u
theorem ArsR.stb {K : Kc} {F F2 : Addr → Prop} {H H2 : Hp} {σ : L2.St} (s : Stb F H F2 H2) : ∀ {as : List Ar} {vs : List V}, ArsR K F H σ as vs → ArsR K F2 H2 σ as vs
  | [], _, h => by unfold ArsR at h ⊢; exact h
  | .va d :: r, _, h => by unfold ArsR at h ⊢; obtain ⟨v, u, e, h1, h2⟩ := h; exact ⟨v, u, e, Rep.stb s _ _ h1, h2.stb s⟩
  | .bo i :: r, _, h => by unfold ArsR at h ⊢; obtain ⟨v, u, e, h1, h2⟩ := h; exact ⟨v, u, e, h1, h2.stb s⟩
def tAr (K : Kc) (g : FAr) : TA := fun σ H Q => ∃ F B as ρ ars ρ', Sit K F B H ρ σ as ∧ g ρ = some (ars, ρ') ∧
  ∀ vs H' F' as', Ext F as H F' as' H' → Sit K F' B H' ρ' σ as' → ArsR K F' H' σ ars vs → Q vs H'
section
variable {X : Cx}
theorem ca_nil : PA X [] (tAr (kc X) fun ρ => some ([], ρ)) := PA.to pa_nil fun σ H Q ⟨F, B, as, ρ, d, ρ', S, e, h⟩ => by
  cases e; exact h _ H F as .refl S (by unfold ArsR; rfl)
def gVa (ga : FD) (gr : FAr) : FAr := fun ρ => match ga ρ with
  | some (d, ρ1) => match gr ρ1 with
    | some (ars, ρ2) => some (.va d :: ars, ρ2)
    | none => none
  | none => none
theorem ca_val {e : Expr} {es : List Expr} {ga : FD} {gr : FAr} (ha : PE X e (tD (kc X) ga)) (hr : PA X es (tAr (kc X) gr)) (hs : starEach (e :: es) X.env = (false, eval e X.env) :: starEach es X.env := by rfl) : PA X (e :: es) (tAr (kc X) (gVa ga gr)) :=
  PA.to (pa_cons ha hr hs) fun σ H Q ⟨F, B, as, ρ, ars, ρ', S, e, k⟩ => by
    unfold gVa at e
    split at e
    · rename_i d ρ1 q
      split at e
      · rename_i ars2 ρ2 q2
        cases e
        exact ⟨F, B, as, ρ, d, ρ1, S, q, fun v H1 F1 as1 E1 S1 r1 => ⟨F1, B, as1, ρ1, ars2, _, S1, q2, fun vs H2 F2 as2 E2 S2 r2 => k _ H2 F2 as2 (E1.trans E2) S2 (by unfold ArsR; exact ⟨v, vs, rfl, Rep.stb E2.stb _ _ r1, r2⟩)⟩⟩
      · cases e
    · cases e
def gBo (i : Nat) (gr : FAr) : FAr := fun ρ => match look ρ i with
  | some _ => match gr ρ with
    | some (ars, ρ2) => some (.bo i :: ars, ρ2)
    | none => none
  | none => none
theorem ca_bor {i : Nat} {x : Str} {p : Pos} {es : List Expr} {gr : FAr} (hN : X.N[i]? = some x) (hv : Vis X.env.scope x) (hr : PA X es (tAr (kc X) gr)) (hd : (x == ("__debug__" : Str)) = false := by decide)
    (hcd : (x == ("__classdict__" : Str)) = false := by decide) (hs : starEach (.Name x p :: es) X.env = (false, eval (.Name x p) X.env) :: starEach es X.env := by rfl) : PA X (.Name x p :: es) (tAr (kc X) (gBo i gr)) :=
  PA.to (pa_cons (pe_var hN hv hd hcd) hr hs) fun σ H Q ⟨F, B, as, ρ, ars, ρ', S, e, k⟩ => by
    unfold gBo at e
    split at e
    · rename_i d q
      split at e
      · rename_i ars2 ρ2 q2
        cases e
        obtain ⟨v, ev⟩ := S.there q
        exact ⟨v, ev, F, B, as, ρ, ars2, _, S, q2, fun vs H2 F2 as2 E2 S2 r2 => k _ H2 F2 as2 E2 S2 (by unfold ArsR; exact ⟨v, vs, rfl, ev, r2⟩)⟩
      · cases e
    · cases e
end
/-- the borrowed names are lent -/
def lend : List Ar → Env → Option (List Bool × List D × Env)
  | [], ρ => some ([], [], ρ)
  | .va d :: r, ρ => match lend r ρ with
    | some (b, ds, ρ') => some (false :: b, d :: ds, ρ')
    | none => none
  | .bo i :: r, ρ => match ρ[i]? with
    | some (.ow d) => match lend r (ρ.set i .no) with
      | some (b, ds, ρ') => some (true :: b, d :: ds, ρ')
      | none => none
    | some (.bo _ d) => match lend r (ρ.set i .no) with
      | some (b, ds, ρ') => some (true :: b, d :: ds, ρ')
      | none => none
    | _ => none
def reSl : Sl → D → Sl
  | .bo k _, d => .bo k d
  | _, d => .ow d
/-- and given back; ρ0: as they stood ahead of it -/
def give (ρ0 : Env) : List Ar → List D → Env → Option Env
  | [], _, ρ => some ρ
  | .va _ :: r, ds, ρ => give ρ0 r ds ρ
  | .bo i :: r, d :: ds, ρ => match ρ0[i]? with
    | some x => give ρ0 r ds (ρ.set i (reSl x d))
    | none => none
  | .bo _ :: _, [], _ => none
theorem getset {α : Type} {l : List α} {i j : Nat} {x y : α} (h : (l.set i x)[j]? = some y) : (j = i ∧ y = x) ∨ (j ≠ i ∧ l[j]? = some y) := by
  by_cases e : i = j
  · subst e
    by_cases hl : i < l.length
    · rw [List.getElem?_set_self hl] at h; cases h; exact .inl ⟨rfl, rfl⟩
    · rw [List.getElem?_eq_none (by simpa using hl)] at h; cases h
  · rw [List.getElem?_set_ne e] at h; exact .inr ⟨fun z => e z.symm, h⟩
/-- what is known of a lent name: how it goes back -/
def BackOk (B : List Addr) (σ : L2.St) (ρ0 : Env) : List Ar → Prop
  | [] => True
  | .va _ :: r => BackOk B σ ρ0 r
  | .bo i :: r => (∃ x, ρ0[i]? = some x ∧ (∀ k d, x = .bo k d → ∃ a, σ[i]? = some (some (.ref a)) ∧ B[k]? = some a)) ∧ BackOk B σ ρ0 r
theorem lend_ok {K : Kc} {F : Addr → Prop} {B : List Addr} {H : Hp} {σ : L2.St} {ρ0 : Env} : ∀ {ars : List Ar} {vs : List V} {ρ : Env} {as : List Addr} {bo : List Bool} {ds : List D} {ρ' : Env}, EnvR K F B H ρ σ as → as.Nodup → ArsR K F H σ ars vs → lend ars ρ = some (bo, ds, ρ') →
    (∀ (i : Nat) x, ρ[i]? = some x → x ≠ .no → ρ0[i]? = some x) →
    ∃ ab ar, ArgR K F H bo ds vs ab ∧ EnvR K F B H ρ' σ ar ∧ (ab ++ ar).Nodup ∧ (∀ b, b ∈ ab ++ ar → b ∈ as) ∧ BackOk B σ ρ0 ars
  | [], vs, ρ, as, bo, ds, ρ', he, hn, ha, hl, _ => by
    unfold lend at hl
    cases hl
    unfold ArsR at ha
    subst ha
    exact ⟨[], as, by unfold ArgR; exact ⟨rfl, rfl⟩, he, hn, fun b m => m, True.intro⟩
  | .va d :: r, vs, ρ, as, bo, ds, ρ', he, hn, ha, hl, h0 => by
    unfold ArsR at ha
    obtain ⟨v, u, rfl, h1, h2⟩ := ha
    unfold lend at hl
    split at hl
    · rename_i b ds' ρ2 q
      cases hl
      obtain ⟨ab, ar, k1, k2, k3, k4, k5⟩ := lend_ok he hn h2 q h0
      exact ⟨ab, ar, by unfold ArgR; exact ⟨v, u, rfl, h1, k1⟩, k2, k3, k4, k5⟩
    · cases hl
  | .bo i :: r, vs, ρ, as, bo, ds, ρ', he, hn, ha, hl, h0 => by
    unfold ArsR at ha
    obtain ⟨v, u, rfl, h1, h2⟩ := ha
    unfold lend at hl
    have main : ∀ x d b ds' ρ2, ρ[i]? = some x → x ≠ .no → (∀ a, SlR K F B H x (some v) a → Own K F H d v a) → (∀ k d, x = .bo k d → ∀ a, SlR K F B H x (some v) a → ∃ a, v = .ref a ∧ B[k]? = some a) → lend r (ρ.set i .no) = some (b, ds', ρ2) →
        ∃ ab ar, ArgR K F H (true :: b) (d :: ds') (v :: u) ab ∧ EnvR K F B H ρ2 σ ar ∧ (ab ++ ar).Nodup ∧ (∀ b, b ∈ ab ++ ar → b ∈ as) ∧ BackOk B σ ρ0 (.bo i :: r) := fun x d b ds' ρ2 hx hno hw hb q => by
      obtain ⟨o, p, a, qq, ea, eo, hs, hr⟩ := he.split hx
      rw [h1] at eo
      cases eo
      subst ea
      have z := hr .no (some v) [] .refl (Kept.of fun _ _ h => h) (by unfold SlR; rfl)
      rw [set_same h1] at z
      obtain ⟨n1, n2⟩ := nodup_mid hn
      obtain ⟨ab, ar, k1, k2, k3, k4, k5⟩ := lend_ok (as := p ++ qq) (by simpa using z) n1 h2 q fun j y hy hny => by
        rcases getset hy with ⟨_, e⟩ | ⟨_, e⟩
        · exact absurd e hny
        · exact h0 j y e hny
      have na : a.Nodup := (List.nodup_append.mp (List.nodup_append.mp hn).2.1).1
      refine ⟨a ++ ab, ar, by unfold ArgR; exact ⟨v, u, a, ab, rfl, rfl, hw a hs, k1⟩, k2, ?_, fun b m => ?_, ⟨⟨x, h0 i x hx hno, fun k d e => ?_⟩, k5⟩⟩
      · rw [List.append_assoc]
        exact List.nodup_append.mpr ⟨na, k3, fun y hy w hw e => n2 w (k4 w hw) (e ▸ hy)⟩
      · rw [List.append_assoc] at m
        rcases List.mem_append.mp m with m | m
        · simp [m]
        · have := k4 b m
          simp only [List.mem_append] at this ⊢
          grind
      · obtain ⟨a', e1, e2⟩ := hb k d e a hs
        exact ⟨a', by rw [h1, e1], e2⟩
    split at hl
    · rename_i d hx
      split at hl
      · rename_i b ds' ρ2 q
        cases hl
        refine main _ d b ds' ρ' hx (fun z => by cases z) (fun a hs => ?_) (fun k d e => by cases e) q
        unfold SlR at hs
        obtain ⟨v', e, r⟩ := hs
        cases e; exact r
      · cases hl
    · rename_i k d hx
      split at hl
      · rename_i b ds' ρ2 q
        cases hl
        refine main _ d b ds' ρ' hx (fun z => by cases z) (fun a hs => ?_) (fun k2 d2 e a hs => ?_) q
        · unfold SlR at hs
          obtain ⟨a', e, _, r⟩ := hs
          cases e; exact r
        · cases e
          unfold SlR at hs
          obtain ⟨a', e, e2, r⟩ := hs
          cases e; exact ⟨a', rfl, e2⟩
      · cases hl
    · cases hl
/-- a name cannot be lent twice -/
theorem lend_twice {i : Nat} : ∀ {ars : List Ar} {ρl ρr : Env} {b : List Bool} {ds' : List D}, lend ars ρl = some (b, ds', ρr) → (Ar.bo i) ∈ ars → (ρl[i]? = some .no ∨ ρl[i]? = none) → False
  | [], _, _, _, _, _, m, _ => by cases m
  | .va d :: ys, ρl, ρr, b, ds', hl, m, hn => by
    unfold lend at hl
    split at hl
    · rename_i q
      exact lend_twice q (by simpa using m) hn
    · cases hl
  | .bo j :: ys, ρl, ρr, b, ds', hl, m, hn => by
    by_cases hj : j = i
    · subst hj
      unfold lend at hl
      rcases hn with hn | hn <;> rw [hn] at hl <;> simp at hl
    · have m' : (Ar.bo i) ∈ ys := by
        rcases List.mem_cons.mp m with e | e
        · cases e; exact absurd rfl hj
        · exact e
      have hn' : (ρl.set j .no)[i]? = some .no ∨ (ρl.set j .no)[i]? = none := by
        rw [List.getElem?_set_ne hj]; exact hn
      unfold lend at hl
      split at hl
      · split at hl
        · rename_i q; exact lend_twice q m' hn'
        · cases hl
      · split at hl
        · rename_i q; exact lend_twice q m' hn'
        · cases hl
      · cases hl
theorem give_ok {K : Kc} {F F0 : Addr → Prop} {B : List Addr} {H H0 : Hp} {σ : L2.St} {ρ0 : Env} : ∀ {ars : List Ar} {vs : List V} {ρ : Env} {ar ab : List Addr} {bo : List Bool} {ds0 ds : List D} {ρl ρr ρ' : Env}, ArsR K F0 H0 σ ars vs → lend ars ρl = some (bo, ds0, ρr) → BackOk B σ ρ0 ars →
    BorR K F H bo ds vs ab → EnvR K F B H ρ σ ar → give ρ0 ars ds ρ = some ρ' → (∀ (i : Nat), (Ar.bo i) ∈ ars → ρ[i]? = some .no) → ∃ as, EnvR K F B H ρ' σ as ∧ as.Perm (ab ++ ar)
  | [], vs, ρ, ar, ab, bo, ds0, ds, ρl, ρr, ρ', ha, hl, hb, hB, he, hg, hn => by
    unfold lend at hl
    cases hl
    unfold BorR at hB
    obtain ⟨rfl, _, rfl⟩ := hB
    unfold give at hg
    cases hg
    exact ⟨ar, he, .refl _⟩
  | .va d :: r, vs, ρ, ar, ab, bo, ds0, ds, ρl, ρr, ρ', ha, hl, hb, hB, he, hg, hn => by
    unfold lend at hl
    split at hl
    · rename_i b ds' ρ2 q
      cases hl
      unfold ArsR at ha
      obtain ⟨v, u, rfl, h1, h2⟩ := ha
      unfold BorR at hB
      obtain ⟨v', r', e, hB⟩ := hB
      cases e
      exact give_ok h2 q hb hB he hg fun i m => hn i (List.mem_cons_of_mem _ m)
    · cases hl
  | .bo i :: r, vs, ρ, ar, ab, bo, ds0, ds, ρl, ρr, ρ', ha, hl, hb, hB, he, hg, hn => by
    unfold ArsR at ha
    obtain ⟨v, u, rfl, h1, h2⟩ := ha
    have main : ∀ b ds', lend r (ρl.set i .no) = some (b, ds', ρr) → BorR K F H (true :: b) ds (v :: u) ab → ∃ as, EnvR K F B H ρ' σ as ∧ as.Perm (ab ++ ar) := fun b ds' q hB => by
      unfold BorR at hB
      obtain ⟨d, e, v', r', a1, a2, rfl, e2, rfl, ho, hB⟩ := hB
      cases e2
      obtain ⟨⟨x, hx, hx2⟩, hb⟩ := hb
      unfold give at hg
      rw [hx] at hg
      simp only at hg
      have hni := hn i List.mem_cons_self
      obtain ⟨o, p, a, qq, ea, eo, hs, hr⟩ := he.split hni
      rw [h1] at eo
      cases eo
      unfold SlR at hs
      subst hs ea
      have sl : SlR K F B H (reSl x d) (some v) a1 := by
        cases x with
        | bo k d0 =>
          obtain ⟨a, ea, eb⟩ := hx2 k d0 rfl
          rw [h1] at ea
          cases ea
          unfold reSl SlR
          exact ⟨a, rfl, eb, ho⟩
        | _ => unfold reSl SlR; exact ⟨v, rfl, ho⟩
      have z := hr _ _ _ .refl (Kept.of fun _ _ h => h) sl
      rw [set_same h1] at z
      by_cases hm : (Ar.bo i) ∈ r
      · -- a name cannot be lent twice
        exfalso
        refine lend_twice q hm ?_
        by_cases hl2 : i < ρl.length
        · exact .inl (List.getElem?_set_self hl2)
        · exact .inr (List.getElem?_eq_none (by simpa using hl2))
      · obtain ⟨as, k1, k2⟩ := give_ok h2 q hb hB z hg fun j m => by
          have hj : i ≠ j := fun e => hm (e ▸ m)
          rw [List.getElem?_set_ne hj]
          exact hn j (List.mem_cons_of_mem _ m)
        refine ⟨as, k1, k2.trans ?_⟩
        simp only [List.nil_append]
        refine (List.Perm.append_left a2 ?_).trans ?_ (l₂ := a2 ++ (a1 ++ (p ++ qq)))
        · rw [← List.append_assoc, ← List.append_assoc]
          exact List.Perm.append_right qq List.perm_append_comm
        · rw [← List.append_assoc]
          exact List.Perm.append_right _ List.perm_append_comm
    unfold lend at hl
    split at hl
    · split at hl
      · rename_i q
        cases hl
        exact main _ _ q hB
      · cases hl
    · split at hl
      · rename_i q
        cases hl
        exact main _ _ q hB
      · cases hl
    · cases hl
theorem lend_no : ∀ {ars : List Ar} {ρ ρ' : Env} {bo : List Bool} {ds : List D}, lend ars ρ = some (bo, ds, ρ') → (∀ (i : Nat), (Ar.bo i) ∈ ars → ρ'[i]? = some .no) ∧ ∀ (j : Nat), ρ[j]? = some .no → ρ'[j]? = some .no
  | [], ρ, ρ', bo, ds, h => by unfold lend at h; cases h; exact ⟨fun i m => (List.not_mem_nil m).elim, fun j h => h⟩
  | .va d :: r, ρ, ρ', bo, ds, h => by
    unfold lend at h
    split at h
    · rename_i q
      cases h
      obtain ⟨h1, h2⟩ := lend_no q
      exact ⟨fun i m => h1 i (by simpa using m), h2⟩
    · cases h
  | .bo i :: r, ρ, ρ', bo, ds, h => by
    have main : ∀ b ds', (∃ x, ρ[i]? = some x) → lend r (ρ.set i .no) = some (b, ds', ρ') → (∀ (j : Nat), (Ar.bo j) ∈ (Ar.bo i :: r) → ρ'[j]? = some .no) ∧ ∀ (j : Nat), ρ[j]? = some .no → ρ'[j]? = some .no := fun b ds' hx q => by
      obtain ⟨h1, h2⟩ := lend_no q
      have hi : (ρ.set i .no)[i]? = some .no := by
        obtain ⟨x, hx⟩ := hx
        have := (List.getElem?_eq_some_iff.mp hx).1
        exact List.getElem?_set_self this
      refine ⟨fun j m => ?_, fun j hj => h2 j ?_⟩
      · rcases List.mem_cons.mp m with e | e
        · cases e; exact h2 i hi
        · exact h1 j e
      · by_cases e : i = j
        · subst e; exact hi
        · rw [List.getElem?_set_ne e]; exact hj
    unfold lend at h
    split at h
    · rename_i hx
      split at h
      · rename_i q; cases h; exact main _ _ ⟨_, hx⟩ q
      · cases h
    · rename_i hx
      split at h
      · rename_i q; cases h; exact main _ _ ⟨_, hx⟩ q
      · cases h
    · cases h
/-- dd: what fills up the parameters that are not given -/
def gCallD (bo : List Bool) (G : FnD) (dd : List D) (ga : FAr) : FW := fun ρ => match ga ρ with
  | some (ars, ρ1) => match lend ars ρ1 with
    | some (b, ds, ρ2) => if b ++ dd.map (fun _ => false) = bo then match G (ds ++ dd) with
        | some (d, w, ds') => match give ρ1 ars ds' ρ2 with
          | some ρ3 => some (d, w, ρ3)
          | none => none
        | none => none
      else none
    | none => none
  | none => none
abbrev gCall (bo : List Bool) (G : FnD) (ga : FAr) : FW := gCallD bo G [] ga
theorem gCallD_some {bo : List Bool} {G : FnD} {dd : List D} {ga : FAr} {ρ : Env} {d : D} {w : Bool} {ρ' : Env} (h : gCallD bo G dd ga ρ = some (d, w, ρ')) : ∃ ars ρ1 b ds ρ2 ds', ga ρ = some (ars, ρ1) ∧ lend ars ρ1 = some (b, ds, ρ2) ∧ b ++ dd.map (fun _ => false) = bo ∧ G (ds ++ dd) = some (d, w, ds') ∧ give ρ1 ars ds' ρ2 = some ρ' := by
  unfold gCallD at h
  split at h
  · rename_i ars ρ1 q1
    split at h
    · rename_i b ds ρ2 q2
      split at h
      · rename_i hb
        split at h
        · rename_i d' w' ds' q3
          split at h
          · rename_i ρ3 q4
            cases h
            exact ⟨ars, ρ1, b, ds, ρ2, ds', q1, q2, hb, q3, q4⟩
          · cases h
        · cases h
      · cases h
    · cases h
  · cases h
theorem ArgR.dflt {K : Kc} {F : Addr → Prop} {H : Hp} {dd : List D} {dvs : List V} (r : RepL K F H dd dvs) : ∀ {bo : List Bool} {ds : List D} {vs : List V} {as : List Addr}, ArgR K F H bo ds vs as → ArgR K F H (bo ++ dd.map fun _ => false) (ds ++ dd) (vs ++ dvs) as
  | [], [], vs, as, h => by
    unfold ArgR at h
    obtain ⟨rfl, rfl⟩ := h
    simp only [List.nil_append]
    induction dd generalizing dvs with
    | nil => unfold RepL at r; subst r; unfold ArgR; exact ⟨rfl, rfl⟩
    | cons d dd ih =>
      unfold RepL at r
      obtain ⟨v, r', rfl, h1, h2⟩ := r
      show ArgR K F H (false :: dd.map fun _ => false) (d :: dd) (v :: r') []
      unfold ArgR
      exact ⟨v, r', rfl, h1, ih h2⟩
  | true :: bo, d :: ds, vs, as, h => by
    unfold ArgR at h
    obtain ⟨v, u, a1, a2, rfl, rfl, ho, h⟩ := h
    show ArgR K F H (true :: (bo ++ _)) (d :: (ds ++ dd)) (v :: (u ++ dvs)) (a1 ++ a2)
    unfold ArgR
    exact ⟨v, _, a1, a2, rfl, rfl, ho, ArgR.dflt r h⟩
  | false :: bo, d :: ds, vs, as, h => by
    unfold ArgR at h
    obtain ⟨v, u, rfl, ho, h⟩ := h
    show ArgR K F H (false :: (bo ++ _)) (d :: (ds ++ dd)) (v :: (u ++ dvs)) as
    unfold ArgR
    exact ⟨v, _, rfl, ho, ArgR.dflt r h⟩
  | [], _ :: _, _, _, h => by unfold ArgR at h; exact h.elim
  | true :: _, [], _, _, h => by unfold ArgR at h; exact h.elim
  | false :: _, [], _, _, h => by unfold ArgR at h; exact h.elim
theorem BorR.dflt {K : Kc} {F : Addr → Prop} {H : Hp} {n : List D} {dvs : List V} : ∀ {bo : List Bool} {ds : List D} {vs : List V} {as : List Addr}, vs.length = bo.length → BorR K F H (bo ++ n.map fun _ => false) ds (vs ++ dvs) as → BorR K F H bo ds vs as
  | [], ds, vs, as, hl, h => by
    have : vs = [] := List.eq_nil_of_length_eq_zero hl
    subst this
    simp only [List.nil_append] at h
    have : ∀ (n : List D) (dvs : List V), BorR K F H (n.map fun _ => false) ds dvs as → ds = [] ∧ as = [] := by
      intro n
      induction n with
      | nil => intro dvs h; simp only [List.map_nil] at h; unfold BorR at h; exact ⟨h.1, h.2.2⟩
      | cons d n ih =>
        intro dvs h
        simp only [List.map_cons] at h
        unfold BorR at h
        obtain ⟨v, r, _, h⟩ := h
        exact ih r h
    obtain ⟨e1, e2⟩ := this n dvs h
    unfold BorR
    exact ⟨e1, rfl, e2⟩
  | true :: bo, ds, [], as, hl, h => by simp at hl
  | true :: bo, ds, v :: vs, as, hl, h => by
    have h : BorR K F H (true :: (bo ++ n.map fun _ => false)) ds (v :: (vs ++ dvs)) as := h
    unfold BorR at h
    obtain ⟨d, e, v', r, a1, a2, rfl, e2, rfl, ho, h⟩ := h
    cases e2
    unfold BorR
    exact ⟨d, e, _, vs, a1, a2, rfl, rfl, rfl, ho, BorR.dflt (by simpa using hl) h⟩
  | false :: bo, ds, [], as, hl, h => by simp at hl
  | false :: bo, ds, v :: vs, as, hl, h => by
    have h : BorR K F H (false :: (bo ++ n.map fun _ => false)) ds (v :: (vs ++ dvs)) as := h
    unfold BorR at h
    obtain ⟨v', r, e2, h⟩ := h
    cases e2
    unfold BorR
    exact ⟨_, vs, rfl, BorR.dflt (by simpa using hl) h⟩
theorem callD_fit {K : Kc} {bo : List Bool} {G : FnD} {dd : List D} {dvs : List V} (hdd : ∀ F H, RepL K F H dd dvs) {ga : FAr} {σ : L2.St} {H : Hp} {Q : VK} {E : XK} (h : tW K (gCallD bo G dd ga) σ H Q) : tCall (spD K bo G) dvs E (tAr K ga) σ H Q := by
  obtain ⟨F, B, as, ρ, d, w, ρ', S, e, k⟩ := h
  obtain ⟨ars, ρ1, b, ds, ρ2, ds', e1, e2, rfl, e3, e4⟩ := gCallD_some e
  refine ⟨F, B, as, ρ, ars, ρ1, S, e1, fun vs H1 F1 as1 E1 S1 ra => ?_⟩
  show spD K _ G (vs ++ dvs) H1 Q E
  obtain ⟨ab, ar, k1, k2, k3, k4, k5⟩ := lend_ok (ρ0 := ρ1) S1.env S1.nd ra e2 fun i x h _ => h
  have nn := List.nodup_append.mp k3
  refine ⟨F1, ab, ds ++ dd, d, w, ds', k1.dflt (hdd F1 H1), nn.1, fun a m => S1.nf a (k4 a (List.mem_append_left _ m)), S1.fk, e3, fun v H2 F2 ab2 bs E2 hB n2 f2 fk2 r => ?_⟩
  have hB := BorR.dflt k1.length hB
  have kept : Kept ar H1 H2 := E2.kept fun b m z => nn.2.2 b z b m rfl
  have env2 := k2.stb E2.stb.weak kept
  obtain ⟨as3, q1, q2⟩ := give_ok ra e2 k5 hB env2 e4 (lend_no e2).1
  have arno : ∀ b, b ∈ ar → b ∉ bs ++ ab2 := fun b m z => by
    rcases E2.anew b z with z | z
    · exact nn.2.2 b z b m rfl
    · obtain ⟨u, q⟩ := k2.there b m
      rw [q] at z; cases z
  have nd3 : (bs ++ as3).Nodup := by
    have p : (bs ++ as3).Perm ((bs ++ ab2) ++ ar) := by
      rw [List.append_assoc]
      exact List.Perm.append_left bs q2
    exact p.nodup_iff.mpr (List.nodup_append.mpr ⟨n2, nn.2.1, fun x hx y hy e => arno y hy (e ▸ hx)⟩)
  have mem3 : ∀ b, b ∈ bs ++ as3 → b ∈ (bs ++ ab2) ++ ar := fun b m => by
    rw [List.append_assoc]
    rcases List.mem_append.mp m with m | m
    · exact List.mem_append_left _ m
    · exact List.mem_append_right _ (q2.mem_iff.mp m)
  have nf3 : ∀ b, b ∈ bs ++ as3 → ¬ F2 b := fun b m f => by
    rcases List.mem_append.mp (mem3 b m) with m | m
    · exact f2 b m f
    · rcases E2.fnew b f with z | z | z
      · exact S1.nf b (k4 b (List.mem_append_right _ m)) z
      · exact nn.2.2 b z b m rfl
      · obtain ⟨u, q⟩ := k2.there b m
        rw [q] at z; cases z
  have EE : Ext F1 as1 H1 F2 (bs ++ as3) H2 := by
    refine ⟨E2.stb, fun b u h n => E2.keep b u h fun z => n (k4 b (List.mem_append_left _ z)), E2.dom, fun b f => ?_, fun b m => ?_, E2.fk⟩
    · rcases E2.fnew b f with z | z | z
      · exact .inl z
      · exact .inr (.inl (k4 b (List.mem_append_left _ z)))
      · exact .inr (.inr z)
    · rcases List.mem_append.mp (mem3 b m) with m | m
      · rcases E2.anew b m with z | z
        · exact .inl (k4 b (List.mem_append_left _ z))
        · exact .inr z
      · exact .inl (k4 b (List.mem_append_right _ m))
  exact k v H2 F2 as3 bs (E1.trans EE) ⟨q1, nd3, nf3, fk2, r⟩
/-- a def that is there, with what it computes -/
structure FnAt (X : Cx) (n : Nat) (x : Str) (bo : List Bool) (G : FnD) (dd : List D := []) : Prop where
  at_ : ∃ f fd ps ds dvs, X.mg x = some (.ref f) ∧ PySem.W.keepIn X.K (.ref f) = true ∧ Binds X.K fd ps ds ∧ Vals dvs ds ∧ (∀ F H, RepL (kc X) F H dd dvs) ∧ FnOk X.prog X.w X.K X.mg X.base CX0 n f fd ps (spD (kc X) bo G)
theorem cw_call {X : Cx} {n : Nat} {x : Str} {bo : List Bool} {G : FnD} {dd : List D} {p pos : Pos} {e : Expr} {es : List Expr} {ga : FAr} (Fn : FnAt X n x bo G dd) (hr : Room n X.A) (hg : Gl X x) (ha : PA X (e :: es) (tAr (kc X) ga))
    (hdb : (x == ("__debug__" : Str)) = false := by decide) (he : starEach (e :: es) X.env = (false, eval e X.env) :: starEach es X.env := by rfl) (hpl : (backTo pos (starEach es X.env)).any (·.1) = false := by rfl) :
    PE X (.Call (.Name x p) (e :: es) [] pos) (tW (kc X) (gCallD bo G dd ga)) := by
  obtain ⟨f, fd, ps, ds, dvs, hm, hk, hb, hv, hd, ok⟩ := Fn.at_
  exact PE.to (pe_call ok hr hg hm hk hb hv pass0 ha hdb he hpl) fun σ H Q h => callD_fit hd h
end DV

/-! DV6: targets, what is walked, for, comprehensions. -/
namespace DV
open L2 PySem PySem.Spec PyProof.Rows

/-! ### targets -/
abbrev FG := D → Env → Option Env
def tG (K : Kc) (ts : List Nat) (h : FG) : TG := fun v σ H Q => ∃ F B as ρ d ρ', Sit K F B H ρ σ as ∧ Rep K F H d v ∧ h d ρ = some ρ' ∧
  ∀ σ' H' F' as', σ'.length = σ.length → (∀ j, j ∉ ts → σ'[j]? = σ[j]?) → Ext F as H F' as' H' → Sit K F' B H' ρ' σ' as' → Q σ' H'
abbrev FGs := List D → Env → Option Env
def tGs (K : Kc) (ts : List Nat) (h : FGs) : TGs := fun vs σ H Q => ∃ F B as ρ ds ρ', Sit K F B H ρ σ as ∧ RepL K F H ds vs ∧ h ds ρ = some ρ' ∧
  ∀ σ' H' F' as', σ'.length = σ.length → (∀ j, j ∉ ts → σ'[j]? = σ[j]?) → Ext F as H F' as' H' → Sit K F' B H' ρ' σ' as' → Q σ' H'
theorem PG.to {X : Cx} {e : Expr} {t t' : TG} (h : PG X e t) (c : ∀ v σ H Q, t' v σ H Q → t v σ H Q) : PG X e t' := ⟨fun pins s σ H v u Q I r hq => h.run pins s σ H v u Q I r (c v σ H Q hq)⟩
theorem PGs.to {X : Cx} {e : List Expr} {t t' : TGs} (h : PGs X e t) (c : ∀ v σ H Q, t' v σ H Q → t v σ H Q) : PGs X e t' := ⟨fun pins s σ H v u Q I r hq => h.run pins s σ H v u Q I r (c v σ H Q hq)⟩
def hNm (i : Nat) : FG := fun d ρ => bind1 i d false ρ
theorem set_ne {i : Nat} {σ : L2.St} {x : Option V} (j : Nat) (h : j ∉ [i]) : (σ.set i x)[j]? = σ[j]? := List.getElem?_set_ne (fun e => h (by simp [e]))
section
variable {X : Cx} {pos : Pos}
theorem cg_name {i : Nat} {x : Str} (hN : X.N.Nodup) (hi : X.N[i]? = some x) (hx : Loc X.env.scope x) (hf : X.fn x = true ∨ X.env.scope.names.lookup x = some .local := by first | exact .inl rfl | exact .inr rfl | assumption) : PG X (.Name x pos) (tG (kc X) [i] (hNm i)) :=
  PG.to (pg_name hN hi hx hf) fun v σ H Q ⟨F, B, as, ρ, d, ρ', S, r, e, k⟩ => by
    obtain ⟨as2, S2, m⟩ := Sit2.bind (bs := []) (w := false) (v := v) ⟨S.env, S.nd, S.nf, S.fk, by simp [r]⟩ e
    exact k _ H F as2 (by simp) (fun j hj => set_ne j hj) (Ext.refl.sub m) S2
def hNil : FGs := fun ds ρ => match ds with
  | [] => some ρ
  | _ => none
def hCons (h : FG) (hs : FGs) : FGs := fun ds ρ => match ds with
  | d :: r => match h d ρ with
    | some ρ1 => hs r ρ1
    | none => none
  | [] => none
theorem cgs_nil : PGs X [] (tGs (kc X) [] hNil) := PGs.to pgs_nil fun vs σ H Q ⟨F, B, as, ρ, ds, ρ', S, r, e, k⟩ => by
  unfold hNil at e
  split at e
  · cases e
    unfold RepL at r
    exact ⟨r, k σ H F as rfl (fun _ _ => rfl) .refl S⟩
  · cases e
theorem cgs_cons {e : Expr} {es : List Expr} {ts us : List Nat} {h : FG} {hs : FGs} (h1 : PG X e (tG (kc X) ts h)) (h2 : PGs X es (tGs (kc X) us hs)) (hq : (assignEach (e :: es) X.env).map (·.2) = assign e X.env :: (assignEach es X.env).map (·.2) := by rfl) :
    PGs X (e :: es) (tGs (kc X) (ts ++ us) (hCons h hs)) := PGs.to (pgs_cons h1 h2 hq) fun vs σ H Q ⟨F, B, as, ρ, ds, ρ', S, r, e, k⟩ => by
  unfold hCons at e
  split at e
  · rename_i d rest
    split at e
    · rename_i ρ1 q
      unfold RepL at r
      obtain ⟨v, u, rfl, r1, r2⟩ := r
      refine ⟨v, u, rfl, F, B, as, ρ, d, ρ1, S, r1, q, fun σ1 H1 F1 as1 l1 n1 E1 S1 => ⟨F1, B, as1, ρ1, rest, ρ', S1, RepL.stb E1.stb _ _ r2, e, fun σ2 H2 F2 as2 l2 n2 E2 S2 => ?_⟩⟩
      exact k σ2 H2 F2 as2 (l2.trans l1) (fun j hj => (n2 j fun m => hj (List.mem_append_right _ m)).trans (n1 j fun m => hj (List.mem_append_left _ m))) (E1.trans E2) S2
    · cases e
  · cases e
def hTup (n : Nat) (h : FGs) : FG := fun d ρ => match d with
  | .tup ds => if ds.length = n then h ds ρ else none
  | _ => none
theorem cg_tup {es : List Expr} {k n : Nat} {ts : List Nat} {h : FGs} (hc : X.calm = true) (hs : PGs X es (tGs (kc X) ts h)) (hn : (assignEach es X.env).length = n := by rfl) (hst : (assignEach es X.env).findIdx? (·.1) = none := by rfl) : PG X (.Tuple es k pos) (tG (kc X) ts (hTup n h)) :=
  PG.to (pg_tup hc hs hn hst) fun v σ H Q ⟨F, B, as, ρ, d, ρ', S, r, e, k⟩ => by
    unfold hTup at e
    split at e
    · split at e
      · rename_i ds hl
        unfold Rep at r
        obtain ⟨a, vs, rfl, h1, h2⟩ := r
        exact ⟨a, vs, rfl, h1, by rw [h2.length, hl], F, B, as, ρ, ds, ρ', S, h2, e, k⟩
      · cases e
    · cases e
end

/-! ### what is walked -/
def ItOk (K : Kc) (J : It) (items : List D) (F : Addr → Prop) (H : Hp) : Prop := ∀ F2 H2, Stb F H F2 H2 → (∀ b, F2 b → H2 b ≠ none) → ∀ i,
  (∀ d, items[i]? = some d → J.go i H2 ∧ ∀ x H3, J.yld i H2 x H3 → ∃ F3, Ext F2 [] H2 F3 [] H3 ∧ Rep K F3 H3 d x) ∧ (items.length ≤ i → J.stop i H2)
theorem ItOk.stb {K : Kc} {J : It} {items : List D} {F F2 : Addr → Prop} {H H2 : Hp} (h : ItOk K J items F H) (s : Stb F H F2 H2) : ItOk K J items F2 H2 := fun F3 H3 s3 => h F3 H3 (s.trans s3)
def tI (K : Kc) (g : FL) : TI := fun σ H R => ∃ F B as ρ items ρ', Sit K F B H ρ σ as ∧ g ρ = some (items, ρ') ∧ ∀ J H' F' as', Ext F as H F' as' H' → Sit K F' B H' ρ' σ as' → ItOk K J items F' H' → R J H'
theorem PI.to {X : Cx} {tg e : Expr} {t t' : TI} (h : PI X tg e t) (c : ∀ σ H R, t' σ H R → t σ H R) : PI X tg e t' := ⟨fun pins s σ H R I hq => h.run pins s σ H R I (c σ H R hq)⟩
theorem RepL.get' {K : Kc} {F : Addr → Prop} {H : Hp} {ds : List D} {vs : List V} {i : Nat} {x : V} (r : RepL K F H ds vs) (e : vs[i]? = some x) : ∃ d, ds[i]? = some d ∧ Rep K F H d x := by
  have hl : i < ds.length := by
    have := (List.getElem?_eq_some_iff.mp e).1
    rw [r.length] at this; exact this
  obtain ⟨v, h1, h2⟩ := r.get (List.getElem?_eq_getElem hl)
  rw [e] at h1
  cases h1
  exact ⟨_, List.getElem?_eq_getElem hl, h2⟩
/-- a list among what never changes -/
theorem it_lst {K : Kc} {F : Addr → Prop} {H : Hp} {a : Addr} {vs : List V} {ds : List D} (hf : F a) (h : H a = some (.lst vs)) (r : RepL K F H ds vs) : ItOk K (Itl K.K a) ds F H := fun F2 H2 s fk i => by
  have h2 : SqL K.K H2 a vs := SqL.of (s.ls a vs hf h)
  have r2 := RepL.stb s.weak _ _ r
  refine ⟨fun d hd => ?_, fun hl => ⟨vs, h2, by rw [r.length]; exact hl⟩⟩
  obtain ⟨v, e, q⟩ := r2.get hd
  refine ⟨⟨vs, v, h2, e⟩, fun x H3 y => ?_⟩
  obtain ⟨rfl, y⟩ := y
  have := y vs h2
  rw [e] at this
  cases this
  exact ⟨F2, .refl, q⟩
theorem it_tup {K : Kc} {F : Addr → Prop} {H : Hp} {a : Addr} {vs : List V} {ds : List D} (h : SqT K.K H a vs) (r : RepL K F H ds vs) : ItOk K (Itt K.K a) ds F H := fun F2 H2 s fk i => by
  have h2 : SqT K.K H2 a vs := s.sqT h
  have r2 := RepL.stb s.weak _ _ r
  refine ⟨fun d hd => ?_, fun hl => ⟨vs, h2, by rw [r.length]; exact hl⟩⟩
  obtain ⟨v, e, q⟩ := r2.get hd
  refine ⟨⟨vs, v, h2, e⟩, fun x H3 y => ?_⟩
  obtain ⟨rfl, y⟩ := y
  have := y vs h2
  rw [e] at this
  cases this
  exact ⟨F2, .refl, q⟩
def rngD (lo : Int) (n : Nat) : List D := (List.range n).map fun i => .int (lo + (i : Nat))
theorem it_rng {K : Kc} {F : Addr → Prop} {H : Hp} {lo : Int} {n : Nat} : ItOk K (Itr lo n) (rngD lo n) F H := fun F2 H2 s fk i => by
  unfold rngD
  refine ⟨fun d hd => ?_, fun hl => by show n ≤ i; simpa using hl⟩
  rw [List.getElem?_map] at hd
  obtain ⟨j, hj, rfl⟩ := Option.map_eq_some_iff.mp hd
  obtain ⟨hl, e⟩ := List.getElem?_eq_some_iff.mp hj
  simp at hl e
  subst e
  refine ⟨hl, fun x H3 y => ?_⟩
  obtain ⟨rfl, rfl⟩ := y
  exact ⟨F2, .refl, Rep.int'⟩
def rngC (lo c : Int) (n : Nat) : List D := (List.range n).map fun i => .int (lo + (i : Nat) * c)
theorem it_rngC {K : Kc} {F : Addr → Prop} {H : Hp} {lo c : Int} {n : Nat} : ItOk K (Itc lo c n) (rngC lo c n) F H := fun F2 H2 s fk i => by
  unfold rngC
  refine ⟨fun d hd => ?_, fun hl => by show n ≤ i; simpa using hl⟩
  rw [List.getElem?_map] at hd
  obtain ⟨j, hj, rfl⟩ := Option.map_eq_some_iff.mp hd
  obtain ⟨hl, e⟩ := List.getElem?_eq_some_iff.mp hj
  simp at hl e
  subst e
  refine ⟨hl, fun x H3 y => ?_⟩
  obtain ⟨rfl, rfl⟩ := y
  exact ⟨F2, .refl, Rep.int'⟩
def zipD (xs ys : List D) : List D := List.zipWith (fun x y => .tup [x, y]) xs ys
theorem it_zip {K : Kc} {F : Addr → Prop} {H : Hp} {a b : Addr} {us vs : List V} {xs ys : List D} (ha : F a) (hb : F b) (h : H a = some (.lst us)) (h' : H b = some (.lst vs)) (r : RepL K F H xs us) (r' : RepL K F H ys vs) : ItOk K (Itz K.K a b) (zipD xs ys) F H := fun F2 H2 s fk i => by
  have h2 : SqL K.K H2 a us := SqL.of (s.ls a us ha h)
  have h2' : SqL K.K H2 b vs := SqL.of (s.ls b vs hb h')
  have r2 := RepL.stb s.weak _ _ r
  have r2' := RepL.stb s.weak _ _ r'
  unfold zipD
  refine ⟨fun d hd => ?_, fun hl => ⟨us, vs, h2, h2', ?_⟩⟩
  · rw [List.getElem?_zipWith] at hd
    split at hd
    · rename_i x y qx qy
      cases hd
      obtain ⟨u, e, q⟩ := r2.get qx
      obtain ⟨v, e', q'⟩ := r2'.get qy
      refine ⟨⟨us, vs, u, v, h2, h2', e, e'⟩, fun z H3 y => ?_⟩
      obtain ⟨T, x1, y1, rfl, hT, rfl, y2, y3⟩ := y
      have z1 := y2 us h2
      rw [e] at z1; cases z1
      have z2 := y3 vs h2'
      rw [e'] at z2; cases z2
      obtain ⟨E, q3⟩ := new_tup hT (RepL.cons q (RepL.cons q' RepL.nil))
      exact ⟨F2, E, q3⟩
    · cases hd
  · rw [List.length_zipWith] at hl
    rw [r.length, r'.length]
    omega
theorem it_zipT {K : Kc} {F : Addr → Prop} {H : Hp} {a b : Addr} {us vs : List V} {xs ys : List D} (h : SqT K.K H a us) (h' : SqT K.K H b vs) (r : RepL K F H xs us) (r' : RepL K F H ys vs) : ItOk K (RZ.ItzT K.K a b) (zipD xs ys) F H := fun F2 H2 s fk i => by
  have h2 := s.sqT h
  have h2' := s.sqT h'
  have r2 := RepL.stb s.weak _ _ r
  have r2' := RepL.stb s.weak _ _ r'
  unfold zipD
  refine ⟨fun d hd => ?_, fun hl => ⟨us, vs, h2, h2', ?_⟩⟩
  · rw [List.getElem?_zipWith] at hd
    split at hd
    · rename_i x y qx qy
      cases hd
      obtain ⟨u, e, q⟩ := r2.get qx
      obtain ⟨v, e', q'⟩ := r2'.get qy
      refine ⟨⟨us, vs, u, v, h2, h2', e, e'⟩, fun z H3 y => ?_⟩
      obtain ⟨T, x1, y1, rfl, hT, rfl, y2, y3⟩ := y
      have z1 := y2 us h2
      rw [e] at z1; cases z1
      have z2 := y3 vs h2'
      rw [e'] at z2; cases z2
      obtain ⟨E, q3⟩ := new_tup hT (RepL.cons q (RepL.cons q' RepL.nil))
      exact ⟨F2, E, q3⟩
    · cases hd
  · rw [List.length_zipWith] at hl
    rw [r.length, r'.length]
    omega
section
variable {X : Cx} {tg : Expr} {pos p : Pos}
def gSq (g : FD) : FL := fun ρ => match g ρ with
  | some (.lst xs, ρ1) => some (xs, ρ1)
  | some (.tup xs, ρ1) => some (xs, ρ1)
  | _ => none
theorem ci_seq {e : Expr} {g : FD} (h : PE X e (tD (kc X) g)) : PI X tg e (tI (kc X) (gSq g)) := by
  refine ⟨fun pins s σ H R I hq => ?_⟩
  obtain ⟨F, B, as, ρ, items, ρ', S, e, k⟩ := hq
  unfold gSq at e
  split at e
  · rename_i xs ρ1 q
    cases e
    refine (pi_list h).run pins s σ H R I ⟨F, B, as, ρ, .lst items, _, S, q, fun v H1 F1 as1 E1 S1 r => ?_⟩
    unfold Rep at r
    obtain ⟨a, vs, rfl, hf, h1, h2⟩ := r
    exact ⟨a, rfl, ⟨vs, SqL.of h1⟩, k _ H1 F1 as1 E1 S1 (it_lst hf h1 h2)⟩
  · rename_i xs ρ1 q
    cases e
    refine (pi_tup h).run pins s σ H R I ⟨F, B, as, ρ, .tup items, _, S, q, fun v H1 F1 as1 E1 S1 r => ?_⟩
    unfold Rep at r
    obtain ⟨a, vs, rfl, h1, h2⟩ := r
    exact ⟨a, rfl, ⟨vs, h1⟩, k _ H1 F1 as1 E1 S1 (it_tup h1 h2)⟩
  · cases e
def gRng1 (g : FL) : FL := fun ρ => match g ρ with
  | some ([.int j], ρ1) => if j ≤ 100000 ∧ -100000 ≤ j then some (rngD 0 j.toNat, ρ1) else none
  | _ => none
theorem ci_rng1 {a : Expr} {g : FL} (hg : Gl X "range") (hm : X.mg "range" = none) (ha : PA X [a] (tL (kc X) g)) (hs : starEach [a] X.env = [(false, eval a X.env)] := by rfl) : PI X tg (.Call (.Name "range" p) [a] [] pos) (tI (kc X) (gRng1 g)) :=
  PI.to (pi_range1 hg hm ha hs) fun σ H R ⟨F, B, as, ρ, items, ρ', S, e, k⟩ => by
    unfold gRng1 at e
    split at e
    · rename_i j ρ1 q
      split at e
      · rename_i hj
        cases e
        refine ⟨F, B, as, ρ, _, _, S, q, fun vs H1 F1 as1 E1 S1 r => ?_⟩
        unfold RepL RepL Rep at r
        obtain ⟨v, u, rfl, rfl, rfl⟩ := r
        exact ⟨j, rfl, by omega, by omega, k _ H1 F1 as1 E1 S1 it_rng⟩
      · cases e
    · cases e
def gRng2 (g : FL) : FL := fun ρ => match g ρ with
  | some ([.int i, .int j], ρ1) => if (i ≤ 100000 ∧ -100000 ≤ i) ∧ j ≤ 100000 ∧ -100000 ≤ j then some (rngD i (j - i).toNat, ρ1) else none
  | _ => none
theorem ci_rng2 {a b : Expr} {g : FL} (hg : Gl X "range") (hm : X.mg "range" = none) (ha : PA X [a, b] (tL (kc X) g)) (hs : starEach [a, b] X.env = [(false, eval a X.env), (false, eval b X.env)] := by rfl) (hs2 : starEach [b] X.env = [(false, eval b X.env)] := by rfl) : PI X tg (.Call (.Name "range" p) [a, b] [] pos) (tI (kc X) (gRng2 g)) :=
  PI.to (pi_range2 hg hm ha hs hs2) fun σ H R ⟨F, B, as, ρ, items, ρ', S, e, k⟩ => by
    unfold gRng2 at e
    split at e
    · rename_i i j ρ1 q
      split at e
      · rename_i hj
        cases e
        refine ⟨F, B, as, ρ, _, _, S, q, fun vs H1 F1 as1 E1 S1 r => ?_⟩
        unfold RepL RepL RepL Rep at r
        obtain ⟨v, u, rfl, rfl, v2, u2, rfl, rfl, rfl⟩ := r
        exact ⟨i, j, rfl, by omega, k _ H1 F1 as1 E1 S1 it_rng⟩
      · cases e
    · cases e
def gRngM (g : FL) : FL := fun ρ => match g ρ with
  | some ([.int i, .int j, .int c], ρ1) => if c = -1 ∧ (i ≤ 100000 ∧ -100000 ≤ i) ∧ j ≤ 100000 ∧ -100000 ≤ j then some (rngC i (-1) (i - j).toNat, ρ1) else none
  | _ => none
theorem ci_rng3 {a b c : Expr} {g : FL} (hg : Gl X "range") (hm : X.mg "range" = none) (ha : PA X [a, b, c] (tL (kc X) g)) (hs : starEach [a, b, c] X.env = (false, eval a X.env) :: starEach [b, c] X.env := by rfl) (hpl : (backTo pos (starEach [b, c] X.env)).any (·.1) = false := by rfl) : PI X tg (.Call (.Name "range" p) [a, b, c] [] pos) (tI (kc X) (gRngM g)) :=
  PI.to (pi_range3 hg hm ha hs hpl) fun σ H R ⟨F, B, as, ρ, items, ρ', S, e, k⟩ => by
    unfold gRngM at e
    split at e
    · rename_i i j c ρ1 q
      split at e
      · rename_i hj
        obtain ⟨rfl, hi, hj⟩ := hj
        cases e
        refine ⟨F, B, as, ρ, _, _, S, q, fun vs H1 F1 as1 E1 S1 r => ?_⟩
        unfold RepL RepL RepL RepL Rep at r
        obtain ⟨v, u, rfl, rfl, v2, u2, rfl, rfl, v3, u3, rfl, rfl, rfl⟩ := r
        exact ⟨i, j, -1, _, rfl, RgC.neg (by omega) (by omega) (by omega) (by omega), k _ H1 F1 as1 E1 S1 it_rngC⟩
      · cases e
    · cases e
def gZip (g : FL) : FL := fun ρ => match g ρ with
  | some ([.lst xs, .lst ys], ρ1) => some (zipD xs ys, ρ1)
  | some ([.tup xs, .tup ys], ρ1) => some (zipD xs ys, ρ1)
  | _ => none
theorem ci_zip {e e2 : Expr} {g : FL} {tpos : Pos} {elts : List Expr} {kk : Nat} (hg : Gl X "zip") (hm : X.mg "zip" = none) (ha : PA X [e, e2] (tL (kc X) g)) (hs : starEach [e, e2] X.env = (false, eval e X.env) :: starEach [e2] X.env := by rfl) (hpl : (backTo pos (starEach [e2] X.env)).any (·.1) = false := by rfl) :
    PI X (.Tuple elts kk tpos) (.Call (.Name "zip" p) [e, e2] [] pos) (tI (kc X) (gZip g)) :=
  PI.to (RZ.pi_zipA hg hm ha hs hpl) fun σ H R ⟨F, B, as, ρ, items, ρ', S, e, k⟩ => by
    unfold gZip at e
    split at e
    · rename_i xs ys ρ1 q
      cases e
      refine ⟨F, B, as, ρ, _, _, S, q, fun vs H1 F1 as1 E1 S1 r => ?_⟩
      unfold RepL RepL RepL Rep at r
      obtain ⟨v, u, rfl, ⟨a, us, rfl, fa, h1, h2⟩, v2, u2, rfl, ⟨b, ws, rfl, fb, h3, h4⟩, rfl⟩ := r
      exact ⟨a, b, us, ws, rfl, .inl ⟨SqL.of h1, SqL.of h3, k _ H1 F1 as1 E1 S1 (it_zip fa fb h1 h3 h2 h4)⟩⟩
    · rename_i xs ys ρ1 q
      cases e
      refine ⟨F, B, as, ρ, _, _, S, q, fun vs H1 F1 as1 E1 S1 r => ?_⟩
      unfold RepL RepL RepL Rep at r
      obtain ⟨v, u, rfl, ⟨a, us, rfl, h1, h2⟩, v2, u2, rfl, ⟨b, ws, rfl, h3, h4⟩, rfl⟩ := r
      exact ⟨a, b, us, ws, rfl, .inr ⟨h1, h3, k _ H1 F1 as1 E1 S1 (it_zipT h1 h3 h2 h4)⟩⟩
    · cases e

/-! ### for -/
def forD (h : FG) (body : FS) : List D → Env → Option (Fl × Env)
  | [], ρ => some (.nx, ρ)
  | d :: ds, ρ => match h d ρ with
    | some ρ1 => match body ρ1 with
      | some (.nx, ρ2) => forD h body ds ρ2
      | some (.ct, ρ2) => forD h body ds ρ2
      | some (.br, ρ2) => some (.nx, ρ2)
      | some (.rt d w, ρ2) => some (.rt d w, ρ2)
      | none => none
    | none => none
def gFor (gi : FL) (h : FG) (body : FS) : FS := fun ρ => match gi ρ with
  | some (items, ρ1) => forD h body items ρ1
  | none => none
theorem drop_cons {α : Type} {l : List α} {i : Nat} (h : i < l.length) : ∃ d, l[i]? = some d ∧ l.drop i = d :: l.drop (i + 1) :=
  ⟨l[i], List.getElem?_eq_getElem h, List.drop_eq_getElem_cons h⟩
theorem for_fit {K : Kc} {gi : FL} {h : FG} {ts : List Nat} {body : FS} {D : Ends} {σ : L2.St} {H : Hp} (hq : tS K (gFor gi h body) D σ H) : tFor (tI K gi) (tG K ts h) (tS K body) D σ H := by
  obtain ⟨F, B, as, ρ, fl, ρ', S, e, k⟩ := hq
  unfold gFor at e
  split at e
  · rename_i items ρ1 q
    refine ⟨F, B, as, ρ, items, ρ1, S, q, fun J H1 F1 as1 E1 S1 I1 => ?_⟩
    let Wn : Nat → L2.St → Hp → Prop := fun i σ H => ∃ F' as' ρ2, Sit K F' B H ρ2 σ as' ∧ forD h body (items.drop i) ρ2 = some (fl, ρ') ∧ tSEnd K F' B as' H D ρ' fl ∧ ItOk K J items F' H
    refine ⟨fun i m σ H => m = items.length - i ∧ i ≤ items.length ∧ Wn i σ H, ⟨items.length, rfl, Nat.zero_le _, F1, as1, ρ1, S1, e, k.ext E1, I1⟩, ?_⟩
    rintro i m σ2 H2 ⟨rfl, hi, F2, as2, ρ2, S2, e2, k2, I2⟩
    have IJ := I2 F2 H2 .refl S2.fk i
    by_cases hlt : i < items.length
    · obtain ⟨d, hd, hdr⟩ := drop_cons hlt
      rw [hdr] at e2
      unfold forD at e2
      obtain ⟨go, step⟩ := IJ.1 d hd
      have next : ∀ {σ' : L2.St} {H' : Hp}, Wn (i + 1) σ' H' → ∃ m', m' < items.length - i ∧ m' = items.length - (i + 1) ∧ i + 1 ≤ items.length ∧ Wn (i + 1) σ' H' := fun {σ' H'} w => ⟨_, by omega, rfl, hlt, w⟩
      split at e2
      · rename_i ρ3 q3
        split at e2
        · rename_i ρ4 q4
          refine .inr ⟨go, Wn (i + 1), fun σ' H' w => next w, fun x H3 y => ?_⟩
          obtain ⟨F3, E3, r3⟩ := step x H3 y
          have S3 := S2.step E3
          refine ⟨F3, B, as2, ρ2, d, ρ3, S3, r3, q3, fun σ5 H5 F5 as5 _ _ E5 S5 => ⟨F5, B, as5, ρ3, .nx, ρ4, S5, q4, fun σ6 H6 F6 as6 E6 S6 => ?_⟩⟩
          exact ⟨F6, as6, ρ4, S6, e2, ((k2.ext E3.pure).ext E5).ext E6, ((I2.stb E3.stb).stb E5.stb).stb E6.stb⟩
        · rename_i ρ4 q4
          refine .inr ⟨go, Wn (i + 1), fun σ' H' w => next w, fun x H3 y => ?_⟩
          obtain ⟨F3, E3, r3⟩ := step x H3 y
          have S3 := S2.step E3
          refine ⟨F3, B, as2, ρ2, d, ρ3, S3, r3, q3, fun σ5 H5 F5 as5 _ _ E5 S5 => ⟨F5, B, as5, ρ3, .ct, ρ4, S5, q4, fun σ6 H6 F6 as6 E6 S6 => ?_⟩⟩
          exact ⟨F6, as6, ρ4, S6, e2, ((k2.ext E3.pure).ext E5).ext E6, ((I2.stb E3.stb).stb E5.stb).stb E6.stb⟩
        · rename_i ρ4 q4
          cases e2
          refine .inr ⟨go, fun _ _ => False, fun σ' H' w => w.elim, fun x H3 y => ?_⟩
          obtain ⟨F3, E3, r3⟩ := step x H3 y
          have S3 := S2.step E3
          refine ⟨F3, B, as2, ρ2, d, ρ3, S3, r3, q3, fun σ5 H5 F5 as5 _ _ E5 S5 => ⟨F5, B, as5, ρ3, .br, _, S5, q4, fun σ6 H6 F6 as6 E6 S6 => ?_⟩⟩
          exact k2 σ6 H6 F6 as6 ((E3.pure.trans E5).trans E6) S6
        · rename_i d' w' ρ4 q4
          cases e2
          refine .inr ⟨go, fun _ _ => False, fun σ' H' w => w.elim, fun x H3 y => ?_⟩
          obtain ⟨F3, E3, r3⟩ := step x H3 y
          have S3 := S2.step E3
          refine ⟨F3, B, as2, ρ2, d, ρ3, S3, r3, q3, fun σ5 H5 F5 as5 _ _ E5 S5 => ⟨F5, B, as5, ρ3, .rt d' w', _, S5, q4, fun v σ6 H6 F6 as6 bs E6 S6 => ?_⟩⟩
          exact k2 v σ6 H6 F6 as6 bs ((E3.pure.trans E5).trans E6) S6
        · cases e2
      · cases e2
    · have e3 : i = items.length := by omega
      subst e3
      rw [List.drop_length] at e2
      unfold forD at e2
      cases e2
      exact .inl ⟨IJ.2 (Nat.le_refl _), k2 σ2 H2 F2 as2 .refl S2⟩
  · cases e
theorem cs_for {iter : Expr} {body : List Stmt} {gi : FL} {ts : List Nat} {h : FG} {gb : FS} (hp : PassesOwn (model X.prog X.w) X.A X.env X.xe) (hc : X.calm = true) (hi : PI X tg iter (tI (kc X) gi)) (hg : PG X tg (tG (kc X) ts h)) (hb : PSs X body (tS (kc X) gb))
    (hs : ∀ x, foldedSetIterable iter X.env x = pure x := by intro _; rfl) : PS X (.For tg iter body [] pos) (tS (kc X) (gFor gi h gb)) :=
  PS.to (ps_for hp hc hi hg hb hs) fun D σ H hq => for_fit hq
end

/-! ### comprehensions -/
def wipeE (ρ : Env) : List Nat → Env
  | [] => ρ
  | v :: vs => (wipeE ρ vs).set v .no
def okOwn (ρ : Env) : List Nat → Bool
  | [] => true
  | v :: vs => (match ρ[v]? with
    | some .no => true
    | some (.sh _) => true
    | _ => false) && okOwn ρ vs
/-- the block's own names are again what they were -/
def backE (ρ0 ρ : Env) : List Nat → Env
  | [] => ρ
  | v :: vs => (backE ρ0 ρ vs).set v (ρ0.getD v .no)
theorem wipe_env {K : Kc} {F : Addr → Prop} {B : List Addr} {H : Hp} {ρ : Env} {σ : L2.St} {as : List Addr} (h : EnvR K F B H ρ σ as) : ∀ vs : List Nat, ∃ as', EnvR K F B H (wipeE ρ vs) (wipe σ vs) as' ∧ as'.Sublist as
  | [] => ⟨as, h, List.Sublist.refl _⟩
  | v :: vs => by
    obtain ⟨as1, h1, s1⟩ := wipe_env h vs
    unfold wipeE wipe
    by_cases hv : v < (wipeE ρ vs).length
    · obtain ⟨o, p, a, q, ea, eo, hs, hr⟩ := h1.split (List.getElem?_eq_getElem hv)
      subst ea
      refine ⟨p ++ ([] ++ q), hr .no none [] .refl (Kept.of fun _ _ h => h) (by unfold SlR; rfl), List.Sublist.trans ?_ s1⟩
      exact List.Sublist.append (List.Sublist.refl _) (List.Sublist.append (List.nil_sublist _) (List.Sublist.refl _))
    · have hl := h1.length
      rw [List.set_eq_of_length_le (by omega), List.set_eq_of_length_le (by omega)]
      exact ⟨as1, h1, s1⟩
theorem Sit.wiped {K : Kc} {F : Addr → Prop} {B : List Addr} {H : Hp} {ρ : Env} {σ : L2.St} {as : List Addr} (S : Sit K F B H ρ σ as) (vs : List Nat) : ∃ as', Sit K F B H (wipeE ρ vs) (wipe σ vs) as' ∧ as'.Sublist as := by
  obtain ⟨as', h, s⟩ := wipe_env S.env vs
  exact ⟨as', ⟨h, S.nd.sublist s, fun a m => S.nf a (s.subset m), S.fk⟩, s⟩
theorem wipeE_length (ρ : Env) : ∀ vs, (wipeE ρ vs).length = ρ.length
  | [] => rfl
  | v :: vs => by unfold wipeE; rw [List.length_set, wipeE_length ρ vs]
theorem backE_env {K : Kc} {F F2 : Addr → Prop} {B : List Addr} {H H2 : Hp} {ρ0 : Env} {σ : L2.St} {as0 : List Addr} (h0 : EnvR K F B H ρ0 σ as0) (s : Stb F H F2 H2) : ∀ {vs : List Nat} {ρ : Env} {σ2 : L2.St} {as : List Addr}, okOwn ρ0 vs = true → EnvR K F2 B H2 ρ σ2 as → (∀ j, j ∉ vs → σ2[j]? = σ[j]?) → σ2.length = σ.length →
    ∃ as', EnvR K F2 B H2 (backE ρ0 ρ vs) σ as' ∧ as'.Sublist as
  | [], ρ, σ2, as, _, h, hn, hl => by
    have e : σ2 = σ := List.ext_getElem? fun j => hn j (by simp)
    subst e
    exact ⟨as, h, List.Sublist.refl _⟩
  | v :: vs, ρ, σ2, as, ok, h, hn, hl => by
    unfold okOwn at ok
    rw [Bool.and_eq_true] at ok
    have hv : ∃ x, ρ0[v]? = some x := by
      cases q : ρ0[v]? with
      | none => rw [q] at ok; simp at ok
      | some x => exact ⟨x, rfl⟩
    obtain ⟨x, hx⟩ := hv
    obtain ⟨o, _, _, _, _, eo, hs0, _⟩ := h0.split hx
    have lv : v < σ.length := (List.getElem?_eq_some_iff.mp eo).1
    -- v's slot first, with its old value
    have hxs : SlR K F2 B H2 x o [] := by
      have ok1 := ok.1
      rw [hx] at ok1
      cases x with
      | no => unfold SlR; rfl
      | sh d =>
        unfold SlR at hs0 ⊢
        obtain ⟨_, v', e, r⟩ := hs0
        exact ⟨rfl, v', e, Rep.stb s.weak _ _ r⟩
      | ow d => simp at ok1
      | bo k d => simp at ok1
    have lρ : v < ρ.length := by have := h.length; omega
    obtain ⟨o2, p, a, q, ea, eo2, _, hr⟩ := h.split (List.getElem?_eq_getElem lρ)
    subst ea
    have z := hr x o [] .refl (Kept.of fun _ _ h => h) hxs
    obtain ⟨as', h3, s3⟩ := backE_env h0 s (ρ := ρ.set v x) (σ2 := σ2.set v o) ok.2 z (fun j hj => by
      by_cases e : v = j
      · subst e
        rw [List.getElem?_set_self (by omega)]
        exact eo.symm
      · rw [List.getElem?_set_ne e]
        exact hn j fun m => by
          rcases List.mem_cons.mp m with m | m
          · exact e m.symm
          · exact hj m) (by simpa using hl)
    -- setting v again changes nothing
    have comm : ∀ (vs : List Nat), (backE ρ0 (ρ.set v x) vs)[v]? = some x ∧ backE ρ0 (ρ.set v x) vs = (backE ρ0 ρ vs).set v x := by
      intro vs
      induction vs with
      | nil =>
        unfold backE
        exact ⟨List.getElem?_set_self lρ, rfl⟩
      | cons w ws ih =>
        unfold backE
        by_cases e : w = v
        · subst e
          have gd : ρ0.getD w .no = x := by rw [List.getD_eq_getElem?_getD, hx]; rfl
          rw [gd]
          obtain ⟨i1, i2⟩ := ih
          rw [set_same i1]
          refine ⟨i1, ?_⟩
          rw [i2, List.set_set]
        · obtain ⟨i1, i2⟩ := ih
          rw [List.getElem?_set_ne e]
          refine ⟨i1, ?_⟩
          rw [i2, List.set_comm _ _ e]
    have fin : backE ρ0 ρ (v :: vs) = backE ρ0 (ρ.set v x) vs := by
      rw [(comm vs).2]
      show (backE ρ0 ρ vs).set v (ρ0.getD v .no) = _
      rw [List.getD_eq_getElem?_getD, hx]
      rfl
    rw [fin]
    refine ⟨as', h3, s3.trans ?_⟩
    exact List.Sublist.append (List.Sublist.refl _) (List.Sublist.append (List.nil_sublist _) (List.Sublist.refl _))
theorem wipe_at {σ σ2 : L2.St} : ∀ {vs : List Nat}, σ2.length = σ.length → (∀ j, j ∉ vs → σ2[j]? = (wipe σ vs)[j]?) → wipe σ2 vs = wipe σ vs := fun {vs} hl hn => by
  have key : ∀ (σ : L2.St) (vs : List Nat) (j : Nat), (wipe σ vs)[j]? = if j ∈ vs ∧ j < σ.length then some none else σ[j]? := by
    intro σ vs
    induction vs with
    | nil => intro j; simp [wipe]
    | cons v vs ih =>
      intro j
      unfold wipe
      by_cases e : v = j
      · subst e
        by_cases hj : v < σ.length
        · rw [List.getElem?_set_self (by rw [wipe_length]; exact hj), if_pos ⟨List.mem_cons_self, hj⟩]
        · rw [List.getElem?_eq_none (by rw [List.length_set, wipe_length]; omega), if_neg (fun z => hj z.2), List.getElem?_eq_none (by omega)]
      · rw [List.getElem?_set_ne e, ih]
        have : j ∈ v :: vs ↔ j ∈ vs := by simp [Ne.symm e]
        simp only [this]
  refine List.ext_getElem? fun j => ?_
  rw [key, key]
  by_cases hj : j ∈ vs
  · simp only [hj, true_and, hl]
    split
    · rfl
    · rename_i h
      rw [List.getElem?_eq_none (by omega), List.getElem?_eq_none (by omega)]
  · simp only [hj, false_and, if_false]
    have := hn j hj
    rw [key] at this
    simpa [hj] using this
theorem wipe_off {σ : L2.St} {vs : List Nat} {j : Nat} (h : j ∉ vs) : (wipe σ vs)[j]? = σ[j]? := wipe_out h

def compD (vs : List Nat) (h : FG) (tt : FT) (te : FD) : List D → Env → Option (List D × Env)
  | [], ρ => some ([], ρ)
  | d :: ds, ρ => match h d ρ with
    | some ρ1 => match tt ρ1 with
      | some (true, ρ2) => match te ρ2 with
        | some (y, ρ3) => match compD vs h tt te ds (wipeE ρ3 vs) with
          | some (ys, ρ4) => some (y :: ys, ρ4)
          | none => none
        | none => none
      | some (false, ρ2) => compD vs h tt te ds (wipeE ρ2 vs)
      | none => none
    | none => none
def gComp (vs : List Nat) (gi : FL) (h : FG) (tt : FT) (te : FD) : FW := fun ρ => match gi ρ with
  | some (items, ρ1) => if okOwn ρ1 vs = true then match compD vs h tt te items (wipeE ρ1 vs) with
      | some (ys, ρ2) => if ys.length ≤ SZ then some (.lst ys, true, backE ρ1 ρ2 vs) else none
      | none => none
    else none
  | none => none
theorem comp_fit {K : Kc} {vs ts : List Nat} {gi : FL} {h : FG} {tt : FT} {te : FD} {σ : L2.St} {H : Hp} {Q : VK} (hts : ∀ j, j ∈ ts → j ∈ vs) (hq : tW K (gComp vs gi h tt te) σ H Q) : tLc (tI K gi) (tG K ts h) (tB K tt) (tD K te) vs σ H Q := by
  obtain ⟨F, B, as, ρ, d, w, ρ', S, e, k⟩ := hq
  unfold gComp at e
  split at e
  · rename_i items ρ1 q
    split at e
    · rename_i hok
      split at e
      · rename_i ys ρ2 q2
        split at e
        · rename_i hz
          cases e
          refine ⟨F, B, as, ρ, items, ρ1, S, q, fun J H1 F1 as1 E1 S1 I1 D hD => ?_⟩
          obtain ⟨asw, Sw, subw⟩ := S1.wiped vs
          have hDa : ∀ b, b ∈ as1 → b ≠ D := fun b m e => by
            obtain ⟨u, z⟩ := S1.env.there b m
            rw [e, hD] at z; cases z
          have E0 : Ext F1 as1 H1 F1 (D :: as1) (upd H1 D (.lst [])) := Ext.newO hD
          let Wn : Nat → Hp → Prop := fun i H => ∃ F' as' ρ3 acc accD rest, Sit K F' B H ρ3 (wipe σ vs) as' ∧ H D = some (.lst acc) ∧ RepL K F' H accD acc ∧ D ∉ as' ∧ ¬ F' D ∧ compD vs h tt te (items.drop i) ρ3 = some (rest, ρ2) ∧ accD ++ rest = ys ∧ ItOk K J items F' H ∧
            Stb F1 H1 F' H ∧ Ext F1 as1 H1 F' (D :: as') H
          have start : Wn 0 (upd H1 D (.lst [])) := by
            refine ⟨F1, asw, wipeE ρ1 vs, [], [], ys, ⟨Sw.env.stb E0.stb (Kept.of fun b u h => by rw [upd_ne (ne_of_none h hD)]; exact h), Sw.nd, Sw.nf, E0.fk S1.fk⟩, upd_same, RepL.nil, fun m => hDa D (subw.subset m) rfl, fun f => S1.fk D f hD, by simpa using q2, rfl, I1.stb E0.stb, E0.stb, E0.sub fun b m => ?_⟩
            rcases List.mem_cons.mp m with m | m
            · rw [m]; exact List.mem_cons_self
            · exact List.mem_cons_of_mem _ (subw.subset m)
          refine ⟨fun i m H => m = items.length - i ∧ i ≤ items.length ∧ Wn i H, ⟨items.length, rfl, Nat.zero_le _, start⟩, ?_⟩
          rintro i m H2 ⟨rfl, hi, F2, as2, ρ3, acc, accD, rest, S2, hD2, rA, nD, fD, e2, eys, I2, st2, E2⟩
          have IJ := I2 F2 H2 .refl S2.fk i
          by_cases hlt : i < items.length
          · obtain ⟨d, hd, hdr⟩ := drop_cons hlt
            rw [hdr] at e2
            unfold compD at e2
            obtain ⟨go, step⟩ := IJ.1 d hd
            refine .inr ⟨go, Wn (i + 1), fun H' w => ⟨_, by omega, rfl, hlt, w⟩, fun x H3 y => ?_⟩
            obtain ⟨F3, E3, r3⟩ := step x H3 y
            have S3 := S2.step E3
            split at e2
            · rename_i ρ4 q4
              refine ⟨F3, B, as2, ρ3, d, ρ4, S3, r3, q4, fun σ5 H5 F5 as5 l5 n5 E5 S5 => ?_⟩
              have w5 : wipe σ5 vs = wipe σ vs := wipe_at (by rw [l5, wipe_length]) fun j hj => n5 j fun m => hj (hts j m)
              refine ⟨w5, ?_⟩
              -- what is kept of the new list
              have keepD : ∀ {Fa Fb : Addr → Prop} {aa ab : List Addr} {Ha Hb : Hp}, Ext Fa aa Ha Fb ab Hb → D ∉ aa → ¬ Fa D → ∀ u, Ha D = some u → Hb D = some u ∧ D ∉ ab ∧ ¬ Fb D := fun {Fa Fb aa ab Ha Hb} E n f u h => by
                refine ⟨E.keep D u h n, fun m => ?_, fun m => ?_⟩
                · rcases E.anew D m with z | z
                  · exact n z
                  · rw [h] at z; cases z
                · rcases E.fnew D m with z | z | z
                  · exact f z
                  · exact n z
                  · rw [h] at z; cases z
              obtain ⟨hD3, nD3, fD3⟩ := keepD (E3.pure (as := as2)) nD fD _ hD2
              obtain ⟨hD5, nD5, fD5⟩ := keepD E5 nD3 fD3 _ hD3
              have endw : ∀ {F6 : Addr → Prop} {as6 : List Addr} {H6 : Hp} {ρ6 : Env} {acc6 : List V} {accD6 rest6 : List DV.D}, Sit K F6 B H6 ρ6 σ5 as6 → H6 D = some (.lst acc6) → RepL K F6 H6 accD6 acc6 → D ∉ as6 → ¬ F6 D → compD vs h tt te (items.drop (i + 1)) (wipeE ρ6 vs) = some (rest6, ρ2) → accD6 ++ rest6 = ys →
                  Stb F2 H2 F6 H6 → Ext F2 (D :: as2) H2 F6 (D :: as6) H6 → Wn (i + 1) H6 := fun {F6 as6 H6 ρ6 acc6 accD6 rest6} S6 h6 r6 n6 f6 c6 y6 s6 E6 => by
                obtain ⟨as7, S7, sub7⟩ := S6.wiped vs
                rw [w5] at S7
                refine ⟨F6, as7, wipeE ρ6 vs, acc6, accD6, rest6, S7, h6, r6, fun m => n6 (sub7.subset m), f6, c6, y6, I2.stb s6, st2.trans s6, (E2.trans E6).sub fun b m => ?_⟩
                rcases List.mem_cons.mp m with m | m
                · rw [m]; exact List.mem_cons_self
                · exact List.mem_cons_of_mem _ (sub7.subset m)
              have wide : ∀ {Fa Fb : Addr → Prop} {aa ab : List Addr} {Ha Hb : Hp}, Ext Fa aa Ha Fb ab Hb → Ext Fa (D :: aa) Ha Fb (D :: ab) Hb := fun {Fa Fb aa ab Ha Hb} E => Ext.frameL (fr := [D]) E
              split at e2
              · rename_i ρ5 q5
                split at e2
                · rename_i yd ρ6 q6
                  split at e2
                  · rename_i ys2 ρ7 q7
                    cases e2
                    refine ⟨F5, B, as5, ρ4, true, ρ5, S5, q5, fun H6 F6 as6 E6 S6 => ?_⟩
                    simp only [if_true]
                    obtain ⟨hD6, nD6, fD6⟩ := keepD E6 nD5 fD5 _ hD5
                    refine ⟨F6, B, as6, ρ5, yd, ρ6, S6, q6, fun v H7 F7 as7 E7 S7 r7 => ?_⟩
                    obtain ⟨hD7, nD7, fD7⟩ := keepD E7 nD6 fD6 _ hD6
                    have s7 : Stb F2 H2 F7 H7 := ((E3.stb.trans E5.stb).trans E6.stb).trans E7.stb
                    have rA7 := RepL.stb s7.weak _ _ rA
                    have alen : acc.length < sizeLine := by
                      rw [rA.length]
                      refine sz_lt (Nat.le_trans ?_ hz)
                      rw [← eys, List.length_append]
                      omega
                    refine ⟨acc, hD7, alen, ?_⟩
                    have Ew : Ext F7 (D :: as7) H7 F7 (D :: as7) (upd H7 D (.lst (acc ++ [v]))) := Ext.write hD7 (fun _ z => by cases z) (fun _ _ z => by cases z) List.mem_cons_self fD7
                    have S8 : Sit K F7 B (upd H7 D (.lst (acc ++ [v]))) ρ6 σ5 as7 :=
                      ⟨S7.env.stb Ew.stb fun b m u hb => by rw [upd_ne (fun e => nD7 (by rw [← e]; exact m))]; exact hb, S7.nd, S7.nf, Ew.fk S7.fk⟩
                    exact endw (accD6 := accD ++ [yd]) (rest6 := ys2) S8 upd_same (RepL.stb Ew.stb _ _ (rA7.append (RepL.cons r7 RepL.nil))) nD7 fD7 q7 (by rw [List.append_assoc]; exact eys) (s7.trans Ew.stb)
                      (((((wide (E3.pure (as := as2))).trans (wide E5)).trans (wide E6)).trans (wide E7)).trans Ew)
                  · cases e2
                · cases e2
              · rename_i ρ5 q5
                refine ⟨F5, B, as5, ρ4, false, ρ5, S5, q5, fun H6 F6 as6 E6 S6 => ?_⟩
                simp only [Bool.false_eq_true, if_false]
                obtain ⟨hD6, nD6, fD6⟩ := keepD E6 nD5 fD5 _ hD5
                have s6 : Stb F2 H2 F6 H6 := (E3.stb.trans E5.stb).trans E6.stb
                exact endw S6 hD6 (RepL.stb s6 _ _ rA) nD6 fD6 e2 eys s6 (((wide (E3.pure (as := as2))).trans (wide E5)).trans (wide E6))
              · cases e2
            · cases e2
          · have e3 : i = items.length := by omega
            subst e3
            rw [List.drop_length] at e2
            unfold compD at e2
            cases e2
            rw [List.append_nil] at eys
            subst eys
            refine .inl ⟨IJ.2 (Nat.le_refl _), ?_⟩
            obtain ⟨as3, h3, sub3⟩ := backE_env S1.env st2 hok S2.env (fun j hj => wipe_off hj) (wipe_length _ _)
            have nD3 : D ∉ as3 := fun m => nD (sub3.subset m)
            refine k _ H2 F2 as3 [D] ((E1.trans E2).sub fun b m => ?_) ⟨h3, List.nodup_cons.mpr ⟨nD3, S2.nd.sublist sub3⟩, fun b m => ?_, S2.fk, ?_⟩
            · rcases List.mem_cons.mp m with m | m
              · rw [m]; exact List.mem_cons_self
              · exact List.mem_cons_of_mem _ (sub3.subset m)
            · rcases List.mem_cons.mp m with m | m
              · rw [m]; exact fD
              · exact S2.nf b (sub3.subset m)
            · simp only [if_true]
              unfold Own OwnC
              exact ⟨D, acc, rfl, hD2, rA, rfl⟩
        · cases e
      · cases e
    · cases e
  · cases e
section
variable {X : Cx}
def tYesD : FT := fun ρ => some (true, ρ)
theorem PTs.to {ifs : List Expr} {t t' : TT} (h : PTs X ifs t) (c : ∀ σ H Q, t' σ H Q → t σ H Q) : PTs X ifs t' := ⟨fun pins s σ H Q I hq => h.run pins s σ H Q I (c σ H Q hq)⟩
theorem cts_nil : PTs X [] (tB (kc X) tYesD) := PTs.to pts_nil fun σ H Q ⟨F, B, as, ρ, b, ρ', S, e, k⟩ => by
  cases e; exact k H F as .refl S
theorem cts_one {c : Expr} {g : FT} (h : PT X c (tB (kc X) g)) : PTs X [c] (tB (kc X) g) := pts_one h
theorem cw_lc {elt tg iter : Expr} {ifs : List Expr} {scope : Scope} {own : List (Str × Nat)} {pos : Pos} {ts : List Nat} {gi : FL} {h : FG} {tt : FT} {te : FD} (hc : X.calm = true) (hN : X.N.Nodup) (hi : PI X tg iter (tI (kc X) gi)) (ok : BlkOk X.N X.env.scope scope own) (hts : ∀ j, j ∈ ts → j ∈ own.map (·.2))
    (hg : ∀ (s : Shared) (H : Hp) (C : Addr) (cl : List (Str × Addr)) (fp : List Addr), PG (X.blk s H scope (compEnvC scope cl C X.env) fp) tg (tG (kc X) ts h)) (ht : ∀ (s : Shared) (H : Hp) (C : Addr) (cl : List (Str × Addr)) (fp : List Addr), PTs (X.blk s H scope (compEnvC scope cl C X.env) fp) ifs (tB (kc X) tt))
    (he : ∀ (s : Shared) (H : Hp) (C : Addr) (cl : List (Str × Addr)) (fp : List Addr), PE (X.blk s H scope (compEnvC scope cl C X.env) fp) elt (tD (kc X) te)) (hs : ∀ x, foldedSetIterable iter X.env x = pure x := by intro _; rfl) :
    PE X (.ListComp elt [⟨tg, iter, ifs, 0⟩] scope pos) (tW (kc X) (gComp (own.map (·.2)) gi h tt te)) :=
  PE.to (pe_lc hc hN hi ok hg ht he hs) fun σ H Q hq => comp_fit hts hq
theorem cs_setLc {i : Nat} {y : Str} {py : Pos} {elt tg iter : Expr} {ifs : List Expr} {scope : Scope} {own : List (Str × Nat)} {pos spos : Pos} {ts : List Nat} {gi : FL} {h : FG} {tt : FT} {te : FD} (hc : X.calm = true) (hN : X.N.Nodup) (hy : X.N[i]? = some y) (hyl : X.env.scope.names.lookup y = some .local)
    (hsw : swapsWith (.ListComp elt [⟨tg, iter, ifs, 0⟩] scope pos) (some (.Name y py)) spos.line X.env = pure true) (hi : PI X tg iter (tI (kc X) gi)) (ok : BlkOk X.N X.env.scope scope own) (hts : ∀ j, j ∈ ts → j ∈ own.map (·.2))
    (hg : ∀ (s : Shared) (H : Hp) (C : Addr) (cl : List (Str × Addr)) (fp : List Addr), PG (X.blk s H scope (compEnvC scope cl C X.env) fp) tg (tG (kc X) ts h)) (ht : ∀ (s : Shared) (H : Hp) (C : Addr) (cl : List (Str × Addr)) (fp : List Addr), PTs (X.blk s H scope (compEnvC scope cl C X.env) fp) ifs (tB (kc X) tt))
    (he : ∀ (s : Shared) (H : Hp) (C : Addr) (cl : List (Str × Addr)) (fp : List Addr), PE (X.blk s H scope (compEnvC scope cl C X.env) fp) elt (tD (kc X) te)) (hs : ∀ x, foldedSetIterable iter X.env x = pure x := by intro _; rfl) :
    PS X (.Assign [.Name y py] (.ListComp elt [⟨tg, iter, ifs, 0⟩] scope pos) spos) (tS (kc X) (gSet i (gComp (own.map (·.2)) gi h tt te))) :=
  PS.to (ps_setLc hc hN hy hyl hsw hi ok hg ht he hs) fun D σ H ⟨F, B, as, ρ, fl, ρ', S, e, k⟩ => by
    obtain ⟨d, w, ρ1, e1, e2, rfl⟩ := gSet_some e
    refine comp_fit hts ⟨F, B, as, ρ, d, w, ρ1, S, e1, fun v H1 F1 as1 bs E1 S1 => ?_⟩
    obtain ⟨as2, S2, m⟩ := S1.bind e2
    exact k _ H1 F1 as2 (E1.sub m) S2
end
end DV

/-! DV7: a def's body; stores into own lists and dicts. -/
namespace DV
open L2 PySem PySem.Spec PyProof.Rows

/-! ### a def -/
inductive BB : List Bool → List V → List Addr → Prop where
  | nil : BB [] [] []
  | t {bo vs as a} (h : BB bo vs as) : BB (true :: bo) (.ref a :: vs) (a :: as)
  | f {bo vs as v} (h : BB bo vs as) : BB (false :: bo) (v :: vs) as
theorem Own.ref {K : Kc} {F : Addr → Prop} {H : Hp} {d : D} {v : V} {as : List Addr} (h : Own K F H d v as) : ∃ a, v = .ref a := by
  cases d <;> unfold Own at h
  case lst => unfold OwnC at h; obtain ⟨a, _, e, _⟩ := h; exact ⟨a, e⟩
  case dic => unfold OwnC at h; obtain ⟨a, _, e, _⟩ := h; exact ⟨a, e⟩
  case ins => obtain ⟨a, _, _, _, _, e, _⟩ := h; exact ⟨a, e⟩
  all_goals (unfold OwnC at h; exact h.elim)
theorem ArgR.bb {K : Kc} {F : Addr → Prop} {H : Hp} : ∀ {bo : List Bool} {ds : List D} {vs : List V} {as : List Addr}, ArgR K F H bo ds vs as → ∃ B, BB bo vs B
  | [], [], vs, as, h => by unfold ArgR at h; obtain ⟨rfl, _⟩ := h; exact ⟨[], .nil⟩
  | true :: bo, d :: ds, vs, as, h => by
    unfold ArgR at h
    obtain ⟨v, r, a1, a2, rfl, _, ho, h⟩ := h
    obtain ⟨a, rfl⟩ := ho.ref
    obtain ⟨B, hB⟩ := ArgR.bb h
    exact ⟨_, .t hB⟩
  | false :: bo, d :: ds, vs, as, h => by
    unfold ArgR at h
    obtain ⟨v, r, rfl, _, h⟩ := h
    obtain ⟨B, hB⟩ := ArgR.bb h
    exact ⟨_, .f hB⟩
  | [], _ :: _, _, _, h => by unfold ArgR at h; exact h.elim
  | true :: _, [], _, _, h => by unfold ArgR at h; exact h.elim
  | false :: _, [], _, _, h => by unfold ArgR at h; exact h.elim
def env0 : List Bool → List D → Nat → Env
  | true :: bo, d :: ds, k => .bo k d :: env0 bo ds (k + 1)
  | false :: bo, d :: ds, k => .sh d :: env0 bo ds k
  | _, _, _ => []
def finB : List Bool → Nat → Env → Option (List D)
  | [], _, _ => some []
  | true :: bo, k, .bo k' d :: ρ => if k' = k then match finB bo (k + 1) ρ with
      | some ds => some (d :: ds)
      | none => none
    else none
  | false :: bo, k, _ :: ρ => finB bo k ρ
  | _, _, _ => none
theorem env_nos {K : Kc} {F : Addr → Prop} {B : List Addr} {H : Hp} : ∀ n : Nat, EnvR K F B H (List.replicate n .no) (List.replicate n none) []
  | 0 => by unfold EnvR; exact ⟨rfl, rfl⟩
  | n + 1 => by
    show EnvR K F B H (.no :: List.replicate n .no) (none :: List.replicate n none) []
    unfold EnvR
    exact ⟨none, _, [], [], rfl, rfl, by unfold SlR; rfl, env_nos n⟩
theorem env_start {K : Kc} {F : Addr → Prop} {B : List Addr} {H : Hp} {n : Nat} : ∀ {bo : List Bool} {ds : List D} {vs : List V} {as Bs : List Addr} {k : Nat}, ArgR K F H bo ds vs as → BB bo vs Bs → (∀ j a, Bs[j]? = some a → B[k + j]? = some a) →
    EnvR K F B H (env0 bo ds k ++ List.replicate n .no) (vs.map some ++ List.replicate n none) as
  | [], [], vs, as, Bs, k, h, hb, hB => by
    unfold ArgR at h
    obtain ⟨rfl, rfl⟩ := h
    simpa [env0] using env_nos n
  | true :: bo, d :: ds, vs, as, Bs, k, h, hb, hB => by
    unfold ArgR at h
    obtain ⟨v, r, a1, a2, rfl, rfl, ho, h⟩ := h
    cases hb with
    | t hb =>
      rename_i Br a
      show EnvR K F B H (.bo k d :: (env0 bo ds (k + 1) ++ List.replicate n .no)) (some (.ref a) :: (r.map some ++ List.replicate n none)) (a1 ++ a2)
      unfold EnvR
      refine ⟨_, _, a1, a2, rfl, rfl, ?_, env_start h hb fun j x hx => ?_⟩
      · unfold SlR
        exact ⟨a, rfl, by simpa using hB 0 a rfl, ho⟩
      · have := hB (j + 1) x (by simpa using hx)
        rwa [show k + 1 + j = k + (j + 1) by omega]
  | false :: bo, d :: ds, vs, as, Bs, k, h, hb, hB => by
    unfold ArgR at h
    obtain ⟨v, r, rfl, ho, h⟩ := h
    cases hb with
    | f hb =>
      show EnvR K F B H (.sh d :: (env0 bo ds k ++ List.replicate n .no)) (some v :: (r.map some ++ List.replicate n none)) as
      unfold EnvR
      exact ⟨_, _, [], as, rfl, rfl, by unfold SlR; exact ⟨rfl, v, rfl, ho⟩, env_start h hb hB⟩
  | [], _ :: _, _, _, _, _, h, _, _ => by unfold ArgR at h; exact h.elim
  | true :: _, [], _, _, _, _, h, _, _ => by unfold ArgR at h; exact h.elim
  | false :: _, [], _, _, _, _, h, _, _ => by unfold ArgR at h; exact h.elim
theorem env_fin {K : Kc} {F : Addr → Prop} {B : List Addr} {H : Hp} : ∀ {bo : List Bool} {ds : List D} {vs : List V} {as Bs : List Addr} {k : Nat} {ρ : Env} {σ : L2.St}, EnvR K F B H ρ σ as → BB bo vs Bs → (∀ j a, Bs[j]? = some a → B[k + j]? = some a) → finB bo k ρ = some ds →
    ∃ as', BorR K F H bo ds vs as' ∧ as'.Sublist as
  | [], ds, vs, as, Bs, k, ρ, σ, h, hb, hB, e => by
    unfold finB at e
    cases e
    cases hb
    exact ⟨[], by unfold BorR; exact ⟨rfl, rfl, rfl⟩, List.nil_sublist _⟩
  | true :: bo, ds, vs, as, Bs, k, ρ, σ, h, hb, hB, e => by
    cases ρ with
    | nil => simp [finB] at e
    | cons x ρ =>
      cases x with
      | bo k' d =>
        simp only [finB] at e
        split at e
        · rename_i hk
          subst hk
          split at e
          · rename_i ds' q
            cases e
            unfold EnvR at h
            obtain ⟨o, r, a1, a2, rfl, rfl, hs, h⟩ := h
            unfold SlR at hs
            obtain ⟨a, rfl, ha, ho⟩ := hs
            cases hb with
            | t hb =>
              rename_i vs' Br a'
              have := hB 0 a' rfl
              simp only [Nat.add_zero] at this
              rw [ha] at this
              cases this
              obtain ⟨as', h1, h2⟩ := env_fin h hb (fun j x hx => by
                have := hB (j + 1) x (by simpa using hx)
                rwa [show k' + 1 + j = k' + (j + 1) by omega]) q
              exact ⟨a1 ++ as', by unfold BorR; exact ⟨d, ds', .ref a, vs', a1, as', rfl, rfl, rfl, ho, h1⟩, List.Sublist.append (List.Sublist.refl _) h2⟩
          · cases e
        · cases e
      | _ => simp [finB] at e
  | false :: bo, ds, vs, as, Bs, k, ρ, σ, h, hb, hB, e => by
    cases ρ with
    | nil => simp [finB] at e
    | cons x ρ =>
      have e : finB bo k ρ = some ds := e
      unfold EnvR at h
      obtain ⟨o, r, a1, a2, rfl, rfl, hs, h⟩ := h
      cases hb with
      | f hb =>
        rename_i vs' v
        obtain ⟨as', h1, h2⟩ := env_fin h hb hB e
        exact ⟨as', by unfold BorR; exact ⟨v, vs', rfl, h1⟩, h2.trans (List.sublist_append_right _ _)⟩
/-- what a def with this body computes -/
def runG (bo : List Bool) (n : Nat) (g : FS) : FnD := fun ds => match g (env0 bo ds 0 ++ List.replicate (n - ds.length) .no) with
  | some (.rt d w, ρ) => match finB bo 0 ρ with
    | some ds' => some (d, w, ds')
    | none => none
  | some (.nx, ρ) => match finB bo 0 ρ with
    | some ds' => some (.non, false, ds')
    | none => none
  | _ => none
theorem ArgR.len {K : Kc} {F : Addr → Prop} {H : Hp} : ∀ {bo : List Bool} {ds : List D} {vs : List V} {as : List Addr}, ArgR K F H bo ds vs as → vs.length = ds.length
  | [], [], _, _, h => by unfold ArgR at h; rw [h.1] <;> rfl
  | true :: bo, d :: ds, _, _, h => by unfold ArgR at h; obtain ⟨v, r, a1, a2, rfl, _, _, h⟩ := h; simp [ArgR.len h]
  | false :: bo, d :: ds, _, _, h => by unfold ArgR at h; obtain ⟨v, r, rfl, _, h⟩ := h; simp [ArgR.len h]
  | [], _ :: _, _, _, h => by unfold ArgR at h; exact h.elim
  | true :: _, [], _, _, h => by unfold ArgR at h; exact h.elim
  | false :: _, [], _, _, h => by unfold ArgR at h; exact h.elim
theorem body_fit {K : Kc} {bo : List Bool} {n : Nat} {g : FS} {vs : List V} {H : Hp} {Q : VK} {E : XK} {N : List Str} (hn : N.length = n) (h : spD K bo (runG bo n g) vs H Q E) : tS K g { nx := fun _ H' => Q .non H', rt := Q } (start N vs) H := by
  obtain ⟨F, as, ds, d, w, ds', hA, nd, nf, fk, hg, k⟩ := h
  obtain ⟨Bs, hB⟩ := hA.bb
  have env := env_start (n := N.length - vs.length) (B := Bs) (k := 0) hA hB fun j a h => by simpa using h
  have lv := hA.len
  rw [← hn] at hg
  unfold runG at hg
  rw [← lv] at hg
  have S : Sit K F Bs H (env0 bo ds 0 ++ List.replicate (N.length - vs.length) .no) (start N vs) as := ⟨env, nd, nf, fk⟩
  have back : ∀ {F' : Addr → Prop} {as' bs : List Addr} {H' : Hp} {ρ : Env} {σ' : L2.St} {d : D} {w : Bool} {v : V} {ds' : List D}, finB bo 0 ρ = some ds' → Ext F as H F' (bs ++ as') H' → Sit2 K F' Bs H' ρ σ' as' d w v bs →
      (∀ v H' F' as' bs, Ext F as H F' (bs ++ as') H' → BorR K F' H' bo ds' vs as' → (bs ++ as').Nodup → (∀ a, a ∈ bs ++ as' → ¬ F' a) → (∀ b, F' b → H' b ≠ none) → (if w = true then Own K F' H' d v bs else bs = [] ∧ Rep K F' H' d v) → Q v H') → Q v H' :=
    fun {F' as' bs H' ρ σ' d w v ds'} e E S2 k => by
      obtain ⟨as2, h1, h2⟩ := env_fin S2.env hB (k := 0) (fun j a h => by simpa using h) e
      have sub : (bs ++ as2).Sublist (bs ++ as') := List.Sublist.append (List.Sublist.refl _) h2
      exact k v H' F' as2 bs (E.sub fun b m => sub.subset m) h1 (S2.nd.sublist sub) (fun a m => S2.nf a (sub.subset m)) S2.fk S2.res
  split at hg
  · rename_i d' w' ρ q
    split at hg
    · rename_i ds2 q2
      cases hg
      exact ⟨F, Bs, as, _, .rt d w, ρ, S, q, fun v σ' H' F' as' bs E S2 => back q2 E S2 k⟩
    · cases hg
  · rename_i ρ q
    split at hg
    · rename_i ds2 q2
      cases hg
      exact ⟨F, Bs, as, _, .nx, ρ, S, q, fun σ' H' F' as' E S2 => back (bs := []) (w := false) (v := .non) q2 E ⟨S2.env, S2.nd, S2.nf, S2.fk, by simp [Rep.non']⟩ k⟩
    · cases hg
  · cases hg
section
variable {P : Program} {w : World} {K : PySem.W.Frag} {mg : Str → Option Value} {base : Heap}
abbrev bodyX (P : Program) (w : World) (K : PySem.W.Frag) (mg : Str → Option Value) (base : Heap) (N : List Str) (qual : Str) (sc : Scope) (f : Addr) (cdv : Value) (A : Around) (outer : List PySem.Env) (s : Shared) (H : Hp) (E : XK) : Cx := (cxOf CX0 P w K mg base N qual sc f cdv A outer s H E).nox
theorem fn_ok {x qual : Str} {st : Stmt} {f : Addr} {fd : FuncData} {N ps : List Str} {k n : Nat} {bo : List Bool} {g : FS} (F : Fun K x qual st f fd) (S : FnScope N ps (defScope st)) (hb : bo.length = ps.length) (hn : N.length = n)
    (hbody : ∀ (cdv : Value) (A : Around) (outer : List PySem.Env) (s : Shared) (H : Hp) (E : XK), Room k (A.deeper (envOfC qual (defScope st) s.heap.objs.size f cdv)) → PSs (bodyX P w K mg base N qual (defScope st) f cdv A outer s H E) (defBody st) (tS ⟨K, mg⟩ g)) :
    FnOk P w K mg base CX0 (k + 1) f fd ps (spD ⟨K, mg⟩ bo (runG bo n g)) :=
  F.ok S (fun vs H Q E h => by obtain ⟨F, as, ds, d, w, ds', hA, _⟩ := h; rw [hA.length, hb]) fun cdv A outer s H vs Q E hr h => ⟨_, hbody cdv A outer s H E hr, body_fit hn h⟩
theorem fn_zero {f : Addr} {fd : FuncData} {ps : List Str} {bo : List Bool} {G : FnD} (hG : ∀ ds, G ds = none) : FnOk P w K mg base CX0 0 f fd ps (spD ⟨K, mg⟩ bo G) := by
  have no : ∀ vs H Q E, ¬ spD ⟨K, mg⟩ bo G vs H Q E := fun vs H Q E h => by
    obtain ⟨F, as, ds, d, w, ds', _, _, _, _, e, _⟩ := h
    rw [hG] at e; cases e
  exact ⟨fun vs H Q E h => absurd h (no vs H Q E), fun A outer s H args us vs Q E _ _ _ _ h => absurd h (no vs H Q E)⟩
end

/-! ### o[i] = e, o an own list or dict -/
def dputV (ks vs : List D) (k d : D) : List D := List.zipWith (fun k' v => if eqKey k' k = true then d else v) ks vs
def putD : D → D → D → Option D
  | .lst xs, .int i, d => match ixN xs.length i with
    | some j => some (.lst (xs.set j d))
    | none => none
  | .dic ks vs, k, d => if isKey k = true ∧ ks.length < SZ then
      (if (ks.any fun k' => eqKey k' k) = true then some (.dic ks (dputV ks vs k d)) else some (.dic (ks ++ [k]) (vs ++ [d]))) else none
  | _, _, _ => none
theorem any_key (key : Key) : ∀ kvs : List (Key × V), ((kvs.map fun p => dkey p.1).any fun k' => eqKey k' (dkey key)) = kvs.any fun kv => decide (kv.1 = key)
  | [] => rfl
  | p :: kvs => by
    simp only [List.map_cons, List.any_cons, any_key key kvs, eqKey_iff]
theorem dput_some {K : Kc} {F : Addr → Prop} {H : Hp} {d : D} {v : V} {key : Key} (r : Rep K F H d v) : ∀ {kvs : List (Key × V)} {ds : List D}, RepL K F H ds (kvs.map (·.2)) →
    RepL K F H (dputV (kvs.map fun p => dkey p.1) ds (dkey key) d) ((kvs.map fun kv => if kv.1 = key then (kv.1, v) else kv).map (·.2))
  | [], ds, h => by
    have : ds = [] := List.eq_nil_of_length_eq_zero (by have := h.length; simpa using this.symm)
    subst this
    exact RepL.nil
  | (k', v') :: kvs, [], h => by unfold RepL at h; simp at h
  | (k', v') :: kvs, d' :: ds, h => by
    unfold RepL at h
    obtain ⟨u, r', e, h1, h2⟩ := h
    simp only [List.map_cons, List.cons.injEq] at e
    obtain ⟨rfl, rfl⟩ := e
    have ih := dput_some r (key := key) h2
    unfold dputV at ih ⊢
    simp only [List.map_cons, List.zipWith_cons_cons, eqKey_iff, decide_eq_true_eq]
    refine RepL.cons ?_ ih
    by_cases e : k' = key
    · simp only [if_pos e]; exact r
    · simp only [if_neg e]; exact h1
theorem put_keys {key : Key} {v : V} : ∀ kvs : List (Key × V), (kvs.map fun kv => if kv.1 = key then (kv.1, v) else kv).map (fun p => dkey p.1) = kvs.map fun p => dkey p.1
  | [] => rfl
  | (k', v') :: kvs => by
    simp only [List.map_cons, put_keys kvs]
    by_cases e : k' = key <;> simp [e]
def rSetAll : V → V → V → Hp → (Hp → Prop) → Prop := fun o i v H Q => rSetL o i v H Q ∨ ∃ a H', o = .ref a ∧ DPut H a i v H' ∧ Q H'
theorem set_all {X : Cx} (hu : X.A.units + 1 < cLine) : PSet X rSetAll := by
  intro pins s σ H o i v ov iv u Q I ro ri rv h
  rcases h with h | ⟨a, H', e1, g, q⟩
  · exact set_list pins s σ H o i v ov iv u Q I ro ri rv h
  · subst e1
    cases ro
    exact d_setItem hu I g ri rv fun s' I' => ⟨H', I', q⟩
/-- a place of an own thing is written -/
theorem put_fit {K : Kc} {F : Addr → Prop} {H : Hp} {c k d c' : D} {vo vk vd : V} {a : List Addr} {Q : Hp → Prop} (ho : Own K F H c vo a) (rk : Rep K F H k vk) (rd : Rep K F H d vd) (e : putD c k d = some c')
    (fin : ∀ b o u, a = [b] → H b = some u → (∀ vs, u ≠ .tup vs) → (∀ q w, u ≠ .frz q w) → (Stb F H F (upd H b o) → Own K F (upd H b o) c' vo a) → Q (upd H b o)) : rSetAll vo vk vd H Q := by
  unfold putD at e
  split at e
  · split at e
    · rename_i xs i _ j q
      cases e
      unfold Own OwnC at ho
      obtain ⟨b, vs, rfl, h1, h2, rfl⟩ := ho
      unfold Rep at rk
      subst rk
      refine .inl ⟨b, vs, i, j, rfl, rfl, h1, by rw [h2.length]; exact q, fin b _ _ rfl h1 (fun _ z => by cases z) (fun _ _ z => by cases z) fun s => ?_⟩
      unfold Own OwnC
      exact ⟨b, _, rfl, upd_same, RepL.stb s.weak _ _ (RepL.set rd j h2), rfl⟩
    · cases e
  · split at e
    · rename_i hk
      obtain ⟨key, rfl⟩ := isKey_to hk.1
      unfold Own OwnC at ho
      obtain ⟨b, kvs, rfl, h1, rfl, h2, rfl⟩ := ho
      cases (Vw.key rk.vw)
      refine .inr ⟨b, _, rfl, DPut.k h1 (by have := hk.2; rw [List.length_map] at this; exact sz_lt (by omega)), fin b _ _ rfl h1 (fun _ z => by cases z) (fun _ _ z => by cases z) fun s => ?_⟩
      rw [any_key] at e
      unfold Own OwnC
      split at e
      · rename_i hh
        cases e
        refine ⟨b, _, rfl, upd_same, ?_, ?_, rfl⟩
        · unfold putK
          rw [if_pos hh, put_keys]
        · refine RepL.stb s.weak _ _ ?_
          unfold putK
          rw [if_pos hh]
          exact dput_some rd h2
      · rename_i hh
        cases e
        refine ⟨b, _, rfl, upd_same, ?_, ?_, rfl⟩
        · unfold putK
          rw [if_neg hh, List.map_append]
          rfl
        · refine RepL.stb s.weak _ _ ?_
          unfold putK
          rw [if_neg hh, List.map_append]
          exact h2.append (RepL.cons rd RepL.nil)
    · cases e
  · cases e
def gPut (i : Nat) (ge gk : FD) : FS := fun ρ => match ge ρ with
  | some (d, ρ1) => match look ρ1 i with
    | some _ => match gk ρ1 with
      | some (k, ρ2) => match ρ2[i]? with
        | some (.ow c) => match putD c k d with
          | some c' => some (.nx, ρ2.set i (.ow c'))
          | none => none
        | some (.bo n c) => match putD c k d with
          | some c' => some (.nx, ρ2.set i (.bo n c'))
          | none => none
        | _ => none
      | none => none
    | none => none
  | none => none
theorem gPut_some {i : Nat} {ge gk : FD} {ρ ρ' : Env} {fl : Fl} (h : gPut i ge gk ρ = some (fl, ρ')) : fl = .nx ∧ ∃ d ρ1 z k ρ2 x c c', ge ρ = some (d, ρ1) ∧ look ρ1 i = some z ∧ gk ρ1 = some (k, ρ2) ∧ ρ2[i]? = some x ∧ (x = .ow c ∨ ∃ n, x = .bo n c) ∧ putD c k d = some c' ∧ ρ' = ρ2.set i (reSl x c') := by
  unfold gPut at h
  split at h
  · rename_i d ρ1 q1
    split at h
    · rename_i z q2
      split at h
      · rename_i k ρ2 q3
        split at h
        · rename_i c q4
          split at h
          · rename_i c' q5; cases h; exact ⟨rfl, d, ρ1, z, k, ρ2, _, c, c', q1, q2, q3, q4, .inl rfl, q5, rfl⟩
          · cases h
        · rename_i n c q4
          split at h
          · rename_i c' q5; cases h; exact ⟨rfl, d, ρ1, z, k, ρ2, _, c, c', q1, q2, q3, q4, .inr ⟨n, rfl⟩, q5, rfl⟩
          · cases h
        · cases h
      · cases h
    · cases h
  · cases h
/-- an own thing of a name has changed in place -/
theorem Sit.write {K : Kc} {F : Addr → Prop} {B : List Addr} {H : Hp} {ρ : Env} {σ : L2.St} {as : List Addr} (S : Sit K F B H ρ σ as) {i : Nat} {x : Sl} {c c' : D} (hx : ρ[i]? = some x) (hk : x = .ow c ∨ ∃ n, x = .bo n c) {v : V} (hv : σ[i]? = some (some v)) :
    ∃ a, Own K F H c v a ∧ ∀ b o u, a = [b] → H b = some u → (∀ vs, u ≠ .tup vs) → (∀ q w, u ≠ .frz q w) → (Stb F H F (upd H b o) → Own K F (upd H b o) c' v a) → Ext F as H F as (upd H b o) ∧ Sit K F B (upd H b o) (ρ.set i (reSl x c')) σ as := by
  obtain ⟨o, p, a, q, ea, eo, hs, hr⟩ := S.env.split hx
  rw [hv] at eo
  cases eo
  subst ea
  have ow : Own K F H c v a := by
    rcases hk with rfl | ⟨n, rfl⟩
    · unfold SlR at hs; obtain ⟨v', e, r⟩ := hs; cases e; exact r
    · unfold SlR at hs; obtain ⟨v', e, _, r⟩ := hs; cases e; exact r
  refine ⟨a, ow, fun b o u ha hu h1 h2 fin => ?_⟩
  subst ha
  have hb : b ∈ p ++ ([b] ++ q) := by simp
  have E : Ext F (p ++ ([b] ++ q)) H F (p ++ ([b] ++ q)) (upd H b o) := Ext.write hu h1 h2 hb (S.nf b hb)
  obtain ⟨n1, n2⟩ := nodup_mid S.nd
  have sl : SlR K F B (upd H b o) (reSl x c') (some v) [b] := by
    rcases hk with rfl | ⟨n, rfl⟩
    · unfold reSl SlR; exact ⟨v, rfl, fin E.stb⟩
    · unfold SlR at hs
      obtain ⟨v', e, e2, r⟩ := hs
      cases e
      unfold reSl SlR
      exact ⟨v', rfl, e2, fin E.stb⟩
  have z := hr _ _ _ E.stb (fun y m u' hy => by rw [upd_ne (fun e => n2 y m (by rw [e]; simp))]; exact hy) sl
  rw [set_same hv] at z
  exact ⟨E, ⟨z, S.nd, S.nf, E.fk S.fk⟩⟩
section
variable {X : Cx} {pos pos' : Pos}
theorem cs_put {i : Nat} {x : Str} {p : Pos} {ix e : Expr} {ge gk : FD} (hu : X.A.units + 1 < cLine) (hN : X.N[i]? = some x) (hv : Vis X.env.scope x) (he : PE X e (tD (kc X) ge)) (hi : PE X ix (tD (kc X) gk)) (hd : (x == ("__debug__" : Str)) = false := by decide)
    (hcd : (x == ("__classdict__" : Str)) = false := by decide)
    (ha : ∀ v, assign (.Subscript (.Name x p) ix pos') X.env v = (do
      let ov ← holding [v] (eval (.Name x p) X.env)
      let iv ← holding [v, ov] (eval ix X.env)
      standAt pos'
      holding [v, ov, iv] (setItem ov iv v)
      release [v, ov, iv] []) := by intro _; rfl)
    (hs : swapsWithSole [.Subscript (.Name x p) ix pos'] e pos.line X.env = pure false := by rfl) (hw : swappedStores [.Subscript (.Name x p) ix pos'] e X.env = pure none := by rfl)
    (h1 : (assignEach [.Subscript (.Name x p) ix pos'] X.env).map (·.2) = [assign (.Subscript (.Name x p) ix pos') X.env] := by rfl) :
    PS X (.Assign [.Subscript (.Name x p) ix pos'] e pos) (tS (kc X) (gPut i ge gk)) :=
  PS.to (ps_asg he (pg_sub (pe_var hN hv hd hcd) hi (set_all hu) ha) hs hw h1) fun D σ H ⟨F, B, as, ρ, fl, ρ', S, e, k⟩ => by
    obtain ⟨rfl, d, ρ1, z, kd, ρ2, x, c, c', e1, e2, e3, e4, e5, e6, rfl⟩ := gPut_some e
    refine ⟨F, B, as, ρ, d, ρ1, S, e1, fun vd H1 F1 as1 E1 S1 r1 => ?_⟩
    obtain ⟨vo, ev⟩ := S1.there e2
    refine ⟨vo, ev, F1, B, as1, ρ1, kd, ρ2, S1, e3, fun vk H2 F2 as2 E2 S2 r2 => ?_⟩
    obtain ⟨a, ow, fin⟩ := S2.write (c' := c') e4 e5 ev
    refine put_fit ow r2 (Rep.stb E2.stb _ _ r1) e6 fun b o u ha hu h1 h2 f => ?_
    obtain ⟨E3, S3⟩ := fin b o u ha hu h1 h2 f
    exact k σ _ F2 as2 ((E1.trans E2).trans E3) S3
end
end DV

/-! DV8: the words for built-ins, the defs of a text, the end. -/
namespace DV
open L2 PySem PySem.Spec PyProof.Rows

/-! ### the built-ins' names are not taken -/
structure Zs (mg : Str → Option Value) : Prop where
  len : mg "len" = none
  isinstance : mg "isinstance" = none
  all : mg "all" = none
  any : mg "any" = none
  tuple : mg "tuple" = none
  list : mg "list" = none
  dict : mg "dict" = none
  int : mg "int" = none
  str : mg "str" = none
  bool : mg "bool" = none
  zip : mg "zip" = none
  range : mg "range" = none
  enumerate : mg "enumerate" = none
  sorted : mg "sorted" = none
theorem boot_all' : bootBuiltins "all" = some (.builtin "all") := by decide +kernel
theorem boot_any' : bootBuiltins "any" = some (.builtin "any") := by decide +kernel
theorem boot_len' : bootBuiltins "len" = some (.builtin "len") := by decide +kernel
theorem boot_isi' : bootBuiltins "isinstance" = some (.builtin "isinstance") := by decide +kernel
theorem boot_tup' : bootBuiltins "tuple" = some (.type "tuple") := by decide +kernel
theorem boot_lst' : bootBuiltins "list" = some (.type "list") := by decide +kernel
theorem boot_int' : bootBuiltins "int" = some (.type "int") := by decide +kernel
theorem boot_str' : bootBuiltins "str" = some (.type "str") := by decide +kernel
theorem boot_bool' : bootBuiltins "bool" = some (.type "bool") := by decide +kernel
theorem boot_dict' : bootBuiltins "dict" = some (.type "dict") := by decide +kernel
theorem ru1 {k : Nat} {A : Around} (r : Room k A) : A.units + 1 < cLine := by have := r.un; omega
theorem ru64 {k : Nat} {A : Around} (r : Room k A) : A.units + 64 < cLine := by have := r.un; omega
theorem ru65 {k : Nat} {A : Around} (r : Room k A) : A.units + 65 < cLine := by have := r.un; omega
section
variable {X : Cx} {p pos : Pos} {a b : Expr} {oa ob : FO} {k : Nat}
theorem w_len (Z : Zs X.mg) (ha : PE X a (tO (kc X) oa)) (hg : Gl X "len" := by rfl) (he : starEach [a] X.env = (false, eval a X.env) :: starEach [] X.env := by rfl) : PE X (.Call (.Name "len" p) [a] [] pos) (tD (kc X) (gOp1 lenD oa)) := cd_call1 cr_len pc_len hg Z.len boot_len' ha (he := he)
theorem w_all (Z : Zs X.mg) (hc : X.calm = true) (ha : PE X a (tO (kc X) oa)) (hg : Gl X "all" := by rfl) (he : starEach [a] X.env = (false, eval a X.env) :: starEach [] X.env := by rfl) : PE X (.Call (.Name "all" p) [a] [] pos) (tD (kc X) (gOp1 allD oa)) := cd_call1 (cr_all hc) pc_all hg Z.all boot_all' ha (he := he)
theorem w_any (Z : Zs X.mg) (hc : X.calm = true) (ha : PE X a (tO (kc X) oa)) (hg : Gl X "any" := by rfl) (he : starEach [a] X.env = (false, eval a X.env) :: starEach [] X.env := by rfl) : PE X (.Call (.Name "any" p) [a] [] pos) (tD (kc X) (gOp1 anyD oa)) := cd_call1 (cr_any hc) pc_any hg Z.any boot_any' ha (he := he)
theorem w_tuple (Z : Zs X.mg) (ha : PE X a (tO (kc X) oa)) (hg : Gl X "tuple" := by rfl) (he : starEach [a] X.env = (false, eval a X.env) :: starEach [] X.env := by rfl) : PE X (.Call (.Name "tuple" p) [a] [] pos) (tD (kc X) (gOp1 tupD oa)) := cd_callT1 call_tuple_of pc_tup hg Z.tuple boot_tup' ha (he := he)
theorem w_int (Z : Zs X.mg) (ha : PE X a (tO (kc X) oa)) (hg : Gl X "int" := by rfl) (he : starEach [a] X.env = (false, eval a X.env) :: starEach [] X.env := by rfl) : PE X (.Call (.Name "int" p) [a] [] pos) (tD (kc X) (gOp1 intD oa)) := cd_callT1 call_int1 pc_int hg Z.int boot_int' ha (he := he)
theorem w_list (Z : Zs X.mg) (ha : PE X a (tO (kc X) oa)) (hg : Gl X "list" := by rfl) (he : starEach [a] X.env = (false, eval a X.env) :: starEach [] X.env := by rfl) : PE X (.Call (.Name "list" p) [a] [] pos) (tW (kc X) (gOp1W lstD oa)) := cw_callT1 call_list_of pw_lst hg Z.list boot_lst' ha (he := he)
theorem w_isi (Z : Zs X.mg) (ha : PE X a (tO (kc X) oa)) (hb : PE X b (tO (kc X) ob)) (hg : Gl X "isinstance" := by rfl) (he : starEach [a, b] X.env = (false, eval a X.env) :: starEach [b] X.env := by rfl) (he2 : starEach [b] X.env = (false, eval b X.env) :: starEach [] X.env := by rfl)
    (hpl : (backTo pos (starEach [b] X.env)).any (·.1) = false := by rfl) : PE X (.Call (.Name "isinstance" p) [a, b] [] pos) (tD (kc X) (gOp2 isiD oa ob)) := cd_isi hg Z.isinstance boot_isi' ha hb he he2 hpl
theorem ty_tuple (Z : Zs X.mg) (hg : Gl X "tuple" := by rfl) : PE X (.Name "tuple" p) (tD (kc X) fun ρ => some (.ty "tuple", ρ)) := cd_type hg Z.tuple boot_tup'
theorem ty_list (Z : Zs X.mg) (hg : Gl X "list" := by rfl) : PE X (.Name "list" p) (tD (kc X) fun ρ => some (.ty "list", ρ)) := cd_type hg Z.list boot_lst'
theorem ty_int (Z : Zs X.mg) (hg : Gl X "int" := by rfl) : PE X (.Name "int" p) (tD (kc X) fun ρ => some (.ty "int", ρ)) := cd_type hg Z.int boot_int'
theorem ty_str (Z : Zs X.mg) (hg : Gl X "str" := by rfl) : PE X (.Name "str" p) (tD (kc X) fun ρ => some (.ty "str", ρ)) := cd_type hg Z.str boot_str'
theorem ty_bool (Z : Zs X.mg) (hg : Gl X "bool" := by rfl) : PE X (.Name "bool" p) (tD (kc X) fun ρ => some (.ty "bool", ρ)) := cd_type hg Z.bool boot_bool'
theorem ty_dict (Z : Zs X.mg) (hg : Gl X "dict" := by rfl) : PE X (.Name "dict" p) (tD (kc X) fun ρ => some (.ty "dict", ρ)) := cd_type hg Z.dict boot_dict'
theorem w_add (ha : PE X a (tO (kc X) oa)) (hb : PE X b (tO (kc X) ob)) : PE X (.BinOp a .Add b pos) (tD (kc X) (gOp2 addD oa ob)) := cd_bin or_addAll pr_addAll ha hb
theorem w_sub (ha : PE X a (tO (kc X) oa)) (hb : PE X b (tO (kc X) ob)) : PE X (.BinOp a .Sub b pos) (tD (kc X) (gOp2 subI oa ob)) := cd_bin op_sub pr_sub ha hb
theorem w_mul (ha : PE X a (tO (kc X) oa)) (hb : PE X b (tO (kc X) ob)) : PE X (.BinOp a .Mult b pos) (tD (kc X) (gOp2 mulI oa ob)) := cd_bin op_mul pr_mul ha hb
theorem w_div (ha : PE X a (tO (kc X) oa)) (hb : PE X b (tO (kc X) ob)) : PE X (.BinOp a .FloorDiv b pos) (tD (kc X) (gOp2 divI oa ob)) := cd_bin op_fdiv pr_div ha hb
theorem w_mod (ha : PE X a (tO (kc X) oa)) (hb : PE X b (tO (kc X) ob)) : PE X (.BinOp a .Mod b pos) (tD (kc X) (gOp2 modI oa ob)) := cd_bin op_mod pr_mod ha hb
theorem w_pow (ha : PE X a (tO (kc X) oa)) (hb : PE X b (tO (kc X) ob)) : PE X (.BinOp a .Pow b pos) (tD (kc X) (gOp2 powI oa ob)) := cd_bin op_pow pr_pow ha hb
/-! comparisons: op, its rule -/
structure Cp (X : Cx) (op : CmpOp) (f : D → D → Option D) : Prop where
  ex : ∃ r, OpR X (compareOp op) r ∧ PureR (kc X) r f
theorem c_lt : Cp X .Lt ltI := ⟨_, op_lt, pr_lt⟩
theorem c_le : Cp X .LtE leI := ⟨_, op_le, pr_le⟩
theorem c_gt : Cp X .Gt gtI := ⟨_, op_gt, pr_gt⟩
theorem c_ge : Cp X .GtE geI := ⟨_, op_ge, pr_ge⟩
theorem c_eq (hr : Room k X.A) : Cp X .Eq eqD := ⟨_, or_eq (ru64 hr), pr_eq⟩
theorem c_ne (hr : Room k X.A) : Cp X .NotEq neD := ⟨_, or_ne (ru64 hr), pr_ne⟩
theorem c_is : Cp X .Is isD := ⟨_, or_is, pr_is⟩
theorem c_isn : Cp X .IsNot isnD := ⟨_, or_isn, pr_isn⟩
theorem c_in (hr : Room k X.A) : Cp X .In inD := ⟨_, or_in (ru65 hr), pr_in⟩
theorem c_nin (hr : Room k X.A) : Cp X .NotIn ninD := ⟨_, or_nin (ru65 hr), pr_nin⟩
theorem w_cmp {op : CmpOp} {f : D → D → Option D} (c : Cp X op f) (ha : PE X a (tO (kc X) oa)) (hb : PE X b (tO (kc X) ob)) (hm : behindInMarks op b = false := by first | exact nomark _ | rfl) : PE X (.Compare a [op] [b] pos) (tD (kc X) (gOp2 f oa ob)) := by
  obtain ⟨r, h1, h2⟩ := c.ex
  exact cd_cmp h1 h2 ha hb hm
theorem t_cmp {op : CmpOp} {f : D → D → Option D} (c : Cp X op f) (ha : PE X a (tO (kc X) oa)) (hb : PE X b (tO (kc X) ob)) (hm : behindInMarks op b = false := by first | exact nomark _ | rfl) : PT X (.Compare a [op] [b] pos) (tB (kc X) (gT (gOp2 f oa ob))) := by
  obtain ⟨r, h1, h2⟩ := c.ex
  exact ct_cmp h1 h2 ha hb hm
/-- a < b < c -/
def gChain (f f' : D → D → Option D) (oa ob oc : FO) : FD := fun ρ => match oa ρ with
  | some (x, ρ1) => match ob ρ1 with
    | some (y, ρ2) => match res ρ2 x, res ρ2 y with
      | some dx, some dy => match f dx dy with
        | some (.bl true) => match oc ρ2 with
          | some (z, ρ3) => match res ρ3 y, res ρ3 z with
            | some dy', some dz => match f' dy' dz with
              | some d => some (d, ρ3)
              | none => none
            | _, _ => none
          | none => none
        | some (.bl false) => some (.bl false, ρ2)
        | _ => none
      | _, _ => none
    | none => none
  | none => none
theorem chain_fit {K : Kc} {r r' : R2} {f f' : D → D → Option D} {oa ob oc : FO} (hp : PureR K r f) (hp' : PureR K r' f') {σ : L2.St} {H : Hp} {Q : VK} (h : tD K (gChain f f' oa ob oc) σ H Q) : tChain r r' (tO K oa) (tO K ob) (tO K oc) σ H Q := by
  obtain ⟨F, B, as, ρ, d, ρ', S, e, k⟩ := h
  unfold gChain at e
  split at e
  · rename_i x ρ1 q1
    split at e
    · rename_i y ρ2 q2
      split at e
      · rename_i dx dy q3 q4
        refine seqOO S q1 q2 fun vx vy H2 F2 as2 E2 S2 rx ry => ?_
        split at e
        · rename_i q5
          refine hp F2 H2 dx dy _ vx vy _ S2.fk q5 (S2.res q3 rx) (S2.res q4 ry) fun v F3 H3 E3 r3 => ?_
          refine ⟨true, by unfold Rep at r3; exact r3, ?_⟩
          simp only [if_true]
          split at e
          · rename_i z ρ3 q6
            split at e
            · rename_i dy' dz q7 q8
              split at e
              · rename_i d' q9
                cases e
                refine ⟨F3, B, as2, ρ2, z, _, S2.step E3, q6, fun vz H4 F4 as4 E4 S4 rz => ?_⟩
                refine hp' F4 H4 dy' dz _ vy vz _ S4.fk q9 (S4.res q7 ((ry.stb E3.stb).stb E4.stb)) (S4.res q8 rz) fun v F5 H5 E5 r5 => ?_
                exact k v H5 F5 as4 (((E2.trans E3.pure).trans E4).trans E5.pure) (S4.step E5) r5
              · cases e
            · cases e
          · cases e
        · rename_i q5
          cases e
          refine hp F2 H2 dx dy _ vx vy _ S2.fk q5 (S2.res q3 rx) (S2.res q4 ry) fun v F3 H3 E3 r3 => ?_
          refine ⟨false, by unfold Rep at r3; exact r3, ?_⟩
          simp only [Bool.false_eq_true, if_false]
          exact k _ H3 F3 as2 (E2.trans E3.pure) (S2.step E3) Rep.bl'
        · cases e
      · cases e
    · cases e
  · cases e
theorem w_chain {op op' : CmpOp} {f f' : D → D → Option D} {c : Expr} {oc : FO} (h : Cp X op f) (h' : Cp X op' f') (ha : PE X a (tO (kc X) oa)) (hb : PE X b (tO (kc X) ob)) (hc : PE X c (tO (kc X) oc)) (hm : lastMarks [op, op'] [b, c] = false := by with_unfolding_all rfl) : PE X (.Compare a [op, op'] [b, c] pos) (tD (kc X) (gChain f f' oa ob oc)) := by
  obtain ⟨r, h1, h2⟩ := h.ex
  obtain ⟨r', h1', h2'⟩ := h'.ex
  exact PE.to (pe_chain h1 h1' ha hb hc hm) fun σ H Q q => chain_fit h2 h2' q
theorem t_chain {op op' : CmpOp} {f f' : D → D → Option D} {c : Expr} {oc : FO} (h : Cp X op f) (h' : Cp X op' f') (ha : PE X a (tO (kc X) oa)) (hb : PE X b (tO (kc X) ob)) (hc : PE X c (tO (kc X) oc)) (hm : lastMarks [op, op'] [b, c] = false := by with_unfolding_all rfl) : PT X (.Compare a [op, op'] [b, c] pos) (tB (kc X) (gT (gChain f f' oa ob oc))) := by
  obtain ⟨r, h1, h2⟩ := h.ex
  obtain ⟨r', h1', h2'⟩ := h'.ex
  exact PT.to (pt_chain h1 h1' ha hb hc hm) fun σ H Q q => chain_fit h2 h2' (tB_fit q)
theorem w_ix (hr : Room k X.A) (ha : PE X a (tO (kc X) oa)) (hb : PE X b (tO (kc X) ob)) (hs : PlainIx b := by exact fun _ _ => rfl) : PE X (.Subscript a b pos) (tD (kc X) (gOp2 ixD oa ob)) := cd_ix (ru1 hr) ha hb hs
/-- a list that is written -/
def gLst (g : FL) : FW := fun ρ => match g ρ with
  | some (ds, ρ') => if ds.length ≤ SZ then some (.lst ds, true, ρ') else none
  | none => none
theorem cw_lst {es : List Expr} {g : FL} (h : PA X es (tL (kc X) g)) : PE X (.List es pos) (tW (kc X) (gLst g)) := PE.to (pe_lst h) fun σ H Q ⟨F, B, as, ρ, d, w, ρ', S, e, k⟩ => by
  unfold gLst at e
  split at e
  · rename_i ds ρ2 q
    split at e
    · rename_i hz
      cases e
      refine ⟨F, B, as, ρ, ds, _, S, q, fun vs H' F' as' E S' r => ⟨sz_le (by rw [r.length]; exact hz), fun p hp => ?_⟩⟩
      obtain ⟨E2, S2⟩ := new_own hp S' (own_lst hp r)
      exact k _ _ F' as' [p] (E.trans E2) S2
    · cases e
  · cases e
/-- a negative number that is written -/
def gNeg (g : FD) : FD := fun ρ => match g ρ with
  | some (.int i, ρ1) => some (.int (-i), ρ1)
  | _ => none
theorem w_neg {g : FD} (ha : PE X a (tD (kc X) g)) : PE X (.UnaryOp .USub a pos) (tD (kc X) (gNeg g)) := PE.to (pe_un un_neg ha) fun σ H Q ⟨F, B, as, ρ, d, ρ', S, e, k⟩ => by
  unfold gNeg at e
  split at e
  · rename_i i ρ1 q
    cases e
    exact ⟨F, B, as, ρ, .int i, _, S, q, fun v H1 F1 as1 E1 S1 r => ⟨i, by unfold Rep at r; exact r, k _ H1 F1 as1 E1 S1 Rep.int'⟩⟩
  · cases e
end

/-! ### the defs of a text -/
structure FnA (P : Program) (w : World) (K : PySem.W.Frag) (mg : Str → Option Value) (base : Heap) (n : Nat) (x : Str) (bo : List Bool) (G : FnD) (dd : List D := []) : Prop where
  at_ : ∃ f fd ps ds dvs, mg x = some (.ref f) ∧ PySem.W.keepIn K (.ref f) = true ∧ Binds K fd ps ds ∧ Vals dvs ds ∧ (∀ F H, RepL ⟨K, mg⟩ F H dd dvs) ∧ FnOk P w K mg base CX0 n f fd ps (spD ⟨K, mg⟩ bo G)
theorem FnA.to {X : Cx} {n : Nat} {x : Str} {bo : List Bool} {G : FnD} {dd : List D} (h : FnA X.prog X.w X.K X.mg X.base n x bo G dd) : FnAt X n x bo G dd := ⟨h.at_⟩
structure DefF (K : PySem.W.Frag) (mg : Str → Option Value) (x : Str) (st : Stmt) (ps : List Str) : Prop where
  ex : ∃ f fd, mg x = some (.ref f) ∧ Fun K x x st f fd ∧ Binds K fd ps []
section
variable {P : Program} {w : World} {K : PySem.W.Frag} {mg : Str → Option Value} {base : Heap}
theorem DefF.zero {x : Str} {st : Stmt} {ps : List Str} {bo : List Bool} {G : FnD} (D : DefF K mg x st ps) (hG : ∀ ds, G ds = none) : FnA P w K mg base 0 x bo G := by
  obtain ⟨f, fd, hm, F, hb⟩ := D.ex
  exact ⟨f, fd, ps, [], [], hm, F.kp, hb, .nil, fun _ _ => RepL.nil, fn_zero hG⟩
theorem DefF.step {x : Str} {st : Stmt} {N ps : List Str} {n : Nat} {bo : List Bool} {g : FS} (D : DefF K mg x st ps) (S : FnScope N ps (defScope st)) (hb : bo.length = ps.length)
    (hbody : ∀ (f : Addr) (cdv : Value) (A : Around) (outer : List PySem.Env) (s : Shared) (H : Hp) (E : XK), Room n (A.deeper (envOfC x (defScope st) s.heap.objs.size f cdv)) → PSs (bodyX P w K mg base N x (defScope st) f cdv A outer s H E) (defBody st) (tS ⟨K, mg⟩ g)) :
    FnA P w K mg base (n + 1) x bo (runG bo N.length g) := by
  obtain ⟨f, fd, hm, F, hbi⟩ := D.ex
  exact ⟨f, fd, ps, [], [], hm, F.kp, hbi, .nil, fun _ _ => RepL.nil, fn_ok F S hb rfl fun cdv A outer s H E hr => hbody f cdv A outer s H E hr⟩
/-- a def with defaults: called with the first ones alone (dd the rest), or with all -/
structure DefD (K : PySem.W.Frag) (mg : Str → Option Value) (x : Str) (st : Stmt) (ps : List Str) (dd : List D) (dvs : List V) : Prop where
  ex : ∃ f fd ds, mg x = some (.ref f) ∧ FunD K x x (defArgs st) (defBody st) (defScope st) dvs [] f fd ∧ Binds K fd ps [] ∧ Binds K fd ps ds ∧ Vals dvs ds ∧ ∀ F H, RepL ⟨K, mg⟩ F H dd dvs
theorem fn_okD {x qual : Str} {st : Stmt} {f : Addr} {fd : FuncData} {N ps : List Str} {k n : Nat} {bo : List Bool} {g : FS} {dvs : List V} (F : FunD K x qual (defArgs st) (defBody st) (defScope st) dvs [] f fd) (S : FnScope N ps (defScope st)) (hb : bo.length = ps.length) (hn : N.length = n)
    (hbody : ∀ (cdv : Value) (A : Around) (outer : List PySem.Env) (s : Shared) (H : Hp) (E : XK), Room k (A.deeper (envOfC qual (defScope st) s.heap.objs.size f cdv)) → PSs (bodyX P w K mg base N qual (defScope st) f cdv A outer s H E) (defBody st) (tS ⟨K, mg⟩ g)) :
    FnOk P w K mg base CX0 (k + 1) f fd ps (spD ⟨K, mg⟩ bo (runG bo n g)) :=
  F.ok S (fun vs H Q E h => by obtain ⟨F, as, ds, d, w, ds', hA, _⟩ := h; rw [hA.length, hb]) fun cdv A outer s H vs Q E hr h => ⟨_, (hbody cdv A outer s H E hr).nox, body_fit hn h⟩
theorem DefD.zero {x : Str} {st : Stmt} {ps : List Str} {dd : List D} {dvs : List V} {bo : List Bool} {G : FnD} (D : DefD K mg x st ps dd dvs) (hG : ∀ ds, G ds = none) : FnA P w K mg base 0 x bo G ∧ FnA P w K mg base 0 x bo G dd := by
  obtain ⟨f, fd, ds, hm, F, hb, hb2, hv, hd⟩ := D.ex
  exact ⟨⟨f, fd, ps, [], [], hm, F.kp, hb, .nil, fun _ _ => RepL.nil, fn_zero hG⟩, ⟨f, fd, ps, ds, dvs, hm, F.kp, hb2, hv, hd, fn_zero hG⟩⟩
theorem DefD.step {x : Str} {st : Stmt} {N ps : List Str} {n : Nat} {bo : List Bool} {g : FS} {dd : List D} {dvs : List V} (D : DefD K mg x st ps dd dvs) (S : FnScope N ps (defScope st)) (hb : bo.length = ps.length)
    (hbody : ∀ (f : Addr) (cdv : Value) (A : Around) (outer : List PySem.Env) (s : Shared) (H : Hp) (E : XK), Room n (A.deeper (envOfC x (defScope st) s.heap.objs.size f cdv)) → PSs (bodyX P w K mg base N x (defScope st) f cdv A outer s H E) (defBody st) (tS ⟨K, mg⟩ g)) :
    FnA P w K mg base (n + 1) x bo (runG bo N.length g) ∧ FnA P w K mg base (n + 1) x bo (runG bo N.length g) dd := by
  obtain ⟨f, fd, ds, hm, F, hbi, hb2, hv, hd⟩ := D.ex
  have ok : FnOk P w K mg base CX0 (n + 1) f fd ps (spD ⟨K, mg⟩ bo (runG bo N.length g)) := fn_okD F S hb rfl fun cdv A outer s H E hr => hbody f cdv A outer s H E hr
  exact ⟨⟨f, fd, ps, [], [], hm, F.kp, hbi, .nil, fun _ _ => RepL.nil, ok⟩, ⟨f, fd, ps, ds, dvs, hm, F.kp, hb2, hv, hd, ok⟩⟩
theorem defF_mk {h : Heap} {x : Str} {st : Stmt} {ps : List Str} (X : K.In h) (G : h.Ns mainGlobals mg) {f : Addr} {od an : Option Addr} {sl : Array (Option Value)} {oc kV dc pm cd ct : Value}
    (hb : ∀ (kV doc pm : Value) (an : Option Addr) (cdv ct : Value) (us : List Value), us.length = ps.length → bindArgs (PySem.W.fnOf x x (defArgs st) (defBody st) (defScope st) .none kV doc pm an cdv ct) ⟨us, []⟩ = pure (ps.zip us))
    (a : PySem.W.nsIn K mainGlobals x = some (some (.ref f))) (l : K.lookup f = some ⟨oc, od, .func (PySem.W.fnOf x x (defArgs st) (defBody st) (defScope st) .none kV dc pm an cd ct), sl⟩) (c : PySem.W.codeIn K cd x = true) (k : PySem.W.keepIn K (.ref f) = true) : DefF K mg x st ps :=
  ⟨f, _, PySem.W.mg_of X G a, fun_mk l c k, (fun_mk l c k).binds hb⟩
theorem defD_mk {h : Heap} {x : Str} {st : Stmt} {ps : List Str} {dd : List D} {dvs : List V} (X : K.In h) (G : h.Ns mainGlobals mg) {f T : Addr} {od an : Option Addr} {sl : Array (Option Value)} {oc kV dc pm cd ct : Value} {o : Obj} {its : List Value} {m : Nat}
    (hb : ∀ (T : Addr) (kV doc pm : Value) (an : Option Addr) (cdv ct : Value) (us its : List Value), us.length = ps.length → its.length = dvs.length →
      ∃ k, bindArgs (PySem.W.fnOf x x (defArgs st) (defBody st) (defScope st) (.ref T) kV doc pm an cdv ct) ⟨us, []⟩ = seqItems? (.ref T) >>= k ∧ k (some its.toArray) = pure (ps.zip (us ++ its.drop dvs.length)))
    (hb2 : ∀ (T : Addr) (kV doc pm : Value) (an : Option Addr) (cdv ct : Value) (us its : List Value), us.length = ps.length - dvs.length → its.length = dvs.length →
      ∃ k, bindArgs (PySem.W.fnOf x x (defArgs st) (defBody st) (defScope st) (.ref T) kV doc pm an cdv ct) ⟨us, []⟩ = seqItems? (.ref T) >>= k ∧ k (some its.toArray) = pure (ps.zip (us ++ its.drop 0)))
    (hne : dvs ≠ []) (hle : dvs.length ≤ ps.length) (hd : ∀ F H, RepL ⟨K, mg⟩ F H dd dvs)
    (a : PySem.W.nsIn K mainGlobals x = some (some (.ref f))) (l : K.lookup f = some ⟨oc, od, .func (PySem.W.fnOf x x (defArgs st) (defBody st) (defScope st) (.ref T) kV dc pm an cd ct), sl⟩) (c : PySem.W.codeIn K cd x = true) (k : PySem.W.keepIn K (.ref f) = true)
    (lT : K.lookup T = some o) (oT : o.data = .seq its.toArray m) (rT : Vals dvs its) : DefD K mg x st ps dd dvs := by
  have F : FunD K x x (defArgs st) (defBody st) (defScope st) dvs [] f (PySem.W.fnOf x x (defArgs st) (defBody st) (defScope st) (.ref T) kV dc pm an cd ct) :=
    ⟨⟨oc, od, _, kV, dc, pm, an, cd, ct, sl, rfl, l, c, .inr ⟨hne, T, o, its, m, rfl, lT, oT, rT⟩, .inl rfl⟩, k⟩
  obtain ⟨ds0, v0, b0⟩ := F.binds1 ps.length dvs.length hne (by omega) hb
  obtain ⟨ds1, v1, b1⟩ := F.binds1 (ps.length - dvs.length) 0 hne (by omega) hb2
  rw [List.drop_length] at v0
  cases v0
  rw [List.drop_zero] at v1
  exact ⟨f, _, ds1, PySem.W.mg_of X G a, F, b0, b1, v1, hd⟩
/-- a tuple of the module whose items are flat -/
theorem glob_tup {h : Heap} {x : Str} {a : Addr} {o : Obj} {its : Array Value} {n : Nat} {ds : List D} {vs : List V} (X : K.In h) (G : h.Ns mainGlobals mg) (e : PySem.W.nsIn K mainGlobals x = some (some (.ref a))) (l : K.lookup a = some o) (hc : o.cls = .type "tuple") (hd : o.data = .seq its n)
    (hs : its.size ≤ sizeLine) (hv : Vals vs its.toList) (r : ∀ F H, RepL ⟨K, mg⟩ F H ds vs) : ∃ u v, mg x = some u ∧ RelV v u ∧ ∀ F H, Rep ⟨K, mg⟩ F H (.tup ds) v :=
  ⟨.ref a, .ref a, PySem.W.mg_of X G e, rfl, fun F H => Rep.tup' (.inr ⟨o, its, n, l, hc, hd, hs, hv⟩) (r F H)⟩
/-! ### the end: the law's call -/
def spLaw : Sp := fun vs H Q _ => ∃ (a : Addr) (ns : List Int), vs = [.ref a] ∧ ((∃ o, H a = some (.frz o (.lst (ns.map V.int)))) ∨ ∀ H', SqL K H' a (ns.map V.int)) ∧ ns.length ≤ 63 ∧ (∀ z ∈ ns, Builtin.Int.intBits z ≤ 1048576) ∧ ∀ H', Q (.bl true) H'
theorem law_imp {G : FnD} (hG : ∀ ns : List Int, ns.length ≤ 63 → (∀ z ∈ ns, Builtin.Int.intBits z ≤ 1048576) → ∃ ds', G [.scr ns] = some (.bl true, false, ds')) : ∀ vs H Q E, spLaw (K := K) vs H Q E → spD ⟨K, mg⟩ [false] G vs H Q E := fun vs H Q E h => by
  obtain ⟨a, ns, rfl, hs, h63, hb, q⟩ := h
  obtain ⟨ds', e⟩ := hG ns h63 hb
  refine ⟨fun _ => False, [], [.scr ns], .bl true, false, ds', ?_, List.nodup_nil, fun a m => (List.not_mem_nil m).elim, fun b (h : False) => h.elim, e, fun v H' F' as' bs E hB nd nf fk r => ?_⟩
  · unfold ArgR
    refine ⟨_, [], rfl, ?_, ?_⟩
    · unfold Rep; exact ⟨a, rfl, hs⟩
    · unfold ArgR; exact ⟨rfl, rfl⟩
  · simp only [Bool.false_eq_true, if_false] at r
    have r := r.2
    unfold Rep at r
    subst r
    exact q H'
end
theorem law_end {l : PySem.W.OpenLaw} {q : Program} {loose : List Str} {XP : (Str → Option Value) → Heap → Prop} {YP : World → Heap → Prop} {d : DefRec} {K : Params → PySem.W.Frag} {n : Nat} {G : FnD} (hn : l.most = some 63) (hdf : d.params.defaults = []) (hr : Room n callerA)
    (hY : ∀ (w : World) (h : Heap), YP w h → (K w.params).In h)
    (hG : ∀ ns : List Int, ns.length ≤ 63 → (∀ z ∈ ns, Builtin.Int.intBits z ≤ 1048576) → ∃ ds', G [.scr ns] = some (.bl true, false, ds'))
    (F : ∀ (w : World) (mg : Str → Option Value) (fa : Addr) (h : Heap), (K w.params).In h → h.Ns mainGlobals mg → mg d.name = some (.ref fa) →
      ∃ fd : FuncData, (∀ (s : Shared) (u : Value), BindsTo s fd ⟨[u], []⟩ [("script", u)]) ∧ ∀ base : Heap, (K w.params).In base → base.Ns mainGlobals mg → FnOk l.prog w (K w.params) mg base CX0 n fa fd ["script"] (spD ⟨K w.params, mg⟩ [false] G)) :
    PySem.W.WalkO q loose XP YP l.row.toRowW d [] (fun f vs => PySem.call f vs) :=
  L2.walk_ofB (n := 63) (k := n) (x := "script") (CX := fun _ => CX0) (sp := fun w => spLaw (K := K w.params)) hn (by decide) hdf hr hY
    (fun w mg fa h k g m => by
      obtain ⟨fd, h1, h2⟩ := F w mg fa h k g m
      exact ⟨fd, h1, fun base kb gb => (h2 base kb gb).imp (law_imp hG)⟩)
    (fun w H a ns hl hb ho hS => by
      refine ⟨a, ns, rfl, ?_, hl, hb, fun _ => rfl⟩
      rcases hS with (hS | hS) | hS
      · rcases ho a with z | ⟨o, xs, z⟩
        · rw [hS] at z; cases z
        · rw [hS] at z; cases z
      · exact .inl hS
      · exact .inr fun H' => .inr hS)
    fun _ _ _ _ _ z => z
end DV

/-! DV9: short names, a, b = x, y. -/
namespace DV
open L2 PySem PySem.Spec PyProof.Rows

abbrev oNm (i : Nat) : FO := fun ρ => (look ρ i).map fun _ => (.at i, ρ)
abbrev oD (g : FD) : FO := fun ρ => (g ρ).map fun p => (.va p.1, p.2)
abbrev wD (g : FD) : FW := fun ρ => (g ρ).map fun p => (p.1, false, p.2)

/-- target = value -/
def gAsg (g : FD) (h : FG) : FS := fun ρ => match g ρ with
  | some (d, ρ1) => match h d ρ1 with
    | some ρ2 => some (.nx, ρ2)
    | none => none
  | none => none
/-- a, b = x, y -/
def gPar (i j : Nat) (ga gb : FW) : FS := fun ρ => match ga ρ with
  | some (d, w, ρ1) => match gb ρ1 with
    | some (d', w', ρ2) => match bind1 i d w ρ2 with
      | some ρ3 => match bind1 j d' w' ρ3 with
        | some ρ4 => some (.nx, ρ4)
        | none => none
      | none => none
    | none => none
  | none => none
section
variable {X : Cx} {pos : Pos}
theorem cs_asg {tg e : Expr} {ts : List Nat} {g : FD} {h : FG} (he : PE X e (tD (kc X) g)) (hg : PG X tg (tG (kc X) ts h)) (hs : swapsWithSole [tg] e pos.line X.env = pure false := by rfl) (hw : swappedStores [tg] e X.env = pure none := by rfl)
    (h1 : (assignEach [tg] X.env).map (·.2) = [assign tg X.env] := by rfl) : PS X (.Assign [tg] e pos) (tS (kc X) (gAsg g h)) :=
  PS.to (ps_asg he hg hs hw h1) fun D σ H ⟨F, B, as, ρ, fl, ρ', S, e, k⟩ => by
    unfold gAsg at e
    split at e
    · rename_i d ρ1 q
      split at e
      · rename_i ρ2 q2
        cases e
        exact ⟨F, B, as, ρ, d, ρ1, S, q, fun v H1 F1 as1 E1 S1 r1 => ⟨F1, B, as1, ρ1, d, _, S1, r1, q2, fun σ' H2 F2 as2 _ _ E2 S2 => k σ' H2 F2 as2 (E1.trans E2) S2⟩⟩
      · cases e
    · cases e
theorem Sit2.own {K : Kc} {F F2 : Addr → Prop} {B : List Addr} {H H2 : Hp} {ρ : Env} {σ : L2.St} {as : List Addr} {d : D} {w : Bool} {v : V} {bs : List Addr} (S : Sit2 K F B H ρ σ as d w v bs) (s : Stb F H F2 H2) (k : Kept bs H H2) :
    if w = true then Own K F2 H2 d v bs else bs = [] ∧ Rep K F2 H2 d v := by
  have r := S.res
  cases w with
  | true => simp only [if_true] at r ⊢; exact r.stb s k
  | false => simp only [Bool.false_eq_true, if_false] at r ⊢; exact ⟨r.1, Rep.stb s _ _ r.2⟩
theorem Sit2.thereB {K : Kc} {F : Addr → Prop} {B : List Addr} {H : Hp} {ρ : Env} {σ : L2.St} {as : List Addr} {d : D} {w : Bool} {v : V} {bs : List Addr} (S : Sit2 K F B H ρ σ as d w v bs) : ∀ b, b ∈ bs → ∃ u, H b = some u := by
  have r := S.res
  cases w with
  | true => simp only [if_true] at r; exact r.there
  | false => simp only [Bool.false_eq_true, if_false] at r; rw [r.1]; intro b m; cases m
theorem cs_par {i j : Nat} {x y : Str} {a b : Expr} {ga gb : FW} {px py pt : Pos} {kt k2 pt2} (hc : X.calm = true) (hN : X.N.Nodup) (hi : X.N[i]? = some x) (hj : X.N[j]? = some y) (hij : i ≠ j)
    (hx : X.env.scope.names.lookup x = some .local) (hy : X.env.scope.names.lookup y = some .local) (ha : PE X a (tW (kc X) ga)) (hb : PE X b (tW (kc X) gb))
    (hw : swappedStores [.Tuple [.Name x px, .Name y py] kt pt] (.Tuple [a, b] k2 pt2) X.env = pure (some [x, y]))
    (hs : swapsWithSole [.Tuple [.Name x px, .Name y py] kt pt] (.Tuple [a, b] k2 pt2) pos.line X.env = pure false := by rfl)
    (h1 : starEach [a, b] X.env = (false, eval a X.env) :: starEach [b] X.env := by rfl) (h2 : starEach [b] X.env = (false, eval b X.env) :: starEach [] X.env := by rfl) :
    PS X (.Assign [.Tuple [.Name x px, .Name y py] kt pt] (.Tuple [a, b] k2 pt2) pos) (tS (kc X) (gPar i j ga gb)) :=
  PS.to (ps_par hc hN hi hj hij hx hy (pa_cons ha (pa_cons hb pa_nil h2) h1) hw hs) fun D σ H ⟨F, B, as, ρ, fl, ρ', S, e, k⟩ => by
    unfold gPar at e
    split at e
    · rename_i d w ρ1 q1
      split at e
      · rename_i d' w' ρ2 q2
        split at e
        · rename_i ρ3 q3
          split at e
          · rename_i ρ4 q4
            cases e
            refine ⟨F, B, as, ρ, d, w, ρ1, S, q1, fun v H1 F1 as1 bs E1 S1 => ?_⟩
            have nn := List.nodup_append.mp S1.nd
            refine ⟨F1, B, as1, ρ1, d', w', ρ2, S1.drop, q2, fun v' H2 F2 as2 bs2 E2 S2 => ⟨v, v', rfl, ?_⟩⟩
            have kp : Kept bs H1 H2 := E2.kept fun b m z => nn.2.2 b m b z rfl
            have own := S1.own E2.stb kp
            have far : ∀ b, b ∈ bs → b ∉ bs2 ++ as2 := fun b m z => by
              rcases E2.anew b z with z | z
              · exact nn.2.2 b m b z rfl
              · obtain ⟨u, hu⟩ := S1.thereB b m
                rw [hu] at z; cases z
            have nfb : ∀ b, b ∈ bs → ¬ F2 b := fun b m f => by
              rcases E2.fnew b f with z | z | z
              · exact S1.nf b (List.mem_append_left _ m) z
              · exact nn.2.2 b m b z rfl
              · obtain ⟨u, hu⟩ := S1.thereB b m
                rw [hu] at z; cases z
            have n2 := List.nodup_append.mp S2.nd
            have T : Sit2 (kc X) F2 B H2 ρ2 σ as2 d w v bs := ⟨S2.env, List.nodup_append.mpr ⟨nn.1, n2.2.1, fun x hx y hy e => far x hx (e ▸ List.mem_append_right _ hy)⟩, fun b m => (List.mem_append.mp m).elim (nfb b) fun m => S2.nf b (List.mem_append_right _ m), S2.fk, own⟩
            obtain ⟨as3, S3, m3⟩ := T.bind q3
            have T2 : Sit2 (kc X) F2 B H2 ρ3 (σ.set i (some v)) as3 d' w' v' bs2 := by
              refine ⟨S3.env, List.nodup_append.mpr ⟨n2.1, S3.nd, fun x hx y hy e => ?_⟩, fun b m => (List.mem_append.mp m).elim (fun m => S2.nf b (List.mem_append_left _ m)) fun m => S3.nf b m, S3.fk, S2.res⟩
              subst e
              rcases List.mem_append.mp (m3 x hy) with z | z
              · exact far x z (List.mem_append_left _ hx)
              · exact n2.2.2 x hx x z rfl
            obtain ⟨as4, S4, m4⟩ := T2.bind q4
            have E2' : Ext F1 (bs ++ as1) H1 F2 (bs ++ (bs2 ++ as2)) H2 := E2.frameL
            refine k _ H2 F2 as4 ((E1.trans E2').sub fun b m => ?_) S4
            rcases List.mem_append.mp (m4 b m) with z | z
            · simp [z]
            · rcases List.mem_append.mp (m3 b z) with z | z <;> simp [z]
          · cases e
        · cases e
      · cases e
    · cases e
end
end DV

/-! DV10: the rows by which a run is computed. -/
namespace DV
open L2 PySem PySem.Spec PyProof.Rows

theorem strOf_inj (a b : String) : (Str.ofString a = Str.ofString b) = (a = b) := by
  rw [eq_iff_iff]
  refine ⟨fun h => ?_, fun h => by rw [h]⟩
  rw [Str.ofString_eq_toList, Str.ofString_eq_toList] at h
  have h2 : (a.toList.map Char.toNat) = b.toList.map Char.toNat := by
    have := congrArg (fun s : Str => s.cps.toList) h
    simpa using this
  have inj : ∀ x y : List Char, x.map Char.toNat = y.map Char.toNat → x = y := by
    intro x
    induction x with
    | nil => intro y h; cases y with
      | nil => rfl
      | cons c y => simp at h
    | cons c x ih => intro y h; cases y with
      | nil => simp at h
      | cons d y =>
        simp only [List.map_cons, List.cons.injEq] at h
        rw [ih y h.2, show c = d from Char.ext (UInt32.toNat_inj.mp h.1)]
  exact String.toList_inj.mp (inj _ _ h2)
theorem strOf_beq (a b : String) : (Str.ofString a == Str.ofString b) = (a == b) := by
  rw [Bool.eq_iff_iff, beq_iff_eq, beq_iff_eq, strOf_inj]

section
variable {ρ ρ1 : Env}
def kSeq (b : FS) : Fl × Env → Option (Fl × Env)
  | (.nx, ρ1) => b ρ1
  | (.br, ρ1) => some (.br, ρ1)
  | (.ct, ρ1) => some (.ct, ρ1)
  | (.rt d w, ρ1) => some (.rt d w, ρ1)
@[simp] theorem at_seq {a b : FS} : gSeq a b ρ = (a ρ).bind (kSeq b) := by
  unfold gSeq; rcases a ρ with _ | ⟨_ | _ | _ | _, _⟩ <;> rfl
@[simp] theorem kSeq_nx {b : FS} : kSeq b (.nx, ρ1) = b ρ1 := rfl
@[simp] theorem kSeq_br {b : FS} : kSeq b (.br, ρ1) = some (.br, ρ1) := rfl
@[simp] theorem kSeq_ct {b : FS} : kSeq b (.ct, ρ1) = some (.ct, ρ1) := rfl
@[simp] theorem kSeq_rt {b : FS} {d w} : kSeq b (.rt d w, ρ1) = some (.rt d w, ρ1) := rfl
def kIfS (a b : FS) : Bool × Env → Option (Fl × Env)
  | (true, ρ1) => a ρ1
  | (false, ρ1) => b ρ1
@[simp] theorem at_gIfS {t : FT} {a b : FS} : gIfS t a b ρ = (t ρ).bind (kIfS a b) := by
  unfold gIfS; rcases t ρ with _ | ⟨_ | _, _⟩ <;> rfl
@[simp] theorem kIfS_t {a b : FS} : kIfS a b (true, ρ1) = a ρ1 := rfl
@[simp] theorem kIfS_f {a b : FS} : kIfS a b (false, ρ1) = b ρ1 := rfl
def kIf (a b : FD) : Bool × Env → Option (D × Env)
  | (true, ρ1) => a ρ1
  | (false, ρ1) => b ρ1
@[simp] theorem at_gIf {t : FT} {a b : FD} : gIf t a b ρ = (t ρ).bind (kIf a b) := by
  unfold gIf; rcases t ρ with _ | ⟨_ | _, _⟩ <;> rfl
@[simp] theorem kIf_t {a b : FD} : kIf a b (true, ρ1) = a ρ1 := rfl
@[simp] theorem kIf_f {a b : FD} : kIf a b (false, ρ1) = b ρ1 := rfl
def kIfW (a b : FW) : Bool × Env → Option (D × Bool × Env)
  | (true, ρ1) => a ρ1
  | (false, ρ1) => b ρ1
@[simp] theorem at_gIfW {t : FT} {a b : FW} : gIfW t a b ρ = (t ρ).bind (kIfW a b) := by
  unfold gIfW; rcases t ρ with _ | ⟨_ | _, _⟩ <;> rfl
@[simp] theorem kIfW_t {a b : FW} : kIfW a b (true, ρ1) = a ρ1 := rfl
@[simp] theorem kIfW_f {a b : FW} : kIfW a b (false, ρ1) = b ρ1 := rfl
@[simp] theorem at_skip : gSkip ρ = some (.nx, ρ) := rfl
def kRet : D × Bool × Env → Fl × Env := fun p => (.rt p.1 p.2.1, p.2.2)
@[simp] theorem at_ret {g : FW} : gRet g ρ = (g ρ).map kRet := by
  unfold gRet; rcases g ρ with _ | ⟨_, _, _⟩ <;> rfl
@[simp] theorem kRet_at {d w} : kRet (d, w, ρ1) = (.rt d w, ρ1) := rfl
def kDrop : D × Bool × Env → Fl × Env := fun p => (.nx, p.2.2)
@[simp] theorem at_drop {g : FW} : gDrop g ρ = (g ρ).map kDrop := by
  unfold gDrop; rcases g ρ with _ | ⟨_, _, _⟩ <;> rfl
@[simp] theorem kDrop_at {d w} : kDrop (d, w, ρ1) = (.nx, ρ1) := rfl
def kNx : Env → Fl × Env := fun ρ => (.nx, ρ)
@[simp] theorem kNx_at : kNx ρ = (.nx, ρ) := rfl
def kSet (i : Nat) : D × Bool × Env → Option (Fl × Env) := fun p => (bind1 i p.1 p.2.1 p.2.2).map kNx
@[simp] theorem at_set {i : Nat} {g : FW} : gSet i g ρ = (g ρ).bind (kSet i) := by
  unfold gSet
  rcases g ρ with _ | ⟨d, w, ρ1⟩
  · rfl
  · show _ = (bind1 i d w ρ1).map kNx
    dsimp only
    rcases bind1 i d w ρ1 with _ | _ <;> rfl
@[simp] theorem kSet_at {i d w} : kSet i (d, w, ρ1) = (bind1 i d w ρ1).map kNx := rfl
def kB (i : Nat) (d : D) (w : Bool) (ρ : Env) : Option Sl → Option Env
  | some (.bo _ _) => none
  | some .no => some (ρ.set i (if w = true then .ow d else .sh d))
  | some (.sh _) => some (ρ.set i (if w = true then .ow d else .sh d))
  | some (.ow _) => some (ρ.set i (if w = true then .ow d else .sh d))
  | none => none
@[simp] theorem at_bind1 {i d w} : bind1 i d w ρ = kB i d w ρ ρ[i]? := by
  unfold bind1; rcases ρ[i]? with _ | _ | _ | _ | _ <;> rfl
@[simp] theorem kB_no {i d w} : kB i d w ρ (some .no) = some (ρ.set i (if w = true then .ow d else .sh d)) := rfl
@[simp] theorem kB_sh {i d w e} : kB i d w ρ (some (.sh e)) = some (ρ.set i (if w = true then .ow d else .sh d)) := rfl
@[simp] theorem kB_ow {i d w e} : kB i d w ρ (some (.ow e)) = some (ρ.set i (if w = true then .ow d else .sh d)) := rfl
def kLook : Option Sl → Option D
  | some (.sh d) => some d
  | some (.ow d) => some d
  | some (.bo _ d) => some d
  | some .no => none
  | none => none
@[simp] theorem at_look {i} : look ρ i = kLook ρ[i]? := by
  unfold look; rcases ρ[i]? with _ | _ | _ | _ | _ <;> rfl
@[simp] theorem kLook_sh {d} : kLook (some (.sh d)) = some d := rfl
@[simp] theorem kLook_ow {d} : kLook (some (.ow d)) = some d := rfl
@[simp] theorem kLook_bo {k d} : kLook (some (.bo k d)) = some d := rfl
@[simp] theorem res_va {d} : res ρ (.va d) = some d := rfl
@[simp] theorem res_at {i} : res ρ (.at i) = look ρ i := rfl
def kAt (i : Nat) (ρ : Env) : D → Opd × Env := fun _ => (.at i, ρ)
@[simp] theorem kAt_at {i d} : kAt i ρ d = (.at i, ρ) := rfl
@[simp] theorem at_oNm {i : Nat} : oNm i ρ = (look ρ i).map (kAt i ρ) := rfl
def kVa : D × Env → Opd × Env := fun p => (.va p.1, p.2)
@[simp] theorem kVa_at {d} : kVa (d, ρ1) = (.va d, ρ1) := rfl
@[simp] theorem at_oD {g : FD} : oD g ρ = (g ρ).map kVa := rfl
def kWD : D × Env → D × Bool × Env := fun p => (p.1, false, p.2)
@[simp] theorem kWD_at {d} : kWD (d, ρ1) = (d, false, ρ1) := rfl
@[simp] theorem at_wD {g : FD} : wD g ρ = (g ρ).map kWD := rfl
def kNm (i : Nat) (ρ : Env) : Option Sl → Option (D × Env)
  | some (.sh d) => some (d, ρ)
  | some (.ow d) => if isC d = true then some (d, ρ.set i (.sh d)) else none
  | some (.bo _ _) => none
  | some .no => none
  | none => none
@[simp] theorem at_nm {i} : gNm i ρ = kNm i ρ ρ[i]? := by
  unfold gNm; rcases ρ[i]? with _ | _ | _ | _ | _ <;> rfl
@[simp] theorem kNm_sh {i d} : kNm i ρ (some (.sh d)) = some (d, ρ) := rfl
@[simp] theorem kNm_lst {i ds} : kNm i ρ (some (.ow (.lst ds))) = some (.lst ds, ρ.set i (.sh (.lst ds))) := rfl
@[simp] theorem kNm_dic {i ks ds} : kNm i ρ (some (.ow (.dic ks ds))) = some (.dic ks ds, ρ.set i (.sh (.dic ks ds))) := rfl
def kMv (i : Nat) (ρ : Env) : Option Sl → Option (D × Bool × Env)
  | some (.sh d) => some (d, false, ρ)
  | some (.ow d) => some (d, true, ρ.set i .no)
  | some (.bo _ _) => none
  | some .no => none
  | none => none
@[simp] theorem at_mv {i} : gMv i ρ = kMv i ρ ρ[i]? := by
  unfold gMv; rcases ρ[i]? with _ | _ | _ | _ | _ <;> rfl
@[simp] theorem kMv_sh {i d} : kMv i ρ (some (.sh d)) = some (d, false, ρ) := rfl
@[simp] theorem kMv_ow {i d} : kMv i ρ (some (.ow d)) = some (d, true, ρ.set i .no) := rfl
def kSh : D × Bool × Env → Option (D × Env)
  | (d, true, ρ') => if isC d = true then some (d, ρ') else none
  | (d, false, ρ') => some (d, ρ')
@[simp] theorem at_shW {g : FW} : shW g ρ = (g ρ).bind kSh := by
  unfold shW; rcases g ρ with _ | ⟨_, _ | _, _⟩ <;> rfl
@[simp] theorem kSh_f {d} : kSh (d, false, ρ1) = some (d, ρ1) := rfl
@[simp] theorem kSh_lst {ds} : kSh (.lst ds, true, ρ1) = some (.lst ds, ρ1) := rfl
@[simp] theorem kSh_dic {ks ds} : kSh (.dic ks ds, true, ρ1) = some (.dic ks ds, ρ1) := rfl
def kWith (ρ : Env) : D → D × Env := fun d => (d, ρ)
@[simp] theorem kWith_at {d} : kWith ρ d = (d, ρ) := rfl
def kO3 (f : D → D → Option D) (dx : D) (ρ : Env) : D → Option (D × Env) := fun dy => (f dx dy).map (kWith ρ)
@[simp] theorem kO3_at {f : D → D → Option D} {dx dy} : kO3 f dx ρ dy = (f dx dy).map (kWith ρ) := rfl
def kO2 (f : D → D → Option D) (y : Opd) (ρ : Env) : D → Option (D × Env) := fun dx => (res ρ y).bind (kO3 f dx ρ)
@[simp] theorem kO2_at {f : D → D → Option D} {y dx} : kO2 f y ρ dx = (res ρ y).bind (kO3 f dx ρ) := rfl
def kO1 (f : D → D → Option D) (x : Opd) : Opd × Env → Option (D × Env) := fun p => (res p.2 x).bind (kO2 f p.1 p.2)
@[simp] theorem kO1_at {f : D → D → Option D} {x y} : kO1 f x (y, ρ1) = (res ρ1 x).bind (kO2 f y ρ1) := rfl
def kO0 (f : D → D → Option D) (ob : FO) : Opd × Env → Option (D × Env) := fun p => (ob p.2).bind (kO1 f p.1)
@[simp] theorem kO0_at {f : D → D → Option D} {ob : FO} {x} : kO0 f ob (x, ρ1) = (ob ρ1).bind (kO1 f x) := rfl
@[simp] theorem at_op2 {f : D → D → Option D} {oa ob : FO} : gOp2 f oa ob ρ = (oa ρ).bind (kO0 f ob) := by
  unfold gOp2
  rcases oa ρ with _ | ⟨x, ρ1⟩
  · rfl
  · simp only [Option.bind_some, kO0_at]
    rcases ob ρ1 with _ | ⟨y, ρ2⟩
    · rfl
    · simp only [Option.bind_some, kO1_at]
      rcases res ρ2 x with _ | dx
      · rfl
      · simp only [Option.bind_some, kO2_at]
        rcases res ρ2 y with _ | dy
        · rfl
        · simp only [Option.bind_some, kO3_at]
          rcases f dx dy with _ | d <;> rfl
def k13 (f : D → Option D) (ρ : Env) : D → Option (D × Env) := fun dx => (f dx).map (kWith ρ)
@[simp] theorem k13_at {f : D → Option D} {dx} : k13 f ρ dx = (f dx).map (kWith ρ) := rfl
def k12 (f : D → Option D) : Opd × Env → Option (D × Env) := fun p => (res p.2 p.1).bind (k13 f p.2)
@[simp] theorem k12_at {f : D → Option D} {x} : k12 f (x, ρ1) = (res ρ1 x).bind (k13 f ρ1) := rfl
@[simp] theorem at_op1 {f : D → Option D} {oa : FO} : gOp1 f oa ρ = (oa ρ).bind (k12 f) := by
  unfold gOp1
  rcases oa ρ with _ | ⟨x, ρ1⟩
  · rfl
  · simp only [Option.bind_some, k12_at]
    rcases res ρ1 x with _ | dx
    · rfl
    · simp only [Option.bind_some, k13_at]
      rcases f dx with _ | d <;> rfl
def kOwn : D × Env → D × Bool × Env := fun p => (p.1, true, p.2)
@[simp] theorem kOwn_at {d} : kOwn (d, ρ1) = (d, true, ρ1) := rfl
@[simp] theorem at_op1W {f : D → Option D} {oa : FO} : gOp1W f oa ρ = (gOp1 f oa ρ).map kOwn := rfl
def kT : D × Env → Option (Bool × Env)
  | (.bl b, ρ') => some (b, ρ')
  | _ => none
@[simp] theorem at_T {g : FD} : gT g ρ = (g ρ).bind kT := by
  unfold gT
  rcases g ρ with _ | ⟨d, _⟩
  · rfl
  · cases d <;> rfl
@[simp] theorem kT_at {b} : kT (.bl b, ρ1) = some (b, ρ1) := rfl
def kAnd (b : FT) : Bool × Env → Option (Bool × Env)
  | (true, ρ1) => b ρ1
  | (false, ρ1) => some (false, ρ1)
@[simp] theorem at_and {a b : FT} : gAnd a b ρ = (a ρ).bind (kAnd b) := by
  unfold gAnd; rcases a ρ with _ | ⟨_ | _, _⟩ <;> rfl
@[simp] theorem kAnd_t {b : FT} : kAnd b (true, ρ1) = b ρ1 := rfl
@[simp] theorem kAnd_f {b : FT} : kAnd b (false, ρ1) = some (false, ρ1) := rfl
def kOr (b : FT) : Bool × Env → Option (Bool × Env)
  | (true, ρ1) => some (true, ρ1)
  | (false, ρ1) => b ρ1
@[simp] theorem at_or {a b : FT} : gOr a b ρ = (a ρ).bind (kOr b) := by
  unfold gOr; rcases a ρ with _ | ⟨_ | _, _⟩ <;> rfl
@[simp] theorem kOr_t {b : FT} : kOr b (true, ρ1) = some (true, ρ1) := rfl
@[simp] theorem kOr_f {b : FT} : kOr b (false, ρ1) = b ρ1 := rfl
def kNot : Bool × Env → Bool × Env := fun p => (!p.1, p.2)
@[simp] theorem kNot_at {c} : kNot (c, ρ1) = (!c, ρ1) := rfl
@[simp] theorem at_not {a : FT} : gNot a ρ = (a ρ).map kNot := by
  unfold gNot; rcases a ρ with _ | ⟨_, _⟩ <;> rfl
def kAndV (b : FD) : D × Env → Option (D × Env)
  | (.bl true, ρ1) => b ρ1
  | (.bl false, ρ1) => some (.bl false, ρ1)
  | _ => none
@[simp] theorem at_AndV {a b : FD} : gAndV a b ρ = (a ρ).bind (kAndV b) := by
  unfold gAndV
  rcases a ρ with _ | ⟨d, _⟩
  · rfl
  · cases d with
    | bl b => cases b <;> rfl
    | _ => rfl
@[simp] theorem kAndV_t {b : FD} : kAndV b (.bl true, ρ1) = b ρ1 := rfl
@[simp] theorem kAndV_f {b : FD} : kAndV b (.bl false, ρ1) = some (.bl false, ρ1) := rfl
def kOrV (b : FD) : D × Env → Option (D × Env)
  | (.bl true, ρ1) => some (.bl true, ρ1)
  | (.bl false, ρ1) => b ρ1
  | _ => none
@[simp] theorem at_OrV {a b : FD} : gOrV a b ρ = (a ρ).bind (kOrV b) := by
  unfold gOrV
  rcases a ρ with _ | ⟨d, _⟩
  · rfl
  · cases d with
    | bl b => cases b <;> rfl
    | _ => rfl
@[simp] theorem kOrV_t {b : FD} : kOrV b (.bl true, ρ1) = some (.bl true, ρ1) := rfl
@[simp] theorem kOrV_f {b : FD} : kOrV b (.bl false, ρ1) = b ρ1 := rfl
def kNotV : D × Env → Option (D × Env)
  | (.bl b, ρ1) => some (.bl (!b), ρ1)
  | _ => none
@[simp] theorem at_notV {a : FD} : gNotV a ρ = (a ρ).bind kNotV := by
  unfold gNotV
  rcases a ρ with _ | ⟨d, _⟩
  · rfl
  · cases d <;> rfl
@[simp] theorem kNotV_at {b} : kNotV (.bl b, ρ1) = some (.bl (!b), ρ1) := rfl
def kNeg : D × Env → Option (D × Env)
  | (.int i, ρ1) => some (.int (-i), ρ1)
  | _ => none
@[simp] theorem at_neg {a : FD} : gNeg a ρ = (a ρ).bind kNeg := by
  unfold gNeg
  rcases a ρ with _ | ⟨d, _⟩
  · rfl
  · cases d <;> rfl
@[simp] theorem kNeg_at {i} : kNeg (.int i, ρ1) = some (.int (-i), ρ1) := rfl
def kC2 (d : D) : List D × Env → List D × Env := fun p => (d :: p.1, p.2)
@[simp] theorem kC2_at {d ds} : kC2 d (ds, ρ1) = (d :: ds, ρ1) := rfl
def kC1 (gr : FL) : D × Env → Option (List D × Env) := fun p => (gr p.2).map (kC2 p.1)
@[simp] theorem kC1_at {gr : FL} {d} : kC1 gr (d, ρ1) = (gr ρ1).map (kC2 d) := rfl
@[simp] theorem at_cons {ga : FD} {gr : FL} : gCons ga gr ρ = (ga ρ).bind (kC1 gr) := by
  unfold gCons
  rcases ga ρ with _ | ⟨d, ρ1⟩
  · rfl
  · simp only [Option.bind_some, kC1_at]
    rcases gr ρ1 with _ | ⟨_, _⟩ <;> rfl
def kTup : List D × Env → Option (D × Env) := fun p => if p.1.length ≤ SZ then some (.tup p.1, p.2) else none
@[simp] theorem kTup_at {ds} : kTup (ds, ρ1) = if ds.length ≤ SZ then some (.tup ds, ρ1) else none := rfl
@[simp] theorem at_tup {g : FL} : gTup g ρ = (g ρ).bind kTup := by
  unfold gTup; rcases g ρ with _ | ⟨_, _⟩ <;> rfl
def kLst : List D × Env → Option (D × Bool × Env) := fun p => if p.1.length ≤ SZ then some (.lst p.1, true, p.2) else none
@[simp] theorem kLst_at {ds} : kLst (ds, ρ1) = if ds.length ≤ SZ then some (.lst ds, true, ρ1) else none := rfl
@[simp] theorem at_lst {g : FL} : gLst g ρ = (g ρ).bind kLst := by
  unfold gLst; rcases g ρ with _ | ⟨_, _⟩ <;> rfl
def kV2 (d : D) : List Ar × Env → List Ar × Env := fun p => (.va d :: p.1, p.2)
@[simp] theorem kV2_at {d ds} : kV2 d (ds, ρ1) = (.va d :: ds, ρ1) := rfl
def kV1 (gr : FAr) : D × Env → Option (List Ar × Env) := fun p => (gr p.2).map (kV2 p.1)
@[simp] theorem kV1_at {gr : FAr} {d} : kV1 gr (d, ρ1) = (gr ρ1).map (kV2 d) := rfl
@[simp] theorem at_va {ga : FD} {gr : FAr} : gVa ga gr ρ = (ga ρ).bind (kV1 gr) := by
  unfold gVa
  rcases ga ρ with _ | ⟨d, ρ1⟩
  · rfl
  · simp only [Option.bind_some, kV1_at]
    rcases gr ρ1 with _ | ⟨_, _⟩ <;> rfl
def kBo2 (i : Nat) : List Ar × Env → List Ar × Env := fun p => (.bo i :: p.1, p.2)
@[simp] theorem kBo2_at {i ds} : kBo2 i (ds, ρ1) = (.bo i :: ds, ρ1) := rfl
def kBo1 (i : Nat) (gr : FAr) (ρ : Env) : D → Option (List Ar × Env) := fun _ => (gr ρ).map (kBo2 i)
@[simp] theorem kBo1_at {i} {gr : FAr} {d} : kBo1 i gr ρ d = (gr ρ).map (kBo2 i) := rfl
@[simp] theorem at_bo {i} {gr : FAr} : gBo i gr ρ = (look ρ i).bind (kBo1 i gr ρ) := by
  unfold gBo
  rcases look ρ i with _ | d
  · rfl
  · simp only [Option.bind_some, kBo1_at]
    rcases gr ρ with _ | ⟨_, _⟩ <;> rfl
def kLd (x : Bool) (d : D) : List Bool × List D × Env → List Bool × List D × Env := fun p => (x :: p.1, d :: p.2.1, p.2.2)
@[simp] theorem kLd_at {x d b ds} : kLd x d (b, ds, ρ1) = (x :: b, d :: ds, ρ1) := rfl
@[simp] theorem lend_nil : lend [] ρ = some ([], [], ρ) := rfl
@[simp] theorem lend_va {d r} : lend (.va d :: r) ρ = (lend r ρ).map (kLd false d) := by
  rw [lend]; rcases lend r ρ with _ | ⟨_, _, _⟩ <;> rfl
def kLb (i : Nat) (r : List Ar) (ρ : Env) : Option Sl → Option (List Bool × List D × Env)
  | some (.ow d) => (lend r (ρ.set i .no)).map (kLd true d)
  | some (.bo _ d) => (lend r (ρ.set i .no)).map (kLd true d)
  | some (.sh _) => none
  | some .no => none
  | none => none
@[simp] theorem lend_bo {i r} : lend (.bo i :: r) ρ = kLb i r ρ ρ[i]? := by
  rw [lend]
  rcases ρ[i]? with _ | _ | _ | d | ⟨k, d⟩
  · rfl
  · rfl
  · rfl
  · show _ = (lend r (ρ.set i .no)).map (kLd true d)
    dsimp only
    rcases lend r (ρ.set i .no) with _ | ⟨_, _, _⟩ <;> rfl
  · show _ = (lend r (ρ.set i .no)).map (kLd true d)
    dsimp only
    rcases lend r (ρ.set i .no) with _ | ⟨_, _, _⟩ <;> rfl
@[simp] theorem kLb_ow {i r d} : kLb i r ρ (some (.ow d)) = (lend r (ρ.set i .no)).map (kLd true d) := rfl
@[simp] theorem kLb_bo {i r k d} : kLb i r ρ (some (.bo k d)) = (lend r (ρ.set i .no)).map (kLd true d) := rfl
@[simp] theorem give_nil {ds} : give ρ [] ds ρ1 = some ρ1 := by unfold give; rfl
@[simp] theorem give_va {d r ds} : give ρ (.va d :: r) ds ρ1 = give ρ r ds ρ1 := by rw [give]
def kGv (ρ : Env) (i : Nat) (r : List Ar) (d : D) (ds : List D) (ρ1 : Env) : Sl → Option Env := fun x => give ρ r ds (ρ1.set i (reSl x d))
@[simp] theorem kGv_at {i r d ds x} : kGv ρ i r d ds ρ1 x = give ρ r ds (ρ1.set i (reSl x d)) := rfl
@[simp] theorem give_bo {i d r ds} : give ρ (.bo i :: r) (d :: ds) ρ1 = ρ[i]?.bind (kGv ρ i r d ds ρ1) := by
  rw [give]; rcases ρ[i]? with _ | _ <;> rfl
@[simp] theorem reSl_bo {k d e} : reSl (.bo k d) e = .bo k e := rfl
@[simp] theorem reSl_ow {d e} : reSl (.ow d) e = .ow e := rfl
def kCl4 (d : D) (w : Bool) : Env → D × Bool × Env := fun ρ => (d, w, ρ)
@[simp] theorem kCl4_at {d w} : kCl4 d w ρ = (d, w, ρ) := rfl
def kCl3 (ars : List Ar) (ρ1 ρ2 : Env) : D × Bool × List D → Option (D × Bool × Env) := fun p => (give ρ1 ars p.2.2 ρ2).map (kCl4 p.1 p.2.1)
@[simp] theorem kCl3_at {ars d w ds} {ρ2 : Env} : kCl3 ars ρ1 ρ2 (d, w, ds) = (give ρ1 ars ds ρ2).map (kCl4 d w) := rfl
def kCl2 (bo : List Bool) (G : FnD) (dd : List D) (ars : List Ar) (ρ1 : Env) : List Bool × List D × Env → Option (D × Bool × Env) := fun p => if p.1 ++ dd.map (fun _ => false) = bo then (G (p.2.1 ++ dd)).bind (kCl3 ars ρ1 p.2.2) else none
@[simp] theorem kCl2_at {bo} {G : FnD} {dd ars b ds} {ρ2 : Env} : kCl2 bo G dd ars ρ1 (b, ds, ρ2) = if b ++ dd.map (fun _ => false) = bo then (G (ds ++ dd)).bind (kCl3 ars ρ1 ρ2) else none := rfl
def kCl1 (bo : List Bool) (G : FnD) (dd : List D) : List Ar × Env → Option (D × Bool × Env) := fun p => (lend p.1 p.2).bind (kCl2 bo G dd p.1 p.2)
@[simp] theorem kCl1_at {bo} {G : FnD} {dd ars} : kCl1 bo G dd (ars, ρ1) = (lend ars ρ1).bind (kCl2 bo G dd ars ρ1) := rfl
@[simp] theorem at_call {bo} {G : FnD} {dd} {ga : FAr} : gCallD bo G dd ga ρ = (ga ρ).bind (kCl1 bo G dd) := by
  unfold gCallD
  rcases ga ρ with _ | ⟨ars, ρ1⟩
  · rfl
  · simp only [Option.bind_some, kCl1_at]
    rcases lend ars ρ1 with _ | ⟨b, ds, ρ2⟩
    · rfl
    · simp only [Option.bind_some, kCl2_at]
      split
      · rcases G (ds ++ dd) with _ | ⟨d, w, ds'⟩
        · rfl
        · simp only [Option.bind_some, kCl3_at]
          rcases give ρ1 ars ds' ρ2 with _ | _ <;> rfl
      · rfl
def kP3 (i : Nat) (d : D) (k : D) (ρ : Env) : Option Sl → Option (Fl × Env)
  | some (.ow c) => (putD c k d).map fun c' => (.nx, ρ.set i (.ow c'))
  | some (.bo n c) => (putD c k d).map fun c' => (.nx, ρ.set i (.bo n c'))
  | some (.sh _) => none
  | some .no => none
  | none => none
@[simp] theorem kP3_ow {i d k c} : kP3 i d k ρ (some (.ow c)) = (putD c k d).map fun c' => (.nx, ρ.set i (.ow c')) := rfl
@[simp] theorem kP3_bo {i d k n c} : kP3 i d k ρ (some (.bo n c)) = (putD c k d).map fun c' => (.nx, ρ.set i (.bo n c')) := rfl
def kP2 (i : Nat) (d : D) : D × Env → Option (Fl × Env) := fun p => kP3 i d p.1 p.2 p.2[i]?
@[simp] theorem kP2_at {i d k} : kP2 i d (k, ρ1) = kP3 i d k ρ1 ρ1[i]? := rfl
def kP1 (d : D) (i : Nat) (gk : FD) (ρ : Env) : D → Option (Fl × Env) := fun _ => (gk ρ).bind (kP2 i d)
@[simp] theorem kP1_at {d i z} {gk : FD} : kP1 d i gk ρ z = (gk ρ).bind (kP2 i d) := rfl
def kP0 (i : Nat) (gk : FD) : D × Env → Option (Fl × Env) := fun p => (look p.2 i).bind (kP1 p.1 i gk p.2)
@[simp] theorem kP0_at {i d} {gk : FD} : kP0 i gk (d, ρ1) = (look ρ1 i).bind (kP1 d i gk ρ1) := rfl
@[simp] theorem at_put {i} {ge gk : FD} : gPut i ge gk ρ = (ge ρ).bind (kP0 i gk) := by
  unfold gPut
  rcases ge ρ with _ | ⟨d, ρ1⟩
  · rfl
  · simp only [Option.bind_some, kP0_at]
    rcases look ρ1 i with _ | z
    · rfl
    · simp only [Option.bind_some, kP1_at]
      rcases gk ρ1 with _ | ⟨k, ρ2⟩
      · rfl
      · simp only [Option.bind_some, kP2_at]
        rcases ρ2[i]? with _ | _ | _ | c | ⟨n, c⟩
        · rfl
        · rfl
        · rfl
        · simp only [kP3_ow]; rcases putD c k d with _ | _ <;> rfl
        · simp only [kP3_bo]; rcases putD c k d with _ | _ <;> rfl
def kS3 (f : D → Option Int → Option Int → Option D) (x : Opd) (lo : Option Int) : Option Int × Env → Option (D × Env) := fun p => (res p.2 x).bind fun dx => (f dx lo p.1).map (kWith p.2)
@[simp] theorem kS3_at {f : D → Option Int → Option Int → Option D} {x lo hi} : kS3 f x lo (hi, ρ1) = (res ρ1 x).bind fun dx => (f dx lo hi).map (kWith ρ1) := rfl
def kS2 (f : D → Option Int → Option Int → Option D) (gh : FP) (x : Opd) : Option Int × Env → Option (D × Env) := fun p => (gh p.2).bind (kS3 f x p.1)
@[simp] theorem kS2_at {f : D → Option Int → Option Int → Option D} {gh : FP} {x lo} : kS2 f gh x (lo, ρ1) = (gh ρ1).bind (kS3 f x lo) := rfl
def kS1 (f : D → Option Int → Option Int → Option D) (gl gh : FP) : Opd × Env → Option (D × Env) := fun p => (gl p.2).bind (kS2 f gh p.1)
@[simp] theorem kS1_at {f : D → Option Int → Option Int → Option D} {gl gh : FP} {x} : kS1 f gl gh (x, ρ1) = (gl ρ1).bind (kS2 f gh x) := rfl
@[simp] theorem at_sl {f : D → Option Int → Option Int → Option D} {oa : FO} {gl gh : FP} : gSl f oa gl gh ρ = (oa ρ).bind (kS1 f gl gh) := by
  unfold gSl
  rcases oa ρ with _ | ⟨x, ρ1⟩
  · rfl
  · simp only [Option.bind_some, kS1_at]
    rcases gl ρ1 with _ | ⟨lo, ρ2⟩
    · rfl
    · simp only [Option.bind_some, kS2_at]
      rcases gh ρ2 with _ | ⟨hi, ρ3⟩
      · rfl
      · simp only [Option.bind_some, kS3_at]
        rcases res ρ3 x with _ | dx
        · rfl
        · simp only [Option.bind_some]
          rcases f dx lo hi with _ | _ <;> rfl
def kPa : D × Env → Option (Option Int × Env)
  | (.int i, ρ) => some (some i, ρ)
  | _ => none
@[simp] theorem kPa_at {i} : kPa (.int i, ρ1) = some (some i, ρ1) := rfl
@[simp] theorem at_part {g : FD} : gPart g ρ = (g ρ).bind kPa := by
  unfold gPart
  rcases g ρ with _ | ⟨d, _⟩
  · rfl
  · cases d <;> rfl
def kSq : D × Env → Option (List D × Env)
  | (.lst xs, ρ1) => some (xs, ρ1)
  | (.tup xs, ρ1) => some (xs, ρ1)
  | _ => none
@[simp] theorem kSq_lst {xs} : kSq (.lst xs, ρ1) = some (xs, ρ1) := rfl
@[simp] theorem kSq_tup {xs} : kSq (.tup xs, ρ1) = some (xs, ρ1) := rfl
@[simp] theorem at_sq {g : FD} : gSq g ρ = (g ρ).bind kSq := by
  unfold gSq
  rcases g ρ with _ | ⟨d, _⟩
  · rfl
  · cases d <;> rfl
def kR1 : List D × Env → Option (List D × Env)
  | ([.int j], ρ1) => if j ≤ 100000 ∧ -100000 ≤ j then some (rngD 0 j.toNat, ρ1) else none
  | _ => none
@[simp] theorem kR1_at {j} : kR1 ([.int j], ρ1) = if j ≤ 100000 ∧ -100000 ≤ j then some (rngD 0 j.toNat, ρ1) else none := rfl
@[simp] theorem at_rng1 {g : FL} : gRng1 g ρ = (g ρ).bind kR1 := by
  unfold gRng1 kR1
  rcases g ρ with _ | ⟨ds, ρ1⟩
  · rfl
  · simp only [Option.bind_some]
    split <;> rename_i h <;> simp_all
def kR2 : List D × Env → Option (List D × Env)
  | ([.int i, .int j], ρ1) => if (i ≤ 100000 ∧ -100000 ≤ i) ∧ j ≤ 100000 ∧ -100000 ≤ j then some (rngD i (j - i).toNat, ρ1) else none
  | _ => none
@[simp] theorem kR2_at {i j} : kR2 ([.int i, .int j], ρ1) = if (i ≤ 100000 ∧ -100000 ≤ i) ∧ j ≤ 100000 ∧ -100000 ≤ j then some (rngD i (j - i).toNat, ρ1) else none := rfl
@[simp] theorem at_rng2 {g : FL} : gRng2 g ρ = (g ρ).bind kR2 := by
  unfold gRng2 kR2
  rcases g ρ with _ | ⟨ds, ρ1⟩
  · rfl
  · simp only [Option.bind_some]
    split <;> rename_i h <;> simp_all
def kZ : List D × Env → Option (List D × Env)
  | ([.lst xs, .lst ys], ρ1) => some (zipD xs ys, ρ1)
  | ([.tup xs, .tup ys], ρ1) => some (zipD xs ys, ρ1)
  | _ => none
@[simp] theorem kZ_lst {xs ys} : kZ ([.lst xs, .lst ys], ρ1) = some (zipD xs ys, ρ1) := rfl
@[simp] theorem kZ_tup {xs ys} : kZ ([.tup xs, .tup ys], ρ1) = some (zipD xs ys, ρ1) := rfl
@[simp] theorem at_zip {g : FL} : gZip g ρ = (g ρ).bind kZ := by
  unfold gZip kZ
  rcases g ρ with _ | ⟨ds, ρ1⟩
  · rfl
  · simp only [Option.bind_some]
    split <;> simp_all
@[simp] theorem at_hNm {i d} : hNm i d ρ = bind1 i d false ρ := rfl
@[simp] theorem at_hNil : hNil [] ρ = some ρ := rfl
@[simp] theorem at_hCons {h : FG} {hs : FGs} {d r} : hCons h hs (d :: r) ρ = (h d ρ).bind (hs r) := by
  show (match h d ρ with | some ρ1 => hs r ρ1 | none => none) = _
  rcases h d ρ with _ | _ <;> rfl
@[simp] theorem at_hTup {n} {h : FGs} {ds} : hTup n h (.tup ds) ρ = if ds.length = n then h ds ρ else none := rfl
def kFo2 (h : FG) (body : FS) (ds : List D) : Fl × Env → Option (Fl × Env)
  | (.nx, ρ2) => forD h body ds ρ2
  | (.ct, ρ2) => forD h body ds ρ2
  | (.br, ρ2) => some (.nx, ρ2)
  | (.rt d w, ρ2) => some (.rt d w, ρ2)
@[simp] theorem kFo2_nx {h : FG} {body : FS} {ds} : kFo2 h body ds (.nx, ρ1) = forD h body ds ρ1 := rfl
@[simp] theorem kFo2_ct {h : FG} {body : FS} {ds} : kFo2 h body ds (.ct, ρ1) = forD h body ds ρ1 := rfl
@[simp] theorem kFo2_br {h : FG} {body : FS} {ds} : kFo2 h body ds (.br, ρ1) = some (.nx, ρ1) := rfl
@[simp] theorem kFo2_rt {h : FG} {body : FS} {ds d w} : kFo2 h body ds (.rt d w, ρ1) = some (.rt d w, ρ1) := rfl
def kFo1 (h : FG) (body : FS) (ds : List D) : Env → Option (Fl × Env) := fun ρ => (body ρ).bind (kFo2 h body ds)
@[simp] theorem kFo1_at {h : FG} {body : FS} {ds} : kFo1 h body ds ρ = (body ρ).bind (kFo2 h body ds) := rfl
@[simp] theorem forD_nil {h : FG} {body : FS} : forD h body [] ρ = some (.nx, ρ) := rfl
theorem forD_cons {h : FG} {body : FS} {d ds} : forD h body (d :: ds) ρ = (h d ρ).bind (kFo1 h body ds) := by
  rw [forD]
  rcases h d ρ with _ | ρ1
  · rfl
  · simp only [Option.bind_some, kFo1_at]
    rcases body ρ1 with _ | ⟨_ | _ | _ | _, _⟩ <;> rfl
def kFor (h : FG) (body : FS) : List D × Env → Option (Fl × Env) := fun p => forD h body p.1 p.2
@[simp] theorem kFor_at {h : FG} {body : FS} {ds} : kFor h body (ds, ρ1) = forD h body ds ρ1 := rfl
@[simp] theorem at_for {gi : FL} {h : FG} {body : FS} : gFor gi h body ρ = (gi ρ).bind (kFor h body) := by
  unfold gFor; rcases gi ρ with _ | ⟨_, _⟩ <;> rfl
def kY (y : D) : List D × Env → List D × Env := fun p => (y :: p.1, p.2)
@[simp] theorem kY_at {y ys} : kY y (ys, ρ1) = (y :: ys, ρ1) := rfl
def kCo3 (vs : List Nat) (h : FG) (tt : FT) (te : FD) (ds : List D) : D × Env → Option (List D × Env) := fun p => (compD vs h tt te ds (wipeE p.2 vs)).map (kY p.1)
@[simp] theorem kCo3_at {vs} {h : FG} {tt : FT} {te : FD} {ds y} : kCo3 vs h tt te ds (y, ρ1) = (compD vs h tt te ds (wipeE ρ1 vs)).map (kY y) := rfl
def kCo2 (vs : List Nat) (h : FG) (tt : FT) (te : FD) (ds : List D) : Bool × Env → Option (List D × Env)
  | (true, ρ) => (te ρ).bind (kCo3 vs h tt te ds)
  | (false, ρ) => compD vs h tt te ds (wipeE ρ vs)
@[simp] theorem kCo2_t {vs} {h : FG} {tt : FT} {te : FD} {ds} : kCo2 vs h tt te ds (true, ρ1) = (te ρ1).bind (kCo3 vs h tt te ds) := rfl
@[simp] theorem kCo2_f {vs} {h : FG} {tt : FT} {te : FD} {ds} : kCo2 vs h tt te ds (false, ρ1) = compD vs h tt te ds (wipeE ρ1 vs) := rfl
def kCo1 (vs : List Nat) (h : FG) (tt : FT) (te : FD) (ds : List D) : Env → Option (List D × Env) := fun ρ => (tt ρ).bind (kCo2 vs h tt te ds)
@[simp] theorem kCo1_at {vs} {h : FG} {tt : FT} {te : FD} {ds} : kCo1 vs h tt te ds ρ = (tt ρ).bind (kCo2 vs h tt te ds) := rfl
@[simp] theorem compD_nil {vs} {h : FG} {tt : FT} {te : FD} : compD vs h tt te [] ρ = some ([], ρ) := rfl
theorem compD_cons {vs} {h : FG} {tt : FT} {te : FD} {d ds} : compD vs h tt te (d :: ds) ρ = (h d ρ).bind (kCo1 vs h tt te ds) := by
  rw [compD]
  rcases h d ρ with _ | ρ1
  · rfl
  · simp only [Option.bind_some, kCo1_at]
    rcases tt ρ1 with _ | ⟨_ | _, ρ2⟩
    · rfl
    · rfl
    · simp only [Option.bind_some, kCo2_t]
      rcases te ρ2 with _ | ⟨y, ρ3⟩
      · rfl
      · simp only [Option.bind_some, kCo3_at]
        rcases compD vs h tt te ds (wipeE ρ3 vs) with _ | ⟨_, _⟩ <;> rfl
def kCm2 (vs : List Nat) (ρ0 : Env) : List D × Env → Option (D × Bool × Env) := fun p => if p.1.length ≤ SZ then some (.lst p.1, true, backE ρ0 p.2 vs) else none
@[simp] theorem kCm2_at {vs ys} : kCm2 vs ρ (ys, ρ1) = if ys.length ≤ SZ then some (.lst ys, true, backE ρ ρ1 vs) else none := rfl
def kCm1 (vs : List Nat) (h : FG) (tt : FT) (te : FD) : List D × Env → Option (D × Bool × Env) := fun p => if okOwn p.2 vs = true then (compD vs h tt te p.1 (wipeE p.2 vs)).bind (kCm2 vs p.2) else none
@[simp] theorem kCm1_at {vs} {h : FG} {tt : FT} {te : FD} {items} : kCm1 vs h tt te (items, ρ1) = if okOwn ρ1 vs = true then (compD vs h tt te items (wipeE ρ1 vs)).bind (kCm2 vs ρ1) else none := rfl
@[simp] theorem at_comp {vs} {gi : FL} {h : FG} {tt : FT} {te : FD} : gComp vs gi h tt te ρ = (gi ρ).bind (kCm1 vs h tt te) := by
  unfold gComp
  rcases gi ρ with _ | ⟨items, ρ1⟩
  · rfl
  · simp only [Option.bind_some, kCm1_at]
    split
    · rcases compD vs h tt te items (wipeE ρ1 vs) with _ | ⟨ys, ρ2⟩ <;> rfl
    · rfl
@[simp] theorem at_yes : tYesD ρ = some (true, ρ) := rfl
@[simp] theorem wipe_nil : wipeE ρ [] = ρ := rfl
@[simp] theorem wipe_cons {v vs} : wipeE ρ (v :: vs) = (wipeE ρ vs).set v .no := rfl
@[simp] theorem back_nil : backE ρ ρ1 [] = ρ1 := rfl
@[simp] theorem back_cons {v vs} : backE ρ ρ1 (v :: vs) = (backE ρ ρ1 vs).set v (ρ.getD v .no) := rfl
def kOO : Option Sl → Bool
  | some .no => true
  | some (.sh _) => true
  | some (.ow _) => false
  | some (.bo _ _) => false
  | none => false
@[simp] theorem kOO_no : kOO (some .no) = true := rfl
@[simp] theorem kOO_sh {d} : kOO (some (.sh d)) = true := rfl
@[simp] theorem okOwn_nil : okOwn ρ [] = true := rfl
@[simp] theorem okOwn_cons {v vs} : okOwn ρ (v :: vs) = (kOO ρ[v]? && okOwn ρ vs) := by
  rw [okOwn]; rcases ρ[v]? with _ | _ | _ | _ | _ <;> rfl
def kAs (h : FG) : D × Env → Option (Fl × Env) := fun p => (h p.1 p.2).map kNx
@[simp] theorem kAs_at {h : FG} {d} : kAs h (d, ρ1) = (h d ρ1).map kNx := rfl
@[simp] theorem at_asg {g : FD} {h : FG} : gAsg g h ρ = (g ρ).bind (kAs h) := by
  unfold gAsg
  rcases g ρ with _ | ⟨d, ρ1⟩
  · rfl
  · simp only [Option.bind_some, kAs_at]
    rcases h d ρ1 with _ | _ <;> rfl
def kPr2 (j : Nat) (d : D) (w : Bool) : Env → Option (Fl × Env) := fun ρ => (bind1 j d w ρ).map kNx
@[simp] theorem kPr2_at {j d w} : kPr2 j d w ρ = (bind1 j d w ρ).map kNx := rfl
def kPr1 (i j : Nat) (d : D) (w : Bool) : D × Bool × Env → Option (Fl × Env) := fun p => (bind1 i d w p.2.2).bind (kPr2 j p.1 p.2.1)
@[simp] theorem kPr1_at {i j d w e x} : kPr1 i j d w (e, x, ρ1) = (bind1 i d w ρ1).bind (kPr2 j e x) := rfl
def kPr0 (i j : Nat) (gb : FW) : D × Bool × Env → Option (Fl × Env) := fun p => (gb p.2.2).bind (kPr1 i j p.1 p.2.1)
@[simp] theorem kPr0_at {i j d w} {gb : FW} : kPr0 i j gb (d, w, ρ1) = (gb ρ1).bind (kPr1 i j d w) := rfl
@[simp] theorem at_par {i j} {ga gb : FW} : gPar i j ga gb ρ = (ga ρ).bind (kPr0 i j gb) := by
  unfold gPar
  rcases ga ρ with _ | ⟨d, w, ρ1⟩
  · rfl
  · simp only [Option.bind_some, kPr0_at]
    rcases gb ρ1 with _ | ⟨d', w', ρ2⟩
    · rfl
    · simp only [Option.bind_some, kPr1_at]
      rcases bind1 i d w ρ2 with _ | ρ3
      · rfl
      · simp only [Option.bind_some, kPr2_at]
        rcases bind1 j d' w' ρ3 with _ | _ <;> rfl
def kAu2 (i : Nat) (d : Option D) (ρ : Env) : Option (Fl × Env) := d.bind fun d => (bind1 i d false ρ).map kNx
@[simp] theorem kAu2_at {i d} : kAu2 i (some d) ρ = (bind1 i d false ρ).map kNx := rfl
def kAu1 (i : Nat) (f : D → D → Option D) (d0 : D) : D × Env → Option (Fl × Env) := fun p => kAu2 i (f d0 p.1) p.2
@[simp] theorem kAu1_at {i} {f : D → D → Option D} {d0 d} : kAu1 i f d0 (d, ρ1) = kAu2 i (f d0 d) ρ1 := rfl
def kAu0 (i : Nat) (f : D → D → Option D) (g : FD) (ρ : Env) : Option Sl → Option (Fl × Env)
  | some (.sh d0) => (g ρ).bind (kAu1 i f d0)
  | _ => none
@[simp] theorem kAu0_sh {i} {f : D → D → Option D} {g : FD} {d0} : kAu0 i f g ρ (some (.sh d0)) = (g ρ).bind (kAu1 i f d0) := rfl
@[simp] theorem at_aug {i} {f : D → D → Option D} {g : FD} : gAug i f g ρ = kAu0 i f g ρ ρ[i]? := by
  unfold gAug
  rcases ρ[i]? with _ | _ | d0 | _ | _
  · rfl
  · rfl
  · simp only [kAu0_sh]
    rcases g ρ with _ | ⟨d1, ρ1⟩
    · rfl
    · simp only [Option.bind_some, kAu1_at]
      rcases f d0 d1 with _ | d
      · rfl
      · simp only [kAu2_at]
        rcases bind1 i d false ρ1 with _ | _ <;> rfl
  · rfl
  · rfl
def kRn (bo : List Bool) : Fl × Env → Option (D × Bool × List D)
  | (.rt d w, ρ) => (finB bo 0 ρ).map fun ds => (d, w, ds)
  | (.nx, ρ) => (finB bo 0 ρ).map fun ds => (.non, false, ds)
  | (.br, _) => none
  | (.ct, _) => none
@[simp] theorem kRn_rt {bo d w} : kRn bo (.rt d w, ρ1) = (finB bo 0 ρ1).map fun ds => (d, w, ds) := rfl
@[simp] theorem kRn_nx {bo} : kRn bo (.nx, ρ1) = (finB bo 0 ρ1).map fun ds => (.non, false, ds) := rfl
theorem at_run {bo n} {g : FS} {ds} : runG bo n g ds = (g (env0 bo ds 0 ++ List.replicate (n - ds.length) .no)).bind (kRn bo) := by
  unfold runG
  rcases g _ with _ | ⟨_ | _ | _ | _, ρ⟩
  · rfl
  · simp only [Option.bind_some, kRn_nx]; rcases finB bo 0 ρ with _ | _ <;> rfl
  · rfl
  · rfl
  · simp only [Option.bind_some, kRn_rt]; rcases finB bo 0 ρ with _ | _ <;> rfl
@[simp] theorem finB_nil {k} : finB [] k ρ = some [] := by unfold finB; rfl
@[simp] theorem finB_f {bo k x} : finB (false :: bo) k (x :: ρ) = finB bo k ρ := by rw [finB]
@[simp] theorem finB_t {bo k d} : finB (true :: bo) k (.bo k d :: ρ) = (finB bo (k + 1) ρ).map fun ds => d :: ds := by
  rw [finB]; rcases finB bo (k + 1) ρ with _ | _ <;> simp
@[simp] theorem env0_t {bo d ds k} : env0 (true :: bo) (d :: ds) k = .bo k d :: env0 bo ds (k + 1) := rfl
@[simp] theorem env0_f {bo d ds k} : env0 (false :: bo) (d :: ds) k = .sh d :: env0 bo ds k := rfl
@[simp] theorem env0_nil {ds k} : env0 [] ds k = [] := by unfold env0; rfl
end
@[simp] theorem sz_small {α : Type} {l : List α} (h : l.length ≤ 1000) : l.length ≤ SZ := by unfold SZ; omega
end DV

/-! DV11: what all the laws have in common: draws, same. -/
namespace DV
open L2 PySem PySem.Spec PyProof.Rows
def drawsB : FS := (gRet (gLst (gCons (shW (gOp1W lstD (oNm 0))) (gCons (fun ρ => some (.int 0, ρ)) (gCons (fun ρ => some (.int 0, ρ)) (gCons (fun ρ => some (.int 1, ρ)) (fun ρ => some ([], ρ))))))))
def drawB : FS := (gSeq (gIfS (gAnd (gT (gOp2 eqD (oD (gOp2 ixD (oNm 0) (oD (fun ρ => some (.int 2, ρ))))) (oD (fun ρ => some (.int 0, ρ))))) (gT (gOp2 ltI (oD (gOp2 ixD (oNm 0) (oD (fun ρ => some (.int 1, ρ))))) (oD (gOp1 lenD (oD (gOp2 ixD (oNm 0) (oD (fun ρ => some (.int 0, ρ)))))))))) (gSeq (gSet 2 (wD (gOp2 ixD (oD (gOp2 ixD (oNm 0) (oD (fun ρ => some (.int 0, ρ))))) (oD (gOp2 ixD (oNm 0) (oD (fun ρ => some (.int 1, ρ)))))))) (gSeq (gPut 0 (gOp2 addD (oD (gOp2 ixD (oNm 0) (oD (fun ρ => some (.int 1, ρ))))) (oD (fun ρ => some (.int 1, ρ)))) (fun ρ => some (.int 1, ρ))) (gSeq (gIfS (gT (gOp2 geI (oNm 2) (oD (gOp2 powI (oD (fun ρ => some (.int 10, ρ))) (oD (fun ρ => some (.int 18, ρ))))))) (gPut 0 (gNm 2) (fun ρ => some (.int 2, ρ))) gSkip) (gPut 0 (gOp2 modI (oD (gOp1 intD (oD (gOp2 addD (oD (gOp2 addD (oD (gOp2 mulI (oD (gOp2 ixD (oNm 0) (oD (fun ρ => some (.int 3, ρ))))) (oD (fun ρ => some (.int 48271, ρ))))) (oNm 2))) (oD (fun ρ => some (.int 13, ρ))))))) (oD (fun ρ => some (.int 2147483647, ρ)))) (fun ρ => some (.int 3, ρ)))))) gSkip) (gSeq (gIfS (gT (gOp2 gtI (oD (gOp2 ixD (oNm 0) (oD (fun ρ => some (.int 2, ρ))))) (oD (fun ρ => some (.int 0, ρ))))) (gSeq (gSet 3 (wD (gOp2 modI (oD (gOp1 intD (oD (gOp2 ixD (oNm 0) (oD (fun ρ => some (.int 2, ρ))))))) (oNm 1)))) (gSeq (gPut 0 (gOp2 divI (oD (gOp2 ixD (oNm 0) (oD (fun ρ => some (.int 2, ρ))))) (oNm 1)) (fun ρ => some (.int 2, ρ))) (gRet (gMv 3)))) gSkip) (gSeq (gPut 0 (gOp2 modI (oD (gOp1 intD (oD (gOp2 addD (oD (gOp2 mulI (oD (gOp2 ixD (oNm 0) (oD (fun ρ => some (.int 3, ρ))))) (oD (fun ρ => some (.int 69621, ρ))))) (oD (fun ρ => some (.int 7, ρ))))))) (oD (fun ρ => some (.int 2147483629, ρ)))) (fun ρ => some (.int 3, ρ))) (gRet (wD (gOp2 modI (oD (gOp1 intD (oD (gOp2 divI (oD (gOp2 ixD (oNm 0) (oD (fun ρ => some (.int 3, ρ))))) (oD (fun ρ => some (.int 11, ρ))))))) (oNm 1)))))))
def sameB (h : FnD) : FS := (gSeq (gIfS (gOr (gT (gOp2 isiD (oNm 1) (oD (fun ρ => some (.ty "tuple", ρ))))) (gT (gOp2 isiD (oNm 1) (oD (fun ρ => some (.ty "list", ρ)))))) (gSeq (gIfS (gOr (gT (gOp2 neD (oD (gOp2 isiD (oNm 1) (oD (fun ρ => some (.ty "tuple", ρ))))) (oD (gOp2 isiD (oNm 0) (oD (fun ρ => some (.ty "tuple", ρ))))))) (gT (gOp2 neD (oD (gOp2 isiD (oNm 1) (oD (fun ρ => some (.ty "list", ρ))))) (oD (gOp2 isiD (oNm 0) (oD (fun ρ => some (.ty "list", ρ)))))))) (gRet (wD (fun ρ => some (.bl false, ρ)))) gSkip) (gSeq (gIfS (gT (gOp2 neD (oD (gOp1 lenD (oNm 0))) (oD (gOp1 lenD (oNm 1))))) (gRet (wD (fun ρ => some (.bl false, ρ)))) gSkip) (gRet (wD (gOp2 eqD (oD (gOp1 lenD (oD (shW (gComp [2] (gRng1 (gCons (gOp1 lenD (oNm 1)) (fun ρ => some ([], ρ)))) (hNm 2) (gNot (gT (shW (gCallD [false, false] h [] (gVa (gOp2 ixD (oNm 0) (oNm 2)) (gVa (gOp2 ixD (oNm 1) (oNm 2)) (fun ρ => some ([], ρ)))))))) (gNm 2)))))) (oD (fun ρ => some (.int 0, ρ)))))))) gSkip) (gSeq (gIfS (gT (gOp2 isiD (oNm 1) (oD (fun ρ => some (.ty "str", ρ))))) (gRet (wD (gAndV (gOp2 isiD (oNm 0) (oD (fun ρ => some (.ty "str", ρ)))) (gOp2 eqD (oNm 0) (oNm 1))))) gSkip) (gSeq (gIfS (gT (gOp2 isD (oNm 1) (oD (fun ρ => some (.non, ρ))))) (gRet (wD (gOp2 isD (oNm 0) (oD (fun ρ => some (.non, ρ)))))) gSkip) (gSeq (gIfS (gOr (gT (gOp2 isiD (oNm 1) (oD (fun ρ => some (.ty "bool", ρ))))) (gT (gOp2 isiD (oNm 0) (oD (fun ρ => some (.ty "bool", ρ)))))) (gRet (wD (gAndV (gOp2 isiD (oNm 1) (oD (fun ρ => some (.ty "bool", ρ)))) (gAndV (gOp2 isiD (oNm 0) (oD (fun ρ => some (.ty "bool", ρ)))) (gOp2 eqD (oNm 0) (oNm 1)))))) gSkip) (gRet (wD (gAndV (gOp2 isiD (oNm 0) (oD (fun ρ => some (.ty "int", ρ)))) (gAndV (gOp2 isiD (oNm 1) (oD (fun ρ => some (.ty "int", ρ)))) (gOp2 eqD (oNm 0) (oNm 1))))))))))
/-! ### values -/
theorem atI_nat {α : Type} (xs : List α) (k : Nat) : L2.atI xs (k : Int) = xs[k]? := by
  unfold L2.atI ixN
  simp only [Int.natCast_nonneg, if_true]
  split
  · simp
  · rename_i h
    rw [List.getElem?_eq_none (by omega)]; rfl
@[simp] theorem ix_tup {xs : List D} {k : Nat} : ixD (.tup xs) (.int (k : Int)) = xs[k]? := atI_nat xs k
@[simp] theorem ix_lst {xs : List D} {k : Nat} : ixD (.lst xs) (.int (k : Int)) = xs[k]? := atI_nat xs k
@[simp] theorem ix_tup0 {xs : List D} : ixD (.tup xs) (.int 0) = xs[0]? := atI_nat xs 0
@[simp] theorem ix_lst0 {xs : List D} : ixD (.lst xs) (.int 0) = xs[0]? := atI_nat xs 0
@[simp] theorem ix_tup1 {xs : List D} : ixD (.tup xs) (.int 1) = xs[1]? := atI_nat xs 1
@[simp] theorem ix_lst1 {xs : List D} : ixD (.lst xs) (.int 1) = xs[1]? := atI_nat xs 1
@[simp] theorem ix_tup2 {xs : List D} : ixD (.tup xs) (.int 2) = xs[2]? := atI_nat xs 2
@[simp] theorem ix_lst2 {xs : List D} : ixD (.lst xs) (.int 2) = xs[2]? := atI_nat xs 2
@[simp] theorem ix_tup3 {xs : List D} : ixD (.tup xs) (.int 3) = xs[3]? := atI_nat xs 3
@[simp] theorem ix_lst3 {xs : List D} : ixD (.lst xs) (.int 3) = xs[3]? := atI_nat xs 3
@[simp] theorem ix_tup4 {xs : List D} : ixD (.tup xs) (.int 4) = xs[4]? := atI_nat xs 4
@[simp] theorem ix_lst4 {xs : List D} : ixD (.lst xs) (.int 4) = xs[4]? := atI_nat xs 4
@[simp] theorem ix_tup5 {xs : List D} : ixD (.tup xs) (.int 5) = xs[5]? := atI_nat xs 5
@[simp] theorem ix_lst5 {xs : List D} : ixD (.lst xs) (.int 5) = xs[5]? := atI_nat xs 5
@[simp] theorem ix_tup6 {xs : List D} : ixD (.tup xs) (.int 6) = xs[6]? := atI_nat xs 6
@[simp] theorem ix_lst6 {xs : List D} : ixD (.lst xs) (.int 6) = xs[6]? := atI_nat xs 6
@[simp] theorem ix_tup7 {xs : List D} : ixD (.tup xs) (.int 7) = xs[7]? := atI_nat xs 7
@[simp] theorem ix_lst7 {xs : List D} : ixD (.lst xs) (.int 7) = xs[7]? := atI_nat xs 7
@[simp] theorem ix_tup8 {xs : List D} : ixD (.tup xs) (.int 8) = xs[8]? := atI_nat xs 8
@[simp] theorem ix_lst8 {xs : List D} : ixD (.lst xs) (.int 8) = xs[8]? := atI_nat xs 8
@[simp] theorem len_tup {xs : List D} : lenD (.tup xs) = some (.int xs.length) := rfl
@[simp] theorem len_lst {xs : List D} : lenD (.lst xs) = some (.int xs.length) := rfl
@[simp] theorem len_dic {ks vs : List D} : lenD (.dic ks vs) = some (.int ks.length) := rfl
@[simp] theorem eq_int {i j : Int} : eqD (.int i) (.int j) = some (.bl (decide (i = j))) := by simp [eqD, eqS, Bool.beq_eq_decide_eq]
@[simp] theorem eq_str {i j : Str} : eqD (.str i) (.str j) = some (.bl (decide (i = j))) := by simp [eqD, eqS, Bool.beq_eq_decide_eq]
@[simp] theorem eq_bl {i j : Bool} : eqD (.bl i) (.bl j) = some (.bl (decide (i = j))) := by simp [eqD, eqS, Bool.beq_eq_decide_eq]
@[simp] theorem ne_int {i j : Int} : neD (.int i) (.int j) = some (.bl (!decide (i = j))) := by simp [neD, eqS, Bool.beq_eq_decide_eq]
@[simp] theorem ne_str {i j : Str} : neD (.str i) (.str j) = some (.bl (!decide (i = j))) := by simp [neD, eqS, Bool.beq_eq_decide_eq]
@[simp] theorem ne_bl {i j : Bool} : neD (.bl i) (.bl j) = some (.bl (!decide (i = j))) := by simp [neD, eqS, Bool.beq_eq_decide_eq]
@[simp] theorem lt_int {i j : Int} : ltI (.int i) (.int j) = some (.bl (decide (i < j))) := rfl
@[simp] theorem le_int {i j : Int} : leI (.int i) (.int j) = some (.bl (decide (i ≤ j))) := rfl
@[simp] theorem gt_int {i j : Int} : gtI (.int i) (.int j) = some (.bl (decide (j < i))) := rfl
@[simp] theorem ge_int {i j : Int} : geI (.int i) (.int j) = some (.bl (decide (j ≤ i))) := rfl
@[simp] theorem sub_int {i j : Int} : subI (.int i) (.int j) = some (.int (i - j)) := rfl
@[simp] theorem addI_int {i j : Int} : addI (.int i) (.int j) = some (.int (i + j)) := rfl
@[simp] theorem add_ints {i j : Int} : addD (.int i) (.int j) = some (.int (i + j)) := rfl
@[simp] theorem add_tup {xs ys : List D} : addD (.tup xs) (.tup ys) = if xs.length + ys.length ≤ SZ then some (.tup (xs ++ ys)) else none := rfl
@[simp] theorem add_lst {xs ys : List D} : addD (.lst xs) (.lst ys) = if xs.length + ys.length ≤ SZ then some (.lst (xs ++ ys)) else none := rfl
@[simp] theorem int_int {i : Int} : intD (.int i) = some (.int i) := rfl
@[simp] theorem tup_lst {xs : List D} : tupD (.lst xs) = some (.tup xs) := by rfl
@[simp] theorem isi_non {s} : isiD .non (.ty s) = (tgN s).map fun t => .bl (isTg .non t) := by unfold isiD; simp only [tgD]; cases tgN s <;> rfl
@[simp] theorem isi_bl {b s} : isiD (.bl b) (.ty s) = (tgN s).map fun t => .bl (isTg .bl t) := by unfold isiD; simp only [tgD]; cases tgN s <;> rfl
@[simp] theorem isi_int {b s} : isiD (.int b) (.ty s) = (tgN s).map fun t => .bl (isTg .int t) := by unfold isiD; simp only [tgD]; cases tgN s <;> rfl
@[simp] theorem isi_str {b s} : isiD (.str b) (.ty s) = (tgN s).map fun t => .bl (isTg .str t) := by unfold isiD; simp only [tgD]; cases tgN s <;> rfl
@[simp] theorem isi_tup {b s} : isiD (.tup b) (.ty s) = (tgN s).map fun t => .bl (isTg .tup t) := by unfold isiD; simp only [tgD]; cases tgN s <;> rfl
@[simp] theorem isi_lst {b s} : isiD (.lst b) (.ty s) = (tgN s).map fun t => .bl (isTg .lst t) := by unfold isiD; simp only [tgD]; cases tgN s <;> rfl
@[simp] theorem isi_dic {b c s} : isiD (.dic b c) (.ty s) = (tgN s).map fun t => .bl (isTg .dic t) := by unfold isiD; simp only [tgD]; cases tgN s <;> rfl
@[simp] theorem tgN_tuple : tgN "tuple" = some .tup := by decide
@[simp] theorem tgN_list : tgN "list" = some .lst := by decide
@[simp] theorem tgN_str : tgN "str" = some .str := by decide
@[simp] theorem tgN_int : tgN "int" = some .int := by decide
@[simp] theorem tgN_bool : tgN "bool" = some .bl := by decide
@[simp] theorem tgN_dict : tgN "dict" = some .dic := by decide
theorem isTg_eq (a b : Tg) : isTg a b = (decide (a = b) || (decide (a = .bl) && decide (b = .int))) := rfl
@[simp] theorem sl1 {x : D} {xs : List D} : slD (.tup (x :: xs)) (some 1) none = some (.tup xs) := by
  show some (D.tup (cutD (x :: xs) (some ((1 : Nat) : Int)) none)) = _
  unfold cutD
  rw [HT.sIx_nat, HT.sIx_none]
  simp only [List.length_cons, show min 1 (xs.length + 1) = 1 by omega, List.drop_succ_cons, List.drop_zero]
  rw [List.take_of_length_le (by omega)]
@[simp] theorem zip_nil : zipD [] [] = [] := rfl
@[simp] theorem zip_cons {x y : D} {xs ys : List D} : zipD (x :: xs) (y :: ys) = .tup [x, y] :: zipD xs ys := rfl
@[simp] theorem bls_nil : blsOf [] = some [] := rfl
@[simp] theorem bls_cons {b r} : blsOf (.bl b :: r) = (blsOf r).map fun bs => b :: bs := by rw [blsOf]; cases blsOf r <;> rfl
@[simp] theorem all_at {ds} : allD (.lst ds) = (blsOf ds).map fun bs => .bl (bs.all id) := by show (match blsOf ds with | some bs => _ | none => _) = _; cases blsOf ds <;> rfl
@[simp] theorem any_at {ds} : anyD (.lst ds) = (blsOf ds).map fun bs => .bl (bs.any id) := by show (match blsOf ds with | some bs => _ | none => _) = _; cases blsOf ds <;> rfl
@[simp] theorem lst_tup {xs : List D} : lstD (.tup xs) = some (.lst xs) := rfl
@[simp] theorem lst_lst {xs : List D} : lstD (.lst xs) = some (.lst xs) := rfl
@[simp] theorem lst_scr {ns : List Int} : lstD (.scr ns) = some (.lst (ns.map .int)) := rfl
@[simp] theorem sz2 {n : Nat} (h : n ≤ 1000) : n ≤ SZ := by unfold SZ; omega
@[simp] theorem sz_val : SZ = 100000 := rfl
@[simp] theorem is_non {x : D} : isD x .non = some (.bl (isNon x)) := by cases x <;> rfl
@[simp] theorem isn_non {x : D} : isnD x .non = some (.bl (!isNon x)) := by cases x <;> rfl

/-! ### same -/
mutual
/-- plain values of bounded depth -/
def pln : D → Nat → Prop
  | .non, _ => True
  | .bl _, _ => True
  | .int _, _ => True
  | .str _, _ => True
  | .tup xs, k + 1 => xs.length ≤ 1000 ∧ plnL xs k
  | .lst xs, k + 1 => xs.length ≤ 1000 ∧ plnL xs k
  | _, _ => False
def plnL : List D → Nat → Prop
  | [], _ => True
  | x :: xs, k => pln x k ∧ plnL xs k
end
theorem plnL.get {k : Nat} : ∀ {xs : List D} {i : Nat} {x : D}, plnL xs k → xs[i]? = some x → pln x k
  | [], _, _, _, e => by simp at e
  | x :: xs, 0, y, h, e => by simp at e; subst e; unfold plnL at h; exact h.1
  | x :: xs, i + 1, y, h, e => by unfold plnL at h; exact plnL.get (i := i) h.2 (by simpa using e)
theorem same_loop {h : FnD} {a : D} {xs : List D} (hx : ∀ k : Nat, ixD a (.int (k : Int)) = xs[k]?) (hh : ∀ (i : Nat) (x : D), xs[i]? = some x → h [x, x] = some (.bl true, false, [])) : ∀ l : List Nat, (∀ i ∈ l, i < xs.length) →
    compD [2] (hNm 2) (gNot (gT (shW (gCallD [false, false] h [] (gVa (gOp2 ixD (oNm 0) (oNm 2)) (gVa (gOp2 ixD (oNm 1) (oNm 2)) (fun ρ => some ([], ρ)))))))) (gNm 2) (l.map fun i => .int (0 + (i : Nat))) [.sh a, .sh a, .no] = some ([], [.sh a, .sh a, .no])
  | [], _ => rfl
  | i :: l, hl => by
    have hi := hl i List.mem_cons_self
    have e := hh i _ (List.getElem?_eq_getElem hi)
    have ex := hx i
    rw [List.getElem?_eq_getElem hi] at ex
    have ih := same_loop hx hh l fun j m => hl j (List.mem_cons_of_mem _ m)
    simp only [List.map_cons, compD_cons]
    simp [ex, e]
    simpa using ih
theorem same_ok {S : Nat → FnD} (hS : ∀ n ds, S (n + 1) ds = runG [false, false] 3 (sameB (S n)) ds) : ∀ (n : Nat) (x : D), pln x n → S (n + 1) [x, x] = some (.bl true, false, [])
  | n, .non, _ => by rw [hS]; simp [at_run, sameB, isTg_eq, isNon]
  | n, .bl b, _ => by rw [hS]; simp [at_run, sameB, isTg_eq, isNon]
  | n, .int i, _ => by rw [hS]; simp [at_run, sameB, isTg_eq, isNon]
  | n, .str s, _ => by rw [hS]; simp [at_run, sameB, isTg_eq, isNon]
  | 0, .tup xs, h => by simp [pln] at h
  | 0, .lst xs, h => by simp [pln] at h
  | n + 1, .tup xs, h => by
    unfold pln at h
    have ih : ∀ i x, xs[i]? = some x → S (n + 1) [x, x] = some (.bl true, false, []) := fun i x e => same_ok hS n x (h.2.get e)
    have lp := same_loop (a := .tup xs) (fun k => ix_tup) ih (List.range xs.length) fun i m => List.mem_range.mp m
    have hl : (xs.length : Int) ≤ 100000 := by have := h.1; omega
    have hl2 : (-100000 : Int) ≤ xs.length := by omega
    rw [hS]
    simp [at_run, sameB, isTg_eq, isNon, rngD, hl, hl2]
    simp at lp
    simp [lp]
  | n + 1, .lst xs, h => by
    unfold pln at h
    have ih : ∀ i x, xs[i]? = some x → S (n + 1) [x, x] = some (.bl true, false, []) := fun i x e => same_ok hS n x (h.2.get e)
    have lp := same_loop (a := .lst xs) (fun k => ix_lst) ih (List.range xs.length) fun i m => List.mem_range.mp m
    have hl : (xs.length : Int) ≤ 100000 := by have := h.1; omega
    have hl2 : (-100000 : Int) ≤ xs.length := by omega
    rw [hS]
    simp [at_run, sameB, isTg_eq, isNon, rngD, hl, hl2]
    simp at lp
    simp [lp]
  | n, .ty _, h => by cases n <;> simp [pln] at h
  | n, .fn _, h => by cases n <;> simp [pln] at h
  | n, .scr _, h => by cases n <;> simp [pln] at h
  | n, .dic _ _, h => by cases n <;> simp [pln] at h
  | n, .ins _ _ _ _, h => by cases n <;> simp [pln] at h

/-! ### draws -/
structure Dr where
  ns : List Int
  at_ : Nat
  big : Int
  seed : Int
def Dr.d (s : Dr) : D := .lst [.lst (s.ns.map .int), .int s.at_, .int s.big, .int s.seed]
def Dr.ok (s : Dr) : Prop := 0 ≤ s.big
@[simp] theorem put_lst {xs : List D} {k : Nat} {d : D} : putD (.lst xs) (.int (k : Int)) d = if k < xs.length then some (.lst (xs.set k d)) else none := by
  show (match ixN xs.length (k : Int) with | some j => _ | none => _) = _
  unfold ixN
  simp only [Int.natCast_nonneg, if_true]
  by_cases h : k < xs.length
  · simp [h, Int.ofNat_lt.mpr h]
  · simp [h]
@[simp] theorem put_lst1 {xs : List D} {d : D} : putD (.lst xs) (.int 1) d = if 1 < xs.length then some (.lst (xs.set 1 d)) else none := put_lst (k := 1)
@[simp] theorem put_lst2 {xs : List D} {d : D} : putD (.lst xs) (.int 2) d = if 2 < xs.length then some (.lst (xs.set 2 d)) else none := put_lst (k := 2)
@[simp] theorem put_lst3 {xs : List D} {d : D} : putD (.lst xs) (.int 3) d = if 3 < xs.length then some (.lst (xs.set 3 d)) else none := put_lst (k := 3)
@[simp] theorem put_lst4 {xs : List D} {d : D} : putD (.lst xs) (.int 4) d = if 4 < xs.length then some (.lst (xs.set 4 d)) else none := put_lst (k := 4)
theorem mod_pos {i j : Int} (h : 0 < j) : modI (.int i) (.int j) = some (.int (i % j)) := by simp [modI, h]
theorem div_pos {i j : Int} (h : 0 < j) (h2 : j < 1073741824) : divI (.int i) (.int j) = some (.int (i / j)) := by simp [divI, h, h2]
theorem mul_small {i j : Int} (h : -(2 ^ 64) < j) (h2 : j < 2 ^ 64) : mulI (.int i) (.int j) = some (.int (i * j)) := by simp only [mulI]; rw [if_pos (.inr ⟨h, h2⟩)]
theorem pow18 : powI (.int 10) (.int 18) = some (.int 1000000000000000000) := by simp [powI]
def drawH : FS := (gIfS (gAnd (gT (gOp2 eqD (oD (gOp2 ixD (oNm 0) (oD (fun ρ => some (.int 2, ρ))))) (oD (fun ρ => some (.int 0, ρ))))) (gT (gOp2 ltI (oD (gOp2 ixD (oNm 0) (oD (fun ρ => some (.int 1, ρ))))) (oD (gOp1 lenD (oD (gOp2 ixD (oNm 0) (oD (fun ρ => some (.int 0, ρ)))))))))) (gSeq (gSet 2 (wD (gOp2 ixD (oD (gOp2 ixD (oNm 0) (oD (fun ρ => some (.int 0, ρ))))) (oD (gOp2 ixD (oNm 0) (oD (fun ρ => some (.int 1, ρ)))))))) (gSeq (gPut 0 (gOp2 addD (oD (gOp2 ixD (oNm 0) (oD (fun ρ => some (.int 1, ρ))))) (oD (fun ρ => some (.int 1, ρ)))) (fun ρ => some (.int 1, ρ))) (gSeq (gIfS (gT (gOp2 geI (oNm 2) (oD (gOp2 powI (oD (fun ρ => some (.int 10, ρ))) (oD (fun ρ => some (.int 18, ρ))))))) (gPut 0 (gNm 2) (fun ρ => some (.int 2, ρ))) gSkip) (gPut 0 (gOp2 modI (oD (gOp1 intD (oD (gOp2 addD (oD (gOp2 addD (oD (gOp2 mulI (oD (gOp2 ixD (oNm 0) (oD (fun ρ => some (.int 3, ρ))))) (oD (fun ρ => some (.int 48271, ρ))))) (oNm 2))) (oD (fun ρ => some (.int 13, ρ))))))) (oD (fun ρ => some (.int 2147483647, ρ)))) (fun ρ => some (.int 3, ρ)))))) gSkip)
def drawT : FS := (gSeq (gIfS (gT (gOp2 gtI (oD (gOp2 ixD (oNm 0) (oD (fun ρ => some (.int 2, ρ))))) (oD (fun ρ => some (.int 0, ρ))))) (gSeq (gSet 3 (wD (gOp2 modI (oD (gOp1 intD (oD (gOp2 ixD (oNm 0) (oD (fun ρ => some (.int 2, ρ))))))) (oNm 1)))) (gSeq (gPut 0 (gOp2 divI (oD (gOp2 ixD (oNm 0) (oD (fun ρ => some (.int 2, ρ))))) (oNm 1)) (fun ρ => some (.int 2, ρ))) (gRet (gMv 3)))) gSkip) (gSeq (gPut 0 (gOp2 modI (oD (gOp1 intD (oD (gOp2 addD (oD (gOp2 mulI (oD (gOp2 ixD (oNm 0) (oD (fun ρ => some (.int 3, ρ))))) (oD (fun ρ => some (.int 69621, ρ))))) (oD (fun ρ => some (.int 7, ρ))))))) (oD (fun ρ => some (.int 2147483629, ρ)))) (fun ρ => some (.int 3, ρ))) (gRet (wD (gOp2 modI (oD (gOp1 intD (oD (gOp2 divI (oD (gOp2 ixD (oNm 0) (oD (fun ρ => some (.int 3, ρ))))) (oD (fun ρ => some (.int 11, ρ))))))) (oNm 1))))))
theorem draw_ok (s : Dr) (h : s.ok) {lim : Int} (h0 : 0 < lim) (h1 : lim < 1073741824) : ∃ (v : Int) (s' : Dr), s'.ok ∧ 0 ≤ v ∧ v < lim ∧ runG [true, false] 4 drawB [s.d, .int lim] = some (.int v, false, [s'.d]) := by
  obtain ⟨ns, i, b, l⟩ := s
  have hb : 0 ≤ b := h
  -- what the second half does
  have tail : ∀ (i' : Nat) (b' l' : Int), 0 ≤ b' → ∀ x2 : Sl, ∃ (v : Int) (s' : Dr), s'.ok ∧ 0 ≤ v ∧ v < lim ∧ (drawT [.bo 0 (Dr.mk ns i' b' l').d, .sh (.int lim), x2, .no]).bind (kRn [true, false]) = some (.int v, false, [s'.d]) := fun i' b' l' hb' x2 => by
    by_cases hp : 0 < b'
    · refine ⟨b' % lim, ⟨ns, i', b' / lim, l'⟩, Int.ediv_nonneg hb' (by omega), Int.emod_nonneg _ (by omega), Int.emod_lt_of_pos _ h0, ?_⟩
      simp [drawT, Dr.d, hp, mod_pos h0, div_pos h0 h1]
    · refine ⟨(l' * 69621 + 7) % 2147483629 / 11 % lim, ⟨ns, i', b', (l' * 69621 + 7) % 2147483629⟩, hb', Int.emod_nonneg _ (by omega), Int.emod_lt_of_pos _ h0, ?_⟩
      simp [drawT, Dr.d, hp, mod_pos h0, mod_pos (show (0 : Int) < 2147483629 by decide), div_pos (show (0 : Int) < 11 by decide) (by decide), mul_small (i := l') (show -(2 ^ 64) < (69621 : Int) by decide) (by decide)]
  have split : ∀ ρ, drawB ρ = (drawH ρ).bind (kSeq drawT) := fun ρ => at_seq
  rw [at_run, split]
  by_cases hc : b = 0 ∧ i < ns.length
  · obtain ⟨rfl, hi⟩ := hc
    obtain ⟨c, hcell⟩ : ∃ c, ns[i]? = some c := ⟨_, List.getElem?_eq_getElem hi⟩
    have hi' : (i : Int) < ns.length := by omega
    by_cases hbig : 1000000000000000000 ≤ c
    · obtain ⟨v, s', r1, r2, r3, r4⟩ := tail (i + 1) c ((l * 48271 + c + 13) % 2147483647) (by omega) (.sh (.int c))
      refine ⟨v, s', r1, r2, r3, ?_⟩
      rw [← r4]
      congr 1
      simp [drawH, Dr.d, hi', hcell, hbig, pow18, mod_pos (show (0 : Int) < 2147483647 by decide), mul_small (i := l) (show -(2 ^ 64) < (48271 : Int) by decide) (by decide)]
    · obtain ⟨v, s', r1, r2, r3, r4⟩ := tail (i + 1) 0 ((l * 48271 + c + 13) % 2147483647) (by omega) (.sh (.int c))
      refine ⟨v, s', r1, r2, r3, ?_⟩
      rw [← r4]
      congr 1
      simp [drawH, Dr.d, hi', hcell, hbig, pow18, mod_pos (show (0 : Int) < 2147483647 by decide), mul_small (i := l) (show -(2 ^ 64) < (48271 : Int) by decide) (by decide)]
  · obtain ⟨v, s', r1, r2, r3, r4⟩ := tail i b l hb .no
    refine ⟨v, s', r1, r2, r3, ?_⟩
    rw [← r4]
    congr 1
    by_cases hz : b = 0
    · subst hz
      have hi : ¬ (i : Int) < ns.length := fun z => hc ⟨rfl, by omega⟩
      simp [drawH, Dr.d, hi]
    · simp [drawH, Dr.d, hz]
theorem draws_ok (ns : List Int) : runG [false] 1 drawsB [.scr ns] = some ((Dr.mk ns 0 0 1).d, true, []) := by
  simp [at_run, drawsB, Dr.d]
/-! ### equality of plain values -/
theorem eqP_ok {x y : D} (hx : okPy x = true) (hy : okPy y = true) : eqP x y = some (.bl (PyData.eqv (toPy x) (toPy y))) := by unfold eqP; rw [if_pos ⟨hx, hy⟩]
theorem neP_ok {x y : D} (hx : okPy x = true) (hy : okPy y = true) : neP x y = some (.bl (!PyData.eqv (toPy x) (toPy y))) := by unfold neP; rw [if_pos ⟨hx, hy⟩]
end DV

/-! DV12: the end of a claim. -/
namespace DV
open L2 PySem PySem.Spec PyProof.Rows
abbrev KOf {K : PySem.W.Frag} {h : Heap} (_ : K.In h) : PySem.W.Frag := K
section
variable {P : Program} {w : World} {K : PySem.W.Frag} {mg : Str → Option Value}
theorem law_mk {h : Heap} {st : Stmt} {N : List Str} {n : Nat} {g : FS} (X : K.In h) (G : h.Ns mainGlobals mg) {fa f : Addr} (hfa : mg "law" = some (.ref fa)) {od an : Option Addr} {sl : Array (Option Value)} {oc kV dc pm cd ct : Value}
    (S : FnScope N ["script"] (defScope st)) (hb : ∀ (s : Shared) (kV dc pm : Value) (an : Option Addr) (cd ct v : Value), BindsTo s (PySem.W.fnOf "law" "law" (defArgs st) (defBody st) (defScope st) .none kV dc pm an cd ct) ⟨[v], []⟩ [("script", v)])
    (hbody : ∀ (base : Heap) (f : Addr) (cdv : Value) (A : Around) (outer : List PySem.Env) (s : Shared) (H : Hp) (E : XK), Room n (A.deeper (envOfC "law" (defScope st) s.heap.objs.size f cdv)) → PSs (bodyX P w K mg base N "law" (defScope st) f cdv A outer s H E) (defBody st) (tS ⟨K, mg⟩ g))
    (a : PySem.W.nsIn K mainGlobals "law" = some (some (.ref f))) (l : K.lookup f = some ⟨oc, od, .func (PySem.W.fnOf "law" "law" (defArgs st) (defBody st) (defScope st) .none kV dc pm an cd ct), sl⟩) (c : PySem.W.codeIn K cd "law" = true) (k : PySem.W.keepIn K (.ref f) = true) :
    ∃ fd : FuncData, (∀ (s : Shared) (v : Value), BindsTo s fd ⟨[v], []⟩ [("script", v)]) ∧ ∀ base : Heap, K.In base → base.Ns mainGlobals mg → FnOk P w K mg base CX0 (n + 1) fa fd ["script"] (spD ⟨K, mg⟩ [false] (runG [false] N.length g)) := by
  have e := hfa.symm.trans (PySem.W.mg_of X G a)
  cases e
  exact ⟨_, fun s v => hb s kV dc pm an cd ct v, fun base _ _ => fn_ok (fun_mk l c k) S rfl rfl fun cdv A outer s H E hr => hbody base _ cdv A outer s H E hr⟩
end
end DV

/-! DV13: dicts: comprehensions, locks, sorted, dict(..), update; texts walked. -/
namespace DV
open L2 PySem PySem.Spec PyProof.Rows

/-! ### walking a text, a list, a tuple -/
theorem it_str {K : Kc} {F : Addr → Prop} {H : Hp} {x : Str} : ItOk K (Its x) (x.cps.toList.map fun c => .str ⟨#[c]⟩) F H := fun F2 H2 s fk i => by
  refine ⟨fun d hd => ?_, fun hl => by show x.cps.size ≤ i; simpa using hl⟩
  rw [List.getElem?_map] at hd
  obtain ⟨c, hc, rfl⟩ := Option.map_eq_some_iff.mp hd
  obtain ⟨hl, e⟩ := List.getElem?_eq_some_iff.mp hc
  refine ⟨by show i < x.cps.size; simpa using hl, fun y H3 q => ?_⟩
  obtain ⟨rfl, c', e', rfl⟩ := q
  have : c' = c := by
    have z : x.cps.toList[i]? = some c' := by simpa using e'
    rw [hc] at z; cases z; rfl
  subst this
  exact ⟨F2, .refl, Rep.str'⟩
def gSqA (g : FD) : FL := fun ρ => match g ρ with
  | some (.lst xs, ρ1) => some (xs, ρ1)
  | some (.tup xs, ρ1) => some (xs, ρ1)
  | some (.str x, ρ1) => some (x.cps.toList.map fun c => .str ⟨#[c]⟩, ρ1)
  | _ => none
theorem ci_seqA {X : Cx} {tg e : Expr} {g : FD} (h : PE X e (tD (kc X) g)) : PI X tg e (tI (kc X) (gSqA g)) := by
  refine ⟨fun pins s σ H R I hq => ?_⟩
  obtain ⟨F, B, as, ρ, items, ρ', S, e, k⟩ := hq
  unfold gSqA at e
  split at e
  · rename_i xs ρ1 q
    cases e
    exact (ci_seq h).run pins s σ H R I ⟨F, B, as, ρ, _, _, S, by unfold gSq; rw [q], k⟩
  · rename_i xs ρ1 q
    cases e
    exact (ci_seq h).run pins s σ H R I ⟨F, B, as, ρ, _, _, S, by unfold gSq; rw [q], k⟩
  · rename_i x ρ1 q
    cases e
    refine (pi_str h).run pins s σ H R I ⟨F, B, as, ρ, _, _, S, q, fun v H1 F1 as1 E1 S1 r => ?_⟩
    unfold Rep at r
    subst r
    exact ⟨x, rfl, k _ H1 F1 as1 E1 S1 it_str⟩
  · cases e

/-! ### {} -/
theorem own_dic {K : Kc} {F : Addr → Prop} {H : Hp} {p : Addr} {kvs : List (Key × V)} {ds : List D} (hp : H p = none) (r : RepL K F H ds (kvs.map (·.2))) : Own K F (upd H p (.dK kvs)) (.dic (kvs.map fun q => dkey q.1) ds) (.ref p) [p] := by
  have E : Ext F [] H F [p] (upd H p (.dK kvs)) := Ext.newO hp
  unfold Own OwnC
  exact ⟨p, kvs, rfl, upd_same, rfl, RepL.stb E.stb.weak _ _ r, rfl⟩
def gDic0 : FW := fun ρ => some (.dic [] [], true, ρ)
theorem cw_dic0 {X : Cx} {pos : Pos} : PE X (.Dict [] [] pos) (tW (kc X) gDic0) := PE.to pe_dnewK fun σ H Q ⟨F, B, as, ρ, d, w, ρ', S, e, k⟩ => by
  cases e
  intro p hp
  obtain ⟨E2, S2⟩ := new_own hp S (own_dic (kvs := []) (ds := []) hp RepL.nil)
  exact k _ _ F as [p] E2 S2

/-! ### a key is stored -/
theorem putD_dic {K : Kc} {F : Addr → Prop} {H : Hp} {kvs : List (Key × V)} {ds : List D} {k d c' : D} {vk v : V} (h2 : RepL K F H ds (kvs.map (·.2))) (rk : Rep K F H k vk) (rd : Rep K F H d v) (e : putD (.dic (kvs.map fun p => dkey p.1) ds) k d = some c') :
    kvs.length < sizeLine ∧ ∃ key vs', vk = kV key ∧ c' = .dic ((putK kvs key v).map fun p => dkey p.1) vs' ∧ RepL K F H vs' ((putK kvs key v).map (·.2)) := by
  unfold putD at e
  simp only at e
  split at e
  · rename_i hk
    obtain ⟨key, rfl⟩ := isKey_to hk.1
    have hz : kvs.length < sizeLine := by have := hk.2; rw [List.length_map] at this; exact sz_lt (by omega)
    refine ⟨hz, key, ?_⟩
    rw [any_key] at e
    split at e
    · rename_i hh
      cases e
      refine ⟨dputV (kvs.map fun p => dkey p.1) ds (dkey key) d, Vw.key rk.vw, ?_, ?_⟩
      · unfold putK
        rw [if_pos hh, put_keys]
      · unfold putK
        rw [if_pos hh]
        exact dput_some rd h2
    · rename_i hh
      cases e
      refine ⟨ds ++ [d], Vw.key rk.vw, ?_, ?_⟩
      · unfold putK
        rw [if_neg hh, List.map_append]
        rfl
      · unfold putK
        rw [if_neg hh, List.map_append]
        exact h2.append (RepL.cons rd RepL.nil)
  · cases e
theorem putD_is {ks vs : List D} {k d c' : D} (e : putD (.dic ks vs) k d = some c') : ∃ ks' vs', c' = .dic ks' vs' := by
  unfold putD at e
  simp only at e
  split at e
  · split at e <;> cases e <;> exact ⟨_, _, rfl⟩
  · cases e

/-! ### dict comprehensions -/
def dcompD (vs : List Nat) (h : FG) (tt : FT) (tk tv : FD) : List D → Env → D → Option (D × Env)
  | [], ρ, acc => some (acc, ρ)
  | d :: ds, ρ, acc => match h d ρ with
    | some ρ1 => match tt ρ1 with
      | some (true, ρ2) => match tk ρ2 with
        | some (y, ρ3) => match tv ρ3 with
          | some (z, ρ4) => match putD acc y z with
            | some acc' => dcompD vs h tt tk tv ds (wipeE ρ4 vs) acc'
            | none => none
          | none => none
        | none => none
      | some (false, ρ2) => dcompD vs h tt tk tv ds (wipeE ρ2 vs) acc
      | none => none
    | none => none
def gDComp (vs : List Nat) (gi : FL) (h : FG) (tt : FT) (tk tv : FD) : FW := fun ρ => match gi ρ with
  | some (items, ρ1) => if okOwn ρ1 vs = true then match dcompD vs h tt tk tv items (wipeE ρ1 vs) (.dic [] []) with
      | some (c, ρ2) => some (c, true, backE ρ1 ρ2 vs)
      | none => none
    else none
  | none => none
theorem dcomp_fit {K : Kc} {vs ts : List Nat} {gi : FL} {h : FG} {tt : FT} {tk tv : FD} {σ : L2.St} {H : Hp} {Q : VK} (hts : ∀ j, j ∈ ts → j ∈ vs) (hq : tW K (gDComp vs gi h tt tk tv) σ H Q) : tDc (tI K gi) (tG K ts h) (tB K tt) (tD K tk) (tD K tv) vs σ H Q := by
  obtain ⟨F, B, as, ρ, d, w, ρ', S, e, k⟩ := hq
  unfold gDComp at e
  split at e
  · rename_i items ρ1 q
    split at e
    · rename_i hok
      split at e
      · rename_i cc ρ2 q2
        simp only [Option.some.injEq, Prod.mk.injEq] at e
        obtain ⟨ee1, ee2, ee3⟩ := e
        subst ee1 ee2 ee3
        refine ⟨F, B, as, ρ, items, ρ1, S, q, fun J H1 F1 as1 E1 S1 I1 D hD => ?_⟩
        obtain ⟨asw, Sw, subw⟩ := S1.wiped vs
        have hDa : ∀ b, b ∈ as1 → b ≠ D := fun b m e => by
          obtain ⟨u, z⟩ := S1.env.there b m
          rw [e, hD] at z; cases z
        have E0 : Ext F1 as1 H1 F1 (D :: as1) (upd H1 D (.dK [])) := Ext.newO hD
        let Wn : Nat → Hp → Prop := fun i H => ∃ F' as' ρ3 kvs accV, Sit K F' B H ρ3 (wipe σ vs) as' ∧ H D = some (.dK kvs) ∧ RepL K F' H accV (kvs.map (·.2)) ∧ D ∉ as' ∧ ¬ F' D ∧ dcompD vs h tt tk tv (items.drop i) ρ3 (.dic (kvs.map fun p => dkey p.1) accV) = some (cc, ρ2) ∧ ItOk K J items F' H ∧
          Stb F1 H1 F' H ∧ Ext F1 as1 H1 F' (D :: as') H
        have start : Wn 0 (upd H1 D (.dK [])) := by
          refine ⟨F1, asw, wipeE ρ1 vs, [], [], ⟨Sw.env.stb E0.stb (Kept.of fun b u h => by rw [upd_ne (ne_of_none h hD)]; exact h), Sw.nd, Sw.nf, E0.fk S1.fk⟩, upd_same, RepL.nil, fun m => hDa D (subw.subset m) rfl, fun f => S1.fk D f hD, by simpa using q2, I1.stb E0.stb, E0.stb, E0.sub fun b m => ?_⟩
          rcases List.mem_cons.mp m with m | m
          · rw [m]; exact List.mem_cons_self
          · exact List.mem_cons_of_mem _ (subw.subset m)
        refine ⟨fun i m H => m = items.length - i ∧ i ≤ items.length ∧ Wn i H, ⟨items.length, rfl, Nat.zero_le _, start⟩, ?_⟩
        rintro i m H2 ⟨rfl, hi, F2, as2, ρ3, kvs, accV, S2, hD2, rA, nD, fD, e2, I2, st2, E2⟩
        have IJ := I2 F2 H2 .refl S2.fk i
        by_cases hlt : i < items.length
        · obtain ⟨d, hd, hdr⟩ := drop_cons hlt
          rw [hdr] at e2
          unfold dcompD at e2
          obtain ⟨go, step⟩ := IJ.1 d hd
          refine .inr ⟨go, Wn (i + 1), fun H' w => ⟨_, by omega, rfl, hlt, w⟩, fun x H3 y => ?_⟩
          obtain ⟨F3, E3, r3⟩ := step x H3 y
          have S3 := S2.step E3
          split at e2
          · rename_i ρ4 q4
            refine ⟨F3, B, as2, ρ3, d, ρ4, S3, r3, q4, fun σ5 H5 F5 as5 l5 n5 E5 S5 => ?_⟩
            have w5 : wipe σ5 vs = wipe σ vs := wipe_at (by rw [l5, wipe_length]) fun j hj => n5 j fun m => hj (hts j m)
            refine ⟨w5, ?_⟩
            have keepD : ∀ {Fa Fb : Addr → Prop} {aa ab : List Addr} {Ha Hb : Hp}, Ext Fa aa Ha Fb ab Hb → D ∉ aa → ¬ Fa D → ∀ u, Ha D = some u → Hb D = some u ∧ D ∉ ab ∧ ¬ Fb D := fun {Fa Fb aa ab Ha Hb} E n f u h => by
              refine ⟨E.keep D u h n, fun m => ?_, fun m => ?_⟩
              · rcases E.anew D m with z | z
                · exact n z
                · rw [h] at z; cases z
              · rcases E.fnew D m with z | z | z
                · exact f z
                · exact n z
                · rw [h] at z; cases z
            obtain ⟨hD3, nD3, fD3⟩ := keepD (E3.pure (as := as2)) nD fD _ hD2
            obtain ⟨hD5, nD5, fD5⟩ := keepD E5 nD3 fD3 _ hD3
            have endw : ∀ {F6 : Addr → Prop} {as6 : List Addr} {H6 : Hp} {ρ6 : Env} {kvs6 : List (Key × V)} {accV6 : List DV.D}, Sit K F6 B H6 ρ6 σ5 as6 → H6 D = some (.dK kvs6) → RepL K F6 H6 accV6 (kvs6.map (·.2)) → D ∉ as6 → ¬ F6 D → dcompD vs h tt tk tv (items.drop (i + 1)) (wipeE ρ6 vs) (.dic (kvs6.map fun p => dkey p.1) accV6) = some (cc, ρ2) →
                Stb F2 H2 F6 H6 → Ext F2 (D :: as2) H2 F6 (D :: as6) H6 → Wn (i + 1) H6 := fun {F6 as6 H6 ρ6 kvs6 accV6} S6 h6 r6 n6 f6 c6 s6 E6 => by
              obtain ⟨as7, S7, sub7⟩ := S6.wiped vs
              rw [w5] at S7
              refine ⟨F6, as7, wipeE ρ6 vs, kvs6, accV6, S7, h6, r6, fun m => n6 (sub7.subset m), f6, c6, I2.stb s6, st2.trans s6, (E2.trans E6).sub fun b m => ?_⟩
              rcases List.mem_cons.mp m with m | m
              · rw [m]; exact List.mem_cons_self
              · exact List.mem_cons_of_mem _ (sub7.subset m)
            have wide : ∀ {Fa Fb : Addr → Prop} {aa ab : List Addr} {Ha Hb : Hp}, Ext Fa aa Ha Fb ab Hb → Ext Fa (D :: aa) Ha Fb (D :: ab) Hb := fun {Fa Fb aa ab Ha Hb} E => Ext.frameL (fr := [D]) E
            split at e2
            · rename_i ρ5 q5
              split at e2
              · rename_i yd ρ6 q6
                split at e2
                · rename_i zd ρ7 q7
                  split at e2
                  · rename_i acc' q8
                    refine ⟨F5, B, as5, ρ4, true, ρ5, S5, q5, fun H6 F6 as6 E6 S6 => ?_⟩
                    simp only [if_true]
                    obtain ⟨hD6, nD6, fD6⟩ := keepD E6 nD5 fD5 _ hD5
                    refine ⟨F6, B, as6, ρ5, yd, ρ6, S6, q6, fun vk H7 F7 as7 E7 S7 r7 => ?_⟩
                    obtain ⟨hD7, nD7, fD7⟩ := keepD E7 nD6 fD6 _ hD6
                    refine ⟨F7, B, as7, ρ6, zd, ρ7, S7, q7, fun vz H8 F8 as8 E8 S8 r8 => ?_⟩
                    obtain ⟨hD8, nD8, fD8⟩ := keepD E8 nD7 fD7 _ hD7
                    have s8 : Stb F2 H2 F8 H8 := (((E3.stb.trans E5.stb).trans E6.stb).trans E7.stb).trans E8.stb
                    have rA8 := RepL.stb s8.weak _ _ rA
                    obtain ⟨hz, key, vs', ek, ec, rV⟩ := putD_dic rA8 (Rep.stb E8.stb.weak _ _ r7) r8 q8
                    refine ⟨kvs, key, ek, hD8, hz, ?_⟩
                    have Ew : Ext F8 (D :: as8) H8 F8 (D :: as8) (upd H8 D (.dK (putK kvs key vz))) := Ext.write hD8 (fun _ z => by cases z) (fun _ _ z => by cases z) List.mem_cons_self fD8
                    have S9 : Sit K F8 B (upd H8 D (.dK (putK kvs key vz))) ρ7 σ5 as8 :=
                      ⟨S8.env.stb Ew.stb fun b m u hb => by rw [upd_ne (fun e => nD8 (by rw [← e]; exact m))]; exact hb, S8.nd, S8.nf, Ew.fk S8.fk⟩
                    subst ec
                    exact endw (accV6 := vs') S9 upd_same (RepL.stb Ew.stb.weak _ _ rV) nD8 fD8 e2 (s8.trans Ew.stb)
                      ((((((wide (E3.pure (as := as2))).trans (wide E5)).trans (wide E6)).trans (wide E7)).trans (wide E8)).trans Ew)
                  · cases e2
                · cases e2
              · cases e2
            · rename_i ρ5 q5
              refine ⟨F5, B, as5, ρ4, false, ρ5, S5, q5, fun H6 F6 as6 E6 S6 => ?_⟩
              simp only [Bool.false_eq_true, if_false]
              obtain ⟨hD6, nD6, fD6⟩ := keepD E6 nD5 fD5 _ hD5
              have s6 : Stb F2 H2 F6 H6 := (E3.stb.trans E5.stb).trans E6.stb
              exact endw S6 hD6 (RepL.stb s6.weak _ _ rA) nD6 fD6 e2 s6 (((wide (E3.pure (as := as2))).trans (wide E5)).trans (wide E6))
            · cases e2
          · cases e2
        · have e3 : i = items.length := by omega
          subst e3
          rw [List.drop_length] at e2
          unfold dcompD at e2
          cases e2
          refine .inl ⟨IJ.2 (Nat.le_refl _), ?_⟩
          obtain ⟨as3, h3, sub3⟩ := backE_env S1.env st2 hok S2.env (fun j hj => wipe_off hj) (wipe_length _ _)
          have nD3 : D ∉ as3 := fun m => nD (sub3.subset m)
          refine k _ H2 F2 as3 [D] ((E1.trans E2).sub fun b m => ?_) ⟨h3, List.nodup_cons.mpr ⟨nD3, S2.nd.sublist sub3⟩, fun b m => ?_, S2.fk, ?_⟩
          · rcases List.mem_cons.mp m with m | m
            · rw [m]; exact List.mem_cons_self
            · exact List.mem_cons_of_mem _ (sub3.subset m)
          · rcases List.mem_cons.mp m with m | m
            · rw [m]; exact fD
            · exact S2.nf b (sub3.subset m)
          · simp only [if_true]
            unfold Own OwnC
            exact ⟨D, kvs, rfl, hD2, rfl, rA, rfl⟩
      · cases e
    · cases e
  · cases e
section
variable {X : Cx}
theorem cw_dc {kx vx tg iter : Expr} {ifs : List Expr} {scope : Scope} {own : List (Str × Nat)} {pos : Pos} {ts : List Nat} {gi : FL} {h : FG} {tt : FT} {tk tv : FD} (hc : X.calm = true) (hN : X.N.Nodup) (hi : PI X tg iter (tI (kc X) gi)) (ok : BlkOk X.N X.env.scope scope own) (hts : ∀ j, j ∈ ts → j ∈ own.map (·.2))
    (hg : ∀ (s : Shared) (H : Hp) (C : Addr) (cl : List (Str × Addr)) (fp : List Addr), PG (X.blk s H scope (compEnvC scope cl C X.env) fp) tg (tG (kc X) ts h)) (ht : ∀ (s : Shared) (H : Hp) (C : Addr) (cl : List (Str × Addr)) (fp : List Addr), PTs (X.blk s H scope (compEnvC scope cl C X.env) fp) ifs (tB (kc X) tt))
    (hk : ∀ (s : Shared) (H : Hp) (C : Addr) (cl : List (Str × Addr)) (fp : List Addr), PE (X.blk s H scope (compEnvC scope cl C X.env) fp) kx (tD (kc X) tk)) (he : ∀ (s : Shared) (H : Hp) (C : Addr) (cl : List (Str × Addr)) (fp : List Addr), PE (X.blk s H scope (compEnvC scope cl C X.env) fp) vx (tD (kc X) tv)) (hs : ∀ x, foldedSetIterable iter X.env x = pure x := by intro _; rfl) :
    PE X (.DictComp kx vx [⟨tg, iter, ifs, 0⟩] scope pos) (tW (kc X) (gDComp (own.map (·.2)) gi h tt tk tv)) :=
  PE.to (pe_dc hc hN hi ok hg ht hk he hs) fun σ H Q hq => dcomp_fit hts hq
end
end DV

/-! DV14: a tuple times a small number. -/
namespace L2
open PySem PySem.Spec PyProof.Rows
set_option maxHeartbeats 4000000 in
theorem tuple_mulZ (l : Addr) (items : Array Value) (n : Nat) (dd : Option Addr) (sl : Array (Option Value)) (x : Int) (u : Tok) (c0 : (decide (x < -(2 ^ 63)) || decide (x ≥ 2 ^ 63)) = false) (c1 : (items.isEmpty || x == 1) = false) (c2 : (decide (x ≤ 0) || items.isEmpty) = true) :
    Meets (Builtin.«tuple.__mul__» ⟨[.ref l, .int x u], []⟩) (fun _ R s => s.heap.get? l = some { cls := .type "tuple", dict := dd, data := .seq items n, slots := sl } ∧
      R (.ok (.ret (Value.ref s.heap.objs.size))) { s with heap := s.heap.push { cls := Value.type "tuple", data := Data.seq #[] }, toks := s.toks }) :=
  .of_wp fun prog w A R s h => by
    obtain ⟨hp, g, d, tk, os⟩ := s
    obtain ⟨hl, h⟩ := h
    have f1 := AutoSeq1.idx_int
    have c2' : x ≤ 0 ∨ items.isEmpty = true := by simpa using c2
    wp_walk using wpAny_loadPart' hl
    repeat (first
      | (refine wpAny_ite_false (decide_eq_false (by rw [c0]; exact Bool.false_ne_true)) ?_; wp_walk using wpAny_loadPart' hl)
      | (refine wpAny_ite_false (decide_eq_false (by rw [c1]; exact Bool.false_ne_true)) ?_; wp_walk using wpAny_loadPart' hl)
      | (refine wpAny_ite_true (decide_eq_true c2) ?_; wp_walk using wpAny_loadPart' hl))
    exact ⟨_, rfl, h⟩
set_option maxHeartbeats 4000000 in
theorem tuple_mul1 (l : Addr) (items : Array Value) (n : Nat) (dd : Option Addr) (sl : Array (Option Value)) (u : Tok) :
    Meets (Builtin.«tuple.__mul__» ⟨[.ref l, .int 1 u], []⟩) (fun _ R s => s.heap.get? l = some { cls := .type "tuple", dict := dd, data := .seq items n, slots := sl } ∧
      R (.ok (.ret (Value.ref l))) s) :=
  .of_wp fun prog w A R s h => by
    obtain ⟨hp, g, d, tk, os⟩ := s
    obtain ⟨hl, h⟩ := h
    have f1 := AutoSeq1.idx_int
    have c1 : (items.isEmpty || (1 : Int) == 1) = true := by simp
    wp_walk using wpAny_loadPart' hl
    repeat (first
      | (refine wpAny_ite_false (by decide) ?_; wp_walk using wpAny_loadPart' hl)
      | (refine wpAny_ite_true (decide_eq_true c1) ?_; wp_walk using wpAny_loadPart' hl))
    exact ⟨_, rfl, h⟩

def rRepS (K : PySem.W.Frag) : R2 := fun x y H Q => ∃ l k xs, x = .ref l ∧ y = .int k ∧ SqT K H l xs ∧ xs ≠ [] ∧ ((k = 0 ∧ ∀ p, H p = none → Q (.ref p) (upd H p (.tup []))) ∨ (k = 1 ∧ Q (.ref l) H))
theorem op_repS {X : Cx} : OpR X (binaryOp .Mult) (rRepS X.K) := by
  intro pins s σ H x y v u Q I rx ry h
  obtain ⟨l, k, xs, rfl, rfl, hT, hne, q⟩ := h
  cases rx
  obtain ⟨t, rfl⟩ := ry
  obtain ⟨its, r, ⟨⟨cls, dd, data, sl⟩, ho, hc, n, hd⟩, hs⟩ := I.tuple hT
  simp only at hc hd
  subst hc hd
  have hn : its ≠ [] := fun e => hne (by
    have hle := r.length
    rw [e] at hle
    exact List.eq_nil_of_length_eq_zero hle)
  have hi : its.toArray.isEmpty = false := by
    cases its with
    | nil => exact absurd rfl hn
    | cons a b => rfl
  rcases q with ⟨rfl, q⟩ | ⟨rfl, q⟩
  · refine wpAny_binaryOp_repeat_ref (T := "tuple") (U := "int") (by decide) ⟨_, ho, rfl⟩ (fun s' => typeIs_int s' 0 t) noFill_tuple_mul F.fills_int_mul F.slot_int_rmul repeat_tuple F.slot_int_index.lookup
      (call_meets F.slot_int_rmul (typeIs_int s 0 t) F.entry_int_rmul (F.args_int_rmul_2 _ _) (int_rmul_tuple 0 t l its.toArray n dd sl)
        ⟨ho, rfl, ⟨_, ho, rfl⟩, call_meets F.slot_tuple_mul ⟨_, ho, rfl⟩ F.entry_tuple_mul (F.args_tuple_mul_2 _ _) (tuple_mulZ l its.toArray n dd sl 0 t (by decide) (by rw [hi]; decide) (by simp)) ⟨ho, ?_⟩⟩)
    refine ⟨.ref s.heap.objs.size, _, I.laid (t' := s.toks) (o := .tup []) (fun b ob q => Heap.get?_push_of_some _ q) (Nat.le_refl _) ?_, rfl, q _ (I.hok.fresh (Nat.le_refl _))⟩
    exact ⟨Nat.zero_le _, [], .nil, IsTup.new _ _⟩
  · refine wpAny_binaryOp_repeat_ref (T := "tuple") (U := "int") (by decide) ⟨_, ho, rfl⟩ (fun s' => typeIs_int s' 1 t) noFill_tuple_mul F.fills_int_mul F.slot_int_rmul repeat_tuple F.slot_int_index.lookup
      (call_meets F.slot_int_rmul (typeIs_int s 1 t) F.entry_int_rmul (F.args_int_rmul_2 _ _) (int_rmul_tuple 1 t l its.toArray n dd sl)
        ⟨ho, rfl, ⟨_, ho, rfl⟩, call_meets F.slot_tuple_mul ⟨_, ho, rfl⟩ F.entry_tuple_mul (F.args_tuple_mul_2 _ _) (tuple_mul1 l its.toArray n dd sl t) ⟨ho, ?_⟩⟩)
    exact ⟨.ref l, H, I, rfl, q⟩
end L2
namespace DV
open L2 PySem PySem.Spec PyProof.Rows
def repT : D → D → Option D
  | .tup (x :: xs), .int k => if k = 0 then some (.tup []) else if k = 1 then some (.tup (x :: xs)) else none
  | _, _ => none
def repN : D → D → Option D
  | .tup (x :: xs), .int k => if 2 ≤ k ∧ k ≤ 1000 ∧ (x :: xs).length ≤ 1000 then some (.tup (List.replicate k.toNat (x :: xs)).flatten) else none
  | _, _ => none
def mulD (x y : D) : Option D := (mulI x y).or ((repT x y).or (repN x y))
theorem RepL.rep {K : Kc} {F : Addr → Prop} {H : Hp} {ds : List D} {vs : List V} (r : RepL K F H ds vs) : ∀ n : Nat, RepL K F H (List.replicate n ds).flatten (List.replicate n vs).flatten
  | 0 => RepL.nil
  | n + 1 => by
    rw [List.replicate_succ, List.replicate_succ, List.flatten_cons, List.flatten_cons]
    exact r.append (RepL.rep r n)
theorem pr_repN {K : Kc} : PureR K (rRepT K.K) repN := by
  intro F H dx dy d vx vy Q fk e wx wy k
  unfold repN at e
  split at e
  · rename_i x xs kk
    obtain ⟨a, us, rfl, h1, r1⟩ := wx.tup
    have hne : us ≠ [] := fun z => by have := r1.length; rw [z] at this; simp at this
    cases wy.int
    split at e
    · rename_i hz
      cases e
      refine ⟨a, kk, us, rfl, rfl, h1, hne, hz.1, hz.2.1, by rw [r1.length]; exact hz.2.2, fun p hp => ?_⟩
      obtain ⟨E, r⟩ := new_tup hp (r1.rep kk.toNat)
      exact k _ F _ E r
    · cases e
  · cases e
theorem pr_repT {K : Kc} : PureR K (rRepS K.K) repT := by
  intro F H dx dy d vx vy Q fk e wx wy k
  unfold repT at e
  split at e
  · rename_i x xs kk
    obtain ⟨a, us, rfl, h1, r1⟩ := wx.tup
    have hne : us ≠ [] := fun z => by have := r1.length; rw [z] at this; simp at this
    cases wy.int
    split at e
    · rename_i hz
      cases e
      refine ⟨a, kk, us, rfl, rfl, h1, hne, .inl ⟨hz, fun p hp => ?_⟩⟩
      obtain ⟨E, r⟩ := new_tup hp (RepL.nil (K := K) (F := F))
      exact k _ F _ E r
    · split at e
      · rename_i hz
        cases e
        exact ⟨a, kk, us, rfl, rfl, h1, hne, .inr ⟨hz, k _ F H .refl (Rep.tup' h1 r1)⟩⟩
      · cases e
  · cases e
theorem w_mulD {X : Cx} {a b : Expr} {oa ob : FO} {pos : Pos} (ha : PE X a (tO (kc X) oa)) (hb : PE X b (tO (kc X) ob)) : PE X (.BinOp a .Mult b pos) (tD (kc X) (gOp2 mulD oa ob)) := cd_bin (op_mul.or (op_repS.or op_repT)) (PureR.or pr_mul (PureR.or pr_repT pr_repN)) ha hb
end DV

/-! DV15: while, append. -/
namespace DV
open L2 PySem PySem.Spec PyProof.Rows
def whileD (t : FT) (b : FS) : Nat → Env → Option (Fl × Env)
  | 0, _ => none
  | n + 1, ρ => match t ρ with
    | some (false, ρ1) => some (.nx, ρ1)
    | some (true, ρ1) => match b ρ1 with
      | some (.nx, ρ2) => whileD t b n ρ2
      | some (.ct, ρ2) => whileD t b n ρ2
      | some (.br, ρ2) => some (.nx, ρ2)
      | some (.rt d w, ρ2) => some (.rt d w, ρ2)
      | none => none
    | none => none
def gWhile (n : Nat) (t : FT) (b : FS) : FS := whileD t b n
theorem while_fit {K : Kc} {n : Nat} {t : FT} {b : FS} {D : Ends} {σ : L2.St} {H : Hp} (hq : tS K (gWhile n t b) D σ H) : tWhile (tB K t) (tS K b) D σ H := by
  refine ⟨fun m σ H => ∃ F B as ρ fl ρ', Sit K F B H ρ σ as ∧ whileD t b m ρ = some (fl, ρ') ∧ tSEnd K F B as H D ρ' fl, ⟨n, hq⟩, ?_⟩
  rintro m σ H ⟨F, B, as, ρ, fl, ρ', S, e, k⟩
  cases m with
  | zero => cases e
  | succ m =>
    unfold whileD at e
    split at e
    · rename_i ρ1 q
      cases e
      exact ⟨F, B, as, ρ, false, _, S, q, fun H1 F1 as1 E1 S1 => by simp only [Bool.false_eq_true, if_false]; exact k σ H1 F1 as1 E1 S1⟩
    · rename_i ρ1 q
      refine ⟨F, B, as, ρ, true, _, S, q, fun H1 F1 as1 E1 S1 => ?_⟩
      simp only [if_true]
      refine ⟨fun σ H => ∃ F B as ρ fl ρ', Sit K F B H ρ σ as ∧ whileD t b m ρ = some (fl, ρ') ∧ tSEnd K F B as H D ρ' fl, fun σ' H' w => ⟨m, Nat.lt_succ_self m, w⟩, ?_⟩
      split at e
      · rename_i ρ2 q2
        exact ⟨F1, B, as1, ρ1, _, _, S1, q2, fun σ' H' F' as' E' S' => ⟨F', B, as', _, fl, ρ', S', e, k.ext (E1.trans E')⟩⟩
      · rename_i ρ2 q2
        exact ⟨F1, B, as1, ρ1, _, _, S1, q2, fun σ' H' F' as' E' S' => ⟨F', B, as', _, fl, ρ', S', e, k.ext (E1.trans E')⟩⟩
      · rename_i ρ2 q2
        cases e
        exact ⟨F1, B, as1, ρ1, _, _, S1, q2, fun σ' H' F' as' E' S' => k σ' H' F' as' (E1.trans E') S'⟩
      · rename_i d w ρ2 q2
        cases e
        exact ⟨F1, B, as1, ρ1, _, _, S1, q2, fun v σ' H' F' as' bs E' S' => k v σ' H' F' as' bs (E1.trans E') S'⟩
      · cases e
    · cases e
section
variable {X : Cx} {pos : Pos}
theorem cs_while {n : Nat} {c : Expr} {body : List Stmt} {t : FT} {g : FS} (hp : PassesOwn (model X.prog X.w) X.A X.env X.xe) (hc : PT X c (tB (kc X) t)) (hb : PSs X body (tS (kc X) g)) : PS X (.While c body [] pos) (tS (kc X) (gWhile n t g)) :=
  PS.to (ps_while hp hc hb) fun D σ H h => while_fit h
/-- x.append(e), x an own list -/
def gApp (i : Nat) (g : FD) : FS := fun ρ => match look ρ i with
  | some (.lst _) => match g ρ with
    | some (d, ρ1) => match ρ1[i]? with
      | some (.ow (.lst xs)) => if xs.length < SZ then some (.nx, ρ1.set i (.ow (.lst (xs ++ [d])))) else none
      | some (.bo n (.lst xs)) => if xs.length < SZ then some (.nx, ρ1.set i (.bo n (.lst (xs ++ [d])))) else none
      | _ => none
    | none => none
  | _ => none
theorem gApp_some {i : Nat} {g : FD} {ρ ρ' : Env} {fl : Fl} (h : gApp i g ρ = some (fl, ρ')) : fl = .nx ∧ ∃ ys d ρ1 x xs, look ρ i = some (.lst ys) ∧ g ρ = some (d, ρ1) ∧ ρ1[i]? = some x ∧ (x = .ow (.lst xs) ∨ ∃ n, x = .bo n (.lst xs)) ∧ xs.length < SZ ∧ ρ' = ρ1.set i (reSl x (.lst (xs ++ [d]))) := by
  unfold gApp at h
  split at h
  · rename_i ys q1
    split at h
    · rename_i d ρ1 q2
      split at h
      · rename_i xs q3
        split at h
        · rename_i hz; cases h; exact ⟨rfl, ys, d, ρ1, _, xs, q1, q2, q3, .inl rfl, hz, rfl⟩
        · cases h
      · rename_i n xs q3
        split at h
        · rename_i hz; cases h; exact ⟨rfl, ys, d, ρ1, _, xs, q1, q2, q3, .inr ⟨n, rfl⟩, hz, rfl⟩
        · cases h
      · cases h
    · cases h
  · cases h
theorem cs_app {i : Nat} {x : Str} {p apos cpos : Pos} {e : Expr} {g : FD} (hN : X.N[i]? = some x) (hv : Vis X.env.scope x) (he : PE X e (tD (kc X) g)) (hd : (x == ("__debug__" : Str)) = false := by decide) (hcd : (x == ("__classdict__" : Str)) = false := by decide)
    (hbase : attributeBase (.Name x p) "append" X.env (eval (.Name x p) X.env) = eval (.Name x p) X.env := by rfl)
    (hfew : ((backTo cpos (starEach [e] X.env)).all (fun x => !x.1) && (backToKw cpos (keywordEach [] X.env)).all (fun x => x.1.isSome)
      && decide ([e].length + ([] : List Keyword).length + (if ([] : List Keyword).isEmpty then 0 else 1) < 30)) = true := by rfl)
    (hline : (apos.endLine == cpos.line) = true := by rfl) (hst : starEach [e] X.env = (false, eval e X.env) :: starEach [] X.env := by rfl) (hplain : (backTo cpos (starEach [] X.env)).any (·.1) = false := by rfl)
    (hs : swapsWith (.Call (.Attribute (.Name x p) "append" apos) [e] [] cpos) none pos.line X.env = pure false := by rfl) :
    PS X (.Expr (.Call (.Attribute (.Name x p) "append" apos) [e] [] cpos) pos) (tS (kc X) (gApp i g)) :=
  PS.to (ps_expr (pe_bm PySem.F.plainAttrs_list PySem.F.slot_list_append PySem.F.type_list_append mt_append (pe_var hN hv hd hcd) (pa_cons he pa_nil hst) hbase hfew hline hst hplain) hs) fun D σ H ⟨F, B, as, ρ, fl, ρ', S, e, k⟩ => by
    obtain ⟨rfl, ys, d, ρ1, x, xs, e1, e2, e3, e4, hz, rfl⟩ := gApp_some e
    obtain ⟨vo, ev⟩ := S.there e1
    have w0 := S.look e1 ev
    obtain ⟨a0, us0, rfl, h0, r0⟩ := w0.lst
    refine ⟨.ref a0, ev, .inl ⟨rfl, _, SqL.of h0⟩, F, B, as, ρ, d, ρ1, S, e2, fun vd H1 F1 as1 E1 S1 r1 => ?_⟩
    obtain ⟨a, ow, fin⟩ := S1.write (c' := .lst (xs ++ [d])) e3 e4 ev
    unfold Own OwnC at ow
    obtain ⟨b, us, eb, h1, h2, rfl⟩ := ow
    cases eb
    refine ⟨a0, us, vd, rfl, rfl, h1, sz_lt (by rw [h2.length]; omega), ?_⟩
    obtain ⟨E2, S2⟩ := fin a0 (.lst (us ++ [vd])) _ rfl h1 (fun _ z => by cases z) (fun _ _ z => by cases z) fun s => by
      unfold Own OwnC
      exact ⟨a0, _, rfl, upd_same, RepL.stb s.weak _ _ (h2.append (RepL.cons r1 RepL.nil)), rfl⟩
    exact k σ _ F1 as1 (E1.trans E2) S2
end
section
variable {ρ ρ1 : Env}
def kWh2 (t : FT) (b : FS) (n : Nat) : Fl × Env → Option (Fl × Env)
  | (.nx, ρ2) => whileD t b n ρ2
  | (.ct, ρ2) => whileD t b n ρ2
  | (.br, ρ2) => some (.nx, ρ2)
  | (.rt d w, ρ2) => some (.rt d w, ρ2)
@[simp] theorem kWh2_nx {t : FT} {b : FS} {n} : kWh2 t b n (.nx, ρ1) = whileD t b n ρ1 := rfl
@[simp] theorem kWh2_ct {t : FT} {b : FS} {n} : kWh2 t b n (.ct, ρ1) = whileD t b n ρ1 := rfl
@[simp] theorem kWh2_br {t : FT} {b : FS} {n} : kWh2 t b n (.br, ρ1) = some (.nx, ρ1) := rfl
@[simp] theorem kWh2_rt {t : FT} {b : FS} {n d w} : kWh2 t b n (.rt d w, ρ1) = some (.rt d w, ρ1) := rfl
def kWh1 (t : FT) (b : FS) (n : Nat) : Bool × Env → Option (Fl × Env)
  | (false, ρ1) => some (.nx, ρ1)
  | (true, ρ1) => (b ρ1).bind (kWh2 t b n)
@[simp] theorem kWh1_f {t : FT} {b : FS} {n} : kWh1 t b n (false, ρ1) = some (.nx, ρ1) := rfl
@[simp] theorem kWh1_t {t : FT} {b : FS} {n} : kWh1 t b n (true, ρ1) = (b ρ1).bind (kWh2 t b n) := rfl
theorem whileD_succ {t : FT} {b : FS} {n} : whileD t b (n + 1) ρ = (t ρ).bind (kWh1 t b n) := by
  rw [whileD]
  rcases t ρ with _ | ⟨_ | _, ρ1⟩
  · rfl
  · rfl
  · simp only [Option.bind_some, kWh1_t]
    rcases b ρ1 with _ | ⟨_ | _ | _ | _, _⟩ <;> rfl
def kAp2 (i : Nat) (d : D) (ρ : Env) : Option Sl → Option (Fl × Env)
  | some (.ow (.lst xs)) => if xs.length < SZ then some (.nx, ρ.set i (.ow (.lst (xs ++ [d])))) else none
  | some (.bo n (.lst xs)) => if xs.length < SZ then some (.nx, ρ.set i (.bo n (.lst (xs ++ [d])))) else none
  | _ => none
@[simp] theorem kAp2_ow {i d xs} : kAp2 i d ρ (some (.ow (.lst xs))) = if xs.length < SZ then some (.nx, ρ.set i (.ow (.lst (xs ++ [d])))) else none := rfl
@[simp] theorem kAp2_bo {i d n xs} : kAp2 i d ρ (some (.bo n (.lst xs))) = if xs.length < SZ then some (.nx, ρ.set i (.bo n (.lst (xs ++ [d])))) else none := rfl
def kAp1 (i : Nat) : D × Env → Option (Fl × Env) := fun p => kAp2 i p.1 p.2 p.2[i]?
@[simp] theorem kAp1_at {i d} : kAp1 i (d, ρ1) = kAp2 i d ρ1 ρ1[i]? := rfl
def kAp0 (i : Nat) (g : FD) (ρ : Env) : D → Option (Fl × Env)
  | .lst _ => (g ρ).bind (kAp1 i)
  | _ => none
@[simp] theorem kAp0_lst {i} {g : FD} {xs} : kAp0 i g ρ (.lst xs) = (g ρ).bind (kAp1 i) := rfl
@[simp] theorem at_app {i} {g : FD} : gApp i g ρ = (look ρ i).bind (kAp0 i g ρ) := by
  unfold gApp
  rcases look ρ i with _ | d
  · rfl
  · cases d with
    | lst xs =>
      simp only [Option.bind_some, kAp0_lst]
      rcases g ρ with _ | ⟨d, ρ1⟩
      · rfl
      · simp only [Option.bind_some, kAp1_at]
        rcases ρ1[i]? with _ | _ | _ | c | ⟨n, c⟩
        · rfl
        · rfl
        · rfl
        · cases c <;> rfl
        · cases c <;> rfl
    | _ => rfl
end
end DV

/-! DV16: objects: fields. -/
namespace DV
open L2 PySem PySem.Spec PyProof.Rows

/-! ### a name is put aside while something else is computed -/
theorem Sit.hide {K : Kc} {F : Addr → Prop} {B : List Addr} {H : Hp} {ρ : Env} {σ : L2.St} {as : List Addr} (S : Sit K F B H ρ σ as) {i : Nat} {x : Sl} (hx : ρ[i]? = some x) :
    ∃ o ins rest, σ[i]? = some o ∧ SlR K F B H x o ins ∧ Sit K F B H (ρ.set i .no) σ rest ∧ ins.Nodup ∧ (∀ b, b ∈ ins → b ∉ rest ∧ ¬ F b) ∧ (∀ b, b ∈ as ↔ b ∈ ins ∨ b ∈ rest) := by
  obtain ⟨o, p, a, q, ea, eo, hs, hr⟩ := S.env.split hx
  subst ea
  obtain ⟨n1, n2⟩ := nodup_mid S.nd
  have z := hr .no o [] .refl (Kept.of fun _ _ h => h) (by unfold SlR; rfl)
  rw [set_same eo] at z
  have mem : ∀ b, b ∈ p ++ (a ++ q) ↔ b ∈ a ∨ b ∈ p ++ q := fun b => by
    simp only [List.mem_append]
    constructor
    · rintro (h | h | h)
      · exact .inr (.inl h)
      · exact .inl h
      · exact .inr (.inr h)
    · rintro (h | h | h)
      · exact .inr (.inl h)
      · exact .inl h
      · exact .inr (.inr h)
  refine ⟨o, a, p ++ q, eo, hs, ⟨by simpa using z, n1, fun b m => S.nf b ((mem b).mpr (.inr m)), S.fk⟩, (List.nodup_append.mp (List.nodup_append.mp S.nd).2.1).1, fun b m => ⟨fun m' => n2 b m' m, S.nf b ((mem b).mpr (.inl m))⟩, mem⟩
/-- .. and taken up again -/
theorem Sit.unhide {K : Kc} {F F1 : Addr → Prop} {B : List Addr} {H H1 : Hp} {ρ1 : Env} {σ : L2.St} {as ins rest rest1 : List Addr} {i : Nat} {x : Sl} {o : Option V} (S1 : Sit K F1 B H1 ρ1 σ rest1) (E : Ext F rest H F1 rest1 H1) (h1 : ρ1[i]? = some .no) (eo : σ[i]? = some o)
    (hs : SlR K F B H x o ins) (hn : ins.Nodup) (hd : ∀ b, b ∈ ins → b ∉ rest ∧ ¬ F b) (mem : ∀ b, b ∈ as ↔ b ∈ ins ∨ b ∈ rest) :
    ∃ as1, Sit K F1 B H1 (ρ1.set i x) σ as1 ∧ Ext F as H F1 as1 H1 ∧ SlR K F1 B H1 x o ins ∧ Kept ins H H1 ∧ (∀ b, b ∈ ins → b ∈ as1) := by
  have kp : Kept ins H H1 := E.kept fun b m => (hd b m).1
  have sl : SlR K F1 B H1 x o ins := hs.stb E.stb.weak kp
  have th : ∀ b, b ∈ ins → ∃ u, H b = some u := hs.there
  obtain ⟨o2, p, a, q, ea, eo2, hs2, hr⟩ := S1.env.split h1
  rw [eo] at eo2; cases eo2
  unfold SlR at hs2
  subst hs2
  simp only [List.nil_append] at ea
  have z := hr x o ins .refl (Kept.of fun _ _ h => h) sl
  rw [set_same eo] at z
  have far : ∀ b, b ∈ ins → b ∉ rest1 := fun b m z => by
    rcases E.anew b z with z | z
    · exact (hd b m).1 z
    · obtain ⟨u, hu⟩ := th b m
      rw [hu] at z; cases z
  have nfi : ∀ b, b ∈ ins → ¬ F1 b := fun b m f => by
    rcases E.fnew b f with z | z | z
    · exact (hd b m).2 z
    · exact (hd b m).1 z
    · obtain ⟨u, hu⟩ := th b m
      rw [hu] at z; cases z
  have mem1 : ∀ b, b ∈ p ++ (ins ++ q) ↔ b ∈ ins ∨ b ∈ rest1 := fun b => by
    rw [ea]
    simp only [List.mem_append]
    constructor
    · rintro (h | h | h)
      · exact .inr (.inl h)
      · exact .inl h
      · exact .inr (.inr h)
    · rintro (h | h | h)
      · exact .inr (.inl h)
      · exact .inl h
      · exact .inr (.inr h)
  have nd : (p ++ (ins ++ q)).Nodup := by
    have n1 := S1.nd
    rw [ea] at n1
    have n2 := List.nodup_append.mp n1
    refine List.nodup_append.mpr ⟨n2.1, List.nodup_append.mpr ⟨hn, n2.2.1, fun y hy w hw e => far y hy (by rw [ea, e]; exact List.mem_append_right _ hw)⟩, fun y hy w hw e => ?_⟩
    rcases List.mem_append.mp hw with m | m
    · exact far w m (by rw [ea, ← e]; exact List.mem_append_left _ hy)
    · exact n2.2.2 y hy w m e
  refine ⟨p ++ (ins ++ q), ⟨z, nd, fun b m => ?_, S1.fk⟩, ⟨E.stb, fun b u h n => E.keep b u h fun m => n ((mem b).mpr (.inr m)), E.dom, fun b f => ?_, fun b m => ?_, E.fk⟩, sl, kp, fun b m => (mem1 b).mpr (.inl m)⟩
  · rcases (mem1 b).mp m with m | m
    · exact nfi b m
    · exact S1.nf b m
  · rcases E.fnew b f with z | z | z
    · exact .inl z
    · exact .inr (.inl ((mem b).mpr (.inr z)))
    · exact .inr (.inr z)
  · rcases (mem1 b).mp m with m | m
    · exact .inl ((mem b).mpr (.inl m))
    · rcases E.anew b m with z | z
      · exact .inl ((mem b).mpr (.inr z))
      · exact .inr z

/-! ### fields -/
def fld : List Str → List Bool → List D → Str → Option (Bool × D)
  | n :: ns, o :: os, d :: ds, f => if n = f then some (o, d) else fld ns os ds f
  | _, _, _, _ => none
def fput : List Str → List Bool → List D → Str → Bool → D → List Str × List Bool × List D
  | n :: ns, o :: os, d :: ds, f, w, e => if n = f then (n :: ns, w :: os, e :: ds) else (n :: (fput ns os ds f w e).1, o :: (fput ns os ds f w e).2.1, d :: (fput ns os ds f w e).2.2)
  | _, _, _, f, w, e => ([f], [w], [e])
theorem lookup_cons {g f : Str} {v : V} {r : List (Str × V)} : List.lookup f ((g, v) :: r) = if g = f then some v else List.lookup f r := by
  by_cases h : g = f
  · subst h; simp [List.lookup]
  · have : (f == g) = false := beq_eq_false_iff_ne.mpr (Ne.symm h)
    simp [List.lookup, this, h]
def fOk (K : Kc) (F : Addr → Prop) (H : Hp) (w : Bool) (d : D) (v : V) (b : List Addr) : Prop := if w = true then OwnC K F H d v b else Rep K F H d v ∧ b = []
theorem fOk.stb {K : Kc} {F F2 : Addr → Prop} {H H2 : Hp} {w : Bool} {d : D} {v : V} {b : List Addr} (h : fOk K F H w d v b) (s : Weak F H F2 H2) (k : Kept b H H2) : fOk K F2 H2 w d v b := by
  unfold fOk at h ⊢
  cases w with
  | true => simp only [if_true] at h ⊢; exact h.stb s k
  | false => simp only [Bool.false_eq_true, if_false] at h ⊢; exact ⟨Rep.stb s _ _ h.1, h.2⟩
theorem fOk.vw {K : Kc} {F : Addr → Prop} {H : Hp} {w : Bool} {d : D} {v : V} {b : List Addr} (h : fOk K F H w d v b) : Vw K F H d v := by
  unfold fOk at h
  cases w with
  | true =>
    simp only [if_true] at h
    refine Own.vw (as := b) ?_
    cases d <;> unfold Own <;> first | exact h | (unfold OwnC at h; exact h.elim)
  | false => simp only [Bool.false_eq_true, if_false] at h; exact h.1.vw
theorem OwnFs.cons {K : Kc} {F : Addr → Prop} {H : Hp} {o : Bool} {os : List Bool} {d : D} {ds : List D} {vs : List V} {as : List Addr} : OwnFs K F H (o :: os) (d :: ds) vs as ↔ ∃ v r a1 a2, vs = v :: r ∧ as = a1 ++ a2 ∧ fOk K F H o d v a1 ∧ OwnFs K F H os ds r a2 := by
  rw [OwnFs]; rfl
/-- one field of the object, and the others around it -/
theorem OwnFs.at_ {K : Kc} {F : Addr → Prop} {H : Hp} {f : Str} {w : Bool} {d : D} : ∀ {fs : List (Str × V)} {ns : List Str} {os : List Bool} {ds : List D} {as : List Addr}, fs.map (·.1) = ns → OwnFs K F H os ds (fs.map (·.2)) as → fld ns os ds f = some (w, d) →
    ∃ v p b q, fs.lookup f = some v ∧ as = p ++ (b ++ q) ∧ fOk K F H w d v b ∧ ∀ {F2 : Addr → Prop} {H2 : Hp} (w' : Bool) (d' : D) (b' : List Addr), Stb F H F2 H2 → Kept (p ++ q) H H2 → fOk K F2 H2 w' d' v b' →
      (fput ns os ds f w' d').1 = ns ∧ OwnFs K F2 H2 (fput ns os ds f w' d').2.1 (fput ns os ds f w' d').2.2 (fs.map (·.2)) (p ++ (b' ++ q))
  | [], ns, os, ds, as, hn, h, e => by
    subst hn
    simp [fld] at e
  | (g, u) :: fs, ns, [], ds, as, hn, h, e => by subst hn; simp [fld] at e
  | (g, u) :: fs, ns, o :: os, [], as, hn, h, e => by subst hn; simp [fld] at e
  | (g, u) :: fs, ns, o :: os, d0 :: ds, as, hn, h, e => by
    subst hn
    rw [List.map_cons] at h
    rw [OwnFs.cons] at h
    obtain ⟨v, r, a1, a2, e1, rfl, h1, h2⟩ := h
    simp only [List.map_cons, List.cons.injEq] at e1
    obtain ⟨rfl, rfl⟩ := e1
    simp only [List.map_cons, fld] at e
    by_cases hg : g = f
    · rw [if_pos hg] at e
      cases e
      refine ⟨u, [], a1, a2, by rw [lookup_cons, if_pos hg], rfl, h1, fun w' d' b' s k r => ?_⟩
      simp only [List.map_cons, fput, if_pos hg]
      refine ⟨trivial, ?_⟩
      rw [OwnFs.cons]
      exact ⟨u, _, b', a2, rfl, rfl, r, h2.stb s.weak (by simpa using k)⟩
    · rw [if_neg hg] at e
      obtain ⟨v, p, b, q, l1, l2, l3, l4⟩ := OwnFs.at_ rfl h2 e
      subst l2
      refine ⟨v, a1 ++ p, b, q, by rw [lookup_cons, if_neg hg]; exact l1, by simp, l3, fun w' d' b' s k r => ?_⟩
      obtain ⟨m1, m2⟩ := l4 w' d' b' s (fun c m u hu => k c (by rcases List.mem_append.mp m with m | m <;> simp [m]) u hu) r
      simp only [List.map_cons, fput, if_neg hg]
      refine ⟨by rw [m1], ?_⟩
      rw [OwnFs.cons]
      exact ⟨u, _, a1, p ++ (b' ++ q), rfl, by simp, h1.stb s.weak (fun c m u hu => k c (by simp [m]) u hu), m2⟩
/-- a field is bound -/
theorem OwnFs.put {K : Kc} {F : Addr → Prop} {H : Hp} {f : Str} {w : Bool} {d : D} {v : V} {bs : List Addr} (h0 : fOk K F H w d v bs) : ∀ {fs : List (Str × V)} {ns : List Str} {os : List Bool} {ds : List D} {as : List Addr}, fs.map (·.1) = ns → OwnFs K F H os ds (fs.map (·.2)) as →
    ∃ p b q, as = p ++ (b ++ q) ∧ (putF f v fs).map (·.1) = (fput ns os ds f w d).1 ∧ OwnFs K F H (fput ns os ds f w d).2.1 (fput ns os ds f w d).2.2 ((putF f v fs).map (·.2)) (p ++ (bs ++ q))
  | [], ns, os, ds, as, hn, h => by
    subst hn
    have : os = [] ∧ ds = [] ∧ as = [] := by
      cases os <;> cases ds <;> unfold OwnFs at h
      · exact ⟨rfl, rfl, h.2⟩
      · exact h.elim
      · exact h.elim
      · obtain ⟨_, _, _, _, e, _⟩ := h; simp at e
    obtain ⟨rfl, rfl, rfl⟩ := this
    refine ⟨[], [], [], rfl, rfl, ?_⟩
    show OwnFs K F H [w] [d] [v] ([] ++ (bs ++ []))
    rw [OwnFs.cons]
    exact ⟨v, [], bs, [], rfl, by simp, h0, by unfold OwnFs; exact ⟨rfl, rfl⟩⟩
  | (g, u) :: fs, ns, [], ds, as, hn, h => by cases ds <;> unfold OwnFs at h <;> simp at h
  | (g, u) :: fs, ns, o :: os, [], as, hn, h => by unfold OwnFs at h; exact h.elim
  | (g, u) :: fs, ns, o :: os, d0 :: ds, as, hn, h => by
    subst hn
    rw [List.map_cons] at h
    rw [OwnFs.cons] at h
    obtain ⟨v0, r, a1, a2, e1, rfl, h1, h2⟩ := h
    simp only [List.cons.injEq] at e1
    obtain ⟨rfl, rfl⟩ := e1
    by_cases hg : g = f
    · refine ⟨[], a1, a2, rfl, ?_, ?_⟩
      · simp only [List.map_cons, fput, if_pos hg, putF]
      · simp only [List.map_cons, fput, if_pos hg, putF]
        rw [OwnFs.cons]
        exact ⟨v, _, bs, a2, rfl, rfl, h0, h2⟩
    · obtain ⟨p, b, q, l1, l2, l3⟩ := OwnFs.put h0 rfl h2
      subst l1
      refine ⟨a1 ++ p, b, q, by simp, ?_, ?_⟩
      · simp only [List.map_cons, fput, if_neg hg, putF]
        rw [l2]
      · simp only [List.map_cons, fput, if_neg hg, putF]
        rw [OwnFs.cons]
        exact ⟨u, _, a1, p ++ (bs ++ q), rfl, by simp, h1, l3⟩

/-- the object of a name -/
theorem Sit.ins {K : Kc} {F : Addr → Prop} {B : List Addr} {H : Hp} {ρ : Env} {σ : L2.St} {as : List Addr} (S : Sit K F B H ρ σ as) {i : Nat} {c : Str} {ns : List Str} {os : List Bool} {ds : List D} (hl : DV.look ρ i = some (.ins c ns os ds)) :
    ∃ x a C dx fs ia, ρ[i]? = some x ∧ (x = .ow (.ins c ns os ds) ∨ ∃ n, x = .bo n (.ins c ns os ds)) ∧ σ[i]? = some (some (.ref a)) ∧ K.mg c = some (.ref C) ∧ H a = some (.ins C dx fs) ∧ H dx = some (.own a) ∧ fs.map (·.1) = ns ∧ OwnFs K F H os ds (fs.map (·.2)) ia := by
  unfold DV.look at hl
  split at hl
  · rename_i d q
    cases hl
    obtain ⟨o, p, a, qq, _, eo, hs, _⟩ := S.env.split q
    unfold SlR at hs
    obtain ⟨_, v, _, r⟩ := hs
    unfold Rep at r
    exact r.elim
  · rename_i d q
    cases hl
    obtain ⟨o, p, a, qq, _, eo, hs, _⟩ := S.env.split q
    unfold SlR at hs
    obtain ⟨v, e1, r⟩ := hs
    unfold Own OwnI at r
    obtain ⟨a, C, dx, fs, ia, rfl, h1, h2, h3, h4, h5, h6⟩ := r
    exact ⟨_, a, C, dx, fs, ia, q, .inl rfl, by rw [eo, e1], h1, h2, h3, h4, h5⟩
  · rename_i k d q
    cases hl
    obtain ⟨o, p, a, qq, _, eo, hs, _⟩ := S.env.split q
    unfold SlR at hs
    obtain ⟨v, e1, _, r⟩ := hs
    unfold Own OwnI at r
    obtain ⟨a, C, dx, fs, ia, e2, h1, h2, h3, h4, h5, h6⟩ := r
    rw [e2] at e1
    exact ⟨_, a, C, dx, fs, ia, q, .inr ⟨k, rfl⟩, by rw [eo, e1], h1, h2, h3, h4, h5⟩
  · cases hl
end DV

/-! DV17: objects: attributes read and written. -/
namespace DV
open L2 PySem PySem.Spec PyProof.Rows
structure ClsF (K : Kc) (c f : Str) : Prop where
  ex : ∃ C, K.mg c = some (.ref C) ∧ Cls K.K C ∧ NoAttr K.K C f
def insOf (c : Str) : D → Option (List Str × List Bool × List D)
  | .ins c' ns os ds => if c' = c then some (ns, os, ds) else none
  | _ => none
theorem insOf_some {c : Str} {d : D} {ns : List Str} {os : List Bool} {ds : List D} (h : insOf c d = some (ns, os, ds)) : d = .ins c ns os ds := by
  cases d <;> simp [insOf] at h
  obtain ⟨rfl, rfl, rfl, rfl⟩ := h
  rfl
/-- the field f of the object of name i -/
def fldOf (i : Nat) (c f : Str) (ρ : Env) : Option (Bool × D) := ((look ρ i).bind (insOf c)).bind fun p => fld p.1 p.2.1 p.2.2 f
theorem fldOf_some {i : Nat} {c f : Str} {ρ : Env} {w : Bool} {d : D} (h : fldOf i c f ρ = some (w, d)) : ∃ ns os ds, look ρ i = some (.ins c ns os ds) ∧ fld ns os ds f = some (w, d) := by
  unfold fldOf at h
  obtain ⟨p, h1, h2⟩ := Option.bind_eq_some_iff.mp h
  obtain ⟨e, h3, h4⟩ := Option.bind_eq_some_iff.mp h1
  obtain ⟨ns, os, ds⟩ := p
  exact ⟨ns, os, ds, by rw [h3, insOf_some h4], h2⟩
def gFld (i : Nat) (c f : Str) : FD := fun ρ => match fldOf i c f ρ with
  | some (false, d) => some (d, ρ)
  | _ => none
/-- looked at -/
def tV (K : Kc) (g : FD) : TE := fun σ H Q => ∃ F B as ρ d ρ', Sit K F B H ρ σ as ∧ g ρ = some (d, ρ') ∧
  ∀ v H' F' as', Ext F as H F' as' H' → Sit K F' B H' ρ' σ as' → Vw K F' H' d v → Q v H'
def gFlV (i : Nat) (c f : Str) : FD := fun ρ => match fldOf i c f ρ with
  | some (_, d) => some (d, ρ)
  | none => none
section
variable {X : Cx} {pos p : Pos}
theorem cd_fld {i : Nat} {x c f : Str} (C : ClsF (kc X) c f) (hN : X.N[i]? = some x := by rfl) (hv : Vis X.env.scope x := by first | exact Or.inl rfl | exact Or.inr (Or.inl rfl) | exact Or.inr (Or.inr rfl)) (hd : (x == ("__debug__" : Str)) = false := by decide)
    (hcd : (x == ("__classdict__" : Str)) = false := by decide) (hb : attributeBase (.Name x p) f X.env (eval (.Name x p) X.env) = eval (.Name x p) X.env := by rfl) : PE X (.Attribute (.Name x p) f pos) (tD (kc X) (gFld i c f)) :=
  PE.to (pe_fld (pe_var hN hv hd hcd) hb) fun σ H Q ⟨F, B, as, ρ, d, ρ', S, e, k⟩ => by
    unfold gFld at e
    split at e
    · rename_i d' q
      cases e
      obtain ⟨ns, os, ds, h1, h2⟩ := fldOf_some q
      obtain ⟨xx, a, C0, dx, fs, ia, _, _, ev, hm, ha, hdx, hns, ow⟩ := S.ins h1
      obtain ⟨C1, hm1, hc, hn⟩ := C.ex
      rw [hm] at hm1; cases hm1
      obtain ⟨v, p1, b, q1, l1, _, l3, _⟩ := OwnFs.at_ hns ow h2
      refine ⟨.ref a, ev, a, C0, dx, fs, v, rfl, ha, hc, hn, l1, k v H F as .refl S ?_⟩
      unfold fOk at l3
      simp only [Bool.false_eq_true, if_false] at l3
      exact l3.1
    · cases e
theorem cv_fld {i : Nat} {x c f : Str} (C : ClsF (kc X) c f) (hN : X.N[i]? = some x := by rfl) (hv : Vis X.env.scope x := by first | exact Or.inl rfl | exact Or.inr (Or.inl rfl) | exact Or.inr (Or.inr rfl)) (hd : (x == ("__debug__" : Str)) = false := by decide)
    (hcd : (x == ("__classdict__" : Str)) = false := by decide) (hb : attributeBase (.Name x p) f X.env (eval (.Name x p) X.env) = eval (.Name x p) X.env := by rfl) : PE X (.Attribute (.Name x p) f pos) (tV (kc X) (gFlV i c f)) :=
  PE.to (pe_fld (pe_var hN hv hd hcd) hb) fun σ H Q ⟨F, B, as, ρ, d, ρ', S, e, k⟩ => by
    unfold gFlV at e
    split at e
    · rename_i w d' q
      cases e
      obtain ⟨ns, os, ds, h1, h2⟩ := fldOf_some q
      obtain ⟨xx, a, C0, dx, fs, ia, _, _, ev, hm, ha, hdx, hns, ow⟩ := S.ins h1
      obtain ⟨C1, hm1, hc, hn⟩ := C.ex
      rw [hm] at hm1; cases hm1
      obtain ⟨v, p1, b, q1, l1, _, l3, _⟩ := OwnFs.at_ hns ow h2
      exact ⟨.ref a, ev, a, C0, dx, fs, v, rfl, ha, hc, hn, l1, k v H F as .refl S l3.vw⟩
    · cases e
/-- a one-argument built-in of what is looked at -/
def gOp1V (f : D → Option D) (g : FD) : FD := fun ρ => match g ρ with
  | some (x, ρ1) => match f x with
    | some d => some (d, ρ1)
    | none => none
  | none => none
theorem w_lenV (Z : Zs X.mg) {a : Expr} {g : FD} (ha : PE X a (tV (kc X) g)) (hg : Gl X "len" := by rfl) (he : starEach [a] X.env = (false, eval a X.env) :: starEach [] X.env := by rfl) (hpl : (backTo pos (starEach [] X.env)).any (·.1) = false := by rfl) : PE X (.Call (.Name "len" p) [a] [] pos) (tD (kc X) (gOp1V lenD g)) :=
  PE.to (pe_callB cr_len hg Z.len boot_len' (pa_cons ha pa_nil he) (by decide) (by decide) he hpl) fun σ H Q ⟨F, B, as, ρ, d, ρ', S, e, k⟩ => by
    unfold gOp1V at e
    split at e
    · rename_i x ρ1 q
      split at e
      · rename_i d' q2
        cases e
        refine ⟨F, B, as, ρ, x, _, S, q, fun v H1 F1 as1 E1 S1 w1 => ?_⟩
        exact pc_len F1 H1 x _ v Q S1.fk q2 w1 fun v' F2 H2 E2 r2 => k v' H2 F2 as1 (E1.trans E2.pure) (S1.step E2) r2
      · cases e
    · cases e
/-- o.f[e]: e is computed with o put aside -/
def gIxF (i : Nat) (c f : Str) (g : FD) : FD := fun ρ => match fldOf i c f ρ with
  | some (_, d) => match g (ρ.set i .no) with
    | some (k, ρ1) => match ρ1[i]? with
      | some .no => match ixD d k with
        | some r => some (r, ρ1.set i (ρ.getD i .no))
        | none => none
      | _ => none
    | none => none
  | none => none
theorem gIxF_some {i : Nat} {c f : Str} {g : FD} {ρ ρ' : Env} {r : D} (h : gIxF i c f g ρ = some (r, ρ')) : ∃ w d k ρ1, fldOf i c f ρ = some (w, d) ∧ g (ρ.set i .no) = some (k, ρ1) ∧ ρ1[i]? = some .no ∧ ixD d k = some r ∧ ρ' = ρ1.set i (ρ.getD i .no) := by
  unfold gIxF at h
  split at h
  · rename_i w d q1
    split at h
    · rename_i k ρ1 q2
      split at h
      · rename_i q3
        split at h
        · rename_i r' q4
          cases h
          exact ⟨w, d, k, ρ1, q1, q2, q3, q4, rfl⟩
        · cases h
      · cases h
    · cases h
  · cases h
theorem getD_of {ρ : Env} {i : Nat} {x : Sl} (h : ρ[i]? = some x) : ρ.getD i .no = x := by rw [List.getD_eq_getElem?_getD, h]; rfl
theorem w_ixF {i : Nat} {x c f : Str} {b : Expr} {g : FD} (C : ClsF (kc X) c f) {k : Nat} (hr : Room k X.A) (hgb : PE X b (tD (kc X) g)) (hN : X.N[i]? = some x := by rfl) (hv : Vis X.env.scope x := by first | exact Or.inl rfl | exact Or.inr (Or.inl rfl) | exact Or.inr (Or.inr rfl)) (hd : (x == ("__debug__" : Str)) = false := by decide)
    (hcd : (x == ("__classdict__" : Str)) = false := by decide) (hb : attributeBase (.Name x p) f X.env (eval (.Name x p) X.env) = eval (.Name x p) X.env := by rfl) (hs : PlainIx b := by exact fun _ _ => rfl) {ap : Pos} : PE X (.Subscript (.Attribute (.Name x p) f ap) b pos) (tD (kc X) (gIxF i c f g)) :=
  PE.to (pe_ix (ix_all (ru1 hr)) (pe_fld (pe_var hN hv hd hcd) hb) hgb hs) fun σ H Q ⟨F, B, as, ρ, d, ρ', S, e, k⟩ => by
    obtain ⟨w, dc, dk, ρ1, e1, e2, e3, e4, rfl⟩ := gIxF_some e
    obtain ⟨ns, os, ds, h1, h2⟩ := fldOf_some e1
    obtain ⟨xx, a, C0, dx, fs, ia, hx, hk, ev, hm, ha, hdx, hns, ow⟩ := S.ins h1
    obtain ⟨C1, hm1, hc, hn⟩ := C.ex
    rw [hm] at hm1; cases hm1
    obtain ⟨v, p1, bb, q1, l1, _, l3, _⟩ := OwnFs.at_ hns ow h2
    refine ⟨.ref a, ev, a, C0, dx, fs, v, rfl, ha, hc, hn, l1, ?_⟩
    obtain ⟨o, ins, rest, eo, hs, Sh, hn1, hd1, mem⟩ := S.hide hx
    rw [ev] at eo; cases eo
    refine ⟨F, B, rest, ρ.set i .no, dk, ρ1, Sh, e2, fun vk H1 F1 rest1 E1 S1 r1 => ?_⟩
    obtain ⟨as1, S2, E2, sl, kp, _⟩ := S1.unhide E1 e3 ev hs hn1 hd1 mem
    rw [getD_of hx] at k
    -- the same object, the same field
    have mem2 : ∀ y : Addr, y = a ∨ y = dx → y ∈ ins := by
      intro y hy
      have key : ∀ v0, Own (kc X) F H (.ins c ns os ds) v0 ins → v0 = .ref a → y ∈ ins := fun v0 r e0 => by
        unfold Own OwnI at r
        obtain ⟨a', C', dx', fs', ia', e5, _, h6, h7, _, _, h8⟩ := r
        rw [e0] at e5; cases e5
        rw [ha] at h6; cases h6
        rw [h8]
        rcases hy with rfl | rfl <;> simp
      rcases hk with rfl | ⟨n, rfl⟩
      · unfold SlR at hs
        obtain ⟨v0, e0, r⟩ := hs
        exact key v0 r (by cases e0; rfl)
      · unfold SlR at hs
        obtain ⟨v0, e0, _, r⟩ := hs
        exact key _ r (by cases e0; rfl)
    have ha1 : H1 a = some (.ins C0 dx fs) := kp a (mem2 a (.inl rfl)) _ ha
    have look2 : DV.look (ρ1.set i xx) i = some (.ins c ns os ds) := by
      have hi : i < ρ1.length := (List.getElem?_eq_some_iff.mp e3).1
      unfold DV.look
      rw [List.getElem?_set_self hi]
      rcases hk with rfl | ⟨n, rfl⟩ <;> rfl
    obtain ⟨xx', a', C', dx', fs', ia', _, _, ev', hm', ha', hdx', hns', ow'⟩ := S2.ins look2
    rw [ev] at ev'; cases ev'
    rw [ha1] at ha'; cases ha'
    obtain ⟨v', p1', bb', q1', l1', _, l3', _⟩ := OwnFs.at_ hns' ow' h2
    rw [l1] at l1'; cases l1'
    exact pr_ix F1 H1 dc dk _ v vk Q S2.fk e4 l3'.vw r1.vw fun v2 F3 H3 E3 r3 => k v2 H3 F3 as1 (E2.trans E3.pure) (S2.step E3) r3
end
end DV

/-! DV18: objects: what is written. -/
namespace DV
open L2 PySem PySem.Spec PyProof.Rows
def isIns (x : Sl) (d : D) : Prop := x = .ow d ∨ ∃ n, x = .bo n d
theorem SlR.ins {K : Kc} {F : Addr → Prop} {B : List Addr} {H : Hp} {x : Sl} {o : Option V} {aa : List Addr} {c : Str} {ns : List Str} {os : List Bool} {ds : List D} (hs : SlR K F B H x o aa) (hk : isIns x (.ins c ns os ds)) :
    ∃ a C dx fs ia, o = some (.ref a) ∧ aa = a :: dx :: ia ∧ K.mg c = some (.ref C) ∧ H a = some (.ins C dx fs) ∧ H dx = some (.own a) ∧ fs.map (·.1) = ns ∧ OwnFs K F H os ds (fs.map (·.2)) ia ∧
      ∀ {F2 : Addr → Prop} {H2 : Hp} (c2 : Str) (ns2 : List Str) (os2 : List Bool) (ds2 : List D) (aa2 : List Addr), OwnI K F2 H2 c2 ns2 os2 ds2 (.ref a) aa2 → SlR K F2 B H2 (reSl x (.ins c2 ns2 os2 ds2)) (some (.ref a)) aa2 := by
  rcases hk with rfl | ⟨n, rfl⟩
  · unfold SlR at hs
    obtain ⟨v, e1, r⟩ := hs
    unfold Own OwnI at r
    obtain ⟨a, C, dx, fs, ia, rfl, h1, h2, h3, h4, h5, h6⟩ := r
    exact ⟨a, C, dx, fs, ia, e1, h6, h1, h2, h3, h4, h5, fun c2 ns2 os2 ds2 aa2 r => by unfold reSl SlR; exact ⟨_, rfl, by unfold Own; exact r⟩⟩
  · unfold SlR at hs
    obtain ⟨v, e1, e3, r⟩ := hs
    unfold Own OwnI at r
    obtain ⟨a, C, dx, fs, ia, e2, h1, h2, h3, h4, h5, h6⟩ := r
    cases e2
    exact ⟨v, C, dx, fs, ia, e1, h6, h1, h2, h3, h4, h5, fun c2 ns2 os2 ds2 aa2 r => by unfold reSl SlR; exact ⟨_, rfl, e3, by unfold Own; exact r⟩⟩
theorem Own.ofC {K : Kc} {F : Addr → Prop} {H : Hp} {d : D} {v : V} {b : List Addr} (h : OwnC K F H d v b) : Own K F H d v b := by
  cases d <;> unfold Own <;> first | exact h | (unfold OwnC at h; exact h.elim)
theorem Own.toC {K : Kc} {F : Addr → Prop} {H : Hp} {d : D} {v : V} {b : List Addr} (h : Own K F H d v b) (hc : isC d = true) : OwnC K F H d v b := by
  cases d <;> simp [isC] at hc <;> unfold Own at h <;> exact h
/-- a field's own list or dict is changed in place -/
theorem Sit.writeF {K : Kc} {F : Addr → Prop} {B : List Addr} {H : Hp} {ρ : Env} {σ : L2.St} {as : List Addr} (S : Sit K F B H ρ σ as) {i : Nat} {x : Sl} {c f : Str} {ns : List Str} {os : List Bool} {ds : List D} {d : D} (hx : ρ[i]? = some x) (hk : isIns x (.ins c ns os ds)) (hf : fld ns os ds f = some (true, d)) :
    ∃ a C dx fs v bs, σ[i]? = some (some (.ref a)) ∧ K.mg c = some (.ref C) ∧ H a = some (.ins C dx fs) ∧ fs.lookup f = some v ∧ OwnC K F H d v bs ∧
      ∀ b o u d', bs = [b] → H b = some u → (∀ vs, u ≠ .tup vs) → (∀ q w, u ≠ .frz q w) → (Stb F H F (upd H b o) → OwnC K F (upd H b o) d' v bs) →
        Ext F as H F as (upd H b o) ∧ Sit K F B (upd H b o) (ρ.set i (reSl x (.ins c ns (fput ns os ds f true d').2.1 (fput ns os ds f true d').2.2))) σ as := by
  obtain ⟨o, p, aa, q, ea, eo, hs, hr⟩ := S.env.split hx
  obtain ⟨a, C, dx, fs, ia, e0, e1, hm, ha, hdx, hns, ow, back⟩ := hs.ins hk
  subst e0 e1 ea
  obtain ⟨v, p1, bs, q1, l1, l2, l3, l4⟩ := OwnFs.at_ hns ow hf
  subst l2
  unfold fOk at l3
  simp only [if_true] at l3
  refine ⟨a, C, dx, fs, v, bs, eo, hm, ha, l1, l3, fun b ob u d' eb hu h1 h2 fin => ?_⟩
  subst eb
  have nd := S.nd
  have hb : b ∈ p ++ ((a :: dx :: (p1 ++ ([b] ++ q1))) ++ q) := by simp
  have E : Ext F (p ++ ((a :: dx :: (p1 ++ ([b] ++ q1))) ++ q)) H F (p ++ ((a :: dx :: (p1 ++ ([b] ++ q1))) ++ q)) (upd H b ob) := Ext.write hu h1 h2 hb (S.nf b hb)
  have ne : ∀ y, y ∈ p ++ q ∨ y = a ∨ y = dx ∨ y ∈ p1 ++ q1 → y ≠ b := by
    intro y hy e
    subst e
    simp only [List.nodup_append, List.nodup_cons, List.mem_append, List.mem_cons, List.cons_append] at nd hy
    grind
  have kp : Kept (p ++ q) H (upd H b ob) := fun y m u' hy => by rw [upd_ne (ne y (.inl m))]; exact hy
  have kp1 : Kept (p1 ++ q1) H (upd H b ob) := fun y m u' hy => by rw [upd_ne (ne y (.inr (.inr (.inr m))))]; exact hy
  obtain ⟨m1, m2⟩ := l4 true d' [b] E.stb kp1 (by unfold fOk; simp only [if_true]; exact fin E.stb)
  have sl := back (F2 := F) (H2 := upd H b ob) c ns _ _ (a :: dx :: (p1 ++ ([b] ++ q1))) ⟨a, C, dx, fs, _, rfl, hm, by rw [upd_ne (ne a (.inr (.inl rfl)))]; exact ha, by rw [upd_ne (ne dx (.inr (.inr (.inl rfl))))]; exact hdx, hns, m2, rfl⟩
  have z := hr _ _ _ E.stb kp sl
  rw [set_same eo] at z
  exact ⟨E, ⟨z, S.nd, S.nf, E.fk S.fk⟩⟩
/-- a field is bound -/
theorem Sit2.setF {K : Kc} {F : Addr → Prop} {B : List Addr} {H : Hp} {ρ : Env} {σ : L2.St} {as : List Addr} {d : D} {w : Bool} {v : V} {bs : List Addr} (S : Sit2 K F B H ρ σ as d w v bs) {i : Nat} {x : Sl} {c f : Str} {ns : List Str} {os : List Bool} {ds : List D} (hx : ρ[i]? = some x) (hk : isIns x (.ins c ns os ds)) (hw : w = true → isC d = true) :
    ∃ a C dx fs as', σ[i]? = some (some (.ref a)) ∧ K.mg c = some (.ref C) ∧ H a = some (.ins C dx fs) ∧ fs.map (·.1) = ns ∧ Ext F (bs ++ as) H F as' (upd H a (.ins C dx (putF f v fs))) ∧
      Sit K F B (upd H a (.ins C dx (putF f v fs))) (ρ.set i (reSl x (.ins c (fput ns os ds f w d).1 (fput ns os ds f w d).2.1 (fput ns os ds f w d).2.2))) σ as' := by
  obtain ⟨o, p, aa, q, ea, eo, hs, hr⟩ := S.env.split hx
  obtain ⟨a, C, dx, fs, ia, e0, e1, hm, ha, hdx, hns, ow, back⟩ := hs.ins hk
  subst e0 e1 ea
  have h0 : fOk K F H w d v bs := by
    have r := S.res
    unfold fOk
    cases w with
    | true => simp only [if_true] at r ⊢; exact r.toC (hw rfl)
    | false => simp only [Bool.false_eq_true, if_false] at r ⊢; exact ⟨r.2, r.1⟩
  obtain ⟨p1, b, q1, l1, l2, l3⟩ := OwnFs.put h0 (f := f) hns ow
  subst l1
  have nd := S.nd
  refine ⟨a, C, dx, fs, p ++ ((a :: dx :: (p1 ++ (bs ++ q1))) ++ q), eo, hm, ha, hns, ?_⟩
  have hma : a ∈ bs ++ (p ++ ((a :: dx :: (p1 ++ (b ++ q1))) ++ q)) := by simp
  have E : Ext F (bs ++ (p ++ ((a :: dx :: (p1 ++ (b ++ q1))) ++ q))) H F (bs ++ (p ++ ((a :: dx :: (p1 ++ (b ++ q1))) ++ q))) (upd H a (.ins C dx (putF f v fs))) := Ext.write ha (fun _ z => by cases z) (fun _ _ z => by cases z) hma (S.nf a hma)
  have mem : ∀ y, y ∈ p ++ ((a :: dx :: (p1 ++ (bs ++ q1))) ++ q) → y ∈ bs ++ (p ++ ((a :: dx :: (p1 ++ (b ++ q1))) ++ q)) := fun y m => by
    simp only [List.mem_append, List.mem_cons, List.cons_append] at m ⊢
    grind
  have ne : ∀ y, y ∈ p ++ q ∨ y = dx ∨ y ∈ p1 ++ (bs ++ q1) → y ≠ a := by
    intro y hy e
    subst e
    simp only [List.nodup_append, List.nodup_cons, List.mem_append, List.mem_cons, List.cons_append] at nd hy
    grind
  have kp : Kept (p ++ q) H (upd H a (.ins C dx (putF f v fs))) := fun y m u' hy => by rw [upd_ne (ne y (.inl m))]; exact hy
  have kp1 : Kept (p1 ++ (bs ++ q1)) H (upd H a (.ins C dx (putF f v fs))) := fun y m u' hy => by rw [upd_ne (ne y (.inr (.inr m)))]; exact hy
  have sl := back (F2 := F) (H2 := upd H a (.ins C dx (putF f v fs))) c _ _ _ (a :: dx :: (p1 ++ (bs ++ q1))) ⟨a, C, dx, putF f v fs, _, rfl, hm, upd_same, by rw [upd_ne (ne dx (.inr (.inl rfl)))]; exact hdx, l2, l3.stb E.stb.weak kp1, rfl⟩
  have z := hr _ _ _ E.stb kp sl
  rw [set_same eo] at z
  refine ⟨E.sub mem, ⟨z, ?_, fun y m => S.nf y (mem y m), E.fk S.fk⟩⟩
  simp only [List.nodup_append, List.nodup_cons, List.mem_append, List.mem_cons, List.cons_append] at nd ⊢
  grind
theorem look_ins {ρ : Env} {i : Nat} {c : Str} {ns : List Str} {os : List Bool} {ds : List D} {x : Sl} (hx : ρ[i]? = some x) (h : DV.look ρ i = some (.ins c ns os ds)) (hno : ∀ d, x ≠ .sh d) : isIns x (.ins c ns os ds) := by
  unfold DV.look at h
  rw [hx] at h
  cases x with
  | no => cases h
  | sh d => exact absurd rfl (hno d)
  | ow d => cases h; exact .inl rfl
  | bo n d => cases h; exact .inr ⟨n, rfl⟩
def unSh : Sl → Bool
  | .sh _ => false
  | _ => true
theorem unSh_no {x : Sl} (h : unSh x = true) : ∀ d, x ≠ .sh d := fun d e => by subst e; simp [unSh] at h
/-- o.f = e -/
def gSetF (i : Nat) (c f : Str) (g : FW) : FS := fun ρ => match g ρ with
  | some (d, w, ρ1) => match ρ1[i]? with
    | some x => match (look ρ1 i).bind (insOf c) with
      | some (ns, os, ds) => if unSh x = true ∧ (!w || isC d) = true ∧ ns.length < 1000 then some (.nx, ρ1.set i (reSl x (.ins c (fput ns os ds f w d).1 (fput ns os ds f w d).2.1 (fput ns os ds f w d).2.2))) else none
      | none => none
    | none => none
  | none => none
theorem gSetF_some {i : Nat} {c f : Str} {g : FW} {ρ ρ' : Env} {fl : Fl} (h : gSetF i c f g ρ = some (fl, ρ')) : fl = .nx ∧ ∃ d w ρ1 x ns os ds, g ρ = some (d, w, ρ1) ∧ ρ1[i]? = some x ∧ look ρ1 i = some (.ins c ns os ds) ∧ isIns x (.ins c ns os ds) ∧ (w = true → isC d = true) ∧ ns.length < 1000 ∧
    ρ' = ρ1.set i (reSl x (.ins c (fput ns os ds f w d).1 (fput ns os ds f w d).2.1 (fput ns os ds f w d).2.2)) := by
  unfold gSetF at h
  split at h
  · rename_i d w ρ1 q1
    split at h
    · rename_i x q2
      split at h
      · rename_i ns os ds q3
        split at h
        · rename_i hh
          cases h
          obtain ⟨e, h1, h2⟩ := Option.bind_eq_some_iff.mp q3
          have h1' : DV.look ρ1 i = some (.ins c ns os ds) := by rw [h1, insOf_some h2]
          refine ⟨rfl, d, w, ρ1, x, ns, os, ds, q1, q2, h1', look_ins q2 h1' (unSh_no hh.1), fun e => ?_, hh.2.2, rfl⟩
          have := hh.2.1
          rw [e] at this
          simpa using this
        · cases h
      · cases h
    · cases h
  · cases h
section
variable {X : Cx} {pos p pos' : Pos}
theorem cs_setF {i : Nat} {x c f : Str} {e : Expr} {g : FW} (C : ClsF (kc X) c f) (he : PE X e (tW (kc X) g)) (hN : X.N[i]? = some x := by rfl) (hv : Vis X.env.scope x := by first | exact Or.inl rfl | exact Or.inr (Or.inl rfl) | exact Or.inr (Or.inr rfl)) (hd : (x == ("__debug__" : Str)) = false := by decide)
    (hcd : (x == ("__classdict__" : Str)) = false := by decide) (hs : swapsWith e (some (.Attribute (.Name x p) f pos')) pos.line X.env = pure false := by rfl) : PS X (.Assign [.Attribute (.Name x p) f pos'] e pos) (tS (kc X) (gSetF i c f g)) :=
  PS.to (ps_fld (pe_var hN hv hd hcd) he hs) fun D σ H ⟨F, B, as, ρ, fl, ρ', S, e, k⟩ => by
    obtain ⟨rfl, d, w, ρ1, x, ns, os, ds, e1, e2, e3, e4, hw, hz, rfl⟩ := gSetF_some e
    refine ⟨F, B, as, ρ, d, w, ρ1, S, e1, fun v H1 F1 as1 bs E1 S1 => ?_⟩
    obtain ⟨a, C0, dx, fs, as2, ev, hm, ha, hns, E2, S2⟩ := S1.setF (f := f) e2 e4 hw
    obtain ⟨C1, hm1, hc, hn⟩ := C.ex
    rw [hm] at hm1; cases hm1
    exact ⟨.ref a, ev, a, C0, dx, fs, rfl, ha, hc, hn, by rw [← List.length_map (f := (·.1)), hns]; exact hz, k σ _ F1 as2 (E1.trans E2) S2⟩
end
/-- o.f += e -/
def gAugF (i : Nat) (c f : Str) (op : D → D → Option D) (g : FD) : FS := fun ρ => match fldOf i c f ρ with
  | some (false, d0) => match g ρ with
    | some (d1, ρ1) => match op d0 d1 with
      | some d => gSetF i c f (fun ρ => some (d, false, ρ)) ρ1
      | none => none
    | none => none
  | _ => none
section
variable {X : Cx} {pos p pos' : Pos}
theorem inop_add : InOp X .Add (rI0 fun i j => .int (i + j)) := by
  intro pins s σ H x y u v Q I rx ry h
  exact iop_add pins s σ H x y u v Q I rx ry h
theorem cs_augF {i : Nat} {x c f : Str} {e : Expr} {g : FD} (C : ClsF (kc X) c f) (he : PE X e (tD (kc X) g)) (hN : X.N[i]? = some x := by rfl) (hv : Vis X.env.scope x := by first | exact Or.inl rfl | exact Or.inr (Or.inl rfl) | exact Or.inr (Or.inr rfl)) (hd : (x == ("__debug__" : Str)) = false := by decide)
    (hcd : (x == ("__classdict__" : Str)) = false := by decide) : PS X (.AugAssign (.Attribute (.Name x p) f pos') .Add e pos) (tS (kc X) (gAugF i c f addI g)) :=
  PS.to (ps_fldaug (pe_var hN hv hd hcd) he inop_add) fun D σ H ⟨F, B, as, ρ, fl, ρ', S, e, k⟩ => by
    unfold gAugF at e
    split at e
    · rename_i d0 q0
      split at e
      · rename_i d1 ρ1 q1
        split at e
        · rename_i d q2
          obtain ⟨ns0, os0, ds0, h1, h2⟩ := fldOf_some q0
          obtain ⟨xx, a, C0, dx, fs, ia, _, _, ev, hm, ha, hdx, hns, ow⟩ := S.ins h1
          obtain ⟨C1, hm1, hc, hn⟩ := C.ex
          rw [hm] at hm1; cases hm1
          obtain ⟨v, p1, b, qq1, l1, _, l3, _⟩ := OwnFs.at_ hns ow h2
          unfold fOk at l3
          simp only [Bool.false_eq_true, if_false] at l3
          refine ⟨.ref a, ev, a, C0, dx, fs, v, rfl, ha, hc, hn, l1, F, B, as, ρ, d1, ρ1, S, q1, fun v1 H1 F1 as1 E1 S1 r1 => ?_⟩
          refine pr_add F1 H1 d0 d1 d v v1 _ S1.fk q2 (Rep.stb E1.stb.weak _ _ l3.1).vw r1.vw fun z F2 H2 E2 r2 => ?_
          have S2 := S1.step E2
          obtain ⟨rfl, d', w, ρ2, x', ns, os, ds, e1, e2, e3, e4, hw, hz, rfl⟩ := gSetF_some e
          cases e1
          have T : Sit2 (kc X) F2 B H2 ρ1 σ as1 d false z [] := ⟨S2.env, S2.nd, S2.nf, S2.fk, by simp [r2]⟩
          obtain ⟨a', C', dx', fs', as2, ev', hm', ha', hns', E3, S3⟩ := T.setF (f := f) e2 e4 (fun z => by cases z)
          rw [ev] at ev'; cases ev'
          rw [hm] at hm'; cases hm'
          exact ⟨dx', fs', ha', by rw [← List.length_map (f := (·.1)), hns']; exact hz, k σ _ F2 as2 ((E1.trans E2.pure).trans E3) S3⟩
        · cases e
      · cases e
    · cases e
end
end DV

/-! DV19: objects: lists and dicts in fields; methods; new objects. -/
namespace DV
open L2 PySem PySem.Spec PyProof.Rows
/-- the field's own thing is put to another: c' -/
def backF (i : Nat) (c f : Str) (c' : D) (ρ : Env) : Option Env := match ρ[i]? with
  | some x => match (look ρ i).bind (insOf c) with
    | some (ns, os, ds) => if unSh x = true then some (ρ.set i (reSl x (.ins c ns (fput ns os ds f true c').2.1 (fput ns os ds f true c').2.2))) else none
    | none => none
  | none => none
theorem backF_some {i : Nat} {c f : Str} {c' : D} {ρ ρ' : Env} (h : backF i c f c' ρ = some ρ') : ∃ x ns os ds, ρ[i]? = some x ∧ look ρ i = some (.ins c ns os ds) ∧ isIns x (.ins c ns os ds) ∧ ρ' = ρ.set i (reSl x (.ins c ns (fput ns os ds f true c').2.1 (fput ns os ds f true c').2.2)) := by
  unfold backF at h
  split at h
  · rename_i x q2
    split at h
    · rename_i ns os ds q3
      split at h
      · rename_i hh
        cases h
        obtain ⟨e, h1, h2⟩ := Option.bind_eq_some_iff.mp q3
        have h1' : DV.look ρ i = some (.ins c ns os ds) := by rw [h1, insOf_some h2]
        exact ⟨x, ns, os, ds, q2, h1', look_ins q2 h1' (unSh_no hh), rfl⟩
      · cases h
    · cases h
  · cases h
/-- e computed with the object of name i put aside -/
def gAside (i : Nat) (g : FD) : FD := fun ρ => match ρ[i]? with
  | some x => match g (ρ.set i .no) with
    | some (d, ρ1) => match ρ1[i]? with
      | some .no => some (d, ρ1.set i x)
      | _ => none
    | none => none
  | none => none
theorem gAside_some {i : Nat} {g : FD} {ρ ρ' : Env} {d : D} (h : gAside i g ρ = some (d, ρ')) : ∃ x ρ1, ρ[i]? = some x ∧ g (ρ.set i .no) = some (d, ρ1) ∧ ρ1[i]? = some .no ∧ ρ' = ρ1.set i x := by
  unfold gAside at h
  split at h
  · rename_i x q1
    split at h
    · rename_i d ρ1 q2
      split at h
      · rename_i q3
        cases h
        exact ⟨x, ρ1, q1, q2, q3, rfl⟩
      · cases h
    · cases h
  · cases h
/-- .. the object and its field are what they were -/
theorem aside_fit {K : Kc} {F : Addr → Prop} {B : List Addr} {H : Hp} {ρ ρ' : Env} {σ : L2.St} {as : List Addr} {i : Nat} {c : Str} {ns : List Str} {os : List Bool} {ds : List D} {g : FD} {d : D} {Q : VK} {x : Sl} {a C dx : Addr} {fs : List (Str × V)} (S : Sit K F B H ρ σ as) (hx : ρ[i]? = some x) (hk : isIns x (.ins c ns os ds)) (ev : σ[i]? = some (some (.ref a))) (ha : H a = some (.ins C dx fs))
    (e : gAside i g ρ = some (d, ρ'))
    (k : ∀ v H1 F1 as1, Ext F as H F1 as1 H1 → Sit K F1 B H1 ρ' σ as1 → Rep K F1 H1 d v → ρ'[i]? = some x → H1 a = some (.ins C dx fs) → Q v H1) : tD K g σ H Q := by
  obtain ⟨x', ρ1, e1, e2, e3, rfl⟩ := gAside_some e
  rw [hx] at e1; cases e1
  obtain ⟨o, ins, rest, eo, hs, Sh, hn1, hd1, mem⟩ := S.hide hx
  rw [ev] at eo; cases eo
  refine ⟨F, B, rest, ρ.set i .no, d, ρ1, Sh, e2, fun v H1 F1 rest1 E1 S1 r1 => ?_⟩
  obtain ⟨as1, S2, E2, sl, kp, _⟩ := S1.unhide E1 e3 ev hs hn1 hd1 mem
  obtain ⟨a', C', dx', fs', ia', e5, e6, _, h6, _⟩ := hs.ins hk
  cases e5
  rw [ha] at h6; cases h6
  have hi : i < ρ1.length := (List.getElem?_eq_some_iff.mp e3).1
  exact k v H1 F1 as1 E2 S2 r1 (List.getElem?_set_self hi) (kp a (by rw [e6]; simp) _ ha)
/-- o.f[k] = e -/
def gPutF (i : Nat) (c f : Str) (ge gk : FD) : FS := fun ρ => match ge ρ with
  | some (d, ρ1) => match fldOf i c f ρ1 with
    | some (true, cont) => match gAside i gk ρ1 with
      | some (k, ρ2) => match putD cont k d with
        | some c' => match backF i c f c' ρ2 with
          | some ρ3 => some (.nx, ρ3)
          | none => none
        | none => none
      | none => none
    | _ => none
  | none => none
/-- o.f.append(e) -/
def gAppF (i : Nat) (c f : Str) (g : FD) : FS := fun ρ => match fldOf i c f ρ with
  | some (true, .lst xs) => match gAside i g ρ with
    | some (d, ρ1) => if xs.length < SZ then match backF i c f (.lst (xs ++ [d])) ρ1 with
        | some ρ2 => some (.nx, ρ2)
        | none => none
      else none
    | none => none
  | _ => none
section
variable {X : Cx} {pos p pos' apos cpos fpos : Pos}
theorem at_slot {i : Nat} {ρ : Env} {c : Str} {ns : List Str} {os : List Bool} {ds : List D} {x : Sl} (hx : ρ[i]? = some x) (hk : isIns x (.ins c ns os ds)) : DV.look ρ i = some (.ins c ns os ds) := by
  unfold DV.look
  rw [hx]
  rcases hk with rfl | ⟨n, rfl⟩ <;> rfl
theorem cs_putF {i : Nat} {x c f : Str} {ix e : Expr} {ge gk : FD} {kk : Nat} (C : ClsF (kc X) c f) (hr : Room kk X.A) (he : PE X e (tD (kc X) ge)) (hi : PE X ix (tD (kc X) gk)) (hN : X.N[i]? = some x := by rfl) (hv : Vis X.env.scope x := by first | exact Or.inl rfl | exact Or.inr (Or.inl rfl) | exact Or.inr (Or.inr rfl)) (hd : (x == ("__debug__" : Str)) = false := by decide)
    (hcd : (x == ("__classdict__" : Str)) = false := by decide) (hb : attributeBase (.Name x p) f X.env (eval (.Name x p) X.env) = eval (.Name x p) X.env := by rfl)
    (ha : ∀ v, assign (.Subscript (.Attribute (.Name x p) f fpos) ix pos') X.env v = (do
      let ov ← holding [v] (eval (.Attribute (.Name x p) f fpos) X.env)
      let iv ← holding [v, ov] (eval ix X.env)
      standAt pos'
      holding [v, ov, iv] (setItem ov iv v)
      release [v, ov, iv] []) := by intro _; rfl)
    (hs : swapsWithSole [.Subscript (.Attribute (.Name x p) f fpos) ix pos'] e pos.line X.env = pure false := by rfl) (hw : swappedStores [.Subscript (.Attribute (.Name x p) f fpos) ix pos'] e X.env = pure none := by rfl)
    (h1 : (assignEach [.Subscript (.Attribute (.Name x p) f fpos) ix pos'] X.env).map (·.2) = [assign (.Subscript (.Attribute (.Name x p) f fpos) ix pos') X.env] := by rfl) :
    PS X (.Assign [.Subscript (.Attribute (.Name x p) f fpos) ix pos'] e pos) (tS (kc X) (gPutF i c f ge gk)) :=
  PS.to (ps_asg he (pg_sub (pe_fld (pe_var hN hv hd hcd) hb) hi (set_all (ru1 hr)) ha) hs hw h1) fun D σ H ⟨F, B, as, ρ, fl, ρ', S, e, k⟩ => by
    unfold gPutF at e
    split at e
    · rename_i d ρ1 q1
      split at e
      · rename_i cont q2
        split at e
        · rename_i kd ρ2 q3
          split at e
          · rename_i c' q4
            split at e
            · rename_i ρ3 q5
              cases e
              refine ⟨F, B, as, ρ, d, ρ1, S, q1, fun vd H1 F1 as1 E1 S1 r1 => ?_⟩
              obtain ⟨ns, os, ds, h2, h3⟩ := fldOf_some q2
              obtain ⟨xx, a, C0, dx, fs, ia, hx, hk, ev, hm, hia, hdx, hns, ow⟩ := S1.ins h2
              obtain ⟨C1, hm1, hc, hn⟩ := C.ex
              rw [hm] at hm1; cases hm1
              obtain ⟨v, p1, bb, qq1, l1, _, l3, _⟩ := OwnFs.at_ hns ow h3
              refine ⟨.ref a, ev, a, C0, dx, fs, v, rfl, hia, hc, hn, l1, ?_⟩
              refine aside_fit S1 hx hk ev hia q3 fun vk H2 F2 as2 E2 S2 r2 hx2 ha2 => ?_
              obtain ⟨x', ns', os', ds', b1, b2, b3, rfl⟩ := backF_some q5
              rw [hx2] at b1; cases b1
              have := at_slot hx2 hk
              rw [b2] at this; cases this
              obtain ⟨a', C', dx', fs', v', bs, ev', hm', ha', l1', ow', fin⟩ := S2.writeF hx2 hk h3
              rw [ev] at ev'; cases ev'
              rw [ha2] at ha'; cases ha'
              rw [l1] at l1'; cases l1'
              refine put_fit (Own.ofC ow') r2 (Rep.stb E2.stb.weak _ _ r1) q4 fun b o u eb hu z1 z2 z3 => ?_
              have hcc : isC c' = true := by
                unfold putD at q4
                split at q4
                · split at q4 <;> cases q4; rfl
                · split at q4
                  · split at q4 <;> cases q4 <;> rfl
                  · cases q4
                · cases q4
              obtain ⟨E3, S3⟩ := fin b o u c' eb hu z1 z2 fun s => (z3 s).toC hcc
              exact k σ _ F2 as2 ((E1.trans E2).trans E3) S3
            · cases e
          · cases e
        · cases e
      · cases e
    · cases e
theorem cs_appF {i : Nat} {x c f : Str} {e : Expr} {g : FD} (C : ClsF (kc X) c f) (he : PE X e (tD (kc X) g)) (hN : X.N[i]? = some x := by rfl) (hv : Vis X.env.scope x := by first | exact Or.inl rfl | exact Or.inr (Or.inl rfl) | exact Or.inr (Or.inr rfl)) (hd : (x == ("__debug__" : Str)) = false := by decide) (hcd : (x == ("__classdict__" : Str)) = false := by decide)
    (hb : attributeBase (.Name x p) f X.env (eval (.Name x p) X.env) = eval (.Name x p) X.env := by rfl)
    (hbase : attributeBase (.Attribute (.Name x p) f fpos) "append" X.env (eval (.Attribute (.Name x p) f fpos) X.env) = eval (.Attribute (.Name x p) f fpos) X.env := by rfl)
    (hfew : ((backTo cpos (starEach [e] X.env)).all (fun x => !x.1) && (backToKw cpos (keywordEach [] X.env)).all (fun x => x.1.isSome)
      && decide ([e].length + ([] : List Keyword).length + (if ([] : List Keyword).isEmpty then 0 else 1) < 30)) = true := by rfl)
    (hline : (apos.endLine == cpos.line) = true := by rfl) (hst : starEach [e] X.env = (false, eval e X.env) :: starEach [] X.env := by rfl) (hplain : (backTo cpos (starEach [] X.env)).any (·.1) = false := by rfl)
    (hs : swapsWith (.Call (.Attribute (.Attribute (.Name x p) f fpos) "append" apos) [e] [] cpos) none pos.line X.env = pure false := by rfl) :
    PS X (.Expr (.Call (.Attribute (.Attribute (.Name x p) f fpos) "append" apos) [e] [] cpos) pos) (tS (kc X) (gAppF i c f g)) :=
  PS.to (ps_expr (pe_bm PySem.F.plainAttrs_list PySem.F.slot_list_append PySem.F.type_list_append mt_append (pe_fld (pe_var hN hv hd hcd) hb) (pa_cons he pa_nil hst) hbase hfew hline hst hplain) hs) fun D σ H ⟨F, B, as, ρ, fl, ρ', S, e, k⟩ => by
    unfold gAppF at e
    split at e
    · rename_i xs q2
      split at e
      · rename_i d ρ1 q3
        split at e
        · rename_i hz
          split at e
          · rename_i ρ2 q5
            cases e
            obtain ⟨ns, os, ds, h2, h3⟩ := fldOf_some q2
            obtain ⟨xx, a, C0, dx, fs, ia, hx, hk, ev, hm, hia, hdx, hns, ow⟩ := S.ins h2
            obtain ⟨C1, hm1, hc, hn⟩ := C.ex
            rw [hm] at hm1; cases hm1
            obtain ⟨v, p1, bb, qq1, l1, _, l3, _⟩ := OwnFs.at_ hns ow h3
            obtain ⟨a0, us0, e0, h0, r0⟩ := l3.vw.lst
            subst e0
            refine ⟨.ref a, ev, a, C0, dx, fs, .ref a0, rfl, hia, hc, hn, l1, .inl ⟨rfl, _, SqL.of h0⟩, ?_⟩
            refine aside_fit S hx hk ev hia q3 fun vd H2 F2 as2 E2 S2 r2 hx2 ha2 => ?_
            obtain ⟨x', ns', os', ds', b1, b2, b3, rfl⟩ := backF_some q5
            rw [hx2] at b1; cases b1
            have := at_slot hx2 hk
            rw [b2] at this; cases this
            obtain ⟨a', C', dx', fs', v', bs, ev', hm', ha', l1', ow', fin⟩ := S2.writeF hx2 hk h3
            rw [ev] at ev'; cases ev'
            rw [ha2] at ha'; cases ha'
            rw [l1] at l1'; cases l1'
            unfold OwnC at ow'
            obtain ⟨b, us, eb, h4, h5, rfl⟩ := ow'
            cases eb
            refine ⟨a0, us, vd, rfl, rfl, h4, sz_lt (by rw [h5.length]; omega), ?_⟩
            obtain ⟨E3, S3⟩ := fin a0 (.lst (us ++ [vd])) _ (.lst (xs ++ [d])) rfl h4 (fun _ z => by cases z) (fun _ _ z => by cases z) fun s => by
              unfold OwnC
              exact ⟨a0, _, rfl, upd_same, RepL.stb s.weak _ _ (h5.append (RepL.cons r2 RepL.nil)), rfl⟩
            exact k σ _ F2 as2 (E2.trans E3) S3
          · cases e
        · cases e
      · cases e
    · cases e

/-! ### methods -/
structure MetA (P : Program) (w : World) (K : PySem.W.Frag) (mg : Str → Option Value) (base : Heap) (n : Nat) (c m : Str) (bo : List Bool) (G : FnD) (dd : List D := []) : Prop where
  at_ : ∃ C f fd ps ds dvs, mg c = some (.ref C) ∧ Cls K C ∧ Meth K C m f ∧ Binds K fd ps ds ∧ Vals dvs ds ∧ (∀ F H, RepL ⟨K, mg⟩ F H dd dvs) ∧ FnOk P w K mg base CX0 n f fd ps (spD ⟨K, mg⟩ bo G)
/-- self: an object of class c that has no field m -/
def gSelf (i : Nat) (c m : Str) (ga : FAr) : FAr := fun ρ => match (look ρ i).bind (insOf c) with
  | some (ns, _, _) => if ns.contains m = false then gBo i ga ρ else none
  | none => none
theorem callD_fit' {K : Kc} {bo : List Bool} {G : FnD} {dd : List D} {dvs : List V} (hdd : ∀ F H, RepL K F H dd dvs) {ga : FAr} {σ : L2.St} {H : Hp} {Q : VK} {E : XK} (h : tW K (gCallD bo G dd ga) σ H Q) : tAr K ga σ H fun vs H1 => spD K bo G (vs ++ dvs) H1 Q E := callD_fit hdd h
theorem self_fit {K : Kc} {i : Nat} {c m : Str} {ga : FAr} {σ : L2.St} {H : Hp} {Q : List V → Hp → Prop} {C : Addr} (hC : K.mg c = some (.ref C)) (h : tAr K (gSelf i c m ga) σ H Q) :
    ∃ a dx fs, σ[i]? = some (some (.ref a)) ∧ H a = some (.ins C dx fs) ∧ fs.lookup m = none ∧ tAr K ga σ H fun vs H1 => Q (.ref a :: vs) H1 := by
  obtain ⟨F, B, as, ρ, ars, ρ', S, e, k⟩ := h
  unfold gSelf at e
  split at e
  · rename_i ns os ds q
    split at e
    · rename_i hm
      obtain ⟨e0, h1, h2⟩ := Option.bind_eq_some_iff.mp q
      have h1' : DV.look ρ i = some (.ins c ns os ds) := by rw [h1, insOf_some h2]
      obtain ⟨xx, a, C0, dx, fs, ia, hx, hk, ev, hmc, hia, hdx, hns, ow⟩ := S.ins h1'
      rw [hC] at hmc; cases hmc
      have hl : fs.lookup m = none := by
        have nm : m ∉ fs.map (·.1) := by
          rw [hns]
          intro z
          have : ns.contains m = true := List.contains_iff_mem.mpr z
          rw [hm] at this; cases this
        clear hns hia ow
        induction fs with
        | nil => rfl
        | cons p r ih =>
          obtain ⟨g, u⟩ := p
          simp only [List.map_cons, List.mem_cons, not_or] at nm
          rw [lookup_cons, if_neg (Ne.symm nm.1)]
          exact ih nm.2
      refine ⟨a, dx, fs, ev, hia, hl, ?_⟩
      unfold gBo at e
      rw [h1'] at e
      simp only at e
      split at e
      · rename_i ars2 ρ2 q2
        cases e
        exact ⟨F, B, as, ρ, ars2, _, S, q2, fun vs H2 F2 as2 E2 S2 r2 => k _ H2 F2 as2 E2 S2 (by unfold ArsR; exact ⟨_, vs, rfl, ev, r2⟩)⟩
      · cases e
    · cases e
  · cases e
theorem cw_meth {n i : Nat} {x c m : Str} {bo : List Bool} {G : FnD} {dd : List D} {e : Expr} {es : List Expr} {ga : FAr} (M : MetA X.prog X.w X.K X.mg X.base n c m bo G dd) (hr : Room n X.A) (ha : PA X (e :: es) (tAr (kc X) ga)) (hN : X.N[i]? = some x := by rfl) (hv : Vis X.env.scope x := by first | exact Or.inl rfl | exact Or.inr (Or.inl rfl) | exact Or.inr (Or.inr rfl)) (hd : (x == ("__debug__" : Str)) = false := by decide)
    (hcd : (x == ("__classdict__" : Str)) = false := by decide) {pl : Sem Bool} (hst : starEach (e :: es) X.env = (false, eval e X.env) :: starEach es X.env := by rfl) (hpl : (backTo pos (starEach es X.env)).any (·.1) = false := by rfl)
    (ht : eval (.Call (.Attribute (.Name x p) m apos) (e :: es) [] pos) X.env = (do
      let ov ← eval (.Name x p) X.env
      standAt apos.atName
      let (f, first) ← holding [ov] (getMethod ov m pl)
      callWith pos f first (backTo pos (starEach (e :: es) X.env)) (backToKw pos (keywordEach [] X.env))) := by rfl) :
    PE X (.Call (.Attribute (.Name x p) m apos) (e :: es) [] pos) (tW (kc X) (gCallD bo G dd (gSelf i c m ga))) := by
  obtain ⟨C, f, fd, ps, ds, dvs, hm, hc, hme, hb, hvv, hdd, ok⟩ := M.at_
  refine PE.to (pe_meth (pl := pl) (pe_var hN hv hd hcd) hc hme ok hr hb hvv pass0 ha hst hpl ht) fun σ H Q h => ?_
  obtain ⟨a, dx, fs, ev, hia, hl, k⟩ := self_fit hm (callD_fit' (E := E0) hdd h)
  exact ⟨.ref a, ev, a, dx, fs, rfl, hia, hl, k⟩
theorem cw_meth0 {n i : Nat} {x c m : Str} {bo : List Bool} {G : FnD} {dd : List D} (M : MetA X.prog X.w X.K X.mg X.base n c m bo G dd) (hr : Room n X.A) (hN : X.N[i]? = some x := by rfl) (hv : Vis X.env.scope x := by first | exact Or.inl rfl | exact Or.inr (Or.inl rfl) | exact Or.inr (Or.inr rfl)) (hd : (x == ("__debug__" : Str)) = false := by decide)
    (hcd : (x == ("__classdict__" : Str)) = false := by decide) {pl : Sem Bool}
    (ht : eval (.Call (.Attribute (.Name x p) m apos) [] [] pos) X.env = (do
      let ov ← eval (.Name x p) X.env
      standAt apos.atName
      let (f, first) ← holding [ov] (getMethod ov m pl)
      callWith pos f first (backTo pos (starEach [] X.env)) (backToKw pos (keywordEach [] X.env))) := by rfl) :
    PE X (.Call (.Attribute (.Name x p) m apos) [] [] pos) (tW (kc X) (gCallD bo G dd (gSelf i c m fun ρ => some ([], ρ)))) := by
  obtain ⟨C, f, fd, ps, ds, dvs, hm, hc, hme, hb, hvv, hdd, ok⟩ := M.at_
  refine PE.to (pe_meth0 (pl := pl) (pe_var hN hv hd hcd) hc hme ok hr hb hvv pass0 ht) fun σ H Q h => ?_
  obtain ⟨a, dx, fs, ev, hia, hl, F, B, as, ρ, ars, ρ', S, e, k⟩ := self_fit hm (callD_fit' (E := E0) hdd h)
  refine ⟨.ref a, ev, a, dx, fs, rfl, hia, hl, ?_⟩
  cases e
  exact k [] H F as .refl S (by unfold ArsR; rfl)
end
end DV

/-! DV20: a new object; a call that is lent a field and a name. -/
namespace DV
open L2 PySem PySem.Spec PyProof.Rows
structure MakA (P : Program) (w : World) (K : PySem.W.Frag) (mg : Str → Option Value) (base : Heap) (n : Nat) (c : Str) (bo : List Bool) (G : FnD) (dd : List D := []) : Prop where
  at_ : ∃ C f fd ps ds dvs, mg c = some (.ref C) ∧ Mk K C f ∧ Binds K fd ps ds ∧ Vals dvs ds ∧ (∀ F H, RepL ⟨K, mg⟩ F H dd dvs) ∧ FnOk P w K mg base CX0 n f fd ps (spD ⟨K, mg⟩ bo G)
def gMake (bo : List Bool) (G : FnD) (dd : List D) (c : Str) (g : FL) : FW := fun ρ => match g ρ with
  | some (ds, ρ1) => if bo = true :: (ds ++ dd).map (fun _ => false) then match G (.ins c [] [] [] :: (ds ++ dd)) with
      | some (.non, false, [d]) => some (d, true, ρ1)
      | _ => none
    else none
  | none => none
theorem gMake_some {bo : List Bool} {G : FnD} {dd : List D} {c : Str} {g : FL} {ρ ρ' : Env} {d : D} {w : Bool} (h : gMake bo G dd c g ρ = some (d, w, ρ')) : w = true ∧ ∃ ds, g ρ = some (ds, ρ') ∧ bo = true :: (ds ++ dd).map (fun _ => false) ∧ G (.ins c [] [] [] :: (ds ++ dd)) = some (.non, false, [d]) := by
  unfold gMake at h
  split at h
  · rename_i ds ρ1 q
    split at h
    · rename_i hb
      split at h
      · rename_i d' q2
        cases h
        exact ⟨rfl, ds, q, hb, q2⟩
      · cases h
    · cases h
  · cases h
theorem ArgR.vals {K : Kc} {F : Addr → Prop} {H : Hp} : ∀ {ds : List D} {vs : List V}, RepL K F H ds vs → ArgR K F H (ds.map fun _ => false) ds vs []
  | [], vs, r => by unfold RepL at r; subst r; show ArgR K F H [] [] [] []; unfold ArgR; exact ⟨rfl, rfl⟩
  | d :: ds, vs, r => by
    unfold RepL at r
    obtain ⟨v, u, rfl, h1, h2⟩ := r
    show ArgR K F H (false :: ds.map fun _ => false) (d :: ds) (v :: u) []
    unfold ArgR
    exact ⟨v, u, rfl, h1, ArgR.vals h2⟩
theorem BorR.vals {K : Kc} {F : Addr → Prop} {H : Hp} : ∀ {n ds : List D} {vs : List V} {as : List Addr}, BorR K F H (n.map fun _ => false) ds vs as → ds = [] ∧ as = []
  | [], ds, vs, as, h => by simp only [List.map_nil] at h; unfold BorR at h; exact ⟨h.1, h.2.2⟩
  | d :: n, ds, vs, as, h => by
    simp only [List.map_cons] at h
    unfold BorR at h
    obtain ⟨v, r, _, h⟩ := h
    exact BorR.vals h
theorem make_fit {K : Kc} {bo : List Bool} {G : FnD} {dd : List D} {dvs : List V} {c : Str} {C : Addr} (hC : K.mg c = some (.ref C)) (hdd : ∀ F H, RepL K F H dd dvs) {g : FL} {σ : L2.St} {H : Hp} {Q : VK} {E : XK} (h : tW K (gMake bo G dd c g) σ H Q) : tMake C (spD K bo G) dvs E (tL K g) σ H Q := by
  obtain ⟨F, B, as, ρ, d, w, ρ', S, e, k⟩ := h
  obtain ⟨rfl, ds, e1, rfl, e3⟩ := gMake_some e
  refine ⟨F, B, as, ρ, ds, ρ', S, e1, fun vs H1 F1 as1 E1 S1 ra x dx hx hdx hne => ?_⟩
  have Ea : Ext F1 as1 H1 F1 (dx :: as1) (upd H1 dx (.own x)) := Ext.newO hdx
  have hx2 : upd H1 dx (.own x) x = none := by rw [upd_ne (Ne.symm hne)]; exact hx
  have Eb : Ext F1 (dx :: as1) (upd H1 dx (.own x)) F1 (x :: dx :: as1) (upd (upd H1 dx (.own x)) x (.ins C dx [])) := Ext.newO hx2
  have E2 := Ea.trans Eb
  have rv := (ra.append (hdd F1 H1)).stb E2.stb.weak
  refine ⟨F1, [x, dx], .ins c [] [] [] :: (ds ++ dd), .non, false, [d], ?_, by simp [Ne.symm hne], fun a m f => ?_, E2.fk S1.fk, e3, fun v H' F' as' bs E3 hB nd nf fk r => ?_⟩
  · unfold ArgR
    refine ⟨.ref x, _, [x, dx], [], rfl, rfl, ?_, ArgR.vals rv⟩
    unfold Own OwnI
    exact ⟨x, C, dx, [], [], rfl, hC, upd_same, by rw [upd_ne hne, upd_same], rfl, by unfold OwnFs; exact ⟨rfl, rfl⟩, rfl⟩
  · simp only [List.mem_cons, List.not_mem_nil, or_false] at m
    rcases m with rfl | rfl
    · exact S1.fk _ f hx
    · exact S1.fk _ f hdx
  · simp only [Bool.false_eq_true, if_false] at r
    obtain ⟨rfl, r⟩ := r
    unfold Rep at r
    refine ⟨r, ?_⟩
    unfold BorR at hB
    obtain ⟨d0, e0, v0, r0, a1, a2, h1, h2, rfl, ho, hB⟩ := hB
    obtain ⟨rfl, rfl⟩ := hB.vals
    cases h1
    cases h2
    rw [List.append_nil] at E3 nd nf
    simp only [List.nil_append] at E3 nd nf
    have far : ∀ b, b ∈ as1 → b ∉ [x, dx] := fun b m z => by
      obtain ⟨u, hu⟩ := S1.env.there b m
      simp only [List.mem_cons, List.not_mem_nil, or_false] at z
      rcases z with rfl | rfl
      · rw [hx] at hu; cases hu
      · rw [hdx] at hu; cases hu
    have kp2 : Kept as1 H1 (upd (upd H1 dx (.own x)) x (.ins C dx [])) := fun b m u hu => E2.keep b u hu |> fun f => by
      have h1 : b ≠ x := fun e => far b m (by simp [e])
      have h2 : b ≠ dx := fun e => far b m (by simp [e])
      rw [upd_ne h1, upd_ne h2]; exact hu
    have kp3 : Kept as1 (upd (upd H1 dx (.own x)) x (.ins C dx [])) H' := E3.kept far
    have kp : Kept as1 H1 H' := fun b m u hu => kp3 b m u (kp2 b m u hu)
    have farb : ∀ b, b ∈ as1 → b ∉ a1 := fun b m z => by
      rcases E3.anew b z with z | z
      · exact far b m z
      · obtain ⟨u, hu⟩ := S1.env.there b m
        rw [kp2 b m u hu] at z; cases z
    have E4 : Ext F1 as1 H1 F' (a1 ++ as1) H' := by
      refine ⟨E2.stb.trans E3.stb, fun b u h n => ?_, fun b h => E2.dom b (E3.dom b h), fun b f => ?_, fun b m => ?_, fun h => E3.fk (E2.fk h)⟩
      · have h1 : b ≠ x := fun e => by rw [e, hx] at h; cases h
        have h2 : b ≠ dx := fun e => by rw [e, hdx] at h; cases h
        exact E3.keep b u (by rw [upd_ne h1, upd_ne h2]; exact h) (by simp [h1, h2])
      · rcases E3.fnew b f with z | z | z
        · exact .inl z
        · simp only [List.mem_cons, List.not_mem_nil, or_false] at z
          rcases z with rfl | rfl
          · exact .inr (.inr hx)
          · exact .inr (.inr hdx)
        · exact .inr (.inr (E2.dom b z))
      · rcases List.mem_append.mp m with m | m
        · rcases E3.anew b m with z | z
          · simp only [List.mem_cons, List.not_mem_nil, or_false] at z
            rcases z with rfl | rfl
            · exact .inr hx
            · exact .inr hdx
          · exact .inr (E2.dom b z)
        · exact .inl m
    refine k (.ref x) H' F' as1 a1 (E1.trans E4) ⟨S1.env.stb (E2.stb.trans E3.stb).weak kp, List.nodup_append.mpr ⟨nd, S1.nd, fun y hy z hz e => farb z hz (e ▸ hy)⟩, fun b m f => ?_, fk, ?_⟩
    · rcases List.mem_append.mp m with m | m
      · exact nf b m f
      · rcases E4.fnew b f with z | z | z
        · exact S1.nf b m z
        · rcases E3.fnew b f with z | z | z
          · exact S1.nf b m z
          · exact far b m z
          · obtain ⟨u, hu⟩ := S1.env.there b m
            rw [kp2 b m u hu] at z; cases z
        · obtain ⟨u, hu⟩ := S1.env.there b m
          rw [hu] at z; cases z
    · simp only [if_true]; exact ho
section
variable {X : Cx} {pos p : Pos}
theorem cw_make {n : Nat} {c : Str} {bo : List Bool} {G : FnD} {dd : List D} {e : Expr} {es : List Expr} {g : FL} (M : MakA X.prog X.w X.K X.mg X.base n c bo G dd) (hr : Room (n + 1) X.A) (hg : Gl X c) (ha : PA X (e :: es) (tL (kc X) g)) (hdb : (c == ("__debug__" : Str)) = false := by decide)
    (he : starEach (e :: es) X.env = (false, eval e X.env) :: starEach es X.env := by rfl) (hpl : (backTo pos (starEach es X.env)).any (·.1) = false := by rfl) : PE X (.Call (.Name c p) (e :: es) [] pos) (tW (kc X) (gMake bo G dd c g)) := by
  obtain ⟨C, f, fd, ps, ds, dvs, hm, mk, hb, hvv, hdd, ok⟩ := M.at_
  exact PE.to (pe_make mk ok hr hg hm hb hvv pass0 ha hdb he hpl) fun σ H Q h => make_fit hm hdd h
theorem cw_make0 {n : Nat} {c : Str} {bo : List Bool} {G : FnD} {dd : List D} (M : MakA X.prog X.w X.K X.mg X.base n c bo G dd) (hr : Room (n + 1) X.A) (hg : Gl X c) (hdb : (c == ("__debug__" : Str)) = false := by decide) : PE X (.Call (.Name c p) [] [] pos) (tW (kc X) (gMake bo G dd c fun ρ => some ([], ρ))) := by
  obtain ⟨C, f, fd, ps, ds, dvs, hm, mk, hb, hvv, hdd, ok⟩ := M.at_
  refine PE.to (pe_make0 mk ok hr hg hm hb hvv pass0 hdb) fun σ H Q h => ?_
  obtain ⟨F, B, as, ρ, ds, ρ', S, e, k⟩ := make_fit (E := E0) hm hdd h
  cases e
  exact k [] H F as .refl S RepL.nil
end

/-! ### f(o.x, y): both lent -/
def gTwo (G : FnD) (i : Nat) (c f : Str) (k : Nat) : FW := fun ρ => if i = k then none else match fldOf i c f ρ, ρ[i]?, ρ[k]? with
  | some (true, d1), some x, some (.ow d2) => if unSh x = true then match G [d1, d2] with
      | some (d, w, [d1', d2']) => if isC d1' = true then match backF i c f d1' (ρ.set k (.ow d2')) with
          | some ρ' => some (d, w, ρ')
          | none => none
        else none
      | _ => none
    else none
  | _, _, _ => none

theorem Sit.fill {K : Kc} {F : Addr → Prop} {B : List Addr} {H : Hp} {ρ : Env} {σ : L2.St} {rest ins : List Addr} {i : Nat} {x : Sl} {o : Option V} (S : Sit K F B H ρ σ rest) (h1 : ρ[i]? = some .no) (eo : σ[i]? = some o) (sl : SlR K F B H x o ins) (hn : ins.Nodup) (hd : ∀ b, b ∈ ins → b ∉ rest ∧ ¬ F b) :
    ∃ as1, Sit K F B H (ρ.set i x) σ as1 ∧ ∀ b, b ∈ as1 ↔ b ∈ ins ∨ b ∈ rest := by
  obtain ⟨o2, p, a, q, ea, eo2, hs2, hr⟩ := S.env.split h1
  rw [eo] at eo2; cases eo2
  unfold SlR at hs2
  subst hs2
  simp only [List.nil_append] at ea
  have z := hr x o ins .refl (Kept.of fun _ _ h => h) sl
  rw [set_same eo] at z
  have mem1 : ∀ b, b ∈ p ++ (ins ++ q) ↔ b ∈ ins ∨ b ∈ rest := fun b => by
    rw [ea]
    simp only [List.mem_append]
    constructor
    · rintro (h | h | h)
      · exact .inr (.inl h)
      · exact .inl h
      · exact .inr (.inr h)
    · rintro (h | h | h)
      · exact .inr (.inl h)
      · exact .inl h
      · exact .inr (.inr h)
  have nd : (p ++ (ins ++ q)).Nodup := by
    have n1 := S.nd
    rw [ea] at n1
    have n2 := List.nodup_append.mp n1
    refine List.nodup_append.mpr ⟨n2.1, List.nodup_append.mpr ⟨hn, n2.2.1, fun y hy w hw e => (hd y hy).1 (by rw [ea, e]; exact List.mem_append_right _ hw)⟩, fun y hy w hw e => ?_⟩
    rcases List.mem_append.mp hw with m | m
    · exact (hd w m).1 (by rw [ea, ← e]; exact List.mem_append_left _ hy)
    · exact n2.2.2 y hy w m e
  exact ⟨p ++ (ins ++ q), ⟨z, nd, fun b m => ((mem1 b).mp m).elim (fun m => (hd b m).2) (S.nf b), S.fk⟩, mem1⟩
theorem gTwo_some {G : FnD} {i k : Nat} {c f : Str} {ρ ρ' : Env} {d : D} {w : Bool} (h : gTwo G i c f k ρ = some (d, w, ρ')) : i ≠ k ∧ ∃ ns os ds d1 d2 d1' d2' x, look ρ i = some (.ins c ns os ds) ∧ fld ns os ds f = some (true, d1) ∧ ρ[i]? = some x ∧ isIns x (.ins c ns os ds) ∧ ρ[k]? = some (.ow d2) ∧ G [d1, d2] = some (d, w, [d1', d2']) ∧ isC d1' = true ∧
    ρ' = (ρ.set k (.ow d2')).set i (reSl x (.ins c ns (fput ns os ds f true d1').2.1 (fput ns os ds f true d1').2.2)) := by
  unfold gTwo at h
  split at h
  · cases h
  · rename_i hik
    split at h
    · rename_i d1 x d2 q1 q2 q3
      split at h
      · rename_i hu
        split at h
        · rename_i d' w' d1' d2' q4
          split at h
          · rename_i hc
            split at h
            · rename_i ρ2 q5
              cases h
              obtain ⟨ns, os, ds, h1, h2⟩ := fldOf_some q1
              obtain ⟨x', ns', os', ds', b1, b2, b3, rfl⟩ := backF_some q5
              have hx2 : (ρ.set k (.ow d2'))[i]? = some x := by rw [List.getElem?_set_ne (Ne.symm hik)]; exact q2
              rw [hx2] at b1; cases b1
              have l2 := at_slot hx2 (look_ins q2 h1 (unSh_no hu))
              rw [b2] at l2; cases l2
              exact ⟨hik, ns, os, ds, d1, d2, d1', d2', x, h1, h2, q2, look_ins q2 h1 (unSh_no hu), q3, q4, hc, rfl⟩
            · cases h
          · cases h
        · cases h
      · cases h
    · cases h
theorem cw_two {X : Cx} {pos p p1 p2 fpos : Pos} {n i k : Nat} {x y c f fnm : Str} {G : FnD} (Fn : FnAt X n fnm [true, true] G) (hr : Room n X.A) (C : ClsF (kc X) c f) (hg : Gl X fnm) (hN : X.N[i]? = some x := by rfl) (hv : Vis X.env.scope x := by first | exact Or.inl rfl | exact Or.inr (Or.inl rfl) | exact Or.inr (Or.inr rfl)) (hd : (x == ("__debug__" : Str)) = false := by decide)
    (hcd : (x == ("__classdict__" : Str)) = false := by decide) (hN' : X.N[k]? = some y := by rfl) (hv' : Vis X.env.scope y := by first | exact Or.inl rfl | exact Or.inr (Or.inl rfl) | exact Or.inr (Or.inr rfl)) (hd' : (y == ("__debug__" : Str)) = false := by decide) (hcd' : (y == ("__classdict__" : Str)) = false := by decide)
    (hb : attributeBase (.Name x p1) f X.env (eval (.Name x p1) X.env) = eval (.Name x p1) X.env := by rfl) (hdb : (fnm == ("__debug__" : Str)) = false := by decide)
    (he : starEach [.Attribute (.Name x p1) f fpos, .Name y p2] X.env = (false, eval (.Attribute (.Name x p1) f fpos) X.env) :: starEach [.Name y p2] X.env := by rfl) (he2 : starEach [.Name y p2] X.env = (false, eval (.Name y p2) X.env) :: starEach [] X.env := by rfl) (hpl : (backTo pos (starEach [.Name y p2] X.env)).any (·.1) = false := by rfl) :
    PE X (.Call (.Name fnm p) [.Attribute (.Name x p1) f fpos, .Name y p2] [] pos) (tW (kc X) (gTwo G i c f k)) := by
  obtain ⟨ff, fd, ps, dsv, dvs, hm, hk, hbi, hvv, hdd, ok⟩ := Fn.at_
  have hnil : dvs = [] := by
    have := (hdd (fun _ => True) (fun _ => none)).length
    exact List.eq_nil_of_length_eq_zero (by simpa using this)
  subst hnil
  refine PE.to (pe_call ok hr hg hm hk hbi hvv pass0 (pa_cons (pe_fld (pe_var hN hv hd hcd) hb) (pa_cons (pe_var hN' hv' hd' hcd') pa_nil he2) he) hdb he hpl) fun σ H Q ⟨F, B, as, ρ, d, w, ρ', S, e, kk⟩ => ?_
  obtain ⟨hik, ns, os, ds, d1, d2, d1', d2', xx, h1, h2, hx, hki, hy, hG, hc1, rfl⟩ := gTwo_some e
  obtain ⟨o, ins, rest, eo, hs, Sh, hn1, hd1, mem⟩ := S.hide hx
  obtain ⟨a, C0, dx, fs, ia, e0, e1, hmc, ha, hdx, hns, ow, back⟩ := hs.ins hki
  subst e0 e1
  obtain ⟨C1, hm1, hc, hn⟩ := C.ex
  rw [hmc] at hm1; cases hm1
  obtain ⟨v, p1', b1, q1', l1, l2, l3, l4⟩ := OwnFs.at_ hns ow h2
  subst l2
  unfold fOk at l3
  simp only [if_true] at l3
  have hyk : (ρ.set i .no)[k]? = some (.ow d2) := by rw [List.getElem?_set_ne hik]; exact hy
  obtain ⟨o2, b2, rest2, eo2, hs2, Shh, hn2, hd2, mem2⟩ := Sh.hide hyk
  unfold SlR at hs2
  obtain ⟨v2, e2, r2⟩ := hs2
  subst e2
  refine ⟨.ref a, eo, a, C0, dx, fs, v, rfl, ha, hc, hn, l1, v2, eo2, ?_⟩
  show spD (kc X) [true, true] G [v, v2] H Q E0
  have inb1 : ∀ b, b ∈ b1 → b ∈ a :: dx :: (p1' ++ (b1 ++ q1')) := fun b m => by simp [m]
  have nd12 : (b1 ++ b2).Nodup := List.nodup_append.mpr ⟨by
    simp only [List.nodup_cons, List.nodup_append] at hn1
    exact hn1.2.2.2.1.1, hn2, fun y hy z hz e => (hd1 y (inb1 y hy)).1 ((mem2 y).mpr (.inl (e ▸ hz)))⟩
  refine ⟨F, b1 ++ b2, [d1, d2], d, w, [d1', d2'], ?_, nd12, fun b m => ?_, S.fk, hG, fun vr H' F' as' bs E hB nd nf fk r => ?_⟩
  · unfold ArgR
    refine ⟨v, [v2], b1, b2, rfl, rfl, Own.ofC l3, ?_⟩
    unfold ArgR
    refine ⟨v2, [], b2, [], rfl, by simp, r2, ?_⟩
    unfold ArgR
    exact ⟨rfl, rfl⟩
  · rcases List.mem_append.mp m with m | m
    · exact (hd1 b (inb1 b m)).2
    · exact (hd2 b m).2
  · unfold BorR at hB
    obtain ⟨da, ea, va, ra, b1', a2', h3, h4, rfl, hoa, hB⟩ := hB
    unfold BorR at hB
    obtain ⟨db, eb, vb, rb, b2', a3', h5, h6, rfl, hob, hB⟩ := hB
    unfold BorR at hB
    obtain ⟨rfl, rfl, rfl⟩ := hB
    cases h3; cases h4; cases h5; cases h6
    rw [List.append_nil] at E nd nf
    -- what was not lent
    have others : ∀ y, (y ∈ rest2 ∨ y = a ∨ y = dx ∨ y ∈ p1' ++ q1') → y ∉ b1 ++ b2 := fun y hy z => by
      rcases List.mem_append.mp z with z | z
      · rcases hy with hy | hy
        · exact (hd1 y (inb1 y z)).1 ((mem2 y).mpr (.inr hy))
        · simp only [List.nodup_cons, List.nodup_append, List.mem_append, List.mem_cons] at hn1 hy
          grind
      · rcases hy with hy | hy
        · exact (hd2 y z).1 hy
        · refine (hd1 y ?_).1 ((mem2 y).mpr (.inl z))
          simp only [List.mem_append, List.mem_cons] at hy ⊢
          grind
    have live : ∀ y, (y ∈ rest2 ∨ y = a ∨ y = dx ∨ y ∈ p1' ++ q1') → ∃ u, H y = some u := fun y hy => by
      rcases hy with hy | hy | hy | hy
      · exact Shh.env.there y hy
      · exact ⟨_, by rw [hy]; exact ha⟩
      · exact ⟨_, by rw [hy]; exact hdx⟩
      · refine ow.there y ?_
        simp only [List.mem_append] at hy ⊢
        grind
    have kpo : ∀ y, (y ∈ rest2 ∨ y = a ∨ y = dx ∨ y ∈ p1' ++ q1') → ∀ u, H y = some u → H' y = some u := fun y hy u hu => E.keep y u hu (others y hy)
    have far : ∀ y, (y ∈ rest2 ∨ y = a ∨ y = dx ∨ y ∈ p1' ++ q1') → y ∉ bs ++ (b1' ++ b2') ∧ ¬ F' y := fun y hy => by
      obtain ⟨u, hu⟩ := live y hy
      refine ⟨fun z => ?_, fun z => ?_⟩
      · rcases E.anew y z with z | z
        · exact others y hy z
        · rw [hu] at z; cases z
      · rcases E.fnew y z with z | z | z
        · rcases hy with hy | hy
          · exact Shh.nf y hy z
          · refine (hd1 y ?_).2 z
            simp only [List.mem_append, List.mem_cons] at hy ⊢
            grind
        · exact others y hy z
        · rw [hu] at z; cases z
    have S3 : Sit (kc X) F' B H' ((ρ.set i .no).set k .no) σ rest2 := ⟨Shh.env.stb E.stb.weak fun y m u hu => kpo y (.inl m) u hu, Shh.nd, fun y m => (far y (.inl m)).2, fk⟩
    have nd3 := nd
    simp only [List.nodup_append] at nd3
    have hkl : k < ρ.length := (List.getElem?_eq_some_iff.mp hy).1
    have hil : i < ρ.length := (List.getElem?_eq_some_iff.mp hx).1
    obtain ⟨asA, SA, mA⟩ := S3.fill (x := .ow d2') (ins := b2') (by rw [List.getElem?_set_self (by simpa using hkl)]) eo2 (by unfold SlR; exact ⟨v2, rfl, hob⟩) nd3.2.1.2.1 fun b m => ⟨fun z => (far b (.inl z)).1 (by simp [m]), fun z => nf b (by simp [m]) z⟩
    obtain ⟨m1, m2⟩ := l4 true d1' b1' E.stb (fun y m u hu => kpo y (.inr (.inr (.inr m))) u hu) (by unfold fOk; simp only [if_true]; exact hoa.toC hc1)
    have slI := back (F2 := F') (H2 := H') c ns _ _ (a :: dx :: (p1' ++ (b1' ++ q1'))) ⟨a, C0, dx, fs, _, rfl, hmc, kpo a (.inr (.inl rfl)) _ ha, kpo dx (.inr (.inr (.inl rfl))) _ hdx, hns, m2, rfl⟩
    have fa : ∀ y, (y = a ∨ y = dx ∨ y ∈ p1' ++ q1') → y ∉ b1' ∧ y ∉ b2' ∧ y ∉ bs := fun y hy => by
      have := (far y (.inr hy)).1
      simp only [List.mem_append, not_or] at this
      exact ⟨this.2.1, this.2.2, this.1⟩
    obtain ⟨asB, SB, mB⟩ := SA.fill (i := i) (x := reSl xx (.ins c ns (fput ns os ds f true d1').2.1 (fput ns os ds f true d1').2.2)) (ins := a :: dx :: (p1' ++ (b1' ++ q1'))) (by rw [List.getElem?_set_ne (Ne.symm hik), List.getElem?_set_ne (Ne.symm hik), List.getElem?_set_self hil]) eo slI (by
      have f1 := fa a (.inl rfl)
      have f2 := fa dx (.inr (.inl rfl))
      have f3 : ∀ y, y ∈ p1' ++ q1' → y ∉ b1' := fun y m => (fa y (.inr (.inr m))).1
      have nb := nd3.2.1.1
      simp only [List.nodup_cons, List.nodup_append, List.mem_append, List.mem_cons] at hn1 f3 ⊢
      grind) fun b m => by
        have nr : b ∉ rest2 := fun z => by
          simp only [List.mem_cons, List.mem_append] at m
          have hb1 : b ∈ b1' → False := fun q => (far b (.inl z)).1 (by simp [q])
          have hin : b ∈ a :: dx :: (p1' ++ (b1 ++ q1')) → False := fun q => (hd1 b q).1 ((mem2 b).mpr (.inr z))
          simp only [List.mem_cons, List.mem_append] at hin
          grind
        refine ⟨fun z => ?_, fun z => ?_⟩
        · rcases (mA b).mp z with z | z
          · simp only [List.mem_cons, List.mem_append] at m
            rcases m with m | m | m | m | m
            · exact (fa b (.inl m)).2.1 z
            · exact (fa b (.inr (.inl m))).2.1 z
            · exact (fa b (.inr (.inr (by simp [m])))).2.1 z
            · exact nd3.2.1.2.2 b m b z rfl
            · exact (fa b (.inr (.inr (by simp [m])))).2.1 z
          · exact nr z
        · simp only [List.mem_cons, List.mem_append] at m
          rcases m with m | m | m | m | m
          · exact (far b (.inr (.inl m))).2 z
          · exact (far b (.inr (.inr (.inl m)))).2 z
          · exact (far b (.inr (.inr (.inr (by simp [m]))))).2 z
          · exact nf b (by simp [m]) z
          · exact (far b (.inr (.inr (.inr (by simp [m]))))).2 z
    have envE : (((ρ.set i .no).set k .no).set k (.ow d2')).set i (reSl xx (.ins c ns (fput ns os ds f true d1').2.1 (fput ns os ds f true d1').2.2)) = (ρ.set k (.ow d2')).set i (reSl xx (.ins c ns (fput ns os ds f true d1').2.1 (fput ns os ds f true d1').2.2)) := by
      rw [List.set_set, List.set_comm _ _ hik, List.set_set]
    rw [envE] at SB
    have memB : ∀ b, b ∈ asB → b ∈ b1' ∨ b ∈ b2' ∨ b ∈ rest2 ∨ b = a ∨ b = dx ∨ b ∈ p1' ++ q1' := fun b m => by
      rcases (mB b).mp m with m | m
      · simp only [List.mem_cons, List.mem_append] at m ⊢
        grind
      · rcases (mA b).mp m with m | m
        · exact .inr (.inl m)
        · exact .inr (.inr (.inl m))
    have asM : ∀ b, (b ∈ b1 ++ b2 ∨ b ∈ rest2 ∨ b = a ∨ b = dx ∨ b ∈ p1' ++ q1') → b ∈ as := fun b m => by
      refine (mem b).mpr ?_
      rcases m with m | m | m
      · rcases List.mem_append.mp m with m | m
        · exact .inl (inb1 b m)
        · exact .inr ((mem2 b).mpr (.inl m))
      · exact .inr ((mem2 b).mpr (.inr m))
      · refine .inl ?_
        simp only [List.mem_cons, List.mem_append] at m ⊢
        grind
    refine kk vr H' F' asB bs ⟨E.stb, fun b u hu nm => E.keep b u hu fun z => nm (asM b (.inl z)), E.dom, fun b z => ?_, fun b m => ?_, E.fk⟩ ⟨SB.env, List.nodup_append.mpr ⟨nd3.1, SB.nd, fun y hy z hz e => ?_⟩, fun b m => ?_, fk, r⟩
    · rcases E.fnew b z with z | z | z
      · exact .inl z
      · exact .inr (.inl (asM b (.inl z)))
      · exact .inr (.inr z)
    · rcases List.mem_append.mp m with m | m
      · exact (E.anew b (by simp [m])).imp_left fun z => asM b (.inl z)
      · rcases memB b m with m | m | m
        · exact (E.anew b (by simp [m])).imp_left fun z => asM b (.inl z)
        · exact (E.anew b (by simp [m])).imp_left fun z => asM b (.inl z)
        · exact .inl (asM b (.inr m))
    · subst e
      rcases memB y hz with m | m | m
      · exact nd3.2.2 y hy y (by simp [m]) rfl
      · exact nd3.2.2 y hy y (by simp [m]) rfl
      · exact (far y m).1 (by simp [hy])
    · rcases List.mem_append.mp m with m | m
      · exact nf b (by simp [m])
      · exact SB.nf b m
end DV

/-! DV21: the classes of a text. -/
namespace DV
open L2 PySem PySem.Spec PyProof.Rows
structure DefM (K : PySem.W.Frag) (mg : Str → Option Value) (c m qual : Str) (st : Stmt) (ps : List Str) : Prop where
  ex : ∃ C f fd, mg c = some (.ref C) ∧ Cls K C ∧ Meth K C m f ∧ Fun K m qual st f fd ∧ Binds K fd ps []
structure DefI (K : PySem.W.Frag) (mg : Str → Option Value) (c qual : Str) (st : Stmt) (ps : List Str) : Prop where
  ex : ∃ C f fd, mg c = some (.ref C) ∧ Mk K C f ∧ Fun K "__init__" qual st f fd ∧ Binds K fd ps []
section
variable {P : Program} {w : World} {K : PySem.W.Frag} {mg : Str → Option Value} {base : Heap}
theorem DefM.zero {c m qual : Str} {st : Stmt} {ps : List Str} {bo : List Bool} {G : FnD} (D : DefM K mg c m qual st ps) (hG : ∀ ds, G ds = none) : MetA P w K mg base 0 c m bo G := by
  obtain ⟨C, f, fd, hm, hc, me, F, hb⟩ := D.ex
  exact ⟨C, f, fd, ps, [], [], hm, hc, me, hb, .nil, fun _ _ => RepL.nil, fn_zero hG⟩
theorem DefM.step {c m qual : Str} {st : Stmt} {N ps : List Str} {n : Nat} {bo : List Bool} {g : FS} (D : DefM K mg c m qual st ps) (S : FnScope N ps (defScope st)) (hb : bo.length = ps.length)
    (hbody : ∀ (f : Addr) (cdv : Value) (A : Around) (outer : List PySem.Env) (s : Shared) (H : Hp) (E : XK), Room n (A.deeper (envOfC qual (defScope st) s.heap.objs.size f cdv)) → PSs (bodyX P w K mg base N qual (defScope st) f cdv A outer s H E) (defBody st) (tS ⟨K, mg⟩ g)) :
    MetA P w K mg base (n + 1) c m bo (runG bo N.length g) := by
  obtain ⟨C, f, fd, hm, hc, me, F, hbi⟩ := D.ex
  exact ⟨C, f, fd, ps, [], [], hm, hc, me, hbi, .nil, fun _ _ => RepL.nil, fn_ok F S hb rfl fun cdv A outer s H E hr => hbody f cdv A outer s H E hr⟩
theorem DefI.zero {c qual : Str} {st : Stmt} {ps : List Str} {bo : List Bool} {G : FnD} (D : DefI K mg c qual st ps) (hG : ∀ ds, G ds = none) : MakA P w K mg base 0 c bo G := by
  obtain ⟨C, f, fd, hm, mk, F, hb⟩ := D.ex
  exact ⟨C, f, fd, ps, [], [], hm, mk, hb, .nil, fun _ _ => RepL.nil, fn_zero hG⟩
theorem DefI.step {c qual : Str} {st : Stmt} {N ps : List Str} {n : Nat} {bo : List Bool} {g : FS} (D : DefI K mg c qual st ps) (S : FnScope N ps (defScope st)) (hb : bo.length = ps.length)
    (hbody : ∀ (f : Addr) (cdv : Value) (A : Around) (outer : List PySem.Env) (s : Shared) (H : Hp) (E : XK), Room n (A.deeper (envOfC qual (defScope st) s.heap.objs.size f cdv)) → PSs (bodyX P w K mg base N qual (defScope st) f cdv A outer s H E) (defBody st) (tS ⟨K, mg⟩ g)) :
    MakA P w K mg base (n + 1) c bo (runG bo N.length g) := by
  obtain ⟨C, f, fd, hm, mk, F, hbi⟩ := D.ex
  exact ⟨C, f, fd, ps, [], [], hm, mk, hbi, .nil, fun _ _ => RepL.nil, fn_ok F S hb rfl fun cdv A outer s H E hr => hbody f cdv A outer s H E hr⟩
/-- what a text's class is -/
structure ClsK (K : PySem.W.Frag) (mg : Str → Option Value) (c : Str) (C : Addr) : Prop where
  at_ : mg c = some (.ref C)
  cls : Cls K C
theorem defM_mk {c m qual : Str} {st : Stmt} {ps : List Str} {C : Addr} (k0 : ClsK K mg c C) {f : Addr} {od an : Option Addr} {sl : Array (Option Value)} {oc kV dc pm cd ct : Value}
    (hb : ∀ (kV doc pm : Value) (an : Option Addr) (cdv ct : Value) (us : List Value), us.length = ps.length → bindArgs (PySem.W.fnOf m qual (defArgs st) (defBody st) (defScope st) .none kV doc pm an cdv ct) ⟨us, []⟩ = pure (ps.zip us))
    (a : PySem.W.findIn K (.ref C) m = some (some (.ref f))) (i : PySem.W.isFn K (.ref f) = true) (l : K.lookup f = some ⟨oc, od, .func (PySem.W.fnOf m qual (defArgs st) (defBody st) (defScope st) .none kV dc pm an cd ct), sl⟩) (cc : PySem.W.codeIn K cd qual = true) (k : PySem.W.keepIn K (.ref f) = true) : DefM K mg c m qual st ps :=
  ⟨C, f, _, k0.at_, k0.cls, ⟨a, i, k⟩, fun_mk l cc k, (fun_mk l cc k).binds hb⟩
theorem defI_mk {c qual : Str} {st : Stmt} {ps : List Str} {C : Addr} (k0 : ClsK K mg c C) {f : Addr} {od an : Option Addr} {sl : Array (Option Value)} {oc kV dc pm cd ct : Value}
    (hb : ∀ (kV doc pm : Value) (an : Option Addr) (cdv ct : Value) (us : List Value), us.length = ps.length → bindArgs (PySem.W.fnOf "__init__" qual (defArgs st) (defBody st) (defScope st) .none kV doc pm an cdv ct) ⟨us, []⟩ = pure (ps.zip us))
    (mk : PySem.W.makesIn K C = true) (kc : PySem.W.keepIn K (.ref C) = true)
    (a : PySem.W.findIn K (.ref C) "__init__" = some (some (.ref f))) (i : PySem.W.isFn K (.ref f) = true) (l : K.lookup f = some ⟨oc, od, .func (PySem.W.fnOf "__init__" qual (defArgs st) (defBody st) (defScope st) .none kV dc pm an cd ct), sl⟩) (cc : PySem.W.codeIn K cd qual = true) (k : PySem.W.keepIn K (.ref f) = true) : DefI K mg c qual st ps :=
  ⟨C, f, _, k0.at_, ⟨mk, a, i, kc⟩, fun_mk l cc k, (fun_mk l cc k).binds hb⟩
theorem clsK_mk {h : Heap} {c : Str} {C : Addr} (X : K.In h) (G : h.Ns mainGlobals mg) (a : PySem.W.nsIn K mainGlobals c = some (some (.ref C))) (pg : PySem.W.plainGet K C Str.empty = true) (hd : PySem.W.hasDictIn K C = true) (po : PySem.W.plainOver K C = true) (sa : PySem.W.findIn K (.ref C) "__setattr__" = some (some (.builtin "object.__setattr__"))) : ClsK K mg c C :=
  ⟨PySem.W.mg_of X G a, ⟨pg, hd, po, sa⟩⟩
theorem clsF_mk {c f : Str} {C : Addr} (k0 : ClsK K mg c C) (n : PySem.W.findIn K (.ref C) f = some none) : ClsF ⟨K, mg⟩ c f := ⟨C, k0.at_, k0.cls, n⟩
theorem MetA.to {X : Cx} {n : Nat} {c m : Str} {bo : List Bool} {G : FnD} {dd : List D} (h : MetA X.prog X.w X.K X.mg X.base n c m bo G dd) : MetA X.prog X.w X.K X.mg X.base n c m bo G dd := h
end
end DV

/-! DV22: new objects by the table; a pair that is taken apart again; same of two lent lists. -/
namespace DV
open L2 PySem PySem.Spec PyProof.Rows
def NewA (P : Program) (w : World) (K : PySem.W.Frag) (mg : Str → Option Value) (base : Heap) (n : Nat) (c : Str) (bo : List Bool) (G : FnD) : Prop := (∀ ds, G ds = none) ∨ ∃ k, k + 1 ≤ n ∧ MakA P w K mg base k c bo G
section
variable {X : Cx} {pos p : Pos}
theorem gMake_none {bo : List Bool} {G : FnD} {dd : List D} {c : Str} {g : FL} (h : ∀ ds, G ds = none) {ρ : Env} : gMake bo G dd c g ρ = none := by
  unfold gMake
  split
  · split
    · rw [h]
    · rfl
  · rfl
theorem cw_new {n : Nat} {c : Str} {bo : List Bool} {G : FnD} {e : Expr} {es : List Expr} {g : FL} (M : NewA X.prog X.w X.K X.mg X.base n c bo G) (hr : Room n X.A) (hg : Gl X c) (ha : PA X (e :: es) (tL (kc X) g)) (hdb : (c == ("__debug__" : Str)) = false := by decide)
    (he : starEach (e :: es) X.env = (false, eval e X.env) :: starEach es X.env := by rfl) (hpl : (backTo pos (starEach es X.env)).any (·.1) = false := by rfl) : PE X (.Call (.Name c p) (e :: es) [] pos) (tW (kc X) (gMake bo G [] c g)) := by
  rcases M with h | ⟨k, hk, M⟩
  · exact ⟨fun pins s σ H Q I ⟨F, B, as, ρ, d, w, ρ', S, e, k⟩ => by rw [gMake_none h] at e; cases e⟩
  · exact cw_make M (hr.mono hk) hg ha hdb he hpl
theorem cw_new0 {n : Nat} {c : Str} {bo : List Bool} {G : FnD} (M : NewA X.prog X.w X.K X.mg X.base n c bo G) (hr : Room n X.A) (hg : Gl X c) (hdb : (c == ("__debug__" : Str)) = false := by decide) : PE X (.Call (.Name c p) [] [] pos) (tW (kc X) (gMake bo G [] c fun ρ => some ([], ρ))) := by
  rcases M with h | ⟨k, hk, M⟩
  · exact ⟨fun pins s σ H Q I ⟨F, B, as, ρ, d, w, ρ', S, e, k⟩ => by rw [gMake_none h] at e; cases e⟩
  · exact cw_make0 M (hr.mono hk) hg hdb
/-- a, b = x, y where the pair is made -/
theorem cs_parT {i j : Nat} {x y : Str} {a b : Expr} {ga gb : FW} {px py pt : Pos} {kt k2 pt2} (hc : X.calm = true) (hN : X.N.Nodup) (hi : X.N[i]? = some x) (hj : X.N[j]? = some y) (hx : Loc X.env.scope x) (hy : Loc X.env.scope y) (ha : PE X a (tW (kc X) ga)) (hb : PE X b (tW (kc X) gb))
    (hw : swappedStores [.Tuple [.Name x px, .Name y py] kt pt] (.Tuple [a, b] k2 pt2) X.env = pure none)
    (hs : swapsWithSole [.Tuple [.Name x px, .Name y py] kt pt] (.Tuple [a, b] k2 pt2) pos.line X.env = pure false := by rfl)
    (h1 : starEach [a, b] X.env = (false, eval a X.env) :: starEach [b] X.env := by rfl) (h2 : starEach [b] X.env = (false, eval b X.env) :: starEach [] X.env := by rfl)
    (h3 : (assignEach [.Name x px, .Name y py] X.env).map (·.2) = assign (.Name x px) X.env :: (assignEach [.Name y py] X.env).map (·.2) := by rfl) (h4 : (assignEach [.Name y py] X.env).map (·.2) = assign (.Name y py) X.env :: (assignEach [] X.env).map (·.2) := by rfl)
    (h5 : (assignEach [.Name x px, .Name y py] X.env).length = 2 := by rfl) (h6 : (assignEach [.Name x px, .Name y py] X.env).findIdx? (·.1) = none := by rfl)
    (h7 : (assignEach [.Tuple [.Name x px, .Name y py] kt pt] X.env).map (·.2) = [assign (.Tuple [.Name x px, .Name y py] kt pt) X.env] := by rfl)
    (f1 : X.fn x = true ∨ X.env.scope.names.lookup x = some .local := by first | exact .inl rfl | exact .inr rfl) (f2 : X.fn y = true ∨ X.env.scope.names.lookup y = some .local := by first | exact .inl rfl | exact .inr rfl) :
    PS X (.Assign [.Tuple [.Name x px, .Name y py] kt pt] (.Tuple [a, b] k2 pt2) pos) (tS (kc X) (gPar i j ga gb)) :=
  PS.to (ps_asg (pe_tup (pa_cons ha (pa_cons hb pa_nil h2) h1)) (pg_tup hc (pgs_cons (pg_name hN hi hx f1) (pgs_cons (pg_name hN hj hy f2) pgs_nil h4) h3) h5 h6) hs hw h7) fun D σ H ⟨F, B, as, ρ, fl, ρ', S, e, k⟩ => by
    unfold gPar at e
    split at e
    · rename_i d w ρ1 q1
      split at e
      · rename_i d' w' ρ2 q2
        split at e
        · rename_i ρ3 q3
          split at e
          · rename_i ρ4 q4
            cases e
            refine ⟨F, B, as, ρ, d, w, ρ1, S, q1, fun v H1 F1 as1 bs E1 S1 => ?_⟩
            have nn := List.nodup_append.mp S1.nd
            refine ⟨F1, B, as1, ρ1, d', w', ρ2, S1.drop, q2, fun v' H2 F2 as2 bs2 E2 S2 => ⟨by show 2 ≤ sizeLine; rw [sizeLine_eq]; omega, fun t ht => ?_⟩⟩
            have kp : Kept bs H1 H2 := E2.kept fun b m z => nn.2.2 b m b z rfl
            have own := S1.own E2.stb kp
            have far : ∀ b, b ∈ bs → b ∉ bs2 ++ as2 := fun b m z => by
              rcases E2.anew b z with z | z
              · exact nn.2.2 b m b z rfl
              · obtain ⟨u, hu⟩ := S1.thereB b m
                rw [hu] at z; cases z
            have nfb : ∀ b, b ∈ bs → ¬ F2 b := fun b m f => by
              rcases E2.fnew b f with z | z | z
              · exact S1.nf b (List.mem_append_left _ m) z
              · exact nn.2.2 b m b z rfl
              · obtain ⟨u, hu⟩ := S1.thereB b m
                rw [hu] at z; cases z
            have n2 := List.nodup_append.mp S2.nd
            have T : Sit2 (kc X) F2 B H2 ρ2 σ as2 d w v bs := ⟨S2.env, List.nodup_append.mpr ⟨nn.1, n2.2.1, fun x hx y hy e => far x hx (e ▸ List.mem_append_right _ hy)⟩, fun b m => (List.mem_append.mp m).elim (nfb b) fun m => S2.nf b (List.mem_append_right _ m), S2.fk, own⟩
            -- the pair itself
            have Et : ∀ as, Ext F2 as H2 F2 as (upd H2 t (.tup [v, v'])) := fun as => (Ext.newO (as := as) ht).sub fun b m => List.mem_cons_of_mem _ m
            have keep : ∀ l, Kept l H2 (upd H2 t (.tup [v, v'])) := fun l b m u hu => by rw [upd_ne (ne_of_none hu ht)]; exact hu
            have T' : Sit2 (kc X) F2 B (upd H2 t (.tup [v, v'])) ρ2 σ as2 d w v bs := ⟨T.env.stb (Et []).stb.weak (keep _), T.nd, T.nf, (Et []).fk T.fk, T.own (Et []).stb (keep _)⟩
            obtain ⟨as3, S3, m3⟩ := T'.bind q3
            have T2 : Sit2 (kc X) F2 B (upd H2 t (.tup [v, v'])) ρ3 (σ.set i (some v)) as3 d' w' v' bs2 := by
              refine ⟨S3.env, List.nodup_append.mpr ⟨n2.1, S3.nd, fun x hx y hy e => ?_⟩, fun b m => (List.mem_append.mp m).elim (fun m => S2.nf b (List.mem_append_left _ m)) fun m => S3.nf b m, S3.fk, S2.own (Et []).stb (keep _)⟩
              subst e
              rcases List.mem_append.mp (m3 x hy) with z | z
              · exact far x z (List.mem_append_left _ hx)
              · exact n2.2.2 x hx x z rfl
            obtain ⟨as4, S4, m4⟩ := T2.bind q4
            refine ⟨t, [v, v'], rfl, SqT.of upd_same, rfl, v, [v'], rfl, v', [], rfl, rfl, ?_⟩
            have E2' : Ext F1 (bs ++ as1) H1 F2 (bs ++ (bs2 ++ as2)) H2 := E2.frameL
            refine k _ _ F2 as4 (((E1.trans E2').trans (Et _)).sub fun b m => ?_) S4
            rcases List.mem_append.mp (m4 b m) with z | z
            · simp [z]
            · rcases List.mem_append.mp (m3 b z) with z | z <;> simp [z]
          · cases e
        · cases e
      · cases e
    · cases e
end
end DV

/-! DV23: the rows by which a run with objects, dicts is computed. -/
namespace DV
open L2 PySem PySem.Spec PyProof.Rows
section
variable {ρ ρ1 : Env}
@[simp] theorem insOf_at {c ns os ds} : insOf c (.ins c ns os ds) = some (ns, os, ds) := by simp [insOf]
def kFl (f : Str) : List Str × List Bool × List D → Option (Bool × D) := fun p => fld p.1 p.2.1 p.2.2 f
@[simp] theorem kFl_at {f ns os ds} : kFl f (ns, os, ds) = fld ns os ds f := rfl
@[simp] theorem at_fldOf {i c f} : fldOf i c f ρ = ((look ρ i).bind (insOf c)).bind (kFl f) := rfl
@[simp] theorem fld_cons {n ns o os d ds f} : fld (n :: ns) (o :: os) (d :: ds) f = if n = f then some (o, d) else fld ns os ds f := rfl
@[simp] theorem fput_nil {f w e} : fput [] [] [] f w e = ([f], [w], [e]) := rfl
@[simp] theorem fput_cons {n ns o os d ds f w e} : fput (n :: ns) (o :: os) (d :: ds) f w e = if n = f then (n :: ns, w :: os, e :: ds) else (n :: (fput ns os ds f w e).1, o :: (fput ns os ds f w e).2.1, d :: (fput ns os ds f w e).2.2) := rfl
def kFd (ρ : Env) : Bool × D → Option (D × Env)
  | (false, d) => some (d, ρ)
  | (true, _) => none
@[simp] theorem kFd_at {d} : kFd ρ (false, d) = some (d, ρ) := rfl
@[simp] theorem at_gFld {i c f} : gFld i c f ρ = (fldOf i c f ρ).bind (kFd ρ) := by
  unfold gFld; rcases fldOf i c f ρ with _ | ⟨_ | _, _⟩ <;> rfl
def kFv (ρ : Env) : Bool × D → D × Env := fun p => (p.2, ρ)
@[simp] theorem kFv_at {w d} : kFv ρ (w, d) = (d, ρ) := rfl
@[simp] theorem at_gFlV {i c f} : gFlV i c f ρ = (fldOf i c f ρ).map (kFv ρ) := by
  unfold gFlV; rcases fldOf i c f ρ with _ | ⟨_, _⟩ <;> rfl
def kOV (f : D → Option D) : D × Env → Option (D × Env) := fun p => (f p.1).map (kWith p.2)
@[simp] theorem kOV_at {f : D → Option D} {d} : kOV f (d, ρ1) = (f d).map (kWith ρ1) := rfl
@[simp] theorem at_op1V {f : D → Option D} {g : FD} : gOp1V f g ρ = (g ρ).bind (kOV f) := by
  unfold gOp1V
  rcases g ρ with _ | ⟨x, ρ1⟩
  · rfl
  · simp only [Option.bind_some, kOV_at]
    rcases f x with _ | _ <;> rfl
/-- the name was put aside -/
def isNo : Option Sl → Bool
  | some .no => true
  | _ => false
@[simp] theorem isNo_no : isNo (some .no) = true := rfl
def kIF2 (i : Nat) (ρ : Env) (d : D) : D × Env → Option (D × Env) := fun p => if isNo p.2[i]? = true then (ixD d p.1).map (kWith (p.2.set i (ρ.getD i .no))) else none
@[simp] theorem kIF2_at {i d k} : kIF2 i ρ d (k, ρ1) = if isNo ρ1[i]? = true then (ixD d k).map (kWith (ρ1.set i (ρ.getD i .no))) else none := rfl
def kIF1 (i : Nat) (ρ : Env) (g : FD) : Bool × D → Option (D × Env) := fun p => (g (ρ.set i .no)).bind (kIF2 i ρ p.2)
@[simp] theorem kIF1_at {i} {g : FD} {w d} : kIF1 i ρ g (w, d) = (g (ρ.set i .no)).bind (kIF2 i ρ d) := rfl
@[simp] theorem at_gIxF {i c f} {g : FD} : gIxF i c f g ρ = (fldOf i c f ρ).bind (kIF1 i ρ g) := by
  unfold gIxF
  rcases fldOf i c f ρ with _ | ⟨w, d⟩
  · rfl
  · simp only [Option.bind_some, kIF1_at]
    rcases g (ρ.set i .no) with _ | ⟨k, ρ1⟩
    · rfl
    · simp only [Option.bind_some, kIF2_at]
      rcases ρ1[i]? with _ | _ | _ | _ | _
      · rfl
      · simp only [isNo_no, if_true]
        rcases ixD d k with _ | _ <;> rfl
      · rfl
      · rfl
      · rfl
def kAd (i : Nat) (x : Sl) : D × Env → Option (D × Env) := fun p => if isNo p.2[i]? = true then some (p.1, p.2.set i x) else none
@[simp] theorem kAd_at {i x d} : kAd i x (d, ρ1) = if isNo ρ1[i]? = true then some (d, ρ1.set i x) else none := rfl
def kAd0 (i : Nat) (ρ : Env) (g : FD) : Sl → Option (D × Env) := fun x => (g (ρ.set i .no)).bind (kAd i x)
@[simp] theorem kAd0_at {i} {g : FD} {x} : kAd0 i ρ g x = (g (ρ.set i .no)).bind (kAd i x) := rfl
@[simp] theorem at_gAside {i} {g : FD} : gAside i g ρ = ρ[i]?.bind (kAd0 i ρ g) := by
  unfold gAside
  rcases ρ[i]? with _ | x
  · rfl
  · simp only [Option.bind_some, kAd0_at]
    rcases g (ρ.set i .no) with _ | ⟨d, ρ1⟩
    · rfl
    · simp only [Option.bind_some, kAd_at]
      rcases ρ1[i]? with _ | _ | _ | _ | _ <;> rfl
@[simp] theorem unSh_ow {d} : unSh (.ow d) = true := rfl
@[simp] theorem unSh_bo {k d} : unSh (.bo k d) = true := rfl
def kBk (i : Nat) (c f : Str) (c' : D) (ρ : Env) : Sl → Option Env
  | .ow (.ins c0 ns os ds) => if c0 = c then some (ρ.set i (.ow (.ins c ns (fput ns os ds f true c').2.1 (fput ns os ds f true c').2.2))) else none
  | .bo k (.ins c0 ns os ds) => if c0 = c then some (ρ.set i (.bo k (.ins c ns (fput ns os ds f true c').2.1 (fput ns os ds f true c').2.2))) else none
  | _ => none
@[simp] theorem kBk_ow {i c f c' c0 ns os ds} : kBk i c f c' ρ (.ow (.ins c0 ns os ds)) = if c0 = c then some (ρ.set i (.ow (.ins c ns (fput ns os ds f true c').2.1 (fput ns os ds f true c').2.2))) else none := rfl
@[simp] theorem kBk_bo {i c f c' c0 ns os ds k} : kBk i c f c' ρ (.bo k (.ins c0 ns os ds)) = if c0 = c then some (ρ.set i (.bo k (.ins c ns (fput ns os ds f true c').2.1 (fput ns os ds f true c').2.2))) else none := rfl
@[simp] theorem at_backF {i c f c'} : backF i c f c' ρ = ρ[i]?.bind (kBk i c f c' ρ) := by
  unfold backF look
  rcases ρ[i]? with _ | x
  · rfl
  · cases x with
    | no => rfl
    | sh d =>
      simp only [Option.bind_some]
      cases d with
      | ins c0 ns os ds =>
        by_cases h : c0 = c
        · subst h; simp [unSh, kBk]
        · simp [insOf, h, kBk]
      | _ => rfl
    | ow d =>
      simp only [Option.bind_some]
      cases d with
      | ins c0 ns os ds =>
        by_cases h : c0 = c
        · subst h; simp
        · simp [insOf, h]
      | _ => rfl
    | bo k d =>
      simp only [Option.bind_some]
      cases d with
      | ins c0 ns os ds =>
        by_cases h : c0 = c
        · subst h; simp
        · simp [insOf, h]
      | _ => rfl
def kSF2 (i : Nat) (c f : Str) (d : D) (w : Bool) (ρ : Env) : Sl → Option (Fl × Env)
  | .ow (.ins c0 ns os ds) => if c0 = c ∧ (!w || isC d) = true ∧ ns.length < 1000 then some (.nx, ρ.set i (.ow (.ins c (fput ns os ds f w d).1 (fput ns os ds f w d).2.1 (fput ns os ds f w d).2.2))) else none
  | .bo k (.ins c0 ns os ds) => if c0 = c ∧ (!w || isC d) = true ∧ ns.length < 1000 then some (.nx, ρ.set i (.bo k (.ins c (fput ns os ds f w d).1 (fput ns os ds f w d).2.1 (fput ns os ds f w d).2.2))) else none
  | _ => none
@[simp] theorem kSF2_ow {i c f d w c0 ns os ds} : kSF2 i c f d w ρ (.ow (.ins c0 ns os ds)) = if c0 = c ∧ (!w || isC d) = true ∧ ns.length < 1000 then some (.nx, ρ.set i (.ow (.ins c (fput ns os ds f w d).1 (fput ns os ds f w d).2.1 (fput ns os ds f w d).2.2))) else none := rfl
@[simp] theorem kSF2_bo {i c f d w c0 ns os ds k} : kSF2 i c f d w ρ (.bo k (.ins c0 ns os ds)) = if c0 = c ∧ (!w || isC d) = true ∧ ns.length < 1000 then some (.nx, ρ.set i (.bo k (.ins c (fput ns os ds f w d).1 (fput ns os ds f w d).2.1 (fput ns os ds f w d).2.2))) else none := rfl
def kSF1 (i : Nat) (c f : Str) : D × Bool × Env → Option (Fl × Env) := fun p => p.2.2[i]?.bind (kSF2 i c f p.1 p.2.1 p.2.2)
@[simp] theorem kSF1_at {i c f d w} : kSF1 i c f (d, w, ρ1) = ρ1[i]?.bind (kSF2 i c f d w ρ1) := rfl
@[simp] theorem at_setF {i c f} {g : FW} : gSetF i c f g ρ = (g ρ).bind (kSF1 i c f) := by
  unfold gSetF look
  rcases g ρ with _ | ⟨d, w, ρ1⟩
  · rfl
  · simp only [Option.bind_some, kSF1_at]
    rcases ρ1[i]? with _ | x
    · rfl
    · cases x with
      | no => rfl
      | sh e =>
        simp only [Option.bind_some]
        cases e with
        | ins c0 ns os ds =>
          by_cases h : c0 = c
          · subst h; simp [unSh, kSF2]
          · simp [insOf, h, kSF2]
        | _ => rfl
      | ow e =>
        simp only [Option.bind_some]
        cases e with
        | ins c0 ns os ds =>
          by_cases h : c0 = c
          · subst h; simp
          · simp [insOf, h]
        | _ => rfl
      | bo k e =>
        simp only [Option.bind_some]
        cases e with
        | ins c0 ns os ds =>
          by_cases h : c0 = c
          · subst h; simp
          · simp [insOf, h]
        | _ => rfl
def kPF3 (i : Nat) (c f : Str) (cont d : D) : D × Env → Option (Fl × Env) := fun p => (putD cont p.1 d).bind fun c' => (backF i c f c' p.2).map kNx
@[simp] theorem kPF3_at {i c f cont d k} : kPF3 i c f cont d (k, ρ1) = (putD cont k d).bind fun c' => (backF i c f c' ρ1).map kNx := rfl
def kPF2 (i : Nat) (c f : Str) (gk : FD) (d : D) (ρ : Env) : Bool × D → Option (Fl × Env)
  | (true, cont) => (gAside i gk ρ).bind (kPF3 i c f cont d)
  | (false, _) => none
@[simp] theorem kPF2_at {i c f} {gk : FD} {d cont} : kPF2 i c f gk d ρ (true, cont) = (gAside i gk ρ).bind (kPF3 i c f cont d) := rfl
def kPF1 (i : Nat) (c f : Str) (gk : FD) : D × Env → Option (Fl × Env) := fun p => (fldOf i c f p.2).bind (kPF2 i c f gk p.1 p.2)
@[simp] theorem kPF1_at {i c f} {gk : FD} {d} : kPF1 i c f gk (d, ρ1) = (fldOf i c f ρ1).bind (kPF2 i c f gk d ρ1) := rfl
@[simp] theorem at_putF {i c f} {ge gk : FD} : gPutF i c f ge gk ρ = (ge ρ).bind (kPF1 i c f gk) := by
  unfold gPutF
  rcases ge ρ with _ | ⟨d, ρ1⟩
  · rfl
  · simp only [Option.bind_some, kPF1_at]
    rcases fldOf i c f ρ1 with _ | ⟨_ | _, cont⟩
    · rfl
    · rfl
    · simp only [Option.bind_some, kPF2_at]
      rcases gAside i gk ρ1 with _ | ⟨k, ρ2⟩
      · rfl
      · simp only [Option.bind_some, kPF3_at]
        rcases putD cont k d with _ | c'
        · rfl
        · simp only [Option.bind_some]
          rcases backF i c f c' ρ2 with _ | _ <;> rfl
def kAF2 (i : Nat) (c f : Str) (xs : List D) : D × Env → Option (Fl × Env) := fun p => if xs.length < SZ then (backF i c f (.lst (xs ++ [p.1])) p.2).map kNx else none
@[simp] theorem kAF2_at {i c f xs d} : kAF2 i c f xs (d, ρ1) = if xs.length < SZ then (backF i c f (.lst (xs ++ [d])) ρ1).map kNx else none := rfl
def kAF1 (i : Nat) (c f : Str) (g : FD) (ρ : Env) : Bool × D → Option (Fl × Env)
  | (true, .lst xs) => (gAside i g ρ).bind (kAF2 i c f xs)
  | _ => none
@[simp] theorem kAF1_at {i c f} {g : FD} {xs} : kAF1 i c f g ρ (true, .lst xs) = (gAside i g ρ).bind (kAF2 i c f xs) := rfl
@[simp] theorem at_appF {i c f} {g : FD} : gAppF i c f g ρ = (fldOf i c f ρ).bind (kAF1 i c f g ρ) := by
  unfold gAppF
  rcases fldOf i c f ρ with _ | ⟨_ | _, cont⟩
  · rfl
  · cases cont <;> rfl
  · cases cont with
    | lst xs =>
      simp only [Option.bind_some, kAF1_at]
      rcases gAside i g ρ with _ | ⟨d, ρ1⟩
      · rfl
      · simp only [Option.bind_some, kAF2_at]
        split
        · rcases backF i c f (.lst (xs ++ [d])) ρ1 with _ | _ <;> rfl
        · rfl
    | _ => rfl
def kSl (i : Nat) (m : Str) (ga : FAr) (ρ : Env) : List Str × List Bool × List D → Option (List Ar × Env) := fun p => if p.1.contains m = false then gBo i ga ρ else none
@[simp] theorem kSl_at {i m} {ga : FAr} {ns os ds} : kSl i m ga ρ (ns, os, ds) = if ns.contains m = false then gBo i ga ρ else none := rfl
@[simp] theorem at_self {i c m} {ga : FAr} : gSelf i c m ga ρ = ((look ρ i).bind (insOf c)).bind (kSl i m ga ρ) := by
  unfold gSelf
  rcases (look ρ i).bind (insOf c) with _ | ⟨_, _, _⟩ <;> rfl
def kMk2 (ρ : Env) : D × Bool × List D → Option (D × Bool × Env)
  | (.non, false, [d]) => some (d, true, ρ)
  | _ => none
@[simp] theorem kMk2_at {d} : kMk2 ρ (.non, false, [d]) = some (d, true, ρ) := rfl
def kMk1 (bo : List Bool) (G : FnD) (dd : List D) (c : Str) : List D × Env → Option (D × Bool × Env) := fun p => if bo = true :: (p.1 ++ dd).map (fun _ => false) then (G (.ins c [] [] [] :: (p.1 ++ dd))).bind (kMk2 p.2) else none
@[simp] theorem kMk1_at {bo} {G : FnD} {dd c ds} : kMk1 bo G dd c (ds, ρ1) = if bo = true :: (ds ++ dd).map (fun _ => false) then (G (.ins c [] [] [] :: (ds ++ dd))).bind (kMk2 ρ1) else none := rfl
@[simp] theorem at_make {bo} {G : FnD} {dd c} {g : FL} : gMake bo G dd c g ρ = (g ρ).bind (kMk1 bo G dd c) := by
  unfold gMake
  rcases g ρ with _ | ⟨ds, ρ1⟩
  · rfl
  · simp only [Option.bind_some, kMk1_at]
    split
    · generalize G (D.ins c [] [] [] :: (ds ++ dd)) = r
      unfold kMk2
      rcases r with _ | ⟨d, w, l⟩
      · rfl
      · simp only [Option.bind_some]
        cases d <;> cases w <;> rcases l with _ | ⟨x, _ | ⟨y, l⟩⟩ <;> rfl
    · rfl
def kTw2 (i : Nat) (c f : Str) (k : Nat) (ρ : Env) : D × Bool × List D → Option (D × Bool × Env)
  | (d, w, [d1, d2]) => if isC d1 = true then (backF i c f d1 (ρ.set k (.ow d2))).map (kCl4 d w) else none
  | _ => none
@[simp] theorem kTw2_at {i c f k d w d1 d2} : kTw2 i c f k ρ (d, w, [d1, d2]) = if isC d1 = true then (backF i c f d1 (ρ.set k (.ow d2))).map (kCl4 d w) else none := rfl
theorem at_two {G : FnD} {i k c f d1 d2 x} (hik : i ≠ k) (h1 : fldOf i c f ρ = some (true, d1)) (h2 : ρ[i]? = some x) (h3 : ρ[k]? = some (.ow d2)) (h4 : unSh x = true) : gTwo G i c f k ρ = (G [d1, d2]).bind (kTw2 i c f k ρ) := by
  unfold gTwo
  rw [if_neg hik, h1, h2, h3]
  simp only [h4, if_true]
  generalize G [d1, d2] = r
  rcases r with _ | ⟨d, w, _ | ⟨a, _ | ⟨b, _ | ⟨c, l⟩⟩⟩⟩
  · rfl
  · rfl
  · rfl
  · simp only [Option.bind_some, kTw2_at]
    split
    · rcases backF i c f a (ρ.set k (.ow b)) with _ | _ <;> rfl
    · rfl
  · rfl
def kSqA : D × Env → Option (List D × Env)
  | (.lst xs, ρ1) => some (xs, ρ1)
  | (.tup xs, ρ1) => some (xs, ρ1)
  | (.str x, ρ1) => some (x.cps.toList.map fun c => .str ⟨#[c]⟩, ρ1)
  | _ => none
@[simp] theorem kSqA_lst {xs} : kSqA (.lst xs, ρ1) = some (xs, ρ1) := rfl
@[simp] theorem kSqA_tup {xs} : kSqA (.tup xs, ρ1) = some (xs, ρ1) := rfl
@[simp] theorem at_sqA {g : FD} : gSqA g ρ = (g ρ).bind kSqA := by
  unfold gSqA
  rcases g ρ with _ | ⟨d, _⟩
  · rfl
  · cases d <;> rfl
end
@[simp] theorem mul0 {x : D} {xs : List D} : mulD (.tup (x :: xs)) (.int 0) = some (.tup []) := rfl
@[simp] theorem mul1 {x : D} {xs : List D} : mulD (.tup (x :: xs)) (.int 1) = some (.tup (x :: xs)) := rfl
@[simp] theorem mul2 {x : D} : mulD (.tup [x]) (.int 2) = some (.tup [x, x]) := rfl
/-- same, both lent -/
theorem same_two {S : Nat → FnD} (hS : ∀ n ds, S (n + 1) ds = runG [false, false] 3 (sameB (S n)) ds) {n : Nat} {xs : List D} (h1 : xs.length ≤ 1000) (h : plnL xs n) : runG [true, true] 3 (sameB (S (n + 1))) [.lst xs, .lst xs] = some (.bl true, false, [.lst xs, .lst xs]) := by
  have ih : ∀ (i : Nat) (x : D), xs[i]? = some x → S (n + 1) [x, x] = some (.bl true, false, []) := fun i x e => same_ok hS n x (h.get e)
  have lp : ∀ l : List Nat, (∀ i ∈ l, i < xs.length) → compD [2] (hNm 2) (gNot (gT (shW (gCallD [false, false] (S (n + 1)) [] (gVa (gOp2 ixD (oNm 0) (oNm 2)) (gVa (gOp2 ixD (oNm 1) (oNm 2)) (fun ρ => some ([], ρ)))))))) (gNm 2) (l.map fun i => .int (0 + (i : Nat))) [.bo 0 (.lst xs), .bo 1 (.lst xs), .no] = some ([], [.bo 0 (.lst xs), .bo 1 (.lst xs), .no]) := by
    intro l
    induction l with
    | nil => intro _; rfl
    | cons i l ihl =>
      intro hl
      have hi := hl i List.mem_cons_self
      have e := ih i _ (List.getElem?_eq_getElem hi)
      have ex : xs[i]? = some xs[i] := List.getElem?_eq_getElem hi
      have ih2 := ihl fun j m => hl j (List.mem_cons_of_mem _ m)
      simp only [List.map_cons, compD_cons]
      simp [ex, e]
      simpa using ih2
  have lp2 := lp (List.range xs.length) fun i m => List.mem_range.mp m
  have hl : (xs.length : Int) ≤ 100000 := by omega
  have hl2 : (-100000 : Int) ≤ xs.length := by omega
  simp [at_run, sameB, isTg_eq, isNon, rngD, hl, hl2]
  simp at lp2
  simp [lp2]
end DV

/-! DV24: defs that are handed in; a class's def called by the class; d.get of a written dict; a list turned round. -/
namespace DV
open L2 PySem PySem.Spec PyProof.Rows
section
variable {X : Cx} {pos p apos : Pos}
/-- a def as a value -/
theorem cd_fn {n : Nat} {x : Str} {bo : List Bool} {G : FnD} {dd : List D} (Fn : FnAt X n x bo G dd) (hg : Gl X x) (hd : (x == ("__debug__" : Str)) = false := by decide) : PE X (.Name x pos) (tD (kc X) fun ρ => some (.fn x, ρ)) := by
  obtain ⟨f, fd, ps, ds, dvs, hm, hk, hb, hv, hdd, ok⟩ := Fn.at_
  exact PE.to (pe_glob (v := .ref f) hg hm rfl hd) fun σ H Q ⟨F, B, as, ρ, d, ρ', S, e, h⟩ => by cases e; exact h _ H F as .refl S (by unfold Rep; exact ⟨f, rfl, hm⟩)
/-- f(..), f a name that holds the def x -/
def gCallL (i : Nat) (x : Str) (bo : List Bool) (G : FnD) (dd : List D) (ga : FAr) : FW := fun ρ => match ρ[i]? with
  | some (.sh (.fn y)) => if y = x then gCallD bo G dd ga ρ else none
  | _ => none
theorem cw_callL {n i : Nat} {x y : Str} {bo : List Bool} {G : FnD} {dd : List D} {e : Expr} {es : List Expr} {ga : FAr} (Fn : FnAt X n x bo G dd) (hr : Room n X.A) (ha : PA X (e :: es) (tAr (kc X) ga)) (hN : X.N[i]? = some y := by rfl) (hv : Vis X.env.scope y := by first | exact Or.inl rfl | exact Or.inr (Or.inl rfl) | exact Or.inr (Or.inr rfl))
    (hdb : (y == ("__debug__" : Str)) = false := by decide) (hcd : (y == ("__classdict__" : Str)) = false := by decide) (he : starEach (e :: es) X.env = (false, eval e X.env) :: starEach es X.env := by rfl) (hpl : (backTo pos (starEach es X.env)).any (·.1) = false := by rfl) :
    PE X (.Call (.Name y p) (e :: es) [] pos) (tW (kc X) (gCallL i x bo G dd ga)) := by
  obtain ⟨f, fd, ps, ds, dvs, hm, hk, hb, hvv, hdd, ok⟩ := Fn.at_
  refine PE.to (pe_callL (i := i) ok hr hN hv hk hb hvv pass0 ha hdb hcd he hpl) fun σ H Q h => ?_
  obtain ⟨F, B, as, ρ, d, w, ρ', S, e, k⟩ := h
  unfold gCallL at e
  split at e
  · rename_i y q
    split at e
    · rename_i hy
      subst hy
      obtain ⟨o, p, a, qq, _, eo, hs, _⟩ := S.env.split q
      unfold SlR at hs
      obtain ⟨_, v, e1, r⟩ := hs
      unfold Rep at r
      obtain ⟨f', rfl, hm'⟩ := r
      have hm2 : X.mg y = some (.ref f') := hm'
      rw [hm] at hm2
      cases hm2
      subst e1
      exact ⟨eo, callD_fit (E := E0) hdd ⟨F, B, as, ρ, d, w, ρ', S, e, k⟩⟩
    · cases e
  · cases e
/-- C.m(..), C a class of the text, m a def that it has -/
def tUCall (C : Addr) (sp : Sp) (dvs : List V) (E : XK) (ta : TE) (t : TA) : TE := fun σ H Q => ta σ H fun x H1 => x = .ref C ∧ t σ H1 fun vs H2 => sp (vs ++ dvs) H2 Q E
theorem pe_ucall {CX : CXT} {k : Nat} {C f : Addr} {mc : Value} {fd : FuncData} {ps : List Str} {ds : List Value} {dvs : List V} {sp : Sp} {E : XK} {o e : Expr} {es : List Expr} {m : Str} {ta : TE} {t : TA} {pl : Sem Bool} (he : PE X o ta) (r : ClX.CRead X.K C mc) (c : ClX.CVal X.K C mc m (.ref f) (.ref f))
    (F : FnOk X.prog X.w X.K X.mg X.base CX k f fd ps sp) (hr : Room k X.A) (hk : PySem.W.keepIn X.K (.ref f) = true) (hb : Binds X.K fd ps ds) (hd : Vals dvs ds) (hx : Passes CX X E) (ha : PA X (e :: es) t)
    (hst : starEach (e :: es) X.env = (false, eval e X.env) :: starEach es X.env := by rfl) (hpl : (backTo pos (starEach es X.env)).any (·.1) = false := by rfl)
    (ht : eval (.Call (.Attribute o m apos) (e :: es) [] pos) X.env = (do
      let ov ← eval o X.env
      standAt apos.atName
      let (f, first) ← holding [ov] (getMethod ov m pl)
      callWith pos f first (backTo pos (starEach (e :: es) X.env)) (backToKw pos (keywordEach [] X.env))) := by rfl) :
    PE X (.Call (.Attribute o m apos) (e :: es) [] pos) (tUCall C sp dvs E ta t) := by
  refine ⟨fun pins s σ H Q I h => ?_⟩
  refine PySem.W.methodCall_KW (pl := pl) (thn (he.run pins s σ H _ I h) fun u s1 ⟨x, H1, I1, rx, ex, q⟩ => ?_) ht
  subst ex
  obtain rfl : u = Value.ref C := rx
  refine PySem.W.method_cls I1.kIn r.ga (ClX.getcval_ok I1 r c fun s2 I2 => ?_)
  refine PySem.W.callWith_K (h₀ := X.base) I2.ok.mod.kin hk (thn (ha.run pos pins s2 σ _ _ I2 q) fun us s3 ⟨vs, H2, I3, rr, q3⟩ => ⟨I3.kIn, ?_⟩) hst hpl
  exact run_fn F hr hb hd hx I3 rr q3
end
structure UnbA (P : Program) (w : World) (K : PySem.W.Frag) (mg : Str → Option Value) (base : Heap) (n : Nat) (c m : Str) (bo : List Bool) (G : FnD) : Prop where
  at_ : ∃ C mc f fd ps ds dvs, mg c = some (.ref C) ∧ ClX.CRead K C mc ∧ ClX.CVal K C mc m (.ref f) (.ref f) ∧ PySem.W.keepIn K (.ref f) = true ∧ Binds K fd ps ds ∧ Vals dvs ds ∧ (∀ F H, RepL ⟨K, mg⟩ F H [] dvs) ∧ FnOk P w K mg base CX0 n f fd ps (spD ⟨K, mg⟩ bo G)
section
variable {X : Cx} {pos p apos : Pos}
theorem cw_unb {n : Nat} {c m : Str} {bo : List Bool} {G : FnD} {e : Expr} {es : List Expr} {ga : FAr} (M : UnbA X.prog X.w X.K X.mg X.base n c m bo G) (hr : Room n X.A) (hg : Gl X c) (ha : PA X (e :: es) (tAr (kc X) ga)) (hd : (c == ("__debug__" : Str)) = false := by decide)
    (hst : starEach (e :: es) X.env = (false, eval e X.env) :: starEach es X.env := by rfl) (hpl : (backTo pos (starEach es X.env)).any (·.1) = false := by rfl) {pl : Sem Bool}
    (ht : eval (.Call (.Attribute (.Name c p) m apos) (e :: es) [] pos) X.env = (do
      let ov ← eval (.Name c p) X.env
      standAt apos.atName
      let (f, first) ← holding [ov] (getMethod ov m pl)
      callWith pos f first (backTo pos (starEach (e :: es) X.env)) (backToKw pos (keywordEach [] X.env))) := by rfl) :
    PE X (.Call (.Attribute (.Name c p) m apos) (e :: es) [] pos) (tW (kc X) (gCallD bo G [] ga)) := by
  obtain ⟨C, mc, f, fd, ps, ds, dvs, hm, hc, hv, hk, hb, hvv, hdd, ok⟩ := M.at_
  refine PE.to (pe_ucall (pl := pl) (pe_glob (v := .ref C) hg hm rfl hd) hc hv ok hr hk hb hvv pass0 ha hst hpl ht) fun σ H Q h => ?_
  exact ⟨rfl, callD_fit (E := E0) hdd h⟩
end
structure DefU (K : PySem.W.Frag) (mg : Str → Option Value) (c m n qual : Str) (st : Stmt) (ps : List Str) : Prop where
  ex : ∃ C mc f fd, mg c = some (.ref C) ∧ ClX.CRead K C mc ∧ ClX.CVal K C mc m (.ref f) (.ref f) ∧ PySem.W.keepIn K (.ref f) = true ∧ Fun K n qual st f fd ∧ Binds K fd ps []
section
variable {P : Program} {w : World} {K : PySem.W.Frag} {mg : Str → Option Value} {base : Heap}
theorem DefU.zero {c m nm qual : Str} {st : Stmt} {ps : List Str} {bo : List Bool} {G : FnD} (D : DefU K mg c m nm qual st ps) (hG : ∀ ds, G ds = none) : UnbA P w K mg base 0 c m bo G := by
  obtain ⟨C, mc, f, fd, hm, hc, hv, hk, F, hb⟩ := D.ex
  exact ⟨C, mc, f, fd, ps, [], [], hm, hc, hv, hk, hb, .nil, fun _ _ => RepL.nil, fn_zero hG⟩
theorem DefU.step {c m nm qual : Str} {st : Stmt} {N ps : List Str} {n : Nat} {bo : List Bool} {g : FS} (D : DefU K mg c m nm qual st ps) (S : FnScope N ps (defScope st)) (hb : bo.length = ps.length)
    (hbody : ∀ (f : Addr) (cdv : Value) (A : Around) (outer : List PySem.Env) (s : Shared) (H : Hp) (E : XK), Room n (A.deeper (envOfC qual (defScope st) s.heap.objs.size f cdv)) → PSs (bodyX P w K mg base N qual (defScope st) f cdv A outer s H E) (defBody st) (tS ⟨K, mg⟩ g)) :
    UnbA P w K mg base (n + 1) c m bo (runG bo N.length g) := by
  obtain ⟨C, mc, f, fd, hm, hc, hv, hk, F, hbi⟩ := D.ex
  exact ⟨C, mc, f, fd, ps, [], [], hm, hc, hv, hk, hbi, .nil, fun _ _ => RepL.nil, fn_ok F S hb rfl fun cdv A outer s H E hr => hbody f cdv A outer s H E hr⟩
theorem defU_mk {c m nm qual : Str} {st : Stmt} {ps : List Str} {C : Addr} {mc : Value} (k0 : ClsK K mg c C) {f : Addr} {od an : Option Addr} {sl : Array (Option Value)} {oc kV dc pm cd ct : Value}
    (hb : ∀ (kV doc pm : Value) (an : Option Addr) (cdv ct : Value) (us : List Value), us.length = ps.length → bindArgs (PySem.W.fnOf nm qual (defArgs st) (defBody st) (defScope st) .none kV doc pm an cdv ct) ⟨us, []⟩ = pure (ps.zip us))
    (rd : PySem.W.readsIn K C mc = true) (ga : PySem.W.specialIn K (.ref C) "__getattribute__" = some (some (.builtin "type.__getattribute__"))) (a : PySem.W.findCls K (.ref C) mc m = some (.val (.ref f)))
    (l : K.lookup f = some ⟨oc, od, .func (PySem.W.fnOf nm qual (defArgs st) (defBody st) (defScope st) .none kV dc pm an cd ct), sl⟩) (cc : PySem.W.codeIn K cd qual = true) (k : PySem.W.keepIn K (.ref f) = true) : DefU K mg c m nm qual st ps :=
  ⟨C, mc, f, _, k0.at_, ⟨rd, ga⟩, ⟨a, rfl⟩, k, fun_mk l cc k, (fun_mk l cc k).binds hb⟩
end
/-! ### {a: b}.get(e, f) -/
def gPick (a b : Str) (ge gf : FD) : FD := fun ρ => match ge ρ with
  | some (.str z, ρ1) => match gf ρ1 with
    | some (d, ρ2) => some (if z = a then .str b else d, ρ2)
    | none => none
  | _ => none
section
variable {X : Cx} {pos p apos : Pos}
theorem cd_pick {k : Nat} {a b : Str} {e f : Expr} {ge gf : FD} {j1 j2 p1 p2 pd} (hr : Room k X.A) (he : PE X e (tD (kc X) ge)) (hf : PE X f (tD (kc X) gf)) (m : M2 X (.Dict [some (.Constant (.str a) j1 p1)] [.Constant (.str b) j2 p2] pd) "get" apos e f pos := by exact ⟨rfl, rfl, rfl, rfl⟩) :
    PE X (.Call (.Attribute (.Dict [some (.Constant (.str a) j1 p1)] [.Constant (.str b) j2 p2] pd) "get" apos) [e, f] [] pos) (tD (kc X) (gPick a b ge gf)) := by
  refine PE.to (pe_dget2 (ru1 hr) (pe_disp (pps_cons pe_str pe_str pps_nil) rfl rfl (by simp) (by simp)) he hf m) fun σ H Q ⟨F, B, as, ρ, d, ρ', S, e, k⟩ => ?_
  unfold gPick at e
  split at e
  · rename_i z ρ1 q1
    split at e
    · rename_i d2 ρ2 q2
      cases e
      intro q hq
      refine ⟨upd_same, [(.inr a, .str b)], rfl, by simp, ?_⟩
      have eu : upd (upd H q (.dK [])) q (.dK (mergeK [] [((.inr a : Key), V.str b)])) = upd H q (.dK [((.inr a : Key), V.str b)]) := by
        funext x
        by_cases h : x = q
        · subst h; rw [upd_same, upd_same]; rfl
        · rw [upd_ne h, upd_ne h, upd_ne h]
      rw [eu]
      have En : Ext F [] H F [] (upd H q (.dK [((.inr a : Key), V.str b)])) := (Ext.newO (as := []) hq).sub fun b m => by cases m
      have nq : q ∉ as := fun m => by obtain ⟨u, hu⟩ := S.env.there q m; rw [hq] at hu; cases hu
      refine ⟨q, rfl, .inl ⟨_, .inl upd_same⟩, F, B, as, ρ, _, _, S.step En, q1, fun v1 H1 F1 as1 E1 S1 r1 => ?_⟩
      have k1 : H1 q = some (.dK [((.inr a : Key), V.str b)]) := E1.keep q _ upd_same nq
      have nq1 : q ∉ as1 := fun m => (E1.anew q m).elim nq fun z => by rw [upd_same] at z; cases z
      unfold Rep at r1
      subst r1
      refine ⟨F1, B, as1, ρ1, _, _, S1, q2, fun v2 H2 F2 as2 E2 S2 r2 => ?_⟩
      have k2 : H2 q = some (.dK [((.inr a : Key), V.str b)]) := E2.keep q _ k1 nq1
      refine ⟨_, DGet.k (k := .inr z) k2, ?_⟩
      have fin := fun d r => k d H2 F2 as2 ((En.pure.trans E1).trans E2) S2 r
      by_cases hz : z = a
      · subst hz
        have : (valV [((.inr z : Key), V.str b)] (.inr z)).getD v2 = .str b := by simp [valV]
        rw [this]
        rw [if_pos rfl] at fin
        exact fin _ (by unfold Rep; rfl)
      · have hne : ((.inr a : Key) = .inr z) = False := by simp; exact fun h => hz h.symm
        have : (valV [((.inr a : Key), V.str b)] (.inr z)).getD v2 = v2 := by simp [valV, hne]
        rw [this]
        rw [if_neg hz] at fin
        exact fin _ r2
    · cases e
  · cases e
end
/-! ### xs[::-1] -/
theorem RepL.rev {K : Kc} {F : Addr → Prop} {H : Hp} : ∀ {ds : List D} {vs : List V}, RepL K F H ds vs → RepL K F H ds.reverse vs.reverse
  | [], vs, h => by unfold RepL at h; subst h; exact RepL.nil
  | d :: ds, vs, h => by
    unfold RepL at h
    obtain ⟨v, r, rfl, h1, h2⟩ := h
    rw [List.reverse_cons, List.reverse_cons]
    exact RepL.append (RepL.rev h2) (RepL.cons h1 RepL.nil)
def revD : D → Option D
  | .lst ds => some (.lst ds.reverse)
  | _ => none
theorem cw_rev {X : Cx} {e : Expr} {oa : FO} {k : Nat} {p1 p2 p3 pos : Pos} (ha : PE X e (tO (kc X) oa)) : PE X (.Subscript e (.Slice none none (some (.UnaryOp .USub (.Constant (.int 1) k p1) p2)) p3) pos) (tW (kc X) (gOp1W revD oa)) :=
  PE.to (pe_revL ha) fun σ H Q ⟨F, B, as, ρ, d, w, ρ', S, e, kk⟩ => by
    obtain ⟨⟨pd, pρ⟩, e9, e2⟩ := Option.map_eq_some_iff.mp e
    cases e2
    obtain ⟨x, dx, e1, e3, e5⟩ := gOp1_some e9
    unfold revD at e5
    split at e5
    · cases e5
      refine ⟨F, B, as, ρ, x, pρ, S, e1, fun vx H2 F2 as2 E S2 rx => ?_⟩
      obtain ⟨a, vs, rfl, h1, r1⟩ := (S2.res e3 rx).lst
      refine ⟨a, vs, rfl, SqL.of h1, fun q hq => ?_⟩
      obtain ⟨E3, S3⟩ := new_own hq S2 (own_lst hq r1.rev)
      exact kk _ _ F2 as2 [q] (E.trans E3) S3
    · cases e5
end DV

/-! DV25: o.f against a value that is computed with o put aside; f(o.x, e): the field is lent. -/
namespace DV
open L2 PySem PySem.Spec PyProof.Rows
/-- op (o.f) e: e is computed with o put aside -/
def gOpF (op : D → D → Option D) (i : Nat) (c f : Str) (g : FD) : FD := fun ρ => match fldOf i c f ρ with
  | some (_, d) => match g (ρ.set i .no) with
    | some (k, ρ1) => match ρ1[i]? with
      | some .no => match op d k with
        | some r => some (r, ρ1.set i (ρ.getD i .no))
        | none => none
      | _ => none
    | none => none
  | none => none
theorem gOpF_some {op : D → D → Option D} {i : Nat} {c f : Str} {g : FD} {ρ ρ' : Env} {r : D} (h : gOpF op i c f g ρ = some (r, ρ')) : ∃ w d k ρ1, fldOf i c f ρ = some (w, d) ∧ g (ρ.set i .no) = some (k, ρ1) ∧ ρ1[i]? = some .no ∧ op d k = some r ∧ ρ' = ρ1.set i (ρ.getD i .no) := by
  unfold gOpF at h
  split at h
  · rename_i w d q1
    split at h
    · rename_i k ρ1 q2
      split at h
      · rename_i q3
        split at h
        · rename_i r' q4
          cases h
          exact ⟨w, d, k, ρ1, q1, q2, q3, q4, rfl⟩
        · cases h
      · cases h
    · cases h
  · cases h
/-- what is known when e has been computed with o put aside -/
theorem aside_again {K : Kc} {F : Addr → Prop} {B : List Addr} {H : Hp} {ρ ρ1 : Env} {σ : L2.St} {as : List Addr} {i : Nat} {c f : Str} {g : FD} {ns : List Str} {os : List Bool} {ds : List D} {w : Bool} {dc dk : D} (S : Sit K F B H ρ σ as) (h1 : DV.look ρ i = some (.ins c ns os ds)) (h2 : fld ns os ds f = some (w, dc))
    (e2 : g (ρ.set i .no) = some (dk, ρ1)) (e3 : ρ1[i]? = some .no) :
    ∃ (xx : Sl) (a C0 dx : Addr) (fs : List (Str × V)) (v : V), ρ[i]? = some xx ∧ isIns xx (.ins c ns os ds) ∧ σ[i]? = some (some (.ref a)) ∧ K.mg c = some (.ref C0) ∧ H a = some (.ins C0 dx fs) ∧ fs.lookup f = some v ∧
      ∀ T : VK, (∀ (vk : V) (H1 : Hp) (F1 : Addr → Prop) (as1 : List Addr), H1 a = some (.ins C0 dx fs) → Vw K F1 H1 dc v → Rep K F1 H1 dk vk → Ext F as H F1 as1 H1 → Sit K F1 B H1 (ρ1.set i xx) σ as1 → T vk H1) → tD K g σ H T := by
  obtain ⟨xx, a, C0, dx, fs, ia, hx, hk, ev, hm, ha, hdx, hns, ow⟩ := S.ins h1
  obtain ⟨v, p1, bb, q1, l1, _, l3, _⟩ := OwnFs.at_ hns ow h2
  refine ⟨xx, a, C0, dx, fs, v, hx, hk, ev, hm, ha, l1, fun T kk => ?_⟩
  obtain ⟨o, ins, rest, eo, hs, Sh, hn1, hd1, mem⟩ := S.hide hx
  rw [ev] at eo; cases eo
  refine ⟨F, B, rest, ρ.set i .no, dk, ρ1, Sh, e2, fun vk H1 F1 rest1 E1 S1 r1 => ?_⟩
  obtain ⟨as1, S2, E2, sl, kp, _⟩ := S1.unhide E1 e3 ev hs hn1 hd1 mem
  have mem2 : ∀ y : Addr, y = a ∨ y = dx → y ∈ ins := by
    intro y hy
    have key : ∀ v0, Own K F H (.ins c ns os ds) v0 ins → v0 = .ref a → y ∈ ins := fun v0 r e0 => by
      unfold Own OwnI at r
      obtain ⟨a', C', dx', fs', ia', e5, _, h6, h7, _, _, h8⟩ := r
      rw [e0] at e5; cases e5
      rw [ha] at h6; cases h6
      rw [h8]
      rcases hy with rfl | rfl <;> simp
    rcases hk with rfl | ⟨n, rfl⟩
    · unfold SlR at hs
      obtain ⟨v0, e0, r⟩ := hs
      exact key v0 r (by cases e0; rfl)
    · unfold SlR at hs
      obtain ⟨v0, e0, _, r⟩ := hs
      exact key _ r (by cases e0; rfl)
  have ha1 : H1 a = some (.ins C0 dx fs) := kp a (mem2 a (.inl rfl)) _ ha
  have look2 : DV.look (ρ1.set i xx) i = some (.ins c ns os ds) := by
    have hi : i < ρ1.length := (List.getElem?_eq_some_iff.mp e3).1
    unfold DV.look
    rw [List.getElem?_set_self hi]
    rcases hk with rfl | ⟨n, rfl⟩ <;> rfl
  obtain ⟨xx', a', C', dx', fs', ia', _, _, ev', hm', ha', hdx', hns', ow'⟩ := S2.ins look2
  rw [ev] at ev'; cases ev'
  rw [ha1] at ha'; cases ha'
  obtain ⟨v', p1', bb', q1', l1', _, l3', _⟩ := OwnFs.at_ hns' ow' h2
  rw [l1] at l1'; cases l1'
  exact kk vk H1 F1 as1 ha1 l3'.vw r1 E2 S2
section
variable {X : Cx} {pos p : Pos}
theorem cmpF_fit {i : Nat} {x c f : Str} {r : R2} {fo : D → D → Option D} {g : FD} (C : ClsF (kc X) c f) (o2 : PureR (kc X) r fo) {σ : L2.St} {H : Hp} {Q : VK} (h : tD (kc X) (gOpF fo i c f g) σ H Q) : tOp r (tFld X.K (tVar i) f) (tD (kc X) g) σ H Q := by
  obtain ⟨F, B, as, ρ, d, ρ', S, e, k⟩ := h
  obtain ⟨w, dc, dk, ρ1, e1, e2, e3, e4, rfl⟩ := gOpF_some e
  obtain ⟨ns, os, ds, h1, h2⟩ := fldOf_some e1
  obtain ⟨C1, hm1, hc, hn⟩ := C.ex
  obtain ⟨xx, a, C0, dx, fs, v, hx, hk, ev, hmc, ha, l1, t⟩ := aside_again S h1 h2 e2 e3
  rw [hmc] at hm1; cases hm1
  refine ⟨.ref a, ev, a, _, dx, fs, v, rfl, ha, hc, hn, l1, ?_⟩
  refine t _ fun vk H1 F1 as1 ha1 lv rk E S2 => ?_
  rw [getD_of hx] at k
  exact o2 F1 H1 dc dk _ v vk Q S2.fk e4 lv rk.vw fun v2 F3 H3 E3 r3 => k v2 H3 F3 as1 (E.trans E3.pure) (S2.step E3) r3
theorem w_cmpF {i : Nat} {x c f : Str} {b : Expr} {op : CmpOp} {fo : D → D → Option D} {g : FD} (cp : Cp X op fo) (C : ClsF (kc X) c f) (hgb : PE X b (tD (kc X) g)) (hN : X.N[i]? = some x := by rfl) (hv : Vis X.env.scope x := by first | exact Or.inl rfl | exact Or.inr (Or.inl rfl) | exact Or.inr (Or.inr rfl)) (hd : (x == ("__debug__" : Str)) = false := by decide)
    (hcd : (x == ("__classdict__" : Str)) = false := by decide) (hb : attributeBase (.Name x p) f X.env (eval (.Name x p) X.env) = eval (.Name x p) X.env := by rfl) (hm : behindInMarks op b = false := by first | exact nomark _ | rfl) {ap : Pos} : PE X (.Compare (.Attribute (.Name x p) f ap) [op] [b] pos) (tD (kc X) (gOpF fo i c f g)) := by
  obtain ⟨r, o1, o2⟩ := cp.ex
  exact PE.to (pe_cmpR o1 (pe_fld (pe_var hN hv hd hcd) hb) hgb hm) fun σ H Q h => cmpF_fit (x := x) C o2 h
theorem t_cmpF {i : Nat} {x c f : Str} {b : Expr} {op : CmpOp} {fo : D → D → Option D} {g : FD} (cp : Cp X op fo) (C : ClsF (kc X) c f) (hgb : PE X b (tD (kc X) g)) (hN : X.N[i]? = some x := by rfl) (hv : Vis X.env.scope x := by first | exact Or.inl rfl | exact Or.inr (Or.inl rfl) | exact Or.inr (Or.inr rfl)) (hd : (x == ("__debug__" : Str)) = false := by decide)
    (hcd : (x == ("__classdict__" : Str)) = false := by decide) (hb : attributeBase (.Name x p) f X.env (eval (.Name x p) X.env) = eval (.Name x p) X.env := by rfl) (hm : behindInMarks op b = false := by first | exact nomark _ | rfl) {ap : Pos} : PT X (.Compare (.Attribute (.Name x p) f ap) [op] [b] pos) (tB (kc X) (gT (gOpF fo i c f g))) := by
  obtain ⟨r, o1, o2⟩ := cp.ex
  exact PT.to (pt_cmpR o1 (pe_fld (pe_var hN hv hd hcd) hb) hgb hm) fun σ H Q h => cmpF_fit (x := x) C o2 (tB_fit h)
end
/-! ### f(o.x, e): the field is lent -/
theorem oneF_fit {K : Kc} {F : Addr → Prop} {B : List Addr} {H : Hp} {ρ : Env} {σ : L2.St} {as : List Addr} {i : Nat} {c f : Str} {ns : List Str} {os : List Bool} {ds : List D} {d1 d1' d2 d : D} {w : Bool} {xx : Sl} {G : FnD} {v vk : V} {a C0 dx : Addr} {fs : List (Str × V)} {Q : VK}
    (S : Sit K F B H ρ σ as) (hx : ρ[i]? = some xx) (hki : isIns xx (.ins c ns os ds)) (ev : σ[i]? = some (some (.ref a))) (ha : H a = some (.ins C0 dx fs)) (hl : fs.lookup f = some v) (h2 : fld ns os ds f = some (true, d1)) (rk : Rep K F H d2 vk) (hG : G [d1, d2] = some (d, w, [d1'])) (hc1 : isC d1' = true)
    (kk : ∀ v' H' F' as' bs, Ext F as H F' (bs ++ as') H' → Sit2 K F' B H' (ρ.set i (reSl xx (.ins c ns (fput ns os ds f true d1').2.1 (fput ns os ds f true d1').2.2))) σ as' d w v' bs → Q v' H') : spD K [true, false] G [v, vk] H Q E0 := by
  obtain ⟨o, ins, rest, eo, hs, Sh, hn1, hd1, mem⟩ := S.hide hx
  obtain ⟨a', C1, dx', fs', ia, e0, e1, hmc, ha', hdx, hns, ow, back⟩ := hs.ins hki
  subst e0 e1
  rw [ev] at eo; cases eo
  rw [ha] at ha'; cases ha'
  obtain ⟨v', p1', b1, q1', l1, l2, l3, l4⟩ := OwnFs.at_ hns ow h2
  rw [hl] at l1; cases l1
  subst l2
  unfold fOk at l3
  simp only [if_true] at l3
  have inb1 : ∀ b, b ∈ b1 → b ∈ a :: dx :: (p1' ++ (b1 ++ q1')) := fun b m => by simp [m]
  have nd1 : b1.Nodup := by
    simp only [List.nodup_cons, List.nodup_append] at hn1
    exact hn1.2.2.2.1.1
  refine ⟨F, b1, [d1, d2], d, w, [d1'], ?_, nd1, fun b m => (hd1 b (inb1 b m)).2, S.fk, hG, fun vr H' F' as' bs E hB nd nf fk r => ?_⟩
  · unfold ArgR
    refine ⟨v, [vk], b1, [], rfl, by simp, Own.ofC l3, ?_⟩
    unfold ArgR
    refine ⟨vk, [], rfl, rk, ?_⟩
    unfold ArgR
    exact ⟨rfl, rfl⟩
  · unfold BorR at hB
    obtain ⟨da, ea, va, ra, b1', a2', h3, h4, rfl, hoa, hB⟩ := hB
    unfold BorR at hB
    cases h3; cases h4
    obtain ⟨vb, rb, h5, hB⟩ := hB
    cases h5
    unfold BorR at hB
    obtain ⟨_, _, rfl⟩ := hB
    rw [List.append_nil] at E nd nf
    have others : ∀ y, (y ∈ rest ∨ y = a ∨ y = dx ∨ y ∈ p1' ++ q1') → y ∉ b1 := fun y hy z => by
      rcases hy with hy | hy
      · exact (hd1 y (inb1 y z)).1 hy
      · simp only [List.nodup_cons, List.nodup_append, List.mem_append, List.mem_cons] at hn1 hy
        grind
    have live : ∀ y, (y ∈ rest ∨ y = a ∨ y = dx ∨ y ∈ p1' ++ q1') → ∃ u, H y = some u := fun y hy => by
      rcases hy with hy | hy | hy | hy
      · exact Sh.env.there y hy
      · exact ⟨_, by rw [hy]; exact ha⟩
      · exact ⟨_, by rw [hy]; exact hdx⟩
      · refine ow.there y ?_
        simp only [List.mem_append] at hy ⊢
        grind
    have kpo : ∀ y, (y ∈ rest ∨ y = a ∨ y = dx ∨ y ∈ p1' ++ q1') → ∀ u, H y = some u → H' y = some u := fun y hy u hu => E.keep y u hu (others y hy)
    have far : ∀ y, (y ∈ rest ∨ y = a ∨ y = dx ∨ y ∈ p1' ++ q1') → y ∉ bs ++ b1' ∧ ¬ F' y := fun y hy => by
      obtain ⟨u, hu⟩ := live y hy
      refine ⟨fun z => ?_, fun z => ?_⟩
      · rcases E.anew y z with z | z
        · exact others y hy z
        · rw [hu] at z; cases z
      · rcases E.fnew y z with z | z | z
        · rcases hy with hy | hy
          · exact Sh.nf y hy z
          · refine (hd1 y ?_).2 z
            simp only [List.mem_append, List.mem_cons] at hy ⊢
            grind
        · exact others y hy z
        · rw [hu] at z; cases z
    have S3 : Sit K F' B H' (ρ.set i .no) σ rest := ⟨Sh.env.stb E.stb.weak fun y m u hu => kpo y (.inl m) u hu, Sh.nd, fun y m => (far y (.inl m)).2, fk⟩
    have nd3 := nd
    simp only [List.nodup_append] at nd3
    have hil : i < ρ.length := (List.getElem?_eq_some_iff.mp hx).1
    obtain ⟨m1, m2⟩ := l4 true d1' b1' E.stb (fun y m u hu => kpo y (.inr (.inr (.inr m))) u hu) (by unfold fOk; simp only [if_true]; exact hoa.toC hc1)
    have slI := back (F2 := F') (H2 := H') c ns _ _ (a :: dx :: (p1' ++ (b1' ++ q1'))) ⟨a, C0, dx, fs, _, rfl, hmc, kpo a (.inr (.inl rfl)) _ ha, kpo dx (.inr (.inr (.inl rfl))) _ hdx, hns, m2, rfl⟩
    have fa : ∀ y, (y = a ∨ y = dx ∨ y ∈ p1' ++ q1') → y ∉ b1' ∧ y ∉ bs := fun y hy => by
      have := (far y (.inr hy)).1
      simp only [List.mem_append, not_or] at this
      exact ⟨this.2, this.1⟩
    obtain ⟨asB, SB, mB⟩ := S3.fill (i := i) (x := reSl xx (.ins c ns (fput ns os ds f true d1').2.1 (fput ns os ds f true d1').2.2)) (ins := a :: dx :: (p1' ++ (b1' ++ q1'))) (by rw [List.getElem?_set_self hil]) ev slI (by
      have f1 := fa a (.inl rfl)
      have f2 := fa dx (.inr (.inl rfl))
      have f3 : ∀ y, y ∈ p1' ++ q1' → y ∉ b1' := fun y m => (fa y (.inr (.inr m))).1
      have nb := nd3.2.1
      simp only [List.nodup_cons, List.nodup_append, List.mem_append, List.mem_cons] at hn1 f3 ⊢
      grind) fun b m => by
        have nr : b ∉ rest := fun z => by
          simp only [List.mem_cons, List.mem_append] at m
          have hb1 : b ∈ b1' → False := fun q => (far b (.inl z)).1 (by simp [q])
          have hin : b ∈ a :: dx :: (p1' ++ (b1 ++ q1')) → False := fun q => (hd1 b q).1 z
          simp only [List.mem_cons, List.mem_append] at hin
          grind
        refine ⟨nr, fun z => ?_⟩
        simp only [List.mem_cons, List.mem_append] at m
        rcases m with m | m | m | m | m
        · exact (far b (.inr (.inl m))).2 z
        · exact (far b (.inr (.inr (.inl m)))).2 z
        · exact (far b (.inr (.inr (.inr (by simp [m]))))).2 z
        · exact nf b (by simp [m]) z
        · exact (far b (.inr (.inr (.inr (by simp [m]))))).2 z
    have envE : ((ρ.set i .no).set i (reSl xx (.ins c ns (fput ns os ds f true d1').2.1 (fput ns os ds f true d1').2.2))) = ρ.set i (reSl xx (.ins c ns (fput ns os ds f true d1').2.1 (fput ns os ds f true d1').2.2)) := by
      rw [List.set_set]
    rw [envE] at SB
    have memB : ∀ b, b ∈ asB → b ∈ b1' ∨ b ∈ rest ∨ b = a ∨ b = dx ∨ b ∈ p1' ++ q1' := fun b m => by
      rcases (mB b).mp m with m | m
      · simp only [List.mem_cons, List.mem_append] at m ⊢
        grind
      · exact .inr (.inl m)
    have asM : ∀ b, (b ∈ b1 ∨ b ∈ rest ∨ b = a ∨ b = dx ∨ b ∈ p1' ++ q1') → b ∈ as := fun b m => by
      refine (mem b).mpr ?_
      rcases m with m | m | m
      · exact .inl (inb1 b m)
      · exact .inr m
      · refine .inl ?_
        simp only [List.mem_cons, List.mem_append] at m ⊢
        grind
    refine kk vr H' F' asB bs ⟨E.stb, fun b u hu nm => E.keep b u hu fun z => nm (asM b (.inl z)), E.dom, fun b z => ?_, fun b m => ?_, E.fk⟩ ⟨SB.env, List.nodup_append.mpr ⟨nd3.1, SB.nd, fun y hy z hz e => ?_⟩, fun b m => ?_, fk, r⟩
    · rcases E.fnew b z with z | z | z
      · exact .inl z
      · exact .inr (.inl (asM b (.inl z)))
      · exact .inr (.inr z)
    · rcases List.mem_append.mp m with m | m
      · exact (E.anew b (by simp [m])).imp_left fun z => asM b (.inl z)
      · rcases memB b m with m | m
        · exact (E.anew b (by simp [m])).imp_left fun z => asM b (.inl z)
        · exact .inl (asM b (.inr m))
    · subst e
      rcases memB y hz with m | m
      · exact nd3.2.2 y hy y (by simp [m]) rfl
      · exact (far y m).1 (by simp [hy])
    · rcases List.mem_append.mp m with m | m
      · exact nf b (by simp [m])
      · exact SB.nf b m
def gOneF (G : FnD) (i : Nat) (c f : Str) (g : FD) : FW := fun ρ => match fldOf i c f ρ, ρ[i]? with
  | some (true, d1), some x => match g (ρ.set i .no) with
    | some (d2, ρ1) => match ρ1[i]? with
      | some .no => match G [d1, d2] with
        | some (d, w, [d1']) => if isC d1' = true then match backF i c f d1' (ρ1.set i x) with
            | some ρ' => some (d, w, ρ')
            | none => none
          else none
        | _ => none
      | _ => none
    | none => none
  | _, _ => none
theorem cw_oneF {X : Cx} {pos p p1 fpos : Pos} {n i : Nat} {x c f fnm : Str} {b : Expr} {G : FnD} {g : FD} (Fn : FnAt X n fnm [true, false] G) (hr : Room n X.A) (C : ClsF (kc X) c f) (hg : Gl X fnm) (hgb : PE X b (tD (kc X) g)) (hN : X.N[i]? = some x := by rfl) (hv : Vis X.env.scope x := by first | exact Or.inl rfl | exact Or.inr (Or.inl rfl) | exact Or.inr (Or.inr rfl)) (hd : (x == ("__debug__" : Str)) = false := by decide)
    (hcd : (x == ("__classdict__" : Str)) = false := by decide)
    (hb : attributeBase (.Name x p1) f X.env (eval (.Name x p1) X.env) = eval (.Name x p1) X.env := by rfl) (hdb : (fnm == ("__debug__" : Str)) = false := by decide)
    (he : starEach [.Attribute (.Name x p1) f fpos, b] X.env = (false, eval (.Attribute (.Name x p1) f fpos) X.env) :: starEach [b] X.env := by rfl) (he2 : starEach [b] X.env = (false, eval b X.env) :: starEach [] X.env := by rfl) (hpl : (backTo pos (starEach [b] X.env)).any (·.1) = false := by rfl) :
    PE X (.Call (.Name fnm p) [.Attribute (.Name x p1) f fpos, b] [] pos) (tW (kc X) (gOneF G i c f g)) := by
  obtain ⟨ff, fd, ps, dsv, dvs, hm, hk, hbi, hvv, hdd, ok⟩ := Fn.at_
  have hnil : dvs = [] := by
    have := (hdd (fun _ => True) (fun _ => none)).length
    exact List.eq_nil_of_length_eq_zero (by simpa using this)
  subst hnil
  refine PE.to (pe_call ok hr hg hm hk hbi hvv pass0 (pa_cons (pe_fld (pe_var hN hv hd hcd) hb) (pa_cons hgb pa_nil he2) he) hdb he hpl) fun σ H Q ⟨F, B, as, ρ, d, w, ρ', S, e, kk⟩ => ?_
  obtain ⟨C1, hm1, hc, hn⟩ := C.ex
  unfold gOneF at e
  split at e
  · rename_i d1 x' q1 q2
    split at e
    · rename_i d2 ρ1 q3
      split at e
      · rename_i q4
        split at e
        · rename_i d0 w0 d1' q5
          split at e
          · rename_i hc1
            split at e
            · rename_i ρ2 q6
              cases e
              obtain ⟨ns, os, ds, h1, h2⟩ := fldOf_some q1
              obtain ⟨xx, a, C0, dx, fs, v, hx, hki, ev, hmc, ha, l1, t⟩ := aside_again S h1 h2 q3 q4
              rw [q2] at hx; cases hx
              rw [hmc] at hm1; cases hm1
              refine ⟨.ref a, ev, a, _, dx, fs, v, rfl, ha, hc, hn, l1, ?_⟩
              refine t _ fun vk H1 F1 as1 ha1 lv rk E S2 => ?_
              show spD (kc X) [true, false] G [v, vk] H1 Q E0
              obtain ⟨x2, ns2, os2, ds2, b1, b2, b3, rfl⟩ := backF_some q6
              have hil : i < ρ1.length := (List.getElem?_eq_some_iff.mp q4).1
              rw [List.getElem?_set_self hil] at b1; cases b1
              have l2 := at_slot (List.getElem?_set_self hil) hki
              rw [b2] at l2; cases l2
              exact oneF_fit S2 (List.getElem?_set_self hil) hki ev ha1 l1 h2 rk q5 hc1 fun v' H' F' as' bs E' S' => kk v' H' F' as' bs (E.trans E') S'
            · cases e
          · cases e
        · cases e
      · cases e
    · cases e
  · cases e
end DV

/-! DV26: a, b, c = x, y, z. -/
namespace DV
open L2 PySem PySem.Spec PyProof.Rows
def bindL : List Nat → List D → Env → Option Env
  | [], [], ρ => some ρ
  | i :: is, d :: ds, ρ => match bind1 i d false ρ with
    | some ρ1 => bindL is ds ρ1
    | none => none
  | _, _, _ => none
def gParL (is : List Nat) (g : FL) : FS := fun ρ => match g ρ with
  | some (ds, ρ1) => match bindL is ds ρ1 with
    | some ρ2 => some (.nx, ρ2)
    | none => none
  | none => none
theorem bindL_fit {K : Kc} {F : Addr → Prop} {B : List Addr} {H : Hp} {i : Nat} {is : List Nat} {d : D} {ds : List D} {ρ ρ' : Env} {σ : L2.St} {as : List Addr} {v : V} (S : Sit K F B H ρ σ as) (r : Rep K F H d v) (e : bindL (i :: is) (d :: ds) ρ = some ρ') :
    ∃ ρ1 as1, bindL is ds ρ1 = some ρ' ∧ Sit K F B H ρ1 (σ.set i (some v)) as1 ∧ ∀ b, b ∈ as1 → b ∈ as := by
  unfold bindL at e
  split at e
  · rename_i ρ1 q
    have T : Sit2 K F B H ρ σ as d false v [] := ⟨S.env, S.nd, S.nf, S.fk, by simp [r]⟩
    obtain ⟨as1, S1, m⟩ := T.bind q
    exact ⟨ρ1, as1, e, S1, fun b h => by simpa using m b h⟩
  · cases e
section
variable {X : Cx} {pos p : Pos}
theorem cs_par3 {i j l : Nat} {x y z : Str} {a b c : Expr} {g : FL} {px py pz pt : Pos} {kt k2 pt2} (hc : X.calm = true) (hN : X.N.Nodup) (hi : X.N[i]? = some x) (hj : X.N[j]? = some y) (hl : X.N[l]? = some z) (hij : i ≠ j) (hil : i ≠ l) (hjl : j ≠ l)
    (hx : X.env.scope.names.lookup x = some .local) (hy : X.env.scope.names.lookup y = some .local) (hz : X.env.scope.names.lookup z = some .local) (ha : PA X [a, b, c] (tL (kc X) g))
    (hw : swappedStores [.Tuple [.Name x px, .Name y py, .Name z pz] kt pt] (.Tuple [a, b, c] k2 pt2) X.env = pure (some [x, y, z]))
    (hs : swapsWithSole [.Tuple [.Name x px, .Name y py, .Name z pz] kt pt] (.Tuple [a, b, c] k2 pt2) pos.line X.env = pure false := by rfl) :
    PS X (.Assign [.Tuple [.Name x px, .Name y py, .Name z pz] kt pt] (.Tuple [a, b, c] k2 pt2) pos) (tS (kc X) (gParL [i, j, l] g)) :=
  PS.to (ps_par3 hc hN hi hj hl hij hil hjl hx hy hz ha hw hs) fun D σ H ⟨F, B, as, ρ, fl, ρ', S, e, k⟩ => by
    unfold gParL at e
    split at e
    · rename_i ds ρ1 q1
      split at e
      · rename_i ρ2 q2
        cases e
        refine ⟨F, B, as, ρ, ds, ρ1, S, q1, fun vs H1 F1 as1 E1 S1 r => ?_⟩
        rcases ds with _ | ⟨d1, _ | ⟨d2, _ | ⟨d3, _ | ⟨d4, ds⟩⟩⟩⟩
        · simp [bindL] at q2
        · unfold bindL at q2; split at q2
          · simp [bindL] at q2
          · cases q2
        · obtain ⟨u1, r1, rfl, h1, h2⟩ := (by unfold RepL at r; exact r)
          obtain ⟨_, _, q3, _, _⟩ := bindL_fit S1 h1 q2
          unfold bindL at q3; split at q3
          · simp [bindL] at q3
          · cases q3
        · obtain ⟨u1, r1, rfl, h1, r⟩ := (by unfold RepL at r; exact r)
          obtain ⟨u2, r2, rfl, h2, r⟩ := (by unfold RepL at r; exact r)
          obtain ⟨u3, r3, rfl, h3, r⟩ := (by unfold RepL at r; exact r)
          unfold RepL at r
          subst r
          obtain ⟨ρa, asa, qa, Sa, ma⟩ := bindL_fit S1 h1 q2
          obtain ⟨ρb, asb, qb, Sb, mb⟩ := bindL_fit Sa h2 qa
          obtain ⟨ρc, asc, qc, Sc, mc⟩ := bindL_fit Sb h3 qb
          simp only [bindL] at qc
          cases qc
          exact ⟨u1, u2, u3, rfl, k _ _ F1 asc (E1.sub fun b m => ma b (mb b (mc b m))) Sc⟩
        · obtain ⟨u1, r1, rfl, h1, r⟩ := (by unfold RepL at r; exact r)
          obtain ⟨u2, r2, rfl, h2, r⟩ := (by unfold RepL at r; exact r)
          obtain ⟨u3, r3, rfl, h3, r⟩ := (by unfold RepL at r; exact r)
          obtain ⟨ρa, asa, qa, Sa, ma⟩ := bindL_fit S1 h1 q2
          obtain ⟨ρb, asb, qb, Sb, mb⟩ := bindL_fit Sa h2 qa
          obtain ⟨ρc, asc, qc, Sc, mc⟩ := bindL_fit Sb h3 qb
          simp [bindL] at qc
      · cases e
    · cases e
end
end DV

/-! DV27: loops by an invariant; rows for simp; equality of what is the same. -/
namespace DV
open L2 PySem PySem.Spec PyProof.Rows
theorem forD_all {h : FG} {body : FS} {I : Env → Prop} : ∀ {items : List D}, (∀ d ρ, d ∈ items → I ρ → ∃ fl ρ', (h d ρ).bind body = some (fl, ρ') ∧ (fl = .nx ∨ fl = .ct) ∧ I ρ') → ∀ ρ, I ρ → ∃ ρ', forD h body items ρ = some (.nx, ρ') ∧ I ρ'
  | [], _, ρ, i => ⟨ρ, rfl, i⟩
  | d :: ds, st, ρ, i => by
    obtain ⟨fl, ρ1, e, hf, i1⟩ := st d ρ List.mem_cons_self i
    obtain ⟨ρ2, e2, i2⟩ := forD_all (items := ds) (fun d' ρ' m => st d' ρ' (List.mem_cons_of_mem _ m)) ρ1 i1
    refine ⟨ρ2, ?_, i2⟩
    rw [forD_cons]
    obtain ⟨ρ0, e3, e4⟩ := Option.bind_eq_some_iff.mp e
    rw [e3]
    simp only [Option.bind_some, kFo1_at, e4]
    rcases hf with rfl | rfl
    · exact e2
    · exact e2
/-- items numbered from i on -/
theorem forD_num {h : FG} {body : FS} {I : Nat → Env → Prop} : ∀ {items : List D} {i : Nat}, (∀ j d ρ, items[j]? = some d → I (i + j) ρ → ∃ fl ρ', (h d ρ).bind body = some (fl, ρ') ∧ (fl = .nx ∨ fl = .ct) ∧ I (i + j + 1) ρ') → ∀ ρ, I i ρ → ∃ ρ', forD h body items ρ = some (.nx, ρ') ∧ I (i + items.length) ρ'
  | [], i, _, ρ, hi => ⟨ρ, rfl, hi⟩
  | d :: ds, i, st, ρ, hi => by
    obtain ⟨fl, ρ1, e, hf, i1⟩ := st 0 d ρ rfl hi
    obtain ⟨ρ2, e2, i2⟩ := forD_num (items := ds) (i := i + 1) (fun j d' ρ' m hj => by
      have := st (j + 1) d' ρ' (by simpa using m)
      rw [show i + (j + 1) = i + 1 + j by omega] at this
      exact this hj) ρ1 i1
    refine ⟨ρ2, ?_, by rw [List.length_cons, show i + (ds.length + 1) = i + 1 + ds.length by omega]; exact i2⟩
    rw [forD_cons]
    obtain ⟨ρ0, e3, e4⟩ := Option.bind_eq_some_iff.mp e
    rw [e3]
    simp only [Option.bind_some, kFo1_at, e4]
    rcases hf with rfl | rfl
    · exact e2
    · exact e2
theorem rngD_at {i : Int} {n j : Nat} {d : D} (h : (rngD i n)[j]? = some d) : d = .int (i + j) ∧ j < n := by
  unfold rngD at h
  rw [List.getElem?_map] at h
  obtain ⟨k, e, rfl⟩ := Option.map_eq_some_iff.mp h
  obtain ⟨hl, e2⟩ := List.getElem?_eq_some_iff.mp e
  simp at hl e2
  subst e2
  exact ⟨rfl, hl⟩
theorem rngD_len {i : Int} {n : Nat} : (rngD i n).length = n := by simp [rngD]
/-- a loop over range(n) -/
theorem forD_rng {h : FG} {body : FS} {I : Nat → Env → Prop} {n : Nat} (st : ∀ (j : Nat) ρ, j < n → I j ρ → ∃ fl ρ', (h (.int j) ρ).bind body = some (fl, ρ') ∧ (fl = .nx ∨ fl = .ct) ∧ I (j + 1) ρ') (ρ : Env) (i0 : I 0 ρ) : ∃ ρ', forD h body (rngD 0 n) ρ = some (.nx, ρ') ∧ I n ρ' := by
  have := forD_num (h := h) (body := body) (I := I) (items := rngD 0 n) (i := 0) (fun j d ρ e hj => by
    obtain ⟨rfl, hl⟩ := rngD_at e
    rw [Nat.zero_add] at hj ⊢
    rw [Int.zero_add]
    exact st j ρ hl hj) ρ i0
  rw [rngD_len, Nat.zero_add] at this
  exact this
/-- may be bound -/
def Bd : Sl → Prop
  | .bo _ _ => False
  | _ => True
theorem kB_Bd {i : Nat} {d : D} {w : Bool} {x : Sl} {ρ : Env} (h : Bd x) : kB i d w ρ (some x) = some (ρ.set i (if w = true then .ow d else .sh d)) := by
  cases x <;> first | rfl | exact h.elim
@[simp] theorem Bd_no : Bd .no := trivial
@[simp] theorem Bd_sh {d} : Bd (.sh d) := trivial
@[simp] theorem Bd_ow {d} : Bd (.ow d) := trivial
section
variable {ρ ρ1 : Env}
/-! rows -/
def kCL (x : Str) (bo : List Bool) (G : FnD) (dd : List D) (ga : FAr) (ρ : Env) : Option Sl → Option (D × Bool × Env)
  | some (.sh (.fn y)) => if y = x then gCallD bo G dd ga ρ else none
  | _ => none
@[simp] theorem kCL_at {x bo} {G : FnD} {dd} {ga : FAr} {y} : kCL x bo G dd ga ρ (some (.sh (.fn y))) = if y = x then gCallD bo G dd ga ρ else none := rfl
@[simp] theorem at_callL {i x bo} {G : FnD} {dd} {ga : FAr} : gCallL i x bo G dd ga ρ = kCL x bo G dd ga ρ ρ[i]? := by
  unfold gCallL kCL
  rcases ρ[i]? with _ | x'
  · rfl
  · cases x' with
    | sh d => cases d <;> rfl
    | _ => rfl
def kPk2 (a b z : Str) : D × Env → D × Env := fun p => (if z = a then .str b else p.1, p.2)
@[simp] theorem kPk2_at {a b z d} : kPk2 a b z (d, ρ1) = (if z = a then .str b else d, ρ1) := rfl
def kPk1 (a b : Str) (gf : FD) : D × Env → Option (D × Env)
  | (.str z, ρ1) => (gf ρ1).map (kPk2 a b z)
  | _ => none
@[simp] theorem kPk1_at {a b z} {gf : FD} : kPk1 a b gf (.str z, ρ1) = (gf ρ1).map (kPk2 a b z) := rfl
@[simp] theorem at_pick {a b} {ge gf : FD} : gPick a b ge gf ρ = (ge ρ).bind (kPk1 a b gf) := by
  unfold gPick
  rcases ge ρ with _ | ⟨d, ρ1⟩
  · rfl
  · cases d <;> simp only [Option.bind_some, kPk1]
    rcases gf ρ1 with _ | ⟨d, ρ2⟩ <;> rfl
def kOF2 (op : D → D → Option D) (i : Nat) (ρ : Env) (d : D) : D × Env → Option (D × Env) := fun p => if isNo p.2[i]? = true then (op d p.1).map (kWith (p.2.set i (ρ.getD i .no))) else none
@[simp] theorem kOF2_at {op : D → D → Option D} {i d k} : kOF2 op i ρ d (k, ρ1) = if isNo ρ1[i]? = true then (op d k).map (kWith (ρ1.set i (ρ.getD i .no))) else none := rfl
def kOF1 (op : D → D → Option D) (i : Nat) (ρ : Env) (g : FD) : Bool × D → Option (D × Env) := fun p => (g (ρ.set i .no)).bind (kOF2 op i ρ p.2)
@[simp] theorem kOF1_at {op : D → D → Option D} {i} {g : FD} {w d} : kOF1 op i ρ g (w, d) = (g (ρ.set i .no)).bind (kOF2 op i ρ d) := rfl
theorem isNo_iff {x : Option Sl} : isNo x = true ↔ x = some .no := by
  rcases x with _ | x
  · simp [isNo]
  · cases x <;> simp [isNo]
@[simp] theorem at_opF {op : D → D → Option D} {i c f} {g : FD} : gOpF op i c f g ρ = (fldOf i c f ρ).bind (kOF1 op i ρ g) := by
  unfold gOpF
  rcases fldOf i c f ρ with _ | ⟨w, d⟩
  · rfl
  · simp only [Option.bind_some, kOF1_at]
    rcases g (ρ.set i .no) with _ | ⟨k, ρ1⟩
    · rfl
    · simp only [Option.bind_some, kOF2_at]
      rcases h : ρ1[i]? with _ | x
      · simp [isNo]
      · cases x <;> simp [isNo]
        rcases op d k with _ | r <;> rfl
def kON3 (i : Nat) (c f : Str) (x : Sl) (ρ1 : Env) : D × Bool × List D → Option (D × Bool × Env)
  | (d, w, [d1]) => if isC d1 = true then (backF i c f d1 (ρ1.set i x)).map (kCl4 d w) else none
  | _ => none
@[simp] theorem kON3_at {i c f x d w d1} : kON3 i c f x ρ1 (d, w, [d1]) = if isC d1 = true then (backF i c f d1 (ρ1.set i x)).map (kCl4 d w) else none := rfl
theorem at_oneF {G : FnD} {i c f} {g : FD} {d1 d2 : D} {x : Sl} (h1 : fldOf i c f ρ = some (true, d1)) (h2 : ρ[i]? = some x) (h3 : g (ρ.set i .no) = some (d2, ρ1)) (h4 : ρ1[i]? = some .no) : gOneF G i c f g ρ = (G [d1, d2]).bind (kON3 i c f x ρ1) := by
  unfold gOneF
  simp only [h1, h2, h3, h4]
  rcases G [d1, d2] with _ | ⟨d, w, ds⟩
  · rfl
  · simp only [Option.bind_some]
    rcases ds with _ | ⟨e1, _ | ⟨e2, r⟩⟩
    · rfl
    · simp only [kON3_at]
      split
      · rcases backF i c f e1 (ρ1.set i x) with _ | ρ2 <;> rfl
      · rfl
    · rfl
def kON2 (G : FnD) (i : Nat) (c f : Str) (ρ : Env) (d1 : D) : D × Env → Option (D × Bool × Env) := fun p => if isNo p.2[i]? = true then (G [d1, p.1]).bind (kON3 i c f (ρ.getD i .no) p.2) else none
@[simp] theorem kON2_at {G : FnD} {i c f d1 d2} : kON2 G i c f ρ d1 (d2, ρ1) = if isNo ρ1[i]? = true then (G [d1, d2]).bind (kON3 i c f (ρ.getD i .no) ρ1) else none := rfl
def kON1 (G : FnD) (i : Nat) (c f : Str) (g : FD) (ρ : Env) : Bool × D → Option (D × Bool × Env)
  | (true, d1) => (g (ρ.set i .no)).bind (kON2 G i c f ρ d1)
  | _ => none
@[simp] theorem kON1_at {G : FnD} {i c f} {g : FD} {d1} : kON1 G i c f g ρ (true, d1) = (g (ρ.set i .no)).bind (kON2 G i c f ρ d1) := rfl
@[simp] theorem at_gOneF {G : FnD} {i c f} {g : FD} : gOneF G i c f g ρ = (fldOf i c f ρ).bind (kON1 G i c f g ρ) := by
  rcases h : fldOf i c f ρ with _ | ⟨w, d1⟩
  · unfold gOneF; rw [h]; rfl
  · cases w with
    | false => unfold gOneF; rw [h]; rfl
    | true =>
      obtain ⟨ns, os, ds, h1, h2⟩ := fldOf_some h
      obtain ⟨x, hx⟩ : ∃ x, ρ[i]? = some x := by
        unfold look at h1
        rcases q : ρ[i]? with _ | x
        · rw [q] at h1; cases h1
        · exact ⟨x, rfl⟩
      simp only [Option.bind_some, kON1_at]
      rcases hg : g (ρ.set i .no) with _ | ⟨d2, ρ1⟩
      · unfold gOneF; simp only [h, hx, hg]; rfl
      · simp only [Option.bind_some, kON2_at]
        rcases hn : isNo ρ1[i]? with _ | _
        · rw [if_neg (by simp)]
          unfold gOneF
          simp only [h, hx, hg]
          rcases q : ρ1[i]? with _ | y
          · rfl
          · cases y with
            | no => rw [q] at hn; cases hn
            | _ => rfl
        · rw [if_pos rfl, at_oneF h hx hg (isNo_iff.mp hn), getD_of hx]
@[simp] theorem bindL_nil : bindL [] [] ρ = some ρ := rfl
@[simp] theorem bindL_cons {i is d ds} : bindL (i :: is) (d :: ds) ρ = (bind1 i d false ρ).bind (bindL is ds) := by
  rw [bindL]
  rcases bind1 i d false ρ with _ | ρ1 <;> rfl
def kPL (is : List Nat) : List D × Env → Option (Fl × Env) := fun p => (bindL is p.1 p.2).map kNx
@[simp] theorem kPL_at {is ds} : kPL is (ds, ρ1) = (bindL is ds ρ1).map kNx := rfl
@[simp] theorem at_parL {is} {g : FL} : gParL is g ρ = (g ρ).bind (kPL is) := by
  unfold gParL
  rcases g ρ with _ | ⟨ds, ρ1⟩
  · rfl
  · simp only [Option.bind_some, kPL_at]
    rcases bindL is ds ρ1 with _ | ρ2 <;> rfl
end
@[simp] theorem put_lst0 {xs : List D} {d : D} : putD (.lst xs) (.int 0) d = if 0 < xs.length then some (.lst (xs.set 0 d)) else none := put_lst (k := 0)
@[simp] theorem isn_tt : isnD (.bl true) (.bl true) = some (.bl false) := rfl
@[simp] theorem isNon_non : isNon .non = true := rfl
@[simp] theorem rev_lst {ds : List D} : revD (.lst ds) = some (.lst ds.reverse) := rfl
/-! what is the same is equal -/
def okN (d : D) (n : Nat) : Prop := (toPy d).canLay0 = true ∧ (toPy d).depth ≤ n
theorem okN.mono {d : D} {n m : Nat} (h : okN d n) (hm : n ≤ m) : okN d m := ⟨h.1, Nat.le_trans h.2 hm⟩
theorem okN.py {d : D} {n : Nat} (h : okN d n) (hn : n ≤ 64) : okPy d = true := by
  unfold okPy SeqAt.shaped
  rw [h.1]
  have := h.2
  simp
  omega
theorem toPyL_ok {n : Nat} : ∀ {xs : List D}, (∀ x ∈ xs, okN x n) → PyData.canLayAll0 (toPyL xs) = true ∧ PyData.depthAll (toPyL xs) ≤ n
  | [], _ => by simp [toPyL, PyData.canLayAll0, PyData.depthAll]
  | x :: xs, h => by
    obtain ⟨a, b⟩ := h x List.mem_cons_self
    obtain ⟨c, d⟩ := toPyL_ok fun y m => h y (List.mem_cons_of_mem _ m)
    simp only [toPyL, PyData.canLayAll0, PyData.depthAll]
    exact ⟨by rw [a, c]; rfl, by omega⟩
theorem okN.tup {xs : List D} {n : Nat} (h : ∀ x ∈ xs, okN x n) : okN (.tup xs) (n + 1) := by
  obtain ⟨a, b⟩ := toPyL_ok h
  refine ⟨?_, ?_⟩
  · simp only [toPy, PyData.canLay0]; exact a
  · simp only [toPy, PyData.depth]; omega
theorem okN.lst {xs : List D} {n : Nat} (h : ∀ x ∈ xs, okN x n) : okN (.lst xs) (n + 1) := by
  obtain ⟨a, b⟩ := toPyL_ok h
  refine ⟨?_, ?_⟩
  · simp only [toPy, PyData.canLay0]; exact a
  · simp only [toPy, PyData.depth]; omega
theorem okN.int {i : Int} {n : Nat} : okN (.int i) n := ⟨rfl, Nat.zero_le _⟩
theorem okN.bl {b : Bool} {n : Nat} : okN (.bl b) n := ⟨rfl, Nat.zero_le _⟩
theorem okN.non {n : Nat} : okN .non n := ⟨rfl, Nat.zero_le _⟩
theorem okN.str {x : Str} {n : Nat} (h : PyData.strOk x = true) : okN (.str x) n := ⟨h, Nat.zero_le _⟩
theorem eq_self {d : D} {n : Nat} (h : okN d n) (hn : n ≤ 64) : eqD d d = some (.bl true) := by
  have p := eqP_ok (h.py hn) (h.py hn)
  rw [PySem.SeqAt.eqv_refl _ h.1] at p
  unfold eqD
  rw [p]
  cases d <;> simp [eqS]
theorem ne_self {d : D} {n : Nat} (h : okN d n) (hn : n ≤ 64) : neD d d = some (.bl false) := by
  have p := neP_ok (h.py hn) (h.py hn)
  rw [PySem.SeqAt.eqv_refl _ h.1] at p
  unfold neD
  rw [p]
  cases d <;> simp [eqS]
end DV

namespace K96
open DV L2 PySem PySem.Spec PyProof.Rows
def topS (i : Nat) : Stmt := PySem.Challenge.pw_blamekeep_k96_whole_cells_and_coercions.main.body.getD i (.Pass ⟨0, 0, 0, 0⟩)
inductive Nm where
  | f__wall | f_ground_of | f_meet | f_cast_value | f_tagged | f_cast_pair | f_cast_items | f_shown | f_cast_any | f_Store___init__ | f_Store_make | f_Store_read | f_Store_write | f_of_cast | f_middle_of | f_together | f_fail_behind | f_middles | f_is_idle | f_bend | f_bend_middle | f_middle_meet | f_triple | f_joined | f_joined_all | f_goes | f__law_draws | f__law_draw | f__law_same | f__law_vaguer | f__law_alike | f__law_value | f__law_plain | f__law_plain_chain | f__law_bare | f__law_row | f_law | n_Store
def c_ANY : D := .tup [.str "any"]
def c_NOTHING : D := .tup [.str "any"]
def c_NEVER : D := .tup [.str "never"]
def l__wall_0 (g : Nm → FnD) : FS := gSkip
def b__wall (g : Nm → FnD) : FS := (gWhile 100 (gT (fun ρ => some (.bl true, ρ))) (l__wall_0 g))
def b_ground_of (g : Nm → FnD) : FS := (gRet (wD (gOp2 addD (oD (gTup (gCons (gOp2 ixD (oNm 0) (oD (fun ρ => some (.int 0, ρ)))) (fun ρ => some ([], ρ))))) (oD (gOp2 mulD (oD (gTup (gCons (fun ρ => some (c_ANY, ρ)) (fun ρ => some ([], ρ))))) (oD (gOp2 subI (oD (gOp1 lenD (oNm 0))) (oD (fun ρ => some (.int 1, ρ))))))))))
def b_meet (g : Nm → FnD) : FS := (gSeq (gIfS (gOr (gT (gOp2 eqD (oNm 0) (oD (fun ρ => some (c_ANY, ρ))))) (gT (gOp2 eqD (oNm 1) (oD (fun ρ => some (c_ANY, ρ)))))) (gRet (gIfW (gT (gOp2 eqD (oNm 0) (oD (fun ρ => some (c_ANY, ρ))))) (gMv 1) (gMv 0))) gSkip) (gSeq (gIfS (gT (gOp2 neD (oD (gOp2 ixD (oNm 0) (oD (fun ρ => some (.int 0, ρ))))) (oD (gOp2 ixD (oNm 1) (oD (fun ρ => some (.int 0, ρ))))))) (gRet (wD (fun ρ => some (.non, ρ)))) gSkip) (gSeq (gSet 2 (gComp [3, 4] (gZip (gCons (gSl slD (oNm 0) (gPart (fun ρ => some (.int 1, ρ))) (fun ρ => some (none, ρ))) (gCons (gSl slD (oNm 1) (gPart (fun ρ => some (.int 1, ρ))) (fun ρ => some (none, ρ))) (fun ρ => some ([], ρ))))) (hTup 2 (hCons (hNm 3) (hCons (hNm 4) hNil))) tYesD (shW (gCallD [false, false] (g .f_meet) [] (gVa (gNm 3) (gVa (gNm 4) (fun ρ => some ([], ρ)))))))) (gRet (gIfW (gT (gOp2 inD (oD (fun ρ => some (.non, ρ))) (oNm 2))) (wD (fun ρ => some (.non, ρ))) (wD (gOp2 addD (oD (gTup (gCons (gOp2 ixD (oNm 0) (oD (fun ρ => some (.int 0, ρ)))) (fun ρ => some ([], ρ))))) (oD (gOp1 tupD (oNm 2))))))))))
def b_cast_value (g : Nm → FnD) : FS := (gSeq (gIfS (gT (gOp2 eqD (oNm 1) (oNm 2))) (gRet (wD (gTup (gCons (fun ρ => some (.str "ok", ρ)) (gCons (gNm 0) (fun ρ => some ([], ρ))))))) gSkip) (gSeq (gIfS (gT (gOp2 eqD (oNm 2) (oD (fun ρ => some (c_ANY, ρ))))) (gRet (gCallD [false, false, false] (g .f_tagged) [] (gVa (gNm 0) (gVa (gNm 1) (gVa (gNm 3) (fun ρ => some ([], ρ))))))) gSkip) (gSeq (gIfS (gT (gOp2 eqD (oNm 1) (oD (fun ρ => some (c_ANY, ρ))))) (gSeq (gIfS (gT (gOp2 neD (oD (gOp2 ixD (oNm 0) (oD (fun ρ => some (.int 1, ρ))))) (oD (shW (gCallD [false] (g .f_ground_of) [] (gVa (gNm 2) (fun ρ => some ([], ρ)))))))) (gRet (wD (gTup (gCons (fun ρ => some (.str "blame", ρ)) (gCons (gNm 3) (fun ρ => some ([], ρ))))))) gSkip) (gRet (gCallD [false, false, false, false] (g .f_cast_value) [] (gVa (gOp2 ixD (oNm 0) (oD (fun ρ => some (.int 2, ρ)))) (gVa (gOp2 ixD (oNm 0) (oD (fun ρ => some (.int 1, ρ)))) (gVa (gNm 2) (gVa (gNm 3) (fun ρ => some ([], ρ))))))))) gSkip) (gSeq (gIfS (gT (gOp2 eqD (oD (gOp2 ixD (oNm 1) (oD (fun ρ => some (.int 0, ρ))))) (oD (fun ρ => some (.str "fn", ρ))))) (gRet (wD (gTup (gCons (fun ρ => some (.str "ok", ρ)) (gCons (gTup (gCons (fun ρ => some (.str "wrap", ρ)) (gCons (gNm 0) (gCons (gNm 1) (gCons (gNm 2) (gCons (gNm 3) (fun ρ => some ([], ρ)))))))) (fun ρ => some ([], ρ))))))) gSkip) (gSeq (gIfS (gT (gOp2 eqD (oD (gOp2 ixD (oNm 1) (oD (fun ρ => some (.int 0, ρ))))) (oD (fun ρ => some (.str "pair", ρ))))) (gRet (gCallD [false, false, false, false] (g .f_cast_pair) [] (gVa (gNm 0) (gVa (gNm 1) (gVa (gNm 2) (gVa (gNm 3) (fun ρ => some ([], ρ)))))))) gSkip) (gRet (gCallD [false, false, false, false] (g .f_cast_items) [] (gVa (gNm 0) (gVa (gNm 1) (gVa (gNm 2) (gVa (gNm 3) (fun ρ => some ([], ρ)))))))))))))
def b_tagged (g : Nm → FnD) : FS := (gSeq (gSet 3 (gCallD [false] (g .f_ground_of) [] (gVa (gNm 1) (fun ρ => some ([], ρ))))) (gSeq (gSet 4 (gCallD [false, false, false, false] (g .f_cast_value) [] (gVa (gNm 0) (gVa (gNm 1) (gVa (gNm 3) (gVa (gNm 2) (fun ρ => some ([], ρ)))))))) (gRet (gIfW (gT (gOp2 eqD (oD (gOp2 ixD (oNm 4) (oD (fun ρ => some (.int 0, ρ))))) (oD (fun ρ => some (.str "blame", ρ))))) (gMv 4) (wD (gTup (gCons (fun ρ => some (.str "ok", ρ)) (gCons (gTup (gCons (fun ρ => some (.str "tag", ρ)) (gCons (gNm 3) (gCons (gOp2 ixD (oNm 4) (oD (fun ρ => some (.int 1, ρ)))) (fun ρ => some ([], ρ)))))) (fun ρ => some ([], ρ))))))))))
def b_cast_pair (g : Nm → FnD) : FS := (gSeq (gSet 4 (gCallD [false, false, false, false] (g .f_cast_value) [] (gVa (gOp2 ixD (oNm 0) (oD (fun ρ => some (.int 1, ρ)))) (gVa (gOp2 ixD (oNm 1) (oD (fun ρ => some (.int 1, ρ)))) (gVa (gOp2 ixD (oNm 2) (oD (fun ρ => some (.int 1, ρ)))) (gVa (gNm 3) (fun ρ => some ([], ρ)))))))) (gSeq (gIfS (gT (gOp2 eqD (oD (gOp2 ixD (oNm 4) (oD (fun ρ => some (.int 0, ρ))))) (oD (fun ρ => some (.str "blame", ρ))))) (gRet (gMv 4)) gSkip) (gSeq (gSet 5 (gCallD [false, false, false, false] (g .f_cast_value) [] (gVa (gOp2 ixD (oNm 0) (oD (fun ρ => some (.int 2, ρ)))) (gVa (gOp2 ixD (oNm 1) (oD (fun ρ => some (.int 2, ρ)))) (gVa (gOp2 ixD (oNm 2) (oD (fun ρ => some (.int 2, ρ)))) (gVa (gNm 3) (fun ρ => some ([], ρ)))))))) (gRet (gIfW (gT (gOp2 eqD (oD (gOp2 ixD (oNm 5) (oD (fun ρ => some (.int 0, ρ))))) (oD (fun ρ => some (.str "blame", ρ))))) (gMv 5) (wD (gTup (gCons (fun ρ => some (.str "ok", ρ)) (gCons (gTup (gCons (fun ρ => some (.str "pair", ρ)) (gCons (gOp2 ixD (oNm 4) (oD (fun ρ => some (.int 1, ρ)))) (gCons (gOp2 ixD (oNm 5) (oD (fun ρ => some (.int 1, ρ)))) (fun ρ => some ([], ρ)))))) (fun ρ => some ([], ρ)))))))))))
def l_cast_items_0 (g : Nm → FnD) : FS := (gSeq (gSet 6 (gCallD [false, false, false, false] (g .f_cast_value) [] (gVa (gNm 5) (gVa (gOp2 ixD (oNm 1) (oD (fun ρ => some (.int 1, ρ)))) (gVa (gOp2 ixD (oNm 2) (oD (fun ρ => some (.int 1, ρ)))) (gVa (gNm 3) (fun ρ => some ([], ρ)))))))) (gSeq (gIfS (gT (gOp2 eqD (oD (gOp2 ixD (oNm 6) (oD (fun ρ => some (.int 0, ρ))))) (oD (fun ρ => some (.str "blame", ρ))))) (gRet (gMv 6)) gSkip) (gApp 4 (gOp2 ixD (oNm 6) (oD (fun ρ => some (.int 1, ρ)))))))
def b_cast_items (g : Nm → FnD) : FS := (gSeq (gSet 4 (gLst (fun ρ => some ([], ρ)))) (gSeq (gFor (gSq (gOp2 ixD (oNm 0) (oD (fun ρ => some (.int 1, ρ))))) (hNm 5) (l_cast_items_0 g)) (gRet (wD (gTup (gCons (fun ρ => some (.str "ok", ρ)) (gCons (gTup (gCons (fun ρ => some (.str "items", ρ)) (gCons (gOp1 tupD (oNm 4)) (fun ρ => some ([], ρ))))) (fun ρ => some ([], ρ)))))))))
def b_shown (g : Nm → FnD) : FS := (gSeq (gIfS (gT (gOp2 eqD (oD (gOp2 ixD (oNm 0) (oD (fun ρ => some (.int 0, ρ))))) (oD (fun ρ => some (.str "tag", ρ))))) (gRet (gCallD [false] (g .f_shown) [] (gVa (gOp2 ixD (oNm 0) (oD (fun ρ => some (.int 2, ρ)))) (fun ρ => some ([], ρ))))) gSkip) (gSeq (gIfS (gT (gOp2 inD (oD (gOp2 ixD (oNm 0) (oD (fun ρ => some (.int 0, ρ))))) (oD (gTup (gCons (fun ρ => some (.str "closure", ρ)) (gCons (fun ρ => some (.str "wrap", ρ)) (fun ρ => some ([], ρ)))))))) (gRet (wD (gTup (gCons (fun ρ => some (.str "fn", ρ)) (fun ρ => some ([], ρ)))))) gSkip) (gSeq (gIfS (gT (gOp2 eqD (oD (gOp2 ixD (oNm 0) (oD (fun ρ => some (.int 0, ρ))))) (oD (fun ρ => some (.str "pair", ρ))))) (gRet (wD (gTup (gCons (fun ρ => some (.str "pair", ρ)) (gCons (shW (gCallD [false] (g .f_shown) [] (gVa (gOp2 ixD (oNm 0) (oD (fun ρ => some (.int 1, ρ)))) (fun ρ => some ([], ρ))))) (gCons (shW (gCallD [false] (g .f_shown) [] (gVa (gOp2 ixD (oNm 0) (oD (fun ρ => some (.int 2, ρ)))) (fun ρ => some ([], ρ))))) (fun ρ => some ([], ρ)))))))) gSkip) (gSeq (gIfS (gT (gOp2 eqD (oD (gOp2 ixD (oNm 0) (oD (fun ρ => some (.int 0, ρ))))) (oD (fun ρ => some (.str "items", ρ))))) (gRet (wD (gTup (gCons (fun ρ => some (.str "items", ρ)) (gCons (gOp1 tupD (oD (shW (gComp [1] (gSq (gOp2 ixD (oNm 0) (oD (fun ρ => some (.int 1, ρ))))) (hNm 1) tYesD (shW (gCallD [false] (g .f_shown) [] (gVa (gNm 1) (fun ρ => some ([], ρ))))))))) (fun ρ => some ([], ρ))))))) gSkip) (gRet (gMv 0))))))
def b_cast_any (g : Nm → FnD) : FS := (gSeq (gIfS (gOr (gT (gOp2 eqD (oNm 1) (oNm 2))) (gT (gOp2 neD (oD (gOp2 ixD (oNm 1) (oD (fun ρ => some (.int 0, ρ))))) (oD (fun ρ => some (.str "cell", ρ)))))) (gRet (gCallD [false, false, false, false] (g .f_cast_value) [] (gVa (gNm 0) (gVa (gNm 1) (gVa (gNm 2) (gVa (gNm 3) (fun ρ => some ([], ρ)))))))) gSkip) (gRet (wD (gTup (gCons (fun ρ => some (.str "ok", ρ)) (gCons (gTup (gCons (fun ρ => some (.str "around", ρ)) (gCons (gNm 0) (gCons (gNm 1) (gCons (gNm 2) (gCons (gNm 3) (fun ρ => some ([], ρ)))))))) (fun ρ => some ([], ρ))))))))
def b_Store___init__ (g : Nm → FnD) : FS := (gSetF 0 "Store" "kept" (gLst (fun ρ => some ([], ρ))))
def b_Store_make (g : Nm → FnD) : FS := (gSeq (gAppF 0 "Store" "kept" (gNm 1)) (gRet (wD (gTup (gCons (fun ρ => some (.str "cell", ρ)) (gCons (gOp2 subI (oD (gOp1V lenD (gFlV 0 "Store" "kept"))) (oD (fun ρ => some (.int 1, ρ)))) (fun ρ => some ([], ρ))))))))
def b_Store_read (g : Nm → FnD) : FS := (gSeq (gIfS (gT (gOp2 eqD (oD (gOp2 ixD (oNm 1) (oD (fun ρ => some (.int 0, ρ))))) (oD (fun ρ => some (.str "cell", ρ))))) (gRet (wD (gTup (gCons (fun ρ => some (.str "ok", ρ)) (gCons (gIxF 0 "Store" "kept" (gOp2 ixD (oNm 1) (oD (fun ρ => some (.int 1, ρ))))) (fun ρ => some ([], ρ))))))) gSkip) (gSeq (gSet 2 (gCallD [true, false] (g .f_Store_read) [] (gSelf 0 "Store" "read" (gVa (gOp2 ixD (oNm 1) (oD (fun ρ => some (.int 1, ρ)))) (fun ρ => some ([], ρ)))))) (gRet (gIfW (gT (gOp2 eqD (oD (gOp2 ixD (oNm 2) (oD (fun ρ => some (.int 0, ρ))))) (oD (fun ρ => some (.str "blame", ρ))))) (gMv 2) (gCallD [false, false, false, false] (g .f_cast_any) [] (gVa (gOp2 ixD (oNm 2) (oD (fun ρ => some (.int 1, ρ)))) (gVa (gOp2 ixD (oD (gOp2 ixD (oNm 1) (oD (fun ρ => some (.int 2, ρ))))) (oD (fun ρ => some (.int 1, ρ)))) (gVa (gOp2 ixD (oD (gOp2 ixD (oNm 1) (oD (fun ρ => some (.int 3, ρ))))) (oD (fun ρ => some (.int 1, ρ)))) (gVa (gOp2 ixD (oNm 1) (oD (fun ρ => some (.int 4, ρ)))) (fun ρ => some ([], ρ)))))))))))
def l_Store_write_0 (g : Nm → FnD) : FS := (gSeq (gSet 3 (gCallD [false, false, false, false] (g .f_cast_any) [] (gVa (gNm 2) (gVa (gOp2 ixD (oD (gOp2 ixD (oNm 1) (oD (fun ρ => some (.int 3, ρ))))) (oD (fun ρ => some (.int 1, ρ)))) (gVa (gOp2 ixD (oD (gOp2 ixD (oNm 1) (oD (fun ρ => some (.int 2, ρ))))) (oD (fun ρ => some (.int 1, ρ)))) (gVa (gTup (gCons (gOp2 ixD (oD (gOp2 ixD (oNm 1) (oD (fun ρ => some (.int 4, ρ))))) (oD (fun ρ => some (.int 0, ρ)))) (gCons (gNotV (gOp2 ixD (oD (gOp2 ixD (oNm 1) (oD (fun ρ => some (.int 4, ρ))))) (oD (fun ρ => some (.int 1, ρ))))) (fun ρ => some ([], ρ))))) (fun ρ => some ([], ρ)))))))) (gSeq (gIfS (gT (gOp2 eqD (oD (gOp2 ixD (oNm 3) (oD (fun ρ => some (.int 0, ρ))))) (oD (fun ρ => some (.str "blame", ρ))))) (gRet (gMv 3)) gSkip) (gPar 1 2 (wD (gOp2 ixD (oNm 1) (oD (fun ρ => some (.int 1, ρ))))) (wD (gOp2 ixD (oNm 3) (oD (fun ρ => some (.int 1, ρ))))))))
def b_Store_write (g : Nm → FnD) : FS := (gSeq (gWhile 100 (gT (gOp2 eqD (oD (gOp2 ixD (oNm 1) (oD (fun ρ => some (.int 0, ρ))))) (oD (fun ρ => some (.str "around", ρ))))) (l_Store_write_0 g)) (gSeq (gPutF 0 "Store" "kept" (gNm 2) (gOp2 ixD (oNm 1) (oD (fun ρ => some (.int 1, ρ))))) (gRet (wD (gTup (gCons (fun ρ => some (.str "ok", ρ)) (gCons (gNm 2) (fun ρ => some ([], ρ)))))))))
def b_of_cast (g : Nm → FnD) : FS := (gSeq (gIfS (gAnd (gT (gOp2 eqD (oNm 0) (oD (fun ρ => some (c_ANY, ρ))))) (gT (gOp2 eqD (oNm 1) (oD (fun ρ => some (c_ANY, ρ)))))) (gRet (wD (fun ρ => some (c_NOTHING, ρ)))) gSkip) (gSeq (gIfS (gT (gOp2 eqD (oNm 1) (oD (fun ρ => some (c_ANY, ρ))))) (gSeq (gSet 3 (gCallD [false] (g .f_ground_of) [] (gVa (gNm 0) (fun ρ => some ([], ρ))))) (gRet (wD (gTup (gCons (fun ρ => some (.str "turn", ρ)) (gCons (fun ρ => some (.non, ρ)) (gCons (shW (gCallD [false, false, false] (g .f_middle_of) [] (gVa (gNm 0) (gVa (gNm 3) (gVa (gNm 2) (fun ρ => some ([], ρ))))))) (gCons (gNm 3) (fun ρ => some ([], ρ)))))))))) gSkip) (gSeq (gIfS (gT (gOp2 eqD (oNm 0) (oD (fun ρ => some (c_ANY, ρ))))) (gSeq (gSet 3 (gCallD [false] (g .f_ground_of) [] (gVa (gNm 1) (fun ρ => some ([], ρ))))) (gRet (wD (gTup (gCons (fun ρ => some (.str "turn", ρ)) (gCons (gTup (gCons (gNm 3) (gCons (gNm 2) (fun ρ => some ([], ρ))))) (gCons (shW (gCallD [false, false, false] (g .f_middle_of) [] (gVa (gNm 3) (gVa (gNm 1) (gVa (gNm 2) (fun ρ => some ([], ρ))))))) (gCons (fun ρ => some (.non, ρ)) (fun ρ => some ([], ρ)))))))))) gSkip) (gRet (wD (gTup (gCons (fun ρ => some (.str "turn", ρ)) (gCons (fun ρ => some (.non, ρ)) (gCons (shW (gCallD [false, false, false] (g .f_middle_of) [] (gVa (gNm 0) (gVa (gNm 1) (gVa (gNm 2) (fun ρ => some ([], ρ))))))) (gCons (fun ρ => some (.non, ρ)) (fun ρ => some ([], ρ))))))))))))
def b_middle_of (g : Nm → FnD) : FS := (gSeq (gIfS (gT (gOp2 eqD (oD (gOp2 ixD (oNm 0) (oD (fun ρ => some (.int 0, ρ))))) (oD (fun ρ => some (.str "fn", ρ))))) (gRet (wD (gTup (gCons (fun ρ => some (.str "fn", ρ)) (gCons (shW (gCallD [false, false, false] (g .f_of_cast) [] (gVa (gOp2 ixD (oNm 1) (oD (fun ρ => some (.int 1, ρ)))) (gVa (gOp2 ixD (oNm 0) (oD (fun ρ => some (.int 1, ρ)))) (gVa (gTup (gCons (gOp2 ixD (oNm 2) (oD (fun ρ => some (.int 0, ρ)))) (gCons (gNotV (gOp2 ixD (oNm 2) (oD (fun ρ => some (.int 1, ρ))))) (fun ρ => some ([], ρ))))) (fun ρ => some ([], ρ))))))) (gCons (shW (gCallD [false, false, false] (g .f_of_cast) [] (gVa (gOp2 ixD (oNm 0) (oD (fun ρ => some (.int 2, ρ)))) (gVa (gOp2 ixD (oNm 1) (oD (fun ρ => some (.int 2, ρ)))) (gVa (gNm 2) (fun ρ => some ([], ρ))))))) (fun ρ => some ([], ρ)))))))) gSkip) (gSeq (gIfS (gT (gOp2 eqD (oD (gOp2 ixD (oNm 0) (oD (fun ρ => some (.int 0, ρ))))) (oD (fun ρ => some (.str "pair", ρ))))) (gRet (wD (gTup (gCons (fun ρ => some (.str "pair", ρ)) (gCons (shW (gCallD [false, false, false] (g .f_of_cast) [] (gVa (gOp2 ixD (oNm 0) (oD (fun ρ => some (.int 1, ρ)))) (gVa (gOp2 ixD (oNm 1) (oD (fun ρ => some (.int 1, ρ)))) (gVa (gNm 2) (fun ρ => some ([], ρ))))))) (gCons (shW (gCallD [false, false, false] (g .f_of_cast) [] (gVa (gOp2 ixD (oNm 0) (oD (fun ρ => some (.int 2, ρ)))) (gVa (gOp2 ixD (oNm 1) (oD (fun ρ => some (.int 2, ρ)))) (gVa (gNm 2) (fun ρ => some ([], ρ))))))) (fun ρ => some ([], ρ)))))))) gSkip) (gRet (gIfW (gT (gOp2 eqD (oD (gOp2 ixD (oNm 0) (oD (fun ρ => some (.int 0, ρ))))) (oD (fun ρ => some (.str "list", ρ))))) (wD (gTup (gCons (fun ρ => some (.str "list", ρ)) (gCons (shW (gCallD [false, false, false] (g .f_of_cast) [] (gVa (gOp2 ixD (oNm 0) (oD (fun ρ => some (.int 1, ρ)))) (gVa (gOp2 ixD (oNm 1) (oD (fun ρ => some (.int 1, ρ)))) (gVa (gNm 2) (fun ρ => some ([], ρ))))))) (fun ρ => some ([], ρ)))))) (wD (gTup (gCons (fun ρ => some (.str "plain", ρ)) (fun ρ => some ([], ρ)))))))))
def b_together (g : Nm → FnD) : FS := (gSeq (gIfS (gT (gOp2 eqD (oNm 0) (oD (fun ρ => some (c_NOTHING, ρ))))) (gRet (gMv 1)) gSkip) (gSeq (gIfS (gOr (gT (gOp2 eqD (oNm 1) (oD (fun ρ => some (c_NOTHING, ρ))))) (gT (gOp2 eqD (oD (gOp2 ixD (oNm 0) (oD (fun ρ => some (.int 0, ρ))))) (oD (fun ρ => some (.str "fail", ρ)))))) (gRet (gMv 0)) gSkip) (gSeq (gSet 2 (wD (gOp2 ixD (oNm 0) (oD (fun ρ => some (.int 1, ρ)))))) (gSeq (gIfS (gT (gOp2 eqD (oD (gOp2 ixD (oNm 1) (oD (fun ρ => some (.int 0, ρ))))) (oD (fun ρ => some (.str "fail", ρ))))) (gRet (gCallD [false, false] (g .f_fail_behind) [] (gVa (gNm 0) (gVa (gNm 1) (fun ρ => some ([], ρ)))))) gSkip) (gSeq (gIfS (gT (gOp2 isnD (oD (gOp2 ixD (oNm 0) (oD (fun ρ => some (.int 3, ρ))))) (oD (fun ρ => some (.non, ρ))))) (gIfS (gT (gOp2 neD (oD (gOp2 ixD (oNm 0) (oD (fun ρ => some (.int 3, ρ))))) (oD (gOp2 ixD (oD (gOp2 ixD (oNm 1) (oD (fun ρ => some (.int 1, ρ))))) (oD (fun ρ => some (.int 0, ρ))))))) (gRet (wD (gTup (gCons (fun ρ => some (.str "fail", ρ)) (gCons (gNm 2) (gCons (gOp2 ixD (oD (gOp2 ixD (oNm 1) (oD (fun ρ => some (.int 1, ρ))))) (oD (fun ρ => some (.int 1, ρ)))) (fun ρ => some ([], ρ)))))))) gSkip) gSkip) (gRet (wD (gTup (gCons (fun ρ => some (.str "turn", ρ)) (gCons (gNm 2) (gCons (shW (gCallD [false, false] (g .f_middles) [] (gVa (gOp2 ixD (oNm 0) (oD (fun ρ => some (.int 2, ρ)))) (gVa (gOp2 ixD (oNm 1) (oD (fun ρ => some (.int 2, ρ)))) (fun ρ => some ([], ρ)))))) (gCons (gOp2 ixD (oNm 1) (oD (fun ρ => some (.int 3, ρ)))) (fun ρ => some ([], ρ))))))))))))))
def b_fail_behind (g : Nm → FnD) : FS := (gSeq (gIfS (gAnd (gT (gOp2 isnD (oD (gOp2 ixD (oNm 0) (oD (fun ρ => some (.int 3, ρ))))) (oD (fun ρ => some (.non, ρ))))) (gAnd (gT (gOp2 isnD (oD (gOp2 ixD (oNm 1) (oD (fun ρ => some (.int 1, ρ))))) (oD (fun ρ => some (.non, ρ))))) (gT (gOp2 neD (oD (gOp2 ixD (oNm 0) (oD (fun ρ => some (.int 3, ρ))))) (oD (gOp2 ixD (oD (gOp2 ixD (oNm 1) (oD (fun ρ => some (.int 1, ρ))))) (oD (fun ρ => some (.int 0, ρ))))))))) (gRet (wD (gTup (gCons (fun ρ => some (.str "fail", ρ)) (gCons (gOp2 ixD (oNm 0) (oD (fun ρ => some (.int 1, ρ)))) (gCons (gOp2 ixD (oD (gOp2 ixD (oNm 1) (oD (fun ρ => some (.int 1, ρ))))) (oD (fun ρ => some (.int 1, ρ)))) (fun ρ => some ([], ρ)))))))) gSkip) (gRet (wD (gTup (gCons (fun ρ => some (.str "fail", ρ)) (gCons (gOp2 ixD (oNm 0) (oD (fun ρ => some (.int 1, ρ)))) (gCons (gOp2 ixD (oNm 1) (oD (fun ρ => some (.int 2, ρ)))) (fun ρ => some ([], ρ)))))))))
def b_middles (g : Nm → FnD) : FS := (gSeq (gIfS (gT (gOp2 eqD (oD (gOp2 ixD (oNm 0) (oD (fun ρ => some (.int 0, ρ))))) (oD (fun ρ => some (.str "fn", ρ))))) (gRet (wD (gTup (gCons (fun ρ => some (.str "fn", ρ)) (gCons (shW (gCallD [false, false] (g .f_together) [] (gVa (gOp2 ixD (oNm 1) (oD (fun ρ => some (.int 1, ρ)))) (gVa (gOp2 ixD (oNm 0) (oD (fun ρ => some (.int 1, ρ)))) (fun ρ => some ([], ρ)))))) (gCons (shW (gCallD [false, false] (g .f_together) [] (gVa (gOp2 ixD (oNm 0) (oD (fun ρ => some (.int 2, ρ)))) (gVa (gOp2 ixD (oNm 1) (oD (fun ρ => some (.int 2, ρ)))) (fun ρ => some ([], ρ)))))) (fun ρ => some ([], ρ)))))))) gSkip) (gSeq (gIfS (gT (gOp2 eqD (oD (gOp2 ixD (oNm 0) (oD (fun ρ => some (.int 0, ρ))))) (oD (fun ρ => some (.str "pair", ρ))))) (gRet (wD (gTup (gCons (fun ρ => some (.str "pair", ρ)) (gCons (shW (gCallD [false, false] (g .f_together) [] (gVa (gOp2 ixD (oNm 0) (oD (fun ρ => some (.int 1, ρ)))) (gVa (gOp2 ixD (oNm 1) (oD (fun ρ => some (.int 1, ρ)))) (fun ρ => some ([], ρ)))))) (gCons (shW (gCallD [false, false] (g .f_together) [] (gVa (gOp2 ixD (oNm 0) (oD (fun ρ => some (.int 2, ρ)))) (gVa (gOp2 ixD (oNm 1) (oD (fun ρ => some (.int 2, ρ)))) (fun ρ => some ([], ρ)))))) (fun ρ => some ([], ρ)))))))) gSkip) (gRet (gIfW (gT (gOp2 eqD (oD (gOp2 ixD (oNm 0) (oD (fun ρ => some (.int 0, ρ))))) (oD (fun ρ => some (.str "list", ρ))))) (wD (gTup (gCons (fun ρ => some (.str "list", ρ)) (gCons (shW (gCallD [false, false] (g .f_together) [] (gVa (gOp2 ixD (oNm 0) (oD (fun ρ => some (.int 1, ρ)))) (gVa (gOp2 ixD (oNm 1) (oD (fun ρ => some (.int 1, ρ)))) (fun ρ => some ([], ρ)))))) (fun ρ => some ([], ρ)))))) (gMv 0)))))
def b_is_idle (g : Nm → FnD) : FS := (gSeq (gIfS (gT (gOp2 eqD (oNm 0) (oD (fun ρ => some (c_NOTHING, ρ))))) (gRet (wD (fun ρ => some (.bl true, ρ)))) gSkip) (gSeq (gIfS (gOr (gT (gOp2 eqD (oD (gOp2 ixD (oNm 0) (oD (fun ρ => some (.int 0, ρ))))) (oD (fun ρ => some (.str "fail", ρ))))) (gOr (gT (gOp2 isnD (oD (gOp2 ixD (oNm 0) (oD (fun ρ => some (.int 1, ρ))))) (oD (fun ρ => some (.non, ρ))))) (gT (gOp2 isnD (oD (gOp2 ixD (oNm 0) (oD (fun ρ => some (.int 3, ρ))))) (oD (fun ρ => some (.non, ρ))))))) (gRet (wD (fun ρ => some (.bl false, ρ)))) gSkip) (gRet (wD (gOp1 allD (oD (shW (gComp [1] (gSq (gSl slD (oD (gOp2 ixD (oNm 0) (oD (fun ρ => some (.int 2, ρ))))) (gPart (fun ρ => some (.int 1, ρ))) (fun ρ => some (none, ρ)))) (hNm 1) tYesD (shW (gCallD [false] (g .f_is_idle) [] (gVa (gNm 1) (fun ρ => some ([], ρ)))))))))))))
def b_bend (g : Nm → FnD) : FS := (gSeq (gIfS (gT (gOp2 eqD (oNm 1) (oD (fun ρ => some (c_NOTHING, ρ))))) (gRet (wD (gTup (gCons (fun ρ => some (.str "ok", ρ)) (gCons (gNm 0) (fun ρ => some ([], ρ))))))) gSkip) (gSeq (gSet 2 (wD (gOp2 ixD (oNm 1) (oD (fun ρ => some (.int 1, ρ)))))) (gSeq (gIfS (gT (gOp2 isnD (oNm 2) (oD (fun ρ => some (.non, ρ))))) (gSeq (gIfS (gT (gOp2 neD (oD (gOp2 ixD (oNm 0) (oD (fun ρ => some (.int 1, ρ))))) (oD (gOp2 ixD (oNm 2) (oD (fun ρ => some (.int 0, ρ))))))) (gRet (wD (gTup (gCons (fun ρ => some (.str "blame", ρ)) (gCons (gOp2 ixD (oNm 2) (oD (fun ρ => some (.int 1, ρ)))) (fun ρ => some ([], ρ))))))) gSkip) (gSet 0 (wD (gOp2 ixD (oNm 0) (oD (fun ρ => some (.int 2, ρ))))))) gSkip) (gSeq (gIfS (gT (gOp2 eqD (oD (gOp2 ixD (oNm 1) (oD (fun ρ => some (.int 0, ρ))))) (oD (fun ρ => some (.str "fail", ρ))))) (gRet (wD (gTup (gCons (fun ρ => some (.str "blame", ρ)) (gCons (gOp2 ixD (oNm 1) (oD (fun ρ => some (.int 2, ρ)))) (fun ρ => some ([], ρ))))))) gSkip) (gSeq (gSet 3 (gCallD [false, false] (g .f_bend_middle) [] (gVa (gNm 0) (gVa (gOp2 ixD (oNm 1) (oD (fun ρ => some (.int 2, ρ)))) (fun ρ => some ([], ρ)))))) (gSeq (gIfS (gOr (gT (gOp2 eqD (oD (gOp2 ixD (oNm 3) (oD (fun ρ => some (.int 0, ρ))))) (oD (fun ρ => some (.str "blame", ρ))))) (gT (gOp2 isD (oD (gOp2 ixD (oNm 1) (oD (fun ρ => some (.int 3, ρ))))) (oD (fun ρ => some (.non, ρ)))))) (gRet (gMv 3)) gSkip) (gRet (wD (gTup (gCons (fun ρ => some (.str "ok", ρ)) (gCons (gTup (gCons (fun ρ => some (.str "tag", ρ)) (gCons (gOp2 ixD (oNm 1) (oD (fun ρ => some (.int 3, ρ)))) (gCons (gOp2 ixD (oNm 3) (oD (fun ρ => some (.int 1, ρ)))) (fun ρ => some ([], ρ)))))) (fun ρ => some ([], ρ)))))))))))))
def l_bend_middle_0 (g : Nm → FnD) : FS := (gSeq (gSet 6 (gCallD [false, false] (g .f_bend) [] (gVa (gNm 5) (gVa (gOp2 ixD (oNm 1) (oD (fun ρ => some (.int 1, ρ)))) (fun ρ => some ([], ρ)))))) (gSeq (gIfS (gT (gOp2 eqD (oD (gOp2 ixD (oNm 6) (oD (fun ρ => some (.int 0, ρ))))) (oD (fun ρ => some (.str "blame", ρ))))) (gRet (gMv 6)) gSkip) (gApp 4 (gOp2 ixD (oNm 6) (oD (fun ρ => some (.int 1, ρ)))))))
def b_bend_middle (g : Nm → FnD) : FS := (gSeq (gIfS (gT (gOp2 eqD (oD (gOp2 ixD (oNm 1) (oD (fun ρ => some (.int 0, ρ))))) (oD (fun ρ => some (.str "plain", ρ))))) (gRet (wD (gTup (gCons (fun ρ => some (.str "ok", ρ)) (gCons (gNm 0) (fun ρ => some ([], ρ))))))) gSkip) (gSeq (gIfS (gT (gOp2 eqD (oD (gOp2 ixD (oNm 1) (oD (fun ρ => some (.int 0, ρ))))) (oD (fun ρ => some (.str "fn", ρ))))) (gSeq (gIfS (gT (gOp1 allD (oD (shW (gComp [7] (gSq (gSl slD (oNm 1) (gPart (fun ρ => some (.int 1, ρ))) (fun ρ => some (none, ρ)))) (hNm 7) tYesD (shW (gCallD [false] (g .f_is_idle) [] (gVa (gNm 7) (fun ρ => some ([], ρ)))))))))) (gRet (wD (gTup (gCons (fun ρ => some (.str "ok", ρ)) (gCons (gNm 0) (fun ρ => some ([], ρ))))))) gSkip) (gSeq (gIfS (gT (gOp2 eqD (oD (gOp2 ixD (oNm 0) (oD (fun ρ => some (.int 0, ρ))))) (oD (fun ρ => some (.str "bent", ρ))))) (gRet (wD (gTup (gCons (fun ρ => some (.str "ok", ρ)) (gCons (gTup (gCons (fun ρ => some (.str "bent", ρ)) (gCons (gOp2 ixD (oNm 0) (oD (fun ρ => some (.int 1, ρ)))) (gCons (shW (gCallD [false, false] (g .f_middles) [] (gVa (gOp2 ixD (oNm 0) (oD (fun ρ => some (.int 2, ρ)))) (gVa (gNm 1) (fun ρ => some ([], ρ)))))) (fun ρ => some ([], ρ)))))) (fun ρ => some ([], ρ))))))) gSkip) (gRet (wD (gTup (gCons (fun ρ => some (.str "ok", ρ)) (gCons (gTup (gCons (fun ρ => some (.str "bent", ρ)) (gCons (gNm 0) (gCons (gNm 1) (fun ρ => some ([], ρ)))))) (fun ρ => some ([], ρ))))))))) gSkip) (gSeq (gIfS (gT (gOp2 eqD (oD (gOp2 ixD (oNm 1) (oD (fun ρ => some (.int 0, ρ))))) (oD (fun ρ => some (.str "pair", ρ))))) (gSeq (gSet 2 (gCallD [false, false] (g .f_bend) [] (gVa (gOp2 ixD (oNm 0) (oD (fun ρ => some (.int 1, ρ)))) (gVa (gOp2 ixD (oNm 1) (oD (fun ρ => some (.int 1, ρ)))) (fun ρ => some ([], ρ)))))) (gSeq (gIfS (gT (gOp2 eqD (oD (gOp2 ixD (oNm 2) (oD (fun ρ => some (.int 0, ρ))))) (oD (fun ρ => some (.str "blame", ρ))))) (gRet (gMv 2)) gSkip) (gSeq (gSet 3 (gCallD [false, false] (g .f_bend) [] (gVa (gOp2 ixD (oNm 0) (oD (fun ρ => some (.int 2, ρ)))) (gVa (gOp2 ixD (oNm 1) (oD (fun ρ => some (.int 2, ρ)))) (fun ρ => some ([], ρ)))))) (gRet (gIfW (gT (gOp2 eqD (oD (gOp2 ixD (oNm 3) (oD (fun ρ => some (.int 0, ρ))))) (oD (fun ρ => some (.str "blame", ρ))))) (gMv 3) (wD (gTup (gCons (fun ρ => some (.str "ok", ρ)) (gCons (gTup (gCons (fun ρ => some (.str "pair", ρ)) (gCons (gOp2 ixD (oNm 2) (oD (fun ρ => some (.int 1, ρ)))) (gCons (gOp2 ixD (oNm 3) (oD (fun ρ => some (.int 1, ρ)))) (fun ρ => some ([], ρ)))))) (fun ρ => some ([], ρ))))))))))) gSkip) (gSeq (gSet 4 (gLst (fun ρ => some ([], ρ)))) (gSeq (gFor (gSq (gOp2 ixD (oNm 0) (oD (fun ρ => some (.int 1, ρ))))) (hNm 5) (l_bend_middle_0 g)) (gRet (wD (gTup (gCons (fun ρ => some (.str "ok", ρ)) (gCons (gTup (gCons (fun ρ => some (.str "items", ρ)) (gCons (gOp1 tupD (oNm 4)) (fun ρ => some ([], ρ))))) (fun ρ => some ([], ρ))))))))))))
def b_middle_meet (g : Nm → FnD) : FS := (gSeq (gIfS (gOr (gT (gOp2 eqD (oNm 0) (oD (fun ρ => some (c_ANY, ρ))))) (gT (gOp2 eqD (oNm 1) (oD (fun ρ => some (c_ANY, ρ)))))) (gRet (gIfW (gT (gOp2 eqD (oNm 0) (oD (fun ρ => some (c_ANY, ρ))))) (gMv 1) (gMv 0))) gSkip) (gSeq (gIfS (gOr (gT (gOp2 eqD (oNm 0) (oD (fun ρ => some (c_NEVER, ρ))))) (gOr (gT (gOp2 eqD (oNm 1) (oD (fun ρ => some (c_NEVER, ρ))))) (gT (gOp2 neD (oD (gOp2 ixD (oNm 0) (oD (fun ρ => some (.int 0, ρ))))) (oD (gOp2 ixD (oNm 1) (oD (fun ρ => some (.int 0, ρ))))))))) (gRet (wD (fun ρ => some (c_NEVER, ρ)))) gSkip) (gSeq (gSet 2 (gComp [3, 4] (gZip (gCons (gSl slD (oNm 0) (gPart (fun ρ => some (.int 1, ρ))) (fun ρ => some (none, ρ))) (gCons (gSl slD (oNm 1) (gPart (fun ρ => some (.int 1, ρ))) (fun ρ => some (none, ρ))) (fun ρ => some ([], ρ))))) (hTup 2 (hCons (hNm 3) (hCons (hNm 4) hNil))) tYesD (shW (gCallD [false, false] (g .f_middle_meet) [] (gVa (gNm 3) (gVa (gNm 4) (fun ρ => some ([], ρ)))))))) (gSeq (gIfS (gAnd (gT (gOp2 eqD (oD (gOp2 ixD (oNm 0) (oD (fun ρ => some (.int 0, ρ))))) (oD (fun ρ => some (.str "pair", ρ))))) (gT (gOp2 inD (oD (fun ρ => some (c_NEVER, ρ))) (oNm 2)))) (gRet (wD (fun ρ => some (c_NEVER, ρ)))) gSkip) (gRet (wD (gOp2 addD (oD (gTup (gCons (gOp2 ixD (oNm 0) (oD (fun ρ => some (.int 0, ρ)))) (fun ρ => some ([], ρ))))) (oD (gOp1 tupD (oNm 2))))))))))
def b_triple (g : Nm → FnD) : FS := (gRet (wD (gTup (gCons (gNm 0) (gCons (shW (gCallD [false, false] (g .f_meet) [] (gVa (gNm 0) (gVa (gNm 1) (fun ρ => some ([], ρ)))))) (gCons (gNm 1) (fun ρ => some ([], ρ))))))))
def b_joined (g : Nm → FnD) : FS := (gRet (wD (gTup (gCons (gOp2 ixD (oNm 0) (oD (fun ρ => some (.int 0, ρ)))) (gCons (shW (gCallD [false, false] (g .f_middle_meet) [] (gVa (gOp2 ixD (oNm 0) (oD (fun ρ => some (.int 1, ρ)))) (gVa (gOp2 ixD (oNm 1) (oD (fun ρ => some (.int 1, ρ)))) (fun ρ => some ([], ρ)))))) (gCons (gOp2 ixD (oNm 1) (oD (fun ρ => some (.int 2, ρ)))) (fun ρ => some ([], ρ))))))))
def l_joined_all_0 (g : Nm → FnD) : FS := (gSet 1 (gCallD [false, false] (g .f_joined) [] (gVa (gNm 1) (gVa (shW (gCallD [false, false] (g .f_triple) [] (gVa (gNm 2) (gVa (gNm 3) (fun ρ => some ([], ρ)))))) (fun ρ => some ([], ρ))))))
def b_joined_all (g : Nm → FnD) : FS := (gSeq (gSet 1 (gCallD [false, false] (g .f_triple) [] (gVa (gOp2 ixD (oNm 0) (oD (fun ρ => some (.int 0, ρ)))) (gVa (gOp2 ixD (oNm 0) (oD (fun ρ => some (.int 0, ρ)))) (fun ρ => some ([], ρ)))))) (gSeq (gFor (gZip (gCons (gNm 0) (gCons (gSl slD (oNm 0) (gPart (fun ρ => some (.int 1, ρ))) (fun ρ => some (none, ρ))) (fun ρ => some ([], ρ))))) (hTup 2 (hCons (hNm 2) (hCons (hNm 3) hNil))) (l_joined_all_0 g)) (gRet (gMv 1))))
def b_goes (g : Nm → FnD) : FS := (gSeq (gIfS (gT (gOp2 eqD (oNm 1) (oD (fun ρ => some (c_ANY, ρ))))) (gRet (wD (fun ρ => some (.bl true, ρ)))) gSkip) (gSeq (gIfS (gOr (gT (gOp2 eqD (oNm 1) (oD (fun ρ => some (c_NEVER, ρ))))) (gT (gOp2 neD (oD (gOp2 ixD (oNm 0) (oD (fun ρ => some (.int 0, ρ))))) (oD (gPick "list" "items" (gOp2 ixD (oNm 1) (oD (fun ρ => some (.int 0, ρ)))) (gOp2 ixD (oNm 1) (oD (fun ρ => some (.int 0, ρ))))))))) (gRet (wD (fun ρ => some (.bl false, ρ)))) gSkip) (gSeq (gIfS (gT (gOp2 eqD (oD (gOp2 ixD (oNm 0) (oD (fun ρ => some (.int 0, ρ))))) (oD (fun ρ => some (.str "pair", ρ))))) (gRet (wD (gAndV (shW (gCallD [false, false] (g .f_goes) [] (gVa (gOp2 ixD (oNm 0) (oD (fun ρ => some (.int 1, ρ)))) (gVa (gOp2 ixD (oNm 1) (oD (fun ρ => some (.int 1, ρ)))) (fun ρ => some ([], ρ)))))) (shW (gCallD [false, false] (g .f_goes) [] (gVa (gOp2 ixD (oNm 0) (oD (fun ρ => some (.int 2, ρ)))) (gVa (gOp2 ixD (oNm 1) (oD (fun ρ => some (.int 2, ρ)))) (fun ρ => some ([], ρ))))))))) gSkip) (gSeq (gIfS (gT (gOp2 eqD (oD (gOp2 ixD (oNm 0) (oD (fun ρ => some (.int 0, ρ))))) (oD (fun ρ => some (.str "items", ρ))))) (gRet (wD (gOp1 allD (oD (shW (gComp [2] (gSq (gOp2 ixD (oNm 0) (oD (fun ρ => some (.int 1, ρ))))) (hNm 2) tYesD (shW (gCallD [false, false] (g .f_goes) [] (gVa (gNm 2) (gVa (gOp2 ixD (oNm 1) (oD (fun ρ => some (.int 1, ρ)))) (fun ρ => some ([], ρ)))))))))))) gSkip) (gRet (wD (fun ρ => some (.bl true, ρ))))))))
def b__law_draws (g : Nm → FnD) : FS := (gRet (gLst (gCons (shW (gOp1W lstD (oNm 0))) (gCons (fun ρ => some (.int 0, ρ)) (gCons (fun ρ => some (.int 0, ρ)) (gCons (fun ρ => some (.int 1, ρ)) (fun ρ => some ([], ρ))))))))
def b__law_draw (g : Nm → FnD) : FS := (gSeq (gIfS (gAnd (gT (gOp2 eqD (oD (gOp2 ixD (oNm 0) (oD (fun ρ => some (.int 2, ρ))))) (oD (fun ρ => some (.int 0, ρ))))) (gT (gOp2 ltI (oD (gOp2 ixD (oNm 0) (oD (fun ρ => some (.int 1, ρ))))) (oD (gOp1 lenD (oD (gOp2 ixD (oNm 0) (oD (fun ρ => some (.int 0, ρ)))))))))) (gSeq (gSet 2 (wD (gOp2 ixD (oD (gOp2 ixD (oNm 0) (oD (fun ρ => some (.int 0, ρ))))) (oD (gOp2 ixD (oNm 0) (oD (fun ρ => some (.int 1, ρ)))))))) (gSeq (gPut 0 (gOp2 addD (oD (gOp2 ixD (oNm 0) (oD (fun ρ => some (.int 1, ρ))))) (oD (fun ρ => some (.int 1, ρ)))) (fun ρ => some (.int 1, ρ))) (gSeq (gIfS (gT (gOp2 geI (oNm 2) (oD (gOp2 powI (oD (fun ρ => some (.int 10, ρ))) (oD (fun ρ => some (.int 18, ρ))))))) (gPut 0 (gNm 2) (fun ρ => some (.int 2, ρ))) gSkip) (gPut 0 (gOp2 modI (oD (gOp1 intD (oD (gOp2 addD (oD (gOp2 addD (oD (gOp2 mulI (oD (gOp2 ixD (oNm 0) (oD (fun ρ => some (.int 3, ρ))))) (oD (fun ρ => some (.int 48271, ρ))))) (oNm 2))) (oD (fun ρ => some (.int 13, ρ))))))) (oD (fun ρ => some (.int 2147483647, ρ)))) (fun ρ => some (.int 3, ρ)))))) gSkip) (gSeq (gIfS (gT (gOp2 gtI (oD (gOp2 ixD (oNm 0) (oD (fun ρ => some (.int 2, ρ))))) (oD (fun ρ => some (.int 0, ρ))))) (gSeq (gSet 3 (wD (gOp2 modI (oD (gOp1 intD (oD (gOp2 ixD (oNm 0) (oD (fun ρ => some (.int 2, ρ))))))) (oNm 1)))) (gSeq (gPut 0 (gOp2 divI (oD (gOp2 ixD (oNm 0) (oD (fun ρ => some (.int 2, ρ))))) (oNm 1)) (fun ρ => some (.int 2, ρ))) (gRet (gMv 3)))) gSkip) (gSeq (gPut 0 (gOp2 modI (oD (gOp1 intD (oD (gOp2 addD (oD (gOp2 mulI (oD (gOp2 ixD (oNm 0) (oD (fun ρ => some (.int 3, ρ))))) (oD (fun ρ => some (.int 69621, ρ))))) (oD (fun ρ => some (.int 7, ρ))))))) (oD (fun ρ => some (.int 2147483629, ρ)))) (fun ρ => some (.int 3, ρ))) (gRet (wD (gOp2 modI (oD (gOp1 intD (oD (gOp2 divI (oD (gOp2 ixD (oNm 0) (oD (fun ρ => some (.int 3, ρ))))) (oD (fun ρ => some (.int 11, ρ))))))) (oNm 1)))))))
def b__law_same (g : Nm → FnD) : FS := (gSeq (gIfS (gOr (gT (gOp2 isiD (oNm 1) (oD (fun ρ => some (.ty "tuple", ρ))))) (gT (gOp2 isiD (oNm 1) (oD (fun ρ => some (.ty "list", ρ)))))) (gSeq (gIfS (gOr (gT (gOp2 neD (oD (gOp2 isiD (oNm 1) (oD (fun ρ => some (.ty "tuple", ρ))))) (oD (gOp2 isiD (oNm 0) (oD (fun ρ => some (.ty "tuple", ρ))))))) (gT (gOp2 neD (oD (gOp2 isiD (oNm 1) (oD (fun ρ => some (.ty "list", ρ))))) (oD (gOp2 isiD (oNm 0) (oD (fun ρ => some (.ty "list", ρ)))))))) (gRet (wD (fun ρ => some (.bl false, ρ)))) gSkip) (gSeq (gIfS (gT (gOp2 neD (oD (gOp1 lenD (oNm 0))) (oD (gOp1 lenD (oNm 1))))) (gRet (wD (fun ρ => some (.bl false, ρ)))) gSkip) (gRet (wD (gOp2 eqD (oD (gOp1 lenD (oD (shW (gComp [2] (gRng1 (gCons (gOp1 lenD (oNm 1)) (fun ρ => some ([], ρ)))) (hNm 2) (gNot (gT (shW (gCallD [false, false] (g .f__law_same) [] (gVa (gOp2 ixD (oNm 0) (oNm 2)) (gVa (gOp2 ixD (oNm 1) (oNm 2)) (fun ρ => some ([], ρ)))))))) (gNm 2)))))) (oD (fun ρ => some (.int 0, ρ)))))))) gSkip) (gSeq (gIfS (gT (gOp2 isiD (oNm 1) (oD (fun ρ => some (.ty "str", ρ))))) (gRet (wD (gAndV (gOp2 isiD (oNm 0) (oD (fun ρ => some (.ty "str", ρ)))) (gOp2 eqD (oNm 0) (oNm 1))))) gSkip) (gSeq (gIfS (gT (gOp2 isD (oNm 1) (oD (fun ρ => some (.non, ρ))))) (gRet (wD (gOp2 isD (oNm 0) (oD (fun ρ => some (.non, ρ)))))) gSkip) (gSeq (gIfS (gOr (gT (gOp2 isiD (oNm 1) (oD (fun ρ => some (.ty "bool", ρ))))) (gT (gOp2 isiD (oNm 0) (oD (fun ρ => some (.ty "bool", ρ)))))) (gRet (wD (gAndV (gOp2 isiD (oNm 1) (oD (fun ρ => some (.ty "bool", ρ)))) (gAndV (gOp2 isiD (oNm 0) (oD (fun ρ => some (.ty "bool", ρ)))) (gOp2 eqD (oNm 0) (oNm 1)))))) gSkip) (gRet (wD (gAndV (gOp2 isiD (oNm 0) (oD (fun ρ => some (.ty "int", ρ)))) (gAndV (gOp2 isiD (oNm 1) (oD (fun ρ => some (.ty "int", ρ)))) (gOp2 eqD (oNm 0) (oNm 1))))))))))
def b__law_vaguer (g : Nm → FnD) : FS := (gSeq (gIfS (gT (gOp2 eqD (oD (shW (gCallD [true, false] (g .f__law_draw) [] (gBo 0 (gVa (fun ρ => some (.int 4, ρ)) (fun ρ => some ([], ρ))))))) (oD (fun ρ => some (.int 0, ρ))))) (gRet (wD (gTup (gCons (fun ρ => some (.str "any", ρ)) (fun ρ => some ([], ρ)))))) gSkip) (gRet (wD (gOp2 addD (oD (gTup (gCons (gOp2 ixD (oNm 1) (oD (fun ρ => some (.int 0, ρ)))) (fun ρ => some ([], ρ))))) (oD (gOp1 tupD (oD (shW (gComp [2] (gSq (gSl slD (oNm 1) (gPart (fun ρ => some (.int 1, ρ))) (fun ρ => some (none, ρ)))) (hNm 2) tYesD (shW (gCallD [true, false] (g .f__law_vaguer) [] (gBo 0 (gVa (gNm 2) (fun ρ => some ([], ρ)))))))))))))))
def b__law_alike (g : Nm → FnD) : FS := (gSeq (gIfS (gT (gOp2 inD (oD (gTup (gCons (fun ρ => some (.str "any", ρ)) (fun ρ => some ([], ρ))))) (oD (shW (gLst (gCons (gNm 0) (gCons (gNm 1) (fun ρ => some ([], ρ))))))))) (gRet (wD (fun ρ => some (.bl true, ρ)))) gSkip) (gRet (wD (gAndV (gOp2 eqD (oD (gOp2 ixD (oNm 0) (oD (fun ρ => some (.int 0, ρ))))) (oD (gOp2 ixD (oNm 1) (oD (fun ρ => some (.int 0, ρ)))))) (gOp2 eqD (oD (gOp1 lenD (oD (shW (gComp [2] (gRng2 (gCons (fun ρ => some (.int 1, ρ)) (gCons (gOp1 lenD (oNm 0)) (fun ρ => some ([], ρ))))) (hNm 2) (gNot (gT (shW (gCallD [false, false] (g .f__law_alike) [] (gVa (gOp2 ixD (oNm 0) (oNm 2)) (gVa (gOp2 ixD (oNm 1) (oNm 2)) (fun ρ => some ([], ρ)))))))) (gNm 2)))))) (oD (fun ρ => some (.int 0, ρ))))))))
def b__law_value (g : Nm → FnD) : FS := (gSeq (gIfS (gT (gOp2 eqD (oNm 1) (oD (gTup (gCons (fun ρ => some (.str "any", ρ)) (fun ρ => some ([], ρ))))))) (gSeq (gSet 3 (wD (gOp2 ixD (oD (shW (gLst (gCons (gTup (gCons (fun ρ => some (.str "int", ρ)) (fun ρ => some ([], ρ)))) (gCons (gTup (gCons (fun ρ => some (.str "bool", ρ)) (fun ρ => some ([], ρ)))) (gCons (gTup (gCons (fun ρ => some (.str "pair", ρ)) (gCons (gTup (gCons (fun ρ => some (.str "any", ρ)) (fun ρ => some ([], ρ)))) (gCons (gTup (gCons (fun ρ => some (.str "any", ρ)) (fun ρ => some ([], ρ)))) (fun ρ => some ([], ρ)))))) (gCons (gTup (gCons (fun ρ => some (.str "list", ρ)) (gCons (gTup (gCons (fun ρ => some (.str "any", ρ)) (fun ρ => some ([], ρ)))) (fun ρ => some ([], ρ))))) (fun ρ => some ([], ρ))))))))) (oD (shW (gCallD [true, false] (g .f__law_draw) [] (gBo 0 (gVa (gIf (gT (gOp2 gtI (oNm 2) (oD (fun ρ => some (.int 0, ρ))))) (fun ρ => some (.int 4, ρ)) (fun ρ => some (.int 2, ρ))) (fun ρ => some ([], ρ)))))))))) (gRet (wD (gTup (gCons (fun ρ => some (.str "tag", ρ)) (gCons (gNm 3) (gCons (shW (gCallD [true, false, false] (g .f__law_value) [] (gBo 0 (gVa (gNm 3) (gVa (gOp2 subI (oNm 2) (oD (fun ρ => some (.int 1, ρ)))) (fun ρ => some ([], ρ))))))) (fun ρ => some ([], ρ))))))))) gSkip) (gSeq (gIfS (gT (gOp2 eqD (oNm 1) (oD (gTup (gCons (fun ρ => some (.str "int", ρ)) (fun ρ => some ([], ρ))))))) (gRet (wD (gTup (gCons (fun ρ => some (.str "int", ρ)) (gCons (gOp2 subI (oD (shW (gCallD [true, false] (g .f__law_draw) [] (gBo 0 (gVa (fun ρ => some (.int 9, ρ)) (fun ρ => some ([], ρ))))))) (oD (fun ρ => some (.int 4, ρ)))) (fun ρ => some ([], ρ))))))) gSkip) (gSeq (gIfS (gT (gOp2 eqD (oNm 1) (oD (gTup (gCons (fun ρ => some (.str "bool", ρ)) (fun ρ => some ([], ρ))))))) (gRet (wD (gTup (gCons (fun ρ => some (.str "bool", ρ)) (gCons (gOp2 eqD (oD (shW (gCallD [true, false] (g .f__law_draw) [] (gBo 0 (gVa (fun ρ => some (.int 2, ρ)) (fun ρ => some ([], ρ))))))) (oD (fun ρ => some (.int 0, ρ)))) (fun ρ => some ([], ρ))))))) gSkip) (gSeq (gIfS (gT (gOp2 eqD (oD (gOp2 ixD (oNm 1) (oD (fun ρ => some (.int 0, ρ))))) (oD (fun ρ => some (.str "pair", ρ))))) (gRet (wD (gTup (gCons (fun ρ => some (.str "pair", ρ)) (gCons (shW (gCallD [true, false, false] (g .f__law_value) [] (gBo 0 (gVa (gOp2 ixD (oNm 1) (oD (fun ρ => some (.int 1, ρ)))) (gVa (gOp2 subI (oNm 2) (oD (fun ρ => some (.int 1, ρ)))) (fun ρ => some ([], ρ))))))) (gCons (shW (gCallD [true, false, false] (g .f__law_value) [] (gBo 0 (gVa (gOp2 ixD (oNm 1) (oD (fun ρ => some (.int 2, ρ)))) (gVa (gOp2 subI (oNm 2) (oD (fun ρ => some (.int 1, ρ)))) (fun ρ => some ([], ρ))))))) (fun ρ => some ([], ρ)))))))) gSkip) (gRet (wD (gTup (gCons (fun ρ => some (.str "items", ρ)) (gCons (gOp1 tupD (oD (shW (gComp [4] (gRng1 (gCons (shW (gCallD [true, false] (g .f__law_draw) [] (gBo 0 (gVa (fun ρ => some (.int 3, ρ)) (fun ρ => some ([], ρ)))))) (fun ρ => some ([], ρ)))) (hNm 4) tYesD (shW (gCallD [true, false, false] (g .f__law_value) [] (gBo 0 (gVa (gOp2 ixD (oNm 1) (oD (fun ρ => some (.int 1, ρ)))) (gVa (gOp2 subI (oNm 2) (oD (fun ρ => some (.int 1, ρ)))) (fun ρ => some ([], ρ))))))))))) (fun ρ => some ([], ρ)))))))))))
def b__law_plain (g : Nm → FnD) : FS := (gSeq (gSet 2 (gIfW (gT (gOp2 gtI (oNm 1) (oD (fun ρ => some (.int 1, ρ))))) (gCallD [true, false] (g .f__law_draw) [] (gBo 0 (gVa (fun ρ => some (.int 6, ρ)) (fun ρ => some ([], ρ))))) (gCallD [true, false] (g .f__law_draw) [] (gBo 0 (gVa (fun ρ => some (.int 3, ρ)) (fun ρ => some ([], ρ))))))) (gSeq (gIfS (gT (gOp2 ltI (oNm 2) (oD (fun ρ => some (.int 3, ρ))))) (gRet (wD (gOp2 ixD (oD (shW (gLst (gCons (gTup (gCons (fun ρ => some (.str "int", ρ)) (fun ρ => some ([], ρ)))) (gCons (gTup (gCons (fun ρ => some (.str "bool", ρ)) (fun ρ => some ([], ρ)))) (gCons (gTup (gCons (fun ρ => some (.str "any", ρ)) (fun ρ => some ([], ρ)))) (fun ρ => some ([], ρ)))))))) (oNm 2)))) gSkip) (gRet (gIfW (gT (gOp2 eqD (oNm 2) (oD (fun ρ => some (.int 3, ρ))))) (wD (gTup (gCons (fun ρ => some (.str "list", ρ)) (gCons (shW (gCallD [true, false] (g .f__law_plain) [] (gBo 0 (gVa (gOp2 subI (oNm 1) (oD (fun ρ => some (.int 1, ρ)))) (fun ρ => some ([], ρ)))))) (fun ρ => some ([], ρ)))))) (wD (gTup (gCons (fun ρ => some (.str "pair", ρ)) (gCons (shW (gCallD [true, false] (g .f__law_plain) [] (gBo 0 (gVa (gOp2 subI (oNm 1) (oD (fun ρ => some (.int 1, ρ)))) (fun ρ => some ([], ρ)))))) (gCons (shW (gCallD [true, false] (g .f__law_plain) [] (gBo 0 (gVa (gOp2 subI (oNm 1) (oD (fun ρ => some (.int 1, ρ)))) (fun ρ => some ([], ρ)))))) (fun ρ => some ([], ρ)))))))))))
def l__law_plain_chain_0 (g : Nm → FnD) : FS := (gSeq (gIfS (gAnd (gT (gOp2 eqD (oD (gOp2 ixD (oNm 3) (oNm 4))) (oD (gTup (gCons (fun ρ => some (.str "any", ρ)) (fun ρ => some ([], ρ))))))) (gT (gOp2 eqD (oD (shW (gCallD [true, false] (g .f__law_draw) [] (gBo 0 (gVa (fun ρ => some (.int 2, ρ)) (fun ρ => some ([], ρ))))))) (oD (fun ρ => some (.int 0, ρ)))))) (gSet 2 (gCallD [true, false] (g .f__law_plain) [] (gBo 0 (gVa (fun ρ => some (.int 3, ρ)) (fun ρ => some ([], ρ)))))) gSkip) (gApp 3 (gIf (gOr (gT (gOp2 eqD (oD (shW (gCallD [true, false] (g .f__law_draw) [] (gBo 0 (gVa (fun ρ => some (.int 4, ρ)) (fun ρ => some ([], ρ))))))) (oD (fun ρ => some (.int 0, ρ))))) (gNot (gT (shW (gCallD [false, false] (g .f__law_alike) [] (gVa (gOp2 ixD (oNm 3) (oNm 4)) (gVa (gNm 2) (fun ρ => some ([], ρ))))))))) (gTup (gCons (fun ρ => some (.str "any", ρ)) (fun ρ => some ([], ρ)))) (shW (gCallD [true, false] (g .f__law_vaguer) [] (gBo 0 (gVa (gNm 2) (fun ρ => some ([], ρ)))))))))
def b__law_plain_chain (g : Nm → FnD) : FS := (gSeq (gSet 2 (gCallD [true, false] (g .f__law_plain) [] (gBo 0 (gVa (fun ρ => some (.int 3, ρ)) (fun ρ => some ([], ρ)))))) (gSeq (gSet 3 (gLst (gCons (shW (gCallD [true, false] (g .f__law_vaguer) [] (gBo 0 (gVa (gNm 2) (fun ρ => some ([], ρ)))))) (fun ρ => some ([], ρ))))) (gSeq (gFor (gRng1 (gCons (gNm 1) (fun ρ => some ([], ρ)))) (hNm 4) (l__law_plain_chain_0 g)) (gRet (gMv 3)))))
def b__law_bare (g : Nm → FnD) : FS := (gSeq (gIfS (gT (gOp2 eqD (oD (gOp2 ixD (oNm 0) (oD (fun ρ => some (.int 0, ρ))))) (oD (fun ρ => some (.str "tag", ρ))))) (gRet (gCallD [false] (g .f__law_bare) [] (gVa (gOp2 ixD (oNm 0) (oD (fun ρ => some (.int 2, ρ)))) (fun ρ => some ([], ρ))))) gSkip) (gSeq (gIfS (gT (gOp2 eqD (oD (gOp2 ixD (oNm 0) (oD (fun ρ => some (.int 0, ρ))))) (oD (fun ρ => some (.str "pair", ρ))))) (gRet (wD (gTup (gCons (fun ρ => some (.str "pair", ρ)) (gCons (shW (gCallD [false] (g .f__law_bare) [] (gVa (gOp2 ixD (oNm 0) (oD (fun ρ => some (.int 1, ρ)))) (fun ρ => some ([], ρ))))) (gCons (shW (gCallD [false] (g .f__law_bare) [] (gVa (gOp2 ixD (oNm 0) (oD (fun ρ => some (.int 2, ρ)))) (fun ρ => some ([], ρ))))) (fun ρ => some ([], ρ)))))))) gSkip) (gRet (gIfW (gT (gOp2 eqD (oD (gOp2 ixD (oNm 0) (oD (fun ρ => some (.int 0, ρ))))) (oD (fun ρ => some (.str "items", ρ))))) (wD (gTup (gCons (fun ρ => some (.str "items", ρ)) (gCons (gOp1 tupD (oD (shW (gComp [1] (gSq (gOp2 ixD (oNm 0) (oD (fun ρ => some (.int 1, ρ))))) (hNm 1) tYesD (shW (gCallD [false] (g .f__law_bare) [] (gVa (gNm 1) (fun ρ => some ([], ρ))))))))) (fun ρ => some ([], ρ)))))) (gMv 0)))))
def l__law_row_0 (g : Nm → FnD) : FS := (gSet 1 (gCallD [false, false] (g .f_together) [] (gVa (gNm 1) (gVa (shW (gCallD [false, false, false] (g .f_of_cast) [] (gVa (gOp2 ixD (oNm 0) (oNm 2)) (gVa (gOp2 ixD (oNm 0) (oD (gOp2 addD (oNm 2) (oD (fun ρ => some (.int 1, ρ)))))) (gVa (gTup (gCons (gTup (gCons (gNm 2) (fun ρ => some ([], ρ)))) (gCons (fun ρ => some (.bl true, ρ)) (fun ρ => some ([], ρ))))) (fun ρ => some ([], ρ))))))) (fun ρ => some ([], ρ))))))
def b__law_row (g : Nm → FnD) : FS := (gSeq (gSet 1 (gCallD [false, false, false] (g .f_of_cast) [] (gVa (gOp2 ixD (oNm 0) (oD (fun ρ => some (.int 0, ρ)))) (gVa (gOp2 ixD (oNm 0) (oD (fun ρ => some (.int 0, ρ)))) (gVa (gTup (gCons (gTup (gCons (fun ρ => some (.int 0, ρ)) (fun ρ => some ([], ρ)))) (gCons (fun ρ => some (.bl true, ρ)) (fun ρ => some ([], ρ))))) (fun ρ => some ([], ρ))))))) (gSeq (gFor (gRng1 (gCons (gOp2 subI (oD (gOp1 lenD (oNm 0))) (oD (fun ρ => some (.int 1, ρ)))) (fun ρ => some ([], ρ)))) (hNm 2) (l__law_row_0 g)) (gRet (gMv 1))))
def l_law_0 (g : Nm → FnD) : FS := (gSet 6 (wD (gOp2 ixD (oD (shW (gCallD [false, false, false, false] (g .f_cast_any) [] (gVa (gNm 6) (gVa (gTup (gCons (fun ρ => some (.str "cell", ρ)) (gCons (gOp2 ixD (oNm 3) (oNm 7)) (fun ρ => some ([], ρ))))) (gVa (gTup (gCons (fun ρ => some (.str "cell", ρ)) (gCons (gOp2 ixD (oNm 3) (oD (gOp2 addD (oNm 7) (oD (fun ρ => some (.int 1, ρ)))))) (fun ρ => some ([], ρ))))) (gVa (gTup (gCons (gTup (gCons (gNm 7) (fun ρ => some ([], ρ)))) (gCons (fun ρ => some (.bl true, ρ)) (fun ρ => some ([], ρ))))) (fun ρ => some ([], ρ))))))))) (oD (fun ρ => some (.int 1, ρ))))))
def l_law_1 (g : Nm → FnD) : FS := (gSeq (gSet 3 (gCallD [true, false] (g .f__law_plain_chain) [] (gBo 1 (gVa (shW (gCallD [true, false] (g .f__law_draw) [] (gBo 1 (gVa (fun ρ => some (.int 5, ρ)) (fun ρ => some ([], ρ)))))) (fun ρ => some ([], ρ)))))) (gSeq (gSet 4 (gMake [true] (g .n_Store) [] "Store" (fun ρ => some ([], ρ)))) (gSeq (gSet 5 (gCallD [true, false, false] (g .f__law_value) [] (gBo 1 (gVa (gOp2 ixD (oNm 3) (oD (fun ρ => some (.int 0, ρ)))) (gVa (fun ρ => some (.int 3, ρ)) (fun ρ => some ([], ρ))))))) (gSeq (gSet 6 (gCallD [true, false] (g .f_Store_make) [] (gSelf 4 "Store" "make" (gVa (gNm 5) (fun ρ => some ([], ρ)))))) (gSeq (gFor (gRng1 (gCons (gOp2 subI (oD (gOp1 lenD (oNm 3))) (oD (fun ρ => some (.int 1, ρ)))) (fun ρ => some ([], ρ)))) (hNm 7) (l_law_0 g)) (gSeq (gPar 8 9 (gCallD [true, false] (g .f_Store_read) [] (gSelf 4 "Store" "read" (gVa (gNm 6) (fun ρ => some ([], ρ))))) (gCallD [false, false] (g .f_bend) [] (gVa (gNm 5) (gVa (shW (gCallD [false] (g .f__law_row) [] (gVa (gNm 3) (fun ρ => some ([], ρ))))) (fun ρ => some ([], ρ)))))) (gSeq (gIfS (gOr (gT (gOp2 neD (oD (gOp2 ixD (oNm 8) (oD (fun ρ => some (.int 0, ρ))))) (oD (gOp2 ixD (oNm 9) (oD (fun ρ => some (.int 0, ρ))))))) (gAnd (gT (gOp2 eqD (oD (gOp2 ixD (oNm 8) (oD (fun ρ => some (.int 0, ρ))))) (oD (fun ρ => some (.str "ok", ρ))))) (gNot (gT (shW (gCallD [false, false] (g .f__law_same) [] (gVa (shW (gCallD [false] (g .f_shown) [] (gVa (gOp2 ixD (oNm 8) (oD (fun ρ => some (.int 1, ρ)))) (fun ρ => some ([], ρ))))) (gVa (shW (gCallD [false] (g .f_shown) [] (gVa (gOp2 ixD (oNm 9) (oD (fun ρ => some (.int 1, ρ)))) (fun ρ => some ([], ρ))))) (fun ρ => some ([], ρ)))))))))) (gRet (wD (fun ρ => some (.bl false, ρ)))) gSkip) (gSeq (gIfS (gNot (gT (shW (gCallD [false, false] (g .f__law_same) [] (gVa (shW (gCallD [false, false] (g .f_goes) [] (gVa (shW (gCallD [false] (g .f__law_bare) [] (gVa (gNm 5) (fun ρ => some ([], ρ))))) (gVa (gOp2 ixD (oD (shW (gCallD [false] (g .f_joined_all) [] (gVa (gNm 3) (fun ρ => some ([], ρ)))))) (oD (fun ρ => some (.int 1, ρ)))) (fun ρ => some ([], ρ)))))) (gVa (gOp2 eqD (oD (gOp2 ixD (oNm 8) (oD (fun ρ => some (.int 0, ρ))))) (oD (fun ρ => some (.str "ok", ρ)))) (fun ρ => some ([], ρ)))))))) (gRet (wD (fun ρ => some (.bl false, ρ)))) gSkip) (gSeq (gSet 10 (gCallD [true, false, false] (g .f__law_value) [] (gBo 1 (gVa (gOp2 ixD (oNm 3) (oD (gOp2 subI (oD (gOp1 lenD (oNm 3))) (oD (fun ρ => some (.int 1, ρ)))))) (gVa (fun ρ => some (.int 3, ρ)) (fun ρ => some ([], ρ))))))) (gSeq (gSet 11 (gCallD [false, false] (g .f_bend) [] (gVa (gNm 10) (gVa (shW (gCallD [false] (g .f__law_row) [] (gVa (shW (gOp1W revD (oNm 3))) (fun ρ => some ([], ρ))))) (fun ρ => some ([], ρ)))))) (gSeq (gSet 12 (gCallD [true, false, false] (g .f_Store_write) [] (gSelf 4 "Store" "write" (gVa (gNm 6) (gVa (gNm 10) (fun ρ => some ([], ρ))))))) (gIfS (gOr (gT (gOp2 neD (oD (gOp2 ixD (oNm 12) (oD (fun ρ => some (.int 0, ρ))))) (oD (gOp2 ixD (oNm 11) (oD (fun ρ => some (.int 0, ρ))))))) (gOr (gAnd (gT (gOp2 eqD (oD (gOp2 ixD (oNm 12) (oD (fun ρ => some (.int 0, ρ))))) (oD (fun ρ => some (.str "ok", ρ))))) (gNot (gT (shW (gCallD [false, false] (g .f__law_same) [] (gVa (shW (gCallD [false] (g .f_shown) [] (gVa (gOp2 ixD (oNm 12) (oD (fun ρ => some (.int 1, ρ)))) (fun ρ => some ([], ρ))))) (gVa (shW (gCallD [false] (g .f_shown) [] (gVa (gOp2 ixD (oNm 11) (oD (fun ρ => some (.int 1, ρ)))) (fun ρ => some ([], ρ))))) (fun ρ => some ([], ρ))))))))) (gT (gOpF neD 4 "Store" "kept" (shW (gLst (gCons (gIf (gT (gOp2 eqD (oD (gOp2 ixD (oNm 12) (oD (fun ρ => some (.int 0, ρ))))) (oD (fun ρ => some (.str "ok", ρ))))) (gOp2 ixD (oNm 12) (oD (fun ρ => some (.int 1, ρ)))) (gNm 5)) (fun ρ => some ([], ρ))))))))) (gRet (wD (fun ρ => some (.bl false, ρ)))) gSkip))))))))))))
def b_law (g : Nm → FnD) : FS := (gSeq (gSet 1 (gCallD [false] (g .f__law_draws) [] (gVa (gNm 0) (fun ρ => some ([], ρ))))) (gSeq (gFor (gRng1 (gCons (fun ρ => some (.int 6, ρ)) (fun ρ => some ([], ρ)))) (hNm 2) (l_law_1 g)) (gRet (wD (gOp2 eqD (oD (shW (gCallD [false, false] (g .f_bend) [] (gVa (gTup (gCons (fun ρ => some (.str "tag", ρ)) (gCons (gTup (gCons (fun ρ => some (.str "int", ρ)) (fun ρ => some ([], ρ)))) (gCons (gTup (gCons (fun ρ => some (.str "int", ρ)) (gCons (fun ρ => some (.int 2, ρ)) (fun ρ => some ([], ρ))))) (fun ρ => some ([], ρ)))))) (gVa (fun ρ => some (c_NOTHING, ρ)) (fun ρ => some ([], ρ))))))) (oD (gTup (gCons (fun ρ => some (.str "ok", ρ)) (gCons (gTup (gCons (fun ρ => some (.str "tag", ρ)) (gCons (gTup (gCons (fun ρ => some (.str "int", ρ)) (fun ρ => some ([], ρ)))) (gCons (gTup (gCons (fun ρ => some (.str "int", ρ)) (gCons (fun ρ => some (.int 2, ρ)) (fun ρ => some ([], ρ))))) (fun ρ => some ([], ρ)))))) (fun ρ => some ([], ρ)))))))))))
def bd (g : Nm → FnD) : Nm → FnD
  | .f__wall => runG [false] 1 (b__wall g)
  | .f_ground_of => runG [false] 1 (b_ground_of g)
  | .f_meet => runG [false, false] 5 (b_meet g)
  | .f_cast_value => runG [false, false, false, false] 4 (b_cast_value g)
  | .f_tagged => runG [false, false, false] 5 (b_tagged g)
  | .f_cast_pair => runG [false, false, false, false] 6 (b_cast_pair g)
  | .f_cast_items => runG [false, false, false, false] 7 (b_cast_items g)
  | .f_shown => runG [false] 2 (b_shown g)
  | .f_cast_any => runG [false, false, false, false] 4 (b_cast_any g)
  | .f_Store___init__ => runG [true] 1 (b_Store___init__ g)
  | .f_Store_make => runG [true, false] 2 (b_Store_make g)
  | .f_Store_read => runG [true, false] 3 (b_Store_read g)
  | .f_Store_write => runG [true, false, false] 4 (b_Store_write g)
  | .f_of_cast => runG [false, false, false] 4 (b_of_cast g)
  | .f_middle_of => runG [false, false, false] 3 (b_middle_of g)
  | .f_together => runG [false, false] 3 (b_together g)
  | .f_fail_behind => runG [false, false] 2 (b_fail_behind g)
  | .f_middles => runG [false, false] 2 (b_middles g)
  | .f_is_idle => runG [false] 2 (b_is_idle g)
  | .f_bend => runG [false, false] 4 (b_bend g)
  | .f_bend_middle => runG [false, false] 8 (b_bend_middle g)
  | .f_middle_meet => runG [false, false] 5 (b_middle_meet g)
  | .f_triple => runG [false, false] 2 (b_triple g)
  | .f_joined => runG [false, false] 2 (b_joined g)
  | .f_joined_all => runG [false] 4 (b_joined_all g)
  | .f_goes => runG [false, false] 3 (b_goes g)
  | .f__law_draws => runG [false] 1 (b__law_draws g)
  | .f__law_draw => runG [true, false] 4 (b__law_draw g)
  | .f__law_same => runG [false, false] 3 (b__law_same g)
  | .f__law_vaguer => runG [true, false] 3 (b__law_vaguer g)
  | .f__law_alike => runG [false, false] 3 (b__law_alike g)
  | .f__law_value => runG [true, false, false] 5 (b__law_value g)
  | .f__law_plain => runG [true, false] 3 (b__law_plain g)
  | .f__law_plain_chain => runG [true, false] 5 (b__law_plain_chain g)
  | .f__law_bare => runG [false] 2 (b__law_bare g)
  | .f__law_row => runG [false] 3 (b__law_row g)
  | .f_law => runG [false] 13 (b_law g)
  | .n_Store => g .f_Store___init__
def G : Nat → Nm → FnD
  | 0 => fun _ _ => none
  | n + 1 => bd (G n)
theorem G_succ (n : Nat) (x : Nm) (ds : List D) : G (n + 1) x ds = bd (G n) x ds := rfl
section
variable {P : Program} {w : World} {K : PySem.W.Frag} {mg : Str → Option Value} {base : Heap}
structure Gf (K : PySem.W.Frag) (mg : Str → Option Value) : Prop where
  z : Zs mg
  g_ANY : ∃ u v, mg "ANY" = some u ∧ RelV v u ∧ ∀ F H, Rep ⟨K, mg⟩ F H c_ANY v
  g_NOTHING : ∃ u v, mg "NOTHING" = some u ∧ RelV v u ∧ ∀ F H, Rep ⟨K, mg⟩ F H c_NOTHING v
  g_NEVER : ∃ u v, mg "NEVER" = some u ∧ RelV v u ∧ ∀ F H, Rep ⟨K, mg⟩ F H c_NEVER v
  a_Store_kept : ClsF ⟨K, mg⟩ "Store" "kept"
structure Fs (P : Program) (w : World) (K : PySem.W.Frag) (mg : Str → Option Value) (base : Heap) (n : Nat) (g : Nm → FnD) : Prop where
  f__wall : FnA P w K mg base n "_wall" [false] (g .f__wall)
  f_ground_of : FnA P w K mg base n "ground_of" [false] (g .f_ground_of)
  f_meet : FnA P w K mg base n "meet" [false, false] (g .f_meet)
  f_cast_value : FnA P w K mg base n "cast_value" [false, false, false, false] (g .f_cast_value)
  f_tagged : FnA P w K mg base n "tagged" [false, false, false] (g .f_tagged)
  f_cast_pair : FnA P w K mg base n "cast_pair" [false, false, false, false] (g .f_cast_pair)
  f_cast_items : FnA P w K mg base n "cast_items" [false, false, false, false] (g .f_cast_items)
  f_shown : FnA P w K mg base n "shown" [false] (g .f_shown)
  f_cast_any : FnA P w K mg base n "cast_any" [false, false, false, false] (g .f_cast_any)
  f_Store___init__ : MakA P w K mg base n "Store" [true] (g .f_Store___init__)
  f_Store_make : MetA P w K mg base n "Store" "make" [true, false] (g .f_Store_make)
  f_Store_read : MetA P w K mg base n "Store" "read" [true, false] (g .f_Store_read)
  f_Store_write : MetA P w K mg base n "Store" "write" [true, false, false] (g .f_Store_write)
  f_of_cast : FnA P w K mg base n "of_cast" [false, false, false] (g .f_of_cast)
  f_middle_of : FnA P w K mg base n "middle_of" [false, false, false] (g .f_middle_of)
  f_together : FnA P w K mg base n "together" [false, false] (g .f_together)
  f_fail_behind : FnA P w K mg base n "fail_behind" [false, false] (g .f_fail_behind)
  f_middles : FnA P w K mg base n "middles" [false, false] (g .f_middles)
  f_is_idle : FnA P w K mg base n "is_idle" [false] (g .f_is_idle)
  f_bend : FnA P w K mg base n "bend" [false, false] (g .f_bend)
  f_bend_middle : FnA P w K mg base n "bend_middle" [false, false] (g .f_bend_middle)
  f_middle_meet : FnA P w K mg base n "middle_meet" [false, false] (g .f_middle_meet)
  f_triple : FnA P w K mg base n "triple" [false, false] (g .f_triple)
  f_joined : FnA P w K mg base n "joined" [false, false] (g .f_joined)
  f_joined_all : FnA P w K mg base n "joined_all" [false] (g .f_joined_all)
  f_goes : FnA P w K mg base n "goes" [false, false] (g .f_goes)
  f__law_draws : FnA P w K mg base n "_law_draws" [false] (g .f__law_draws)
  f__law_draw : FnA P w K mg base n "_law_draw" [true, false] (g .f__law_draw)
  f__law_same : FnA P w K mg base n "_law_same" [false, false] (g .f__law_same)
  f__law_vaguer : FnA P w K mg base n "_law_vaguer" [true, false] (g .f__law_vaguer)
  f__law_alike : FnA P w K mg base n "_law_alike" [false, false] (g .f__law_alike)
  f__law_value : FnA P w K mg base n "_law_value" [true, false, false] (g .f__law_value)
  f__law_plain : FnA P w K mg base n "_law_plain" [true, false] (g .f__law_plain)
  f__law_plain_chain : FnA P w K mg base n "_law_plain_chain" [true, false] (g .f__law_plain_chain)
  f__law_bare : FnA P w K mg base n "_law_bare" [false] (g .f__law_bare)
  f__law_row : FnA P w K mg base n "_law_row" [false] (g .f__law_row)
  f_law : FnA P w K mg base n "law" [false] (g .f_law)
  n_Store : NewA P w K mg base n "Store" [true] (g .n_Store)
abbrev s__wall : Stmt := topS 0
abbrev N__wall : List Str := ["k"]
theorem sc__wall : FnScope N__wall ["k"] (defScope s__wall) := ⟨rfl, rfl, rfl, by decide +kernel, rfl, by decide +kernel, by decide +kernel⟩
theorem ok__wall {n : Nat} {g : Nm → FnD} (Gs : Gf K mg) (ih : Fs P w K mg base n g) : ∀ (f : Addr) (cdv : Value) (A : Around) (outer : List PySem.Env) (s : Shared) (H : Hp) (E : XK), Room n (A.deeper (envOfC "_wall" (defScope s__wall) s.heap.objs.size f cdv)) →
    PSs (bodyX P w K mg base N__wall "_wall" (defScope s__wall) f cdv A outer s H E) (defBody s__wall) (tS ⟨K, mg⟩ (b__wall g)) := fun f cdv A outer s H E hr =>
  have Z := Gs.z
  have SC := sc__wall
  (css_one (cs_while PassesOwn.never (ct_val cd_bl) (css_one cs_pass)))
abbrev s_ground_of : Stmt := topS 3
abbrev N_ground_of : List Str := ["kind"]
theorem sc_ground_of : FnScope N_ground_of ["kind"] (defScope s_ground_of) := ⟨rfl, rfl, rfl, by decide +kernel, rfl, by decide +kernel, by decide +kernel⟩
theorem ok_ground_of {n : Nat} {g : Nm → FnD} (Gs : Gf K mg) (ih : Fs P w K mg base n g) : ∀ (f : Addr) (cdv : Value) (A : Around) (outer : List PySem.Env) (s : Shared) (H : Hp) (E : XK), Room n (A.deeper (envOfC "ground_of" (defScope s_ground_of) s.heap.objs.size f cdv)) →
    PSs (bodyX P w K mg base N_ground_of "ground_of" (defScope s_ground_of) f cdv A outer s H E) (defBody s_ground_of) (tS ⟨K, mg⟩ (b_ground_of g)) := fun f cdv A outer s H E hr =>
  have Z := Gs.z
  have SC := sc_ground_of
  (css_one (cs_ret (cw_of (w_add (co_of (cd_tup (cl_cons (w_ix hr (co_name (i := 0)) (co_of cd_int)) cl_nil))) (co_of (w_mulD (co_of (cd_tup (cl_cons (cd_glob ⟨rfl, Gs.g_ANY⟩) cl_nil))) (co_of (w_sub (co_of (w_len Z (co_name (i := 0)))) (co_of cd_int)))))))))
abbrev s_meet : Stmt := topS 5
abbrev N_meet : List Str := ["one", "two", "parts", "first", "other"]
theorem sc_meet : FnScope N_meet ["one", "two"] (defScope s_meet) := ⟨rfl, rfl, rfl, by decide +kernel, rfl, by decide +kernel, by decide +kernel⟩
theorem ok_meet {n : Nat} {g : Nm → FnD} (Gs : Gf K mg) (ih : Fs P w K mg base n g) : ∀ (f : Addr) (cdv : Value) (A : Around) (outer : List PySem.Env) (s : Shared) (H : Hp) (E : XK), Room n (A.deeper (envOfC "meet" (defScope s_meet) s.heap.objs.size f cdv)) →
    PSs (bodyX P w K mg base N_meet "meet" (defScope s_meet) f cdv A outer s H E) (defBody s_meet) (tS ⟨K, mg⟩ (b_meet g)) := fun f cdv A outer s H E hr =>
  have Z := Gs.z
  have SC := sc_meet
  (css_cons (cs_if (CB.pt (cb_or (t_cmp (c_eq hr) (co_name (i := 0)) (co_of (cd_glob ⟨rfl, Gs.g_ANY⟩))) (cb_or1 (t_cmp (c_eq hr) (co_name (i := 1)) (co_of (cd_glob ⟨rfl, Gs.g_ANY⟩)))))) (css_one (cs_ret (cw_if (t_cmp (c_eq hr) (co_name (i := 0)) (co_of (cd_glob ⟨rfl, Gs.g_ANY⟩))) (cw_move (i := 1)) (cw_move (i := 0))))) css_nil)
    (css_cons (cs_if (t_cmp (c_ne hr) (co_of (w_ix hr (co_name (i := 0)) (co_of cd_int))) (co_of (w_ix hr (co_name (i := 1)) (co_of cd_int)))) (css_one (cs_ret (cw_of cd_non))) css_nil)
    (css_cons (cs_setLc (i := 2) rfl SC.nd rfl rfl (sw_true rfl rfl rfl (by show _ = _; decide +kernel)) (own := [("first", 3), ("other", 4)]) (ci_zip rfl Z.zip (cl_cons (cd_slice (co_name (i := 0)) (cp_some cd_int) cp_none) (cl_cons (cd_slice (co_name (i := 1)) (cp_some cd_int) cp_none) cl_nil))) (blkOk_by (by show blkC N_meet (defScope s_meet) _ _ = true; decide +kernel)) (by decide) (fun _ _ _ _ _ => (cg_tup rfl (cgs_cons (cg_name (i := 3) SC.nd rfl (by first | exact Or.inl rfl | exact Or.inr rfl) (by first | exact Or.inl rfl | exact Or.inr rfl)) (cgs_cons (cg_name (i := 4) SC.nd rfl (by first | exact Or.inl rfl | exact Or.inr rfl) (by first | exact Or.inl rfl | exact Or.inr rfl)) cgs_nil)))) (fun _ _ _ _ _ => cts_nil) (fun _ _ _ _ _ => (cd_of (cw_call ih.f_meet.to hr rfl (ca_val (cd_name (i := 3)) (ca_val (cd_name (i := 4)) ca_nil))))))
    (css_one (cs_ret (cw_if (t_cmp (c_in hr) (co_of cd_non) (co_name (i := 2))) (cw_of cd_non) (cw_of (w_add (co_of (cd_tup (cl_cons (w_ix hr (co_name (i := 0)) (co_of cd_int)) cl_nil))) (co_of (w_tuple Z (co_name (i := 2))))))))))))
abbrev s_cast_value : Stmt := topS 7
abbrev N_cast_value : List Str := ["value", "kind", "due", "name"]
theorem sc_cast_value : FnScope N_cast_value ["value", "kind", "due", "name"] (defScope s_cast_value) := ⟨rfl, rfl, rfl, by decide +kernel, rfl, by decide +kernel, by decide +kernel⟩
theorem ok_cast_value {n : Nat} {g : Nm → FnD} (Gs : Gf K mg) (ih : Fs P w K mg base n g) : ∀ (f : Addr) (cdv : Value) (A : Around) (outer : List PySem.Env) (s : Shared) (H : Hp) (E : XK), Room n (A.deeper (envOfC "cast_value" (defScope s_cast_value) s.heap.objs.size f cdv)) →
    PSs (bodyX P w K mg base N_cast_value "cast_value" (defScope s_cast_value) f cdv A outer s H E) (defBody s_cast_value) (tS ⟨K, mg⟩ (b_cast_value g)) := fun f cdv A outer s H E hr =>
  have Z := Gs.z
  have SC := sc_cast_value
  (css_cons (cs_if (t_cmp (c_eq hr) (co_name (i := 1)) (co_name (i := 2))) (css_one (cs_ret (cw_of (cd_tup (cl_cons cd_str (cl_cons (cd_name (i := 0)) cl_nil)))))) css_nil)
    (css_cons (cs_if (t_cmp (c_eq hr) (co_name (i := 2)) (co_of (cd_glob ⟨rfl, Gs.g_ANY⟩))) (css_one (cs_ret (cw_call ih.f_tagged.to hr rfl (ca_val (cd_name (i := 0)) (ca_val (cd_name (i := 1)) (ca_val (cd_name (i := 3)) ca_nil)))))) css_nil)
    (css_cons (cs_if (t_cmp (c_eq hr) (co_name (i := 1)) (co_of (cd_glob ⟨rfl, Gs.g_ANY⟩))) (css_cons (cs_if (t_cmp (c_ne hr) (co_of (w_ix hr (co_name (i := 0)) (co_of cd_int))) (co_of (cd_of (cw_call ih.f_ground_of.to hr rfl (ca_val (cd_name (i := 2)) ca_nil))))) (css_one (cs_ret (cw_of (cd_tup (cl_cons cd_str (cl_cons (cd_name (i := 3)) cl_nil)))))) css_nil)
    (css_one (cs_ret (cw_call ih.f_cast_value.to hr rfl (ca_val (w_ix hr (co_name (i := 0)) (co_of cd_int)) (ca_val (w_ix hr (co_name (i := 0)) (co_of cd_int)) (ca_val (cd_name (i := 2)) (ca_val (cd_name (i := 3)) ca_nil)))))))) css_nil)
    (css_cons (cs_if (t_cmp (c_eq hr) (co_of (w_ix hr (co_name (i := 1)) (co_of cd_int))) (co_of cd_str)) (css_one (cs_ret (cw_of (cd_tup (cl_cons cd_str (cl_cons (cd_tup (cl_cons cd_str (cl_cons (cd_name (i := 0)) (cl_cons (cd_name (i := 1)) (cl_cons (cd_name (i := 2)) (cl_cons (cd_name (i := 3)) cl_nil)))))) cl_nil)))))) css_nil)
    (css_cons (cs_if (t_cmp (c_eq hr) (co_of (w_ix hr (co_name (i := 1)) (co_of cd_int))) (co_of cd_str)) (css_one (cs_ret (cw_call ih.f_cast_pair.to hr rfl (ca_val (cd_name (i := 0)) (ca_val (cd_name (i := 1)) (ca_val (cd_name (i := 2)) (ca_val (cd_name (i := 3)) ca_nil))))))) css_nil)
    (css_one (cs_ret (cw_call ih.f_cast_items.to hr rfl (ca_val (cd_name (i := 0)) (ca_val (cd_name (i := 1)) (ca_val (cd_name (i := 2)) (ca_val (cd_name (i := 3)) ca_nil))))))))))))
abbrev s_tagged : Stmt := topS 8
abbrev N_tagged : List Str := ["value", "kind", "name", "ground", "told"]
theorem sc_tagged : FnScope N_tagged ["value", "kind", "name"] (defScope s_tagged) := ⟨rfl, rfl, rfl, by decide +kernel, rfl, by decide +kernel, by decide +kernel⟩
theorem ok_tagged {n : Nat} {g : Nm → FnD} (Gs : Gf K mg) (ih : Fs P w K mg base n g) : ∀ (f : Addr) (cdv : Value) (A : Around) (outer : List PySem.Env) (s : Shared) (H : Hp) (E : XK), Room n (A.deeper (envOfC "tagged" (defScope s_tagged) s.heap.objs.size f cdv)) →
    PSs (bodyX P w K mg base N_tagged "tagged" (defScope s_tagged) f cdv A outer s H E) (defBody s_tagged) (tS ⟨K, mg⟩ (b_tagged g)) := fun f cdv A outer s H E hr =>
  have Z := Gs.z
  have SC := sc_tagged
  (css_cons (cs_set (i := 3) SC.nd rfl (by first | exact Or.inl rfl | exact Or.inr rfl) (cw_call ih.f_ground_of.to hr rfl (ca_val (cd_name (i := 1)) ca_nil)))
    (css_cons (cs_set (i := 4) SC.nd rfl (by first | exact Or.inl rfl | exact Or.inr rfl) (cw_call ih.f_cast_value.to hr rfl (ca_val (cd_name (i := 0)) (ca_val (cd_name (i := 1)) (ca_val (cd_name (i := 3)) (ca_val (cd_name (i := 2)) ca_nil))))))
    (css_one (cs_ret (cw_if (t_cmp (c_eq hr) (co_of (w_ix hr (co_name (i := 4)) (co_of cd_int))) (co_of cd_str)) (cw_move (i := 4)) (cw_of (cd_tup (cl_cons cd_str (cl_cons (cd_tup (cl_cons cd_str (cl_cons (cd_name (i := 3)) (cl_cons (w_ix hr (co_name (i := 4)) (co_of cd_int)) cl_nil)))) cl_nil)))))))))
abbrev s_cast_pair : Stmt := topS 9
abbrev N_cast_pair : List Str := ["value", "kind", "due", "name", "first", "other"]
theorem sc_cast_pair : FnScope N_cast_pair ["value", "kind", "due", "name"] (defScope s_cast_pair) := ⟨rfl, rfl, rfl, by decide +kernel, rfl, by decide +kernel, by decide +kernel⟩
theorem ok_cast_pair {n : Nat} {g : Nm → FnD} (Gs : Gf K mg) (ih : Fs P w K mg base n g) : ∀ (f : Addr) (cdv : Value) (A : Around) (outer : List PySem.Env) (s : Shared) (H : Hp) (E : XK), Room n (A.deeper (envOfC "cast_pair" (defScope s_cast_pair) s.heap.objs.size f cdv)) →
    PSs (bodyX P w K mg base N_cast_pair "cast_pair" (defScope s_cast_pair) f cdv A outer s H E) (defBody s_cast_pair) (tS ⟨K, mg⟩ (b_cast_pair g)) := fun f cdv A outer s H E hr =>
  have Z := Gs.z
  have SC := sc_cast_pair
  (css_cons (cs_set (i := 4) SC.nd rfl (by first | exact Or.inl rfl | exact Or.inr rfl) (cw_call ih.f_cast_value.to hr rfl (ca_val (w_ix hr (co_name (i := 0)) (co_of cd_int)) (ca_val (w_ix hr (co_name (i := 1)) (co_of cd_int)) (ca_val (w_ix hr (co_name (i := 2)) (co_of cd_int)) (ca_val (cd_name (i := 3)) ca_nil))))))
    (css_cons (cs_if (t_cmp (c_eq hr) (co_of (w_ix hr (co_name (i := 4)) (co_of cd_int))) (co_of cd_str)) (css_one (cs_ret (cw_move (i := 4)))) css_nil)
    (css_cons (cs_set (i := 5) SC.nd rfl (by first | exact Or.inl rfl | exact Or.inr rfl) (cw_call ih.f_cast_value.to hr rfl (ca_val (w_ix hr (co_name (i := 0)) (co_of cd_int)) (ca_val (w_ix hr (co_name (i := 1)) (co_of cd_int)) (ca_val (w_ix hr (co_name (i := 2)) (co_of cd_int)) (ca_val (cd_name (i := 3)) ca_nil))))))
    (css_one (cs_ret (cw_if (t_cmp (c_eq hr) (co_of (w_ix hr (co_name (i := 5)) (co_of cd_int))) (co_of cd_str)) (cw_move (i := 5)) (cw_of (cd_tup (cl_cons cd_str (cl_cons (cd_tup (cl_cons cd_str (cl_cons (w_ix hr (co_name (i := 4)) (co_of cd_int)) (cl_cons (w_ix hr (co_name (i := 5)) (co_of cd_int)) cl_nil)))) cl_nil))))))))))
abbrev s_cast_items : Stmt := topS 10
abbrev N_cast_items : List Str := ["value", "kind", "due", "name", "found", "item", "told"]
theorem sc_cast_items : FnScope N_cast_items ["value", "kind", "due", "name"] (defScope s_cast_items) := ⟨rfl, rfl, rfl, by decide +kernel, rfl, by decide +kernel, by decide +kernel⟩
theorem ok_cast_items {n : Nat} {g : Nm → FnD} (Gs : Gf K mg) (ih : Fs P w K mg base n g) : ∀ (f : Addr) (cdv : Value) (A : Around) (outer : List PySem.Env) (s : Shared) (H : Hp) (E : XK), Room n (A.deeper (envOfC "cast_items" (defScope s_cast_items) s.heap.objs.size f cdv)) →
    PSs (bodyX P w K mg base N_cast_items "cast_items" (defScope s_cast_items) f cdv A outer s H E) (defBody s_cast_items) (tS ⟨K, mg⟩ (b_cast_items g)) := fun f cdv A outer s H E hr =>
  have Z := Gs.z
  have SC := sc_cast_items
  (css_cons (cs_set (i := 4) SC.nd rfl (by first | exact Or.inl rfl | exact Or.inr rfl) (cw_lst cl_nil))
    (css_cons (cs_for PassesOwn.never rfl (ci_seq (w_ix hr (co_name (i := 0)) (co_of cd_int))) (cg_name (i := 5) SC.nd rfl (by first | exact Or.inl rfl | exact Or.inr rfl) (by first | exact Or.inl rfl | exact Or.inr rfl)) (css_cons (cs_set (i := 6) SC.nd rfl (by first | exact Or.inl rfl | exact Or.inr rfl) (cw_call ih.f_cast_value.to hr rfl (ca_val (cd_name (i := 5)) (ca_val (w_ix hr (co_name (i := 1)) (co_of cd_int)) (ca_val (w_ix hr (co_name (i := 2)) (co_of cd_int)) (ca_val (cd_name (i := 3)) ca_nil))))))
    (css_cons (cs_if (t_cmp (c_eq hr) (co_of (w_ix hr (co_name (i := 6)) (co_of cd_int))) (co_of cd_str)) (css_one (cs_ret (cw_move (i := 6)))) css_nil)
    (css_one (cs_app (i := 4) rfl (by first | exact Or.inl rfl | exact Or.inr (Or.inl rfl) | exact Or.inr (Or.inr rfl)) (w_ix hr (co_name (i := 6)) (co_of cd_int)))))))
    (css_one (cs_ret (cw_of (cd_tup (cl_cons cd_str (cl_cons (cd_tup (cl_cons cd_str (cl_cons (w_tuple Z (co_name (i := 4))) cl_nil))) cl_nil))))))))
abbrev s_shown : Stmt := topS 11
abbrev N_shown : List Str := ["value", "item"]
theorem sc_shown : FnScope N_shown ["value"] (defScope s_shown) := ⟨rfl, rfl, rfl, by decide +kernel, rfl, by decide +kernel, by decide +kernel⟩
theorem ok_shown {n : Nat} {g : Nm → FnD} (Gs : Gf K mg) (ih : Fs P w K mg base n g) : ∀ (f : Addr) (cdv : Value) (A : Around) (outer : List PySem.Env) (s : Shared) (H : Hp) (E : XK), Room n (A.deeper (envOfC "shown" (defScope s_shown) s.heap.objs.size f cdv)) →
    PSs (bodyX P w K mg base N_shown "shown" (defScope s_shown) f cdv A outer s H E) (defBody s_shown) (tS ⟨K, mg⟩ (b_shown g)) := fun f cdv A outer s H E hr =>
  have Z := Gs.z
  have SC := sc_shown
  (css_cons (cs_if (t_cmp (c_eq hr) (co_of (w_ix hr (co_name (i := 0)) (co_of cd_int))) (co_of cd_str)) (css_one (cs_ret (cw_call ih.f_shown.to hr rfl (ca_val (w_ix hr (co_name (i := 0)) (co_of cd_int)) ca_nil)))) css_nil)
    (css_cons (cs_if (t_cmp (c_in hr) (co_of (w_ix hr (co_name (i := 0)) (co_of cd_int))) (co_of (cd_tup (cl_cons cd_str (cl_cons cd_str cl_nil))))) (css_one (cs_ret (cw_of (cd_tup (cl_cons cd_str cl_nil))))) css_nil)
    (css_cons (cs_if (t_cmp (c_eq hr) (co_of (w_ix hr (co_name (i := 0)) (co_of cd_int))) (co_of cd_str)) (css_one (cs_ret (cw_of (cd_tup (cl_cons cd_str (cl_cons (cd_of (cw_call ih.f_shown.to hr rfl (ca_val (w_ix hr (co_name (i := 0)) (co_of cd_int)) ca_nil))) (cl_cons (cd_of (cw_call ih.f_shown.to hr rfl (ca_val (w_ix hr (co_name (i := 0)) (co_of cd_int)) ca_nil))) cl_nil))))))) css_nil)
    (css_cons (cs_if (t_cmp (c_eq hr) (co_of (w_ix hr (co_name (i := 0)) (co_of cd_int))) (co_of cd_str)) (css_one (cs_ret (cw_of (cd_tup (cl_cons cd_str (cl_cons (w_tuple Z (co_of (cd_of (cw_lc rfl SC.nd (own := [("item", 1)]) (ci_seq (w_ix hr (co_name (i := 0)) (co_of cd_int))) (blkOk_by (by show blkC N_shown (defScope s_shown) _ _ = true; decide +kernel)) (by decide) (fun _ _ _ _ _ => (cg_name (i := 1) SC.nd rfl (by first | exact Or.inl rfl | exact Or.inr rfl) (by first | exact Or.inl rfl | exact Or.inr rfl))) (fun _ _ _ _ _ => cts_nil) (fun _ _ _ _ _ => (cd_of (cw_call ih.f_shown.to hr rfl (ca_val (cd_name (i := 1)) ca_nil)))))))) cl_nil)))))) css_nil)
    (css_one (cs_ret (cw_move (i := 0))))))))
abbrev s_cast_any : Stmt := topS 13
abbrev N_cast_any : List Str := ["value", "kind", "due", "name"]
theorem sc_cast_any : FnScope N_cast_any ["value", "kind", "due", "name"] (defScope s_cast_any) := ⟨rfl, rfl, rfl, by decide +kernel, rfl, by decide +kernel, by decide +kernel⟩
theorem ok_cast_any {n : Nat} {g : Nm → FnD} (Gs : Gf K mg) (ih : Fs P w K mg base n g) : ∀ (f : Addr) (cdv : Value) (A : Around) (outer : List PySem.Env) (s : Shared) (H : Hp) (E : XK), Room n (A.deeper (envOfC "cast_any" (defScope s_cast_any) s.heap.objs.size f cdv)) →
    PSs (bodyX P w K mg base N_cast_any "cast_any" (defScope s_cast_any) f cdv A outer s H E) (defBody s_cast_any) (tS ⟨K, mg⟩ (b_cast_any g)) := fun f cdv A outer s H E hr =>
  have Z := Gs.z
  have SC := sc_cast_any
  (css_cons (cs_if (CB.pt (cb_or (t_cmp (c_eq hr) (co_name (i := 1)) (co_name (i := 2))) (cb_or1 (t_cmp (c_ne hr) (co_of (w_ix hr (co_name (i := 1)) (co_of cd_int))) (co_of cd_str))))) (css_one (cs_ret (cw_call ih.f_cast_value.to hr rfl (ca_val (cd_name (i := 0)) (ca_val (cd_name (i := 1)) (ca_val (cd_name (i := 2)) (ca_val (cd_name (i := 3)) ca_nil))))))) css_nil)
    (css_one (cs_ret (cw_of (cd_tup (cl_cons cd_str (cl_cons (cd_tup (cl_cons cd_str (cl_cons (cd_name (i := 0)) (cl_cons (cd_name (i := 1)) (cl_cons (cd_name (i := 2)) (cl_cons (cd_name (i := 3)) cl_nil)))))) cl_nil)))))))
abbrev s_Store___init__ : Stmt := inClass (topS 14) 0
abbrev N_Store___init__ : List Str := ["self"]
theorem sc_Store___init__ : FnScope N_Store___init__ ["self"] (defScope s_Store___init__) := ⟨rfl, rfl, rfl, by decide +kernel, rfl, by decide +kernel, by decide +kernel⟩
theorem ok_Store___init__ {n : Nat} {g : Nm → FnD} (Gs : Gf K mg) (ih : Fs P w K mg base n g) : ∀ (f : Addr) (cdv : Value) (A : Around) (outer : List PySem.Env) (s : Shared) (H : Hp) (E : XK), Room n (A.deeper (envOfC "Store.__init__" (defScope s_Store___init__) s.heap.objs.size f cdv)) →
    PSs (bodyX P w K mg base N_Store___init__ "Store.__init__" (defScope s_Store___init__) f cdv A outer s H E) (defBody s_Store___init__) (tS ⟨K, mg⟩ (b_Store___init__ g)) := fun f cdv A outer s H E hr =>
  have Z := Gs.z
  have SC := sc_Store___init__
  (css_one (cs_setF (i := 0) Gs.a_Store_kept (cw_lst cl_nil)))
abbrev s_Store_make : Stmt := inClass (topS 14) 1
abbrev N_Store_make : List Str := ["self", "value"]
theorem sc_Store_make : FnScope N_Store_make ["self", "value"] (defScope s_Store_make) := ⟨rfl, rfl, rfl, by decide +kernel, rfl, by decide +kernel, by decide +kernel⟩
theorem ok_Store_make {n : Nat} {g : Nm → FnD} (Gs : Gf K mg) (ih : Fs P w K mg base n g) : ∀ (f : Addr) (cdv : Value) (A : Around) (outer : List PySem.Env) (s : Shared) (H : Hp) (E : XK), Room n (A.deeper (envOfC "Store.make" (defScope s_Store_make) s.heap.objs.size f cdv)) →
    PSs (bodyX P w K mg base N_Store_make "Store.make" (defScope s_Store_make) f cdv A outer s H E) (defBody s_Store_make) (tS ⟨K, mg⟩ (b_Store_make g)) := fun f cdv A outer s H E hr =>
  have Z := Gs.z
  have SC := sc_Store_make
  (css_cons (cs_appF (i := 0) Gs.a_Store_kept (cd_name (i := 1)))
    (css_one (cs_ret (cw_of (cd_tup (cl_cons cd_str (cl_cons (w_sub (co_of (w_lenV Z (cv_fld (i := 0) Gs.a_Store_kept))) (co_of cd_int)) cl_nil)))))))
abbrev s_Store_read : Stmt := inClass (topS 14) 2
abbrev N_Store_read : List Str := ["self", "cell", "told"]
theorem sc_Store_read : FnScope N_Store_read ["self", "cell"] (defScope s_Store_read) := ⟨rfl, rfl, rfl, by decide +kernel, rfl, by decide +kernel, by decide +kernel⟩
theorem ok_Store_read {n : Nat} {g : Nm → FnD} (Gs : Gf K mg) (ih : Fs P w K mg base n g) : ∀ (f : Addr) (cdv : Value) (A : Around) (outer : List PySem.Env) (s : Shared) (H : Hp) (E : XK), Room n (A.deeper (envOfC "Store.read" (defScope s_Store_read) s.heap.objs.size f cdv)) →
    PSs (bodyX P w K mg base N_Store_read "Store.read" (defScope s_Store_read) f cdv A outer s H E) (defBody s_Store_read) (tS ⟨K, mg⟩ (b_Store_read g)) := fun f cdv A outer s H E hr =>
  have Z := Gs.z
  have SC := sc_Store_read
  (css_cons (cs_if (t_cmp (c_eq hr) (co_of (w_ix hr (co_name (i := 1)) (co_of cd_int))) (co_of cd_str)) (css_one (cs_ret (cw_of (cd_tup (cl_cons cd_str (cl_cons (w_ixF (i := 0) Gs.a_Store_kept hr (w_ix hr (co_name (i := 1)) (co_of cd_int))) cl_nil)))))) css_nil)
    (css_cons (cs_set (i := 2) SC.nd rfl (by first | exact Or.inl rfl | exact Or.inr rfl) (cw_meth (i := 0) ih.f_Store_read hr (ca_val (w_ix hr (co_name (i := 1)) (co_of cd_int)) ca_nil)))
    (css_one (cs_ret (cw_if (t_cmp (c_eq hr) (co_of (w_ix hr (co_name (i := 2)) (co_of cd_int))) (co_of cd_str)) (cw_move (i := 2)) (cw_call ih.f_cast_any.to hr rfl (ca_val (w_ix hr (co_name (i := 2)) (co_of cd_int)) (ca_val (w_ix hr (co_of (w_ix hr (co_name (i := 1)) (co_of cd_int))) (co_of cd_int)) (ca_val (w_ix hr (co_of (w_ix hr (co_name (i := 1)) (co_of cd_int))) (co_of cd_int)) (ca_val (w_ix hr (co_name (i := 1)) (co_of cd_int)) ca_nil))))))))))
abbrev s_Store_write : Stmt := inClass (topS 14) 3
abbrev N_Store_write : List Str := ["self", "cell", "value", "told"]
theorem sc_Store_write : FnScope N_Store_write ["self", "cell", "value"] (defScope s_Store_write) := ⟨rfl, rfl, rfl, by decide +kernel, rfl, by decide +kernel, by decide +kernel⟩
theorem ok_Store_write {n : Nat} {g : Nm → FnD} (Gs : Gf K mg) (ih : Fs P w K mg base n g) : ∀ (f : Addr) (cdv : Value) (A : Around) (outer : List PySem.Env) (s : Shared) (H : Hp) (E : XK), Room n (A.deeper (envOfC "Store.write" (defScope s_Store_write) s.heap.objs.size f cdv)) →
    PSs (bodyX P w K mg base N_Store_write "Store.write" (defScope s_Store_write) f cdv A outer s H E) (defBody s_Store_write) (tS ⟨K, mg⟩ (b_Store_write g)) := fun f cdv A outer s H E hr =>
  have Z := Gs.z
  have SC := sc_Store_write
  (css_cons (cs_while PassesOwn.never (t_cmp (c_eq hr) (co_of (w_ix hr (co_name (i := 1)) (co_of cd_int))) (co_of cd_str)) (css_cons (cs_set (i := 3) SC.nd rfl (by first | exact Or.inl rfl | exact Or.inr rfl) (cw_call ih.f_cast_any.to hr rfl (ca_val (cd_name (i := 2)) (ca_val (w_ix hr (co_of (w_ix hr (co_name (i := 1)) (co_of cd_int))) (co_of cd_int)) (ca_val (w_ix hr (co_of (w_ix hr (co_name (i := 1)) (co_of cd_int))) (co_of cd_int)) (ca_val (cd_tup (cl_cons (w_ix hr (co_of (w_ix hr (co_name (i := 1)) (co_of cd_int))) (co_of cd_int)) (cl_cons (cd_not (w_ix hr (co_of (w_ix hr (co_name (i := 1)) (co_of cd_int))) (co_of cd_int))) cl_nil))) ca_nil))))))
    (css_cons (cs_if (t_cmp (c_eq hr) (co_of (w_ix hr (co_name (i := 3)) (co_of cd_int))) (co_of cd_str)) (css_one (cs_ret (cw_move (i := 3)))) css_nil)
    (css_one (cs_par (i := 1) (j := 2) rfl SC.nd rfl rfl (by decide) rfl rfl (cw_of (w_ix hr (co_name (i := 1)) (co_of cd_int))) (cw_of (w_ix hr (co_name (i := 3)) (co_of cd_int))) (by rfl))))))
    (css_cons (cs_putF (i := 0) Gs.a_Store_kept hr (cd_name (i := 2)) (w_ix hr (co_name (i := 1)) (co_of cd_int)))
    (css_one (cs_ret (cw_of (cd_tup (cl_cons cd_str (cl_cons (cd_name (i := 2)) cl_nil))))))))
abbrev s_of_cast : Stmt := topS 17
abbrev N_of_cast : List Str := ["kind", "due", "name", "ground"]
theorem sc_of_cast : FnScope N_of_cast ["kind", "due", "name"] (defScope s_of_cast) := ⟨rfl, rfl, rfl, by decide +kernel, rfl, by decide +kernel, by decide +kernel⟩
theorem ok_of_cast {n : Nat} {g : Nm → FnD} (Gs : Gf K mg) (ih : Fs P w K mg base n g) : ∀ (f : Addr) (cdv : Value) (A : Around) (outer : List PySem.Env) (s : Shared) (H : Hp) (E : XK), Room n (A.deeper (envOfC "of_cast" (defScope s_of_cast) s.heap.objs.size f cdv)) →
    PSs (bodyX P w K mg base N_of_cast "of_cast" (defScope s_of_cast) f cdv A outer s H E) (defBody s_of_cast) (tS ⟨K, mg⟩ (b_of_cast g)) := fun f cdv A outer s H E hr =>
  have Z := Gs.z
  have SC := sc_of_cast
  (css_cons (cs_if (CB.pt (cb_and (t_cmp (c_eq hr) (co_name (i := 0)) (co_of (cd_glob ⟨rfl, Gs.g_ANY⟩))) (cb_and1 (t_cmp (c_eq hr) (co_name (i := 1)) (co_of (cd_glob ⟨rfl, Gs.g_ANY⟩)))))) (css_one (cs_ret (cw_of (cd_glob ⟨rfl, Gs.g_NOTHING⟩)))) css_nil)
    (css_cons (cs_if (t_cmp (c_eq hr) (co_name (i := 1)) (co_of (cd_glob ⟨rfl, Gs.g_ANY⟩))) (css_cons (cs_set (i := 3) SC.nd rfl (by first | exact Or.inl rfl | exact Or.inr rfl) (cw_call ih.f_ground_of.to hr rfl (ca_val (cd_name (i := 0)) ca_nil)))
    (css_one (cs_ret (cw_of (cd_tup (cl_cons cd_str (cl_cons cd_non (cl_cons (cd_of (cw_call ih.f_middle_of.to hr rfl (ca_val (cd_name (i := 0)) (ca_val (cd_name (i := 3)) (ca_val (cd_name (i := 2)) ca_nil))))) (cl_cons (cd_name (i := 3)) cl_nil))))))))) css_nil)
    (css_cons (cs_if (t_cmp (c_eq hr) (co_name (i := 0)) (co_of (cd_glob ⟨rfl, Gs.g_ANY⟩))) (css_cons (cs_set (i := 3) SC.nd rfl (by first | exact Or.inl rfl | exact Or.inr rfl) (cw_call ih.f_ground_of.to hr rfl (ca_val (cd_name (i := 1)) ca_nil)))
    (css_one (cs_ret (cw_of (cd_tup (cl_cons cd_str (cl_cons (cd_tup (cl_cons (cd_name (i := 3)) (cl_cons (cd_name (i := 2)) cl_nil))) (cl_cons (cd_of (cw_call ih.f_middle_of.to hr rfl (ca_val (cd_name (i := 3)) (ca_val (cd_name (i := 1)) (ca_val (cd_name (i := 2)) ca_nil))))) (cl_cons cd_non cl_nil))))))))) css_nil)
    (css_one (cs_ret (cw_of (cd_tup (cl_cons cd_str (cl_cons cd_non (cl_cons (cd_of (cw_call ih.f_middle_of.to hr rfl (ca_val (cd_name (i := 0)) (ca_val (cd_name (i := 1)) (ca_val (cd_name (i := 2)) ca_nil))))) (cl_cons cd_non cl_nil)))))))))))
abbrev s_middle_of : Stmt := topS 18
abbrev N_middle_of : List Str := ["kind", "due", "name"]
theorem sc_middle_of : FnScope N_middle_of ["kind", "due", "name"] (defScope s_middle_of) := ⟨rfl, rfl, rfl, by decide +kernel, rfl, by decide +kernel, by decide +kernel⟩
theorem ok_middle_of {n : Nat} {g : Nm → FnD} (Gs : Gf K mg) (ih : Fs P w K mg base n g) : ∀ (f : Addr) (cdv : Value) (A : Around) (outer : List PySem.Env) (s : Shared) (H : Hp) (E : XK), Room n (A.deeper (envOfC "middle_of" (defScope s_middle_of) s.heap.objs.size f cdv)) →
    PSs (bodyX P w K mg base N_middle_of "middle_of" (defScope s_middle_of) f cdv A outer s H E) (defBody s_middle_of) (tS ⟨K, mg⟩ (b_middle_of g)) := fun f cdv A outer s H E hr =>
  have Z := Gs.z
  have SC := sc_middle_of
  (css_cons (cs_if (t_cmp (c_eq hr) (co_of (w_ix hr (co_name (i := 0)) (co_of cd_int))) (co_of cd_str)) (css_one (cs_ret (cw_of (cd_tup (cl_cons cd_str (cl_cons (cd_of (cw_call ih.f_of_cast.to hr rfl (ca_val (w_ix hr (co_name (i := 1)) (co_of cd_int)) (ca_val (w_ix hr (co_name (i := 0)) (co_of cd_int)) (ca_val (cd_tup (cl_cons (w_ix hr (co_name (i := 2)) (co_of cd_int)) (cl_cons (cd_not (w_ix hr (co_name (i := 2)) (co_of cd_int))) cl_nil))) ca_nil))))) (cl_cons (cd_of (cw_call ih.f_of_cast.to hr rfl (ca_val (w_ix hr (co_name (i := 0)) (co_of cd_int)) (ca_val (w_ix hr (co_name (i := 1)) (co_of cd_int)) (ca_val (cd_name (i := 2)) ca_nil))))) cl_nil))))))) css_nil)
    (css_cons (cs_if (t_cmp (c_eq hr) (co_of (w_ix hr (co_name (i := 0)) (co_of cd_int))) (co_of cd_str)) (css_one (cs_ret (cw_of (cd_tup (cl_cons cd_str (cl_cons (cd_of (cw_call ih.f_of_cast.to hr rfl (ca_val (w_ix hr (co_name (i := 0)) (co_of cd_int)) (ca_val (w_ix hr (co_name (i := 1)) (co_of cd_int)) (ca_val (cd_name (i := 2)) ca_nil))))) (cl_cons (cd_of (cw_call ih.f_of_cast.to hr rfl (ca_val (w_ix hr (co_name (i := 0)) (co_of cd_int)) (ca_val (w_ix hr (co_name (i := 1)) (co_of cd_int)) (ca_val (cd_name (i := 2)) ca_nil))))) cl_nil))))))) css_nil)
    (css_one (cs_ret (cw_if (t_cmp (c_eq hr) (co_of (w_ix hr (co_name (i := 0)) (co_of cd_int))) (co_of cd_str)) (cw_of (cd_tup (cl_cons cd_str (cl_cons (cd_of (cw_call ih.f_of_cast.to hr rfl (ca_val (w_ix hr (co_name (i := 0)) (co_of cd_int)) (ca_val (w_ix hr (co_name (i := 1)) (co_of cd_int)) (ca_val (cd_name (i := 2)) ca_nil))))) cl_nil)))) (cw_of (cd_tup (cl_cons cd_str cl_nil))))))))
abbrev s_together : Stmt := topS 19
abbrev N_together : List Str := ["first", "other", "head"]
theorem sc_together : FnScope N_together ["first", "other"] (defScope s_together) := ⟨rfl, rfl, rfl, by decide +kernel, rfl, by decide +kernel, by decide +kernel⟩
theorem ok_together {n : Nat} {g : Nm → FnD} (Gs : Gf K mg) (ih : Fs P w K mg base n g) : ∀ (f : Addr) (cdv : Value) (A : Around) (outer : List PySem.Env) (s : Shared) (H : Hp) (E : XK), Room n (A.deeper (envOfC "together" (defScope s_together) s.heap.objs.size f cdv)) →
    PSs (bodyX P w K mg base N_together "together" (defScope s_together) f cdv A outer s H E) (defBody s_together) (tS ⟨K, mg⟩ (b_together g)) := fun f cdv A outer s H E hr =>
  have Z := Gs.z
  have SC := sc_together
  (css_cons (cs_if (t_cmp (c_eq hr) (co_name (i := 0)) (co_of (cd_glob ⟨rfl, Gs.g_NOTHING⟩))) (css_one (cs_ret (cw_move (i := 1)))) css_nil)
    (css_cons (cs_if (CB.pt (cb_or (t_cmp (c_eq hr) (co_name (i := 1)) (co_of (cd_glob ⟨rfl, Gs.g_NOTHING⟩))) (cb_or1 (t_cmp (c_eq hr) (co_of (w_ix hr (co_name (i := 0)) (co_of cd_int))) (co_of cd_str))))) (css_one (cs_ret (cw_move (i := 0)))) css_nil)
    (css_cons (cs_set (i := 2) SC.nd rfl (by first | exact Or.inl rfl | exact Or.inr rfl) (cw_of (w_ix hr (co_name (i := 0)) (co_of cd_int))))
    (css_cons (cs_if (t_cmp (c_eq hr) (co_of (w_ix hr (co_name (i := 1)) (co_of cd_int))) (co_of cd_str)) (css_one (cs_ret (cw_call ih.f_fail_behind.to hr rfl (ca_val (cd_name (i := 0)) (ca_val (cd_name (i := 1)) ca_nil))))) css_nil)
    (css_cons (cs_if (t_cmp c_isn (co_of (w_ix hr (co_name (i := 0)) (co_of cd_int))) (co_of cd_non)) (css_one (cs_if (t_cmp (c_ne hr) (co_of (w_ix hr (co_name (i := 0)) (co_of cd_int))) (co_of (w_ix hr (co_of (w_ix hr (co_name (i := 1)) (co_of cd_int))) (co_of cd_int)))) (css_one (cs_ret (cw_of (cd_tup (cl_cons cd_str (cl_cons (cd_name (i := 2)) (cl_cons (w_ix hr (co_of (w_ix hr (co_name (i := 1)) (co_of cd_int))) (co_of cd_int)) cl_nil))))))) css_nil)) css_nil)
    (css_one (cs_ret (cw_of (cd_tup (cl_cons cd_str (cl_cons (cd_name (i := 2)) (cl_cons (cd_of (cw_call ih.f_middles.to hr rfl (ca_val (w_ix hr (co_name (i := 0)) (co_of cd_int)) (ca_val (w_ix hr (co_name (i := 1)) (co_of cd_int)) ca_nil)))) (cl_cons (w_ix hr (co_name (i := 1)) (co_of cd_int)) cl_nil)))))))))))))
abbrev s_fail_behind : Stmt := topS 20
abbrev N_fail_behind : List Str := ["first", "other"]
theorem sc_fail_behind : FnScope N_fail_behind ["first", "other"] (defScope s_fail_behind) := ⟨rfl, rfl, rfl, by decide +kernel, rfl, by decide +kernel, by decide +kernel⟩
theorem ok_fail_behind {n : Nat} {g : Nm → FnD} (Gs : Gf K mg) (ih : Fs P w K mg base n g) : ∀ (f : Addr) (cdv : Value) (A : Around) (outer : List PySem.Env) (s : Shared) (H : Hp) (E : XK), Room n (A.deeper (envOfC "fail_behind" (defScope s_fail_behind) s.heap.objs.size f cdv)) →
    PSs (bodyX P w K mg base N_fail_behind "fail_behind" (defScope s_fail_behind) f cdv A outer s H E) (defBody s_fail_behind) (tS ⟨K, mg⟩ (b_fail_behind g)) := fun f cdv A outer s H E hr =>
  have Z := Gs.z
  have SC := sc_fail_behind
  (css_cons (cs_if (CB.pt (cb_and (t_cmp c_isn (co_of (w_ix hr (co_name (i := 0)) (co_of cd_int))) (co_of cd_non)) (cb_and (t_cmp c_isn (co_of (w_ix hr (co_name (i := 1)) (co_of cd_int))) (co_of cd_non)) (cb_and1 (t_cmp (c_ne hr) (co_of (w_ix hr (co_name (i := 0)) (co_of cd_int))) (co_of (w_ix hr (co_of (w_ix hr (co_name (i := 1)) (co_of cd_int))) (co_of cd_int)))))))) (css_one (cs_ret (cw_of (cd_tup (cl_cons cd_str (cl_cons (w_ix hr (co_name (i := 0)) (co_of cd_int)) (cl_cons (w_ix hr (co_of (w_ix hr (co_name (i := 1)) (co_of cd_int))) (co_of cd_int)) cl_nil))))))) css_nil)
    (css_one (cs_ret (cw_of (cd_tup (cl_cons cd_str (cl_cons (w_ix hr (co_name (i := 0)) (co_of cd_int)) (cl_cons (w_ix hr (co_name (i := 1)) (co_of cd_int)) cl_nil))))))))
abbrev s_middles : Stmt := topS 21
abbrev N_middles : List Str := ["first", "other"]
theorem sc_middles : FnScope N_middles ["first", "other"] (defScope s_middles) := ⟨rfl, rfl, rfl, by decide +kernel, rfl, by decide +kernel, by decide +kernel⟩
theorem ok_middles {n : Nat} {g : Nm → FnD} (Gs : Gf K mg) (ih : Fs P w K mg base n g) : ∀ (f : Addr) (cdv : Value) (A : Around) (outer : List PySem.Env) (s : Shared) (H : Hp) (E : XK), Room n (A.deeper (envOfC "middles" (defScope s_middles) s.heap.objs.size f cdv)) →
    PSs (bodyX P w K mg base N_middles "middles" (defScope s_middles) f cdv A outer s H E) (defBody s_middles) (tS ⟨K, mg⟩ (b_middles g)) := fun f cdv A outer s H E hr =>
  have Z := Gs.z
  have SC := sc_middles
  (css_cons (cs_if (t_cmp (c_eq hr) (co_of (w_ix hr (co_name (i := 0)) (co_of cd_int))) (co_of cd_str)) (css_one (cs_ret (cw_of (cd_tup (cl_cons cd_str (cl_cons (cd_of (cw_call ih.f_together.to hr rfl (ca_val (w_ix hr (co_name (i := 1)) (co_of cd_int)) (ca_val (w_ix hr (co_name (i := 0)) (co_of cd_int)) ca_nil)))) (cl_cons (cd_of (cw_call ih.f_together.to hr rfl (ca_val (w_ix hr (co_name (i := 0)) (co_of cd_int)) (ca_val (w_ix hr (co_name (i := 1)) (co_of cd_int)) ca_nil)))) cl_nil))))))) css_nil)
    (css_cons (cs_if (t_cmp (c_eq hr) (co_of (w_ix hr (co_name (i := 0)) (co_of cd_int))) (co_of cd_str)) (css_one (cs_ret (cw_of (cd_tup (cl_cons cd_str (cl_cons (cd_of (cw_call ih.f_together.to hr rfl (ca_val (w_ix hr (co_name (i := 0)) (co_of cd_int)) (ca_val (w_ix hr (co_name (i := 1)) (co_of cd_int)) ca_nil)))) (cl_cons (cd_of (cw_call ih.f_together.to hr rfl (ca_val (w_ix hr (co_name (i := 0)) (co_of cd_int)) (ca_val (w_ix hr (co_name (i := 1)) (co_of cd_int)) ca_nil)))) cl_nil))))))) css_nil)
    (css_one (cs_ret (cw_if (t_cmp (c_eq hr) (co_of (w_ix hr (co_name (i := 0)) (co_of cd_int))) (co_of cd_str)) (cw_of (cd_tup (cl_cons cd_str (cl_cons (cd_of (cw_call ih.f_together.to hr rfl (ca_val (w_ix hr (co_name (i := 0)) (co_of cd_int)) (ca_val (w_ix hr (co_name (i := 1)) (co_of cd_int)) ca_nil)))) cl_nil)))) (cw_move (i := 0)))))))
abbrev s_is_idle : Stmt := topS 22
abbrev N_is_idle : List Str := ["coercion", "part"]
theorem sc_is_idle : FnScope N_is_idle ["coercion"] (defScope s_is_idle) := ⟨rfl, rfl, rfl, by decide +kernel, rfl, by decide +kernel, by decide +kernel⟩
theorem ok_is_idle {n : Nat} {g : Nm → FnD} (Gs : Gf K mg) (ih : Fs P w K mg base n g) : ∀ (f : Addr) (cdv : Value) (A : Around) (outer : List PySem.Env) (s : Shared) (H : Hp) (E : XK), Room n (A.deeper (envOfC "is_idle" (defScope s_is_idle) s.heap.objs.size f cdv)) →
    PSs (bodyX P w K mg base N_is_idle "is_idle" (defScope s_is_idle) f cdv A outer s H E) (defBody s_is_idle) (tS ⟨K, mg⟩ (b_is_idle g)) := fun f cdv A outer s H E hr =>
  have Z := Gs.z
  have SC := sc_is_idle
  (css_cons (cs_if (t_cmp (c_eq hr) (co_name (i := 0)) (co_of (cd_glob ⟨rfl, Gs.g_NOTHING⟩))) (css_one (cs_ret (cw_of cd_bl))) css_nil)
    (css_cons (cs_if (CB.pt (cb_or (t_cmp (c_eq hr) (co_of (w_ix hr (co_name (i := 0)) (co_of cd_int))) (co_of cd_str)) (cb_or (t_cmp c_isn (co_of (w_ix hr (co_name (i := 0)) (co_of cd_int))) (co_of cd_non)) (cb_or1 (t_cmp c_isn (co_of (w_ix hr (co_name (i := 0)) (co_of cd_int))) (co_of cd_non)))))) (css_one (cs_ret (cw_of cd_bl))) css_nil)
    (css_one (cs_ret (cw_of (w_all Z rfl (co_of (cd_of (cw_lc rfl SC.nd (own := [("part", 1)]) (ci_seq (cd_slice (co_of (w_ix hr (co_name (i := 0)) (co_of cd_int))) (cp_some cd_int) cp_none)) (blkOk_by (by show blkC N_is_idle (defScope s_is_idle) _ _ = true; decide +kernel)) (by decide) (fun _ _ _ _ _ => (cg_name (i := 1) SC.nd rfl (by first | exact Or.inl rfl | exact Or.inr rfl) (by first | exact Or.inl rfl | exact Or.inr rfl))) (fun _ _ _ _ _ => cts_nil) (fun _ _ _ _ _ => (cd_of (cw_call ih.f_is_idle.to hr rfl (ca_val (cd_name (i := 1)) ca_nil)))))))))))))
abbrev s_bend : Stmt := topS 23
abbrev N_bend : List Str := ["value", "coercion", "head", "told"]
theorem sc_bend : FnScope N_bend ["value", "coercion"] (defScope s_bend) := ⟨rfl, rfl, rfl, by decide +kernel, rfl, by decide +kernel, by decide +kernel⟩
theorem ok_bend {n : Nat} {g : Nm → FnD} (Gs : Gf K mg) (ih : Fs P w K mg base n g) : ∀ (f : Addr) (cdv : Value) (A : Around) (outer : List PySem.Env) (s : Shared) (H : Hp) (E : XK), Room n (A.deeper (envOfC "bend" (defScope s_bend) s.heap.objs.size f cdv)) →
    PSs (bodyX P w K mg base N_bend "bend" (defScope s_bend) f cdv A outer s H E) (defBody s_bend) (tS ⟨K, mg⟩ (b_bend g)) := fun f cdv A outer s H E hr =>
  have Z := Gs.z
  have SC := sc_bend
  (css_cons (cs_if (t_cmp (c_eq hr) (co_name (i := 1)) (co_of (cd_glob ⟨rfl, Gs.g_NOTHING⟩))) (css_one (cs_ret (cw_of (cd_tup (cl_cons cd_str (cl_cons (cd_name (i := 0)) cl_nil)))))) css_nil)
    (css_cons (cs_set (i := 2) SC.nd rfl (by first | exact Or.inl rfl | exact Or.inr rfl) (cw_of (w_ix hr (co_name (i := 1)) (co_of cd_int))))
    (css_cons (cs_if (t_cmp c_isn (co_name (i := 2)) (co_of cd_non)) (css_cons (cs_if (t_cmp (c_ne hr) (co_of (w_ix hr (co_name (i := 0)) (co_of cd_int))) (co_of (w_ix hr (co_name (i := 2)) (co_of cd_int)))) (css_one (cs_ret (cw_of (cd_tup (cl_cons cd_str (cl_cons (w_ix hr (co_name (i := 2)) (co_of cd_int)) cl_nil)))))) css_nil)
    (css_one (cs_set (i := 0) SC.nd rfl (by first | exact Or.inl rfl | exact Or.inr rfl) (cw_of (w_ix hr (co_name (i := 0)) (co_of cd_int)))))) css_nil)
    (css_cons (cs_if (t_cmp (c_eq hr) (co_of (w_ix hr (co_name (i := 1)) (co_of cd_int))) (co_of cd_str)) (css_one (cs_ret (cw_of (cd_tup (cl_cons cd_str (cl_cons (w_ix hr (co_name (i := 1)) (co_of cd_int)) cl_nil)))))) css_nil)
    (css_cons (cs_set (i := 3) SC.nd rfl (by first | exact Or.inl rfl | exact Or.inr rfl) (cw_call ih.f_bend_middle.to hr rfl (ca_val (cd_name (i := 0)) (ca_val (w_ix hr (co_name (i := 1)) (co_of cd_int)) ca_nil))))
    (css_cons (cs_if (CB.pt (cb_or (t_cmp (c_eq hr) (co_of (w_ix hr (co_name (i := 3)) (co_of cd_int))) (co_of cd_str)) (cb_or1 (t_cmp c_is (co_of (w_ix hr (co_name (i := 1)) (co_of cd_int))) (co_of cd_non))))) (css_one (cs_ret (cw_move (i := 3)))) css_nil)
    (css_one (cs_ret (cw_of (cd_tup (cl_cons cd_str (cl_cons (cd_tup (cl_cons cd_str (cl_cons (w_ix hr (co_name (i := 1)) (co_of cd_int)) (cl_cons (w_ix hr (co_name (i := 3)) (co_of cd_int)) cl_nil)))) cl_nil))))))))))))
abbrev s_bend_middle : Stmt := topS 24
abbrev N_bend_middle : List Str := ["value", "middle", "first", "other", "found", "item", "told", "part"]
theorem sc_bend_middle : FnScope N_bend_middle ["value", "middle"] (defScope s_bend_middle) := ⟨rfl, rfl, rfl, by decide +kernel, rfl, by decide +kernel, by decide +kernel⟩
theorem ok_bend_middle {n : Nat} {g : Nm → FnD} (Gs : Gf K mg) (ih : Fs P w K mg base n g) : ∀ (f : Addr) (cdv : Value) (A : Around) (outer : List PySem.Env) (s : Shared) (H : Hp) (E : XK), Room n (A.deeper (envOfC "bend_middle" (defScope s_bend_middle) s.heap.objs.size f cdv)) →
    PSs (bodyX P w K mg base N_bend_middle "bend_middle" (defScope s_bend_middle) f cdv A outer s H E) (defBody s_bend_middle) (tS ⟨K, mg⟩ (b_bend_middle g)) := fun f cdv A outer s H E hr =>
  have Z := Gs.z
  have SC := sc_bend_middle
  (css_cons (cs_if (t_cmp (c_eq hr) (co_of (w_ix hr (co_name (i := 1)) (co_of cd_int))) (co_of cd_str)) (css_one (cs_ret (cw_of (cd_tup (cl_cons cd_str (cl_cons (cd_name (i := 0)) cl_nil)))))) css_nil)
    (css_cons (cs_if (t_cmp (c_eq hr) (co_of (w_ix hr (co_name (i := 1)) (co_of cd_int))) (co_of cd_str)) (css_cons (cs_if (ct_val (w_all Z rfl (co_of (cd_of (cw_lc rfl SC.nd (own := [("part", 7)]) (ci_seq (cd_slice (co_name (i := 1)) (cp_some cd_int) cp_none)) (blkOk_by (by show blkC N_bend_middle (defScope s_bend_middle) _ _ = true; decide +kernel)) (by decide) (fun _ _ _ _ _ => (cg_name (i := 7) SC.nd rfl (by first | exact Or.inl rfl | exact Or.inr rfl) (by first | exact Or.inl rfl | exact Or.inr rfl))) (fun _ _ _ _ _ => cts_nil) (fun _ _ _ _ _ => (cd_of (cw_call ih.f_is_idle.to hr rfl (ca_val (cd_name (i := 7)) ca_nil))))))))) (css_one (cs_ret (cw_of (cd_tup (cl_cons cd_str (cl_cons (cd_name (i := 0)) cl_nil)))))) css_nil)
    (css_cons (cs_if (t_cmp (c_eq hr) (co_of (w_ix hr (co_name (i := 0)) (co_of cd_int))) (co_of cd_str)) (css_one (cs_ret (cw_of (cd_tup (cl_cons cd_str (cl_cons (cd_tup (cl_cons cd_str (cl_cons (w_ix hr (co_name (i := 0)) (co_of cd_int)) (cl_cons (cd_of (cw_call ih.f_middles.to hr rfl (ca_val (w_ix hr (co_name (i := 0)) (co_of cd_int)) (ca_val (cd_name (i := 1)) ca_nil)))) cl_nil)))) cl_nil)))))) css_nil)
    (css_one (cs_ret (cw_of (cd_tup (cl_cons cd_str (cl_cons (cd_tup (cl_cons cd_str (cl_cons (cd_name (i := 0)) (cl_cons (cd_name (i := 1)) cl_nil)))) cl_nil)))))))) css_nil)
    (css_cons (cs_if (t_cmp (c_eq hr) (co_of (w_ix hr (co_name (i := 1)) (co_of cd_int))) (co_of cd_str)) (css_cons (cs_set (i := 2) SC.nd rfl (by first | exact Or.inl rfl | exact Or.inr rfl) (cw_call ih.f_bend.to hr rfl (ca_val (w_ix hr (co_name (i := 0)) (co_of cd_int)) (ca_val (w_ix hr (co_name (i := 1)) (co_of cd_int)) ca_nil))))
    (css_cons (cs_if (t_cmp (c_eq hr) (co_of (w_ix hr (co_name (i := 2)) (co_of cd_int))) (co_of cd_str)) (css_one (cs_ret (cw_move (i := 2)))) css_nil)
    (css_cons (cs_set (i := 3) SC.nd rfl (by first | exact Or.inl rfl | exact Or.inr rfl) (cw_call ih.f_bend.to hr rfl (ca_val (w_ix hr (co_name (i := 0)) (co_of cd_int)) (ca_val (w_ix hr (co_name (i := 1)) (co_of cd_int)) ca_nil))))
    (css_one (cs_ret (cw_if (t_cmp (c_eq hr) (co_of (w_ix hr (co_name (i := 3)) (co_of cd_int))) (co_of cd_str)) (cw_move (i := 3)) (cw_of (cd_tup (cl_cons cd_str (cl_cons (cd_tup (cl_cons cd_str (cl_cons (w_ix hr (co_name (i := 2)) (co_of cd_int)) (cl_cons (w_ix hr (co_name (i := 3)) (co_of cd_int)) cl_nil)))) cl_nil)))))))))) css_nil)
    (css_cons (cs_set (i := 4) SC.nd rfl (by first | exact Or.inl rfl | exact Or.inr rfl) (cw_lst cl_nil))
    (css_cons (cs_for PassesOwn.never rfl (ci_seq (w_ix hr (co_name (i := 0)) (co_of cd_int))) (cg_name (i := 5) SC.nd rfl (by first | exact Or.inl rfl | exact Or.inr rfl) (by first | exact Or.inl rfl | exact Or.inr rfl)) (css_cons (cs_set (i := 6) SC.nd rfl (by first | exact Or.inl rfl | exact Or.inr rfl) (cw_call ih.f_bend.to hr rfl (ca_val (cd_name (i := 5)) (ca_val (w_ix hr (co_name (i := 1)) (co_of cd_int)) ca_nil))))
    (css_cons (cs_if (t_cmp (c_eq hr) (co_of (w_ix hr (co_name (i := 6)) (co_of cd_int))) (co_of cd_str)) (css_one (cs_ret (cw_move (i := 6)))) css_nil)
    (css_one (cs_app (i := 4) rfl (by first | exact Or.inl rfl | exact Or.inr (Or.inl rfl) | exact Or.inr (Or.inr rfl)) (w_ix hr (co_name (i := 6)) (co_of cd_int)))))))
    (css_one (cs_ret (cw_of (cd_tup (cl_cons cd_str (cl_cons (cd_tup (cl_cons cd_str (cl_cons (w_tuple Z (co_name (i := 4))) cl_nil))) cl_nil)))))))))))
abbrev s_middle_meet : Stmt := topS 27
abbrev N_middle_meet : List Str := ["one", "two", "parts", "first", "other"]
theorem sc_middle_meet : FnScope N_middle_meet ["one", "two"] (defScope s_middle_meet) := ⟨rfl, rfl, rfl, by decide +kernel, rfl, by decide +kernel, by decide +kernel⟩
theorem ok_middle_meet {n : Nat} {g : Nm → FnD} (Gs : Gf K mg) (ih : Fs P w K mg base n g) : ∀ (f : Addr) (cdv : Value) (A : Around) (outer : List PySem.Env) (s : Shared) (H : Hp) (E : XK), Room n (A.deeper (envOfC "middle_meet" (defScope s_middle_meet) s.heap.objs.size f cdv)) →
    PSs (bodyX P w K mg base N_middle_meet "middle_meet" (defScope s_middle_meet) f cdv A outer s H E) (defBody s_middle_meet) (tS ⟨K, mg⟩ (b_middle_meet g)) := fun f cdv A outer s H E hr =>
  have Z := Gs.z
  have SC := sc_middle_meet
  (css_cons (cs_if (CB.pt (cb_or (t_cmp (c_eq hr) (co_name (i := 0)) (co_of (cd_glob ⟨rfl, Gs.g_ANY⟩))) (cb_or1 (t_cmp (c_eq hr) (co_name (i := 1)) (co_of (cd_glob ⟨rfl, Gs.g_ANY⟩)))))) (css_one (cs_ret (cw_if (t_cmp (c_eq hr) (co_name (i := 0)) (co_of (cd_glob ⟨rfl, Gs.g_ANY⟩))) (cw_move (i := 1)) (cw_move (i := 0))))) css_nil)
    (css_cons (cs_if (CB.pt (cb_or (t_cmp (c_eq hr) (co_name (i := 0)) (co_of (cd_glob ⟨rfl, Gs.g_NEVER⟩))) (cb_or (t_cmp (c_eq hr) (co_name (i := 1)) (co_of (cd_glob ⟨rfl, Gs.g_NEVER⟩))) (cb_or1 (t_cmp (c_ne hr) (co_of (w_ix hr (co_name (i := 0)) (co_of cd_int))) (co_of (w_ix hr (co_name (i := 1)) (co_of cd_int)))))))) (css_one (cs_ret (cw_of (cd_glob ⟨rfl, Gs.g_NEVER⟩)))) css_nil)
    (css_cons (cs_setLc (i := 2) rfl SC.nd rfl rfl (sw_true rfl rfl rfl (by show _ = _; decide +kernel)) (own := [("first", 3), ("other", 4)]) (ci_zip rfl Z.zip (cl_cons (cd_slice (co_name (i := 0)) (cp_some cd_int) cp_none) (cl_cons (cd_slice (co_name (i := 1)) (cp_some cd_int) cp_none) cl_nil))) (blkOk_by (by show blkC N_middle_meet (defScope s_middle_meet) _ _ = true; decide +kernel)) (by decide) (fun _ _ _ _ _ => (cg_tup rfl (cgs_cons (cg_name (i := 3) SC.nd rfl (by first | exact Or.inl rfl | exact Or.inr rfl) (by first | exact Or.inl rfl | exact Or.inr rfl)) (cgs_cons (cg_name (i := 4) SC.nd rfl (by first | exact Or.inl rfl | exact Or.inr rfl) (by first | exact Or.inl rfl | exact Or.inr rfl)) cgs_nil)))) (fun _ _ _ _ _ => cts_nil) (fun _ _ _ _ _ => (cd_of (cw_call ih.f_middle_meet.to hr rfl (ca_val (cd_name (i := 3)) (ca_val (cd_name (i := 4)) ca_nil))))))
    (css_cons (cs_if (CB.pt (cb_and (t_cmp (c_eq hr) (co_of (w_ix hr (co_name (i := 0)) (co_of cd_int))) (co_of cd_str)) (cb_and1 (t_cmp (c_in hr) (co_of (cd_glob ⟨rfl, Gs.g_NEVER⟩)) (co_name (i := 2)))))) (css_one (cs_ret (cw_of (cd_glob ⟨rfl, Gs.g_NEVER⟩)))) css_nil)
    (css_one (cs_ret (cw_of (w_add (co_of (cd_tup (cl_cons (w_ix hr (co_name (i := 0)) (co_of cd_int)) cl_nil))) (co_of (w_tuple Z (co_name (i := 2))))))))))))
abbrev s_triple : Stmt := topS 28
abbrev N_triple : List Str := ["kind", "due"]
theorem sc_triple : FnScope N_triple ["kind", "due"] (defScope s_triple) := ⟨rfl, rfl, rfl, by decide +kernel, rfl, by decide +kernel, by decide +kernel⟩
theorem ok_triple {n : Nat} {g : Nm → FnD} (Gs : Gf K mg) (ih : Fs P w K mg base n g) : ∀ (f : Addr) (cdv : Value) (A : Around) (outer : List PySem.Env) (s : Shared) (H : Hp) (E : XK), Room n (A.deeper (envOfC "triple" (defScope s_triple) s.heap.objs.size f cdv)) →
    PSs (bodyX P w K mg base N_triple "triple" (defScope s_triple) f cdv A outer s H E) (defBody s_triple) (tS ⟨K, mg⟩ (b_triple g)) := fun f cdv A outer s H E hr =>
  have Z := Gs.z
  have SC := sc_triple
  (css_one (cs_ret (cw_of (cd_tup (cl_cons (cd_name (i := 0)) (cl_cons (cd_of (cw_call ih.f_meet.to hr rfl (ca_val (cd_name (i := 0)) (ca_val (cd_name (i := 1)) ca_nil)))) (cl_cons (cd_name (i := 1)) cl_nil)))))))
abbrev s_joined : Stmt := topS 29
abbrev N_joined : List Str := ["first", "other"]
theorem sc_joined : FnScope N_joined ["first", "other"] (defScope s_joined) := ⟨rfl, rfl, rfl, by decide +kernel, rfl, by decide +kernel, by decide +kernel⟩
theorem ok_joined {n : Nat} {g : Nm → FnD} (Gs : Gf K mg) (ih : Fs P w K mg base n g) : ∀ (f : Addr) (cdv : Value) (A : Around) (outer : List PySem.Env) (s : Shared) (H : Hp) (E : XK), Room n (A.deeper (envOfC "joined" (defScope s_joined) s.heap.objs.size f cdv)) →
    PSs (bodyX P w K mg base N_joined "joined" (defScope s_joined) f cdv A outer s H E) (defBody s_joined) (tS ⟨K, mg⟩ (b_joined g)) := fun f cdv A outer s H E hr =>
  have Z := Gs.z
  have SC := sc_joined
  (css_one (cs_ret (cw_of (cd_tup (cl_cons (w_ix hr (co_name (i := 0)) (co_of cd_int)) (cl_cons (cd_of (cw_call ih.f_middle_meet.to hr rfl (ca_val (w_ix hr (co_name (i := 0)) (co_of cd_int)) (ca_val (w_ix hr (co_name (i := 1)) (co_of cd_int)) ca_nil)))) (cl_cons (w_ix hr (co_name (i := 1)) (co_of cd_int)) cl_nil)))))))
abbrev s_joined_all : Stmt := topS 30
abbrev N_joined_all : List Str := ["kinds", "found", "one", "two"]
theorem sc_joined_all : FnScope N_joined_all ["kinds"] (defScope s_joined_all) := ⟨rfl, rfl, rfl, by decide +kernel, rfl, by decide +kernel, by decide +kernel⟩
theorem ok_joined_all {n : Nat} {g : Nm → FnD} (Gs : Gf K mg) (ih : Fs P w K mg base n g) : ∀ (f : Addr) (cdv : Value) (A : Around) (outer : List PySem.Env) (s : Shared) (H : Hp) (E : XK), Room n (A.deeper (envOfC "joined_all" (defScope s_joined_all) s.heap.objs.size f cdv)) →
    PSs (bodyX P w K mg base N_joined_all "joined_all" (defScope s_joined_all) f cdv A outer s H E) (defBody s_joined_all) (tS ⟨K, mg⟩ (b_joined_all g)) := fun f cdv A outer s H E hr =>
  have Z := Gs.z
  have SC := sc_joined_all
  (css_cons (cs_set (i := 1) SC.nd rfl (by first | exact Or.inl rfl | exact Or.inr rfl) (cw_call ih.f_triple.to hr rfl (ca_val (w_ix hr (co_name (i := 0)) (co_of cd_int)) (ca_val (w_ix hr (co_name (i := 0)) (co_of cd_int)) ca_nil))))
    (css_cons (cs_for PassesOwn.never rfl (ci_zip rfl Z.zip (cl_cons (cd_name (i := 0)) (cl_cons (cd_slice (co_name (i := 0)) (cp_some cd_int) cp_none) cl_nil))) (cg_tup rfl (cgs_cons (cg_name (i := 2) SC.nd rfl (by first | exact Or.inl rfl | exact Or.inr rfl) (by first | exact Or.inl rfl | exact Or.inr rfl)) (cgs_cons (cg_name (i := 3) SC.nd rfl (by first | exact Or.inl rfl | exact Or.inr rfl) (by first | exact Or.inl rfl | exact Or.inr rfl)) cgs_nil))) (css_one (cs_set (i := 1) SC.nd rfl (by first | exact Or.inl rfl | exact Or.inr rfl) (cw_call ih.f_joined.to hr rfl (ca_val (cd_name (i := 1)) (ca_val (cd_of (cw_call ih.f_triple.to hr rfl (ca_val (cd_name (i := 2)) (ca_val (cd_name (i := 3)) ca_nil)))) ca_nil))))))
    (css_one (cs_ret (cw_move (i := 1))))))
abbrev s_goes : Stmt := topS 31
abbrev N_goes : List Str := ["value", "middle", "item"]
theorem sc_goes : FnScope N_goes ["value", "middle"] (defScope s_goes) := ⟨rfl, rfl, rfl, by decide +kernel, rfl, by decide +kernel, by decide +kernel⟩
theorem ok_goes {n : Nat} {g : Nm → FnD} (Gs : Gf K mg) (ih : Fs P w K mg base n g) : ∀ (f : Addr) (cdv : Value) (A : Around) (outer : List PySem.Env) (s : Shared) (H : Hp) (E : XK), Room n (A.deeper (envOfC "goes" (defScope s_goes) s.heap.objs.size f cdv)) →
    PSs (bodyX P w K mg base N_goes "goes" (defScope s_goes) f cdv A outer s H E) (defBody s_goes) (tS ⟨K, mg⟩ (b_goes g)) := fun f cdv A outer s H E hr =>
  have Z := Gs.z
  have SC := sc_goes
  (css_cons (cs_if (t_cmp (c_eq hr) (co_name (i := 1)) (co_of (cd_glob ⟨rfl, Gs.g_ANY⟩))) (css_one (cs_ret (cw_of cd_bl))) css_nil)
    (css_cons (cs_if (CB.pt (cb_or (t_cmp (c_eq hr) (co_name (i := 1)) (co_of (cd_glob ⟨rfl, Gs.g_NEVER⟩))) (cb_or1 (t_cmp (c_ne hr) (co_of (w_ix hr (co_name (i := 0)) (co_of cd_int))) (co_of (cd_pick hr (w_ix hr (co_name (i := 1)) (co_of cd_int)) (w_ix hr (co_name (i := 1)) (co_of cd_int)))))))) (css_one (cs_ret (cw_of cd_bl))) css_nil)
    (css_cons (cs_if (t_cmp (c_eq hr) (co_of (w_ix hr (co_name (i := 0)) (co_of cd_int))) (co_of cd_str)) (css_one (cs_ret (cw_of (cd_and (cd_of (cw_call ih.f_goes.to hr rfl (ca_val (w_ix hr (co_name (i := 0)) (co_of cd_int)) (ca_val (w_ix hr (co_name (i := 1)) (co_of cd_int)) ca_nil)))) (cd_one (cd_of (cw_call ih.f_goes.to hr rfl (ca_val (w_ix hr (co_name (i := 0)) (co_of cd_int)) (ca_val (w_ix hr (co_name (i := 1)) (co_of cd_int)) ca_nil))))))))) css_nil)
    (css_cons (cs_if (t_cmp (c_eq hr) (co_of (w_ix hr (co_name (i := 0)) (co_of cd_int))) (co_of cd_str)) (css_one (cs_ret (cw_of (w_all Z rfl (co_of (cd_of (cw_lc rfl SC.nd (own := [("item", 2)]) (ci_seq (w_ix hr (co_name (i := 0)) (co_of cd_int))) (blkOk_by (by show blkC N_goes (defScope s_goes) _ _ = true; decide +kernel)) (by decide) (fun _ _ _ _ _ => (cg_name (i := 2) SC.nd rfl (by first | exact Or.inl rfl | exact Or.inr rfl) (by first | exact Or.inl rfl | exact Or.inr rfl))) (fun _ _ _ _ _ => cts_nil) (fun _ _ _ _ _ => (cd_of (cw_call ih.f_goes.to hr rfl (ca_val (cd_name (i := 2)) (ca_val (w_ix hr (co_name (i := 1)) (co_of cd_int)) ca_nil)))))))))))) css_nil)
    (css_one (cs_ret (cw_of cd_bl)))))))
abbrev s__law_draws : Stmt := topS 33
abbrev N__law_draws : List Str := ["script"]
theorem sc__law_draws : FnScope N__law_draws ["script"] (defScope s__law_draws) := ⟨rfl, rfl, rfl, by decide +kernel, rfl, by decide +kernel, by decide +kernel⟩
theorem ok__law_draws {n : Nat} {g : Nm → FnD} (Gs : Gf K mg) (ih : Fs P w K mg base n g) : ∀ (f : Addr) (cdv : Value) (A : Around) (outer : List PySem.Env) (s : Shared) (H : Hp) (E : XK), Room n (A.deeper (envOfC "_law_draws" (defScope s__law_draws) s.heap.objs.size f cdv)) →
    PSs (bodyX P w K mg base N__law_draws "_law_draws" (defScope s__law_draws) f cdv A outer s H E) (defBody s__law_draws) (tS ⟨K, mg⟩ (b__law_draws g)) := fun f cdv A outer s H E hr =>
  have Z := Gs.z
  have SC := sc__law_draws
  (css_one (cs_ret (cw_lst (cl_cons (cd_of (w_list Z (co_name (i := 0)))) (cl_cons cd_int (cl_cons cd_int (cl_cons cd_int cl_nil)))))))
abbrev s__law_draw : Stmt := topS 34
abbrev N__law_draw : List Str := ["draws", "limit", "cell", "value"]
theorem sc__law_draw : FnScope N__law_draw ["draws", "limit"] (defScope s__law_draw) := ⟨rfl, rfl, rfl, by decide +kernel, rfl, by decide +kernel, by decide +kernel⟩
theorem ok__law_draw {n : Nat} {g : Nm → FnD} (Gs : Gf K mg) (ih : Fs P w K mg base n g) : ∀ (f : Addr) (cdv : Value) (A : Around) (outer : List PySem.Env) (s : Shared) (H : Hp) (E : XK), Room n (A.deeper (envOfC "_law_draw" (defScope s__law_draw) s.heap.objs.size f cdv)) →
    PSs (bodyX P w K mg base N__law_draw "_law_draw" (defScope s__law_draw) f cdv A outer s H E) (defBody s__law_draw) (tS ⟨K, mg⟩ (b__law_draw g)) := fun f cdv A outer s H E hr =>
  have Z := Gs.z
  have SC := sc__law_draw
  (css_cons (cs_if (CB.pt (cb_and (t_cmp (c_eq hr) (co_of (w_ix hr (co_name (i := 0)) (co_of cd_int))) (co_of cd_int)) (cb_and1 (t_cmp c_lt (co_of (w_ix hr (co_name (i := 0)) (co_of cd_int))) (co_of (w_len Z (co_of (w_ix hr (co_name (i := 0)) (co_of cd_int))))))))) (css_cons (cs_set (i := 2) SC.nd rfl (by first | exact Or.inl rfl | exact Or.inr rfl) (cw_of (w_ix hr (co_of (w_ix hr (co_name (i := 0)) (co_of cd_int))) (co_of (w_ix hr (co_name (i := 0)) (co_of cd_int))))))
    (css_cons (cs_put (i := 0) (ru1 hr) rfl (by first | exact Or.inl rfl | exact Or.inr (Or.inl rfl) | exact Or.inr (Or.inr rfl)) (w_add (co_of (w_ix hr (co_name (i := 0)) (co_of cd_int))) (co_of cd_int)) cd_int)
    (css_cons (cs_if (t_cmp c_ge (co_name (i := 2)) (co_of (w_pow (co_of cd_int) (co_of cd_int)))) (css_one (cs_put (i := 0) (ru1 hr) rfl (by first | exact Or.inl rfl | exact Or.inr (Or.inl rfl) | exact Or.inr (Or.inr rfl)) (cd_name (i := 2)) cd_int)) css_nil)
    (css_one (cs_put (i := 0) (ru1 hr) rfl (by first | exact Or.inl rfl | exact Or.inr (Or.inl rfl) | exact Or.inr (Or.inr rfl)) (w_mod (co_of (w_int Z (co_of (w_add (co_of (w_add (co_of (w_mul (co_of (w_ix hr (co_name (i := 0)) (co_of cd_int))) (co_of cd_int))) (co_name (i := 2)))) (co_of cd_int))))) (co_of cd_int)) cd_int))))) css_nil)
    (css_cons (cs_if (t_cmp c_gt (co_of (w_ix hr (co_name (i := 0)) (co_of cd_int))) (co_of cd_int)) (css_cons (cs_set (i := 3) SC.nd rfl (by first | exact Or.inl rfl | exact Or.inr rfl) (cw_of (w_mod (co_of (w_int Z (co_of (w_ix hr (co_name (i := 0)) (co_of cd_int))))) (co_name (i := 1)))))
    (css_cons (cs_put (i := 0) (ru1 hr) rfl (by first | exact Or.inl rfl | exact Or.inr (Or.inl rfl) | exact Or.inr (Or.inr rfl)) (w_div (co_of (w_ix hr (co_name (i := 0)) (co_of cd_int))) (co_name (i := 1))) cd_int)
    (css_one (cs_ret (cw_move (i := 3)))))) css_nil)
    (css_cons (cs_put (i := 0) (ru1 hr) rfl (by first | exact Or.inl rfl | exact Or.inr (Or.inl rfl) | exact Or.inr (Or.inr rfl)) (w_mod (co_of (w_int Z (co_of (w_add (co_of (w_mul (co_of (w_ix hr (co_name (i := 0)) (co_of cd_int))) (co_of cd_int))) (co_of cd_int))))) (co_of cd_int)) cd_int)
    (css_one (cs_ret (cw_of (w_mod (co_of (w_int Z (co_of (w_div (co_of (w_ix hr (co_name (i := 0)) (co_of cd_int))) (co_of cd_int))))) (co_name (i := 1)))))))))
abbrev s__law_same : Stmt := topS 35
abbrev N__law_same : List Str := ["actual", "expected", "k"]
theorem sc__law_same : FnScope N__law_same ["actual", "expected"] (defScope s__law_same) := ⟨rfl, rfl, rfl, by decide +kernel, rfl, by decide +kernel, by decide +kernel⟩
theorem ok__law_same {n : Nat} {g : Nm → FnD} (Gs : Gf K mg) (ih : Fs P w K mg base n g) : ∀ (f : Addr) (cdv : Value) (A : Around) (outer : List PySem.Env) (s : Shared) (H : Hp) (E : XK), Room n (A.deeper (envOfC "_law_same" (defScope s__law_same) s.heap.objs.size f cdv)) →
    PSs (bodyX P w K mg base N__law_same "_law_same" (defScope s__law_same) f cdv A outer s H E) (defBody s__law_same) (tS ⟨K, mg⟩ (b__law_same g)) := fun f cdv A outer s H E hr =>
  have Z := Gs.z
  have SC := sc__law_same
  (css_cons (cs_if (CB.pt (cb_or (ct_val (w_isi Z (co_name (i := 1)) (co_of (ty_tuple Z)))) (cb_or1 (ct_val (w_isi Z (co_name (i := 1)) (co_of (ty_list Z))))))) (css_cons (cs_if (CB.pt (cb_or (t_cmp (c_ne hr) (co_of (w_isi Z (co_name (i := 1)) (co_of (ty_tuple Z)))) (co_of (w_isi Z (co_name (i := 0)) (co_of (ty_tuple Z))))) (cb_or1 (t_cmp (c_ne hr) (co_of (w_isi Z (co_name (i := 1)) (co_of (ty_list Z)))) (co_of (w_isi Z (co_name (i := 0)) (co_of (ty_list Z)))))))) (css_one (cs_ret (cw_of cd_bl))) css_nil)
    (css_cons (cs_if (t_cmp (c_ne hr) (co_of (w_len Z (co_name (i := 0)))) (co_of (w_len Z (co_name (i := 1))))) (css_one (cs_ret (cw_of cd_bl))) css_nil)
    (css_one (cs_ret (cw_of (w_cmp (c_eq hr) (co_of (w_len Z (co_of (cd_of (cw_lc rfl SC.nd (own := [("k", 2)]) (ci_rng1 rfl Z.range (cl_cons (w_len Z (co_name (i := 1))) cl_nil)) (blkOk_by (by show blkC N__law_same (defScope s__law_same) _ _ = true; decide +kernel)) (by decide) (fun _ _ _ _ _ => (cg_name (i := 2) SC.nd rfl (by first | exact Or.inl rfl | exact Or.inr rfl) (by first | exact Or.inl rfl | exact Or.inr rfl))) (fun _ _ _ _ _ => (cts_one (ct_not (ct_val (cd_of (cw_call ih.f__law_same.to hr rfl (ca_val (w_ix hr (co_name (i := 0)) (co_name (i := 2))) (ca_val (w_ix hr (co_name (i := 1)) (co_name (i := 2))) ca_nil)))))))) (fun _ _ _ _ _ => (cd_name (i := 2)))))))) (co_of cd_int))))))) css_nil)
    (css_cons (cs_if (ct_val (w_isi Z (co_name (i := 1)) (co_of (ty_str Z)))) (css_one (cs_ret (cw_of (cd_and (w_isi Z (co_name (i := 0)) (co_of (ty_str Z))) (cd_one (w_cmp (c_eq hr) (co_name (i := 0)) (co_name (i := 1)))))))) css_nil)
    (css_cons (cs_if (t_cmp c_is (co_name (i := 1)) (co_of cd_non)) (css_one (cs_ret (cw_of (w_cmp c_is (co_name (i := 0)) (co_of cd_non))))) css_nil)
    (css_cons (cs_if (CB.pt (cb_or (ct_val (w_isi Z (co_name (i := 1)) (co_of (ty_bool Z)))) (cb_or1 (ct_val (w_isi Z (co_name (i := 0)) (co_of (ty_bool Z))))))) (css_one (cs_ret (cw_of (cd_and (w_isi Z (co_name (i := 1)) (co_of (ty_bool Z))) (cd_and (w_isi Z (co_name (i := 0)) (co_of (ty_bool Z))) (cd_one (w_cmp (c_eq hr) (co_name (i := 0)) (co_name (i := 1))))))))) css_nil)
    (css_one (cs_ret (cw_of (cd_and (w_isi Z (co_name (i := 0)) (co_of (ty_int Z))) (cd_and (w_isi Z (co_name (i := 1)) (co_of (ty_int Z))) (cd_one (w_cmp (c_eq hr) (co_name (i := 0)) (co_name (i := 1)))))))))))))
abbrev s__law_vaguer : Stmt := topS 37
abbrev N__law_vaguer : List Str := ["draws", "kind", "part"]
theorem sc__law_vaguer : FnScope N__law_vaguer ["draws", "kind"] (defScope s__law_vaguer) := ⟨rfl, rfl, rfl, by decide +kernel, rfl, by decide +kernel, by decide +kernel⟩
theorem ok__law_vaguer {n : Nat} {g : Nm → FnD} (Gs : Gf K mg) (ih : Fs P w K mg base n g) : ∀ (f : Addr) (cdv : Value) (A : Around) (outer : List PySem.Env) (s : Shared) (H : Hp) (E : XK), Room n (A.deeper (envOfC "_law_vaguer" (defScope s__law_vaguer) s.heap.objs.size f cdv)) →
    PSs (bodyX P w K mg base N__law_vaguer "_law_vaguer" (defScope s__law_vaguer) f cdv A outer s H E) (defBody s__law_vaguer) (tS ⟨K, mg⟩ (b__law_vaguer g)) := fun f cdv A outer s H E hr =>
  have Z := Gs.z
  have SC := sc__law_vaguer
  (css_cons (cs_if (t_cmp (c_eq hr) (co_of (cd_of (cw_call ih.f__law_draw.to hr rfl (ca_bor (i := 0) rfl (by first | exact Or.inl rfl | exact Or.inr (Or.inl rfl) | exact Or.inr (Or.inr rfl)) (ca_val cd_int ca_nil))))) (co_of cd_int)) (css_one (cs_ret (cw_of (cd_tup (cl_cons cd_str cl_nil))))) css_nil)
    (css_one (cs_ret (cw_of (w_add (co_of (cd_tup (cl_cons (w_ix hr (co_name (i := 1)) (co_of cd_int)) cl_nil))) (co_of (w_tuple Z (co_of (cd_of (cw_lc rfl SC.nd (own := [("part", 2)]) (ci_seq (cd_slice (co_name (i := 1)) (cp_some cd_int) cp_none)) (blkOk_by (by show blkC N__law_vaguer (defScope s__law_vaguer) _ _ = true; decide +kernel)) (by decide) (fun _ _ _ _ _ => (cg_name (i := 2) SC.nd rfl (by first | exact Or.inl rfl | exact Or.inr rfl) (by first | exact Or.inl rfl | exact Or.inr rfl))) (fun _ _ _ _ _ => cts_nil) (fun _ _ _ _ _ => (cd_of (cw_call ih.f__law_vaguer.to hr rfl (ca_bor (i := 0) rfl (by first | exact Or.inl rfl | exact Or.inr (Or.inl rfl) | exact Or.inr (Or.inr rfl)) (ca_val (cd_name (i := 2)) ca_nil)))))))))))))))
abbrev s__law_alike : Stmt := topS 38
abbrev N__law_alike : List Str := ["one", "two", "k"]
theorem sc__law_alike : FnScope N__law_alike ["one", "two"] (defScope s__law_alike) := ⟨rfl, rfl, rfl, by decide +kernel, rfl, by decide +kernel, by decide +kernel⟩
theorem ok__law_alike {n : Nat} {g : Nm → FnD} (Gs : Gf K mg) (ih : Fs P w K mg base n g) : ∀ (f : Addr) (cdv : Value) (A : Around) (outer : List PySem.Env) (s : Shared) (H : Hp) (E : XK), Room n (A.deeper (envOfC "_law_alike" (defScope s__law_alike) s.heap.objs.size f cdv)) →
    PSs (bodyX P w K mg base N__law_alike "_law_alike" (defScope s__law_alike) f cdv A outer s H E) (defBody s__law_alike) (tS ⟨K, mg⟩ (b__law_alike g)) := fun f cdv A outer s H E hr =>
  have Z := Gs.z
  have SC := sc__law_alike
  (css_cons (cs_if (t_cmp (c_in hr) (co_of (cd_tup (cl_cons cd_str cl_nil))) (co_of (cd_of (cw_lst (cl_cons (cd_name (i := 0)) (cl_cons (cd_name (i := 1)) cl_nil)))))) (css_one (cs_ret (cw_of cd_bl))) css_nil)
    (css_one (cs_ret (cw_of (cd_and (w_cmp (c_eq hr) (co_of (w_ix hr (co_name (i := 0)) (co_of cd_int))) (co_of (w_ix hr (co_name (i := 1)) (co_of cd_int)))) (cd_one (w_cmp (c_eq hr) (co_of (w_len Z (co_of (cd_of (cw_lc rfl SC.nd (own := [("k", 2)]) (ci_rng2 rfl Z.range (cl_cons cd_int (cl_cons (w_len Z (co_name (i := 0))) cl_nil))) (blkOk_by (by show blkC N__law_alike (defScope s__law_alike) _ _ = true; decide +kernel)) (by decide) (fun _ _ _ _ _ => (cg_name (i := 2) SC.nd rfl (by first | exact Or.inl rfl | exact Or.inr rfl) (by first | exact Or.inl rfl | exact Or.inr rfl))) (fun _ _ _ _ _ => (cts_one (ct_not (ct_val (cd_of (cw_call ih.f__law_alike.to hr rfl (ca_val (w_ix hr (co_name (i := 0)) (co_name (i := 2))) (ca_val (w_ix hr (co_name (i := 1)) (co_name (i := 2))) ca_nil)))))))) (fun _ _ _ _ _ => (cd_name (i := 2)))))))) (co_of cd_int))))))))
abbrev s__law_value : Stmt := topS 40
abbrev N__law_value : List Str := ["draws", "kind", "deep", "ground", "k"]
theorem sc__law_value : FnScope N__law_value ["draws", "kind", "deep"] (defScope s__law_value) := ⟨rfl, rfl, rfl, by decide +kernel, rfl, by decide +kernel, by decide +kernel⟩
theorem ok__law_value {n : Nat} {g : Nm → FnD} (Gs : Gf K mg) (ih : Fs P w K mg base n g) : ∀ (f : Addr) (cdv : Value) (A : Around) (outer : List PySem.Env) (s : Shared) (H : Hp) (E : XK), Room n (A.deeper (envOfC "_law_value" (defScope s__law_value) s.heap.objs.size f cdv)) →
    PSs (bodyX P w K mg base N__law_value "_law_value" (defScope s__law_value) f cdv A outer s H E) (defBody s__law_value) (tS ⟨K, mg⟩ (b__law_value g)) := fun f cdv A outer s H E hr =>
  have Z := Gs.z
  have SC := sc__law_value
  (css_cons (cs_if (t_cmp (c_eq hr) (co_name (i := 1)) (co_of (cd_tup (cl_cons cd_str cl_nil)))) (css_cons (cs_set (i := 3) SC.nd rfl (by first | exact Or.inl rfl | exact Or.inr rfl) (cw_of (w_ix hr (co_of (cd_of (cw_lst (cl_cons (cd_tup (cl_cons cd_str cl_nil)) (cl_cons (cd_tup (cl_cons cd_str cl_nil)) (cl_cons (cd_tup (cl_cons cd_str (cl_cons (cd_tup (cl_cons cd_str cl_nil)) (cl_cons (cd_tup (cl_cons cd_str cl_nil)) cl_nil)))) (cl_cons (cd_tup (cl_cons cd_str (cl_cons (cd_tup (cl_cons cd_str cl_nil)) cl_nil))) cl_nil))))))) (co_of (cd_of (cw_call ih.f__law_draw.to hr rfl (ca_bor (i := 0) rfl (by first | exact Or.inl rfl | exact Or.inr (Or.inl rfl) | exact Or.inr (Or.inr rfl)) (ca_val (cd_if (t_cmp c_gt (co_name (i := 2)) (co_of cd_int)) cd_int cd_int) ca_nil))))))))
    (css_one (cs_ret (cw_of (cd_tup (cl_cons cd_str (cl_cons (cd_name (i := 3)) (cl_cons (cd_of (cw_call ih.f__law_value.to hr rfl (ca_bor (i := 0) rfl (by first | exact Or.inl rfl | exact Or.inr (Or.inl rfl) | exact Or.inr (Or.inr rfl)) (ca_val (cd_name (i := 3)) (ca_val (w_sub (co_name (i := 2)) (co_of cd_int)) ca_nil))))) cl_nil)))))))) css_nil)
    (css_cons (cs_if (t_cmp (c_eq hr) (co_name (i := 1)) (co_of (cd_tup (cl_cons cd_str cl_nil)))) (css_one (cs_ret (cw_of (cd_tup (cl_cons cd_str (cl_cons (w_sub (co_of (cd_of (cw_call ih.f__law_draw.to hr rfl (ca_bor (i := 0) rfl (by first | exact Or.inl rfl | exact Or.inr (Or.inl rfl) | exact Or.inr (Or.inr rfl)) (ca_val cd_int ca_nil))))) (co_of cd_int)) cl_nil)))))) css_nil)
    (css_cons (cs_if (t_cmp (c_eq hr) (co_name (i := 1)) (co_of (cd_tup (cl_cons cd_str cl_nil)))) (css_one (cs_ret (cw_of (cd_tup (cl_cons cd_str (cl_cons (w_cmp (c_eq hr) (co_of (cd_of (cw_call ih.f__law_draw.to hr rfl (ca_bor (i := 0) rfl (by first | exact Or.inl rfl | exact Or.inr (Or.inl rfl) | exact Or.inr (Or.inr rfl)) (ca_val cd_int ca_nil))))) (co_of cd_int)) cl_nil)))))) css_nil)
    (css_cons (cs_if (t_cmp (c_eq hr) (co_of (w_ix hr (co_name (i := 1)) (co_of cd_int))) (co_of cd_str)) (css_one (cs_ret (cw_of (cd_tup (cl_cons cd_str (cl_cons (cd_of (cw_call ih.f__law_value.to hr rfl (ca_bor (i := 0) rfl (by first | exact Or.inl rfl | exact Or.inr (Or.inl rfl) | exact Or.inr (Or.inr rfl)) (ca_val (w_ix hr (co_name (i := 1)) (co_of cd_int)) (ca_val (w_sub (co_name (i := 2)) (co_of cd_int)) ca_nil))))) (cl_cons (cd_of (cw_call ih.f__law_value.to hr rfl (ca_bor (i := 0) rfl (by first | exact Or.inl rfl | exact Or.inr (Or.inl rfl) | exact Or.inr (Or.inr rfl)) (ca_val (w_ix hr (co_name (i := 1)) (co_of cd_int)) (ca_val (w_sub (co_name (i := 2)) (co_of cd_int)) ca_nil))))) cl_nil))))))) css_nil)
    (css_one (cs_ret (cw_of (cd_tup (cl_cons cd_str (cl_cons (w_tuple Z (co_of (cd_of (cw_lc rfl SC.nd (own := [("k", 4)]) (ci_rng1 rfl Z.range (cl_cons (cd_of (cw_call ih.f__law_draw.to hr rfl (ca_bor (i := 0) rfl (by first | exact Or.inl rfl | exact Or.inr (Or.inl rfl) | exact Or.inr (Or.inr rfl)) (ca_val cd_int ca_nil)))) cl_nil)) (blkOk_by (by show blkC N__law_value (defScope s__law_value) _ _ = true; decide +kernel)) (by decide) (fun _ _ _ _ _ => (cg_name (i := 4) SC.nd rfl (by first | exact Or.inl rfl | exact Or.inr rfl) (by first | exact Or.inl rfl | exact Or.inr rfl))) (fun _ _ _ _ _ => cts_nil) (fun _ _ _ _ _ => (cd_of (cw_call ih.f__law_value.to hr rfl (ca_bor (i := 0) rfl (by first | exact Or.inl rfl | exact Or.inr (Or.inl rfl) | exact Or.inr (Or.inr rfl)) (ca_val (w_ix hr (co_name (i := 1)) (co_of cd_int)) (ca_val (w_sub (co_name (i := 2)) (co_of cd_int)) ca_nil)))))))))) cl_nil))))))))))
abbrev s__law_plain : Stmt := topS 41
abbrev N__law_plain : List Str := ["draws", "deep", "form"]
theorem sc__law_plain : FnScope N__law_plain ["draws", "deep"] (defScope s__law_plain) := ⟨rfl, rfl, rfl, by decide +kernel, rfl, by decide +kernel, by decide +kernel⟩
theorem ok__law_plain {n : Nat} {g : Nm → FnD} (Gs : Gf K mg) (ih : Fs P w K mg base n g) : ∀ (f : Addr) (cdv : Value) (A : Around) (outer : List PySem.Env) (s : Shared) (H : Hp) (E : XK), Room n (A.deeper (envOfC "_law_plain" (defScope s__law_plain) s.heap.objs.size f cdv)) →
    PSs (bodyX P w K mg base N__law_plain "_law_plain" (defScope s__law_plain) f cdv A outer s H E) (defBody s__law_plain) (tS ⟨K, mg⟩ (b__law_plain g)) := fun f cdv A outer s H E hr =>
  have Z := Gs.z
  have SC := sc__law_plain
  (css_cons (cs_set (i := 2) SC.nd rfl (by first | exact Or.inl rfl | exact Or.inr rfl) (cw_if (t_cmp c_gt (co_name (i := 1)) (co_of cd_int)) (cw_call ih.f__law_draw.to hr rfl (ca_bor (i := 0) rfl (by first | exact Or.inl rfl | exact Or.inr (Or.inl rfl) | exact Or.inr (Or.inr rfl)) (ca_val cd_int ca_nil))) (cw_call ih.f__law_draw.to hr rfl (ca_bor (i := 0) rfl (by first | exact Or.inl rfl | exact Or.inr (Or.inl rfl) | exact Or.inr (Or.inr rfl)) (ca_val cd_int ca_nil)))))
    (css_cons (cs_if (t_cmp c_lt (co_name (i := 2)) (co_of cd_int)) (css_one (cs_ret (cw_of (w_ix hr (co_of (cd_of (cw_lst (cl_cons (cd_tup (cl_cons cd_str cl_nil)) (cl_cons (cd_tup (cl_cons cd_str cl_nil)) (cl_cons (cd_tup (cl_cons cd_str cl_nil)) cl_nil)))))) (co_name (i := 2)))))) css_nil)
    (css_one (cs_ret (cw_if (t_cmp (c_eq hr) (co_name (i := 2)) (co_of cd_int)) (cw_of (cd_tup (cl_cons cd_str (cl_cons (cd_of (cw_call ih.f__law_plain.to hr rfl (ca_bor (i := 0) rfl (by first | exact Or.inl rfl | exact Or.inr (Or.inl rfl) | exact Or.inr (Or.inr rfl)) (ca_val (w_sub (co_name (i := 1)) (co_of cd_int)) ca_nil)))) cl_nil)))) (cw_of (cd_tup (cl_cons cd_str (cl_cons (cd_of (cw_call ih.f__law_plain.to hr rfl (ca_bor (i := 0) rfl (by first | exact Or.inl rfl | exact Or.inr (Or.inl rfl) | exact Or.inr (Or.inr rfl)) (ca_val (w_sub (co_name (i := 1)) (co_of cd_int)) ca_nil)))) (cl_cons (cd_of (cw_call ih.f__law_plain.to hr rfl (ca_bor (i := 0) rfl (by first | exact Or.inl rfl | exact Or.inr (Or.inl rfl) | exact Or.inr (Or.inr rfl)) (ca_val (w_sub (co_name (i := 1)) (co_of cd_int)) ca_nil)))) cl_nil))))))))))
abbrev s__law_plain_chain : Stmt := topS 42
abbrev N__law_plain_chain : List Str := ["draws", "many", "base", "kinds", "k"]
theorem sc__law_plain_chain : FnScope N__law_plain_chain ["draws", "many"] (defScope s__law_plain_chain) := ⟨rfl, rfl, rfl, by decide +kernel, rfl, by decide +kernel, by decide +kernel⟩
theorem ok__law_plain_chain {n : Nat} {g : Nm → FnD} (Gs : Gf K mg) (ih : Fs P w K mg base n g) : ∀ (f : Addr) (cdv : Value) (A : Around) (outer : List PySem.Env) (s : Shared) (H : Hp) (E : XK), Room n (A.deeper (envOfC "_law_plain_chain" (defScope s__law_plain_chain) s.heap.objs.size f cdv)) →
    PSs (bodyX P w K mg base N__law_plain_chain "_law_plain_chain" (defScope s__law_plain_chain) f cdv A outer s H E) (defBody s__law_plain_chain) (tS ⟨K, mg⟩ (b__law_plain_chain g)) := fun f cdv A outer s H E hr =>
  have Z := Gs.z
  have SC := sc__law_plain_chain
  (css_cons (cs_set (i := 2) SC.nd rfl (by first | exact Or.inl rfl | exact Or.inr rfl) (cw_call ih.f__law_plain.to hr rfl (ca_bor (i := 0) rfl (by first | exact Or.inl rfl | exact Or.inr (Or.inl rfl) | exact Or.inr (Or.inr rfl)) (ca_val cd_int ca_nil))))
    (css_cons (cs_set (i := 3) SC.nd rfl (by first | exact Or.inl rfl | exact Or.inr rfl) (cw_lst (cl_cons (cd_of (cw_call ih.f__law_vaguer.to hr rfl (ca_bor (i := 0) rfl (by first | exact Or.inl rfl | exact Or.inr (Or.inl rfl) | exact Or.inr (Or.inr rfl)) (ca_val (cd_name (i := 2)) ca_nil)))) cl_nil)))
    (css_cons (cs_for PassesOwn.never rfl (ci_rng1 rfl Z.range (cl_cons (cd_name (i := 1)) cl_nil)) (cg_name (i := 4) SC.nd rfl (by first | exact Or.inl rfl | exact Or.inr rfl) (by first | exact Or.inl rfl | exact Or.inr rfl)) (css_cons (cs_if (CB.pt (cb_and (t_cmp (c_eq hr) (co_of (w_ix hr (co_name (i := 3)) (co_name (i := 4)))) (co_of (cd_tup (cl_cons cd_str cl_nil)))) (cb_and1 (t_cmp (c_eq hr) (co_of (cd_of (cw_call ih.f__law_draw.to hr rfl (ca_bor (i := 0) rfl (by first | exact Or.inl rfl | exact Or.inr (Or.inl rfl) | exact Or.inr (Or.inr rfl)) (ca_val cd_int ca_nil))))) (co_of cd_int))))) (css_one (cs_set (i := 2) SC.nd rfl (by first | exact Or.inl rfl | exact Or.inr rfl) (cw_call ih.f__law_plain.to hr rfl (ca_bor (i := 0) rfl (by first | exact Or.inl rfl | exact Or.inr (Or.inl rfl) | exact Or.inr (Or.inr rfl)) (ca_val cd_int ca_nil))))) css_nil)
    (css_one (cs_app (i := 3) rfl (by first | exact Or.inl rfl | exact Or.inr (Or.inl rfl) | exact Or.inr (Or.inr rfl)) (cd_if (CB.pt (cb_or (t_cmp (c_eq hr) (co_of (cd_of (cw_call ih.f__law_draw.to hr rfl (ca_bor (i := 0) rfl (by first | exact Or.inl rfl | exact Or.inr (Or.inl rfl) | exact Or.inr (Or.inr rfl)) (ca_val cd_int ca_nil))))) (co_of cd_int)) (cb_or1 (ct_not (ct_val (cd_of (cw_call ih.f__law_alike.to hr rfl (ca_val (w_ix hr (co_name (i := 3)) (co_name (i := 4))) (ca_val (cd_name (i := 2)) ca_nil))))))))) (cd_tup (cl_cons cd_str cl_nil)) (cd_of (cw_call ih.f__law_vaguer.to hr rfl (ca_bor (i := 0) rfl (by first | exact Or.inl rfl | exact Or.inr (Or.inl rfl) | exact Or.inr (Or.inr rfl)) (ca_val (cd_name (i := 2)) ca_nil)))))))))
    (css_one (cs_ret (cw_move (i := 3)))))))
abbrev s__law_bare : Stmt := topS 43
abbrev N__law_bare : List Str := ["value", "one"]
theorem sc__law_bare : FnScope N__law_bare ["value"] (defScope s__law_bare) := ⟨rfl, rfl, rfl, by decide +kernel, rfl, by decide +kernel, by decide +kernel⟩
theorem ok__law_bare {n : Nat} {g : Nm → FnD} (Gs : Gf K mg) (ih : Fs P w K mg base n g) : ∀ (f : Addr) (cdv : Value) (A : Around) (outer : List PySem.Env) (s : Shared) (H : Hp) (E : XK), Room n (A.deeper (envOfC "_law_bare" (defScope s__law_bare) s.heap.objs.size f cdv)) →
    PSs (bodyX P w K mg base N__law_bare "_law_bare" (defScope s__law_bare) f cdv A outer s H E) (defBody s__law_bare) (tS ⟨K, mg⟩ (b__law_bare g)) := fun f cdv A outer s H E hr =>
  have Z := Gs.z
  have SC := sc__law_bare
  (css_cons (cs_if (t_cmp (c_eq hr) (co_of (w_ix hr (co_name (i := 0)) (co_of cd_int))) (co_of cd_str)) (css_one (cs_ret (cw_call ih.f__law_bare.to hr rfl (ca_val (w_ix hr (co_name (i := 0)) (co_of cd_int)) ca_nil)))) css_nil)
    (css_cons (cs_if (t_cmp (c_eq hr) (co_of (w_ix hr (co_name (i := 0)) (co_of cd_int))) (co_of cd_str)) (css_one (cs_ret (cw_of (cd_tup (cl_cons cd_str (cl_cons (cd_of (cw_call ih.f__law_bare.to hr rfl (ca_val (w_ix hr (co_name (i := 0)) (co_of cd_int)) ca_nil))) (cl_cons (cd_of (cw_call ih.f__law_bare.to hr rfl (ca_val (w_ix hr (co_name (i := 0)) (co_of cd_int)) ca_nil))) cl_nil))))))) css_nil)
    (css_one (cs_ret (cw_if (t_cmp (c_eq hr) (co_of (w_ix hr (co_name (i := 0)) (co_of cd_int))) (co_of cd_str)) (cw_of (cd_tup (cl_cons cd_str (cl_cons (w_tuple Z (co_of (cd_of (cw_lc rfl SC.nd (own := [("one", 1)]) (ci_seq (w_ix hr (co_name (i := 0)) (co_of cd_int))) (blkOk_by (by show blkC N__law_bare (defScope s__law_bare) _ _ = true; decide +kernel)) (by decide) (fun _ _ _ _ _ => (cg_name (i := 1) SC.nd rfl (by first | exact Or.inl rfl | exact Or.inr rfl) (by first | exact Or.inl rfl | exact Or.inr rfl))) (fun _ _ _ _ _ => cts_nil) (fun _ _ _ _ _ => (cd_of (cw_call ih.f__law_bare.to hr rfl (ca_val (cd_name (i := 1)) ca_nil)))))))) cl_nil)))) (cw_move (i := 0)))))))
abbrev s__law_row : Stmt := topS 44
abbrev N__law_row : List Str := ["kinds", "found", "k"]
theorem sc__law_row : FnScope N__law_row ["kinds"] (defScope s__law_row) := ⟨rfl, rfl, rfl, by decide +kernel, rfl, by decide +kernel, by decide +kernel⟩
theorem ok__law_row {n : Nat} {g : Nm → FnD} (Gs : Gf K mg) (ih : Fs P w K mg base n g) : ∀ (f : Addr) (cdv : Value) (A : Around) (outer : List PySem.Env) (s : Shared) (H : Hp) (E : XK), Room n (A.deeper (envOfC "_law_row" (defScope s__law_row) s.heap.objs.size f cdv)) →
    PSs (bodyX P w K mg base N__law_row "_law_row" (defScope s__law_row) f cdv A outer s H E) (defBody s__law_row) (tS ⟨K, mg⟩ (b__law_row g)) := fun f cdv A outer s H E hr =>
  have Z := Gs.z
  have SC := sc__law_row
  (css_cons (cs_set (i := 1) SC.nd rfl (by first | exact Or.inl rfl | exact Or.inr rfl) (cw_call ih.f_of_cast.to hr rfl (ca_val (w_ix hr (co_name (i := 0)) (co_of cd_int)) (ca_val (w_ix hr (co_name (i := 0)) (co_of cd_int)) (ca_val (cd_tup (cl_cons (cd_tup (cl_cons cd_int cl_nil)) (cl_cons cd_bl cl_nil))) ca_nil)))))
    (css_cons (cs_for PassesOwn.never rfl (ci_rng1 rfl Z.range (cl_cons (w_sub (co_of (w_len Z (co_name (i := 0)))) (co_of cd_int)) cl_nil)) (cg_name (i := 2) SC.nd rfl (by first | exact Or.inl rfl | exact Or.inr rfl) (by first | exact Or.inl rfl | exact Or.inr rfl)) (css_one (cs_set (i := 1) SC.nd rfl (by first | exact Or.inl rfl | exact Or.inr rfl) (cw_call ih.f_together.to hr rfl (ca_val (cd_name (i := 1)) (ca_val (cd_of (cw_call ih.f_of_cast.to hr rfl (ca_val (w_ix hr (co_name (i := 0)) (co_name (i := 2))) (ca_val (w_ix hr (co_name (i := 0)) (co_of (w_add (co_name (i := 2)) (co_of cd_int)))) (ca_val (cd_tup (cl_cons (cd_tup (cl_cons (cd_name (i := 2)) cl_nil)) (cl_cons cd_bl cl_nil))) ca_nil))))) ca_nil))))))
    (css_one (cs_ret (cw_move (i := 1))))))
abbrev s_law : Stmt := topS 45
abbrev N_law : List Str := ["script", "draws", "turn", "kinds", "store", "value", "here", "k", "read", "told", "fresh", "back", "put"]
theorem sc_law : FnScope N_law ["script"] (defScope s_law) := ⟨rfl, rfl, rfl, by decide +kernel, rfl, by decide +kernel, by decide +kernel⟩
theorem ok_law {n : Nat} {g : Nm → FnD} (Gs : Gf K mg) (ih : Fs P w K mg base n g) : ∀ (f : Addr) (cdv : Value) (A : Around) (outer : List PySem.Env) (s : Shared) (H : Hp) (E : XK), Room n (A.deeper (envOfC "law" (defScope s_law) s.heap.objs.size f cdv)) →
    PSs (bodyX P w K mg base N_law "law" (defScope s_law) f cdv A outer s H E) (defBody s_law) (tS ⟨K, mg⟩ (b_law g)) := fun f cdv A outer s H E hr =>
  have Z := Gs.z
  have SC := sc_law
  (css_cons (cs_set (i := 1) SC.nd rfl (by first | exact Or.inl rfl | exact Or.inr rfl) (cw_call ih.f__law_draws.to hr rfl (ca_val (cd_name (i := 0)) ca_nil)))
    (css_cons (cs_for PassesOwn.never rfl (ci_rng1 rfl Z.range (cl_cons cd_int cl_nil)) (cg_name (i := 2) SC.nd rfl (by first | exact Or.inl rfl | exact Or.inr rfl) (by first | exact Or.inl rfl | exact Or.inr rfl)) (css_cons (cs_set (i := 3) SC.nd rfl (by first | exact Or.inl rfl | exact Or.inr rfl) (cw_call ih.f__law_plain_chain.to hr rfl (ca_bor (i := 1) rfl (by first | exact Or.inl rfl | exact Or.inr (Or.inl rfl) | exact Or.inr (Or.inr rfl)) (ca_val (cd_of (cw_call ih.f__law_draw.to hr rfl (ca_bor (i := 1) rfl (by first | exact Or.inl rfl | exact Or.inr (Or.inl rfl) | exact Or.inr (Or.inr rfl)) (ca_val cd_int ca_nil)))) ca_nil))))
    (css_cons (cs_set (i := 4) SC.nd rfl (by first | exact Or.inl rfl | exact Or.inr rfl) (cw_new0 ih.n_Store hr rfl))
    (css_cons (cs_set (i := 5) SC.nd rfl (by first | exact Or.inl rfl | exact Or.inr rfl) (cw_call ih.f__law_value.to hr rfl (ca_bor (i := 1) rfl (by first | exact Or.inl rfl | exact Or.inr (Or.inl rfl) | exact Or.inr (Or.inr rfl)) (ca_val (w_ix hr (co_name (i := 3)) (co_of cd_int)) (ca_val cd_int ca_nil)))))
    (css_cons (cs_set (i := 6) SC.nd rfl (by first | exact Or.inl rfl | exact Or.inr rfl) (cw_meth (i := 4) ih.f_Store_make hr (ca_val (cd_name (i := 5)) ca_nil)))
    (css_cons (cs_for PassesOwn.never rfl (ci_rng1 rfl Z.range (cl_cons (w_sub (co_of (w_len Z (co_name (i := 3)))) (co_of cd_int)) cl_nil)) (cg_name (i := 7) SC.nd rfl (by first | exact Or.inl rfl | exact Or.inr rfl) (by first | exact Or.inl rfl | exact Or.inr rfl)) (css_one (cs_set (i := 6) SC.nd rfl (by first | exact Or.inl rfl | exact Or.inr rfl) (cw_of (w_ix hr (co_of (cd_of (cw_call ih.f_cast_any.to hr rfl (ca_val (cd_name (i := 6)) (ca_val (cd_tup (cl_cons cd_str (cl_cons (w_ix hr (co_name (i := 3)) (co_name (i := 7))) cl_nil))) (ca_val (cd_tup (cl_cons cd_str (cl_cons (w_ix hr (co_name (i := 3)) (co_of (w_add (co_name (i := 7)) (co_of cd_int)))) cl_nil))) (ca_val (cd_tup (cl_cons (cd_tup (cl_cons (cd_name (i := 7)) cl_nil)) (cl_cons cd_bl cl_nil))) ca_nil))))))) (co_of cd_int))))))
    (css_cons (cs_par (i := 8) (j := 9) rfl SC.nd rfl rfl (by decide) rfl rfl (cw_meth (i := 4) ih.f_Store_read hr (ca_val (cd_name (i := 6)) ca_nil)) (cw_call ih.f_bend.to hr rfl (ca_val (cd_name (i := 5)) (ca_val (cd_of (cw_call ih.f__law_row.to hr rfl (ca_val (cd_name (i := 3)) ca_nil))) ca_nil))) (by rfl))
    (css_cons (cs_if (CB.pt (cb_or (t_cmp (c_ne hr) (co_of (w_ix hr (co_name (i := 8)) (co_of cd_int))) (co_of (w_ix hr (co_name (i := 9)) (co_of cd_int)))) (cb_or1 (CB.pt (cb_and (t_cmp (c_eq hr) (co_of (w_ix hr (co_name (i := 8)) (co_of cd_int))) (co_of cd_str)) (cb_and1 (ct_not (ct_val (cd_of (cw_call ih.f__law_same.to hr rfl (ca_val (cd_of (cw_call ih.f_shown.to hr rfl (ca_val (w_ix hr (co_name (i := 8)) (co_of cd_int)) ca_nil))) (ca_val (cd_of (cw_call ih.f_shown.to hr rfl (ca_val (w_ix hr (co_name (i := 9)) (co_of cd_int)) ca_nil))) ca_nil)))))))))))) (css_one (cs_ret (cw_of cd_bl))) css_nil)
    (css_cons (cs_if (ct_not (ct_val (cd_of (cw_call ih.f__law_same.to hr rfl (ca_val (cd_of (cw_call ih.f_goes.to hr rfl (ca_val (cd_of (cw_call ih.f__law_bare.to hr rfl (ca_val (cd_name (i := 5)) ca_nil))) (ca_val (w_ix hr (co_of (cd_of (cw_call ih.f_joined_all.to hr rfl (ca_val (cd_name (i := 3)) ca_nil)))) (co_of cd_int)) ca_nil)))) (ca_val (w_cmp (c_eq hr) (co_of (w_ix hr (co_name (i := 8)) (co_of cd_int))) (co_of cd_str)) ca_nil)))))) (css_one (cs_ret (cw_of cd_bl))) css_nil)
    (css_cons (cs_set (i := 10) SC.nd rfl (by first | exact Or.inl rfl | exact Or.inr rfl) (cw_call ih.f__law_value.to hr rfl (ca_bor (i := 1) rfl (by first | exact Or.inl rfl | exact Or.inr (Or.inl rfl) | exact Or.inr (Or.inr rfl)) (ca_val (w_ix hr (co_name (i := 3)) (co_of (w_sub (co_of (w_len Z (co_name (i := 3)))) (co_of cd_int)))) (ca_val cd_int ca_nil)))))
    (css_cons (cs_set (i := 11) SC.nd rfl (by first | exact Or.inl rfl | exact Or.inr rfl) (cw_call ih.f_bend.to hr rfl (ca_val (cd_name (i := 10)) (ca_val (cd_of (cw_call ih.f__law_row.to hr rfl (ca_val (cd_of (cw_rev (co_name (i := 3)))) ca_nil))) ca_nil))))
    (css_cons (cs_set (i := 12) SC.nd rfl (by first | exact Or.inl rfl | exact Or.inr rfl) (cw_meth (i := 4) ih.f_Store_write hr (ca_val (cd_name (i := 6)) (ca_val (cd_name (i := 10)) ca_nil))))
    (css_one (cs_if (CB.pt (cb_or (t_cmp (c_ne hr) (co_of (w_ix hr (co_name (i := 12)) (co_of cd_int))) (co_of (w_ix hr (co_name (i := 11)) (co_of cd_int)))) (cb_or (CB.pt (cb_and (t_cmp (c_eq hr) (co_of (w_ix hr (co_name (i := 12)) (co_of cd_int))) (co_of cd_str)) (cb_and1 (ct_not (ct_val (cd_of (cw_call ih.f__law_same.to hr rfl (ca_val (cd_of (cw_call ih.f_shown.to hr rfl (ca_val (w_ix hr (co_name (i := 12)) (co_of cd_int)) ca_nil))) (ca_val (cd_of (cw_call ih.f_shown.to hr rfl (ca_val (w_ix hr (co_name (i := 11)) (co_of cd_int)) ca_nil))) ca_nil))))))))) (cb_or1 (t_cmpF (i := 4) (c_ne hr) Gs.a_Store_kept (cd_of (cw_lst (cl_cons (cd_if (t_cmp (c_eq hr) (co_of (w_ix hr (co_name (i := 12)) (co_of cd_int))) (co_of cd_str)) (w_ix hr (co_name (i := 12)) (co_of cd_int)) (cd_name (i := 5))) cl_nil)))))))) (css_one (cs_ret (cw_of cd_bl))) css_nil))))))))))))))
    (css_one (cs_ret (cw_of (w_cmp (c_eq hr) (co_of (cd_of (cw_call ih.f_bend.to hr rfl (ca_val (cd_tup (cl_cons cd_str (cl_cons (cd_tup (cl_cons cd_str cl_nil)) (cl_cons (cd_tup (cl_cons cd_str (cl_cons cd_int cl_nil))) cl_nil)))) (ca_val (cd_glob ⟨rfl, Gs.g_NOTHING⟩) ca_nil))))) (co_of (cd_tup (cl_cons cd_str (cl_cons (cd_tup (cl_cons cd_str (cl_cons (cd_tup (cl_cons cd_str cl_nil)) (cl_cons (cd_tup (cl_cons cd_str (cl_cons cd_int cl_nil))) cl_nil)))) cl_nil))))))))))
structure Ds (K : PySem.W.Frag) (mg : Str → Option Value) : Prop where
  f__wall : DefF K mg "_wall" s__wall ["k"]
  f_ground_of : DefF K mg "ground_of" s_ground_of ["kind"]
  f_meet : DefF K mg "meet" s_meet ["one", "two"]
  f_cast_value : DefF K mg "cast_value" s_cast_value ["value", "kind", "due", "name"]
  f_tagged : DefF K mg "tagged" s_tagged ["value", "kind", "name"]
  f_cast_pair : DefF K mg "cast_pair" s_cast_pair ["value", "kind", "due", "name"]
  f_cast_items : DefF K mg "cast_items" s_cast_items ["value", "kind", "due", "name"]
  f_shown : DefF K mg "shown" s_shown ["value"]
  f_cast_any : DefF K mg "cast_any" s_cast_any ["value", "kind", "due", "name"]
  f_Store___init__ : DefI K mg "Store" "Store.__init__" s_Store___init__ ["self"]
  f_Store_make : DefM K mg "Store" "make" "Store.make" s_Store_make ["self", "value"]
  f_Store_read : DefM K mg "Store" "read" "Store.read" s_Store_read ["self", "cell"]
  f_Store_write : DefM K mg "Store" "write" "Store.write" s_Store_write ["self", "cell", "value"]
  f_of_cast : DefF K mg "of_cast" s_of_cast ["kind", "due", "name"]
  f_middle_of : DefF K mg "middle_of" s_middle_of ["kind", "due", "name"]
  f_together : DefF K mg "together" s_together ["first", "other"]
  f_fail_behind : DefF K mg "fail_behind" s_fail_behind ["first", "other"]
  f_middles : DefF K mg "middles" s_middles ["first", "other"]
  f_is_idle : DefF K mg "is_idle" s_is_idle ["coercion"]
  f_bend : DefF K mg "bend" s_bend ["value", "coercion"]
  f_bend_middle : DefF K mg "bend_middle" s_bend_middle ["value", "middle"]
  f_middle_meet : DefF K mg "middle_meet" s_middle_meet ["one", "two"]
  f_triple : DefF K mg "triple" s_triple ["kind", "due"]
  f_joined : DefF K mg "joined" s_joined ["first", "other"]
  f_joined_all : DefF K mg "joined_all" s_joined_all ["kinds"]
  f_goes : DefF K mg "goes" s_goes ["value", "middle"]
  f__law_draws : DefF K mg "_law_draws" s__law_draws ["script"]
  f__law_draw : DefF K mg "_law_draw" s__law_draw ["draws", "limit"]
  f__law_same : DefF K mg "_law_same" s__law_same ["actual", "expected"]
  f__law_vaguer : DefF K mg "_law_vaguer" s__law_vaguer ["draws", "kind"]
  f__law_alike : DefF K mg "_law_alike" s__law_alike ["one", "two"]
  f__law_value : DefF K mg "_law_value" s__law_value ["draws", "kind", "deep"]
  f__law_plain : DefF K mg "_law_plain" s__law_plain ["draws", "deep"]
  f__law_plain_chain : DefF K mg "_law_plain_chain" s__law_plain_chain ["draws", "many"]
  f__law_bare : DefF K mg "_law_bare" s__law_bare ["value"]
  f__law_row : DefF K mg "_law_row" s__law_row ["kinds"]
  f_law : DefF K mg "law" s_law ["script"]
theorem all_ok (Gs : Gf K mg) (Df : Ds K mg) : ∀ n, Fs P w K mg base n (G n)
  | 0 => ⟨Df.f__wall.zero fun _ => rfl, Df.f_ground_of.zero fun _ => rfl, Df.f_meet.zero fun _ => rfl, Df.f_cast_value.zero fun _ => rfl, Df.f_tagged.zero fun _ => rfl, Df.f_cast_pair.zero fun _ => rfl, Df.f_cast_items.zero fun _ => rfl, Df.f_shown.zero fun _ => rfl, Df.f_cast_any.zero fun _ => rfl, Df.f_Store___init__.zero fun _ => rfl, Df.f_Store_make.zero fun _ => rfl, Df.f_Store_read.zero fun _ => rfl, Df.f_Store_write.zero fun _ => rfl, Df.f_of_cast.zero fun _ => rfl, Df.f_middle_of.zero fun _ => rfl, Df.f_together.zero fun _ => rfl, Df.f_fail_behind.zero fun _ => rfl, Df.f_middles.zero fun _ => rfl, Df.f_is_idle.zero fun _ => rfl, Df.f_bend.zero fun _ => rfl, Df.f_bend_middle.zero fun _ => rfl, Df.f_middle_meet.zero fun _ => rfl, Df.f_triple.zero fun _ => rfl, Df.f_joined.zero fun _ => rfl, Df.f_joined_all.zero fun _ => rfl, Df.f_goes.zero fun _ => rfl, Df.f__law_draws.zero fun _ => rfl, Df.f__law_draw.zero fun _ => rfl, Df.f__law_same.zero fun _ => rfl, Df.f__law_vaguer.zero fun _ => rfl, Df.f__law_alike.zero fun _ => rfl, Df.f__law_value.zero fun _ => rfl, Df.f__law_plain.zero fun _ => rfl, Df.f__law_plain_chain.zero fun _ => rfl, Df.f__law_bare.zero fun _ => rfl, Df.f__law_row.zero fun _ => rfl, Df.f_law.zero fun _ => rfl, .inl fun _ => rfl⟩
  | n + 1 => by
    have ih := all_ok Gs Df n
    have h__wall := Df.f__wall.step (P := P) (w := w) (base := base) (bo := [false]) (n := n) (g := b__wall (G n)) sc__wall rfl (ok__wall Gs ih)
    have h_ground_of := Df.f_ground_of.step (P := P) (w := w) (base := base) (bo := [false]) (n := n) (g := b_ground_of (G n)) sc_ground_of rfl (ok_ground_of Gs ih)
    have h_meet := Df.f_meet.step (P := P) (w := w) (base := base) (bo := [false, false]) (n := n) (g := b_meet (G n)) sc_meet rfl (ok_meet Gs ih)
    have h_cast_value := Df.f_cast_value.step (P := P) (w := w) (base := base) (bo := [false, false, false, false]) (n := n) (g := b_cast_value (G n)) sc_cast_value rfl (ok_cast_value Gs ih)
    have h_tagged := Df.f_tagged.step (P := P) (w := w) (base := base) (bo := [false, false, false]) (n := n) (g := b_tagged (G n)) sc_tagged rfl (ok_tagged Gs ih)
    have h_cast_pair := Df.f_cast_pair.step (P := P) (w := w) (base := base) (bo := [false, false, false, false]) (n := n) (g := b_cast_pair (G n)) sc_cast_pair rfl (ok_cast_pair Gs ih)
    have h_cast_items := Df.f_cast_items.step (P := P) (w := w) (base := base) (bo := [false, false, false, false]) (n := n) (g := b_cast_items (G n)) sc_cast_items rfl (ok_cast_items Gs ih)
    have h_shown := Df.f_shown.step (P := P) (w := w) (base := base) (bo := [false]) (n := n) (g := b_shown (G n)) sc_shown rfl (ok_shown Gs ih)
    have h_cast_any := Df.f_cast_any.step (P := P) (w := w) (base := base) (bo := [false, false, false, false]) (n := n) (g := b_cast_any (G n)) sc_cast_any rfl (ok_cast_any Gs ih)
    have h_Store___init__ := Df.f_Store___init__.step (P := P) (w := w) (base := base) (bo := [true]) (n := n) (g := b_Store___init__ (G n)) sc_Store___init__ rfl (ok_Store___init__ Gs ih)
    have h_Store_make := Df.f_Store_make.step (P := P) (w := w) (base := base) (bo := [true, false]) (n := n) (g := b_Store_make (G n)) sc_Store_make rfl (ok_Store_make Gs ih)
    have h_Store_read := Df.f_Store_read.step (P := P) (w := w) (base := base) (bo := [true, false]) (n := n) (g := b_Store_read (G n)) sc_Store_read rfl (ok_Store_read Gs ih)
    have h_Store_write := Df.f_Store_write.step (P := P) (w := w) (base := base) (bo := [true, false, false]) (n := n) (g := b_Store_write (G n)) sc_Store_write rfl (ok_Store_write Gs ih)
    have h_of_cast := Df.f_of_cast.step (P := P) (w := w) (base := base) (bo := [false, false, false]) (n := n) (g := b_of_cast (G n)) sc_of_cast rfl (ok_of_cast Gs ih)
    have h_middle_of := Df.f_middle_of.step (P := P) (w := w) (base := base) (bo := [false, false, false]) (n := n) (g := b_middle_of (G n)) sc_middle_of rfl (ok_middle_of Gs ih)
    have h_together := Df.f_together.step (P := P) (w := w) (base := base) (bo := [false, false]) (n := n) (g := b_together (G n)) sc_together rfl (ok_together Gs ih)
    have h_fail_behind := Df.f_fail_behind.step (P := P) (w := w) (base := base) (bo := [false, false]) (n := n) (g := b_fail_behind (G n)) sc_fail_behind rfl (ok_fail_behind Gs ih)
    have h_middles := Df.f_middles.step (P := P) (w := w) (base := base) (bo := [false, false]) (n := n) (g := b_middles (G n)) sc_middles rfl (ok_middles Gs ih)
    have h_is_idle := Df.f_is_idle.step (P := P) (w := w) (base := base) (bo := [false]) (n := n) (g := b_is_idle (G n)) sc_is_idle rfl (ok_is_idle Gs ih)
    have h_bend := Df.f_bend.step (P := P) (w := w) (base := base) (bo := [false, false]) (n := n) (g := b_bend (G n)) sc_bend rfl (ok_bend Gs ih)
    have h_bend_middle := Df.f_bend_middle.step (P := P) (w := w) (base := base) (bo := [false, false]) (n := n) (g := b_bend_middle (G n)) sc_bend_middle rfl (ok_bend_middle Gs ih)
    have h_middle_meet := Df.f_middle_meet.step (P := P) (w := w) (base := base) (bo := [false, false]) (n := n) (g := b_middle_meet (G n)) sc_middle_meet rfl (ok_middle_meet Gs ih)
    have h_triple := Df.f_triple.step (P := P) (w := w) (base := base) (bo := [false, false]) (n := n) (g := b_triple (G n)) sc_triple rfl (ok_triple Gs ih)
    have h_joined := Df.f_joined.step (P := P) (w := w) (base := base) (bo := [false, false]) (n := n) (g := b_joined (G n)) sc_joined rfl (ok_joined Gs ih)
    have h_joined_all := Df.f_joined_all.step (P := P) (w := w) (base := base) (bo := [false]) (n := n) (g := b_joined_all (G n)) sc_joined_all rfl (ok_joined_all Gs ih)
    have h_goes := Df.f_goes.step (P := P) (w := w) (base := base) (bo := [false, false]) (n := n) (g := b_goes (G n)) sc_goes rfl (ok_goes Gs ih)
    have h__law_draws := Df.f__law_draws.step (P := P) (w := w) (base := base) (bo := [false]) (n := n) (g := b__law_draws (G n)) sc__law_draws rfl (ok__law_draws Gs ih)
    have h__law_draw := Df.f__law_draw.step (P := P) (w := w) (base := base) (bo := [true, false]) (n := n) (g := b__law_draw (G n)) sc__law_draw rfl (ok__law_draw Gs ih)
    have h__law_same := Df.f__law_same.step (P := P) (w := w) (base := base) (bo := [false, false]) (n := n) (g := b__law_same (G n)) sc__law_same rfl (ok__law_same Gs ih)
    have h__law_vaguer := Df.f__law_vaguer.step (P := P) (w := w) (base := base) (bo := [true, false]) (n := n) (g := b__law_vaguer (G n)) sc__law_vaguer rfl (ok__law_vaguer Gs ih)
    have h__law_alike := Df.f__law_alike.step (P := P) (w := w) (base := base) (bo := [false, false]) (n := n) (g := b__law_alike (G n)) sc__law_alike rfl (ok__law_alike Gs ih)
    have h__law_value := Df.f__law_value.step (P := P) (w := w) (base := base) (bo := [true, false, false]) (n := n) (g := b__law_value (G n)) sc__law_value rfl (ok__law_value Gs ih)
    have h__law_plain := Df.f__law_plain.step (P := P) (w := w) (base := base) (bo := [true, false]) (n := n) (g := b__law_plain (G n)) sc__law_plain rfl (ok__law_plain Gs ih)
    have h__law_plain_chain := Df.f__law_plain_chain.step (P := P) (w := w) (base := base) (bo := [true, false]) (n := n) (g := b__law_plain_chain (G n)) sc__law_plain_chain rfl (ok__law_plain_chain Gs ih)
    have h__law_bare := Df.f__law_bare.step (P := P) (w := w) (base := base) (bo := [false]) (n := n) (g := b__law_bare (G n)) sc__law_bare rfl (ok__law_bare Gs ih)
    have h__law_row := Df.f__law_row.step (P := P) (w := w) (base := base) (bo := [false]) (n := n) (g := b__law_row (G n)) sc__law_row rfl (ok__law_row Gs ih)
    have h_law := Df.f_law.step (P := P) (w := w) (base := base) (bo := [false]) (n := n) (g := b_law (G n)) sc_law rfl (ok_law Gs ih)
    exact ⟨h__wall, h_ground_of, h_meet, h_cast_value, h_tagged, h_cast_pair, h_cast_items, h_shown, h_cast_any, h_Store___init__, h_Store_make, h_Store_read, h_Store_write, h_of_cast, h_middle_of, h_together, h_fail_behind, h_middles, h_is_idle, h_bend, h_bend_middle, h_middle_meet, h_triple, h_joined, h_joined_all, h_goes, h__law_draws, h__law_draw, h__law_same, h__law_vaguer, h__law_alike, h__law_value, h__law_plain, h__law_plain_chain, h__law_bare, h__law_row, h_law, .inr ⟨n, Nat.le_refl _, ih.f_Store___init__⟩⟩
end
end K96

namespace K96
open DV L2 PySem PySem.Spec PyProof.Rows
inductive Ty where
  | any | int | bool | pair (a b : Ty) | list (a : Ty)
deriving DecidableEq
def enc : Ty → D
  | .any => .tup [.str "any"]
  | .int => .tup [.str "int"]
  | .bool => .tup [.str "bool"]
  | .pair a b => .tup [.str "pair", enc a, enc b]
  | .list a => .tup [.str "list", enc a]
def dep : Ty → Nat
  | .pair a b => max (dep a) (dep b) + 1
  | .list a => dep a + 1
  | _ => 0
theorem enc_lay : ∀ t, (toPy (enc t)).canLay0 = true
  | .any => by decide +kernel
  | .int => by decide +kernel
  | .bool => by decide +kernel
  | .pair a b => by
    have s : PyData.strOk "pair" = true := by decide +kernel
    simp [enc, toPy, toPyL, PyData.canLay0, PyData.canLayAll0, enc_lay a, enc_lay b, s]
  | .list a => by
    have s : PyData.strOk "list" = true := by decide +kernel
    simp [enc, toPy, toPyL, PyData.canLay0, PyData.canLayAll0, enc_lay a, s]
theorem enc_dep : ∀ t, (toPy (enc t)).depth = dep t + 1
  | .any => by decide +kernel
  | .int => by decide +kernel
  | .bool => by decide +kernel
  | .pair a b => by simp [enc, toPy, toPyL, PyData.depth, PyData.depthAll, enc_dep a, enc_dep b, dep]
  | .list a => by simp [enc, toPy, toPyL, PyData.depth, PyData.depthAll, enc_dep a, dep]
theorem ok_enc {t : Ty} (h : dep t ≤ 60) : okPy (enc t) = true := by
  unfold okPy SeqAt.shaped
  rw [enc_lay, enc_dep]
  simp; omega
theorem eqv_enc : ∀ a b, PyData.eqv (toPy (enc a)) (toPy (enc b)) = decide (a = b) := by
  intro a
  induction a with
  | any => intro b; cases b <;> first | decide +kernel | simp [enc, toPy, toPyL, PyData.eqv, PyData.eqvAll]
  | int => intro b; cases b <;> first | decide +kernel | simp [enc, toPy, toPyL, PyData.eqv, PyData.eqvAll]
  | bool => intro b; cases b <;> first | decide +kernel | simp [enc, toPy, toPyL, PyData.eqv, PyData.eqvAll]
  | pair a b iha ihb =>
    intro c
    cases c with
    | pair c d => simp [enc, toPy, toPyL, PyData.eqv, PyData.eqvAll, iha, ihb]
    | _ => simp [enc, toPy, toPyL, PyData.eqv, PyData.eqvAll, strOf_beq]
  | list a iha =>
    intro c
    cases c with
    | list c => simp [enc, toPy, toPyL, PyData.eqv, PyData.eqvAll, iha]
    | _ => simp [enc, toPy, toPyL, PyData.eqv, PyData.eqvAll, strOf_beq]
theorem enc_tup (t : Ty) : ∃ xs, enc t = .tup xs := by cases t <;> exact ⟨_, rfl⟩
theorem eq_enc {a b : Ty} (ha : dep a ≤ 60) (hb : dep b ≤ 60) : eqD (enc a) (enc b) = some (.bl (decide (a = b))) := by
  have : eqS (enc a) (enc b) = none := by
    obtain ⟨x, e⟩ := enc_tup a
    obtain ⟨y, e'⟩ := enc_tup b
    rw [e, e']; rfl
  unfold eqD
  rw [this, eqP_ok (ok_enc ha) (ok_enc hb), eqv_enc]; rfl
theorem ne_enc {a b : Ty} (ha : dep a ≤ 60) (hb : dep b ≤ 60) : neD (enc a) (enc b) = some (.bl (!decide (a = b))) := by
  have : eqS (enc a) (enc b) = none := by
    obtain ⟨x, e⟩ := enc_tup a
    obtain ⟨y, e'⟩ := enc_tup b
    rw [e, e']; rfl
  unfold neD
  rw [this, neP_ok (ok_enc ha) (ok_enc hb), eqv_enc]; rfl
@[simp] theorem any_enc : c_ANY = enc .any := rfl
def tag : Ty → Str
  | .any => "any"
  | .int => "int"
  | .bool => "bool"
  | .pair _ _ => "pair"
  | .list _ => "list"
@[simp] theorem ix_enc0 {t : Ty} : ixD (enc t) (.int 0) = some (.str (tag t)) := by cases t <;> rfl
@[simp] theorem ix_pair1 {a b : Ty} : ixD (enc (.pair a b)) (.int 1) = some (enc a) := rfl
@[simp] theorem ix_pair2 {a b : Ty} : ixD (enc (.pair a b)) (.int 2) = some (enc b) := rfl
@[simp] theorem ix_list1' {a : Ty} : ixD (enc (.list a)) (.int 1) = some (enc a) := rfl
@[simp] theorem len_any : lenD (enc .any) = some (.int 1) := rfl
@[simp] theorem len_int : lenD (enc .int) = some (.int 1) := rfl
@[simp] theorem len_bool : lenD (enc .bool) = some (.int 1) := rfl
@[simp] theorem len_pair {a b : Ty} : lenD (enc (.pair a b)) = some (.int 3) := rfl
@[simp] theorem len_list {a : Ty} : lenD (enc (.list a)) = some (.int 2) := rfl
@[simp] theorem tag_any : tag .any = "any" := rfl
@[simp] theorem tag_int : tag .int = "int" := rfl
@[simp] theorem tag_bool : tag .bool = "bool" := rfl
@[simp] theorem tag_pair {a b : Ty} : tag (.pair a b) = "pair" := rfl
@[simp] theorem tag_list {a : Ty} : tag (.list a) = "list" := rfl
@[simp] theorem sl_any : slD (enc .any) (some 1) none = some (.tup []) := sl1
@[simp] theorem sl_int : slD (enc .int) (some 1) none = some (.tup []) := sl1
@[simp] theorem sl_bool : slD (enc .bool) (some 1) none = some (.tup []) := sl1
@[simp] theorem sl_pair {a b : Ty} : slD (enc (.pair a b)) (some 1) none = some (.tup [enc a, enc b]) := sl1
@[simp] theorem sl_list {a : Ty} : slD (enc (.list a)) (some 1) none = some (.tup [enc a]) := sl1
/-! values -/
inductive Va where
  | int (i : Int) | bool (b : Bool) | pair (x y : Va) | items (xs : List Va) | tag (g : Ty) (v : Va)
mutual
def ev : Va → D
  | .int i => .tup [.str "int", .int i]
  | .bool b => .tup [.str "bool", .bl b]
  | .pair x y => .tup [.str "pair", ev x, ev y]
  | .items xs => .tup [.str "items", .tup (evs xs)]
  | .tag g v => .tup [.str "tag", enc g, ev v]
def evs : List Va → List D
  | [] => []
  | x :: xs => ev x :: evs xs
end
def ground : Ty → Ty
  | .any => .any
  | .int => .int
  | .bool => .bool
  | .pair _ _ => .pair .any .any
  | .list _ => .list .any
theorem ground_ok : ∀ (n : Nat) (t : Ty), G (n + 1) .f_ground_of [enc t] = some (enc (ground t), false, []) := by
  intro n t
  rw [G_succ]
  cases t <;> (simp [bd, at_run, b_ground_of]; rfl)
def mapO (f : Va → Option Va) : List Va → Option (List Va)
  | [] => some []
  | x :: xs => (f x).bind fun y => (mapO f xs).map fun ys => y :: ys
def toAny : Ty → Va → Va
  | .any, v => v
  | .int, v => .tag .int v
  | .bool, v => .tag .bool v
  | .pair a b, .pair x y => .tag (.pair .any .any) (.pair (toAny a x) (toAny b y))
  | .list a, .items xs => .tag (.list .any) (.items (xs.map (toAny a)))
  | _, v => v
def down : Ty → Va → Option Va
  | .any, v => some v
  | .int, .tag .int v => some v
  | .bool, .tag .bool v => some v
  | .pair a b, .tag (.pair .any .any) (.pair x y) => (down a x).bind fun x' => (down b y).map fun y' => .pair x' y'
  | .list a, .tag (.list .any) (.items xs) => (mapO (down a) xs).map .items
  | _, _ => none
def cast : Ty → Ty → Va → Option Va
  | .any, d, v => down d v
  | .pair a b, .pair c e, .pair x y => (cast a c x).bind fun x' => (cast b e y).map fun y' => .pair x' y'
  | .list a, .list c, .items xs => (mapO (cast a c) xs).map .items
  | k, .any, v => some (toAny k v)
  | _, _, v => some v
def isG : Ty → Prop
  | .int => True
  | .bool => True
  | .pair .any .any => True
  | .list .any => True
  | _ => False
mutual
def has : Ty → Va → Prop
  | .int, .int _ => True
  | .bool, .bool _ => True
  | .pair a b, .pair x y => has a x ∧ has b y
  | .list a, .items xs => hasL a xs
  | .any, .tag g v => isG g ∧ has g v
  | _, _ => False
def hasL : Ty → List Va → Prop
  | _, [] => True
  | a, x :: xs => has a x ∧ hasL a xs
end
def alk : Ty → Ty → Bool
  | .any, _ => true
  | _, .any => true
  | .int, .int => true
  | .bool, .bool => true
  | .pair a b, .pair c d => alk a c && alk b d
  | .list a, .list c => alk a c
  | _, _ => false
def rs (nm : D) : Option Va → D
  | some v => .tup [.str "ok", ev v]
  | none => .tup [.str "blame", nm]
@[simp] theorem rs_some {nm v} : rs nm (some v) = .tup [.str "ok", ev v] := rfl
@[simp] theorem rs_none {nm} : rs nm none = .tup [.str "blame", nm] := rfl
/-- the values of one kind -/
theorem has_pair {a b : Ty} {v : Va} (h : has (.pair a b) v) : ∃ x y, v = .pair x y ∧ has a x ∧ has b y := by
  cases v <;> simp only [has] at h
  exact ⟨_, _, rfl, h.1, h.2⟩
theorem has_list {a : Ty} {v : Va} (h : has (.list a) v) : ∃ xs, v = .items xs ∧ hasL a xs := by
  cases v <;> simp only [has] at h
  exact ⟨_, rfl, h⟩
theorem has_any {v : Va} (h : has .any v) : ∃ g u, v = .tag g u ∧ isG g ∧ has g u := by
  cases v <;> simp only [has] at h
  exact ⟨_, _, rfl, h.1, h.2⟩
@[simp] theorem ixv_pair1 {x y} : ixD (ev (.pair x y)) (.int 1) = some (ev x) := by simp [ev]
@[simp] theorem ixv_pair2 {x y} : ixD (ev (.pair x y)) (.int 2) = some (ev y) := by simp [ev]
@[simp] theorem ixv_items {xs} : ixD (ev (.items xs)) (.int 1) = some (.tup (evs xs)) := by simp [ev]
@[simp] theorem ixv_tag1 {g v} : ixD (ev (.tag g v)) (.int 1) = some (enc g) := by simp [ev]
@[simp] theorem ixv_tag2 {g v} : ixD (ev (.tag g v)) (.int 2) = some (ev v) := by simp [ev]
theorem lit_pair {x y : Va} : D.tup [.str "pair", ev x, ev y] = ev (.pair x y) := by simp [ev]
theorem lit_items {xs : List Va} : D.tup [.str "items", .tup (evs xs)] = ev (.items xs) := by simp [ev]
theorem lit_tag {g : Ty} {v : Va} : D.tup [.str "tag", enc g, ev v] = ev (.tag g v) := by simp [ev]
/-- cast_value keeps its word at level n for these kinds -/
def PC (n : Nat) (a c : Ty) (x : Va) (r : Option Va) : Prop := ∀ nm, G n .f_cast_value [ev x, enc a, enc c, nm] = some (rs nm r, false, [])
theorem pair_ok {n : Nat} {a b c d : Ty} {x y : Va} {r1 r2 : Option Va} (h1 : PC n a c x r1) (h2 : PC n b d y r2) (nm : D) : G (n + 1) .f_cast_pair [ev (.pair x y), enc (.pair a b), enc (.pair c d), nm] = some (rs nm (r1.bind fun x' => r2.map fun y' => .pair x' y'), false, []) := by
  have e1 := h1 nm
  have e2 := h2 nm
  rw [G_succ]
  cases r1 with
  | none => simp at e1; simp [bd, at_run, b_cast_pair, e1, strOf_inj]
  | some x' =>
    simp at e1
    cases r2 with
    | none => simp at e2; simp [bd, at_run, b_cast_pair, e1, e2, strOf_inj]
    | some y' => simp at e2; simp [bd, at_run, b_cast_pair, e1, e2, strOf_inj, lit_pair]
/-- a slot that may be bound -/
def free : Sl → Prop
  | .no => True
  | .sh _ => True
  | _ => False
theorem kB_free {i : Nat} {d : D} {x : Sl} {ρ : DV.Env} (h : free x) : kB i d false ρ (some x) = some (ρ.set i (.sh d)) := by
  cases x <;> first | rfl | exact h.elim
theorem evs_len : ∀ xs : List Va, (evs xs).length = xs.length
  | [] => rfl
  | x :: xs => by simp [evs, evs_len xs]
theorem evs_app : ∀ xs ys : List Va, evs xs ++ evs ys = evs (xs ++ ys)
  | [], ys => rfl
  | x :: xs, ys => by simp [evs, evs_app xs ys]
/-- what the loop of cast_items ends with -/
def itEnd (nm v k d : D) (acc : List Va) (o : Option (List Va)) (r : Option (Fl × DV.Env)) : Prop := match o with
  | some ys => ∃ s5 s6, r = some (.nx, [.sh v, .sh k, .sh d, .sh nm, .ow (.lst (evs (acc ++ ys))), s5, s6])
  | none => ∃ s4 s5 s6, r = some (.rt (rs nm none) false, [.sh v, .sh k, .sh d, .sh nm, s4, s5, s6])
theorem items_loop {n : Nat} {a c : Ty} {f : Va → Option Va} (nm v : D) : ∀ (xs acc : List Va) (s5 s6 : Sl), free s5 → free s6 → (∀ x ∈ xs, PC n a c x (f x)) → acc.length + xs.length ≤ 1000 →
    itEnd nm v (enc (.list a)) (enc (.list c)) acc (mapO f xs) (forD (hNm 5) (l_cast_items_0 (G n)) (evs xs) [.sh v, .sh (enc (.list a)), .sh (enc (.list c)), .sh nm, .ow (.lst (evs acc)), s5, s6])
  | [], acc, s5, s6, _, _, _, _ => by simp [mapO, itEnd, evs]
  | x :: xs, acc, s5, s6, h5, h6, h, hl => by
    have e := h x List.mem_cons_self nm
    simp only [mapO, evs]
    cases hx : f x with
    | none =>
      rw [hx] at e
      simp at e
      refine ⟨.ow (.lst (evs acc)), .sh (ev x), .sh (.tup [.str "blame", nm]), ?_⟩
      rw [forD_cons]
      simp [kB_free h5, l_cast_items_0, kB_free h6, e, strOf_inj]
    | some y =>
      rw [hx] at e
      simp at e
      have hz : (evs acc).length < SZ := by rw [evs_len]; simp only [List.length_cons] at hl; simp; omega
      have ih := items_loop nm v xs (acc ++ [y]) (.sh (ev x)) (.sh (.tup [.str "ok", ev y])) trivial trivial (fun z m => h z (List.mem_cons_of_mem _ m)) (by simp only [List.length_append, List.length_cons, List.length_nil] at hl ⊢; omega)
      have step : forD (hNm 5) (l_cast_items_0 (G n)) (ev x :: evs xs) [.sh v, .sh (enc (.list a)), .sh (enc (.list c)), .sh nm, .ow (.lst (evs acc)), s5, s6] =
          forD (hNm 5) (l_cast_items_0 (G n)) (evs xs) [.sh v, .sh (enc (.list a)), .sh (enc (.list c)), .sh nm, .ow (.lst (evs (acc ++ [y]))), .sh (ev x), .sh (.tup [.str "ok", ev y])] := by
        rw [forD_cons]
        simp at hz
        simp [kB_free h5, l_cast_items_0, kB_free h6, e, strOf_inj, hz, ← evs_app, evs]
      rw [step]
      cases hm : mapO f xs with
      | none => rw [hm] at ih; exact ih
      | some ys =>
        rw [hm] at ih
        simp only [itEnd, List.append_assoc, List.singleton_append] at ih
        exact ih
theorem list_ok {n : Nat} {a c : Ty} {xs : List Va} {f : Va → Option Va} (h : ∀ x ∈ xs, PC n a c x (f x)) (hl : xs.length ≤ 1000) (nm : D) : G (n + 1) .f_cast_items [ev (.items xs), enc (.list a), enc (.list c), nm] = some (rs nm ((mapO f xs).map .items), false, []) := by
  have lp := items_loop nm (ev (.items xs)) xs [] .no .no trivial trivial h (by simpa using hl)
  rw [G_succ]
  cases hm : mapO f xs with
  | none =>
    rw [hm] at lp
    obtain ⟨s4, s5, s6, e⟩ := lp
    simp only [evs] at e
    simp [bd, at_run, b_cast_items, e]
  | some ys =>
    rw [hm] at lp
    obtain ⟨s5, s6, e⟩ := lp
    simp only [evs, List.nil_append] at e
    simp [bd, at_run, b_cast_items, e, lit_items]

theorem hasL_mem {a : Ty} : ∀ {xs : List Va}, hasL a xs → ∀ x ∈ xs, has a x
  | x :: xs, h, y, m => by
    unfold hasL at h
    rcases List.mem_cons.mp m with rfl | m
    · exact h.1
    · exact hasL_mem h.2 y m
  | [], _, y, m => (List.not_mem_nil m).elim
/-- what is cast to itself stays -/
theorem mapO_id {f : Va → Option Va} : ∀ {xs : List Va}, (∀ x ∈ xs, f x = some x) → mapO f xs = some xs
  | [], _ => rfl
  | x :: xs, h => by simp [mapO, h x List.mem_cons_self, mapO_id fun y m => h y (List.mem_cons_of_mem _ m)]
theorem cast_self : ∀ (k : Ty) (v : Va), has k v → cast k k v = some v
  | .any, v, _ => by simp [cast, down]
  | .int, v, _ => by simp [cast]
  | .bool, v, _ => by simp [cast]
  | .pair a b, v, h => by
    obtain ⟨x, y, rfl, h1, h2⟩ := has_pair h
    simp [cast, cast_self a x h1, cast_self b y h2]
  | .list a, v, h => by
    obtain ⟨xs, rfl, h1⟩ := has_list h
    simp [cast, mapO_id fun x m => cast_self a x (hasL_mem h1 x m)]
theorem cast_up : ∀ (k : Ty) (v : Va), has k v → k ≠ .any → cast k .any v = some (toAny k v)
  | .int, v, _, _ => by simp [cast]
  | .bool, v, _, _ => by simp [cast]
  | .pair a b, v, h, _ => by obtain ⟨x, y, rfl, h1, h2⟩ := has_pair h; simp [cast]
  | .list a, v, h, _ => by obtain ⟨xs, rfl, h1⟩ := has_list h; simp [cast]
theorem up_any : ∀ (k : Ty) (v : Va), has k v → cast k .any v = some (toAny k v) := fun k v h => by
  by_cases e : k = .any
  · subst e; simp [cast, down, toAny]
  · exact cast_up k v h e
mutual
/-- the lists in a value are short -/
def sm : Va → Prop
  | .int _ => True
  | .bool _ => True
  | .pair x y => sm x ∧ sm y
  | .items xs => xs.length ≤ 1000 ∧ smL xs
  | .tag _ v => sm v
def smL : List Va → Prop
  | [] => True
  | x :: xs => sm x ∧ smL xs
end
theorem smL_mem : ∀ {xs : List Va}, smL xs → ∀ x ∈ xs, sm x
  | x :: xs, h, y, m => by
    unfold smL at h
    rcases List.mem_cons.mp m with rfl | m
    · exact h.1
    · exact smL_mem h.2 y m
  | [], _, y, m => (List.not_mem_nil m).elim
theorem mapO_some {f g : Va → Va} {xs : List Va} : mapO (fun x => some (f x)) xs = some (xs.map f) := by
  induction xs with
  | nil => rfl
  | cons x xs ih => simp [mapO, ih]
theorem mapO_congr {f g : Va → Option Va} : ∀ {xs : List Va}, (∀ x ∈ xs, f x = g x) → mapO f xs = mapO g xs
  | [], _ => rfl
  | x :: xs, h => by simp [mapO, h x List.mem_cons_self, mapO_congr fun y m => h y (List.mem_cons_of_mem _ m)]
theorem G_cv (n : Nat) (ds : List D) : G (n + 1) .f_cast_value ds = bd (G n) .f_cast_value ds := rfl
theorem cast_ok : ∀ (n : Nat) (k d : Ty) (v : Va), alk k d = true → has k v → sm v → 4 * (dep k + dep d) + 4 ≤ n → dep k ≤ 50 → dep d ≤ 50 → PC n k d v (cast k d v) := by
  intro n
  induction n using Nat.strongRecOn with
  | ind n ih =>
    intro k d v hk hv hs hn dk dd nm
    obtain ⟨m, rfl⟩ : ∃ m, n = m + 4 := ⟨n - 4, by omega⟩
    rw [G_cv]
    by_cases hkd : k = d
    · subst hkd
      rw [cast_self k v hv]
      simp [bd, at_run, b_cast_value, eq_enc (a := k) (b := k) (by omega) (by omega)]
    have q1 := eq_enc (a := k) (b := d) (by omega) (by omega)
    simp only [hkd, decide_false] at q1
    by_cases hd : d = .any
    · subst hd
      have q2 : eqD (enc .any) (enc .any) = some (.bl true) := eq_enc (Nat.zero_le _) (Nat.zero_le _)
      rw [up_any k v hv]
      have tg : ∀ u, G (m + 2) .f_cast_value [ev v, enc k, enc (ground k), nm] = some (rs nm (some u), false, []) → G (m + 3) .f_tagged [ev v, enc k, nm] = some (rs nm (some (.tag (ground k) u)), false, []) := fun u e => by
        have e2 := ground_ok (m + 1) k
        rw [G_succ]
        simp at e
        simp [bd, at_run, b_tagged, e, e2, strOf_inj, lit_tag]
      have fin : ∀ u, toAny k v = .tag (ground k) u → G (m + 2) .f_cast_value [ev v, enc k, enc (ground k), nm] = some (rs nm (some u), false, []) → bd (G (m + 3)) .f_cast_value [ev v, enc k, enc .any, nm] = some (rs nm (some (toAny k v)), false, []) := fun u e1 e2 => by
        have e3 := tg u e2
        rw [e1]
        simp at e3
        simp [bd, at_run, b_cast_value, q1, q2, e3]
      cases k with
      | any => exact absurd rfl hkd
      | int =>
        refine fin v rfl ?_
        rw [G_cv]
        simp [bd, at_run, b_cast_value, ground, eq_enc (a := .int) (b := .int) (Nat.zero_le _) (Nat.zero_le _)]
      | bool =>
        refine fin v rfl ?_
        rw [G_cv]
        simp [bd, at_run, b_cast_value, ground, eq_enc (a := .bool) (b := .bool) (Nat.zero_le _) (Nat.zero_le _)]
      | pair a b =>
        obtain ⟨x, y, rfl, h1, h2⟩ := has_pair hv
        unfold sm at hs
        simp only [dep] at hn dk
        refine fin (.pair (toAny a x) (toAny b y)) rfl ?_
        have p1 := ih m (by omega) a .any x (by cases a <;> rfl) h1 hs.1 (by simp only [dep]; omega) (by omega) (by simp [dep])
        have p2 := ih m (by omega) b .any y (by cases b <;> rfl) h2 hs.2 (by simp only [dep]; omega) (by omega) (by simp [dep])
        rw [up_any a x h1] at p1
        rw [up_any b y h2] at p2
        have e := pair_ok p1 p2 nm
        rw [G_cv]
        by_cases hg : Ty.pair a b = .pair .any .any
        · cases hg
          simp [bd, at_run, b_cast_value, ground, toAny, eq_enc (a := .pair .any .any) (b := .pair .any .any) (by simp [dep]) (by simp [dep])]
        · have q3 := eq_enc (a := .pair a b) (b := .pair .any .any) (by simp only [dep]; omega) (by simp [dep])
          simp only [hg, decide_false] at q3
          have q4 := eq_enc (a := .pair .any .any) (b := .any) (by simp [dep]) (Nat.zero_le _)
          have q5 := eq_enc (a := .pair a b) (b := .any) (by simp only [dep]; omega) (Nat.zero_le _)
          simp at q4 q5 e
          simp [bd, at_run, b_cast_value, ground, q3, q4, q5, e, strOf_inj]
      | list a =>
        obtain ⟨xs, rfl, h1⟩ := has_list hv
        unfold sm at hs
        simp only [dep] at hn dk
        refine fin (.items (xs.map (toAny a))) rfl ?_
        have p1 : ∀ x ∈ xs, PC m a .any x (some (toAny a x)) := fun x mx => by
          have := ih m (by omega) a .any x (by cases a <;> rfl) (hasL_mem h1 x mx) (smL_mem hs.2 x mx) (by simp only [dep]; omega) (by omega) (by simp [dep])
          rwa [up_any a x (hasL_mem h1 x mx)] at this
        have e := list_ok p1 hs.1 nm
        rw [mapO_some (g := id)] at e
        rw [G_cv]
        by_cases hg : Ty.list a = .list .any
        · cases hg
          have idm : xs.map (toAny .any) = xs := by
            have : (toAny .any) = id := by funext z; simp [toAny]
            rw [this, List.map_id]
          simp [bd, at_run, b_cast_value, ground, idm, eq_enc (a := .list .any) (b := .list .any) (by simp [dep]) (by simp [dep])]
        · have q3 := eq_enc (a := .list a) (b := .list .any) (by simp only [dep]; omega) (by simp [dep])
          simp only [hg, decide_false] at q3
          have q4 := eq_enc (a := .list .any) (b := .any) (by simp [dep]) (Nat.zero_le _)
          have q5 := eq_enc (a := .list a) (b := .any) (by simp only [dep]; omega) (Nat.zero_le _)
          simp at q4 q5 e
          simp [bd, at_run, b_cast_value, ground, q3, q4, q5, e, strOf_inj]
    have q2 := eq_enc (a := d) (b := .any) (by omega) (Nat.zero_le _)
    simp only [hd, decide_false] at q2
    by_cases hk2 : k = .any
    · subst hk2
      obtain ⟨g, u, rfl, hg, hu⟩ := has_any hv
      have q4 : eqD (enc .any) (enc .any) = some (.bl true) := eq_enc (Nat.zero_le _) (Nat.zero_le _)
      have dg : dep g ≤ 1 := by
        cases g with
        | pair a b => cases a <;> cases b <;> first | exact hg.elim | simp [dep]
        | list a => cases a <;> first | exact hg.elim | simp [dep]
        | _ => simp [dep]
      have dgr : dep (ground d) ≤ 1 := by cases d <;> simp [ground, dep]
      have e1 := ground_ok (m + 2) d
      have q5 := ne_enc (a := g) (b := ground d) (by omega) (by omega)
      by_cases hgd : g = ground d
      · simp only [hgd, decide_true, Bool.not_true] at q5
        have nxt : ∀ r, PC (m + 3) (ground d) d u r → bd (G (m + 3)) .f_cast_value [ev (.tag g u), enc .any, enc d, nm] = some (rs nm r, false, []) := fun r p => by
          have p := p nm
          rw [hgd]
          simp [bd, at_run, b_cast_value, q1, q2, q4, e1, q5, p]
        refine nxt _ fun nm => ?_
        rw [G_cv]
        by_cases hgk : ground d = d
        · have q6 := eq_enc (a := ground d) (b := d) (by omega) (by omega)
          simp only [hgk, decide_true] at q6 ⊢
          have : cast .any d (.tag g u) = some u := by
            rw [hgk] at hgd
            subst hgd
            cases g with
            | any => exact absurd rfl hd
            | int => simp [cast, down]
            | bool => simp [cast, down]
            | pair a b =>
              have : a = .any ∧ b = .any := by cases a <;> cases b <;> first | exact hg.elim | exact ⟨rfl, rfl⟩
              obtain ⟨rfl, rfl⟩ := this
              obtain ⟨x, y, rfl, h1, h2⟩ := has_pair hu
              simp [cast, down]
            | list a =>
              have : a = .any := by cases a <;> first | exact hg.elim | rfl
              subst this
              obtain ⟨xs, rfl, h1⟩ := has_list hu
              simp [cast, down, mapO_id]
          rw [this]
          simp [bd, at_run, b_cast_value, q6]
        · have q6 := eq_enc (a := ground d) (b := d) (by omega) (by omega)
          simp only [hgk, decide_false] at q6
          have q7 := eq_enc (a := ground d) (b := .any) (by omega) (Nat.zero_le _)
          unfold sm at hs
          cases d with
          | any => exact absurd rfl hd
          | int => exact absurd rfl hgk
          | bool => exact absurd rfl hgk
          | pair a b =>
            rw [hgd] at hu
            obtain ⟨x, y, rfl, h1, h2⟩ := has_pair hu
            unfold sm at hs
            simp only [dep] at hn dd
            have p1 := ih (m + 1) (by omega) .any a x rfl h1 hs.1 (by simp only [dep]; omega) (by simp [dep]) (by omega)
            have p2 := ih (m + 1) (by omega) .any b y rfl h2 hs.2 (by simp only [dep]; omega) (by simp [dep]) (by omega)
            have e := pair_ok p1 p2 nm
            have ec : cast .any (.pair a b) (.tag g (.pair x y)) = (cast .any a x).bind fun x' => (cast .any b y).map fun y' => .pair x' y' := by rw [hgd]; simp [cast, down, ground]
            rw [ec]
            simp only [ground] at q6 q7 ⊢
            simp at q7
            simp [bd, at_run, b_cast_value, q2, q6, q7, e, strOf_inj]
          | list a =>
            rw [hgd] at hu
            obtain ⟨xs, rfl, h1⟩ := has_list hu
            unfold sm at hs
            simp only [dep] at hn dd
            have p1 : ∀ x ∈ xs, PC (m + 1) .any a x (cast .any a x) := fun x mx => ih (m + 1) (by omega) .any a x rfl (hasL_mem h1 x mx) (smL_mem hs.2 x mx) (by simp only [dep]; omega) (by simp [dep]) (by omega)
            have e := list_ok p1 hs.1 nm
            have ec : cast .any (.list a) (.tag g (.items xs)) = (mapO (cast .any a) xs).map .items := by
              rw [hgd]
              have : mapO (cast .any a) xs = mapO (down a) xs := mapO_congr fun x _ => by simp [cast]
              rw [this]
              simp [cast, down, ground]
            rw [ec]
            simp only [ground] at q6 q7 ⊢
            simp at q7
            simp [bd, at_run, b_cast_value, q2, q6, q7, e, strOf_inj]
      · simp only [hgd, decide_false, Bool.not_false] at q5
        have ec : cast .any d (.tag g u) = none := by
          cases d with
          | any => exact absurd rfl hd
          | int => cases g <;> first | exact absurd rfl hgd | simp [cast, down]
          | bool => cases g <;> first | exact absurd rfl hgd | simp [cast, down]
          | pair a b =>
            cases g with
            | pair a' b' => cases a' <;> cases b' <;> first | exact hg.elim | exact absurd rfl hgd
            | _ => simp [cast, down]
          | list a =>
            cases g with
            | list a' => cases a' <;> first | exact hg.elim | exact absurd rfl hgd
            | _ => simp [cast, down]
        rw [ec]
        simp [bd, at_run, b_cast_value, q1, q2, q4, e1, q5]
    have q3 := eq_enc (a := k) (b := .any) (by omega) (Nat.zero_le _)
    simp only [hk2, decide_false] at q3
    cases k with
    | any => exact absurd rfl hk2
    | int => cases d <;> first | exact absurd rfl hkd | exact absurd rfl hd | simp [alk] at hk
    | bool => cases d <;> first | exact absurd rfl hkd | exact absurd rfl hd | simp [alk] at hk
    | pair a b =>
      cases d with
      | pair c e =>
        obtain ⟨x, y, rfl, h1, h2⟩ := has_pair hv
        unfold sm at hs
        simp only [alk, Bool.and_eq_true] at hk
        simp only [dep] at hn dk dd
        have p1 := ih (m + 2) (by omega) a c x hk.1 h1 hs.1 (by omega) (by omega) (by omega)
        have p2 := ih (m + 2) (by omega) b e y hk.2 h2 hs.2 (by omega) (by omega) (by omega)
        have e' := pair_ok p1 p2 nm
        have ec : cast (.pair a b) (.pair c e) (.pair x y) = (cast a c x).bind fun x' => (cast b e y).map fun y' => .pair x' y' := by simp [cast]
        rw [ec]
        simp [bd, at_run, b_cast_value, q1, q2, q3, e', strOf_inj]
      | any => exact absurd rfl hd
      | _ => simp [alk] at hk
    | list a =>
      cases d with
      | list c =>
        obtain ⟨xs, rfl, h1⟩ := has_list hv
        unfold sm at hs
        simp only [alk] at hk
        simp only [dep] at hn dk dd
        have p1 : ∀ x ∈ xs, PC (m + 2) a c x (cast a c x) := fun x mx => ih (m + 2) (by omega) a c x hk (hasL_mem h1 x mx) (smL_mem hs.2 x mx) (by omega) (by omega) (by omega)
        have e' := list_ok p1 hs.1 nm
        have ec : cast (.list a) (.list c) (.items xs) = (mapO (cast a c) xs).map .items := by simp [cast]
        rw [ec]
        simp [bd, at_run, b_cast_value, q1, q2, q3, e', strOf_inj]
      | any => exact absurd rfl hd
      | _ => simp [alk] at hk
end K96

namespace K96
open DV L2 PySem PySem.Spec PyProof.Rows
mutual
def ht : Va → Nat
  | .int _ => 0
  | .bool _ => 0
  | .pair x y => max (ht x) (ht y) + 1
  | .items xs => htL xs + 1
  | .tag _ v => ht v
def htL : List Va → Nat
  | [] => 0
  | x :: xs => max (ht x) (htL xs)
end
/-- what a cast keeps -/
def kp (d : Ty) (v r : Va) : Prop := has d r ∧ sm r ∧ ht r ≤ ht v
def kpL (d : Ty) (xs rs : List Va) : Prop := hasL d rs ∧ smL rs ∧ htL rs ≤ htL xs ∧ rs.length = xs.length
theorem mapO_kp {f : Va → Option Va} {a c : Ty} : ∀ {xs rs : List Va}, (∀ x r, x ∈ xs → f x = some r → kp c x r) → mapO f xs = some rs → kpL c xs rs
  | [], rs, _, e => by
    simp [mapO] at e; subst e
    exact ⟨by unfold hasL; trivial, by unfold smL; trivial, Nat.le_refl _, rfl⟩
  | x :: xs, rs, h, e => by
    simp only [mapO] at e
    obtain ⟨y, e1, e2⟩ := Option.bind_eq_some_iff.mp e
    obtain ⟨ys, e3, rfl⟩ := Option.map_eq_some_iff.mp e2
    obtain ⟨k1, k2, k3⟩ := h x y List.mem_cons_self e1
    obtain ⟨l1, l2, l3, l4⟩ := mapO_kp (a := a) (fun z r m => h z r (List.mem_cons_of_mem _ m)) e3
    refine ⟨by unfold hasL; exact ⟨k1, l1⟩, by unfold smL; exact ⟨k2, l2⟩, ?_, by simp [l4]⟩
    simp only [htL]; omega
theorem up_kp : ∀ (k : Ty) (v : Va), has k v → sm v → kp .any v (toAny k v)
  | .any, v, h, s => by simp only [toAny]; exact ⟨h, s, Nat.le_refl _⟩
  | .int, v, h, s => by simp only [toAny]; exact ⟨by simp only [has]; exact ⟨trivial, h⟩, by unfold sm; exact s, by simp [ht]⟩
  | .bool, v, h, s => by simp only [toAny]; exact ⟨by simp only [has]; exact ⟨trivial, h⟩, by unfold sm; exact s, by simp [ht]⟩
  | .pair a b, v, h, s => by
    obtain ⟨x, y, rfl, h1, h2⟩ := has_pair h
    unfold sm at s
    obtain ⟨k1, k2, k3⟩ := up_kp a x h1 s.1
    obtain ⟨l1, l2, l3⟩ := up_kp b y h2 s.2
    refine ⟨?_, ?_, ?_⟩
    · simp only [toAny, has]; exact ⟨trivial, k1, l1⟩
    · simp only [toAny]; unfold sm sm; exact ⟨k2, l2⟩
    · simp only [toAny, ht]; omega
  | .list a, v, h, s => by
    obtain ⟨xs, rfl, h1⟩ := has_list h
    unfold sm at s
    have := mapO_kp (f := fun x => some (toAny a x)) (a := a) (c := .any) (xs := xs) (rs := xs.map (toAny a)) (fun x r m e => by
      cases e
      exact up_kp a x (hasL_mem h1 x m) (smL_mem s.2 x m)) (mapO_some (g := id))
    obtain ⟨k1, k2, k3, k4⟩ := this
    refine ⟨?_, ?_, ?_⟩
    · simp only [toAny, has]; exact ⟨trivial, k1⟩
    · simp only [toAny]; unfold sm sm; exact ⟨by rw [k4]; exact s.1, k2⟩
    · simp only [toAny, ht]; omega
theorem down_kp : ∀ (d : Ty) (v r : Va), has .any v → sm v → down d v = some r → kp d v r
  | .any, v, r, h, s, e => by simp [down] at e; subst e; exact ⟨h, s, Nat.le_refl _⟩
  | .int, v, r, h, s, e => by
    obtain ⟨g, u, rfl, hg, hu⟩ := has_any h
    unfold sm at s
    cases g <;> simp [down] at e
    subst e
    exact ⟨hu, s, by simp [ht]⟩
  | .bool, v, r, h, s, e => by
    obtain ⟨g, u, rfl, hg, hu⟩ := has_any h
    unfold sm at s
    cases g <;> simp [down] at e
    subst e
    exact ⟨hu, s, by simp [ht]⟩
  | .pair a b, v, r, h, s, e => by
    obtain ⟨g, u, rfl, hg, hu⟩ := has_any h
    unfold sm at s
    cases g with
    | pair a' b' =>
      have : a' = .any ∧ b' = .any := by cases a' <;> cases b' <;> first | exact hg.elim | exact ⟨rfl, rfl⟩
      obtain ⟨rfl, rfl⟩ := this
      obtain ⟨x, y, rfl, h1, h2⟩ := has_pair hu
      unfold sm at s
      simp only [down] at e
      obtain ⟨x', e1, e2⟩ := Option.bind_eq_some_iff.mp e
      obtain ⟨y', e3, rfl⟩ := Option.map_eq_some_iff.mp e2
      obtain ⟨k1, k2, k3⟩ := down_kp a x x' h1 s.1 e1
      obtain ⟨l1, l2, l3⟩ := down_kp b y y' h2 s.2 e3
      refine ⟨by simp only [has]; exact ⟨k1, l1⟩, by unfold sm; exact ⟨k2, l2⟩, by simp only [ht]; omega⟩
    | _ => simp [down] at e
  | .list a, v, r, h, s, e => by
    obtain ⟨g, u, rfl, hg, hu⟩ := has_any h
    unfold sm at s
    cases g with
    | list a' =>
      have : a' = .any := by cases a' <;> first | exact hg.elim | rfl
      subst this
      obtain ⟨xs, rfl, h1⟩ := has_list hu
      unfold sm at s
      simp only [down] at e
      obtain ⟨ys, e1, rfl⟩ := Option.map_eq_some_iff.mp e
      obtain ⟨k1, k2, k3, k4⟩ := mapO_kp (a := a) (c := a) (fun x r m e => down_kp a x r (hasL_mem h1 x m) (smL_mem s.2 x m) e) e1
      refine ⟨by simp only [has]; exact k1, by unfold sm; exact ⟨by rw [k4]; exact s.1, k2⟩, by simp only [ht]; omega⟩
    | _ => simp [down] at e
theorem cast_kp : ∀ (k d : Ty) (v r : Va), alk k d = true → has k v → sm v → cast k d v = some r → kp d v r
  | .any, d, v, r, _, h, s, e => by simp only [cast] at e; exact down_kp d v r h s e
  | .int, d, v, r, a, h, s, e => by
    cases d <;> simp [alk] at a <;> simp [cast] at e <;> subst e
    · exact up_kp .int v h s
    · exact ⟨h, s, Nat.le_refl _⟩
  | .bool, d, v, r, a, h, s, e => by
    cases d <;> simp [alk] at a <;> simp [cast] at e <;> subst e
    · exact up_kp .bool v h s
    · exact ⟨h, s, Nat.le_refl _⟩
  | .pair a b, d, v, r, al, h, s, e => by
    cases d with
    | any => rw [up_any _ v h] at e; cases e; exact up_kp _ v h s
    | pair c d =>
      obtain ⟨x, y, rfl, h1, h2⟩ := has_pair h
      unfold sm at s
      simp only [alk, Bool.and_eq_true] at al
      simp only [cast] at e
      obtain ⟨x', e1, e2⟩ := Option.bind_eq_some_iff.mp e
      obtain ⟨y', e3, rfl⟩ := Option.map_eq_some_iff.mp e2
      obtain ⟨k1, k2, k3⟩ := cast_kp a c x x' al.1 h1 s.1 e1
      obtain ⟨l1, l2, l3⟩ := cast_kp b d y y' al.2 h2 s.2 e3
      refine ⟨by simp only [has]; exact ⟨k1, l1⟩, by unfold sm; exact ⟨k2, l2⟩, by simp only [ht]; omega⟩
    | _ => simp [alk] at al
  | .list a, d, v, r, al, h, s, e => by
    cases d with
    | any => rw [up_any _ v h] at e; cases e; exact up_kp _ v h s
    | list c =>
      obtain ⟨xs, rfl, h1⟩ := has_list h
      unfold sm at s
      simp only [alk] at al
      simp only [cast] at e
      obtain ⟨ys, e1, rfl⟩ := Option.map_eq_some_iff.mp e
      obtain ⟨k1, k2, k3, k4⟩ := mapO_kp (a := a) (c := c) (fun x r m e => cast_kp a c x r al (hasL_mem h1 x m) (smL_mem s.2 x m) e) e1
      refine ⟨by simp only [has]; exact k1, by unfold sm; exact ⟨by rw [k4]; exact s.1, k2⟩, by simp only [ht]; omega⟩
    | _ => simp [alk] at al
theorem pln_mono : ∀ (d : D) {n m : Nat}, pln d n → n ≤ m → pln d m := by
  have main : ∀ m n d, pln d n → n ≤ m → pln d m := by
    intro m
    induction m with
    | zero => intro n d h hm; have : n = 0 := by omega
              subst this; exact h
    | succ m ih =>
      intro n d h hm
      have ihL : ∀ n xs, plnL xs n → n ≤ m → plnL xs m := by
        intro n xs
        induction xs with
        | nil => intro _ _; unfold plnL; trivial
        | cons x xs ihx => intro h hm; unfold plnL at h ⊢; exact ⟨ih n x h.1 hm, ihx h.2 hm⟩
      cases d <;> cases n <;> simp only [pln] at h ⊢
      · exact ⟨h.1, ihL _ _ h.2 (by omega)⟩
      · exact ⟨h.1, ihL _ _ h.2 (by omega)⟩
  exact fun d n m h hm => main m n d h hm
theorem plnG {g : Ty} (hg : isG g) : pln (enc g) 2 := by
  cases g with
  | pair a b => cases a <;> cases b <;> first | exact hg.elim | simp [enc, pln, plnL]
  | list a => cases a <;> first | exact hg.elim | simp [enc, pln, plnL]
  | any => exact hg.elim
  | _ => simp [enc, pln, plnL]
mutual
theorem pln_ev : ∀ (v : Va) (k : Ty), has k v → sm v → pln (ev v) (3 * ht v + 3) ∧ (k ≠ .any → pln (ev v) (3 * ht v + 2))
  | .int i, k, h, s => ⟨by simp [ev, ht, pln, plnL], fun _ => by simp [ev, ht, pln, plnL]⟩
  | .bool i, k, h, s => ⟨by simp [ev, ht, pln, plnL], fun _ => by simp [ev, ht, pln, plnL]⟩
  | .pair x y, k, h, s => by
    unfold sm at s
    have hx : ∃ a b, has a x ∧ has b y := by cases k <;> simp only [has] at h; exact ⟨_, _, h⟩
    obtain ⟨a, b, h1, h2⟩ := hx
    have p1 := (pln_ev x a h1 s.1).1
    have p2 := (pln_ev y b h2 s.2).1
    have key : pln (ev (.pair x y)) (3 * ht (.pair x y) + 2) := by
      simp only [ev, ht]
      rw [show 3 * (max (ht x) (ht y) + 1) + 2 = (3 * max (ht x) (ht y) + 4) + 1 by omega]
      simp only [pln, plnL]
      exact ⟨by simp, trivial, pln_mono _ p1 (by omega), pln_mono _ p2 (by omega), trivial⟩
    exact ⟨pln_mono _ key (by omega), fun _ => key⟩
  | .items xs, k, h, s => by
    unfold sm at s
    have hx : ∃ a, hasL a xs := by cases k <;> simp only [has] at h; exact ⟨_, h⟩
    obtain ⟨a, h1⟩ := hx
    have p := pln_evs xs a h1 s.2
    have key : pln (ev (.items xs)) (3 * ht (.items xs) + 2) := by
      simp only [ev, ht]
      rw [show 3 * (htL xs + 1) + 2 = (3 * htL xs + 3) + 1 + 1 by omega]
      simp only [pln, plnL]
      exact ⟨by simp, trivial, ⟨by rw [evs_len]; exact s.1, p⟩, trivial⟩
    exact ⟨pln_mono _ key (by omega), fun _ => key⟩
  | .tag g u, k, h, s => by
    unfold sm at s
    have hk : k = .any := by cases k <;> simp only [has] at h; rfl
    subst hk
    simp only [has] at h
    have hg : g ≠ .any := fun e => by subst e; exact h.1.elim
    have p := (pln_ev u g h.2 s).2 hg
    refine ⟨?_, fun z => absurd rfl z⟩
    simp only [ev, ht]
    rw [show 3 * ht u + 3 = (3 * ht u + 2) + 1 by omega]
    simp only [pln, plnL]
    exact ⟨by simp, trivial, pln_mono _ (plnG h.1) (by omega), p, trivial⟩
theorem pln_evs : ∀ (xs : List Va) (a : Ty), hasL a xs → smL xs → plnL (evs xs) (3 * htL xs + 3)
  | [], a, h, s => by simp [evs, plnL]
  | x :: xs, a, h, s => by
    unfold hasL at h
    unfold smL at s
    have p := (pln_ev x a h.1 s.1).1
    have q := pln_evs xs a h.2 s.2
    have qm : ∀ (l : List D) (n m : Nat), plnL l n → n ≤ m → plnL l m := by
      intro l n m
      induction l with
      | nil => intro _ _; unfold plnL; trivial
      | cons z l ih => intro h hm; unfold plnL at h ⊢; exact ⟨pln_mono z h.1 hm, ih h.2 hm⟩
    simp only [evs, plnL, htL]
    exact ⟨pln_mono _ p (by omega), qm _ _ _ q (by omega)⟩
end
end K96

namespace K96
open DV L2 PySem PySem.Spec PyProof.Rows
theorem t_any : D.tup [.str "any"] = enc .any := rfl
theorem t_int : D.tup [.str "int"] = enc .int := rfl
theorem t_bool : D.tup [.str "bool"] = enc .bool := rfl
theorem t_pair {a b : Ty} : D.tup [.str "pair", enc a, enc b] = enc (.pair a b) := rfl
theorem t_list {a : Ty} : D.tup [.str "list", enc a] = enc (.list a) := rfl
/-- u says no more than t -/
def vg : Ty → Ty → Prop
  | _, .any => True
  | .int, .int => True
  | .bool, .bool => True
  | .pair a b, .pair c d => vg a c ∧ vg b d
  | .list a, .list c => vg a c
  | _, _ => False
theorem vg_alk : ∀ t u w, vg t u → vg t w → alk u w = true := by
  intro t
  induction t with
  | any => intro u w h1 h2; cases u <;> simp [vg] at h1; cases w <;> simp [vg] at h2; rfl
  | int => intro u w h1 h2; cases u <;> simp [vg] at h1 <;> cases w <;> simp [vg] at h2 <;> rfl
  | bool => intro u w h1 h2; cases u <;> simp [vg] at h1 <;> cases w <;> simp [vg] at h2 <;> rfl
  | pair a b iha ihb =>
    intro u w h1 h2
    cases u <;> simp only [vg] at h1 <;> cases w <;> simp only [vg] at h2
    · rfl
    · rfl
    · rfl
    · simp only [alk, iha _ _ h1.1 h2.1, ihb _ _ h1.2 h2.2]; rfl
  | list a iha =>
    intro u w h1 h2
    cases u <;> simp only [vg] at h1 <;> cases w <;> simp only [vg] at h2
    · rfl
    · rfl
    · rfl
    · simp only [alk, iha _ _ h1 h2]
theorem vg_dep : ∀ t u, vg t u → dep u ≤ dep t := by
  intro t
  induction t with
  | pair a b iha ihb =>
    intro u h
    cases u <;> simp only [vg] at h
    · simp [dep]
    · have := iha _ h.1; have := ihb _ h.2; simp only [dep]; omega
  | list a iha =>
    intro u h
    cases u <;> simp only [vg] at h
    · simp [dep]
    · have := iha _ h; simp only [dep]; omega
  | _ => intro u h; cases u <;> simp [vg] at h <;> simp [dep]
theorem draw1 {n : Nat} {s : Dr} (h : s.ok) {lim : Int} (h0 : 0 < lim) (h1 : lim < 1073741824) : ∃ (v : Int) (s' : Dr), s'.ok ∧ 0 ≤ v ∧ v < lim ∧ G (n + 1) .f__law_draw [s.d, .int lim] = some (.int v, false, [s'.d]) := draw_ok s h h0 h1
theorem vaguer_ok : ∀ (n : Nat) (t : Ty) (s : Dr), s.ok → dep t + 2 ≤ n → ∃ (u : Ty) (s' : Dr), s'.ok ∧ vg t u ∧ G n .f__law_vaguer [s.d, enc t] = some (enc u, false, [s'.d])
  | 0, t, s, _, h => absurd h (by omega)
  | 1, t, s, _, h => absurd h (by omega)
  | n + 2, t, s, hs, hn => by
    have ih := vaguer_ok (n + 1)
    obtain ⟨v, s1, o1, v0, v4, e⟩ := draw1 (n := n) hs (lim := 4) (by omega) (by omega)
    by_cases h0 : v = 0
    · subst h0
      exact ⟨.any, s1, o1, by cases t <;> trivial, by rw [G_succ]; simp [bd, at_run, b__law_vaguer, e, t_any]⟩
    cases t with
    | any => exact ⟨.any, s1, o1, trivial, by rw [G_succ]; simp [bd, at_run, b__law_vaguer, e, h0]; rfl⟩
    | int => exact ⟨.int, s1, o1, trivial, by rw [G_succ]; simp [bd, at_run, b__law_vaguer, e, h0]; rfl⟩
    | bool => exact ⟨.bool, s1, o1, trivial, by rw [G_succ]; simp [bd, at_run, b__law_vaguer, e, h0]; rfl⟩
    | pair a b =>
      simp only [dep] at hn
      obtain ⟨a', s2, o2, g2, e2⟩ := ih a s1 o1 (by omega)
      obtain ⟨b', s3, o3, g3, e3⟩ := ih b s2 o2 (by omega)
      refine ⟨.pair a' b', s3, o3, ⟨g2, g3⟩, ?_⟩
      rw [G_succ]
      simp [bd, at_run, b__law_vaguer, e, h0, compD_cons, e2, e3, t_pair]
    | list a =>
      simp only [dep] at hn
      obtain ⟨a', s2, o2, g2, e2⟩ := ih a s1 o1 (by omega)
      refine ⟨.list a', s2, o2, g2, ?_⟩
      rw [G_succ]
      simp [bd, at_run, b__law_vaguer, e, h0, compD_cons, e2, t_list]
theorem plain_ok : ∀ (n : Nat) (k : Nat) (s : Dr), s.ok → 1 ≤ k → k + 1 ≤ n → ∃ (t : Ty) (s' : Dr), s'.ok ∧ dep t < k ∧ G n .f__law_plain [s.d, .int k] = some (enc t, false, [s'.d])
  | 0, k, s, _, _, h => absurd h (by omega)
  | 1, k, s, _, h1, h => absurd h (by omega)
  | n + 2, k, s, hs, h1, hk => by
    have ih := plain_ok (n + 1)
    have pick : ∀ (v : Int), 0 ≤ v → v < 3 → v = 0 ∨ v = 1 ∨ v = 2 := by omega
    by_cases hd : 1 < k
    · obtain ⟨v, s1, o1, v0, v6, e⟩ := draw1 (n := n) hs (lim := 6) (by omega) (by omega)
      have hd' : (1 : Int) < k := by omega
      have ek : (k : Int) - 1 = ((k - 1 : Nat) : Int) := by omega
      by_cases h3 : v < 3
      · rcases pick v v0 h3 with rfl | rfl | rfl
        · exact ⟨.int, s1, o1, by simp [dep]; omega, by rw [G_succ]; simp [bd, at_run, b__law_plain, e, hd', t_int]⟩
        · exact ⟨.bool, s1, o1, by simp [dep]; omega, by rw [G_succ]; simp [bd, at_run, b__law_plain, e, hd', t_bool]⟩
        · exact ⟨.any, s1, o1, by simp [dep]; omega, by rw [G_succ]; simp [bd, at_run, b__law_plain, e, hd', t_any]⟩
      · obtain ⟨a, s2, o2, da, e2⟩ := ih (k - 1) s1 o1 (by omega) (by omega)
        by_cases h33 : v = 3
        · refine ⟨.list a, s2, o2, by simp only [dep]; omega, ?_⟩
          subst h33
          rw [G_succ]
          simp [bd, at_run, b__law_plain, e, hd', ek, e2, t_list]
        · obtain ⟨b, s3, o3, db, e3⟩ := ih (k - 1) s2 o2 (by omega) (by omega)
          refine ⟨.pair a b, s3, o3, by simp only [dep]; omega, ?_⟩
          rw [G_succ]
          simp [bd, at_run, b__law_plain, e, hd', h3, h33, ek, e2, e3, t_pair]
    · obtain ⟨v, s1, o1, v0, v3, e⟩ := draw1 (n := n) hs (lim := 3) (by omega) (by omega)
      have hd' : ¬ (1 : Int) < k := by omega
      rcases pick v v0 v3 with rfl | rfl | rfl
      · exact ⟨.int, s1, o1, by simp [dep]; omega, by rw [G_succ]; simp [bd, at_run, b__law_plain, e, hd', t_int]⟩
      · exact ⟨.bool, s1, o1, by simp [dep]; omega, by rw [G_succ]; simp [bd, at_run, b__law_plain, e, hd', t_bool]⟩
      · exact ⟨.any, s1, o1, by simp [dep]; omega, by rw [G_succ]; simp [bd, at_run, b__law_plain, e, hd', t_any]⟩
/-- what a drawn value is -/
def vOk (k : Ty) (N : Nat) (v : Va) : Prop := has k v ∧ sm v ∧ ht v ≤ N
theorem items_draw {n : Nat} {a : Ty} {dp : Int} {N : Nat} {x3 : Sl} (H : ∀ s : Dr, s.ok → ∃ (v : Va) (s' : Dr), s'.ok ∧ vOk a N v ∧ G n .f__law_value [s.d, enc a, .int (dp - 1)] = some (ev v, false, [s'.d])) : ∀ (items : List D) (s : Dr), s.ok → ∃ (xs : List Va) (s' : Dr), s'.ok ∧ hasL a xs ∧ smL xs ∧ htL xs ≤ N ∧ xs.length = items.length ∧
    compD [4] (hNm 4) tYesD (shW (gCallD [true, false, false] (G n .f__law_value) [] (gBo 0 (gVa (gOp2 ixD (oNm 1) (oD (fun ρ => some (.int 1, ρ)))) (gVa (gOp2 subI (oNm 2) (oD (fun ρ => some (.int 1, ρ)))) (fun ρ => some ([], ρ))))))) items [.bo 0 s.d, .sh (enc (.list a)), .sh (.int dp), x3, .no] = some (evs xs, [.bo 0 s'.d, .sh (enc (.list a)), .sh (.int dp), x3, .no])
  | [], s, hs => ⟨[], s, hs, by unfold hasL; trivial, by unfold smL; trivial, Nat.zero_le _, rfl, by simp [evs]⟩
  | d :: ds, s, hs => by
    obtain ⟨v, s1, o1, ⟨k1, k2, k3⟩, e⟩ := H s hs
    obtain ⟨xs, s2, o2, l1, l2, l3, l4, e2⟩ := items_draw H ds s1 o1
    refine ⟨v :: xs, s2, o2, by unfold hasL; exact ⟨k1, l1⟩, by unfold smL; exact ⟨k2, l2⟩, by simp only [htL]; omega, by simp [l4], ?_⟩
    rw [compD_cons]
    simp [e, evs]
    exact e2
theorem leaf_ok (n : Nat) (s : Dr) (hs : s.ok) (dp : Int) (k : Ty) (hk : k = .int ∨ k = .bool) : ∃ (v : Va) (s' : Dr), s'.ok ∧ vOk k 0 v ∧ G (n + 2) .f__law_value [s.d, enc k, .int dp] = some (ev v, false, [s'.d]) := by
  have q : ∀ a b : Ty, dep a = 0 → dep b = 0 → eqD (enc a) (enc b) = some (.bl (decide (a = b))) := fun a b h1 h2 => eq_enc (by omega) (by omega)
  have q1 := q .int .any rfl rfl
  have q2 := q .int .int rfl rfl
  have q3 := q .bool .any rfl rfl
  have q4 := q .bool .int rfl rfl
  have q5 := q .bool .bool rfl rfl
  simp at q1 q2 q3 q4 q5
  rcases hk with rfl | rfl
  · obtain ⟨v, s1, o1, v0, v9, e⟩ := draw1 (n := n) hs (lim := 9) (by omega) (by omega)
    refine ⟨.int (v - 4), s1, o1, ⟨by simp only [has], by unfold sm; trivial, by simp [ht]⟩, ?_⟩
    rw [G_succ]
    simp [bd, at_run, b__law_value, t_any, t_int, q1, q2, e, ev]
  · obtain ⟨v, s1, o1, v0, v2, e⟩ := draw1 (n := n) hs (lim := 2) (by omega) (by omega)
    refine ⟨.bool (decide (v = 0)), s1, o1, ⟨by simp only [has], by unfold sm; trivial, by simp [ht]⟩, ?_⟩
    rw [G_succ]
    simp [bd, at_run, b__law_value, t_any, t_int, t_bool, q3, q4, q5, e, ev]

theorem value_ok : ∀ (n : Nat) (k : Ty) (dp : Int) (s : Dr), s.ok → 2 * dep k + 3 * dp.toNat + 5 ≤ n → dep k ≤ 40 → ∃ (v : Va) (s' : Dr), s'.ok ∧ vOk k (dep k + 2 * dp.toNat) v ∧ G n .f__law_value [s.d, enc k, .int dp] = some (ev v, false, [s'.d]) := by
  intro n
  induction n using Nat.strongRecOn with
  | ind n ih =>
    intro k dp s hs hn hk
    obtain ⟨m, rfl⟩ : ∃ m, n = m + 3 := ⟨n - 3, by omega⟩
    have q1 := eq_enc (a := k) (b := .any) (by omega) (Nat.zero_le _)
    cases k with
    | int =>
      obtain ⟨v, s', o, ⟨h1, h2, h3⟩, e⟩ := leaf_ok (m + 1) s hs dp .int (.inl rfl)
      exact ⟨v, s', o, ⟨h1, h2, by omega⟩, e⟩
    | bool =>
      obtain ⟨v, s', o, ⟨h1, h2, h3⟩, e⟩ := leaf_ok (m + 1) s hs dp .bool (.inr rfl)
      exact ⟨v, s', o, ⟨h1, h2, by omega⟩, e⟩
    | any =>
      simp only [decide_true] at q1
      have fin : ∀ (g : Ty) (lim : Int) (v : Int) (s1 : Dr), isG g → ixD (.lst [enc .int, enc .bool, enc (.pair .any .any), enc (.list .any)]) (.int v) = some (enc g) → (if 0 < dp then lim = 4 else lim = 2) → G (m + 2) .f__law_draw [s.d, .int lim] = some (.int v, false, [s1.d]) →
          (∃ (u : Va) (s' : Dr), s'.ok ∧ vOk g (dep .any + 2 * dp.toNat) u ∧ G (m + 2) .f__law_value [s1.d, enc g, .int (dp - 1)] = some (ev u, false, [s'.d])) →
          ∃ (v : Va) (s' : Dr), s'.ok ∧ vOk .any (dep .any + 2 * dp.toNat) v ∧ G (m + 3) .f__law_value [s.d, enc .any, .int dp] = some (ev v, false, [s'.d]) := by
        rintro g lim v s1 hg hi hl e ⟨u, s', o, ⟨h1, h2, h3⟩, e2⟩
        refine ⟨.tag g u, s', o, ⟨by simp only [has]; exact ⟨hg, h1⟩, by unfold sm; exact h2, by simp only [ht]; exact h3⟩, ?_⟩
        rw [G_succ]
        by_cases hp : 0 < dp
        · rw [if_pos hp] at hl
          subst hl
          simp [bd, at_run, b__law_value, t_any, t_int, t_bool, t_pair, t_list, q1, hp, e, hi, e2, lit_tag]
        · rw [if_neg hp] at hl
          subst hl
          simp [bd, at_run, b__law_value, t_any, t_int, t_bool, t_pair, t_list, q1, hp, e, hi, e2, lit_tag]
      have leafs : ∀ (g : Ty) (s1 : Dr), s1.ok → g = .int ∨ g = .bool → ∃ (u : Va) (s' : Dr), s'.ok ∧ vOk g (dep .any + 2 * dp.toNat) u ∧ G (m + 2) .f__law_value [s1.d, enc g, .int (dp - 1)] = some (ev u, false, [s'.d]) := fun g s1 o1 hg => by
        obtain ⟨u, s', o, ⟨h1, h2, h3⟩, e⟩ := leaf_ok m s1 o1 (dp - 1) g hg
        exact ⟨u, s', o, ⟨h1, h2, by omega⟩, e⟩
      by_cases hp : 0 < dp
      · obtain ⟨v, s1, o1, v0, v4, e⟩ := draw1 (n := m + 1) hs (lim := 4) (by omega) (by omega)
        have more : ∀ g : Ty, dep g ≤ 1 → ∃ (u : Va) (s' : Dr), s'.ok ∧ vOk g (dep .any + 2 * dp.toNat) u ∧ G (m + 2) .f__law_value [s1.d, enc g, .int (dp - 1)] = some (ev u, false, [s'.d]) := fun g hg => by
          simp only [dep] at hn
          obtain ⟨u, s', o, ⟨h1, h2, h3⟩, e⟩ := ih (m + 2) (by omega) g (dp - 1) s1 o1 (by omega) (by omega)
          exact ⟨u, s', o, ⟨h1, h2, by simp only [dep]; omega⟩, e⟩
        have pick : v = 0 ∨ v = 1 ∨ v = 2 ∨ v = 3 := by omega
        rcases pick with rfl | rfl | rfl | rfl
        · exact fin .int 4 0 s1 trivial rfl (by rw [if_pos hp]) e (leafs .int s1 o1 (.inl rfl))
        · exact fin .bool 4 1 s1 trivial rfl (by rw [if_pos hp]) e (leafs .bool s1 o1 (.inr rfl))
        · exact fin (.pair .any .any) 4 2 s1 trivial rfl (by rw [if_pos hp]) e (more _ (by simp [dep]))
        · exact fin (.list .any) 4 3 s1 trivial rfl (by rw [if_pos hp]) e (more _ (by simp [dep]))
      · obtain ⟨v, s1, o1, v0, v2, e⟩ := draw1 (n := m + 1) hs (lim := 2) (by omega) (by omega)
        have pick : v = 0 ∨ v = 1 := by omega
        rcases pick with rfl | rfl
        · exact fin .int 2 0 s1 trivial rfl (by rw [if_neg hp]) e (leafs .int s1 o1 (.inl rfl))
        · exact fin .bool 2 1 s1 trivial rfl (by rw [if_neg hp]) e (leafs .bool s1 o1 (.inr rfl))
    | pair a b =>
      have n1 : Ty.pair a b ≠ .any := by simp
      have n2 : Ty.pair a b ≠ .int := by simp
      have n3 : Ty.pair a b ≠ .bool := by simp
      have q2 := eq_enc (a := .pair a b) (b := .int) (by omega) (Nat.zero_le _)
      have q3 := eq_enc (a := .pair a b) (b := .bool) (by omega) (Nat.zero_le _)
      simp only [n1, n2, n3, decide_false] at q1 q2 q3
      simp only [dep] at hn hk
      obtain ⟨x, s1, o1, ⟨h1, h2, h3⟩, e1⟩ := ih (m + 2) (by omega) a (dp - 1) s hs (by omega) (by omega)
      obtain ⟨y, s2, o2, ⟨l1, l2, l3⟩, e2⟩ := ih (m + 2) (by omega) b (dp - 1) s1 o1 (by omega) (by omega)
      refine ⟨.pair x y, s2, o2, ⟨by simp only [has]; exact ⟨h1, l1⟩, by unfold sm; exact ⟨h2, l2⟩, by simp only [ht, dep]; omega⟩, ?_⟩
      rw [G_succ]
      simp [bd, at_run, b__law_value, t_any, t_int, t_bool, q1, q2, q3, e1, e2, strOf_inj, lit_pair]
    | list a =>
      have n1 : Ty.list a ≠ .any := by simp
      have n2 : Ty.list a ≠ .int := by simp
      have n3 : Ty.list a ≠ .bool := by simp
      have q2 := eq_enc (a := .list a) (b := .int) (by omega) (Nat.zero_le _)
      have q3 := eq_enc (a := .list a) (b := .bool) (by omega) (Nat.zero_le _)
      simp only [n1, n2, n3, decide_false] at q1 q2 q3
      simp only [dep] at hn hk
      obtain ⟨c, s0, o0, c0, c3, ec⟩ := draw1 (n := m + 1) hs (lim := 3) (by omega) (by omega)
      obtain ⟨xs, s1, o1, l1, l2, l3, l4, e1⟩ := items_draw (n := m + 2) (a := a) (dp := dp) (N := dep a + 2 * (dp - 1).toNat) (x3 := .no) (fun s hs => ih (m + 2) (by omega) a (dp - 1) s hs (by omega) (by omega)) (rngD 0 c.toNat) s0 o0
      have hlen : xs.length ≤ 1000 := by rw [l4]; simp [rngD]; omega
      have hc1 : c ≤ 100000 := by omega
      have hc2 : -100000 ≤ c := by omega
      have hx : xs.length ≤ 100000 := by omega
      refine ⟨.items xs, s1, o1, ⟨by simp only [has]; exact l1, by unfold sm; exact ⟨hlen, l2⟩, by simp only [ht, dep]; omega⟩, ?_⟩
      rw [G_succ]
      simp [bd, at_run, b__law_value, t_any, t_int, t_bool, q1, q2, q3, strOf_inj, ec, hc1, hc2, e1, evs_len, hx, lit_items]
end K96

namespace K96
open DV L2 PySem PySem.Spec PyProof.Rows
/-! what is seen of values, what they fit, meets -/
mutual
def bare : Va → Va
  | .tag _ v => bare v
  | .pair x y => .pair (bare x) (bare y)
  | .items xs => .items (bares xs)
  | .int i => .int i
  | .bool b => .bool b
def bares : List Va → List Va
  | [] => []
  | x :: xs => bare x :: bares xs
end
theorem bares_len : ∀ xs : List Va, (bares xs).length = xs.length
  | [] => rfl
  | x :: xs => by simp [bares, bares_len xs]
mutual
def fdp : Va → Nat
  | .tag _ v => fdp v + 1
  | .pair x y => max (fdp x) (fdp y) + 1
  | .items xs => fdpL xs + 1
  | .int _ => 0
  | .bool _ => 0
def fdpL : List Va → Nat
  | [] => 0
  | x :: xs => max (fdp x) (fdpL xs)
end
theorem fdpL_mem : ∀ {xs : List Va}, ∀ x ∈ xs, fdp x ≤ fdpL xs
  | y :: xs, x, m => by
    simp only [fdpL]
    rcases List.mem_cons.mp m with rfl | m
    · omega
    · have := fdpL_mem x m; omega
  | [], x, m => (List.not_mem_nil m).elim
mutual
theorem fdp_ht : ∀ (v : Va) (k : Ty), has k v → fdp v ≤ 2 * ht v + 1 ∧ (k ≠ .any → fdp v ≤ 2 * ht v)
  | .int i, k, h => by simp [fdp, ht]
  | .bool i, k, h => by simp [fdp, ht]
  | .pair x y, k, h => by
    have hx : ∃ a b, has a x ∧ has b y := by cases k <;> simp only [has] at h; exact ⟨_, _, h⟩
    obtain ⟨a, b, h1, h2⟩ := hx
    have p1 := (fdp_ht x a h1).1
    have p2 := (fdp_ht y b h2).1
    simp only [fdp, ht]
    omega
  | .items xs, k, h => by
    have hx : ∃ a, hasL a xs := by cases k <;> simp only [has] at h; exact ⟨_, h⟩
    obtain ⟨a, h1⟩ := hx
    have p := fdpL_ht xs a h1
    simp only [fdp, ht]
    omega
  | .tag g u, k, h => by
    have hk : k = .any := by cases k <;> simp only [has] at h; rfl
    subst hk
    simp only [has] at h
    have hg : g ≠ .any := fun e => by subst e; exact h.1.elim
    have p := (fdp_ht u g h.2).2 hg
    refine ⟨by simp only [fdp, ht]; omega, fun z => absurd rfl z⟩
theorem fdpL_ht : ∀ (xs : List Va) (a : Ty), hasL a xs → fdpL xs ≤ 2 * htL xs + 1
  | [], a, h => by simp [fdpL]
  | x :: xs, a, h => by
    unfold hasL at h
    have p := (fdp_ht x a h.1).1
    have q := fdpL_ht xs a h.2
    simp only [fdpL, htL]
    omega
end
theorem shown_items {n : Nat} {z0 : Sl} : ∀ xs : List Va, (∀ x ∈ xs, G n .f_shown [ev x] = some (ev (bare x), false, [])) →
    compD [1] (hNm 1) tYesD (shW (gCallD [false] (G n .f_shown) [] (gVa (gNm 1) (fun ρ => some ([], ρ))))) (evs xs) [z0, .no] = some (evs (bares xs), [z0, .no])
  | [], h => by simp [evs, bares]
  | x :: xs, h => by
    have e := h x List.mem_cons_self
    have ih := shown_items (z0 := z0) xs fun y m => h y (List.mem_cons_of_mem _ m)
    simp only [evs, bares]
    rw [compD_cons]
    simp [e]
    exact ih
theorem shown_ok : ∀ (n : Nat) (v : Va), fdp v < n → sm v → G n .f_shown [ev v] = some (ev (bare v), false, [])
  | 0, v, h, _ => absurd h (by omega)
  | n + 1, v, h, hs => by
    have ih := shown_ok n
    have nin : ∀ s : String, (s = "tag" ∨ s = "pair" ∨ s = "items" ∨ s = "int" ∨ s = "bool") → inD (.str s) (.tup [.str "closure", .str "wrap"]) = some (.bl false) := by
      rintro s (rfl | rfl | rfl | rfl | rfl) <;> simp [inD, inB, inS, inK, inF, seqOf, flatD, eqFl, strOf_beq]
    rw [G_succ]
    cases v with
    | int i => simp [bd, at_run, b_shown, ev, bare, strOf_inj, nin]
    | bool i => simp [bd, at_run, b_shown, ev, bare, strOf_inj, nin]
    | tag g u =>
      simp only [fdp] at h
      unfold sm at hs
      have e := ih u (by omega) hs
      simp [bd, at_run, b_shown, ev, bare, strOf_inj, e]
    | pair x y =>
      simp only [fdp] at h
      unfold sm at hs
      have e1 := ih x (by omega) hs.1
      have e2 := ih y (by omega) hs.2
      simp [bd, at_run, b_shown, ev, bare, strOf_inj, nin, e1, e2]
    | items xs =>
      simp only [fdp] at h
      unfold sm at hs
      have e := shown_items (z0 := .sh (ev (.items xs))) xs fun x m => ih x (by have := fdpL_mem x m; omega) (smL_mem hs.2 x m)
      have hx : xs.length ≤ 100000 := by omega
      simp only [ev] at e ⊢
      simp [bd, at_run, b_shown, bare, strOf_inj, nin, e, evs_len, bares_len, hx, ev]
mutual
def fit : Va → Ty → Bool
  | .int _, .int => true
  | .bool _, .bool => true
  | .pair x y, .pair a b => fit x a && fit y b
  | .items xs, .list a => fits xs a
  | _, .any => true
  | _, _ => false
def fits : List Va → Ty → Bool
  | [], _ => true
  | x :: xs, a => fit x a && fits xs a
end
@[simp] theorem fit_any (v : Va) : fit v .any = true := by cases v <;> simp [fit]
theorem fits_any : ∀ xs : List Va, fits xs .any = true
  | [] => by simp [fits]
  | x :: xs => by simp [fits, fits_any xs]
mutual
theorem has_fit : ∀ (v : Va) (k : Ty), has k v → fit (bare v) k = true
  | .int i, k, h => by cases k <;> simp [has] at h <;> simp [bare, fit]
  | .bool i, k, h => by cases k <;> simp [has] at h <;> simp [bare, fit]
  | .pair x y, k, h => by
    cases k <;> simp only [has] at h
    simp [bare, fit, has_fit x _ h.1, has_fit y _ h.2]
  | .items xs, k, h => by
    cases k <;> simp only [has] at h
    simp [bare, fit, hasL_fit xs _ h]
  | .tag g u, k, h => by
    have hk : k = .any := by cases k <;> simp only [has] at h; rfl
    subst hk
    simp
theorem hasL_fit : ∀ (xs : List Va) (a : Ty), hasL a xs → fits (bares xs) a = true
  | [], a, h => by simp [bares, fits]
  | x :: xs, a, h => by
    unfold hasL at h
    simp [bares, fits, has_fit x _ h.1, hasL_fit xs _ h.2]
end
/-- what a cast tells: whether it goes, and that nothing that is seen changes -/
def tells (d : Ty) (v : Va) (r : Option Va) : Prop := r.isSome = fit (bare v) d ∧ ∀ w, r = some w → bare w = bare v
theorem mapO_tells {f : Va → Option Va} {c : Ty} : ∀ {xs : List Va}, (∀ x ∈ xs, tells c x (f x)) → (mapO f xs).isSome = fits (bares xs) c ∧ ∀ ys, mapO f xs = some ys → bares ys = bares xs
  | [], _ => by simp [mapO, bares, fits]
  | x :: xs, h => by
    obtain ⟨e1, e2⟩ := h x List.mem_cons_self
    obtain ⟨l1, l2⟩ := mapO_tells fun y m => h y (List.mem_cons_of_mem _ m)
    simp only [mapO, bares, fits]
    rw [← e1, ← l1]
    cases hf : f x with
    | none => simp
    | some y =>
      cases hm : mapO f xs with
      | none => simp
      | some ys =>
        simp only [Option.bind_some, Option.map_some, Option.isSome_some, Bool.and_self, true_and]
        rintro zs e
        cases e
        simp [bares, e2 y hf, l2 ys hm]
theorem up_bare : ∀ (k : Ty) (v : Va), has k v → bare (toAny k v) = bare v
  | .any, v, h => by simp [toAny]
  | .int, v, h => by simp [toAny, bare]
  | .bool, v, h => by simp [toAny, bare]
  | .pair a b, v, h => by
    obtain ⟨x, y, rfl, h1, h2⟩ := has_pair h
    simp [toAny, bare, up_bare a x h1, up_bare b y h2]
  | .list a, v, h => by
    obtain ⟨xs, rfl, h1⟩ := has_list h
    have : bares (xs.map (toAny a)) = bares xs := by
      have key : ∀ ys : List Va, (∀ y ∈ ys, has a y) → bares (ys.map (toAny a)) = bares ys := by
        intro ys
        induction ys with
        | nil => intro _; rfl
        | cons y ys ihy => intro hy; simp [bares, up_bare a y (hy y List.mem_cons_self), ihy fun z m => hy z (List.mem_cons_of_mem _ m)]
      exact key xs (hasL_mem h1)
    simp [toAny, bare, this]
theorem down_tells : ∀ (d : Ty) (v : Va), has .any v → tells d v (down d v)
  | .any, v, h => ⟨by simp [down], fun w e => by simp [down] at e; rw [e]⟩
  | .int, v, h => by
    obtain ⟨g, u, rfl, hg, hu⟩ := has_any h
    cases g <;> first | exact hg.elim | (cases u <;> simp only [has] at hu <;> first | contradiction | simp [tells, down, bare, fit])
  | .bool, v, h => by
    obtain ⟨g, u, rfl, hg, hu⟩ := has_any h
    cases g <;> first | exact hg.elim | (cases u <;> simp only [has] at hu <;> first | contradiction | simp [tells, down, bare, fit])
  | .pair a b, v, h => by
    obtain ⟨g, u, rfl, hg, hu⟩ := has_any h
    cases g with
    | pair a' b' =>
      have : a' = .any ∧ b' = .any := by cases a' <;> cases b' <;> first | exact hg.elim | exact ⟨rfl, rfl⟩
      obtain ⟨rfl, rfl⟩ := this
      obtain ⟨x, y, rfl, h1, h2⟩ := has_pair hu
      obtain ⟨p1, p2⟩ := down_tells a x h1
      obtain ⟨q1, q2⟩ := down_tells b y h2
      simp only [tells, down, bare, fit, ← p1, ← q1]
      cases hx : down a x with
      | none => simp
      | some x' =>
        cases hy : down b y with
        | none => simp
        | some y' =>
          simp only [Option.bind_some, Option.map_some, Option.isSome_some, Bool.and_self, true_and]
          rintro w e
          cases e
          simp [bare, p2 x' hx, q2 y' hy]
    | list a' => cases u <;> simp only [has] at hu; simp [tells, down, bare, fit]
    | int => cases u <;> simp only [has] at hu; simp [tells, down, bare, fit]
    | bool => cases u <;> simp only [has] at hu; simp [tells, down, bare, fit]
    | any => exact hg.elim
  | .list a, v, h => by
    obtain ⟨g, u, rfl, hg, hu⟩ := has_any h
    cases g with
    | list a' =>
      have : a' = .any := by cases a' <;> first | exact hg.elim | rfl
      subst this
      obtain ⟨xs, rfl, h1⟩ := has_list hu
      obtain ⟨l1, l2⟩ := mapO_tells (f := down a) (c := a) fun x m => down_tells a x (hasL_mem h1 x m)
      simp only [tells, down, bare, fit, ← l1]
      refine ⟨by simp, fun w e => ?_⟩
      obtain ⟨ys, e1, rfl⟩ := Option.map_eq_some_iff.mp e
      simp [bare, l2 ys e1]
    | pair a' b' => cases u <;> simp only [has] at hu; simp [tells, down, bare, fit]
    | int => cases u <;> simp only [has] at hu; simp [tells, down, bare, fit]
    | bool => cases u <;> simp only [has] at hu; simp [tells, down, bare, fit]
    | any => exact hg.elim
theorem tells_up {k : Ty} {v : Va} (h : has k v) : tells .any v (some (toAny k v)) := ⟨by simp, fun w e => by cases e; exact up_bare k v h⟩
theorem cast_tells : ∀ (k d : Ty) (v : Va), alk k d = true → has k v → tells d v (cast k d v)
  | .any, d, v, _, h => by simp only [cast]; exact down_tells d v h
  | .int, d, v, a, h => by
    cases d <;> simp [alk] at a <;> simp only [cast]
    · exact tells_up h
    · exact ⟨by rw [has_fit _ _ h]; rfl, fun w e => by cases e; rfl⟩
  | .bool, d, v, a, h => by
    cases d <;> simp [alk] at a <;> simp only [cast]
    · exact tells_up h
    · exact ⟨by rw [has_fit _ _ h]; rfl, fun w e => by cases e; rfl⟩
  | .pair a b, d, v, al, h => by
    cases d with
    | any => rw [up_any _ v h]; exact tells_up h
    | pair c d =>
      obtain ⟨x, y, rfl, h1, h2⟩ := has_pair h
      simp only [alk, Bool.and_eq_true] at al
      obtain ⟨p1, p2⟩ := cast_tells a c x al.1 h1
      obtain ⟨q1, q2⟩ := cast_tells b d y al.2 h2
      simp only [tells, cast, bare, fit, ← p1, ← q1]
      cases hx : cast a c x with
      | none => simp
      | some x' =>
        cases hy : cast b d y with
        | none => simp
        | some y' =>
          simp only [Option.bind_some, Option.map_some, Option.isSome_some, Bool.and_self, true_and]
          rintro w e
          cases e
          simp [bare, p2 x' hx, q2 y' hy]
    | _ => simp [alk] at al
  | .list a, d, v, al, h => by
    cases d with
    | any => rw [up_any _ v h]; exact tells_up h
    | list c =>
      obtain ⟨xs, rfl, h1⟩ := has_list h
      simp only [alk] at al
      obtain ⟨l1, l2⟩ := mapO_tells (f := cast a c) (c := c) fun x m => cast_tells a c x al (hasL_mem h1 x m)
      simp only [tells, cast, bare, fit, ← l1]
      refine ⟨by simp, fun w e => ?_⟩
      obtain ⟨ys, e1, rfl⟩ := Option.map_eq_some_iff.mp e
      simp [bare, l2 ys e1]
    | _ => simp [alk] at al
/-! meets -/
def mo : Ty → Ty → Option Ty
  | .any, b => some b
  | a, .any => some a
  | .int, .int => some .int
  | .bool, .bool => some .bool
  | .pair a b, .pair c d => (mo a c).bind fun x => (mo b d).map fun y => .pair x y
  | .list a, .list c => (mo a c).map .list
  | _, _ => none
theorem mo_alk : ∀ a b, alk a b = (mo a b).isSome := by
  intro a
  induction a with
  | any => intro b; cases b <;> rfl
  | int => intro b; cases b <;> rfl
  | bool => intro b; cases b <;> rfl
  | pair a b iha ihb =>
    intro c
    cases c with
    | pair c d =>
      simp only [alk, mo, iha, ihb]
      cases mo a c <;> cases mo b d <;> rfl
    | _ => rfl
  | list a iha =>
    intro c
    cases c with
    | list c => simp only [alk, mo, iha]; cases mo a c <;> rfl
    | _ => rfl
theorem vg_refl : ∀ t, vg t t
  | .any => trivial
  | .int => trivial
  | .bool => trivial
  | .pair a b => ⟨vg_refl a, vg_refl b⟩
  | .list a => vg_refl a
theorem vg_any (t : Ty) : vg t .any := by cases t <;> trivial
theorem mo_vg : ∀ a b m, mo a b = some m → vg m a ∧ vg m b ∧ dep m ≤ max (dep a) (dep b) := by
  intro a
  induction a with
  | any => intro b m e; simp [mo] at e; subst e; exact ⟨vg_any _, vg_refl _, by simp [dep]⟩
  | int => intro b m e; cases b <;> simp [mo] at e <;> subst e <;> exact ⟨trivial, trivial, by simp [dep]⟩
  | bool => intro b m e; cases b <;> simp [mo] at e <;> subst e <;> exact ⟨trivial, trivial, by simp [dep]⟩
  | pair a b iha ihb =>
    intro c m e
    cases c with
    | any => simp [mo] at e; subst e; exact ⟨vg_refl _, vg_any _, by omega⟩
    | pair c d =>
      simp only [mo] at e
      obtain ⟨x, e1, e2⟩ := Option.bind_eq_some_iff.mp e
      obtain ⟨y, e3, rfl⟩ := Option.map_eq_some_iff.mp e2
      obtain ⟨p1, p2, p3⟩ := iha c x e1
      obtain ⟨q1, q2, q3⟩ := ihb d y e3
      exact ⟨⟨p1, q1⟩, ⟨p2, q2⟩, by simp only [dep]; omega⟩
    | _ => simp [mo] at e
  | list a iha =>
    intro c m e
    cases c with
    | any => simp [mo] at e; subst e; exact ⟨vg_refl _, vg_any _, by omega⟩
    | list c =>
      simp only [mo] at e
      obtain ⟨x, e1, rfl⟩ := Option.map_eq_some_iff.mp e
      obtain ⟨p1, p2, p3⟩ := iha c x e1
      exact ⟨p1, p2, by simp only [dep]; omega⟩
    | _ => simp [mo] at e
theorem mo_base : ∀ t a b, vg t a → vg t b → ∃ m, mo a b = some m ∧ vg t m := by
  intro t
  induction t with
  | any => intro a b h1 h2; cases a <;> simp [vg] at h1; cases b <;> simp [vg] at h2; exact ⟨_, rfl, trivial⟩
  | int => intro a b h1 h2; cases a <;> simp [vg] at h1 <;> cases b <;> simp [vg] at h2 <;> exact ⟨_, rfl, trivial⟩
  | bool => intro a b h1 h2; cases a <;> simp [vg] at h1 <;> cases b <;> simp [vg] at h2 <;> exact ⟨_, rfl, trivial⟩
  | pair t u iht ihu =>
    intro a b h1 h2
    cases a <;> simp only [vg] at h1 <;> cases b <;> simp only [vg] at h2
    · exact ⟨_, rfl, trivial⟩
    · exact ⟨_, rfl, h2⟩
    · exact ⟨_, rfl, h1⟩
    · obtain ⟨m1, e1, g1⟩ := iht _ _ h1.1 h2.1
      obtain ⟨m2, e2, g2⟩ := ihu _ _ h1.2 h2.2
      exact ⟨.pair m1 m2, by simp [mo, e1, e2], ⟨g1, g2⟩⟩
  | list t iht =>
    intro a b h1 h2
    cases a <;> simp only [vg] at h1 <;> cases b <;> simp only [vg] at h2
    · exact ⟨_, rfl, trivial⟩
    · exact ⟨_, rfl, h2⟩
    · exact ⟨_, rfl, h1⟩
    · obtain ⟨m1, e1, g1⟩ := iht _ _ h1 h2
      exact ⟨.list m1, by simp [mo, e1], g1⟩
mutual
theorem vg_fit : ∀ (x : Va) (t u : Ty), vg t u → fit x t = true → fit x u = true
  | .int i, t, u, h, e => by cases t <;> cases u <;> simp [vg] at h <;> simp [fit] at e ⊢
  | .bool i, t, u, h, e => by cases t <;> cases u <;> simp [vg] at h <;> simp [fit] at e ⊢
  | .tag _ _, t, u, h, e => by cases t <;> cases u <;> simp [vg] at h <;> simp [fit] at e ⊢
  | .pair x y, t, u, h, e => by
    cases t <;> cases u <;> simp only [vg] at h <;> simp only [fit, fit_any] at e ⊢ <;> first | contradiction | skip
    simp only [Bool.and_eq_true] at e ⊢
    exact ⟨vg_fit x _ _ h.1 e.1, vg_fit y _ _ h.2 e.2⟩
  | .items xs, t, u, h, e => by
    cases t <;> cases u <;> simp only [vg] at h <;> simp only [fit, fit_any] at e ⊢ <;> first | contradiction | skip
    exact vg_fits xs _ _ h e
theorem vg_fits : ∀ (xs : List Va) (t u : Ty), vg t u → fits xs t = true → fits xs u = true
  | [], t, u, h, e => by simp [fits]
  | x :: xs, t, u, h, e => by
    simp only [fits, Bool.and_eq_true] at e ⊢
    exact ⟨vg_fit x t u h e.1, vg_fits xs t u h e.2⟩
end
mutual
theorem mo_fit : ∀ (x : Va) (a b m : Ty), mo a b = some m → fit x m = (fit x a && fit x b)
  | .int i, a, b, m, e => by
    cases a <;> cases b <;> simp only [mo] at e <;> first
      | (cases e; done)
      | (cases e; simp [fit]; done)
      | (obtain ⟨_, _, e2⟩ := Option.bind_eq_some_iff.mp e; obtain ⟨_, _, rfl⟩ := Option.map_eq_some_iff.mp e2; simp [fit]; done)
      | (obtain ⟨_, _, rfl⟩ := Option.map_eq_some_iff.mp e; simp [fit]; done)
  | .bool i, a, b, m, e => by
    cases a <;> cases b <;> simp only [mo] at e <;> first
      | (cases e; done)
      | (cases e; simp [fit]; done)
      | (obtain ⟨_, _, e2⟩ := Option.bind_eq_some_iff.mp e; obtain ⟨_, _, rfl⟩ := Option.map_eq_some_iff.mp e2; simp [fit]; done)
      | (obtain ⟨_, _, rfl⟩ := Option.map_eq_some_iff.mp e; simp [fit]; done)
  | .tag _ _, a, b, m, e => by
    cases a <;> cases b <;> simp only [mo] at e <;> first
      | (cases e; done)
      | (cases e; simp [fit]; done)
      | (obtain ⟨_, _, e2⟩ := Option.bind_eq_some_iff.mp e; obtain ⟨_, _, rfl⟩ := Option.map_eq_some_iff.mp e2; simp [fit]; done)
      | (obtain ⟨_, _, rfl⟩ := Option.map_eq_some_iff.mp e; simp [fit]; done)
  | .pair x y, a, b, m, e => by
    cases a <;> cases b <;> simp only [mo] at e <;> first | (cases e; done) | skip
    all_goals first
      | (cases e; simp [fit]; done)
      | (obtain ⟨_, _, rfl⟩ := Option.map_eq_some_iff.mp e; simp [fit]; done)
      | skip
    obtain ⟨m1, e1, e2⟩ := Option.bind_eq_some_iff.mp e
    obtain ⟨m2, e3, rfl⟩ := Option.map_eq_some_iff.mp e2
    simp only [fit, mo_fit x _ _ _ e1, mo_fit y _ _ _ e3]
    ac_rfl
  | .items xs, a, b, m, e => by
    cases a <;> cases b <;> simp only [mo] at e <;> first | (cases e; done) | skip
    all_goals first
      | (cases e; simp [fit]; done)
      | (obtain ⟨_, _, e2⟩ := Option.bind_eq_some_iff.mp e; obtain ⟨_, _, rfl⟩ := Option.map_eq_some_iff.mp e2; simp [fit]; done)
      | skip
    obtain ⟨m1, e1, rfl⟩ := Option.map_eq_some_iff.mp e
    simp only [fit, mo_fits xs _ _ _ e1]
theorem mo_fits : ∀ (xs : List Va) (a b m : Ty), mo a b = some m → fits xs m = (fits xs a && fits xs b)
  | [], a, b, m, e => by simp [fits]
  | x :: xs, a, b, m, e => by
    simp only [fits, mo_fit x _ _ _ e, mo_fits xs _ _ _ e]
    ac_rfl
end
def encO : Option Ty → D
  | some t => enc t
  | none => .non
@[simp] theorem encO_some {t} : encO (some t) = enc t := rfl
@[simp] theorem encO_none : encO none = .non := rfl
theorem no_none {xs : List Ty} (h : ∀ x ∈ xs, dep x ≤ 50) (hl : xs.length = 0 ∨ xs.length = 1 ∨ xs.length = 2) : inD .non (.lst (xs.map enc)) = some (.bl false) := by
  rcases xs with _ | ⟨a, _ | ⟨b, _ | ⟨c, r⟩⟩⟩
  · rfl
  · have ha := h a (by simp)
    have o : okPy (.lst [enc a]) = true := by
      unfold okPy SeqAt.shaped
      simp [toPy, toPyL, PyData.canLay0, PyData.canLayAll0, enc_lay, PyData.depth, PyData.depthAll, enc_dep]
      omega
    have o0 : okPy .non = true := rfl
    obtain ⟨ys, ea⟩ := enc_tup a
    have q : PyData.eqv (toPy (enc a)) (toPy .non) = false := by rw [ea]; simp [toPy, PyData.eqv]
    have f : flatD (enc a) = false := by rw [ea]; rfl
    simp [inD, inB, inS, inK, inF, inP, seqOf, f, o, o0, toPyL, q]
  · have ha := h a (by simp)
    have hb := h b (by simp)
    have o : okPy (.lst [enc a, enc b]) = true := by
      unfold okPy SeqAt.shaped
      simp [toPy, toPyL, PyData.canLay0, PyData.canLayAll0, enc_lay, PyData.depth, PyData.depthAll, enc_dep]
      omega
    have o0 : okPy .non = true := rfl
    obtain ⟨ys, ea⟩ := enc_tup a
    obtain ⟨zs, eb⟩ := enc_tup b
    have q : PyData.eqv (toPy (enc a)) (toPy .non) = false := by rw [ea]; simp [toPy, PyData.eqv]
    have q2 : PyData.eqv (toPy (enc b)) (toPy .non) = false := by rw [eb]; simp [toPy, PyData.eqv]
    have f : flatD (enc a) = false := by rw [ea]; rfl
    simp [inD, inB, inS, inK, inF, inP, seqOf, f, o, o0, toPyL, q, q2]
  · simp at hl
theorem in_non2 {a b : Option Ty} (ha : ∀ t, a = some t → dep t ≤ 50) (hb : ∀ t, b = some t → dep t ≤ 50) : inD .non (.lst [encO a, encO b]) = some (.bl (a.isNone || b.isNone)) := by
  have o0 : okPy .non = true := rfl
  have n0 : PyData.eqv (toPy .non) (toPy .non) = true := rfl
  cases a with
  | none =>
    cases b with
    | none => rfl
    | some b =>
      have hb := hb b rfl
      have o : okPy (.lst [.non, enc b]) = true := by
        unfold okPy SeqAt.shaped
        simp [toPy, toPyL, PyData.canLay0, PyData.canLayAll0, enc_lay, PyData.depth, PyData.depthAll, enc_dep]
        omega
      obtain ⟨zs, eb⟩ := enc_tup b
      have f : flatD (enc b) = false := by rw [eb]; rfl
      simp [inD, inB, inS, inK, inF, inP, seqOf, f, o, o0, toPyL, n0]
  | some a =>
    have ha := ha a rfl
    obtain ⟨ys, ea⟩ := enc_tup a
    have f : flatD (enc a) = false := by rw [ea]; rfl
    cases b with
    | none =>
      have o : okPy (.lst [enc a, .non]) = true := by
        unfold okPy SeqAt.shaped
        simp [toPy, toPyL, PyData.canLay0, PyData.canLayAll0, enc_lay, PyData.depth, PyData.depthAll, enc_dep]
        omega
      simp [inD, inB, inS, inK, inF, inP, seqOf, f, o, o0, toPyL, n0]
    | some b =>
      have := no_none (xs := [a, b]) (by simp; exact ⟨ha, hb b rfl⟩) (by simp)
      simpa using this
theorem in_non1 {a : Option Ty} (ha : ∀ t, a = some t → dep t ≤ 50) : inD .non (.lst [encO a]) = some (.bl a.isNone) := by
  cases a with
  | none => rfl
  | some a =>
    have := no_none (xs := [a]) (by simp; exact ha a rfl) (by simp)
    simpa using this
theorem meet_ok : ∀ (n : Nat) (a b : Ty), dep a < n → dep a ≤ 40 → dep b ≤ 40 → G n .f_meet [enc a, enc b] = some (encO (mo a b), false, [])
  | 0, a, b, h, _, _ => absurd h (by omega)
  | n + 1, a, b, h, ha, hb => by
    have ih := meet_ok n
    have q1 := eq_enc (a := a) (b := .any) (by omega) (Nat.zero_le _)
    have q2 := eq_enc (a := b) (b := .any) (by omega) (Nat.zero_le _)
    rw [G_succ]
    by_cases e1 : a = .any
    · subst e1
      simp only [decide_true] at q1
      simp [bd, at_run, b_meet, q1, mo]
    by_cases e2 : b = .any
    · subst e2
      simp only [e1, decide_false] at q1
      simp only [decide_true] at q2
      have : mo a .any = some a := by cases a <;> simp [mo] at e1 ⊢
      simp [bd, at_run, b_meet, q1, q2, this]
    simp only [e1, decide_false] at q1
    simp only [e2, decide_false] at q2
    cases a with
    | any => exact absurd rfl e1
    | int =>
      cases b with
      | any => exact absurd rfl e2
      | int => simp [bd, at_run, b_meet, q1, q2, mo, strOf_inj, no_none (xs := []), zipD]; rfl
      | _ => simp [bd, at_run, b_meet, q1, q2, mo, strOf_inj]
    | bool =>
      cases b with
      | any => exact absurd rfl e2
      | bool => simp [bd, at_run, b_meet, q1, q2, mo, strOf_inj, no_none (xs := []), zipD]; rfl
      | _ => simp [bd, at_run, b_meet, q1, q2, mo, strOf_inj]
    | pair a b' =>
      cases b with
      | any => exact absurd rfl e2
      | pair c d =>
        simp only [dep] at h ha hb
        have i1 := ih a c (by omega) (by omega) (by omega)
        have i2 := ih b' d (by omega) (by omega) (by omega)
        have nn := in_non2 (a := mo a c) (b := mo b' d) (fun t e => by have := (mo_vg _ _ _ e).2.2; omega) (fun t e => by have := (mo_vg _ _ _ e).2.2; omega)
        cases h1 : mo a c with
        | none =>
          rw [h1] at i1 nn
          simp at i1 nn
          simp [bd, at_run, b_meet, q1, q2, mo, h1, strOf_inj, zipD, compD_cons, i1, i2, nn]
        | some m1 =>
          rw [h1] at i1 nn
          cases h2 : mo b' d with
          | none =>
            rw [h2] at i2 nn
            simp at i1 i2 nn
            simp [bd, at_run, b_meet, q1, q2, mo, h1, h2, strOf_inj, zipD, compD_cons, i1, i2, nn]
          | some m2 =>
            rw [h2] at i2 nn
            simp at i1 i2 nn
            simp [bd, at_run, b_meet, q1, q2, mo, h1, h2, strOf_inj, zipD, compD_cons, i1, i2, nn, t_pair]
      | _ => simp [bd, at_run, b_meet, q1, q2, mo, strOf_inj]
    | list a =>
      cases b with
      | any => exact absurd rfl e2
      | list c =>
        simp only [dep] at h ha hb
        have i1 := ih a c (by omega) (by omega) (by omega)
        have nn := in_non1 (a := mo a c) (fun t e => by have := (mo_vg _ _ _ e).2.2; omega)
        cases h1 : mo a c with
        | none =>
          rw [h1] at i1 nn
          simp at i1 nn
          simp [bd, at_run, b_meet, q1, q2, mo, h1, strOf_inj, zipD, compD_cons, i1, nn]
        | some m1 =>
          rw [h1] at i1 nn
          simp at i1 nn
          simp [bd, at_run, b_meet, q1, q2, mo, h1, strOf_inj, zipD, compD_cons, i1, nn, t_list]
      | _ => simp [bd, at_run, b_meet, q1, q2, mo, strOf_inj]
end K96

namespace K96
open DV L2 PySem PySem.Spec PyProof.Rows
theorem in_any {a b : Ty} (ha : dep a ≤ 50) (hb : dep b ≤ 50) : inD (.tup [.str "any"]) (.lst [enc a, enc b]) = some (.bl (decide (a = .any) || decide (b = .any))) := by
  have o : okPy (.lst [enc a, enc b]) = true := by
    unfold okPy SeqAt.shaped
    simp [toPy, toPyL, PyData.canLay0, PyData.canLayAll0, enc_lay, PyData.depth, PyData.depthAll, enc_dep]
    omega
  have o0 : okPy (enc .any) = true := ok_enc (Nat.zero_le _)
  have q1 := eqv_enc a .any
  have q2 := eqv_enc b .any
  show inD (enc .any) _ = _
  have f : flatD (enc .any) = false := rfl
  have s : inS (enc .any) (.lst [enc a, enc b]) = none := rfl
  have k : inK (enc .any) (.lst [enc a, enc b]) = none := rfl
  simp [inD, inB, s, k, inF, inP, seqOf, f, o, o0, toPyL, q1, q2]
theorem lalike_ok : ∀ (n : Nat) (a b : Ty), dep a < n → dep a ≤ 40 → dep b ≤ 40 → G n .f__law_alike [enc a, enc b] = some (.bl (alk a b), false, [])
  | 0, a, b, h, _, _ => absurd h (by omega)
  | n + 1, a, b, h, ha, hb => by
    have ih := lalike_ok n
    have q := in_any (a := a) (b := b) (by omega) (by omega)
    rw [G_succ]
    by_cases e : a = .any ∨ b = .any
    · have al : alk a b = true := by
        rcases e with rfl | rfl
        · cases b <;> rfl
        · cases a <;> rfl
      have : (decide (a = Ty.any) || decide (b = Ty.any)) = true := by simpa using e
      rw [this] at q
      simp [bd, at_run, b__law_alike, q, al]
    have : (decide (a = Ty.any) || decide (b = Ty.any)) = false := by simpa using e
    rw [this] at q
    have e1 : a ≠ .any := fun z => e (.inl z)
    have e2 : b ≠ .any := fun z => e (.inr z)
    have r1 : rngD 1 0 = [] := rfl
    have r2 : rngD 1 1 = [.int 1] := rfl
    have r3 : rngD 1 2 = [.int 1, .int 2] := rfl
    cases a with
    | any => exact absurd rfl e1
    | int => cases b <;> first | exact absurd rfl e2 | simp [bd, at_run, b__law_alike, q, alk, strOf_inj, r1]
    | bool => cases b <;> first | exact absurd rfl e2 | simp [bd, at_run, b__law_alike, q, alk, strOf_inj, r1]
    | pair a b' =>
      cases b with
      | any => exact absurd rfl e2
      | pair c d =>
        simp only [dep] at h ha hb
        have i1 := ih a c (by omega) (by omega) (by omega)
        have i2 := ih b' d (by omega) (by omega) (by omega)
        cases h1 : alk a c <;> cases h2 : alk b' d <;> rw [h1] at i1 <;> rw [h2] at i2 <;> simp [bd, at_run, b__law_alike, q, alk, h1, h2, strOf_inj, r3, compD_cons, i1, i2]
      | _ => simp [bd, at_run, b__law_alike, q, alk, strOf_inj]
    | list a =>
      cases b with
      | any => exact absurd rfl e2
      | list c =>
        simp only [dep] at h ha hb
        have i1 := ih a c (by omega) (by omega) (by omega)
        cases h1 : alk a c <;> rw [h1] at i1 <;> simp [bd, at_run, b__law_alike, q, alk, h1, strOf_inj, r2, compD_cons, i1]
      | _ => simp [bd, at_run, b__law_alike, q, alk, strOf_inj]
end K96

namespace K96
open DV L2 PySem PySem.Spec PyProof.Rows
mutual
theorem okN_ev : ∀ (v : Va) (k : Ty), has k v → okN (ev v) (2 * fdp v + 3)
  | .int i, k, h => by
    simp only [ev]
    exact (okN.tup (n := 0) fun x m => by
      simp only [List.mem_cons, List.not_mem_nil, or_false] at m
      rcases m with rfl | rfl
      · exact .str (by decide +kernel)
      · exact .int).mono (by omega)
  | .bool i, k, h => by
    simp only [ev]
    exact (okN.tup (n := 0) fun x m => by
      simp only [List.mem_cons, List.not_mem_nil, or_false] at m
      rcases m with rfl | rfl
      · exact .str (by decide +kernel)
      · exact .bl).mono (by omega)
  | .pair x y, k, h => by
    have hx : ∃ a b, has a x ∧ has b y := by cases k <;> simp only [has] at h; exact ⟨_, _, h⟩
    obtain ⟨a, b, h1, h2⟩ := hx
    have p1 := okN_ev x a h1
    have p2 := okN_ev y b h2
    simp only [ev, fdp]
    refine (okN.tup (n := 2 * max (fdp x) (fdp y) + 3) fun z m => ?_).mono (by omega)
    simp only [List.mem_cons, List.not_mem_nil, or_false] at m
    rcases m with rfl | rfl | rfl
    · exact .str (by decide +kernel)
    · exact p1.mono (by omega)
    · exact p2.mono (by omega)
  | .items xs, k, h => by
    have hx : ∃ a, hasL a xs := by cases k <;> simp only [has] at h; exact ⟨_, h⟩
    obtain ⟨a, h1⟩ := hx
    have p := okN_evs xs a h1
    simp only [ev, fdp]
    refine (okN.tup (n := 2 * fdpL xs + 4) fun z m => ?_).mono (by omega)
    simp only [List.mem_cons, List.not_mem_nil, or_false] at m
    rcases m with rfl | rfl
    · exact .str (by decide +kernel)
    · exact okN.tup p
  | .tag g u, k, h => by
    have hk : k = .any := by cases k <;> simp only [has] at h; rfl
    subst hk
    simp only [has] at h
    have p := okN_ev u g h.2
    simp only [ev, fdp]
    refine (okN.tup (n := 2 * fdp u + 3) fun z m => ?_).mono (by omega)
    simp only [List.mem_cons, List.not_mem_nil, or_false] at m
    rcases m with rfl | rfl | rfl
    · exact .str (by decide +kernel)
    · have dg : dep g ≤ 1 := by
        have hg := h.1
        cases g with
        | pair a b => cases a <;> cases b <;> first | exact hg.elim | simp [dep]
        | list a => cases a <;> first | exact hg.elim | simp [dep]
        | _ => simp [dep]
      exact ⟨enc_lay g, by rw [enc_dep]; omega⟩
    · exact p
theorem okN_evs : ∀ (xs : List Va) (a : Ty), hasL a xs → ∀ d ∈ evs xs, okN d (2 * fdpL xs + 3)
  | [], a, h => by simp [evs]
  | x :: xs, a, h => by
    unfold hasL at h
    have p := okN_ev x a h.1
    have q := okN_evs xs a h.2
    intro d m
    simp only [evs, List.mem_cons, fdpL] at m ⊢
    rcases m with rfl | m
    · exact p.mono (by omega)
    · exact (q d m).mono (by omega)
end
mutual
theorem okN_bare : ∀ (v : Va), okN (ev (bare v)) (2 * fdp v + 3)
  | .int i => by
    simp only [bare, ev]
    exact (okN.tup (n := 0) fun x m => by
      simp only [List.mem_cons, List.not_mem_nil, or_false] at m
      rcases m with rfl | rfl
      · exact .str (by decide +kernel)
      · exact .int).mono (by omega)
  | .bool i => by
    simp only [bare, ev]
    exact (okN.tup (n := 0) fun x m => by
      simp only [List.mem_cons, List.not_mem_nil, or_false] at m
      rcases m with rfl | rfl
      · exact .str (by decide +kernel)
      · exact .bl).mono (by omega)
  | .pair x y => by
    have p1 := okN_bare x
    have p2 := okN_bare y
    simp only [bare, ev, fdp]
    refine (okN.tup (n := 2 * max (fdp x) (fdp y) + 3) fun z m => ?_).mono (by omega)
    simp only [List.mem_cons, List.not_mem_nil, or_false] at m
    rcases m with rfl | rfl | rfl
    · exact .str (by decide +kernel)
    · exact p1.mono (by omega)
    · exact p2.mono (by omega)
  | .items xs => by
    have p := okN_bares xs
    simp only [bare, ev, fdp]
    refine (okN.tup (n := 2 * fdpL xs + 4) fun z m => ?_).mono (by omega)
    simp only [List.mem_cons, List.not_mem_nil, or_false] at m
    rcases m with rfl | rfl
    · exact .str (by decide +kernel)
    · exact okN.tup p
  | .tag g u => by
    have p := okN_bare u
    simp only [bare, fdp]
    exact p.mono (by omega)
theorem okN_bares : ∀ (xs : List Va), ∀ d ∈ evs (bares xs), okN d (2 * fdpL xs + 3)
  | [] => by simp [evs, bares]
  | x :: xs => by
    have p := okN_bare x
    have q := okN_bares xs
    intro d m
    simp only [evs, bares, List.mem_cons, fdpL] at m ⊢
    rcases m with rfl | m
    · exact p.mono (by omega)
    · exact (q d m).mono (by omega)
end
end K96

namespace K96
open DV L2 PySem PySem.Spec PyProof.Rows
/-! coercions -/
abbrev Nn := Nat × Bool
def nD (p : Nn) : D := .tup [.tup [.int p.1], .bl p.2]
abbrev Hd := Option (Ty × Nn)
inductive Co where
  | nothing
  | fail (h : Hd) (p : Nn)
  | plain (h : Hd) (t : Option Ty)
  | pair (h : Hd) (c d : Co) (t : Option Ty)
  | list (h : Hd) (c : Co) (t : Option Ty)
def encH : Hd → D
  | none => .non
  | some (g, p) => .tup [enc g, nD p]
def encC : Co → D
  | .nothing => .tup [.str "any"]
  | .fail h p => .tup [.str "fail", encH h, nD p]
  | .plain h t => .tup [.str "turn", encH h, .tup [.str "plain"], encO t]
  | .pair h c d t => .tup [.str "turn", encH h, .tup [.str "pair", encC c, encC d], encO t]
  | .list h c t => .tup [.str "turn", encH h, .tup [.str "list", encC c], encO t]
def up : Ty → Co
  | .any => .nothing
  | .int => .plain none (some .int)
  | .bool => .plain none (some .bool)
  | .pair a b => .pair none (up a) (up b) (some (.pair .any .any))
  | .list a => .list none (up a) (some (.list .any))
def dn (p : Nn) : Ty → Co
  | .any => .nothing
  | .int => .plain (some (.int, p)) none
  | .bool => .plain (some (.bool, p)) none
  | .pair a b => .pair (some (.pair .any .any, p)) (dn p a) (dn p b) none
  | .list a => .list (some (.list .any, p)) (dn p a) none
def ofc (p : Nn) : Ty → Ty → Co
  | .any, d => dn p d
  | .pair a b, .pair c d => .pair none (ofc p a c) (ofc p b d) none
  | .list a, .list c => .list none (ofc p a c) none
  | k, .any => up k
  | _, _ => .plain none none
def PO (n : Nat) (p : Nn) (k d : Ty) (c : Co) : Prop := G n .f_of_cast [enc k, enc d, nD p] = some (encC c, false, [])
theorem mid_pair {n : Nat} {p : Nn} {a b c d : Ty} {x y : Co} (h1 : PO n p a c x) (h2 : PO n p b d y) : G (n + 1) .f_middle_of [enc (.pair a b), enc (.pair c d), nD p] = some (.tup [.str "pair", encC x, encC y], false, []) := by
  unfold PO at h1 h2
  rw [G_succ]
  simp [bd, at_run, b_middle_of, strOf_inj, h1, h2]
theorem mid_list {n : Nat} {p : Nn} {a c : Ty} {x : Co} (h1 : PO n p a c x) : G (n + 1) .f_middle_of [enc (.list a), enc (.list c), nD p] = some (.tup [.str "list", encC x], false, []) := by
  unfold PO at h1
  rw [G_succ]
  simp [bd, at_run, b_middle_of, strOf_inj, h1]
theorem mid_int {n : Nat} {p : Nn} : G (n + 1) .f_middle_of [enc .int, enc .int, nD p] = some (.tup [.str "plain"], false, []) := by
  rw [G_succ]
  simp [bd, at_run, b_middle_of, strOf_inj]
theorem mid_bool {n : Nat} {p : Nn} : G (n + 1) .f_middle_of [enc .bool, enc .bool, nD p] = some (.tup [.str "plain"], false, []) := by
  rw [G_succ]
  simp [bd, at_run, b_middle_of, strOf_inj]
theorem ofc_up {n : Nat} {p : Nn} {k : Ty} {m : D} (hk : k ≠ .any) (dk : dep k ≤ 40) (hm : G (n + 1) .f_middle_of [enc k, enc (ground k), nD p] = some (m, false, [])) : G (n + 2) .f_of_cast [enc k, enc .any, nD p] = some (.tup [.str "turn", .non, m, enc (ground k)], false, []) := by
  have q1 := eq_enc (a := k) (b := .any) (by omega) (Nat.zero_le _)
  have q2 : eqD (enc .any) (enc .any) = some (.bl true) := eq_enc (Nat.zero_le _) (Nat.zero_le _)
  have g := ground_ok n k
  simp only [hk, decide_false] at q1
  rw [G_succ]
  simp [bd, at_run, b_of_cast, q1, q2, g, hm]
theorem ofc_dn {n : Nat} {p : Nn} {d : Ty} {m : D} (hd : d ≠ .any) (dk : dep d ≤ 40) (hm : G (n + 1) .f_middle_of [enc (ground d), enc d, nD p] = some (m, false, [])) : G (n + 2) .f_of_cast [enc .any, enc d, nD p] = some (.tup [.str "turn", .tup [enc (ground d), nD p], m, .non], false, []) := by
  have q1 := eq_enc (a := d) (b := .any) (by omega) (Nat.zero_le _)
  have q2 : eqD (enc .any) (enc .any) = some (.bl true) := eq_enc (Nat.zero_le _) (Nat.zero_le _)
  have g := ground_ok n d
  simp only [hd, decide_false] at q1
  rw [G_succ]
  simp [bd, at_run, b_of_cast, q1, q2, g, hm]
theorem ofc_mid {n : Nat} {p : Nn} {k d : Ty} {m : D} (hk : k ≠ .any) (hd : d ≠ .any) (dk : dep k ≤ 40) (dd : dep d ≤ 40) (hm : G (n + 1) .f_middle_of [enc k, enc d, nD p] = some (m, false, [])) : G (n + 2) .f_of_cast [enc k, enc d, nD p] = some (.tup [.str "turn", .non, m, .non], false, []) := by
  have q1 := eq_enc (a := k) (b := .any) (by omega) (Nat.zero_le _)
  have q2 := eq_enc (a := d) (b := .any) (by omega) (Nat.zero_le _)
  simp only [hk, decide_false] at q1
  simp only [hd, decide_false] at q2
  rw [G_succ]
  simp [bd, at_run, b_of_cast, q1, q2, hm]
theorem ofc_nn {n : Nat} {p : Nn} : PO (n + 1) p .any .any .nothing := by
  have q2 : eqD (enc .any) (enc .any) = some (.bl true) := eq_enc (Nat.zero_le _) (Nat.zero_le _)
  unfold PO
  rw [G_succ]
  simp [bd, at_run, b_of_cast, q2, encC, c_NOTHING]
theorem up_ok : ∀ (n : Nat) (p : Nn) (k : Ty), 2 * dep k + 2 ≤ n → dep k ≤ 40 → PO n p k .any (up k)
  | 0, p, k, h, _ => absurd h (by omega)
  | 1, p, k, h, _ => absurd h (by omega)
  | n + 2, p, k, h, hk => by
    cases k with
    | any => exact ofc_nn
    | int => exact ofc_up (by simp) (by omega) mid_int
    | bool => exact ofc_up (by simp) (by omega) mid_bool
    | pair a b =>
      simp only [dep] at h hk
      exact ofc_up (by simp) (by simp only [dep]; omega) (mid_pair (up_ok n p a (by omega) (by omega)) (up_ok n p b (by omega) (by omega)))
    | list a =>
      simp only [dep] at h hk
      exact ofc_up (by simp) (by simp only [dep]; omega) (mid_list (up_ok n p a (by omega) (by omega)))
theorem dn_ok : ∀ (n : Nat) (p : Nn) (k : Ty), 2 * dep k + 2 ≤ n → dep k ≤ 40 → PO n p .any k (dn p k)
  | 0, p, k, h, _ => absurd h (by omega)
  | 1, p, k, h, _ => absurd h (by omega)
  | n + 2, p, k, h, hk => by
    cases k with
    | any => exact ofc_nn
    | int => exact ofc_dn (by simp) (by omega) mid_int
    | bool => exact ofc_dn (by simp) (by omega) mid_bool
    | pair a b =>
      simp only [dep] at h hk
      exact ofc_dn (by simp) (by simp only [dep]; omega) (mid_pair (dn_ok n p a (by omega) (by omega)) (dn_ok n p b (by omega) (by omega)))
    | list a =>
      simp only [dep] at h hk
      exact ofc_dn (by simp) (by simp only [dep]; omega) (mid_list (dn_ok n p a (by omega) (by omega)))
theorem ofc_ok : ∀ (n : Nat) (p : Nn) (k d : Ty), alk k d = true → 2 * max (dep k) (dep d) + 2 ≤ n → dep k ≤ 40 → dep d ≤ 40 → PO n p k d (ofc p k d)
  | 0, p, k, d, _, h, _, _ => absurd h (by omega)
  | 1, p, k, d, _, h, _, _ => absurd h (by omega)
  | n + 2, p, k, d, al, h, hk, hd => by
    cases k with
    | any => simp only [ofc]; exact dn_ok (n + 2) p d (by omega) hd
    | int =>
      cases d <;> simp [alk] at al
      · simp only [ofc]; exact up_ok (n + 2) p .int (by simp only [dep]; omega) (by omega)
      · simp only [ofc]; exact ofc_mid (by simp) (by simp) (by omega) (by omega) mid_int
    | bool =>
      cases d <;> simp [alk] at al
      · simp only [ofc]; exact up_ok (n + 2) p .bool (by simp only [dep]; omega) (by omega)
      · simp only [ofc]; exact ofc_mid (by simp) (by simp) (by omega) (by omega) mid_bool
    | pair a b =>
      cases d with
      | any => simp only [ofc]; exact up_ok (n + 2) p _ (by simp only [dep] at h ⊢; omega) hk
      | pair c d =>
        simp only [alk, Bool.and_eq_true] at al
        simp only [dep] at h hk hd
        simp only [ofc]
        exact ofc_mid (by simp) (by simp) (by simp only [dep]; omega) (by simp only [dep]; omega) (mid_pair (ofc_ok n p a c al.1 (by omega) (by omega) (by omega)) (ofc_ok n p b d al.2 (by omega) (by omega) (by omega)))
      | _ => simp [alk] at al
    | list a =>
      cases d with
      | any => simp only [ofc]; exact up_ok (n + 2) p _ (by simp only [dep] at h ⊢; omega) hk
      | list c =>
        simp only [alk] at al
        simp only [dep] at h hk hd
        simp only [ofc]
        exact ofc_mid (by simp) (by simp) (by simp only [dep]; omega) (by simp only [dep]; omega) (mid_list (ofc_ok n p a c al (by omega) (by omega) (by omega)))
      | _ => simp [alk] at al
/-! which values a coercion takes -/
def wtS : Hd → Ty → Ty → Prop
  | none, a, s => a = s ∧ a ≠ .any
  | some (g, _), a, s => a = .any ∧ s = g ∧ isG g
def wtT : Option Ty → Ty → Ty → Prop
  | none, b, s => b = s ∧ b ≠ .any
  | some g, b, s => b = .any ∧ s = g ∧ isG g
def wt : Co → Ty → Ty → Prop
  | .nothing, a, b => a = .any ∧ b = .any
  | .fail h _, a, _ => ∃ s, wtS h a s
  | .plain h t, a, b => ∃ s, wtS h a s ∧ wtT t b s ∧ (s = .int ∨ s = .bool)
  | .pair h c d t, a, b => ∃ a1 a2 b1 b2, wtS h a (.pair a1 a2) ∧ wtT t b (.pair b1 b2) ∧ wt c a1 b1 ∧ wt d a2 b2
  | .list h c t, a, b => ∃ a1 b1, wtS h a (.list a1) ∧ wtT t b (.list b1) ∧ wt c a1 b1
def opn : Hd → Va → Option Va
  | none, v => some v
  | some (g, _), .tag g' u => if g' = g then some u else none
  | _, _ => none
def cls : Option Ty → Va → Va
  | none, v => v
  | some g, v => .tag g v
def bendV : Co → Va → Option Va
  | .nothing, v => some v
  | .fail _ _, _ => none
  | .plain h t, v => (opn h v).map (cls t)
  | .pair h c d t, v => (opn h v).bind fun u => match u with
    | .pair x y => (bendV c x).bind fun x' => (bendV d y).map fun y' => cls t (.pair x' y')
    | _ => none
  | .list h c t, v => (opn h v).bind fun u => match u with
    | .items xs => (mapO (bendV c) xs).map fun ys => cls t (.items ys)
    | _ => none
theorem opn_has {h : Hd} {a s : Ty} {v u : Va} (w : wtS h a s) (hv : has a v) (e : opn h v = some u) : has s u ∧ ht u ≤ ht v ∧ (sm v → sm u) := by
  cases h with
  | none =>
    obtain ⟨rfl, _⟩ := w
    simp [opn] at e
    subst e
    exact ⟨hv, Nat.le_refl _, fun h => h⟩
  | some gp =>
    obtain ⟨g, p⟩ := gp
    obtain ⟨rfl, rfl, hg⟩ := w
    obtain ⟨g', u', rfl, hg', hu⟩ := has_any hv
    simp only [opn] at e
    split at e
    · rename_i q
      cases e
      subst q
      exact ⟨hu, by simp [ht], fun h => by unfold sm at h; exact h⟩
    · cases e
theorem cls_kp {t : Option Ty} {b s : Ty} {v w : Va} (h : wtT t b s) (hk : kp s v w) : kp b v (cls t w) := by
  cases t with
  | none => obtain ⟨rfl, _⟩ := h; exact hk
  | some g =>
    obtain ⟨rfl, rfl, hg⟩ := h
    exact ⟨by simp only [cls, has]; exact ⟨hg, hk.1⟩, by simp only [cls]; unfold sm; exact hk.2.1, by simp only [cls, ht]; exact hk.2.2⟩
theorem bend_kp : ∀ (c : Co) (a b : Ty) (v w : Va), wt c a b → has a v → sm v → bendV c v = some w → kp b v w
  | .nothing, a, b, v, w, h, hv, hs, e => by
    obtain ⟨rfl, rfl⟩ := h
    simp [bendV] at e
    subst e
    exact ⟨hv, hs, Nat.le_refl _⟩
  | .fail _ _, a, b, v, w, h, hv, hs, e => by simp [bendV] at e
  | .plain hh t, a, b, v, w, h, hv, hs, e => by
    obtain ⟨s, h1, h2, h3⟩ := h
    simp only [bendV] at e
    obtain ⟨u, e1, rfl⟩ := Option.map_eq_some_iff.mp e
    obtain ⟨q1, q2, q3⟩ := opn_has h1 hv e1
    exact cls_kp h2 ⟨q1, q3 hs, q2⟩
  | .pair hh c d t, a, b, v, w, h, hv, hs, e => by
    obtain ⟨a1, a2, b1, b2, h1, h2, h3, h4⟩ := h
    simp only [bendV] at e
    obtain ⟨u, e1, e2⟩ := Option.bind_eq_some_iff.mp e
    obtain ⟨q1, q2, q3⟩ := opn_has h1 hv e1
    obtain ⟨x, y, rfl, k1, k2⟩ := has_pair q1
    have hs2 := q3 hs
    unfold sm at hs2
    simp only at e2
    obtain ⟨x', e3, e4⟩ := Option.bind_eq_some_iff.mp e2
    obtain ⟨y', e5, rfl⟩ := Option.map_eq_some_iff.mp e4
    obtain ⟨p1, p2, p3⟩ := bend_kp c a1 b1 x x' h3 k1 hs2.1 e3
    obtain ⟨r1, r2, r3⟩ := bend_kp d a2 b2 y y' h4 k2 hs2.2 e5
    simp only [ht] at q2
    exact cls_kp h2 ⟨by simp only [has]; exact ⟨p1, r1⟩, by unfold sm; exact ⟨p2, r2⟩, by simp only [ht]; omega⟩
  | .list hh c t, a, b, v, w, h, hv, hs, e => by
    obtain ⟨a1, b1, h1, h2, h3⟩ := h
    simp only [bendV] at e
    obtain ⟨u, e1, e2⟩ := Option.bind_eq_some_iff.mp e
    obtain ⟨q1, q2, q3⟩ := opn_has h1 hv e1
    obtain ⟨xs, rfl, k1⟩ := has_list q1
    have hs2 := q3 hs
    unfold sm at hs2
    simp only at e2
    obtain ⟨ys, e3, rfl⟩ := Option.map_eq_some_iff.mp e2
    obtain ⟨p1, p2, p3, p4⟩ := mapO_kp (a := a1) (c := b1) (fun x r m e => bend_kp c a1 b1 x r h3 (hasL_mem k1 x m) (smL_mem hs2.2 x m) e) e3
    simp only [ht] at q2
    exact cls_kp h2 ⟨by simp only [has]; exact p1, by unfold sm; exact ⟨by rw [p4]; exact hs2.1, p2⟩, by simp only [ht]; omega⟩
/-! a cast's coercion does what the cast does -/
theorem up_wt : ∀ k, wt (up k) k .any
  | .any => ⟨rfl, rfl⟩
  | .int => ⟨.int, ⟨rfl, by simp⟩, ⟨rfl, rfl, trivial⟩, .inl rfl⟩
  | .bool => ⟨.bool, ⟨rfl, by simp⟩, ⟨rfl, rfl, trivial⟩, .inr rfl⟩
  | .pair a b => ⟨a, b, .any, .any, ⟨rfl, by simp⟩, ⟨rfl, rfl, trivial⟩, up_wt a, up_wt b⟩
  | .list a => ⟨a, .any, ⟨rfl, by simp⟩, ⟨rfl, rfl, trivial⟩, up_wt a⟩
theorem dn_wt (p : Nn) : ∀ k, wt (dn p k) .any k
  | .any => ⟨rfl, rfl⟩
  | .int => ⟨.int, ⟨rfl, rfl, trivial⟩, ⟨rfl, by simp⟩, .inl rfl⟩
  | .bool => ⟨.bool, ⟨rfl, rfl, trivial⟩, ⟨rfl, by simp⟩, .inr rfl⟩
  | .pair a b => ⟨.any, .any, a, b, ⟨rfl, rfl, trivial⟩, ⟨rfl, by simp⟩, dn_wt p a, dn_wt p b⟩
  | .list a => ⟨.any, a, ⟨rfl, rfl, trivial⟩, ⟨rfl, by simp⟩, dn_wt p a⟩
theorem ofc_wt (p : Nn) : ∀ k d, alk k d = true → wt (ofc p k d) k d
  | .any, d, _ => by simp only [ofc]; exact dn_wt p d
  | .int, d, al => by
    cases d <;> simp [alk] at al <;> simp only [ofc]
    · exact up_wt .int
    · exact ⟨.int, ⟨rfl, by simp⟩, ⟨rfl, by simp⟩, .inl rfl⟩
  | .bool, d, al => by
    cases d <;> simp [alk] at al <;> simp only [ofc]
    · exact up_wt .bool
    · exact ⟨.bool, ⟨rfl, by simp⟩, ⟨rfl, by simp⟩, .inr rfl⟩
  | .pair a b, d, al => by
    cases d with
    | any => simp only [ofc]; exact up_wt _
    | pair c d =>
      simp only [alk, Bool.and_eq_true] at al
      simp only [ofc]
      exact ⟨a, b, c, d, ⟨rfl, by simp⟩, ⟨rfl, by simp⟩, ofc_wt p a c al.1, ofc_wt p b d al.2⟩
    | _ => simp [alk] at al
  | .list a, d, al => by
    cases d with
    | any => simp only [ofc]; exact up_wt _
    | list c =>
      simp only [alk] at al
      simp only [ofc]
      exact ⟨a, c, ⟨rfl, by simp⟩, ⟨rfl, by simp⟩, ofc_wt p a c al⟩
    | _ => simp [alk] at al
theorem up_bend : ∀ k v, has k v → bendV (up k) v = some (toAny k v)
  | .any, v, h => by simp [up, bendV, toAny]
  | .int, v, h => by simp [up, bendV, toAny, opn, cls]
  | .bool, v, h => by simp [up, bendV, toAny, opn, cls]
  | .pair a b, v, h => by
    obtain ⟨x, y, rfl, h1, h2⟩ := has_pair h
    simp [up, bendV, toAny, opn, cls, up_bend a x h1, up_bend b y h2]
  | .list a, v, h => by
    obtain ⟨xs, rfl, h1⟩ := has_list h
    have : mapO (bendV (up a)) xs = some (xs.map (toAny a)) := by
      rw [← mapO_some (g := id)]
      exact mapO_congr fun x m => up_bend a x (hasL_mem h1 x m)
    simp [up, bendV, toAny, opn, cls, this]
theorem dn_bend (p : Nn) : ∀ k v, has .any v → bendV (dn p k) v = down k v
  | .any, v, h => by simp [dn, bendV, down]
  | .int, v, h => by
    obtain ⟨g, u, rfl, hg, hu⟩ := has_any h
    cases g <;> first | exact hg.elim | simp [dn, bendV, down, opn, cls]
  | .bool, v, h => by
    obtain ⟨g, u, rfl, hg, hu⟩ := has_any h
    cases g <;> first | exact hg.elim | simp [dn, bendV, down, opn, cls]
  | .pair a b, v, h => by
    obtain ⟨g, u, rfl, hg, hu⟩ := has_any h
    cases g with
    | pair a' b' =>
      have : a' = .any ∧ b' = .any := by cases a' <;> cases b' <;> first | exact hg.elim | exact ⟨rfl, rfl⟩
      obtain ⟨rfl, rfl⟩ := this
      obtain ⟨x, y, rfl, h1, h2⟩ := has_pair hu
      simp [dn, bendV, down, opn, cls, dn_bend p a x h1, dn_bend p b y h2]
    | any => exact hg.elim
    | _ => simp [dn, bendV, down, opn]
  | .list a, v, h => by
    obtain ⟨g, u, rfl, hg, hu⟩ := has_any h
    cases g with
    | list a' =>
      have : a' = .any := by cases a' <;> first | exact hg.elim | rfl
      subst this
      obtain ⟨xs, rfl, h1⟩ := has_list hu
      have : mapO (bendV (dn p a)) xs = mapO (down a) xs := mapO_congr fun x m => dn_bend p a x (hasL_mem h1 x m)
      simp [dn, bendV, down, opn, cls, this]
      try rfl
    | any => exact hg.elim
    | _ => simp [dn, bendV, down, opn]
theorem ofc_bend (p : Nn) : ∀ k d v, alk k d = true → has k v → bendV (ofc p k d) v = cast k d v
  | .any, d, v, _, h => by simp only [ofc, cast]; exact dn_bend p d v h
  | .int, d, v, al, h => by
    cases d <;> simp [alk] at al <;> simp only [ofc]
    · rw [up_any _ v h]; exact up_bend .int v h
    · simp [bendV, cast, opn]; rfl
  | .bool, d, v, al, h => by
    cases d <;> simp [alk] at al <;> simp only [ofc]
    · rw [up_any _ v h]; exact up_bend .bool v h
    · simp [bendV, cast, opn]; rfl
  | .pair a b, d, v, al, h => by
    cases d with
    | any => simp only [ofc]; rw [up_any _ v h]; exact up_bend _ v h
    | pair c d =>
      simp only [alk, Bool.and_eq_true] at al
      obtain ⟨x, y, rfl, h1, h2⟩ := has_pair h
      simp [ofc, bendV, cast, opn, cls, ofc_bend p a c x al.1 h1, ofc_bend p b d y al.2 h2]
    | _ => simp [alk] at al
  | .list a, d, v, al, h => by
    cases d with
    | any => simp only [ofc]; rw [up_any _ v h]; exact up_bend _ v h
    | list c =>
      simp only [alk] at al
      obtain ⟨xs, rfl, h1⟩ := has_list h
      have : mapO (bendV (ofc p a c)) xs = mapO (cast a c) xs := mapO_congr fun x m => ofc_bend p a c x al (hasL_mem h1 x m)
      simp [ofc, bendV, cast, opn, cls, this]
      try rfl
    | _ => simp [alk] at al
end K96

namespace K96
open DV L2 PySem PySem.Spec PyProof.Rows
def hC : Co → Nat
  | .pair _ c d _ => max (hC c) (hC d) + 1
  | .list _ c _ => hC c + 1
  | _ => 0
theorem isG_dep {g : Ty} (hg : isG g) : dep g ≤ 1 := by
  cases g with
  | pair a b => cases a <;> cases b <;> first | exact hg.elim | simp [dep]
  | list a => cases a <;> first | exact hg.elim | simp [dep]
  | _ => simp [dep]
theorem okN_nD {p : Nn} : okN (nD p) 2 := by
  refine okN.tup (n := 1) fun x m => ?_
  simp only [List.mem_cons, List.not_mem_nil, or_false] at m
  rcases m with rfl | rfl
  · refine okN.tup (n := 0) fun x m => ?_
    simp only [List.mem_cons, List.not_mem_nil, or_false] at m
    subst m
    exact .int
  · exact .bl
theorem okN_enc {t : Ty} : okN (enc t) (dep t + 1) := ⟨enc_lay t, by rw [enc_dep]; exact Nat.le_refl _⟩
theorem okN_H {h : Hd} {a s : Ty} (w : wtS h a s) : okN (encH h) 3 := by
  cases h with
  | none => exact .non
  | some gp =>
    obtain ⟨g, p⟩ := gp
    obtain ⟨_, _, hg⟩ := w
    refine okN.tup (n := 2) fun x m => ?_
    simp only [List.mem_cons, List.not_mem_nil, or_false] at m
    rcases m with rfl | rfl
    · exact okN_enc.mono (by have := isG_dep hg; omega)
    · exact okN_nD
theorem okN_T {t : Option Ty} {b s : Ty} (w : wtT t b s) : okN (encO t) 2 := by
  cases t with
  | none => exact .non
  | some g =>
    obtain ⟨_, _, hg⟩ := w
    exact okN_enc.mono (by have := isG_dep hg; omega)
theorem okN_C : ∀ (c : Co) (a b : Ty), wt c a b → okN (encC c) (2 * hC c + 4)
  | .nothing, a, b, h => (okN.tup (n := 0) fun x m => by
      simp only [List.mem_cons, List.not_mem_nil, or_false] at m
      subst m
      exact .str (by decide +kernel)).mono (by omega)
  | .fail hh p, a, b, ⟨s, h⟩ => (okN.tup (n := 3) fun x m => by
      simp only [List.mem_cons, List.not_mem_nil, or_false] at m
      rcases m with rfl | rfl | rfl
      · exact .str (by decide +kernel)
      · exact okN_H h
      · exact okN_nD.mono (by omega)).mono (by omega)
  | .plain hh t, a, b, ⟨s, h1, h2, _⟩ => (okN.tup (n := 3) fun x m => by
      simp only [List.mem_cons, List.not_mem_nil, or_false] at m
      rcases m with rfl | rfl | rfl | rfl
      · exact .str (by decide +kernel)
      · exact okN_H h1
      · exact okN.tup (n := 2) fun x m => by
          simp only [List.mem_cons, List.not_mem_nil, or_false] at m
          subst m
          exact .str (by decide +kernel)
      · exact (okN_T h2).mono (by omega)).mono (by omega)
  | .pair hh c d t, a, b, ⟨a1, a2, b1, b2, h1, h2, h3, h4⟩ => by
    have p1 := okN_C c a1 b1 h3
    have p2 := okN_C d a2 b2 h4
    simp only [hC]
    refine (okN.tup (n := 2 * max (hC c) (hC d) + 5) fun x m => ?_).mono (by omega)
    simp only [List.mem_cons, List.not_mem_nil, or_false] at m
    rcases m with rfl | rfl | rfl | rfl
    · exact .str (by decide +kernel)
    · exact (okN_H h1).mono (by omega)
    · refine okN.tup (n := 2 * max (hC c) (hC d) + 4) fun x m => ?_
      simp only [List.mem_cons, List.not_mem_nil, or_false] at m
      rcases m with rfl | rfl | rfl
      · exact .str (by decide +kernel)
      · exact p1.mono (by omega)
      · exact p2.mono (by omega)
    · exact (okN_T h2).mono (by omega)
  | .list hh c t, a, b, ⟨a1, b1, h1, h2, h3⟩ => by
    have p1 := okN_C c a1 b1 h3
    simp only [hC]
    refine (okN.tup (n := 2 * hC c + 5) fun x m => ?_).mono (by omega)
    simp only [List.mem_cons, List.not_mem_nil, or_false] at m
    rcases m with rfl | rfl | rfl | rfl
    · exact .str (by decide +kernel)
    · exact (okN_H h1).mono (by omega)
    · refine okN.tup (n := 2 * hC c + 4) fun x m => ?_
      simp only [List.mem_cons, List.not_mem_nil, or_false] at m
      rcases m with rfl | rfl
      · exact .str (by decide +kernel)
      · exact p1.mono (by omega)
    · exact (okN_T h2).mono (by omega)
def isN : Co → Bool
  | .nothing => true
  | _ => false
theorem eq_no {c : Co} {a b : Ty} (w : wt c a b) (hh : hC c ≤ 25) : eqD (encC c) c_NOTHING = some (.bl (isN c)) := by
  have o := (okN_C c a b w).py (by omega)
  have o0 : okPy c_NOTHING = true := by decide +kernel
  have p := eqP_ok o o0
  have z : eqS (encC c) c_NOTHING = none := by cases c <;> rfl
  unfold eqD
  rw [z, p]
  cases c <;> simp [encC, c_NOTHING, toPy, toPyL, PyData.eqv, PyData.eqvAll, isN]
def jn : Option Ty → Hd → Option Nn
  | some g, some (g', p) => if g = g' then none else some p
  | _, _ => none
def hdC : Co → Hd
  | .nothing => none
  | .fail h _ => h
  | .plain h _ => h
  | .pair h _ _ _ => h
  | .list h _ _ => h
def tlC : Co → Option Ty
  | .plain _ t => t
  | .pair _ _ _ t => t
  | .list _ _ t => t
  | _ => none
def isT : Co → Prop
  | .plain _ _ => True
  | .pair _ _ _ _ => True
  | .list _ _ _ => True
  | _ => False
def midC : Co → D
  | .plain _ _ => .tup [.str "plain"]
  | .pair _ c d _ => .tup [.str "pair", encC c, encC d]
  | .list _ c _ => .tup [.str "list", encC c]
  | _ => .non
theorem encT {c : Co} (h : isT c) : encC c = .tup [.str "turn", encH (hdC c), midC c, encO (tlC c)] := by cases c <;> first | exact h.elim | rfl
def tog : Co → Co → Co
  | .nothing, d => d
  | .fail h p, .nothing => .fail h p
  | .plain h t, .nothing => .plain h t
  | .pair h c d t, .nothing => .pair h c d t
  | .list h c t, .nothing => .list h c t
  | .fail h p, _ => .fail h p
  | .plain h t, .fail h' p' => .fail h ((jn t h').getD p')
  | .pair h _ _ t, .fail h' p' => .fail h ((jn t h').getD p')
  | .list h _ t, .fail h' p' => .fail h ((jn t h').getD p')
  | .plain h t, .plain h' t' => match jn t h' with
    | some p => .fail h p
    | none => .plain h t'
  | .pair h c d t, .pair h' c' d' t' => match jn t h' with
    | some p => .fail h p
    | none => .pair h (tog c c') (tog d d') t'
  | .list h c t, .list h' c' t' => match jn t h' with
    | some p => .fail h p
    | none => .list h (tog c c') t'
  | .plain h t, .pair h' _ _ _ => .fail h ((jn t h').getD (0, true))
  | .plain h t, .list h' _ _ => .fail h ((jn t h').getD (0, true))
  | .pair h _ _ t, .plain h' _ => .fail h ((jn t h').getD (0, true))
  | .pair h _ _ t, .list h' _ _ => .fail h ((jn t h').getD (0, true))
  | .list h _ t, .plain h' _ => .fail h ((jn t h').getD (0, true))
  | .list h _ t, .pair h' _ _ _ => .fail h ((jn t h').getD (0, true))
/-- where one coercion ends and the next begins -/
theorem jn_none {t : Option Ty} {h : Hd} {b s s' : Ty} (w1 : wtT t b s) (w2 : wtS h b s') (e : jn t h = none) : s = s' ∧ ∀ u, opn h (cls t u) = some u := by
  cases t with
  | none =>
    cases h with
    | none => obtain ⟨rfl, _⟩ := w1; obtain ⟨rfl, _⟩ := w2; exact ⟨rfl, fun u => rfl⟩
    | some gp => obtain ⟨rfl, hb⟩ := w1; obtain ⟨e1, _⟩ := w2; exact absurd e1 hb
  | some g =>
    obtain ⟨rfl, rfl, hg⟩ := w1
    cases h with
    | none => obtain ⟨rfl, hb⟩ := w2; exact absurd rfl hb
    | some gp =>
      obtain ⟨g', p⟩ := gp
      obtain ⟨_, rfl, hg'⟩ := w2
      simp only [jn] at e
      split at e
      · rename_i q
        subst q
        exact ⟨rfl, fun u => by simp [cls, opn]⟩
      · cases e
theorem jn_some {t : Option Ty} {h : Hd} {p : Nn} (e : jn t h = some p) : ∀ u, opn h (cls t u) = none := by
  cases t with
  | none => simp [jn] at e
  | some g =>
    cases h with
    | none => simp [jn] at e
    | some gp =>
      obtain ⟨g', p'⟩ := gp
      simp only [jn] at e
      split at e
      · cases e
      · rename_i q
        intro u
        simp [cls, opn, q]
theorem jn_diff {t : Option Ty} {h : Hd} {b s s' : Ty} (w1 : wtT t b s) (w2 : wtS h b s') (hs : s ≠ s') : ∃ p, jn t h = some p := by
  cases e : jn t h with
  | none => exact absurd (jn_none w1 w2 e).1 hs
  | some p => exact ⟨p, rfl⟩
theorem bend_opn {c : Co} {v : Va} (h : c ≠ .nothing) (e : opn (hdC c) v = none) : bendV c v = none := by
  cases c with
  | nothing => exact absurd rfl h
  | _ => simp only [hdC] at e; simp [bendV, e]
/-- the tag put on does not go through the next look -/
theorem bend_off {c d : Co} {v : Va} {p : Nn} (hc : isT c) (hd : d ≠ .nothing) (e : jn (tlC c) (hdC d) = some p) : (bendV c v).bind (bendV d) = none := by
  have k := jn_some e
  have key : ∀ u, bendV d (cls (tlC c) u) = none := fun u => bend_opn hd (k u)
  cases c with
  | nothing => exact hc.elim
  | fail => exact hc.elim
  | plain h t =>
    simp only [bendV]
    cases opn h v with
    | none => rfl
    | some u => exact key u
  | pair h c1 c2 t =>
    simp only [bendV]
    cases opn h v with
    | none => rfl
    | some u =>
      cases u with
      | pair x y =>
        simp only [Option.bind_some]
        cases bendV c1 x with
        | none => rfl
        | some x' =>
          cases bendV c2 y with
          | none => rfl
          | some y' => exact key _
      | _ => rfl
  | list h c1 t =>
    simp only [bendV]
    cases opn h v with
    | none => rfl
    | some u =>
      cases u with
      | items xs =>
        simp only [Option.bind_some]
        cases mapO (bendV c1) xs with
        | none => rfl
        | some ys => exact key _
      | _ => rfl
theorem bend_fail {c : Co} {h : Hd} {p : Nn} {v : Va} : (bendV c v).bind (bendV (.fail h p)) = none := by
  cases bendV c v <;> rfl
theorem mapO_bind {f g k : Va → Option Va} : ∀ {xs : List Va}, (∀ x ∈ xs, k x = (f x).bind g) → mapO k xs = (mapO f xs).bind (mapO g)
  | [], _ => rfl
  | x :: xs, h => by
    have e := h x List.mem_cons_self
    have ih := mapO_bind (f := f) (g := g) (k := k) (xs := xs) fun y m => h y (List.mem_cons_of_mem _ m)
    simp only [mapO, e, ih]
    cases f x with
    | none => rfl
    | some y =>
      simp only [Option.bind_some]
      cases hm : mapO f xs with
      | none => cases g y <;> rfl
      | some ys => simp only [Option.bind_some, Option.map_some, mapO]
theorem tog_wt : ∀ (c d : Co) (a b e : Ty), wt c a b → wt d b e → wt (tog c d) a e ∧ hC (tog c d) ≤ max (hC c) (hC d)
  | .nothing, d, a, b, e, h1, h2 => by
    obtain ⟨rfl, rfl⟩ := h1
    simp only [tog]
    exact ⟨h2, by omega⟩
  | .fail h p, d, a, b, e, h1, h2 => by cases d <;> (simp only [tog]; exact ⟨h1, by simp [hC]⟩)
  | .plain h t, d, a, b, e, ⟨s, w1, w2, w3⟩, h2 => by
    cases d with
    | nothing => obtain ⟨rfl, rfl⟩ := h2; simp only [tog]; exact ⟨⟨s, w1, w2, w3⟩, by simp [hC]⟩
    | plain h' t' =>
      obtain ⟨s', v1, v2, v3⟩ := h2
      simp only [tog]
      cases hj : jn t h' with
      | some p => exact ⟨⟨s, w1⟩, by simp [hC]⟩
      | none =>
        obtain ⟨rfl, _⟩ := jn_none w2 v1 hj
        exact ⟨⟨s, w1, v2, w3⟩, by simp [hC]⟩
    | _ => simp only [tog]; exact ⟨⟨s, w1⟩, by simp [hC]⟩
  | .pair h c1 c2 t, d, a, b, e, ⟨a1, a2, b1, b2, w1, w2, w3, w4⟩, h2 => by
    cases d with
    | nothing => obtain ⟨rfl, rfl⟩ := h2; simp only [tog]; exact ⟨⟨a1, a2, b1, b2, w1, w2, w3, w4⟩, by omega⟩
    | pair h' d1 d2 t' =>
      obtain ⟨a1', a2', b1', b2', v1, v2, v3, v4⟩ := h2
      simp only [tog]
      cases hj : jn t h' with
      | some p => exact ⟨⟨_, w1⟩, by simp [hC]⟩
      | none =>
        obtain ⟨q, _⟩ := jn_none w2 v1 hj
        cases q
        obtain ⟨i1, j1⟩ := tog_wt c1 d1 a1 b1 b1' w3 v3
        obtain ⟨i2, j2⟩ := tog_wt c2 d2 a2 b2 b2' w4 v4
        exact ⟨⟨a1, a2, b1', b2', w1, v2, i1, i2⟩, by simp only [hC]; omega⟩
    | _ => simp only [tog]; exact ⟨⟨_, w1⟩, by simp [hC]⟩
  | .list h c1 t, d, a, b, e, ⟨a1, b1, w1, w2, w3⟩, h2 => by
    cases d with
    | nothing => obtain ⟨rfl, rfl⟩ := h2; simp only [tog]; exact ⟨⟨a1, b1, w1, w2, w3⟩, by omega⟩
    | list h' d1 t' =>
      obtain ⟨a1', b1', v1, v2, v3⟩ := h2
      simp only [tog]
      cases hj : jn t h' with
      | some p => exact ⟨⟨_, w1⟩, by simp [hC]⟩
      | none =>
        obtain ⟨q, _⟩ := jn_none w2 v1 hj
        cases q
        obtain ⟨i1, j1⟩ := tog_wt c1 d1 a1 b1 b1' w3 v3
        exact ⟨⟨a1, b1', w1, v2, i1⟩, by simp only [hC]; omega⟩
    | _ => simp only [tog]; exact ⟨⟨_, w1⟩, by simp [hC]⟩
theorem tog_bend : ∀ (c d : Co) (a b e : Ty) (v : Va), wt c a b → wt d b e → has a v → bendV (tog c d) v = (bendV c v).bind (bendV d)
  | .nothing, d, a, b, e, v, h1, h2, hv => by simp [tog, bendV]
  | .fail h p, d, a, b, e, v, h1, h2, hv => by cases d <;> simp [tog, bendV]
  | .plain h t, d, a, b, e, v, ⟨s, w1, w2, w3⟩, h2, hv => by
    cases d with
    | nothing => simp only [tog]; cases bendV (.plain h t) v <;> rfl
    | fail h' p' => simp only [tog]; rw [bend_fail]; rfl
    | plain h' t' =>
      obtain ⟨s', v1, v2, v3⟩ := h2
      cases hj : jn t h' with
      | some p => simp only [tog, hj]; rw [bend_off (c := .plain h t) (d := .plain h' t') trivial (by simp) hj]; rfl
      | none =>
        obtain ⟨_, k⟩ := jn_none w2 v1 hj
        simp only [tog, hj, bendV]
        cases opn h v with
        | none => rfl
        | some u => simp [k u, bendV]
    | pair h' d1 d2 t' =>
      obtain ⟨a1', a2', b1', b2', v1, v2, v3, v4⟩ := h2
      obtain ⟨p, hj⟩ := jn_diff w2 v1 (by rcases w3 with rfl | rfl <;> simp)
      simp only [tog]; rw [bend_off (c := .plain h t) (d := .pair h' d1 d2 t') trivial (by simp) hj]; rfl
    | list h' d1 t' =>
      obtain ⟨a1', b1', v1, v2, v3⟩ := h2
      obtain ⟨p, hj⟩ := jn_diff w2 v1 (by rcases w3 with rfl | rfl <;> simp)
      simp only [tog]; rw [bend_off (c := .plain h t) (d := .list h' d1 t') trivial (by simp) hj]; rfl
  | .pair h c1 c2 t, d, a, b, e, v, ⟨a1, a2, b1, b2, w1, w2, w3, w4⟩, h2, hv => by
    cases d with
    | nothing => simp only [tog]; cases bendV (.pair h c1 c2 t) v <;> rfl
    | fail h' p' => simp only [tog]; rw [bend_fail]; rfl
    | plain h' t' =>
      obtain ⟨s', v1, v2, v3⟩ := h2
      obtain ⟨p, hj⟩ := jn_diff w2 v1 (by rcases v3 with rfl | rfl <;> simp)
      simp only [tog]; rw [bend_off (c := .pair h c1 c2 t) (d := .plain h' t') trivial (by simp) hj]; rfl
    | pair h' d1 d2 t' =>
      obtain ⟨a1', a2', b1', b2', v1, v2, v3, v4⟩ := h2
      cases hj : jn t h' with
      | some p => simp only [tog, hj]; rw [bend_off (c := .pair h c1 c2 t) (d := .pair h' d1 d2 t') trivial (by simp) hj]; rfl
      | none =>
        obtain ⟨q, k⟩ := jn_none w2 v1 hj
        cases q
        simp only [tog, hj, bendV]
        cases ho : opn h v with
        | none => rfl
        | some u =>
          obtain ⟨q1, _, _⟩ := opn_has w1 hv ho
          obtain ⟨x, y, rfl, k1, k2⟩ := has_pair q1
          simp only [Option.bind_some, tog_bend c1 d1 a1 b1 b1' x w3 v3 k1, tog_bend c2 d2 a2 b2 b2' y w4 v4 k2]
          cases h1 : bendV c1 x with
          | none => rfl
          | some x' =>
            cases h2 : bendV c2 y with
            | none => simp
            | some y' => simp [k, bendV]
    | list h' d1 t' =>
      obtain ⟨a1', b1', v1, v2, v3⟩ := h2
      obtain ⟨p, hj⟩ := jn_diff w2 v1 (by simp)
      simp only [tog]; rw [bend_off (c := .pair h c1 c2 t) (d := .list h' d1 t') trivial (by simp) hj]; rfl
  | .list h c1 t, d, a, b, e, v, ⟨a1, b1, w1, w2, w3⟩, h2, hv => by
    cases d with
    | nothing => simp only [tog]; cases bendV (.list h c1 t) v <;> rfl
    | fail h' p' => simp only [tog]; rw [bend_fail]; rfl
    | plain h' t' =>
      obtain ⟨s', v1, v2, v3⟩ := h2
      obtain ⟨p, hj⟩ := jn_diff w2 v1 (by rcases v3 with rfl | rfl <;> simp)
      simp only [tog]; rw [bend_off (c := .list h c1 t) (d := .plain h' t') trivial (by simp) hj]; rfl
    | pair h' d1 d2 t' =>
      obtain ⟨a1', a2', b1', b2', v1, v2, v3, v4⟩ := h2
      obtain ⟨p, hj⟩ := jn_diff w2 v1 (by simp)
      simp only [tog]; rw [bend_off (c := .list h c1 t) (d := .pair h' d1 d2 t') trivial (by simp) hj]; rfl
    | list h' d1 t' =>
      obtain ⟨a1', b1', v1, v2, v3⟩ := h2
      cases hj : jn t h' with
      | some p => simp only [tog, hj]; rw [bend_off (c := .list h c1 t) (d := .list h' d1 t') trivial (by simp) hj]; rfl
      | none =>
        obtain ⟨q, k⟩ := jn_none w2 v1 hj
        cases q
        simp only [tog, hj, bendV]
        cases ho : opn h v with
        | none => rfl
        | some u =>
          obtain ⟨q1, _, _⟩ := opn_has w1 hv ho
          obtain ⟨xs, rfl, k1⟩ := has_list q1
          have := mapO_bind (f := bendV c1) (g := bendV d1) (k := bendV (tog c1 d1)) (xs := xs) fun x m => tog_bend c1 d1 a1 b1 b1' x w3 v3 (hasL_mem k1 x m)
          simp only [Option.bind_some, this]
          cases h1 : mapO (bendV c1) xs with
          | none => rfl
          | some ys => simp [k, bendV]
end K96

namespace K96
open DV L2 PySem PySem.Spec PyProof.Rows
theorem isNon_enc (t : Ty) : DV.isNon (enc t) = false := by obtain ⟨xs, e⟩ := enc_tup t; rw [e]; rfl
theorem enc0 {c : Co} (h : isT c) : ixD (encC c) (.int 0) = some (.str "turn") := by rw [encT h]; simp
theorem enc1 {c : Co} (h : isT c) : ixD (encC c) (.int 1) = some (encH (hdC c)) := by rw [encT h]; simp
theorem enc2 {c : Co} (h : isT c) : ixD (encC c) (.int 2) = some (midC c) := by rw [encT h]; simp
theorem enc3 {c : Co} (h : isT c) : ixD (encC c) (.int 3) = some (encO (tlC c)) := by rw [encT h]; simp
@[simp] theorem encf0 {h p} : ixD (encC (.fail h p)) (.int 0) = some (.str "fail") := by simp [encC]
@[simp] theorem encf1 {h p} : ixD (encC (.fail h p)) (.int 1) = some (encH h) := by simp [encC]
@[simp] theorem encf2 {h p} : ixD (encC (.fail h p)) (.int 2) = some (nD p) := by simp [encC]
/-- the tag put on by c and the next head -/
def gT_ (t : Option Ty) (h : Hd) : Prop := (∀ g, t = some g → dep g ≤ 1) ∧ ∀ g p, h = some (g, p) → dep g ≤ 1
theorem fb_ok {n : Nat} {c : Co} {h' : Hd} {p' : Nn} (hc : isT c) (hg : gT_ (tlC c) h') : G (n + 1) .f_fail_behind [encC c, encC (.fail h' p')] = some (encC (.fail (hdC c) ((jn (tlC c) h').getD p')), false, []) := by
  have a1 := enc1 hc
  have a3 := enc3 hc
  rw [G_succ]
  cases ht : tlC c with
  | none =>
    rw [ht] at a3
    simp [bd, at_run, b_fail_behind, a1, a3, jn, encC]
  | some g =>
    rw [ht] at a3
    have g0 := isNon_enc g
    cases h' with
    | none => simp [bd, at_run, b_fail_behind, a1, a3, jn, encC, g0, encH]
    | some gp =>
      obtain ⟨g', p⟩ := gp
      have q := ne_enc (a := g) (b := g') (by have := hg.1 g ht; omega) (by have := hg.2 g' p rfl; omega)
      have hn : DV.isNon (.tup [enc g', nD p]) = false := rfl
      by_cases e : g = g'
      · subst e
        simp only [decide_true, Bool.not_true] at q
        simp [bd, at_run, b_fail_behind, a1, a3, jn, encC, g0, encH, hn, q]
      · simp only [e, decide_false, Bool.not_false] at q
        simp [bd, at_run, b_fail_behind, a1, a3, jn, encC, g0, encH, hn, q, e]
theorem gT_of {c d : Co} {a b e : Ty} (hc : isT c) (h1 : wt c a b) (h2 : wt d b e) : gT_ (tlC c) (hdC d) := by
  refine ⟨fun g hg => ?_, fun g p hg => ?_⟩
  · cases c with
    | plain h t => obtain ⟨s, w1, w2, w3⟩ := h1; simp only [tlC] at hg; subst hg; exact isG_dep w2.2.2
    | pair h c1 c2 t => obtain ⟨a1, a2, b1, b2, w1, w2, _⟩ := h1; simp only [tlC] at hg; subst hg; exact isG_dep w2.2.2
    | list h c1 t => obtain ⟨a1, b1, w1, w2, _⟩ := h1; simp only [tlC] at hg; subst hg; exact isG_dep w2.2.2
    | _ => exact hc.elim
  · cases d with
    | nothing => simp [hdC] at hg
    | fail h p => obtain ⟨s, w⟩ := h2; simp only [hdC] at hg; subst hg; exact isG_dep w.2.2
    | plain h t => obtain ⟨s, w1, w2, w3⟩ := h2; simp only [hdC] at hg; subst hg; exact isG_dep w1.2.2
    | pair h c1 c2 t => obtain ⟨a1, a2, b1, b2, w1, w2, _⟩ := h2; simp only [hdC] at hg; subst hg; exact isG_dep w1.2.2
    | list h c1 t => obtain ⟨a1, b1, w1, w2, _⟩ := h2; simp only [hdC] at hg; subst hg; exact isG_dep w1.2.2
/-- a turn and then a turn -/
theorem tt_ok {n : Nat} {c d : Co} {a b e : Ty} (hc : isT c) (hd : isT d) (h1 : wt c a b) (h2 : wt d b e) (k1 : hC c ≤ 25) (k2 : hC d ≤ 25) :
    (∀ p, jn (tlC c) (hdC d) = some p → G (n + 1) .f_together [encC c, encC d] = some (encC (.fail (hdC c) p), false, [])) ∧
    (jn (tlC c) (hdC d) = none → ∀ m, G n .f_middles [midC c, midC d] = some (m, false, []) → G (n + 1) .f_together [encC c, encC d] = some (.tup [.str "turn", encH (hdC c), m, encO (tlC d)], false, [])) := by
  have hg := gT_of hc h1 h2
  have q1 := eq_no h1 k1
  have q2 := eq_no h2 k2
  have n1 : isN c = false := by cases c <;> first | exact hc.elim | rfl
  have n2 : isN d = false := by cases d <;> first | exact hd.elim | rfl
  rw [n1] at q1
  rw [n2] at q2
  have a0 := enc0 hc
  have a1 := enc1 hc
  have a2 := enc2 hc
  have a3 := enc3 hc
  have b0 := enc0 hd
  have b1 := enc1 hd
  have b2 := enc2 hd
  have b3 := enc3 hd
  cases ht : tlC c with
  | none =>
    rw [ht] at a3
    refine ⟨fun p hp => by simp [jn] at hp, fun _ m hm => ?_⟩
    rw [G_succ]
    simp [bd, at_run, b_together, q1, q2, a0, a1, a2, a3, b0, b1, b2, b3, strOf_inj, hm]
  | some g =>
    rw [ht] at a3
    have g0 := isNon_enc g
    cases hh : hdC d with
    | none =>
      exfalso
      cases c with
      | plain h t => obtain ⟨s, w1, w2, w3⟩ := h1; simp only [tlC] at ht; subst ht; obtain ⟨rfl, _⟩ := w2
                     cases d <;> first | exact hd.elim | skip
                     · obtain ⟨s', v1, _⟩ := h2; simp only [hdC] at hh; subst hh; exact v1.2 rfl
                     · obtain ⟨_, _, _, _, v1, _⟩ := h2; simp only [hdC] at hh; subst hh; exact v1.2 rfl
                     · obtain ⟨_, _, v1, _⟩ := h2; simp only [hdC] at hh; subst hh; exact v1.2 rfl
      | pair h c1 c2 t => obtain ⟨_, _, _, _, w1, w2, w3⟩ := h1; simp only [tlC] at ht; subst ht; obtain ⟨rfl, _⟩ := w2
                          cases d <;> first | exact hd.elim | skip
                          · obtain ⟨s', v1, _⟩ := h2; simp only [hdC] at hh; subst hh; exact v1.2 rfl
                          · obtain ⟨_, _, _, _, v1, _⟩ := h2; simp only [hdC] at hh; subst hh; exact v1.2 rfl
                          · obtain ⟨_, _, v1, _⟩ := h2; simp only [hdC] at hh; subst hh; exact v1.2 rfl
      | list h c1 t => obtain ⟨_, _, w1, w2, w3⟩ := h1; simp only [tlC] at ht; subst ht; obtain ⟨rfl, _⟩ := w2
                       cases d <;> first | exact hd.elim | skip
                       · obtain ⟨s', v1, _⟩ := h2; simp only [hdC] at hh; subst hh; exact v1.2 rfl
                       · obtain ⟨_, _, _, _, v1, _⟩ := h2; simp only [hdC] at hh; subst hh; exact v1.2 rfl
                       · obtain ⟨_, _, v1, _⟩ := h2; simp only [hdC] at hh; subst hh; exact v1.2 rfl
      | _ => exact hc.elim
    | some gp =>
      obtain ⟨g', p⟩ := gp
      rw [hh] at b1
      have q := ne_enc (a := g) (b := g') (by have := hg.1 g ht; omega) (by have := hg.2 g' p hh; omega)
      by_cases e : g = g'
      · subst e
        simp only [decide_true, Bool.not_true] at q
        refine ⟨fun p hp => by simp [jn] at hp, fun _ m hm => ?_⟩
        rw [G_succ]
        simp only [encH] at b1
        simp [bd, at_run, b_together, q1, q2, a0, a1, a2, a3, b0, b1, b2, b3, strOf_inj, hm, g0, q]
      · simp only [e, decide_false, Bool.not_false] at q
        refine ⟨fun p' hp => ?_, fun hn => by simp [jn, e] at hn⟩
        simp [jn, e] at hp
        subst hp
        rw [G_succ]
        simp only [encH] at b1
        simp [bd, at_run, b_together, q1, q2, a0, a1, a2, a3, b0, b1, b2, b3, strOf_inj, g0, q, encC]
theorem no_l {n : Nat} {d : Co} {e : Ty} (h2 : wt d .any e) : G (n + 1) .f_together [encC .nothing, encC d] = some (encC d, false, []) := by
  have q1 := eq_no (c := .nothing) (a := .any) (b := .any) ⟨rfl, rfl⟩ (by simp [hC])
  rw [G_succ]
  simp [bd, at_run, b_together, q1, isN]
theorem no_r {n : Nat} {c : Co} {a b : Ty} (h1 : wt c a b) (k1 : hC c ≤ 25) (hc : isN c = false) : G (n + 1) .f_together [encC c, encC .nothing] = some (encC c, false, []) := by
  have q1 := eq_no h1 k1
  have q2 := eq_no (c := .nothing) (a := .any) (b := .any) ⟨rfl, rfl⟩ (by simp [hC])
  rw [hc] at q1
  rw [G_succ]
  simp [bd, at_run, b_together, q1, q2, isN]
theorem fail_l {n : Nat} {h : Hd} {p : Nn} {d : Co} {a b e : Ty} (h1 : wt (.fail h p) a b) (h2 : wt d b e) (k2 : hC d ≤ 25) : G (n + 1) .f_together [encC (.fail h p), encC d] = some (encC (.fail h p), false, []) := by
  have q1 := eq_no h1 (by simp [hC])
  have q2 := eq_no h2 k2
  rw [G_succ]
  cases hn : isN d <;> rw [hn] at q2 <;> simp [bd, at_run, b_together, q1, q2, isN]
theorem turn_fail {n : Nat} {h : Hd} {p : Nn} {c : Co} {a b e : Ty} (hc : isT c) (h1 : wt c a b) (h2 : wt (.fail h p) b e) (k1 : hC c ≤ 25) : G (n + 2) .f_together [encC c, encC (.fail h p)] = some (encC (.fail (hdC c) ((jn (tlC c) h).getD p)), false, []) := by
  have q1 := eq_no h1 k1
  have q2 := eq_no h2 (by simp [hC])
  have n1 : isN c = false := by cases c <;> first | exact hc.elim | rfl
  rw [n1] at q1
  have hg := gT_of hc h1 h2
  have f := fb_ok (n := n) (h' := h) (p' := p) hc hg
  have a0 := enc0 hc
  have a1 := enc1 hc
  rw [G_succ]
  simp [bd, at_run, b_together, q1, q2, isN, a0, a1, f, strOf_inj]
theorem together_ok : ∀ (n : Nat) (c d : Co) (a b e : Ty), wt c a b → wt d b e → hC c ≤ 25 → hC d ≤ 25 → 2 * hC c + 3 ≤ n → G n .f_together [encC c, encC d] = some (encC (tog c d), false, []) := by
  intro n
  induction n using Nat.strongRecOn with
  | ind n ih =>
    intro c d a b e h1 h2 k1 k2 hn
    obtain ⟨n, rfl⟩ : ∃ m, n = m + 3 := ⟨n - 3, by omega⟩
    cases c with
    | nothing => obtain ⟨rfl, rfl⟩ := h1; simp only [tog]; exact no_l h2
    | fail h p =>
      have := fail_l (n := n + 2) h1 h2 k2
      cases d <;> (simp only [tog]; exact this)
    | plain h t =>
      cases d with
      | nothing => simp only [tog]; exact no_r h1 k1 rfl
      | fail h' p' => simp only [tog]; exact turn_fail (n := n + 1) (c := .plain h t) trivial h1 h2 k1
      | plain h' t' =>
        obtain ⟨f1, f2⟩ := tt_ok (n := n + 2) (c := .plain h t) (d := .plain h' t') trivial trivial h1 h2 k1 k2
        simp only [tog]
        cases hj : jn t h' with
        | some p => exact f1 p hj
        | none =>
          refine f2 hj _ ?_
          rw [G_succ]
          simp [bd, at_run, b_middles, midC, strOf_inj]
      | pair h' d1 d2 t' =>
        obtain ⟨f1, f2⟩ := tt_ok (n := n + 2) (c := .plain h t) (d := .pair h' d1 d2 t') trivial trivial h1 h2 k1 k2
        obtain ⟨s, w1, w2, w3⟩ := h1
        obtain ⟨a1', a2', b1', b2', v1, _⟩ := h2
        obtain ⟨p, hj⟩ := jn_diff w2 v1 (by rcases w3 with rfl | rfl <;> simp)
        simp only [tog, hj]; exact f1 p hj
      | list h' d1 t' =>
        obtain ⟨f1, f2⟩ := tt_ok (n := n + 2) (c := .plain h t) (d := .list h' d1 t') trivial trivial h1 h2 k1 k2
        obtain ⟨s, w1, w2, w3⟩ := h1
        obtain ⟨a1', b1', v1, _⟩ := h2
        obtain ⟨p, hj⟩ := jn_diff w2 v1 (by rcases w3 with rfl | rfl <;> simp)
        simp only [tog, hj]; exact f1 p hj
    | pair h c1 c2 t =>
      cases d with
      | nothing => simp only [tog]; exact no_r h1 k1 rfl
      | fail h' p' => simp only [tog]; exact turn_fail (n := n + 1) (c := .pair h c1 c2 t) trivial h1 h2 k1
      | plain h' t' =>
        obtain ⟨f1, f2⟩ := tt_ok (n := n + 2) (c := .pair h c1 c2 t) (d := .plain h' t') trivial trivial h1 h2 k1 k2
        obtain ⟨a1, a2, b1, b2, w1, w2, w3, w4⟩ := h1
        obtain ⟨s', v1, v2, v3⟩ := h2
        obtain ⟨p, hj⟩ := jn_diff w2 v1 (by rcases v3 with rfl | rfl <;> simp)
        simp only [tog, hj]; exact f1 p hj
      | pair h' d1 d2 t' =>
        obtain ⟨f1, f2⟩ := tt_ok (n := n + 2) (c := .pair h c1 c2 t) (d := .pair h' d1 d2 t') trivial trivial h1 h2 k1 k2
        obtain ⟨a1, a2, b1, b2, w1, w2, w3, w4⟩ := h1
        obtain ⟨a1', a2', b1', b2', v1, v2, v3, v4⟩ := h2
        simp only [tog]
        cases hj : jn t h' with
        | some p => exact f1 p hj
        | none =>
          obtain ⟨q, _⟩ := jn_none w2 v1 hj
          cases q
          simp only [hC] at k1 k2 hn
          have i1 := ih (n + 1) (by omega) c1 d1 a1 b1 b1' w3 v3 (by omega) (by omega) (by omega)
          have i2 := ih (n + 1) (by omega) c2 d2 a2 b2 b2' w4 v4 (by omega) (by omega) (by omega)
          refine f2 hj _ ?_
          rw [G_succ]
          simp [bd, at_run, b_middles, midC, strOf_inj, i1, i2]
      | list h' d1 t' =>
        obtain ⟨f1, f2⟩ := tt_ok (n := n + 2) (c := .pair h c1 c2 t) (d := .list h' d1 t') trivial trivial h1 h2 k1 k2
        obtain ⟨a1, a2, b1, b2, w1, w2, w3, w4⟩ := h1
        obtain ⟨a1', b1', v1, _⟩ := h2
        obtain ⟨p, hj⟩ := jn_diff w2 v1 (by simp)
        simp only [tog, hj]; exact f1 p hj
    | list h c1 t =>
      cases d with
      | nothing => simp only [tog]; exact no_r h1 k1 rfl
      | fail h' p' => simp only [tog]; exact turn_fail (n := n + 1) (c := .list h c1 t) trivial h1 h2 k1
      | plain h' t' =>
        obtain ⟨f1, f2⟩ := tt_ok (n := n + 2) (c := .list h c1 t) (d := .plain h' t') trivial trivial h1 h2 k1 k2
        obtain ⟨a1, b1, w1, w2, w3⟩ := h1
        obtain ⟨s', v1, v2, v3⟩ := h2
        obtain ⟨p, hj⟩ := jn_diff w2 v1 (by rcases v3 with rfl | rfl <;> simp)
        simp only [tog, hj]; exact f1 p hj
      | pair h' d1 d2 t' =>
        obtain ⟨f1, f2⟩ := tt_ok (n := n + 2) (c := .list h c1 t) (d := .pair h' d1 d2 t') trivial trivial h1 h2 k1 k2
        obtain ⟨a1, b1, w1, w2, w3⟩ := h1
        obtain ⟨a1', a2', b1', b2', v1, _⟩ := h2
        obtain ⟨p, hj⟩ := jn_diff w2 v1 (by simp)
        simp only [tog, hj]; exact f1 p hj
      | list h' d1 t' =>
        obtain ⟨f1, f2⟩ := tt_ok (n := n + 2) (c := .list h c1 t) (d := .list h' d1 t') trivial trivial h1 h2 k1 k2
        obtain ⟨a1, b1, w1, w2, w3⟩ := h1
        obtain ⟨a1', b1', v1, v2, v3⟩ := h2
        simp only [tog]
        cases hj : jn t h' with
        | some p => exact f1 p hj
        | none =>
          obtain ⟨q, _⟩ := jn_none w2 v1 hj
          cases q
          simp only [hC] at k1 k2 hn
          have i1 := ih (n + 1) (by omega) c1 d1 a1 b1 b1' w3 v3 (by omega) (by omega) (by omega)
          refine f2 hj _ ?_
          rw [G_succ]
          simp [bd, at_run, b_middles, midC, strOf_inj, i1]
end K96

namespace K96
open DV L2 PySem PySem.Spec PyProof.Rows
def BR : Option Va → D → Prop
  | some w, r => r = .tup [.str "ok", ev w]
  | none, r => ∃ p : Nn, r = .tup [.str "blame", nD p]
def PM (n : Nat) (u : Va) (m : D) (o : Option Va) : Prop := ∃ r, G n .f_bend_middle [ev u, m] = some (r, false, []) ∧ BR o r
def PB (n : Nat) (c : Co) (v : Va) : Prop := ∃ r, G n .f_bend [ev v, encC c] = some (r, false, []) ∧ BR (bendV c v) r
theorem turn_bend {n : Nat} {c : Co} {a b s : Ty} {v : Va} {o : Va → Option Va} (hc : isT c) (h1 : wt c a b) (k1 : hC c ≤ 25) (ws : wtS (hdC c) a s) (hv : has a v) (hm : ∀ u, opn (hdC c) v = some u → PM n u (midC c) (o u)) (hb : bendV c v = (opn (hdC c) v).bind fun u => (o u).map (cls (tlC c))) : PB (n + 1) c v := by
  have q1 := eq_no h1 k1
  have n1 : isN c = false := by cases c <;> first | exact hc.elim | rfl
  rw [n1] at q1
  have a0 := enc0 hc
  have a1 := enc1 hc
  have a2 := enc2 hc
  have a3 := enc3 hc
  unfold PB
  rw [hb, G_succ]
  -- from the middle on
  have fin : ∀ (u : Va), opn (hdC c) v = some u → ∀ (ρ0 : D), ∃ r, ((gSeq (gIfS (gT (gOp2 eqD (oD (gOp2 ixD (oNm 1) (oD (fun ρ => some (.int 0, ρ))))) (oD (fun ρ => some (.str "fail", ρ))))) (gRet (wD (gTup (gCons (fun ρ => some (.str "blame", ρ)) (gCons (gOp2 ixD (oNm 1) (oD (fun ρ => some (.int 2, ρ)))) (fun ρ => some ([], ρ))))))) gSkip) (gSeq (gSet 3 (gCallD [false, false] (G n .f_bend_middle) [] (gVa (gNm 0) (gVa (gOp2 ixD (oNm 1) (oD (fun ρ => some (.int 2, ρ)))) (fun ρ => some ([], ρ)))))) (gSeq (gIfS (gOr (gT (gOp2 eqD (oD (gOp2 ixD (oNm 3) (oD (fun ρ => some (.int 0, ρ))))) (oD (fun ρ => some (.str "blame", ρ))))) (gT (gOp2 isD (oD (gOp2 ixD (oNm 1) (oD (fun ρ => some (.int 3, ρ))))) (oD (fun ρ => some (.non, ρ)))))) (gRet (gMv 3)) gSkip) (gRet (wD (gTup (gCons (fun ρ => some (.str "ok", ρ)) (gCons (gTup (gCons (fun ρ => some (.str "tag", ρ)) (gCons (gOp2 ixD (oNm 1) (oD (fun ρ => some (.int 3, ρ)))) (gCons (gOp2 ixD (oNm 3) (oD (fun ρ => some (.int 1, ρ)))) (fun ρ => some ([], ρ)))))) (fun ρ => some ([], ρ)))))))))) [.sh (ev u), .sh (encC c), .sh ρ0, .no]).bind (kRn [false, false]) = some (r, false, []) ∧ BR ((o u).map (cls (tlC c))) r := by
    intro u hu ρ0
    obtain ⟨r, e, br⟩ := hm u hu
    cases ho : o u with
    | none =>
      rw [ho] at br
      obtain ⟨p, rfl⟩ := br
      exact ⟨_, by simp [a0, a2, e, strOf_inj], p, rfl⟩
    | some w =>
      rw [ho] at br
      have br' : r = .tup [.str "ok", ev w] := br
      subst br'
      cases ht : tlC c with
      | none =>
        rw [ht] at a3
        exact ⟨.tup [.str "ok", ev w], by simp [a0, a2, a3, e, strOf_inj], rfl⟩
      | some g =>
        rw [ht] at a3
        have g0 := isNon_enc g
        exact ⟨.tup [.str "ok", .tup [.str "tag", enc g, ev w]], by simp [a0, a2, a3, e, strOf_inj, g0], by simp [BR, cls, ev]⟩
  cases hh : hdC c with
  | none =>
    rw [hh] at a1
    simp only [encH] at a1
    obtain ⟨r, e, br⟩ := fin v (by rw [hh]; rfl) .non
    refine ⟨r, ?_, by simpa [opn] using br⟩
    rw [← e]
    simp [bd, at_run, b_bend, q1, a1]
  | some gp =>
    obtain ⟨g, p⟩ := gp
    rw [hh] at a1 ws
    simp only [encH] at a1
    obtain ⟨rfl, rfl, hg⟩ := ws
    obtain ⟨g', u, rfl, hg', hu⟩ := has_any hv
    have hn : DV.isNon (.tup [enc s, nD p]) = false := rfl
    have q := ne_enc (a := g') (b := s) (by have := isG_dep hg'; omega) (by have := isG_dep hg; omega)
    by_cases e : g' = s
    · subst e
      simp only [decide_true, Bool.not_true] at q
      obtain ⟨r, e, br⟩ := fin u (by rw [hh]; simp [opn]) (.tup [enc g', nD p])
      refine ⟨r, ?_, by simpa [opn] using br⟩
      rw [← e]
      simp [bd, at_run, b_bend, q1, a1, hn, q]
    · simp only [e, decide_false, Bool.not_false] at q
      refine ⟨.tup [.str "blame", nD p], ?_, by simp only [opn, e, if_false, Option.bind_none]; exact ⟨p, rfl⟩⟩
      simp [bd, at_run, b_bend, q1, a1, hn, q]
theorem pm_plain {n : Nat} {u : Va} : PM (n + 1) u (.tup [.str "plain"]) (some u) := by
  refine ⟨_, ?_, rfl⟩
  rw [G_succ]
  simp [bd, at_run, b_bend_middle, strOf_inj]
theorem pm_pair {n : Nat} {x y : Va} {c d : Co} (h1 : PB n c x) (h2 : PB n d y) : PM (n + 1) (.pair x y) (.tup [.str "pair", encC c, encC d]) ((bendV c x).bind fun x' => (bendV d y).map fun y' => .pair x' y') := by
  obtain ⟨r1, e1, b1⟩ := h1
  obtain ⟨r2, e2, b2⟩ := h2
  unfold PM
  rw [G_succ]
  cases hx : bendV c x with
  | none =>
    rw [hx] at b1
    obtain ⟨p, rfl⟩ := b1
    exact ⟨_, by simp [bd, at_run, b_bend_middle, strOf_inj, e1], p, rfl⟩
  | some x' =>
    rw [hx] at b1
    have b1' : r1 = .tup [.str "ok", ev x'] := b1
    subst b1'
    cases hy : bendV d y with
    | none =>
      rw [hy] at b2
      obtain ⟨p, rfl⟩ := b2
      exact ⟨_, by simp [bd, at_run, b_bend_middle, strOf_inj, e1, e2], p, rfl⟩
    | some y' =>
      rw [hy] at b2
      have b2' : r2 = .tup [.str "ok", ev y'] := b2
      subst b2'
      exact ⟨_, by simp [bd, at_run, b_bend_middle, strOf_inj, e1, e2]; rfl, by simp [BR, ev]⟩
def itE (z0 z1 z2 z3 z7 : Sl) (acc : List Va) : Option (List Va) → Option (Fl × DV.Env) → Prop
  | some ys, r => ∃ s5 s6, r = some (.nx, [z0, z1, z2, z3, .ow (.lst (evs (acc ++ ys))), s5, s6, z7])
  | none, r => ∃ (p : Nn) (s4 s5 s6 : Sl), r = some (.rt (.tup [.str "blame", nD p]) false, [z0, z1, z2, z3, s4, s5, s6, z7])
theorem bitems_loop {n : Nat} {c : Co} {z0 z2 z3 z7 : Sl} : ∀ (xs acc : List Va) (s5 s6 : Sl), Bd s5 → Bd s6 → (∀ x ∈ xs, PB n c x) → acc.length + xs.length ≤ 1000 →
    itE z0 (.sh (.tup [.str "list", encC c])) z2 z3 z7 acc (mapO (bendV c) xs) (forD (hNm 5) (l_bend_middle_0 (G n)) (evs xs) [z0, .sh (.tup [.str "list", encC c]), z2, z3, .ow (.lst (evs acc)), s5, s6, z7])
  | [], acc, s5, s6, _, _, _, _ => ⟨s5, s6, by simp [evs]⟩
  | x :: xs, acc, s5, s6, h5, h6, h, hl => by
    obtain ⟨r, e, br⟩ := h x List.mem_cons_self
    simp only [mapO, evs]
    cases hx : bendV c x with
    | none =>
      rw [hx] at br
      obtain ⟨p, rfl⟩ := br
      refine ⟨p, .ow (.lst (evs acc)), .sh (ev x), .sh (.tup [.str "blame", nD p]), ?_⟩
      rw [forD_cons]
      simp [kB_Bd h5, l_bend_middle_0, kB_Bd h6, e, strOf_inj]
    | some y =>
      rw [hx] at br
      have br' : r = .tup [.str "ok", ev y] := br
      subst br'
      have hz : acc.length < 100000 := by simp only [List.length_cons] at hl; omega
      have ih := bitems_loop (z0 := z0) (z2 := z2) (z3 := z3) (z7 := z7) xs (acc ++ [y]) (.sh (ev x)) (.sh (.tup [.str "ok", ev y])) trivial trivial (fun z m => h z (List.mem_cons_of_mem _ m)) (by simp only [List.length_append, List.length_cons, List.length_nil] at hl ⊢; omega)
      have step : forD (hNm 5) (l_bend_middle_0 (G n)) (ev x :: evs xs) [z0, .sh (.tup [.str "list", encC c]), z2, z3, .ow (.lst (evs acc)), s5, s6, z7] =
          forD (hNm 5) (l_bend_middle_0 (G n)) (evs xs) [z0, .sh (.tup [.str "list", encC c]), z2, z3, .ow (.lst (evs (acc ++ [y]))), .sh (ev x), .sh (.tup [.str "ok", ev y]), z7] := by
        rw [forD_cons]
        simp [kB_Bd h5, l_bend_middle_0, kB_Bd h6, e, strOf_inj, evs_len, hz, ← evs_app, evs]
      rw [step]
      cases hm : mapO (bendV c) xs with
      | none => rw [hm] at ih; exact ih
      | some ys =>
        rw [hm] at ih
        simp only [itE, List.append_assoc, List.singleton_append] at ih
        exact ih
theorem pm_list {n : Nat} {xs : List Va} {c : Co} (h : ∀ x ∈ xs, PB n c x) (hl : xs.length ≤ 1000) : PM (n + 1) (.items xs) (.tup [.str "list", encC c]) ((mapO (bendV c) xs).map .items) := by
  have lp := bitems_loop (n := n) (c := c) (z0 := .sh (ev (.items xs))) (z2 := .no) (z3 := .no) (z7 := .no) xs [] .no .no trivial trivial h (by simpa using hl)
  unfold PM
  rw [G_succ]
  cases hm : mapO (bendV c) xs with
  | none =>
    rw [hm] at lp
    obtain ⟨p, s4, s5, s6, e⟩ := lp
    simp only [evs] at e
    exact ⟨_, by simp [bd, at_run, b_bend_middle, strOf_inj, e], p, rfl⟩
  | some ys =>
    rw [hm] at lp
    obtain ⟨s5, s6, e⟩ := lp
    simp only [evs, List.nil_append] at e
    exact ⟨_, by simp [bd, at_run, b_bend_middle, strOf_inj, e]; rfl, by simp [BR, ev]⟩
theorem map_cls {t : Option Ty} {o : Option Va} : o.map (cls t) = o.map fun x => cls t x := rfl
theorem bend_ok : ∀ (n : Nat) (c : Co) (a b : Ty) (v : Va), wt c a b → has a v → sm v → hC c ≤ 25 → 2 * hC c + 3 ≤ n → PB n c v := by
  intro n
  induction n using Nat.strongRecOn with
  | ind n ih =>
    intro c a b v h1 hv hs k1 hn
    obtain ⟨n, rfl⟩ : ∃ m, n = m + 3 := ⟨n - 3, by omega⟩
    cases c with
    | nothing =>
      have q1 := eq_no h1 k1
      refine ⟨_, ?_, rfl⟩
      rw [G_succ]
      simp [bd, at_run, b_bend, q1, isN]
    | fail hh p =>
      have q1 := eq_no h1 k1
      obtain ⟨s, ws⟩ := h1
      cases hh with
      | none =>
        refine ⟨.tup [.str "blame", nD p], ?_, p, rfl⟩
        rw [G_succ]
        simp [bd, at_run, b_bend, q1, isN, encH]
      | some gp =>
        obtain ⟨g, p'⟩ := gp
        obtain ⟨rfl, rfl, hg⟩ := ws
        obtain ⟨g', u, rfl, hg', hu⟩ := has_any hv
        have hn : DV.isNon (.tup [enc s, nD p']) = false := rfl
        have q := ne_enc (a := g') (b := s) (by have := isG_dep hg'; omega) (by have := isG_dep hg; omega)
        by_cases e : g' = s
        · subst e
          simp only [decide_true, Bool.not_true] at q
          refine ⟨.tup [.str "blame", nD p], ?_, p, rfl⟩
          rw [G_succ]
          simp [bd, at_run, b_bend, q1, isN, encH, hn, q]
        · simp only [e, decide_false, Bool.not_false] at q
          refine ⟨.tup [.str "blame", nD p'], ?_, p', rfl⟩
          rw [G_succ]
          simp [bd, at_run, b_bend, q1, isN, encH, hn, q]
    | plain hh t =>
      obtain ⟨s, w1, w2, w3⟩ := h1
      refine turn_bend (c := .plain hh t) (n := n + 2) (s := s) (o := fun u => some u) trivial ⟨s, w1, w2, w3⟩ k1 w1 hv (fun u _ => pm_plain) ?_
      simp only [bendV, hdC, tlC]
      cases opn hh v <;> rfl
    | pair hh c d t =>
      obtain ⟨a1, a2, b1, b2, w1, w2, w3, w4⟩ := h1
      simp only [hC] at k1 hn
      refine turn_bend (c := .pair hh c d t) (n := n + 2) (s := .pair a1 a2) (o := fun u => match u with | .pair x y => (bendV c x).bind fun x' => (bendV d y).map fun y' => .pair x' y' | _ => none) trivial ⟨a1, a2, b1, b2, w1, w2, w3, w4⟩ (by simp only [hC]; omega) w1 hv (fun u hu => ?_) ?_
      · obtain ⟨q1, q2, q3⟩ := opn_has w1 hv hu
        obtain ⟨x, y, rfl, e1, e2⟩ := has_pair q1
        have hs2 := q3 hs
        unfold sm at hs2
        exact pm_pair (ih (n + 1) (by omega) c a1 b1 x w3 e1 hs2.1 (by omega) (by omega)) (ih (n + 1) (by omega) d a2 b2 y w4 e2 hs2.2 (by omega) (by omega))
      · simp only [bendV, hdC, tlC]
        cases opn hh v with
        | none => rfl
        | some u =>
          cases u with
          | pair x y =>
            simp only [Option.bind_some]
            cases bendV c x with
            | none => rfl
            | some x' => cases bendV d y <;> rfl
          | _ => rfl
    | list hh c t =>
      obtain ⟨a1, b1, w1, w2, w3⟩ := h1
      simp only [hC] at k1 hn
      refine turn_bend (c := .list hh c t) (n := n + 2) (s := .list a1) (o := fun u => match u with | .items xs => (mapO (bendV c) xs).map .items | _ => none) trivial ⟨a1, b1, w1, w2, w3⟩ (by simp only [hC]; omega) w1 hv (fun u hu => ?_) ?_
      · obtain ⟨q1, q2, q3⟩ := opn_has w1 hv hu
        obtain ⟨xs, rfl, e1⟩ := has_list q1
        have hs2 := q3 hs
        unfold sm at hs2
        exact pm_list (fun x m => ih (n + 1) (by omega) c a1 b1 x w3 (hasL_mem e1 x m) (smL_mem hs2.2 x m) (by omega) (by omega)) hs2.1
      · simp only [bendV, hdC, tlC]
        cases opn hh v with
        | none => rfl
        | some u =>
          cases u with
          | items xs =>
            simp only [Option.bind_some]
            cases mapO (bendV c) xs <;> rfl
          | _ => rfl
theorem bare_items {n : Nat} {z0 : Sl} : ∀ xs : List Va, (∀ x ∈ xs, G n .f__law_bare [ev x] = some (ev (bare x), false, [])) →
    compD [1] (hNm 1) tYesD (shW (gCallD [false] (G n .f__law_bare) [] (gVa (gNm 1) (fun ρ => some ([], ρ))))) (evs xs) [z0, .no] = some (evs (bares xs), [z0, .no])
  | [], h => by simp [evs, bares]
  | x :: xs, h => by
    have e := h x List.mem_cons_self
    have ih := bare_items (z0 := z0) xs fun y m => h y (List.mem_cons_of_mem _ m)
    simp only [evs, bares]
    rw [compD_cons]
    simp [e]
    exact ih
theorem bare_ok : ∀ (n : Nat) (v : Va), fdp v < n → sm v → G n .f__law_bare [ev v] = some (ev (bare v), false, [])
  | 0, v, h, _ => absurd h (by omega)
  | n + 1, v, h, hs => by
    have ih := bare_ok n
    rw [G_succ]
    cases v with
    | int i => simp [bd, at_run, b__law_bare, ev, bare, strOf_inj]
    | bool i => simp [bd, at_run, b__law_bare, ev, bare, strOf_inj]
    | tag g u =>
      simp only [fdp] at h
      unfold sm at hs
      have e := ih u (by omega) hs
      simp [bd, at_run, b__law_bare, ev, bare, strOf_inj, e]
    | pair x y =>
      simp only [fdp] at h
      unfold sm at hs
      have e1 := ih x (by omega) hs.1
      have e2 := ih y (by omega) hs.2
      simp [bd, at_run, b__law_bare, ev, bare, strOf_inj, e1, e2]
    | items xs =>
      simp only [fdp] at h
      unfold sm at hs
      have e := bare_items (z0 := .sh (ev (.items xs))) xs fun x m => ih x (by have := fdpL_mem x m; omega) (smL_mem hs.2 x m)
      have hx : xs.length ≤ 100000 := by omega
      simp only [ev] at e ⊢
      simp [bd, at_run, b__law_bare, bare, strOf_inj, e, evs_len, bares_len, hx, ev]
end K96

namespace K96
open DV L2 PySem PySem.Spec PyProof.Rows
/-! middles -/
inductive Md where
  | any | int | bool | never | pair (a b : Md) | list (a : Md)
deriving DecidableEq
def em : Md → D
  | .any => .tup [.str "any"]
  | .int => .tup [.str "int"]
  | .bool => .tup [.str "bool"]
  | .never => .tup [.str "never"]
  | .pair a b => .tup [.str "pair", em a, em b]
  | .list a => .tup [.str "list", em a]
def dM : Md → Nat
  | .pair a b => max (dM a) (dM b) + 1
  | .list a => dM a + 1
  | _ => 0
def toM : Ty → Md
  | .any => .any
  | .int => .int
  | .bool => .bool
  | .pair a b => .pair (toM a) (toM b)
  | .list a => .list (toM a)
theorem em_toM : ∀ t, em (toM t) = enc t
  | .any => rfl
  | .int => rfl
  | .bool => rfl
  | .pair a b => by simp [toM, em, enc, em_toM a, em_toM b]
  | .list a => by simp [toM, em, enc, em_toM a]
theorem dM_toM : ∀ t, dM (toM t) = dep t
  | .any => rfl
  | .int => rfl
  | .bool => rfl
  | .pair a b => by simp [toM, dM, dep, dM_toM a, dM_toM b]
  | .list a => by simp [toM, dM, dep, dM_toM a]
theorem em_lay : ∀ t, (toPy (em t)).canLay0 = true
  | .any => by decide +kernel
  | .int => by decide +kernel
  | .bool => by decide +kernel
  | .never => by decide +kernel
  | .pair a b => by
    have s : PyData.strOk "pair" = true := by decide +kernel
    simp [em, toPy, toPyL, PyData.canLay0, PyData.canLayAll0, em_lay a, em_lay b, s]
  | .list a => by
    have s : PyData.strOk "list" = true := by decide +kernel
    simp [em, toPy, toPyL, PyData.canLay0, PyData.canLayAll0, em_lay a, s]
theorem em_dep : ∀ t, (toPy (em t)).depth = dM t + 1
  | .any => by decide +kernel
  | .int => by decide +kernel
  | .bool => by decide +kernel
  | .never => by decide +kernel
  | .pair a b => by simp [em, toPy, toPyL, PyData.depth, PyData.depthAll, em_dep a, em_dep b, dM]
  | .list a => by simp [em, toPy, toPyL, PyData.depth, PyData.depthAll, em_dep a, dM]
theorem okN_em {m : Md} : okN (em m) (dM m + 1) := ⟨em_lay m, by rw [em_dep]; exact Nat.le_refl _⟩
theorem em_tup (t : Md) : ∃ xs, em t = .tup xs := by cases t <;> exact ⟨_, rfl⟩
theorem eqv_any (m : Md) : PyData.eqv (toPy (em m)) (toPy (em .any)) = decide (m = .any) := by
  cases m <;> first | decide +kernel | simp [em, toPy, toPyL, PyData.eqv, PyData.eqvAll]
theorem eqv_nev (m : Md) : PyData.eqv (toPy (em m)) (toPy (em .never)) = decide (m = .never) := by
  cases m <;> first | decide +kernel | simp [em, toPy, toPyL, PyData.eqv, PyData.eqvAll]
theorem eq_em {a b : Md} (ha : dM a ≤ 60) (hb : dM b ≤ 60) : eqD (em a) (em b) = some (.bl (PyData.eqv (toPy (em a)) (toPy (em b)))) := by
  have z : eqS (em a) (em b) = none := by
    obtain ⟨x, e⟩ := em_tup a
    obtain ⟨y, e'⟩ := em_tup b
    rw [e, e']; rfl
  unfold eqD
  rw [z, eqP_ok (okN_em.py (by omega)) (okN_em.py (by omega))]; rfl
theorem eq_any {m : Md} (h : dM m ≤ 60) : eqD (em m) (enc .any) = some (.bl (decide (m = .any))) := by
  rw [← eqv_any]; exact eq_em (b := .any) h (Nat.zero_le _)
theorem eq_nev {m : Md} (h : dM m ≤ 60) : eqD (em m) c_NEVER = some (.bl (decide (m = .never))) := by
  rw [← eqv_nev]; exact eq_em (b := .never) h (Nat.zero_le _)
def mm : Md → Md → Md
  | .any, b => b
  | a, .any => a
  | .int, .int => .int
  | .bool, .bool => .bool
  | .pair a b, .pair c d => if mm a c = .never ∨ mm b d = .never then .never else .pair (mm a c) (mm b d)
  | .list a, .list c => .list (mm a c)
  | _, _ => .never
theorem mm_dep : ∀ a b, dM (mm a b) ≤ max (dM a) (dM b) := by
  intro a
  induction a with
  | any => intro b; simp [mm, dM]
  | int => intro b; cases b <;> simp [mm, dM]
  | bool => intro b; cases b <;> simp [mm, dM]
  | never => intro b; cases b <;> simp [mm, dM]
  | pair a b iha ihb =>
    intro c
    cases c with
    | pair c d =>
      have i1 := iha c
      have i2 := ihb d
      simp only [mm]
      split
      · simp [dM]
      · simp only [dM]; omega
    | _ => simp [mm, dM]
  | list a iha =>
    intro c
    cases c with
    | list c => have i1 := iha c; simp only [mm, dM]; omega
    | _ => simp [mm, dM]
theorem mm_mo : ∀ a b m, mo a b = some m → mm (toM a) (toM b) = toM m ∧ toM m ≠ .never := by
  intro a
  induction a with
  | any => intro b m e; simp [mo] at e; subst e; refine ⟨by simp [mm, toM], by cases b <;> simp [toM]⟩
  | int => intro b m e; cases b <;> simp [mo] at e <;> subst e <;> exact ⟨rfl, by simp [toM]⟩
  | bool => intro b m e; cases b <;> simp [mo] at e <;> subst e <;> exact ⟨rfl, by simp [toM]⟩
  | pair a b iha ihb =>
    intro c m e
    cases c with
    | any => simp [mo] at e; subst e; exact ⟨by simp [mm, toM], by simp [toM]⟩
    | pair c d =>
      simp only [mo] at e
      obtain ⟨x, e1, e2⟩ := Option.bind_eq_some_iff.mp e
      obtain ⟨y, e3, rfl⟩ := Option.map_eq_some_iff.mp e2
      obtain ⟨p1, p2⟩ := iha c x e1
      obtain ⟨q1, q2⟩ := ihb d y e3
      exact ⟨by simp [mm, toM, p1, q1, p2, q2], by simp [toM]⟩
    | _ => simp [mo] at e
  | list a iha =>
    intro c m e
    cases c with
    | any => simp [mo] at e; subst e; exact ⟨by simp [mm, toM], by simp [toM]⟩
    | list c =>
      simp only [mo] at e
      obtain ⟨x, e1, rfl⟩ := Option.map_eq_some_iff.mp e
      obtain ⟨p1, p2⟩ := iha c x e1
      exact ⟨by simp [mm, toM, p1], by simp [toM]⟩
    | _ => simp [mo] at e
mutual
def goV : Va → Md → Bool
  | .int _, .int => true
  | .bool _, .bool => true
  | .pair x y, .pair a b => goV x a && goV y b
  | .items xs, .list a => goL xs a
  | _, .any => true
  | _, _ => false
def goL : List Va → Md → Bool
  | [], _ => true
  | x :: xs, a => goV x a && goL xs a
end
@[simp] theorem goV_any (v : Va) : goV v .any = true := by cases v <;> simp [goV]
@[simp] theorem goV_nev (v : Va) : goV v .never = false := by cases v <;> simp [goV]
mutual
theorem goV_toM : ∀ (x : Va) (t : Ty), goV x (toM t) = fit x t
  | .int i, t => by cases t <;> simp [toM, goV, fit]
  | .bool i, t => by cases t <;> simp [toM, goV, fit]
  | .tag _ _, t => by cases t <;> simp [toM, goV, fit]
  | .pair x y, t => by cases t <;> simp [toM, goV, fit, goV_toM x, goV_toM y]
  | .items xs, t => by cases t <;> simp [toM, goV, fit, goL_toM xs]
theorem goL_toM : ∀ (xs : List Va) (t : Ty), goL xs (toM t) = fits xs t
  | [], t => by simp [goL, fits]
  | x :: xs, t => by simp [goL, fits, goV_toM x, goL_toM xs]
end
mutual
theorem goV_mm : ∀ (x : Va) (a b : Md), goV x (mm a b) = (goV x a && goV x b)
  | .int i, a, b => by
    cases a <;> cases b <;> simp [mm, goV]
    split <;> simp [goV]
  | .bool i, a, b => by
    cases a <;> cases b <;> simp [mm, goV]
    split <;> simp [goV]
  | .tag _ _, a, b => by
    cases a <;> cases b <;> simp [mm, goV]
    split <;> simp [goV]
  | .pair x y, a, b => by
    cases a <;> cases b <;> simp only [mm, goV, goV_any, goV_nev, Bool.and_true, Bool.true_and, Bool.and_false, Bool.false_and]
    rename_i a1 a2 b1 b2
    have e1 := goV_mm x a1 b1
    have e2 := goV_mm y a2 b2
    split
    · rename_i h
      rcases h with h | h
      · rw [h, goV_nev] at e1
        have : ∀ p q r s : Bool, false = (p && r) → false = ((p && q) && (r && s)) := by decide
        exact this _ _ _ _ e1
      · rw [h, goV_nev] at e2
        have : ∀ p q r s : Bool, false = (q && s) → false = ((p && q) && (r && s)) := by decide
        exact this _ _ _ _ e2
    · simp only [goV, e1, e2]
      ac_rfl
  | .items xs, a, b => by
    cases a <;> cases b <;> simp only [mm, goV, goV_any, goV_nev, Bool.and_true, Bool.true_and, Bool.and_false, Bool.false_and]
    · split <;> simp [goV]
    · exact goL_mm xs _ _
theorem goL_mm : ∀ (xs : List Va) (a b : Md), goL xs (mm a b) = (goL xs a && goL xs b)
  | [], a, b => by simp [goL]
  | x :: xs, a, b => by
    simp only [goL, goV_mm x, goL_mm xs]
    ac_rfl
end
def tagM : Md → Str
  | .any => "any"
  | .int => "int"
  | .bool => "bool"
  | .never => "never"
  | .pair _ _ => "pair"
  | .list _ => "list"
@[simp] theorem em_0 {m : Md} : ixD (em m) (.int 0) = some (.str (tagM m)) := by cases m <;> rfl
@[simp] theorem em_p1 {a b : Md} : ixD (em (.pair a b)) (.int 1) = some (em a) := rfl
@[simp] theorem em_p2 {a b : Md} : ixD (em (.pair a b)) (.int 2) = some (em b) := rfl
@[simp] theorem em_l1 {a : Md} : ixD (em (.list a)) (.int 1) = some (em a) := rfl
@[simp] theorem slm_int : slD (em .int) (some 1) none = some (.tup []) := sl1
@[simp] theorem slm_bool : slD (em .bool) (some 1) none = some (.tup []) := sl1
@[simp] theorem slm_pair {a b : Md} : slD (em (.pair a b)) (some 1) none = some (.tup [em a, em b]) := sl1
@[simp] theorem slm_list {a : Md} : slD (em (.list a)) (some 1) none = some (.tup [em a]) := sl1
theorem in_nev0 : inD c_NEVER (.lst []) = some (.bl false) := by
  have o : okPy (.lst []) = true := rfl
  have o0 : okPy (em .never) = true := okN_em.py (by simp [dM])
  show inD (em .never) _ = _
  have f : flatD (em .never) = false := rfl
  have s : inS (em .never) (.lst []) = none := rfl
  have k : inK (em .never) (.lst []) = none := rfl
  simp [inD, inB, s, k, inF, inP, seqOf, f, o, o0, toPyL]
theorem in_nev {a b : Md} (ha : dM a ≤ 50) (hb : dM b ≤ 50) : inD c_NEVER (.lst [em a, em b]) = some (.bl (decide (a = .never) || decide (b = .never))) := by
  have o : okPy (.lst [em a, em b]) = true := (okN.lst (n := 51) fun x m => by
    simp only [List.mem_cons, List.not_mem_nil, or_false] at m
    rcases m with rfl | rfl
    · exact okN_em.mono (by omega)
    · exact okN_em.mono (by omega)).py (by omega)
  have o0 : okPy (em .never) = true := okN_em.py (by simp [dM])
  have q1 := eqv_nev a
  have q2 := eqv_nev b
  show inD (em .never) _ = _
  have f : flatD (em .never) = false := rfl
  have s : inS (em .never) (.lst [em a, em b]) = none := rfl
  have k : inK (em .never) (.lst [em a, em b]) = none := rfl
  simp [inD, inB, s, k, inF, inP, seqOf, f, o, o0, toPyL, q1, q2]
theorem mm_ok : ∀ (n : Nat) (a b : Md), dM a < n → dM a ≤ 40 → dM b ≤ 40 → G n .f_middle_meet [em a, em b] = some (em (mm a b), false, [])
  | 0, a, b, h, _, _ => absurd h (by omega)
  | n + 1, a, b, h, ha, hb => by
    have ih := mm_ok n
    have q1 := eq_any (m := a) (by omega)
    have q2 := eq_any (m := b) (by omega)
    have n1 := eq_nev (m := a) (by omega)
    have n2 := eq_nev (m := b) (by omega)
    have l0 : D.tup [.str "int"] = em .int := rfl
    have l1 : D.tup [.str "bool"] = em .bool := rfl
    have l2 : ∀ a b : Md, D.tup [.str "pair", em a, em b] = em (.pair a b) := fun _ _ => rfl
    have l3 : ∀ a : Md, D.tup [.str "list", em a] = em (.list a) := fun _ => rfl
    have cn : c_NEVER = em .never := rfl
    rw [G_succ]
    by_cases e1 : a = .any
    · subst e1
      simp only [decide_true] at q1
      simp [bd, at_run, b_middle_meet, q1, mm]
    by_cases e2 : b = .any
    · subst e2
      simp only [e1, decide_false] at q1
      simp only [decide_true] at q2
      have : mm a .any = a := by cases a <;> simp [mm] at e1 ⊢
      simp [bd, at_run, b_middle_meet, q1, q2, this]
    simp only [e1, decide_false] at q1
    simp only [e2, decide_false] at q2
    by_cases e3 : a = .never
    · subst e3
      simp only [decide_true] at n1
      have : mm .never b = .never := by cases b <;> first | exact absurd rfl e2 | rfl
      simp [bd, at_run, b_middle_meet, q1, q2, n1, this]; first | done | rfl
    by_cases e4 : b = .never
    · subst e4
      simp only [e3, decide_false] at n1
      simp only [decide_true] at n2
      have : mm a .never = .never := by cases a <;> first | exact absurd rfl e1 | rfl
      simp [bd, at_run, b_middle_meet, q1, q2, n1, n2, this]; first | done | rfl
    simp only [e3, decide_false] at n1
    simp only [e4, decide_false] at n2
    cases a with
    | any => exact absurd rfl e1
    | never => exact absurd rfl e3
    | int =>
      cases b with
      | any => exact absurd rfl e2
      | never => exact absurd rfl e4
      | int => simp [bd, at_run, b_middle_meet, q1, q2, n1, n2, mm, tagM, strOf_inj, zipD]; first | done | rfl
      | _ => (simp [bd, at_run, b_middle_meet, q1, q2, n1, n2, mm, tagM, strOf_inj]; first | done | rfl)
    | bool =>
      cases b with
      | any => exact absurd rfl e2
      | never => exact absurd rfl e4
      | bool => simp [bd, at_run, b_middle_meet, q1, q2, n1, n2, mm, tagM, strOf_inj, zipD]; first | done | rfl
      | _ => (simp [bd, at_run, b_middle_meet, q1, q2, n1, n2, mm, tagM, strOf_inj]; first | done | rfl)
    | pair a b' =>
      cases b with
      | any => exact absurd rfl e2
      | never => exact absurd rfl e4
      | pair c d =>
        simp only [dM] at h ha hb
        have i1 := ih a c (by omega) (by omega) (by omega)
        have i2 := ih b' d (by omega) (by omega) (by omega)
        have m1 := mm_dep a c
        have m2 := mm_dep b' d
        have nn := in_nev (a := mm a c) (b := mm b' d) (by omega) (by omega)
        by_cases hh : mm a c = .never ∨ mm b' d = .never
        · have hd : (decide (mm a c = .never) || decide (mm b' d = .never)) = true := by simpa using hh
          rw [hd] at nn
          simp [bd, at_run, b_middle_meet, q1, q2, n1, n2, mm, tagM, strOf_inj, zipD, compD_cons, i1, i2, nn, hh]; first | done | rfl
        · have hd : (decide (mm a c = .never) || decide (mm b' d = .never)) = false := by simpa using hh
          rw [hd] at nn
          simp only [mm, if_neg hh]
          simp [bd, at_run, b_middle_meet, q1, q2, n1, n2, tagM, strOf_inj, zipD, compD_cons, i1, i2, nn, l2]
      | _ => (simp [bd, at_run, b_middle_meet, q1, q2, n1, n2, mm, tagM, strOf_inj]; first | done | rfl)
    | list a =>
      cases b with
      | any => exact absurd rfl e2
      | never => exact absurd rfl e4
      | list c =>
        simp only [dM] at h ha hb
        have i1 := ih a c (by omega) (by omega) (by omega)
        simp [bd, at_run, b_middle_meet, q1, q2, n1, n2, mm, tagM, strOf_inj, zipD, compD_cons, i1, l3]
      | _ => (simp [bd, at_run, b_middle_meet, q1, q2, n1, n2, mm, tagM, strOf_inj]; first | done | rfl)
/-! what goes -/
theorem go_items {n : Nat} {z0 : Sl} {a : Md} : ∀ xs : List Va, (∀ x ∈ xs, G n .f_goes [ev x, em a] = some (.bl (goV x a), false, [])) →
    compD [2] (hNm 2) tYesD (shW (gCallD [false, false] (G n .f_goes) [] (gVa (gNm 2) (gVa (gOp2 ixD (oNm 1) (oD (fun ρ => some (.int 1, ρ)))) (fun ρ => some ([], ρ)))))) (evs xs) [z0, .sh (em (.list a)), .no] = some (xs.map fun x => .bl (goV x a), [z0, .sh (em (.list a)), .no])
  | [], h => by simp [evs]
  | x :: xs, h => by
    have e := h x List.mem_cons_self
    have ih := go_items (z0 := z0) xs fun y m => h y (List.mem_cons_of_mem _ m)
    simp only [evs, List.map_cons]
    rw [compD_cons]
    simp [e]
    exact ih
theorem all_go {a : Md} : ∀ xs : List Va, allD (.lst (xs.map fun x => .bl (goV x a))) = some (.bl (goL xs a))
  | [] => by simp [goL]; try rfl
  | x :: xs => by
    have := all_go (a := a) xs
    simp only [all_at, List.map_cons] at this ⊢
    cases h : blsOf (xs.map fun x => D.bl (goV x a)) with
    | none => rw [h] at this; cases this
    | some bs =>
      rw [h] at this
      simp at this
      simp [blsOf, h, goL, ← this]
theorem goes_ok : ∀ (n : Nat) (x : Va) (m : Md), dM m < n → dM m ≤ 40 → sm x → G n .f_goes [ev x, em m] = some (.bl (goV x m), false, [])
  | 0, x, m, h, _, _ => absurd h (by omega)
  | n + 1, x, m, h, hm, hs => by
    have ih := goes_ok n
    have q1 := eq_any (m := m) (by omega)
    have n1 := eq_nev (m := m) (by omega)
    have ei : ∀ i, ixD (ev (.int i)) (.int 0) = some (.str "int") := fun i => by simp [ev]
    have eb : ∀ i, ixD (ev (.bool i)) (.int 0) = some (.str "bool") := fun i => by simp [ev]
    have et : ∀ g u, ixD (ev (.tag g u)) (.int 0) = some (.str "tag") := fun g u => by simp [ev]
    have ep : ∀ x y, ixD (ev (.pair x y)) (.int 0) = some (.str "pair") := fun x y => by simp [ev]
    have el : ∀ xs, ixD (ev (.items xs)) (.int 0) = some (.str "items") := fun xs => by simp [ev]
    rw [G_succ]
    cases m with
    | any => simp [bd, at_run, b_goes, q1]
    | never => simp [bd, at_run, b_goes, q1, n1]
    | int => cases x <;> simp [bd, at_run, b_goes, q1, n1, tagM, strOf_inj, goV, ei, eb, et, ep, el]
    | bool => cases x <;> simp [bd, at_run, b_goes, q1, n1, tagM, strOf_inj, goV, ei, eb, et, ep, el]
    | pair a b =>
      simp only [dM] at h hm
      cases x with
      | pair x y =>
        unfold sm at hs
        have i1 := ih x a (by omega) (by omega) hs.1
        have i2 := ih y b (by omega) (by omega) hs.2
        cases hg : goV x a <;> rw [hg] at i1 <;> simp [bd, at_run, b_goes, q1, n1, tagM, strOf_inj, goV, ep, i1, i2, hg]
      | _ => simp [bd, at_run, b_goes, q1, n1, tagM, strOf_inj, goV, ei, eb, et, ep, el]
    | list a =>
      simp only [dM] at h hm
      cases x with
      | items xs =>
        unfold sm at hs
        have i := go_items (n := n) (z0 := .sh (ev (.items xs))) (a := a) xs fun x m => ih x a (by omega) (by omega) (smL_mem hs.2 x m)
        have al := all_go (a := a) xs
        have hx : xs.length ≤ 100000 := by omega
        simp only [all_at] at al
        obtain ⟨bs, b1, b2⟩ := Option.map_eq_some_iff.mp al
        simp [bd, at_run, b_goes, q1, n1, tagM, strOf_inj, goV, el, i, hx, b1] at b2 ⊢
        first | exact b2 | simpa using b2
      | _ => simp [bd, at_run, b_goes, q1, n1, tagM, strOf_inj, goV, ei, eb, et, ep, el]
end K96

namespace K96
open DV L2 PySem PySem.Spec PyProof.Rows
structure Lay where
  a : Ty
  b : Ty
  j : Nat
def ct (k : Ty) : D := .tup [.str "cell", enc k]
def nmD (j : Nat) (s : Bool) : D := .tup [.tup [.int j], .bl s]
def cellD (t : Nat) : List Lay → D
  | [] => .tup [.str "cell", .int t]
  | l :: r => .tup [.str "around", cellD t r, ct l.a, ct l.b, nmD l.j true]
def st (vs : List Va) : D := .ins "Store" ["kept"] [true] [.lst (evs vs)]
abbrev Rs := Va ⊕ D
def rsD : Rs → D
  | .inl v => .tup [.str "ok", ev v]
  | .inr nm => .tup [.str "blame", nm]
@[simp] theorem rsD_inl {v} : rsD (.inl v) = .tup [.str "ok", ev v] := rfl
@[simp] theorem rsD_inr {nm} : rsD (.inr nm) = .tup [.str "blame", nm] := rfl
def stepR (k d : Ty) (nm : D) (v : Va) : Rs := match cast k d v with
  | some w => .inl w
  | none => .inr nm
def rdR : List Lay → Va → Rs
  | [], v => .inl v
  | l :: r, v => match rdR r v with
    | .inl u => stepR l.a l.b (nmD l.j true) u
    | .inr e => .inr e
def wrR : List Lay → Va → Rs
  | [], v => .inl v
  | l :: r, v => match stepR l.b l.a (nmD l.j false) v with
    | .inl u => wrR r u
    | .inr e => .inr e
/-- the layers lead from k0 (within) to km (outside) -/
def chn : List Lay → Ty → Ty → Prop
  | [], k0, km => k0 = km
  | l :: r, k0, km => l.b = km ∧ alk l.a l.b = true ∧ alk l.b l.a = true ∧ dep l.a ≤ 3 ∧ dep l.b ≤ 3 ∧ chn r k0 l.a
theorem any_val {n : Nat} {k d : Ty} {v : Va} (hn : 28 ≤ n) (ha : alk k d = true) (hv : has k v) (hs : sm v) (dk : dep k ≤ 3) (dd : dep d ≤ 3) (nm : D) : G (n + 1) .f_cast_any [ev v, enc k, enc d, nm] = some (rsD (stepR k d nm v), false, []) := by
  have e := cast_ok n k d v ha hv hs (by omega) (by omega) (by omega) nm
  have q1 := eq_enc (a := k) (b := d) (by omega) (by omega)
  have e2 : rs nm (cast k d v) = rsD (stepR k d nm v) := by unfold stepR; cases cast k d v <;> rfl
  rw [e2] at e
  rw [G_succ]
  have hne : (decide (tag k = Str.ofString "cell")) = false := by cases k <;> simp [strOf_inj]
  by_cases h : k = d
  · simp only [h, decide_true] at q1 e ⊢
    simp [bd, at_run, b_cast_any, q1, e]
  · simp only [h, decide_false] at q1
    simp [bd, at_run, b_cast_any, q1, e, hne]
theorem okP_ct {k : Ty} (h : dep k ≤ 50) : okPy (ct k) = true := by
  have s : PyData.strOk "cell" = true := by decide +kernel
  unfold okPy SeqAt.shaped ct
  simp [toPy, toPyL, PyData.canLay0, PyData.canLayAll0, enc_lay k, s, PyData.depth, PyData.depthAll, enc_dep k]
  omega
theorem eq_ct {k d : Ty} (hk : dep k ≤ 50) (hd : dep d ≤ 50) : eqD (ct k) (ct d) = some (.bl (decide (k = d))) := by
  have : eqS (ct k) (ct d) = none := rfl
  unfold eqD
  rw [this, eqP_ok (okP_ct hk) (okP_ct hd)]
  simp [ct, toPy, toPyL, PyData.eqv, PyData.eqvAll, eqv_enc]
theorem any_cell {n : Nat} {k d : Ty} (c nm : D) (dk : dep k ≤ 3) (dd : dep d ≤ 3) : G (n + 2) .f_cast_any [c, ct k, ct d, nm] = some (.tup [.str "ok", if k = d then c else .tup [.str "around", c, ct k, ct d, nm]], false, []) := by
  have q1 := eq_ct (k := k) (d := d) (by omega) (by omega)
  have i0 : ixD (ct k) (.int 0) = some (.str "cell") := rfl
  rw [G_succ]
  by_cases h : k = d
  · subst h
    simp only [decide_true] at q1
    have e : G (n + 1) .f_cast_value [c, ct k, ct k, nm] = some (.tup [.str "ok", c], false, []) := by
      rw [G_cv]
      simp [bd, at_run, b_cast_value, q1]
    simp [bd, at_run, b_cast_any, q1, e]
  · simp only [h, decide_false] at q1
    simp [bd, at_run, b_cast_any, q1, i0, h]
theorem init_ok (n : Nat) : G (n + 1) .f_Store___init__ [.ins "Store" [] [] []] = some (.non, false, [st []]) := by
  rw [G_succ]
  simp [bd, at_run, b_Store___init__, isC, st, evs]
theorem make_ok (n : Nat) (vs : List Va) (v : Va) (hl : vs.length < 1000) : G (n + 1) .f_Store_make [st vs, ev v] = some (.tup [.str "cell", .int vs.length], false, [st (vs ++ [v])]) := by
  have hz : vs.length < 100000 := by omega
  have e2 : evs vs ++ [ev v] = evs (vs ++ [v]) := by rw [← evs_app]; rfl
  rw [G_succ]
  simp [bd, at_run, b_Store_make, st, strOf_inj, hz, evs_len, e2]
theorem getE : ∀ (vs : List Va) (t : Nat), (evs vs)[t]? = vs[t]?.map ev
  | [], t => by simp [evs]
  | v :: vs, 0 => by simp [evs]
  | v :: vs, t + 1 => by simp [evs, getE vs t]
theorem setE : ∀ (vs : List Va) (t : Nat) (w : Va), (evs vs).set t (ev w) = evs (vs.set t w)
  | [], t, w => by simp [evs]
  | v :: vs, 0, w => by simp [evs]
  | v :: vs, t + 1, w => by simp [evs, setE vs t w]
@[simp] theorem cell0 {t l r} : ixD (cellD t (l :: r)) (.int 0) = some (.str "around") := by simp [cellD]
@[simp] theorem cell1 {t l r} : ixD (cellD t (l :: r)) (.int 1) = some (cellD t r) := by simp [cellD]
@[simp] theorem cell2 {t l r} : ixD (cellD t (l :: r)) (.int 2) = some (ct l.a) := by simp [cellD]
@[simp] theorem cell3 {t l r} : ixD (cellD t (l :: r)) (.int 3) = some (ct l.b) := by simp [cellD]
@[simp] theorem cell4 {t l r} : ixD (cellD t (l :: r)) (.int 4) = some (nmD l.j true) := by simp [cellD]
@[simp] theorem celln0 {t} : ixD (cellD t []) (.int 0) = some (.str "cell") := by simp [cellD]
@[simp] theorem celln1 {t : Nat} : ixD (cellD t []) (.int 1) = some (.int t) := by simp [cellD]
@[simp] theorem ct1 {k} : ixD (ct k) (.int 1) = some (enc k) := by simp [ct]
theorem read_ok : ∀ (L : List Lay) (n t : Nat) (vs : List Va) (v0 : Va) (k0 km : Ty), vs[t]? = some v0 → has k0 v0 → sm v0 → chn L k0 km → L.length + 30 ≤ n →
    G n .f_Store_read [st vs, cellD t L] = some (rsD (rdR L v0), false, [st vs]) ∧ (∀ u, rdR L v0 = .inl u → kp km v0 u)
  | [], n, t, vs, v0, k0, km, ht, hv, hs, hc, hn => by
    obtain ⟨m, rfl⟩ : ∃ m, n = m + 1 := ⟨n - 1, by omega⟩
    unfold chn at hc
    subst hc
    refine ⟨?_, fun u e => by simp [rdR] at e; subst e; exact ⟨hv, hs, Nat.le_refl _⟩⟩
    rw [G_succ]
    simp [bd, at_run, b_Store_read, st, strOf_inj, getE, ht, rdR]
  | l :: r, n, t, vs, v0, k0, km, ht, hv, hs, hc, hn => by
    obtain ⟨m, rfl⟩ : ∃ m, n = m + 1 := ⟨n - 1, by omega⟩
    unfold chn at hc
    obtain ⟨rfl, h1, h2, d1, d2, hc⟩ := hc
    simp only [List.length_cons] at hn
    obtain ⟨e, typ⟩ := read_ok r m t vs v0 k0 l.a ht hv hs hc (by omega)
    cases hr : rdR r v0 with
    | inr nm =>
      rw [hr] at e
      refine ⟨?_, fun u z => by simp [rdR, hr] at z⟩
      rw [G_succ]
      simp at e
      unfold st at e ⊢
      simp [bd, at_run, b_Store_read, strOf_inj, e, rdR, hr]
    | inl u =>
      rw [hr] at e
      obtain ⟨k1, k2, k3⟩ := typ u hr
      obtain ⟨m', rfl⟩ : ∃ m', m = m' + 1 := ⟨m - 1, by omega⟩
      have e2 := any_val (n := m') (by omega) h1 k1 k2 d1 d2 (nmD l.j true)
      refine ⟨?_, fun w z => ?_⟩
      · rw [G_succ]
        simp at e
        unfold st at e ⊢
        simp [bd, at_run, b_Store_read, strOf_inj, e, rdR, hr, e2]
      · simp only [rdR, hr] at z
        unfold stepR at z
        split at z
        · rename_i w' q
          cases z
          obtain ⟨c1, c2, c3⟩ := cast_kp _ _ _ _ h1 k1 k2 q
          exact ⟨c1, c2, by omega⟩
        · cases z

end K96

namespace K96
open DV L2 PySem PySem.Spec PyProof.Rows
/-- what the loop of write ends with -/
def wrEnd (stD : D) (t : Nat) (o : Rs) (r : Option (Fl × DV.Env)) : Prop := match o with
  | .inl w => ∃ x, free x ∧ r = some (.nx, [.bo 0 stD, .sh (cellD t []), .sh (ev w), x])
  | .inr nm => ∃ x y z, r = some (.rt (.tup [.str "blame", nm]) false, [.bo 0 stD, x, y, z])
theorem write_loop {n : Nat} (hn : 30 ≤ n) (stD : D) (t : Nat) : ∀ (L : List Lay) (m : Nat) (v : Va) (k0 km : Ty) (x : Sl), free x → has km v → sm v → chn L k0 km → L.length < m →
    wrEnd stD t (wrR L v) (whileD (gT (gOp2 eqD (oD (gOp2 ixD (oNm 1) (oD (fun ρ => some (.int 0, ρ))))) (oD (fun ρ => some (.str "around", ρ))))) (l_Store_write_0 (G n)) m [.bo 0 stD, .sh (cellD t L), .sh (ev v), x]) ∧ (∀ u, wrR L v = .inl u → kp k0 v u)
  | [], m, v, k0, km, x, hx, hv, hs, hc, hm => by
    obtain ⟨m, rfl⟩ : ∃ m', m = m' + 1 := ⟨m - 1, by omega⟩
    unfold chn at hc
    subst hc
    refine ⟨⟨x, hx, ?_⟩, fun u e => by simp [wrR] at e; subst e; exact ⟨hv, hs, Nat.le_refl _⟩⟩
    rw [whileD_succ]
    simp [strOf_inj]
  | l :: r, m, v, k0, km, x, hx, hv, hs, hc, hm => by
    obtain ⟨m, rfl⟩ : ∃ m', m = m' + 1 := ⟨m - 1, by omega⟩
    unfold chn at hc
    obtain ⟨rfl, h1, h2, d1, d2, hc⟩ := hc
    simp only [List.length_cons] at hm
    obtain ⟨n', rfl⟩ : ∃ n', n = n' + 1 := ⟨n - 1, by omega⟩
    have e2 := any_val (n := n') (by omega) h2 hv hs d2 d1 (nmD l.j false)
    have nm0 : ixD (nmD l.j true) (.int 0) = some (.tup [.int l.j]) := by simp [nmD]
    have nm1 : ixD (nmD l.j true) (.int 1) = some (.bl true) := by simp [nmD]
    have nmf : D.tup [.tup [.int (l.j : Int)], .bl false] = nmD l.j false := rfl
    cases hr : stepR l.b l.a (nmD l.j false) v with
    | inr nm =>
      have hnm : nm = nmD l.j false := by
        unfold stepR at hr
        split at hr
        · cases hr
        · cases hr; rfl
      subst hnm
      rw [hr] at e2
      simp at e2
      refine ⟨?_, fun u z => by simp [wrR, hr] at z⟩
      simp only [wrR, hr]
      refine ⟨.sh (cellD t (l :: r)), .sh (ev v), .sh (.tup [.str "blame", nmD l.j false]), ?_⟩
      rw [whileD_succ]
      simp [strOf_inj, l_Store_write_0, nm0, nm1, nmf, e2, kB_free hx]
    | inl w =>
      rw [hr] at e2
      simp at e2
      have hw : kp l.a v w := by
        unfold stepR at hr
        split at hr
        · rename_i w' q
          cases hr
          exact cast_kp _ _ _ _ h2 hv hs q
        · cases hr
      obtain ⟨k1, k2, k3⟩ := hw
      obtain ⟨q1, q2⟩ := write_loop hn stD t r m w k0 l.a (.sh (.tup [.str "ok", ev w])) trivial k1 k2 hc (by omega)
      refine ⟨?_, fun u z => ?_⟩
      · have step : whileD (gT (gOp2 eqD (oD (gOp2 ixD (oNm 1) (oD (fun ρ => some (.int 0, ρ))))) (oD (fun ρ => some (.str "around", ρ))))) (l_Store_write_0 (G (n' + 1))) (m + 1) [.bo 0 stD, .sh (cellD t (l :: r)), .sh (ev v), x] =
            whileD (gT (gOp2 eqD (oD (gOp2 ixD (oNm 1) (oD (fun ρ => some (.int 0, ρ))))) (oD (fun ρ => some (.str "around", ρ))))) (l_Store_write_0 (G (n' + 1))) m [.bo 0 stD, .sh (cellD t r), .sh (ev w), .sh (.tup [.str "ok", ev w])] := by
          rw [whileD_succ]
          simp [strOf_inj, l_Store_write_0, nm0, nm1, nmf, e2, kB_free hx]
        rw [step]
        simp only [wrR, hr]
        exact q1
      · simp only [wrR, hr] at z
        obtain ⟨c1, c2, c3⟩ := q2 u z
        exact ⟨c1, c2, by omega⟩
theorem write_ok {n t : Nat} {vs : List Va} {L : List Lay} {v : Va} {k0 km : Ty} (hn : 30 ≤ n) (ht : t < vs.length) (hv : has km v) (hs : sm v) (hc : chn L k0 km) (hL : L.length < 100) :
    G (n + 1) .f_Store_write [st vs, cellD t L, ev v] = some (rsD (wrR L v), false, [match wrR L v with | .inl w => st (vs.set t w) | .inr _ => st vs]) ∧ (∀ u, wrR L v = .inl u → kp k0 v u) := by
  obtain ⟨q1, q2⟩ := write_loop hn (st vs) t L 100 v k0 km .no trivial hv hs hc hL
  refine ⟨?_, q2⟩
  rw [G_succ]
  cases hr : wrR L v with
  | inr nm =>
    rw [hr] at q1
    obtain ⟨x, y, z, e⟩ := q1
    simp [bd, at_run, b_Store_write, gWhile, e]
  | inl w =>
    rw [hr] at q1
    obtain ⟨x, hx, e⟩ := q1
    unfold st at e ⊢
    simp [bd, at_run, b_Store_write, gWhile, e, evs_len, ht, setE, strOf_inj]
end K96

namespace K96
open DV L2 PySem PySem.Spec PyProof.Rows
def at_ (K : List Ty) (i : Nat) : Ty := K.getD i .any
/-- the chain is sound -/
structure okA (K : List Ty) : Prop where
  p : 0 < K.length
  l : K.length ≤ 5
  d : ∀ u ∈ K, dep u ≤ 2
  a : ∀ i, i + 1 < K.length → alk (at_ K i) (at_ K (i + 1)) = true
theorem at_mem {K : List Ty} {i : Nat} (h : i < K.length) : at_ K i ∈ K := by
  unfold at_
  rw [List.getD_eq_getElem?_getD, List.getElem?_eq_getElem h]
  exact List.getElem_mem h
theorem at_enc {K : List Ty} {i : Nat} (h : i < K.length) : (K.map enc)[i]? = some (enc (at_ K i)) := by
  unfold at_
  rw [List.getElem?_map, List.getD_eq_getElem?_getD, List.getElem?_eq_getElem h]
  rfl
theorem ix_K {K : List Ty} {i : Nat} (h : i < K.length) : ixD (.lst (K.map enc)) (.int (i : Int)) = some (enc (at_ K i)) := by rw [ix_lst, at_enc h]
theorem ix_K1 {K : List Ty} {i : Nat} (h : i + 1 < K.length) : ixD (.lst (K.map enc)) (.int ((i : Int) + 1)) = some (enc (at_ K (i + 1))) := by
  have := ix_K h
  rwa [show ((i + 1 : Nat) : Int) = (i : Int) + 1 by omega] at this
theorem alk_comm : ∀ a b, alk a b = alk b a := by
  intro a
  induction a with
  | any => intro b; cases b <;> rfl
  | int => intro b; cases b <;> rfl
  | bool => intro b; cases b <;> rfl
  | pair a b iha ihb => intro c; cases c <;> simp [alk, iha, ihb]
  | list a iha => intro c; cases c <;> simp [alk, iha]
theorem alk_self : ∀ a, alk a a = true
  | .any => rfl
  | .int => rfl
  | .bool => rfl
  | .pair a b => by simp [alk, alk_self a, alk_self b]
  | .list a => by simp [alk, alk_self a]
theorem alk_vg : ∀ k t u, alk k t = true → vg t u → alk k u = true := by
  intro k
  induction k with
  | any => intro t u _ _; rfl
  | int => intro t u h g; cases t <;> simp [alk] at h <;> cases u <;> simp [vg] at g <;> rfl
  | bool => intro t u h g; cases t <;> simp [alk] at h <;> cases u <;> simp [vg] at g <;> rfl
  | pair a b iha ihb =>
    intro t u h g
    cases t <;> simp only [alk] at h <;> cases u <;> simp only [vg] at g <;> first | contradiction | rfl | skip
    simp only [alk, Bool.and_eq_true] at h ⊢
    exact ⟨iha _ _ h.1 g.1, ihb _ _ h.2 g.2⟩
  | list a iha =>
    intro t u h g
    cases t <;> simp only [alk] at h <;> cases u <;> simp only [vg] at g <;> first | contradiction | rfl | skip
    simp only [alk] at h ⊢
    exact iha _ _ h g
def sqF (f : Nat → Ty) : Nat → Va → Option Va
  | 0, v => some v
  | j + 1, v => (sqF f j v).bind (cast (f j) (f (j + 1)))
def wsF (f : Nat → Ty) : Nat → Va → Option Va
  | 0, v => some v
  | j + 1, v => (cast (f (j + 1)) (f j) v).bind (wsF f j)
theorem sqF_front (f : Nat → Ty) : ∀ (j : Nat) (v : Va), sqF f (j + 1) v = (cast (f 0) (f 1) v).bind (sqF (fun i => f (i + 1)) j)
  | 0, v => by
    simp only [sqF, Option.bind_some]
    cases cast (f 0) (f (0 + 1)) v <;> rfl
  | j + 1, v => by
    have ih := sqF_front f j v
    have e : sqF f (j + 1 + 1) v = (sqF f (j + 1) v).bind (cast (f (j + 1)) (f (j + 1 + 1))) := rfl
    rw [e, ih]
    cases cast (f 0) (f 1) v <;> rfl
theorem sqF_congr {f g : Nat → Ty} : ∀ {j : Nat}, (∀ i, i ≤ j → f i = g i) → ∀ v, sqF f j v = sqF g j v
  | 0, _, v => rfl
  | j + 1, h, v => by simp only [sqF, sqF_congr (f := f) (g := g) (j := j) fun i hi => h i (by omega), h j (by omega), h (j + 1) (by omega)]
theorem wsF_sq (f : Nat → Ty) : ∀ (j : Nat) (v : Va), wsF f j v = sqF (fun i => f (j - i)) j v
  | 0, v => rfl
  | j + 1, v => by
    rw [sqF_front]
    simp only [wsF]
    have e : (fun i => f (j + 1 - (i + 1))) = fun i => f (j - i) := by funext i; rw [Nat.add_sub_add_right]
    have e2 : wsF f j = sqF (fun i => f (j - i)) j := funext fun v => wsF_sq f j v
    rw [e, e2]
    rfl
def allF (f : Nat → Ty) (x : Va) : Nat → Bool
  | 0 => fit x (f 0)
  | j + 1 => allF f x j && fit x (f (j + 1))
/-- how a row of types goes -/
def rowOk (f : Nat → Ty) (m : Nat) : Prop := ∀ i, i < m → alk (f i) (f (i + 1)) = true
theorem sq_tells {f : Nat → Ty} {v : Va} (hv : has (f 0) v) (hs : sm v) : ∀ (j : Nat), rowOk f j → (sqF f j v).isSome = allF f (bare v) j ∧ ∀ u, sqF f j v = some u → kp (f j) v u ∧ bare u = bare v
  | 0, _ => ⟨by simp [sqF, allF, has_fit v _ hv], fun u e => by simp [sqF] at e; subst e; exact ⟨⟨hv, hs, Nat.le_refl _⟩, rfl⟩⟩
  | j + 1, h => by
    obtain ⟨i1, i2⟩ := sq_tells hv hs j fun i hi => h i (by omega)
    have al := h j (by omega)
    simp only [sqF, allF, ← i1]
    cases hq : sqF f j v with
    | none => simp
    | some u =>
      obtain ⟨k, b⟩ := i2 u hq
      obtain ⟨t1, t2⟩ := cast_tells (f j) (f (j + 1)) u al k.1
      rw [b] at t1
      simp only [Option.bind_some, Option.isSome_some, Bool.true_and]
      refine ⟨t1, fun w e => ?_⟩
      have := cast_kp _ _ _ _ al k.1 k.2.1 e
      exact ⟨⟨this.1, this.2.1, Nat.le_trans this.2.2 k.2.2⟩, by rw [t2 w e, b]⟩
def layN (K : List Ty) : Nat → List Lay
  | 0 => []
  | j + 1 => if at_ K j = at_ K (j + 1) then layN K j else ⟨at_ K j, at_ K (j + 1), j⟩ :: layN K j
theorem layN_len (K : List Ty) : ∀ j, (layN K j).length ≤ j
  | 0 => Nat.le_refl _
  | j + 1 => by
    have := layN_len K j
    simp only [layN]
    split
    · omega
    · simp only [List.length_cons]; omega
theorem layN_chn {K : List Ty} (h : okA K) : ∀ j, j < K.length → chn (layN K j) (at_ K 0) (at_ K j)
  | 0, _ => by simp [layN, chn]
  | j + 1, hj => by
    have ih := layN_chn h j (by omega)
    simp only [layN]
    split
    · rename_i e
      rw [← e]; exact ih
    · have m1 := h.d _ (at_mem (K := K) (i := j) (by omega))
      have m2 := h.d _ (at_mem (K := K) (i := j + 1) hj)
      exact ⟨rfl, h.a j hj, by rw [alk_comm]; exact h.a j hj, by show dep (at_ K j) ≤ 3; omega, by show dep (at_ K (j + 1)) ≤ 3; omega, ih⟩
theorem rd_sq {K : List Ty} (h : okA K) {v : Va} (hv : has (at_ K 0) v) (hs : sm v) : ∀ j, j < K.length → (∀ u, sqF (at_ K) j v = some u → rdR (layN K j) v = .inl u) ∧ (sqF (at_ K) j v = none → ∃ i, rdR (layN K j) v = .inr (nmD i true))
  | 0, _ => ⟨fun u e => by simp [sqF] at e; subst e; rfl, fun e => by simp [sqF] at e⟩
  | j + 1, hj => by
    obtain ⟨i1, i2⟩ := rd_sq h hv hs j (by omega)
    obtain ⟨t1, t2⟩ := sq_tells hv hs j fun i hi => h.a i (by omega)
    simp only [layN, sqF]
    cases hq : sqF (at_ K) j v with
    | none =>
      obtain ⟨i, hi⟩ := i2 hq
      simp only [Option.bind_none]
      refine ⟨fun u e => (by cases e), fun _ => ?_⟩
      split
      · exact ⟨i, hi⟩
      · exact ⟨i, by simp only [rdR, hi]⟩
    | some u =>
      have hr := i1 u hq
      obtain ⟨k, b⟩ := t2 u hq
      simp only [Option.bind_some]
      split
      · rename_i e
        rw [← e, cast_self _ _ k.1]
        exact ⟨fun w z => (by cases z; exact hr), fun z => (by cases z)⟩
      · cases hc : cast (at_ K j) (at_ K (j + 1)) u with
        | none => exact ⟨fun w z => (by cases z), fun _ => ⟨j, by simp only [rdR, hr, stepR, hc]⟩⟩
        | some w => exact ⟨fun w' z => (by cases z; simp only [rdR, hr, stepR, hc]), fun z => (by cases z)⟩
theorem wr_sq {K : List Ty} (h : okA K) : ∀ j v, j < K.length → has (at_ K j) v → sm v → (∀ u, wsF (at_ K) j v = some u → wrR (layN K j) v = .inl u ∧ kp (at_ K 0) v u ∧ bare u = bare v) ∧ (wsF (at_ K) j v = none → ∃ i, wrR (layN K j) v = .inr (nmD i false))
  | 0, v, _, hv, hs => ⟨fun u e => by simp [wsF] at e; subst e; exact ⟨rfl, ⟨hv, hs, Nat.le_refl _⟩, rfl⟩, fun e => by simp [wsF] at e⟩
  | j + 1, v, hj, hv, hs => by
    have al : alk (at_ K (j + 1)) (at_ K j) = true := by rw [alk_comm]; exact h.a j hj
    simp only [wsF, layN]
    cases hc : cast (at_ K (j + 1)) (at_ K j) v with
    | none =>
      simp only [Option.bind_none]
      refine ⟨fun u e => (by cases e), fun _ => ?_⟩
      split
      · rename_i e
        rw [e, cast_self _ _ hv] at hc
        cases hc
      · exact ⟨j, by simp only [wrR, stepR, hc]⟩
    | some w =>
      have k := cast_kp _ _ _ _ al hv hs hc
      have b := (cast_tells _ _ _ al hv).2 w hc
      obtain ⟨i1, i2⟩ := wr_sq h j w (by omega) k.1 k.2.1
      simp only [Option.bind_some]
      have e0 : wrR (if at_ K j = at_ K (j + 1) then layN K j else ⟨at_ K j, at_ K (j + 1), j⟩ :: layN K j) v = wrR (layN K j) w := by
        split
        · rename_i e
          rw [e, cast_self _ _ hv] at hc
          cases hc
          rfl
        · simp only [wrR, stepR, hc]
      rw [e0]
      refine ⟨fun u z => ?_, i2⟩
      obtain ⟨q1, q2, q3⟩ := i1 u z
      exact ⟨q1, ⟨q2.1, q2.2.1, Nat.le_trans q2.2.2 k.2.2⟩, by rw [q3, b]⟩
/-! the coercion of a row -/
def rowC (f : Nat → Ty) : Nat → Co
  | 0 => ofc (0, true) (f 0) (f 0)
  | j + 1 => tog (rowC f j) (ofc (j, true) (f j) (f (j + 1)))
theorem hC_up : ∀ k, hC (up k) ≤ dep k
  | .any => by simp [up, hC]
  | .int => by simp [up, hC]
  | .bool => by simp [up, hC]
  | .pair a b => by have := hC_up a; have := hC_up b; simp only [up, hC, dep]; omega
  | .list a => by have := hC_up a; simp only [up, hC, dep]; omega
theorem hC_dn (p : Nn) : ∀ k, hC (dn p k) ≤ dep k
  | .any => by simp [dn, hC]
  | .int => by simp [dn, hC]
  | .bool => by simp [dn, hC]
  | .pair a b => by have := hC_dn p a; have := hC_dn p b; simp only [dn, hC, dep]; omega
  | .list a => by have := hC_dn p a; simp only [dn, hC, dep]; omega
theorem hC_ofc (p : Nn) : ∀ k d, alk k d = true → hC (ofc p k d) ≤ max (dep k) (dep d)
  | .any, d, _ => by have := hC_dn p d; simp only [ofc]; omega
  | .int, d, al => by cases d <;> simp [alk] at al <;> simp [ofc, hC, up]
  | .bool, d, al => by cases d <;> simp [alk] at al <;> simp [ofc, hC, up]
  | .pair a b, d, al => by
    cases d with
    | any => have := hC_up (.pair a b); simp only [ofc]; omega
    | pair c d =>
      simp only [alk, Bool.and_eq_true] at al
      have := hC_ofc p a c al.1
      have := hC_ofc p b d al.2
      simp only [ofc, hC, dep]; omega
    | _ => simp [alk] at al
  | .list a, d, al => by
    cases d with
    | any => have := hC_up (.list a); simp only [ofc]; omega
    | list c =>
      simp only [alk] at al
      have := hC_ofc p a c al
      simp only [ofc, hC, dep]; omega
    | _ => simp [alk] at al
theorem row_wt {f : Nat → Ty} : ∀ (j : Nat), rowOk f j → (∀ i, i ≤ j → dep (f i) ≤ 2) → wt (rowC f j) (f 0) (f j) ∧ hC (rowC f j) ≤ 2
  | 0, _, hd => ⟨ofc_wt _ _ _ (alk_self _), by have := hC_ofc (0, true) (f 0) (f 0) (alk_self _); have := hd 0 (Nat.le_refl _); simp only [rowC]; omega⟩
  | j + 1, h, hd => by
    obtain ⟨i1, i2⟩ := row_wt j (fun i hi => h i (by omega)) fun i hi => hd i (by omega)
    have al := h j (by omega)
    obtain ⟨t1, t2⟩ := tog_wt _ _ _ _ _ i1 (ofc_wt (j, true) (f j) (f (j + 1)) al)
    have := hC_ofc (j, true) (f j) (f (j + 1)) al
    have := hd j (by omega)
    have := hd (j + 1) (by omega)
    exact ⟨t1, by simp only [rowC]; omega⟩
theorem row_bend {f : Nat → Ty} {v : Va} (hv : has (f 0) v) (hs : sm v) : ∀ (j : Nat), rowOk f j → (∀ i, i ≤ j → dep (f i) ≤ 2) → bendV (rowC f j) v = sqF f j v
  | 0, _, _ => by simp only [rowC, sqF]; rw [ofc_bend _ _ _ _ (alk_self _) hv, cast_self _ _ hv]
  | j + 1, h, hd => by
    have ih := row_bend hv hs j (fun i hi => h i (by omega)) fun i hi => hd i (by omega)
    obtain ⟨w1, _⟩ := row_wt j (fun i hi => h i (by omega)) fun i hi => hd i (by omega)
    have al := h j (by omega)
    simp only [rowC, sqF]
    rw [tog_bend _ _ _ _ _ v w1 (ofc_wt (j, true) (f j) (f (j + 1)) al) hv, ih]
    cases hq : sqF f j v with
    | none => rfl
    | some u =>
      have k := ((sq_tells hv hs j fun i hi => h i (by omega)).2 u hq).1
      exact ofc_bend _ _ _ _ al k.1
end K96

namespace K96
open DV L2 PySem PySem.Spec PyProof.Rows
theorem okA.row {K : List Ty} (h : okA K) : rowOk (at_ K) (K.length - 1) := fun i hi => h.a i (by omega)
theorem okA.dp {K : List Ty} (h : okA K) {i : Nat} (hi : i < K.length) : dep (at_ K i) ≤ 2 := h.d _ (at_mem hi)
theorem at_rev {K : List Ty} {i : Nat} (h : i < K.length) : at_ K.reverse i = at_ K (K.length - 1 - i) := by
  unfold at_
  rw [List.getD_eq_getElem?_getD, List.getD_eq_getElem?_getD, List.getElem?_reverse h]
theorem okA.rev {K : List Ty} (h : okA K) : okA K.reverse := by
  refine ⟨by simpa using h.p, by simpa using h.l, fun u m => h.d u (by simpa using m), fun i hi => ?_⟩
  rw [List.length_reverse] at hi
  rw [at_rev (by omega), at_rev hi, alk_comm]
  have := h.a (K.length - 1 - (i + 1)) (by omega)
  rwa [show K.length - 1 - (i + 1) + 1 = K.length - 1 - i by omega] at this
theorem ws_rev {K : List Ty} (h : okA K) (v : Va) : wsF (at_ K) (K.length - 1) v = sqF (at_ K.reverse) (K.length - 1) v := by
  rw [wsF_sq]
  exact sqF_congr (fun i hi => (at_rev (by have := h.p; omega)).symm) v
theorem lrow_ok {K : List Ty} (h : okA K) {n : Nat} (hn : 20 ≤ n) : G (n + 1) .f__law_row [.lst (K.map enc)] = some (encC (rowC (at_ K) (K.length - 1)), false, []) := by
  have hp := h.p
  have hl := h.l
  have e0 := ofc_ok n (0, true) (at_ K 0) (at_ K 0) (alk_self _) (by have := h.dp hp; omega) (by have := h.dp hp; omega) (by have := h.dp hp; omega)
  unfold PO at e0
  have i0 := at_enc (K := K) (i := 0) hp
  have n0 : nD (0, true) = .tup [.tup [.int 0], .bl true] := rfl
  rw [n0] at e0
  obtain ⟨ρ', lp, y, hy, rfl⟩ := forD_rng (h := hNm 2) (body := l__law_row_0 (G n)) (n := K.length - 1)
    (I := fun j ρ => ∃ y : Sl, Bd y ∧ ρ = [.sh (.lst (K.map enc)), .sh (encC (rowC (at_ K) j)), y])
    (fun j ρ hj ⟨y, hy, er⟩ => by
      subst er
      have d1 := h.dp (i := j) (by omega)
      have d2 := h.dp (i := j + 1) (by omega)
      have al := h.a j (by omega)
      have eo := ofc_ok n (j, true) (at_ K j) (at_ K (j + 1)) al (by omega) (by omega) (by omega)
      unfold PO at eo
      have nj : nD (j, true) = .tup [.tup [.int j], .bl true] := rfl
      rw [nj] at eo
      have r := row_wt (f := at_ K) j (fun i hi => h.a i (by omega)) fun i hi => h.dp (by omega)
      have hc := hC_ofc (j, true) (at_ K j) (at_ K (j + 1)) al
      have et := together_ok n _ _ _ _ _ r.1 (ofc_wt (j, true) (at_ K j) (at_ K (j + 1)) al) (by omega) (by omega) (by omega)
      have i1 := ix_K (K := K) (i := j) (by omega)
      have i2 := ix_K1 (K := K) (i := j) (by omega)
      refine ⟨.nx, _, ?_, .inl rfl, .sh (.int j), trivial, rfl⟩
      simp only [rowC]
      simp only [ix_lst] at i1
      simp [kB_Bd hy, l__law_row_0, i1, i2, eo, et])
    _ ⟨.no, trivial, rfl⟩
  have c1 : (K.length : Int) - 1 ≤ 100000 := by omega
  have c2 : -100000 ≤ (K.length : Int) - 1 := by omega
  have c3 : ((K.length : Int) - 1).toNat = K.length - 1 := by omega
  rw [G_succ]
  simp only [rowC] at lp
  simp [bd, at_run, b__law_row, i0, e0, c1, c2, c3, lp]
/-! middles of a row -/
theorem mo_self : ∀ k, mo k k = some k
  | .any => rfl
  | .int => rfl
  | .bool => rfl
  | .pair a b => by simp [mo, mo_self a, mo_self b]
  | .list a => by simp [mo, mo_self a]
theorem triple_ok {n : Nat} {a b m : Ty} (hn : 10 ≤ n) (ha : dep a ≤ 3) (hb : dep b ≤ 3) (hm : mo a b = some m) : G (n + 1) .f_triple [enc a, enc b] = some (.tup [enc a, em (toM m), enc b], false, []) := by
  have e := meet_ok n a b (by omega) (by omega) (by omega)
  rw [hm] at e
  simp only [encO_some] at e
  rw [em_toM, G_succ]
  simp [bd, at_run, b_triple, e]
theorem joined_ok {n : Nat} {A B C E : D} {m1 m2 : Md} (hn : 10 ≤ n) (h1 : dM m1 ≤ 3) (h2 : dM m2 ≤ 3) : G (n + 1) .f_joined [.tup [A, em m1, B], .tup [C, em m2, E]] = some (.tup [A, em (mm m1 m2), E], false, []) := by
  have e := mm_ok n m1 m2 (by omega) (by omega) (by omega)
  rw [G_succ]
  simp [bd, at_run, b_joined, e]
theorem slL {x : D} {xs : List D} : slD (.lst (x :: xs)) (some 1) none = some (.lst xs) := by
  have := sl1 (x := x) (xs := xs)
  unfold slD at this ⊢
  simp only at this ⊢
  cases this' : cutD (x :: xs) (some 1) none with
  | nil => rw [this'] at this; simp at this; rw [← this]
  | cons y ys => rw [this'] at this; simp at this; rw [this]
theorem zip_at {K : List Ty} {j : Nat} {d : D} (h : (zipD (K.map enc) ((K.map enc).drop 1))[j]? = some d) : d = .tup [enc (at_ K j), enc (at_ K (j + 1))] ∧ j + 1 < K.length := by
  unfold zipD at h
  rw [List.getElem?_zipWith] at h
  cases h1 : (K.map enc)[j]? with
  | none => rw [h1] at h; simp at h
  | some x =>
    cases h2 : ((K.map enc).drop 1)[j]? with
    | none => rw [h1, h2] at h; simp at h
    | some y =>
      rw [h1, h2] at h
      simp at h
      have hl : j + 1 < K.length := by
        obtain ⟨hh, _⟩ := List.getElem?_eq_some_iff.mp h2
        simp at hh
        omega
      rw [List.getElem?_drop, Nat.add_comm 1 j, at_enc hl] at h2
      rw [at_enc (by omega)] at h1
      cases h1
      cases h2
      exact ⟨h.symm, hl⟩
theorem jall_ok {K : List Ty} (h : okA K) {n : Nat} (hn : 20 ≤ n) : ∃ M : Md, dM M ≤ 2 ∧ (∀ x, goV x M = allF (at_ K) x (K.length - 1)) ∧ G (n + 1) .f_joined_all [.lst (K.map enc)] = some (.tup [enc (at_ K 0), em M, enc (at_ K (K.length - 1))], false, []) := by
  have hp := h.p
  have hl := h.l
  obtain ⟨n, rfl⟩ : ∃ n', n = n' + 1 := ⟨n - 1, by omega⟩
  have e0 := triple_ok (n := n) (by omega) (by have := h.dp hp; omega) (by have := h.dp hp; omega) (mo_self (at_ K 0))
  have i0 := at_enc (K := K) (i := 0) hp
  obtain ⟨ρ', lp, M, y2, y3, dm, go, h2, h3, rfl⟩ := forD_num (h := hTup 2 (hCons (hNm 2) (hCons (hNm 3) hNil))) (body := l_joined_all_0 (G (n + 1))) (items := zipD (K.map enc) ((K.map enc).drop 1)) (i := 0)
    (I := fun j ρ => ∃ (M : Md) (y2 y3 : Sl), dM M ≤ 2 ∧ (∀ x, goV x M = allF (at_ K) x j) ∧ Bd y2 ∧ Bd y3 ∧ ρ = [.sh (.lst (K.map enc)), .sh (.tup [enc (at_ K 0), em M, enc (at_ K j)]), y2, y3])
    (fun j d ρ hd ⟨M, y2, y3, dm, go, h2, h3, er⟩ => by
      rw [Nat.zero_add] at er go ⊢
      subst er
      obtain ⟨rfl, hj⟩ := zip_at hd
      have d1 := h.dp (i := j) (by omega)
      have d2 := h.dp (i := j + 1) (by omega)
      have al := h.a j hj
      rw [mo_alk] at al
      obtain ⟨m, hm⟩ := Option.isSome_iff_exists.mp al
      obtain ⟨g1, g2, g3⟩ := mo_vg _ _ _ hm
      have et := triple_ok (n := n) (by omega) (by omega) (by omega) hm
      have dm' := dM_toM m
      have ej := joined_ok (n := n) (A := enc (at_ K 0)) (B := enc (at_ K j)) (C := enc (at_ K j)) (E := enc (at_ K (j + 1))) (m1 := M) (m2 := toM m) (by omega) (by omega) (by omega)
      refine ⟨.nx, _, ?_, .inl rfl, mm M (toM m), .sh (enc (at_ K j)), .sh (enc (at_ K (j + 1))), by have := mm_dep M (toM m); omega, fun x => ?_, trivial, trivial, rfl⟩
      · simp [kB_Bd h2, kB_Bd h3, l_joined_all_0, et, ej]
      · simp only [allF]
        rw [goV_mm, go, goV_toM, mo_fit x _ _ _ hm]
        have : ∀ j, allF (at_ K) x j = (allF (at_ K) x j && fit x (at_ K j)) := by
          intro j
          cases j with
          | zero => simp [allF]
          | succ j => simp only [allF]; cases allF (at_ K) x j <;> cases fit x (at_ K (j + 1)) <;> rfl
        rw [this j]
        cases allF (at_ K) x j <;> cases fit x (at_ K j) <;> rfl)
    _ ⟨toM (at_ K 0), .no, .no, by rw [dM_toM]; exact h.dp hp, fun x => by rw [goV_toM]; rfl, trivial, trivial, rfl⟩
  have hlen : (zipD (K.map enc) ((K.map enc).drop 1)).length = K.length - 1 := by unfold zipD; simp
  rw [hlen, Nat.zero_add] at go lp
  refine ⟨M, dm, go, ?_⟩
  obtain ⟨k, r, hk⟩ : ∃ k r, K = k :: r := by cases K with | nil => simp at hp | cons k r => exact ⟨k, r, rfl⟩
  have sl : slD (.lst (K.map enc)) (some 1) none = some (.lst ((K.map enc).drop 1)) := by rw [hk]; exact slL
  rw [G_succ]
  simp [bd, at_run, b_joined_all, i0, e0, sl]
  simp at lp
  simp [lp]
end K96

namespace K96
open DV L2 PySem PySem.Spec PyProof.Rows
def chA (g : Nm → FnD) : FS := (gIfS (gAnd (gT (gOp2 eqD (oD (gOp2 ixD (oNm 3) (oNm 4))) (oD (gTup (gCons (fun ρ => some (.str "any", ρ)) (fun ρ => some ([], ρ))))))) (gT (gOp2 eqD (oD (shW (gCallD [true, false] (g .f__law_draw) [] (gBo 0 (gVa (fun ρ => some (.int 2, ρ)) (fun ρ => some ([], ρ))))))) (oD (fun ρ => some (.int 0, ρ)))))) (gSet 2 (gCallD [true, false] (g .f__law_plain) [] (gBo 0 (gVa (fun ρ => some (.int 3, ρ)) (fun ρ => some ([], ρ)))))) gSkip)
def chB (g : Nm → FnD) : FD := (gIf (gOr (gT (gOp2 eqD (oD (shW (gCallD [true, false] (g .f__law_draw) [] (gBo 0 (gVa (fun ρ => some (.int 4, ρ)) (fun ρ => some ([], ρ))))))) (oD (fun ρ => some (.int 0, ρ))))) (gNot (gT (shW (gCallD [false, false] (g .f__law_alike) [] (gVa (gOp2 ixD (oNm 3) (oNm 4)) (gVa (gNm 2) (fun ρ => some ([], ρ))))))))) (gTup (gCons (fun ρ => some (.str "any", ρ)) (fun ρ => some ([], ρ)))) (shW (gCallD [true, false] (g .f__law_vaguer) [] (gBo 0 (gVa (gNm 2) (fun ρ => some ([], ρ)))))))
theorem ch_eq (g : Nm → FnD) : l__law_plain_chain_0 g = gSeq (chA g) (gApp 3 (chB g)) := rfl
theorem at_app_end {K : List Ty} {u : Ty} : (K ++ [u]).map enc = K.map enc ++ [enc u] := by simp
theorem at_old {K : List Ty} {u : Ty} {j : Nat} (h : j < K.length) : at_ (K ++ [u]) j = at_ K j := by
  unfold at_
  rw [List.getD_eq_getElem?_getD, List.getD_eq_getElem?_getD, List.getElem?_append_left h]
theorem at_new {K : List Ty} {u : Ty} : at_ (K ++ [u]) K.length = u := by
  unfold at_
  rw [List.getD_eq_getElem?_getD, List.getElem?_append_right (Nat.le_refl _)]
  simp
theorem chain_ok {n : Nat} (hn : 20 ≤ n) {s : Dr} (hs : s.ok) {m : Nat} (hm : m ≤ 4) : ∃ (K : List Ty) (s' : Dr), s'.ok ∧ okA K ∧ G (n + 1) .f__law_plain_chain [s.d, .int m] = some (.lst (K.map enc), true, [s'.d]) := by
  obtain ⟨n, rfl⟩ : ∃ n', n = n' + 1 := ⟨n - 1, by omega⟩
  obtain ⟨b, s1, o1, db, e1⟩ := plain_ok (n + 1) 3 s hs (by omega) (by omega)
  obtain ⟨k, s2, o2, gk, e2⟩ := vaguer_ok (n + 1) b s1 o1 (by omega)
  simp at e1
  have dk := vg_dep b k gk
  obtain ⟨ρ', lp, s', b', K, y, o', db', hK, hl, hy, rfl⟩ := forD_rng (h := hNm 4) (body := l__law_plain_chain_0 (G (n + 1))) (n := m)
    (I := fun j ρ => ∃ (s' : Dr) (b' : Ty) (K : List Ty) (y : Sl), s'.ok ∧ dep b' ≤ 2 ∧ okA K ∧ K.length = j + 1 ∧ Bd y ∧ ρ = [.bo 0 s'.d, .sh (.int m), .sh (enc b'), .ow (.lst (K.map enc)), y])
    (fun j ρ hj ⟨s, b, K, y, o, db, hK, hl, hy, er⟩ => by
      subst er
      have dj := hK.dp (i := j) (by omega)
      have i1 := at_enc (K := K) (i := j) (by omega)
      have q := eq_enc (a := at_ K j) (b := .any) (by omega) (Nat.zero_le _)
      have t0 : D.tup [.str "any"] = enc .any := rfl
      -- a new base, or not
      obtain ⟨s1, b1, o1, db1, c1⟩ : ∃ (s1 : Dr) (b1 : Ty), s1.ok ∧ dep b1 ≤ 2 ∧ chA (G (n + 1)) [.bo 0 s.d, .sh (.int m), .sh (enc b), .ow (.lst (K.map enc)), .sh (.int j)] = some (.nx, [.bo 0 s1.d, .sh (.int m), .sh (enc b1), .ow (.lst (K.map enc)), .sh (.int j)]) := by
        by_cases ha : at_ K j = .any
        · rw [ha] at i1
          have q : eqD (enc .any) (enc .any) = some (.bl true) := eq_enc (Nat.zero_le _) (Nat.zero_le _)
          obtain ⟨v, s1, o1, v0, v2, e⟩ := draw1 (n := n) o (lim := 2) (by omega) (by omega)
          by_cases hv : v = 0
          · subst hv
            obtain ⟨b1, s2, o2, db1, e2⟩ := plain_ok (n + 1) 3 s1 o1 (by omega) (by omega)
            simp at e2
            exact ⟨s2, b1, o2, by omega, by simp [chA, i1, t0, q, e, e2]⟩
          · exact ⟨s1, b, o1, db, by simp [chA, i1, t0, q, e, hv]⟩
        · simp only [ha, decide_false] at q
          exact ⟨s, b, o, db, by simp [chA, i1, t0, q]⟩
      obtain ⟨s2, u, o2, du, al, c2⟩ : ∃ (s2 : Dr) (u : Ty), s2.ok ∧ dep u ≤ 2 ∧ alk (at_ K j) u = true ∧ chB (G (n + 1)) [.bo 0 s1.d, .sh (.int m), .sh (enc b1), .ow (.lst (K.map enc)), .sh (.int j)] = some (enc u, [.bo 0 s2.d, .sh (.int m), .sh (enc b1), .ow (.lst (K.map enc)), .sh (.int j)]) := by
        obtain ⟨v, s2, o2, v0, v4, e⟩ := draw1 (n := n) o1 (lim := 4) (by omega) (by omega)
        by_cases hv : v = 0
        · subst hv
          exact ⟨s2, .any, o2, by simp [dep], by cases at_ K j <;> rfl, by simp [chB, e]; first | done | rfl⟩
        · have la := lalike_ok (n + 1) (at_ K j) b1 (by omega) (by omega) (by omega)
          cases h : alk (at_ K j) b1 with
          | false =>
            rw [h] at la
            exact ⟨s2, .any, o2, by simp [dep], by cases at_ K j <;> rfl, by simp [chB, e, hv, i1, la]; first | done | rfl⟩
          | true =>
            rw [h] at la
            obtain ⟨u, s3, o3, gu, e3⟩ := vaguer_ok (n + 1) b1 s2 o2 (by omega)
            exact ⟨s3, u, o3, by have := vg_dep b1 u gu; omega, alk_vg _ _ _ h gu, by simp [chB, e, hv, i1, la, e3]⟩
      refine ⟨.nx, [.bo 0 s2.d, .sh (.int m), .sh (enc b1), .ow (.lst ((K ++ [u]).map enc)), .sh (.int j)], ?_, .inl rfl, s2, b1, K ++ [u], .sh (.int j), o2, db1, ⟨by simp, by simp; omega, fun w mw => ?_, fun i hi => ?_⟩, by simp; omega, trivial, rfl⟩
      · have hz : K.length < 100000 := by omega
        show (bind1 4 (.int j) false [.bo 0 s.d, .sh (.int m), .sh (enc b), .ow (.lst (K.map enc)), y]).bind _ = _
        rw [at_bind1]
        simp only [List.getElem?_cons_succ, List.getElem?_cons_zero]
        rw [kB_Bd hy]
        simp only [Option.bind_some, ch_eq, at_seq]
        show (chA (G (n + 1)) [.bo 0 s.d, .sh (.int m), .sh (enc b), .ow (.lst (K.map enc)), .sh (.int j)]).bind _ = _
        rw [c1]
        simp only [Option.bind_some, kSeq_nx]
        rw [at_app_end]
        have lk : look [.bo 0 s1.d, .sh (.int m), .sh (enc b1), .ow (.lst (K.map enc)), .sh (.int (j : Int))] 3 = some (.lst (K.map enc)) := rfl
        rw [DV.at_app, lk]
        simp only [Option.bind_some, kAp0_lst, c2]
        simp [hz]
      · rcases List.mem_append.mp mw with mw | mw
        · exact hK.d w mw
        · rw [List.mem_singleton.mp mw]; exact du
      · simp only [List.length_append, List.length_cons, List.length_nil] at hi
        by_cases hij : i + 1 < K.length
        · rw [at_old (by omega), at_old hij]; exact hK.a i hij
        · have : i = j := by omega
          subst this
          rw [at_old (by omega), show i + 1 = K.length by omega, at_new]; exact al)
    _ ⟨s2, b, [k], .no, o2, by omega, ⟨by simp, by simp, fun u mu => by rw [List.mem_singleton.mp mu]; omega, fun i hi => by simp at hi⟩, rfl, trivial, rfl⟩
  refine ⟨K, s', o', hK, ?_⟩
  have c1 : (m : Int) ≤ 100000 := by omega
  have c2 : -100000 ≤ (m : Int) := by omega
  rw [G_succ]
  simp at lp
  simp [bd, at_run, b__law_plain_chain, e1, e2, c1, c2, lp]
end K96

namespace K96
open DV L2 PySem PySem.Spec PyProof.Rows
theorem t_ct {k : Ty} : D.tup [.str "cell", enc k] = ct k := rfl
theorem same_r {n : Nat} {x : D} (h : pln x n) : G (n + 1) .f__law_same [x, x] = some (.bl true, false, []) := same_ok (S := fun n => G n .f__law_same) (fun _ _ => rfl) n x h
theorem G_nS {n : Nat} {ds : List D} : G (n + 1) .n_Store ds = G n .f_Store___init__ ds := by rw [G_succ]; simp only [bd]
mutual
theorem sm_bare : ∀ v : Va, sm v → sm (bare v)
  | .int i, h => by simp only [bare]; exact h
  | .bool i, h => by simp only [bare]; exact h
  | .tag g u, h => by unfold sm at h; simp only [bare]; exact sm_bare u h
  | .pair x y, h => by unfold sm at h; simp only [bare]; unfold sm; exact ⟨sm_bare x h.1, sm_bare y h.2⟩
  | .items xs, h => by unfold sm at h; simp only [bare]; unfold sm; exact ⟨by rw [bares_len]; exact h.1, smL_bare xs h.2⟩
theorem smL_bare : ∀ xs : List Va, smL xs → smL (bares xs)
  | [], h => by simp only [bares]; exact h
  | x :: xs, h => by unfold smL at h; simp only [bares]; unfold smL; exact ⟨sm_bare x h.1, smL_bare xs h.2⟩
end
mutual
theorem pln_bare : ∀ (v : Va), sm v → pln (ev (bare v)) (2 * fdp v + 3)
  | .int i, s => by simp [bare, ev, fdp, pln, plnL]
  | .bool i, s => by simp [bare, ev, fdp, pln, plnL]
  | .pair x y, s => by
    unfold sm at s
    have p1 := pln_bare x s.1
    have p2 := pln_bare y s.2
    simp only [bare, ev, fdp]
    rw [show 2 * (max (fdp x) (fdp y) + 1) + 3 = (2 * max (fdp x) (fdp y) + 4) + 1 by omega]
    simp only [pln, plnL]
    exact ⟨by simp, trivial, pln_mono _ p1 (by omega), pln_mono _ p2 (by omega), trivial⟩
  | .items xs, s => by
    unfold sm at s
    have p := pln_bares xs s.2
    simp only [bare, ev, fdp]
    rw [show 2 * (fdpL xs + 1) + 3 = (2 * fdpL xs + 3) + 1 + 1 by omega]
    simp only [pln, plnL]
    exact ⟨by simp, trivial, ⟨by rw [evs_len, bares_len]; exact s.1, p⟩, trivial⟩
  | .tag g u, s => by
    unfold sm at s
    simp only [bare, fdp]
    exact pln_mono _ (pln_bare u s) (by omega)
theorem pln_bares : ∀ (xs : List Va), smL xs → plnL (evs (bares xs)) (2 * fdpL xs + 3)
  | [], s => by simp [bares, evs, plnL]
  | x :: xs, s => by
    unfold smL at s
    have p := pln_bare x s.1
    have q := pln_bares xs s.2
    have qm : ∀ (l : List D) (n m : Nat), plnL l n → n ≤ m → plnL l m := by
      intro l n m
      induction l with
      | nil => intro _ _; unfold plnL; trivial
      | cons z l ih => intro h hm; unfold plnL at h ⊢; exact ⟨pln_mono z h.1 hm, ih h.2 hm⟩
    simp only [bares, evs, plnL, fdpL]
    exact ⟨pln_mono _ p (by omega), qm _ _ _ q (by omega)⟩
end
theorem loop0 {n : Nat} {K : List Ty} (hK : okA K) {z0 z1 z2 z4 z5 x7 z8 z9 z10 z11 z12 : Sl} (h7 : Bd x7) : ∃ y7, Bd y7 ∧
    forD (hNm 7) (l_law_0 (G (n + 2))) (rngD 0 (K.length - 1)) [z0, z1, z2, .ow (.lst (K.map enc)), z4, z5, .sh (cellD 0 []), x7, z8, z9, z10, z11, z12] =
      some (.nx, [z0, z1, z2, .ow (.lst (K.map enc)), z4, z5, .sh (cellD 0 (layN K (K.length - 1))), y7, z8, z9, z10, z11, z12]) := by
  obtain ⟨ρ', lp, y, hy, rfl⟩ := forD_rng (h := hNm 7) (body := l_law_0 (G (n + 2))) (n := K.length - 1)
    (I := fun j ρ => ∃ y : Sl, Bd y ∧ ρ = [z0, z1, z2, .ow (.lst (K.map enc)), z4, z5, .sh (cellD 0 (layN K j)), y, z8, z9, z10, z11, z12])
    (fun j ρ hj ⟨y, hy, er⟩ => by
      subst er
      have d1 := hK.dp (i := j) (by omega)
      have d2 := hK.dp (i := j + 1) (by omega)
      have i1 := at_enc (K := K) (i := j) (by omega)
      have i2 := ix_K1 (K := K) (i := j) (by omega)
      have ec := any_cell (n := n) (cellD 0 (layN K j)) (nmD j true) (show dep (at_ K j) ≤ 3 by omega) (show dep (at_ K (j + 1)) ≤ 3 by omega)
      have nd : (if at_ K j = at_ K (j + 1) then cellD 0 (layN K j) else .tup [.str "around", cellD 0 (layN K j), ct (at_ K j), ct (at_ K (j + 1)), nmD j true]) = cellD 0 (layN K (j + 1)) := by
        simp only [layN]
        split <;> rfl
      rw [nd] at ec
      have nmf : D.tup [.tup [.int (j : Int)], .bl true] = nmD j true := rfl
      refine ⟨.nx, _, ?_, .inl rfl, .sh (.int j), trivial, rfl⟩
      generalize cellD 0 (layN K (j + 1)) = cc at ec ⊢
      simp [kB_Bd hy, l_law_0, i1, i2, t_ct, nmf, ec])
    _ ⟨x7, h7, rfl⟩
  exact ⟨y, hy, lp⟩
set_option maxHeartbeats 2000000 in
theorem turn1 {n : Nat} (hn : 70 ≤ n) {z0 : Sl} (d : D) {s : Dr} (hs : s.ok) {x2 x3 x4 x5 x6 x7 x8 x9 x10 x11 x12 : Sl} (h2 : Bd x2) (h3 : Bd x3) (h4 : Bd x4) (h5 : Bd x5) (h6 : Bd x6) (h7 : Bd x7) (h8 : Bd x8) (h9 : Bd x9) (h10 : Bd x10) (h11 : Bd x11) (h12 : Bd x12) :
    ∃ (s' : Dr) (y2 y3 y4 y5 y6 y7 y8 y9 y10 y11 y12 : Sl), s'.ok ∧ Bd y2 ∧ Bd y3 ∧ Bd y4 ∧ Bd y5 ∧ Bd y6 ∧ Bd y7 ∧ Bd y8 ∧ Bd y9 ∧ Bd y10 ∧ Bd y11 ∧ Bd y12 ∧
      (hNm 2 d [z0, .ow s.d, x2, x3, x4, x5, x6, x7, x8, x9, x10, x11, x12]).bind (l_law_1 (G n)) = some (.nx, [z0, .ow s'.d, y2, y3, y4, y5, y6, y7, y8, y9, y10, y11, y12]) := by
  obtain ⟨n, rfl⟩ : ∃ n', n = n' + 4 := ⟨n - 4, by omega⟩
  obtain ⟨c, s1, o1, c0', c5, e1⟩ := draw1 (n := n + 3) hs (lim := 5) (by omega) (by omega)
  obtain ⟨m, rfl⟩ : ∃ m : Nat, c = m := ⟨c.toNat, by omega⟩
  obtain ⟨K, s2, o2, hK, e2⟩ := chain_ok (n := n + 3) (by omega) o1 (m := m) (by omega)
  have hp := hK.p
  have hl := hK.l
  have d0 := hK.dp hp
  have dl := hK.dp (i := K.length - 1) (by omega)
  obtain ⟨v, s3, o3, ⟨v1, v2, v3⟩, e3⟩ := value_ok (n + 4) (at_ K 0) 3 s2 o2 (by simp; omega) (by omega)
  simp only [Int.reduceToNat] at v3
  have ei : G (n + 4) .n_Store [.ins "Store" [] [] []] = some (.non, false, [st []]) := by rw [G_nS]; exact init_ok (n + 2)
  have ek := make_ok (n + 3) [] v (by simp)
  obtain ⟨y7, g7, lp⟩ := loop0 (n := n + 2) hK (z0 := z0) (z1 := .ow s3.d) (z2 := .sh d) (z4 := .ow (st [v])) (z5 := .sh (ev v)) (z8 := x8) (z9 := x9) (z10 := x10) (z11 := x11) (z12 := x12) h7
  have hrow := hK.row
  have lrow := lrow_ok hK (n := n + 3) (by omega)
  have lrev := lrow_ok hK.rev (n := n + 3) (by omega)
  rw [List.length_reverse, List.map_reverse] at lrev
  have dp' : ∀ i, i ≤ K.length - 1 → dep (at_ K i) ≤ 2 := fun i hi => hK.dp (by omega)
  have dpr : ∀ i, i ≤ K.length - 1 → dep (at_ K.reverse i) ≤ 2 := fun i hi => hK.rev.dp (by simp; omega)
  have hrr : rowOk (at_ K.reverse) (K.length - 1) := by have := hK.rev.row; rwa [List.length_reverse] at this
  have rw1 := row_wt (f := at_ K) (K.length - 1) hrow dp'
  have rw2 := row_wt (f := at_ K.reverse) (K.length - 1) hrr dpr
  obtain ⟨r, eb, br⟩ := bend_ok (n + 4) _ _ _ v rw1.1 v1 v2 (by omega) (by omega)
  rw [row_bend v1 v2 _ hrow dp'] at br
  have chain := layN_chn hK (K.length - 1) (by omega)
  have ll := layN_len K (K.length - 1)
  obtain ⟨er, _⟩ := read_ok (layN K (K.length - 1)) (n + 4) 0 [v] v _ _ rfl v1 v2 chain (by omega)
  obtain ⟨t1, t2⟩ := sq_tells v1 v2 (K.length - 1) hrow
  obtain ⟨rd1, rd2⟩ := rd_sq hK v1 v2 (K.length - 1) (by omega)
  have f0 : fdp v ≤ 19 := by have := (fdp_ht v _ v1).1; omega
  have ebv := bare_ok (n + 4) v (by omega) v2
  obtain ⟨M, dM', goM, ej⟩ := jall_ok hK (n := n + 3) (by omega)
  have eg := goes_ok (n + 4) (bare v) M (by omega) (by omega) (sm_bare v v2)
  rw [goM, ← t1] at eg
  have iL : ixD (.lst (K.map enc)) (.int ((K.length : Int) - 1)) = some (enc (at_ K (K.length - 1))) := by
    have := ix_K (K := K) (i := K.length - 1) (by omega)
    rwa [show ((K.length - 1 : Nat) : Int) = (K.length : Int) - 1 by omega] at this
  have i0 := at_enc (K := K) (i := 0) hp
  obtain ⟨w, s4, o4, ⟨w1, w2, w3⟩, e4⟩ := value_ok (n + 4) (at_ K (K.length - 1)) 3 s3 o3 (by simp; omega) (by omega)
  simp only [Int.reduceToNat] at w3
  have w1r : has (at_ K.reverse 0) w := by rw [at_rev hp]; exact w1
  obtain ⟨r2, eb2, br2⟩ := bend_ok (n + 4) _ _ _ w rw2.1 w1r w2 (by omega) (by omega)
  rw [row_bend w1r w2 _ hrr dpr, ← ws_rev hK] at br2
  obtain ⟨ew, _⟩ := write_ok (n := n + 3) (t := 0) (vs := [v]) (L := layN K (K.length - 1)) (v := w) (by omega) (by simp) w1 w2 chain (by omega)
  obtain ⟨wr1, wr2⟩ := wr_sq hK (K.length - 1) w (by omega) w1 w2
  have c1 : (K.length : Int) - 1 ≤ 100000 := by omega
  have c2 : -100000 ≤ (K.length : Int) - 1 := by omega
  have c3 : ((K.length : Int) - 1).toNat = K.length - 1 := by omega
  have hc0 : D.tup [.str "cell", .int 0] = cellD 0 [] := rfl
  have ekz : G (n + 4) .f_Store_make [.ins "Store" ["kept"] [true] [.lst []], ev v] = some (cellD 0 [], false, [.ins "Store" ["kept"] [true] [.lst [ev v]]]) := by
    unfold st at ek
    simp only [evs, List.nil_append] at ek
    exact ek
  have fw : fdp w ≤ 19 := by have := (fdp_ht w _ w1).1; omega
  have nv : neD (.lst [ev v]) (.lst [ev v]) = some (.bl false) := ne_self (okN.lst (n := 2 * fdp v + 3) (by simp; exact okN_ev v _ v1)) (by omega)
  have sb : ∀ b : Bool, G (n + 4) .f__law_same [.bl b, .bl b] = some (.bl true, false, []) := fun b => same_r (n := n + 3) (by simp [pln])
  generalize hcc : cellD 0 (layN K (K.length - 1)) = cc at lp er ew
  unfold st at ei er ew lp
  simp only [evs] at ei er ew lp
  cases hq : sqF (at_ K) (K.length - 1) v with
  | none =>
    obtain ⟨i1, hi1⟩ := rd2 hq
    rw [hq] at br eg
    obtain ⟨p1, rfl⟩ := br
    rw [hi1] at er
    simp only [rsD_inr] at er
    simp only [Option.isSome_none] at eg
    cases hw : wsF (at_ K) (K.length - 1) w with
    | none =>
      obtain ⟨i2, hi2⟩ := wr2 hw
      rw [hw] at br2
      obtain ⟨p2, rfl⟩ := br2
      rw [hi2] at ew
      simp only [rsD_inr, evs] at ew
      refine ⟨s4, .sh d, .sh (.lst (K.map enc)), .ow (.ins "Store" ["kept"] [true] [.lst [ev v]]), .sh (ev v), .sh cc, y7, .sh (.tup [.str "blame", nmD i1 true]), .sh (.tup [.str "blame", nD p1]), .sh (ev w), .sh (.tup [.str "blame", nD p2]), .sh (.tup [.str "blame", nmD i2 false]), o4, trivial, trivial, trivial, trivial, trivial, g7, trivial, trivial, trivial, trivial, trivial, ?_⟩
      simp [l_law_1, kB_Bd h2, kB_Bd h3, kB_Bd h4, kB_Bd h5, kB_Bd h6, kB_Bd h7, kB_Bd h8, kB_Bd h9, kB_Bd h10, kB_Bd h11, kB_Bd h12, kB_Bd g7, e1, e2, e3, e4, ei, ekz, i0, hc0, c1, c2, c3, lp, iL, strOf_inj, er, eb, lrow, lrev, ebv, ej, eg, eb2, ew, nv, sb]
    | some x =>
      obtain ⟨q1, q2, q3⟩ := wr1 x hw
      rw [hw] at br2
      have br2' : r2 = .tup [.str "ok", ev x] := br2
      subst br2'
      rw [q1] at ew
      simp only [rsD_inl, List.set_cons_zero, evs] at ew
      have fx : fdp x ≤ 19 := by have := (fdp_ht x _ q2.1).1; have := q2.2.2; omega
      have nx : neD (.lst [ev x]) (.lst [ev x]) = some (.bl false) := ne_self (okN.lst (n := 2 * fdp x + 3) (by simp; exact okN_ev x _ q2.1)) (by omega)
      have shx := shown_ok (n + 4) x (by omega) q2.2.1
      have sx := same_r (n := n + 3) (pln_mono _ (pln_bare x q2.2.1) (by omega))
      refine ⟨s4, .sh d, .sh (.lst (K.map enc)), .ow (.ins "Store" ["kept"] [true] [.lst [ev x]]), .sh (ev v), .sh cc, y7, .sh (.tup [.str "blame", nmD i1 true]), .sh (.tup [.str "blame", nD p1]), .sh (ev w), .sh (.tup [.str "ok", ev x]), .sh (.tup [.str "ok", ev x]), o4, trivial, trivial, trivial, trivial, trivial, g7, trivial, trivial, trivial, trivial, trivial, ?_⟩
      simp [l_law_1, kB_Bd h2, kB_Bd h3, kB_Bd h4, kB_Bd h5, kB_Bd h6, kB_Bd h7, kB_Bd h8, kB_Bd h9, kB_Bd h10, kB_Bd h11, kB_Bd h12, kB_Bd g7, e1, e2, e3, e4, ei, ekz, i0, hc0, c1, c2, c3, lp, iL, strOf_inj, er, eb, lrow, lrev, ebv, ej, eg, eb2, ew, nv, sb, nx, shx, sx]
  | some u =>
    have hu := rd1 u hq
    obtain ⟨k1, b1⟩ := t2 u hq
    rw [hq] at br eg
    have br' : r = .tup [.str "ok", ev u] := br
    subst br'
    rw [hu] at er
    simp only [rsD_inl] at er
    simp only [Option.isSome_some] at eg
    have fu : fdp u ≤ 19 := by have := (fdp_ht u _ k1.1).1; have := k1.2.2; omega
    have shu := shown_ok (n + 4) u (by omega) k1.2.1
    have su := same_r (n := n + 3) (pln_mono _ (pln_bare u k1.2.1) (by omega))
    cases hw : wsF (at_ K) (K.length - 1) w with
    | none =>
      obtain ⟨i2, hi2⟩ := wr2 hw
      rw [hw] at br2
      obtain ⟨p2, rfl⟩ := br2
      rw [hi2] at ew
      simp only [rsD_inr, evs] at ew
      refine ⟨s4, .sh d, .sh (.lst (K.map enc)), .ow (.ins "Store" ["kept"] [true] [.lst [ev v]]), .sh (ev v), .sh cc, y7, .sh (.tup [.str "ok", ev u]), .sh (.tup [.str "ok", ev u]), .sh (ev w), .sh (.tup [.str "blame", nD p2]), .sh (.tup [.str "blame", nmD i2 false]), o4, trivial, trivial, trivial, trivial, trivial, g7, trivial, trivial, trivial, trivial, trivial, ?_⟩
      simp [l_law_1, kB_Bd h2, kB_Bd h3, kB_Bd h4, kB_Bd h5, kB_Bd h6, kB_Bd h7, kB_Bd h8, kB_Bd h9, kB_Bd h10, kB_Bd h11, kB_Bd h12, kB_Bd g7, e1, e2, e3, e4, ei, ekz, i0, hc0, c1, c2, c3, lp, iL, strOf_inj, er, eb, lrow, lrev, ebv, ej, eg, eb2, ew, nv, sb, shu, su]
    | some x =>
      obtain ⟨q1, q2, q3⟩ := wr1 x hw
      rw [hw] at br2
      have br2' : r2 = .tup [.str "ok", ev x] := br2
      subst br2'
      rw [q1] at ew
      simp only [rsD_inl, List.set_cons_zero, evs] at ew
      have fx : fdp x ≤ 19 := by have := (fdp_ht x _ q2.1).1; have := q2.2.2; omega
      have nx : neD (.lst [ev x]) (.lst [ev x]) = some (.bl false) := ne_self (okN.lst (n := 2 * fdp x + 3) (by simp; exact okN_ev x _ q2.1)) (by omega)
      have shx := shown_ok (n + 4) x (by omega) q2.2.1
      have sx := same_r (n := n + 3) (pln_mono _ (pln_bare x q2.2.1) (by omega))
      refine ⟨s4, .sh d, .sh (.lst (K.map enc)), .ow (.ins "Store" ["kept"] [true] [.lst [ev x]]), .sh (ev v), .sh cc, y7, .sh (.tup [.str "ok", ev u]), .sh (.tup [.str "ok", ev u]), .sh (ev w), .sh (.tup [.str "ok", ev x]), .sh (.tup [.str "ok", ev x]), o4, trivial, trivial, trivial, trivial, trivial, g7, trivial, trivial, trivial, trivial, trivial, ?_⟩
      simp [l_law_1, kB_Bd h2, kB_Bd h3, kB_Bd h4, kB_Bd h5, kB_Bd h6, kB_Bd h7, kB_Bd h8, kB_Bd h9, kB_Bd h10, kB_Bd h11, kB_Bd h12, kB_Bd g7, e1, e2, e3, e4, ei, ekz, i0, hc0, c1, c2, c3, lp, iL, strOf_inj, er, eb, lrow, lrev, ebv, ej, eg, eb2, ew, nv, sb, shu, su, nx, shx, sx]

theorem law_gen (n : Nat) (hn : 70 ≤ n) (ns : List Int) : G (n + 1) .f_law [.scr ns] = some (.bl true, false, []) := by
  obtain ⟨m, rfl⟩ : ∃ m, n = m + 1 := ⟨n - 1, by omega⟩
  have e : G (m + 1) .f__law_draws [.scr ns] = some ((Dr.mk ns 0 0 1).d, true, []) := draws_ok ns
  obtain ⟨ρ', lp, s', y2, y3, y4, y5, y6, y7, y8, y9, y10, y11, y12, so, g2, g3, g4, g5, g6, g7, g8, g9, g10, g11, g12, rfl⟩ := forD_all (h := hNm 2) (body := l_law_1 (G (m + 1))) (items := rngD 0 6)
    (I := fun ρ => ∃ (s' : Dr) (y2 y3 y4 y5 y6 y7 y8 y9 y10 y11 y12 : Sl), s'.ok ∧ Bd y2 ∧ Bd y3 ∧ Bd y4 ∧ Bd y5 ∧ Bd y6 ∧ Bd y7 ∧ Bd y8 ∧ Bd y9 ∧ Bd y10 ∧ Bd y11 ∧ Bd y12 ∧ ρ = [.sh (.scr ns), .ow s'.d, y2, y3, y4, y5, y6, y7, y8, y9, y10, y11, y12])
    (fun d ρ _ ⟨s, x2, x3, x4, x5, x6, x7, x8, x9, x10, x11, x12, so, h2, h3, h4, h5, h6, h7, h8, h9, h10, h11, h12, er⟩ => by
      subst er
      obtain ⟨s', y2, y3, y4, y5, y6, y7, y8, y9, y10, y11, y12, so', g2, g3, g4, g5, g6, g7, g8, g9, g10, g11, g12, e⟩ := turn1 (n := m + 1) (z0 := .sh (.scr ns)) hn d so h2 h3 h4 h5 h6 h7 h8 h9 h10 h11 h12
      exact ⟨.nx, _, e, .inl rfl, s', y2, y3, y4, y5, y6, y7, y8, y9, y10, y11, y12, so', g2, g3, g4, g5, g6, g7, g8, g9, g10, g11, g12, rfl⟩)
    _ ⟨⟨ns, 0, 0, 1⟩, .no, .no, .no, .no, .no, .no, .no, .no, .no, .no, .no, Int.le_refl 0, trivial, trivial, trivial, trivial, trivial, trivial, trivial, trivial, trivial, trivial, trivial, rfl⟩
  have q1 := eq_no (c := .nothing) (a := .any) (b := .any) ⟨rfl, rfl⟩ (by simp [hC])
  obtain ⟨r, eb, br⟩ := bend_ok (m + 1) .nothing .any .any (.tag .int (.int 2)) ⟨rfl, rfl⟩ (by simp only [has]; exact ⟨trivial, trivial⟩) (by unfold sm; trivial) (by simp [hC]) (by simp only [hC]; omega)
  have br' : r = .tup [.str "ok", ev (.tag .int (.int 2))] := br
  subst br'
  have v0 : has .any (.tag .int (.int 2)) := by simp only [has]; exact ⟨trivial, trivial⟩
  have lit : D.tup [.str "tag", .tup [.str "int"], .tup [.str "int", .int 2]] = ev (.tag .int (.int 2)) := by simp [ev, enc]
  have eqs : eqD (.tup [.str "ok", ev (.tag .int (.int 2))]) (.tup [.str "ok", ev (.tag .int (.int 2))]) = some (.bl true) := eq_self (n := 10) (okN.tup (n := 9) fun x mx => by
    simp only [List.mem_cons, List.not_mem_nil, or_false] at mx
    rcases mx with rfl | rfl
    · exact .str (by decide +kernel)
    · exact (okN_ev _ _ v0).mono (by simp [fdp])) (by omega)
  have ln : encC .nothing = c_NOTHING := rfl
  rw [ln] at eb
  rw [G_succ]
  simp [bd, at_run, b_law, e, lp, lit, eb, eqs]
theorem law_ok (ns : List Int) : ∃ ds', G 80 .f_law [.scr ns] = some (.bl true, false, ds') := ⟨[], law_gen 79 (by omega) ns⟩
end K96

section
open PySem PySem.W PyProof.Rows
set_option maxHeartbeats 0 in
theorem PySem.Challenge.cw_blamekeep_k96_whole_cells_and_coercions_holds : PySem.Challenge.rw_blamekeep_k96_whole_cells_and_coercions.Holds := by
  w_on; o_law; k_head; (case hw => w_witness2)
  k_fill
  refine DV.law_end (l := PySem.Challenge.rw_blamekeep_k96_whole_cells_and_coercions) (n := 80) (G := K96.G 80 .f_law) rfl rfl ⟨rfl, by decide, by decide⟩ (fun w h Y => PySem.W.kIn_of Y) (fun ns _ _ => K96.law_ok ns) ?F
  case F =>
    intro w mg fa h KX GX hmg
    have Z : DV.Zs mg := by
      refine' ⟨PySem.W.mg_none_of KX GX ?z0, PySem.W.mg_none_of KX GX ?z1, PySem.W.mg_none_of KX GX ?z2, PySem.W.mg_none_of KX GX ?z3, PySem.W.mg_none_of KX GX ?z4, PySem.W.mg_none_of KX GX ?z5, PySem.W.mg_none_of KX GX ?z6, PySem.W.mg_none_of KX GX ?z7, PySem.W.mg_none_of KX GX ?z8, PySem.W.mg_none_of KX GX ?z9, PySem.W.mg_none_of KX GX ?z10, PySem.W.mg_none_of KX GX ?z11, PySem.W.mg_none_of KX GX ?z12, PySem.W.mg_none_of KX GX ?z13⟩
      (case z0 => k_is)
      (case z1 => k_is)
      (case z2 => k_is)
      (case z3 => k_is)
      (case z4 => k_is)
      (case z5 => k_is)
      (case z6 => k_is)
      (case z7 => k_is)
      (case z8 => k_is)
      (case z9 => k_is)
      (case z10 => k_is)
      (case z11 => k_is)
      (case z12 => k_is)
      (case z13 => k_is)
    have g_ANY : ∃ u v, mg "ANY" = some u ∧ L2.RelV v u ∧ ∀ F H, DV.Rep ⟨DV.KOf KX, mg⟩ F H K96.c_ANY v := by
      refine' DV.glob_tup (vs := [.str "any"]) KX GX ?gE ?gL ?gC ?gD ?gS ?gV (fun F H => (DV.RepL.cons DV.Rep.str' DV.RepL.nil))
      (case gE => dsimp only [DV.KOf]; k_is); (case gL => dsimp only [DV.KOf]; k_is); (case gC => rfl); (case gD => rfl); (case gS => decide); (case gV => exact (.cons ⟨_, rfl⟩ .nil))
    have g_NOTHING : ∃ u v, mg "NOTHING" = some u ∧ L2.RelV v u ∧ ∀ F H, DV.Rep ⟨DV.KOf KX, mg⟩ F H K96.c_NOTHING v := by
      refine' DV.glob_tup (vs := [.str "any"]) KX GX ?gE ?gL ?gC ?gD ?gS ?gV (fun F H => (DV.RepL.cons DV.Rep.str' DV.RepL.nil))
      (case gE => dsimp only [DV.KOf]; k_is); (case gL => dsimp only [DV.KOf]; k_is); (case gC => rfl); (case gD => rfl); (case gS => decide); (case gV => exact (.cons ⟨_, rfl⟩ .nil))
    have g_NEVER : ∃ u v, mg "NEVER" = some u ∧ L2.RelV v u ∧ ∀ F H, DV.Rep ⟨DV.KOf KX, mg⟩ F H K96.c_NEVER v := by
      refine' DV.glob_tup (vs := [.str "never"]) KX GX ?gE ?gL ?gC ?gD ?gS ?gV (fun F H => (DV.RepL.cons DV.Rep.str' DV.RepL.nil))
      (case gE => dsimp only [DV.KOf]; k_is); (case gL => dsimp only [DV.KOf]; k_is); (case gC => rfl); (case gD => rfl); (case gS => decide); (case gV => exact (.cons ⟨_, rfl⟩ .nil))
    have a_Store_kept : DV.ClsF ⟨DV.KOf KX, mg⟩ "Store" "kept" := by
      refine' DV.clsF_mk (DV.clsK_mk KX GX ?cA ?cP ?cH ?cO ?cS) ?dN
      (case cA => dsimp only [DV.KOf]; k_is); (case cP => dsimp only [DV.KOf]; k_is); (case cH => dsimp only [DV.KOf]; k_is); (case cO => dsimp only [DV.KOf]; k_is); (case cS => dsimp only [DV.KOf]; k_is); (case dN => dsimp only [DV.KOf]; k_is)
    have Gs : K96.Gf (DV.KOf KX) mg := ⟨Z, g_ANY, g_NOTHING, g_NEVER, a_Store_kept⟩
    have d__wall : DV.DefF (DV.KOf KX) mg "_wall" K96.s__wall ["k"] := by
      refine' DV.defF_mk KX GX (fun _ _ _ _ _ _ us hl => match us, hl with | [_], _ => rfl) ?dA ?dL ?dC ?dK
      (case dA => dsimp only [DV.KOf]; k_is); (case dL => dsimp only [DV.KOf]; k_is); (case dC => dsimp only [DV.KOf]; k_is); (case dK => dsimp only [DV.KOf]; k_is)
    have d_ground_of : DV.DefF (DV.KOf KX) mg "ground_of" K96.s_ground_of ["kind"] := by
      refine' DV.defF_mk KX GX (fun _ _ _ _ _ _ us hl => match us, hl with | [_], _ => rfl) ?dA ?dL ?dC ?dK
      (case dA => dsimp only [DV.KOf]; k_is); (case dL => dsimp only [DV.KOf]; k_is); (case dC => dsimp only [DV.KOf]; k_is); (case dK => dsimp only [DV.KOf]; k_is)
    have d_meet : DV.DefF (DV.KOf KX) mg "meet" K96.s_meet ["one", "two"] := by
      refine' DV.defF_mk KX GX (fun _ _ _ _ _ _ us hl => match us, hl with | [_, _], _ => rfl) ?dA ?dL ?dC ?dK
      (case dA => dsimp only [DV.KOf]; k_is); (case dL => dsimp only [DV.KOf]; k_is); (case dC => dsimp only [DV.KOf]; k_is); (case dK => dsimp only [DV.KOf]; k_is)
    have d_cast_value : DV.DefF (DV.KOf KX) mg "cast_value" K96.s_cast_value ["value", "kind", "due", "name"] := by
      refine' DV.defF_mk KX GX (fun _ _ _ _ _ _ us hl => match us, hl with | [_, _, _, _], _ => rfl) ?dA ?dL ?dC ?dK
      (case dA => dsimp only [DV.KOf]; k_is); (case dL => dsimp only [DV.KOf]; k_is); (case dC => dsimp only [DV.KOf]; k_is); (case dK => dsimp only [DV.KOf]; k_is)
    have d_tagged : DV.DefF (DV.KOf KX) mg "tagged" K96.s_tagged ["value", "kind", "name"] := by
      refine' DV.defF_mk KX GX (fun _ _ _ _ _ _ us hl => match us, hl with | [_, _, _], _ => rfl) ?dA ?dL ?dC ?dK
      (case dA => dsimp only [DV.KOf]; k_is); (case dL => dsimp only [DV.KOf]; k_is); (case dC => dsimp only [DV.KOf]; k_is); (case dK => dsimp only [DV.KOf]; k_is)
    have d_cast_pair : DV.DefF (DV.KOf KX) mg "cast_pair" K96.s_cast_pair ["value", "kind", "due", "name"] := by
      refine' DV.defF_mk KX GX (fun _ _ _ _ _ _ us hl => match us, hl with | [_, _, _, _], _ => rfl) ?dA ?dL ?dC ?dK
      (case dA => dsimp only [DV.KOf]; k_is); (case dL => dsimp only [DV.KOf]; k_is); (case dC => dsimp only [DV.KOf]; k_is); (case dK => dsimp only [DV.KOf]; k_is)
    have d_cast_items : DV.DefF (DV.KOf KX) mg "cast_items" K96.s_cast_items ["value", "kind", "due", "name"] := by
      refine' DV.defF_mk KX GX (fun _ _ _ _ _ _ us hl => match us, hl with | [_, _, _, _], _ => rfl) ?dA ?dL ?dC ?dK
      (case dA => dsimp only [DV.KOf]; k_is); (case dL => dsimp only [DV.KOf]; k_is); (case dC => dsimp only [DV.KOf]; k_is); (case dK => dsimp only [DV.KOf]; k_is)
    have d_shown : DV.DefF (DV.KOf KX) mg "shown" K96.s_shown ["value"] := by
      refine' DV.defF_mk KX GX (fun _ _ _ _ _ _ us hl => match us, hl with | [_], _ => rfl) ?dA ?dL ?dC ?dK
      (case dA => dsimp only [DV.KOf]; k_is); (case dL => dsimp only [DV.KOf]; k_is); (case dC => dsimp only [DV.KOf]; k_is); (case dK => dsimp only [DV.KOf]; k_is)
    have d_cast_any : DV.DefF (DV.KOf KX) mg "cast_any" K96.s_cast_any ["value", "kind", "due", "name"] := by
      refine' DV.defF_mk KX GX (fun _ _ _ _ _ _ us hl => match us, hl with | [_, _, _, _], _ => rfl) ?dA ?dL ?dC ?dK
      (case dA => dsimp only [DV.KOf]; k_is); (case dL => dsimp only [DV.KOf]; k_is); (case dC => dsimp only [DV.KOf]; k_is); (case dK => dsimp only [DV.KOf]; k_is)
    have d_Store___init__ : DV.DefI (DV.KOf KX) mg "Store" "Store.__init__" K96.s_Store___init__ ["self"] := by
      refine' DV.defI_mk (DV.clsK_mk KX GX ?cA ?cP ?cH ?cO ?cS) (fun _ _ _ _ _ _ us hl => match us, hl with | [_], _ => rfl) ?dM ?dQ ?dA ?dI ?dL ?dC ?dK
      (case cA => dsimp only [DV.KOf]; k_is); (case cP => dsimp only [DV.KOf]; k_is); (case cH => dsimp only [DV.KOf]; k_is); (case cO => dsimp only [DV.KOf]; k_is); (case cS => dsimp only [DV.KOf]; k_is); (case dM => dsimp only [DV.KOf]; k_is); (case dQ => dsimp only [DV.KOf]; k_is); (case dA => dsimp only [DV.KOf]; k_is); (case dI => dsimp only [DV.KOf]; k_is); (case dL => dsimp only [DV.KOf]; k_is); (case dC => dsimp only [DV.KOf]; k_is); (case dK => dsimp only [DV.KOf]; k_is)
    have d_Store_make : DV.DefM (DV.KOf KX) mg "Store" "make" "Store.make" K96.s_Store_make ["self", "value"] := by
      refine' DV.defM_mk (DV.clsK_mk KX GX ?cA ?cP ?cH ?cO ?cS) (fun _ _ _ _ _ _ us hl => match us, hl with | [_, _], _ => rfl) ?dA ?dI ?dL ?dC ?dK
      (case cA => dsimp only [DV.KOf]; k_is); (case cP => dsimp only [DV.KOf]; k_is); (case cH => dsimp only [DV.KOf]; k_is); (case cO => dsimp only [DV.KOf]; k_is); (case cS => dsimp only [DV.KOf]; k_is); (case dA => dsimp only [DV.KOf]; k_is); (case dI => dsimp only [DV.KOf]; k_is); (case dL => dsimp only [DV.KOf]; k_is); (case dC => dsimp only [DV.KOf]; k_is); (case dK => dsimp only [DV.KOf]; k_is)
    have d_Store_read : DV.DefM (DV.KOf KX) mg "Store" "read" "Store.read" K96.s_Store_read ["self", "cell"] := by
      refine' DV.defM_mk (DV.clsK_mk KX GX ?cA ?cP ?cH ?cO ?cS) (fun _ _ _ _ _ _ us hl => match us, hl with | [_, _], _ => rfl) ?dA ?dI ?dL ?dC ?dK
      (case cA => dsimp only [DV.KOf]; k_is); (case cP => dsimp only [DV.KOf]; k_is); (case cH => dsimp only [DV.KOf]; k_is); (case cO => dsimp only [DV.KOf]; k_is); (case cS => dsimp only [DV.KOf]; k_is); (case dA => dsimp only [DV.KOf]; k_is); (case dI => dsimp only [DV.KOf]; k_is); (case dL => dsimp only [DV.KOf]; k_is); (case dC => dsimp only [DV.KOf]; k_is); (case dK => dsimp only [DV.KOf]; k_is)
    have d_Store_write : DV.DefM (DV.KOf KX) mg "Store" "write" "Store.write" K96.s_Store_write ["self", "cell", "value"] := by
      refine' DV.defM_mk (DV.clsK_mk KX GX ?cA ?cP ?cH ?cO ?cS) (fun _ _ _ _ _ _ us hl => match us, hl with | [_, _, _], _ => rfl) ?dA ?dI ?dL ?dC ?dK
      (case cA => dsimp only [DV.KOf]; k_is); (case cP => dsimp only [DV.KOf]; k_is); (case cH => dsimp only [DV.KOf]; k_is); (case cO => dsimp only [DV.KOf]; k_is); (case cS => dsimp only [DV.KOf]; k_is); (case dA => dsimp only [DV.KOf]; k_is); (case dI => dsimp only [DV.KOf]; k_is); (case dL => dsimp only [DV.KOf]; k_is); (case dC => dsimp only [DV.KOf]; k_is); (case dK => dsimp only [DV.KOf]; k_is)
    have d_of_cast : DV.DefF (DV.KOf KX) mg "of_cast" K96.s_of_cast ["kind", "due", "name"] := by
      refine' DV.defF_mk KX GX (fun _ _ _ _ _ _ us hl => match us, hl with | [_, _, _], _ => rfl) ?dA ?dL ?dC ?dK
      (case dA => dsimp only [DV.KOf]; k_is); (case dL => dsimp only [DV.KOf]; k_is); (case dC => dsimp only [DV.KOf]; k_is); (case dK => dsimp only [DV.KOf]; k_is)
    have d_middle_of : DV.DefF (DV.KOf KX) mg "middle_of" K96.s_middle_of ["kind", "due", "name"] := by
      refine' DV.defF_mk KX GX (fun _ _ _ _ _ _ us hl => match us, hl with | [_, _, _], _ => rfl) ?dA ?dL ?dC ?dK
      (case dA => dsimp only [DV.KOf]; k_is); (case dL => dsimp only [DV.KOf]; k_is); (case dC => dsimp only [DV.KOf]; k_is); (case dK => dsimp only [DV.KOf]; k_is)
    have d_together : DV.DefF (DV.KOf KX) mg "together" K96.s_together ["first", "other"] := by
      refine' DV.defF_mk KX GX (fun _ _ _ _ _ _ us hl => match us, hl with | [_, _], _ => rfl) ?dA ?dL ?dC ?dK
      (case dA => dsimp only [DV.KOf]; k_is); (case dL => dsimp only [DV.KOf]; k_is); (case dC => dsimp only [DV.KOf]; k_is); (case dK => dsimp only [DV.KOf]; k_is)
    have d_fail_behind : DV.DefF (DV.KOf KX) mg "fail_behind" K96.s_fail_behind ["first", "other"] := by
      refine' DV.defF_mk KX GX (fun _ _ _ _ _ _ us hl => match us, hl with | [_, _], _ => rfl) ?dA ?dL ?dC ?dK
      (case dA => dsimp only [DV.KOf]; k_is); (case dL => dsimp only [DV.KOf]; k_is); (case dC => dsimp only [DV.KOf]; k_is); (case dK => dsimp only [DV.KOf]; k_is)
    have d_middles : DV.DefF (DV.KOf KX) mg "middles" K96.s_middles ["first", "other"] := by
      refine' DV.defF_mk KX GX (fun _ _ _ _ _ _ us hl => match us, hl with | [_, _], _ => rfl) ?dA ?dL ?dC ?dK
      (case dA => dsimp only [DV.KOf]; k_is); (case dL => dsimp only [DV.KOf]; k_is); (case dC => dsimp only [DV.KOf]; k_is); (case dK => dsimp only [DV.KOf]; k_is)
    have d_is_idle : DV.DefF (DV.KOf KX) mg "is_idle" K96.s_is_idle ["coercion"] := by
      refine' DV.defF_mk KX GX (fun _ _ _ _ _ _ us hl => match us, hl with | [_], _ => rfl) ?dA ?dL ?dC ?dK
      (case dA => dsimp only [DV.KOf]; k_is); (case dL => dsimp only [DV.KOf]; k_is); (case dC => dsimp only [DV.KOf]; k_is); (case dK => dsimp only [DV.KOf]; k_is)
    have d_bend : DV.DefF (DV.KOf KX) mg "bend" K96.s_bend ["value", "coercion"] := by
      refine' DV.defF_mk KX GX (fun _ _ _ _ _ _ us hl => match us, hl with | [_, _], _ => rfl) ?dA ?dL ?dC ?dK
      (case dA => dsimp only [DV.KOf]; k_is); (case dL => dsimp only [DV.KOf]; k_is); (case dC => dsimp only [DV.KOf]; k_is); (case dK => dsimp only [DV.KOf]; k_is)
    have d_bend_middle : DV.DefF (DV.KOf KX) mg "bend_middle" K96.s_bend_middle ["value", "middle"] := by
      refine' DV.defF_mk KX GX (fun _ _ _ _ _ _ us hl => match us, hl with | [_, _], _ => rfl) ?dA ?dL ?dC ?dK
      (case dA => dsimp only [DV.KOf]; k_is); (case dL => dsimp only [DV.KOf]; k_is); (case dC => dsimp only [DV.KOf]; k_is); (case dK => dsimp only [DV.KOf]; k_is)
    have d_middle_meet : DV.DefF (DV.KOf KX) mg "middle_meet" K96.s_middle_meet ["one", "two"] := by
      refine' DV.defF_mk KX GX (fun _ _ _ _ _ _ us hl => match us, hl with | [_, _], _ => rfl) ?dA ?dL ?dC ?dK
      (case dA => dsimp only [DV.KOf]; k_is); (case dL => dsimp only [DV.KOf]; k_is); (case dC => dsimp only [DV.KOf]; k_is); (case dK => dsimp only [DV.KOf]; k_is)
    have d_triple : DV.DefF (DV.KOf KX) mg "triple" K96.s_triple ["kind", "due"] := by
      refine' DV.defF_mk KX GX (fun _ _ _ _ _ _ us hl => match us, hl with | [_, _], _ => rfl) ?dA ?dL ?dC ?dK
      (case dA => dsimp only [DV.KOf]; k_is); (case dL => dsimp only [DV.KOf]; k_is); (case dC => dsimp only [DV.KOf]; k_is); (case dK => dsimp only [DV.KOf]; k_is)
    have d_joined : DV.DefF (DV.KOf KX) mg "joined" K96.s_joined ["first", "other"] := by
      refine' DV.defF_mk KX GX (fun _ _ _ _ _ _ us hl => match us, hl with | [_, _], _ => rfl) ?dA ?dL ?dC ?dK
      (case dA => dsimp only [DV.KOf]; k_is); (case dL => dsimp only [DV.KOf]; k_is); (case dC => dsimp only [DV.KOf]; k_is); (case dK => dsimp only [DV.KOf]; k_is)
    have d_joined_all : DV.DefF (DV.KOf KX) mg "joined_all" K96.s_joined_all ["kinds"] := by
      refine' DV.defF_mk KX GX (fun _ _ _ _ _ _ us hl => match us, hl with | [_], _ => rfl) ?dA ?dL ?dC ?dK
      (case dA => dsimp only [DV.KOf]; k_is); (case dL => dsimp only [DV.KOf]; k_is); (case dC => dsimp only [DV.KOf]; k_is); (case dK => dsimp only [DV.KOf]; k_is)
    have d_goes : DV.DefF (DV.KOf KX) mg "goes" K96.s_goes ["value", "middle"] := by
      refine' DV.defF_mk KX GX (fun _ _ _ _ _ _ us hl => match us, hl with | [_, _], _ => rfl) ?dA ?dL ?dC ?dK
      (case dA => dsimp only [DV.KOf]; k_is); (case dL => dsimp only [DV.KOf]; k_is); (case dC => dsimp only [DV.KOf]; k_is); (case dK => dsimp only [DV.KOf]; k_is)
    have d__law_draws : DV.DefF (DV.KOf KX) mg "_law_draws" K96.s__law_draws ["script"] := by
      refine' DV.defF_mk KX GX (fun _ _ _ _ _ _ us hl => match us, hl with | [_], _ => rfl) ?dA ?dL ?dC ?dK
      (case dA => dsimp only [DV.KOf]; k_is); (case dL => dsimp only [DV.KOf]; k_is); (case dC => dsimp only [DV.KOf]; k_is); (case dK => dsimp only [DV.KOf]; k_is)
    have d__law_draw : DV.DefF (DV.KOf KX) mg "_law_draw" K96.s__law_draw ["draws", "limit"] := by
      refine' DV.defF_mk KX GX (fun _ _ _ _ _ _ us hl => match us, hl with | [_, _], _ => rfl) ?dA ?dL ?dC ?dK
      (case dA => dsimp only [DV.KOf]; k_is); (case dL => dsimp only [DV.KOf]; k_is); (case dC => dsimp only [DV.KOf]; k_is); (case dK => dsimp only [DV.KOf]; k_is)
    have d__law_same : DV.DefF (DV.KOf KX) mg "_law_same" K96.s__law_same ["actual", "expected"] := by
      refine' DV.defF_mk KX GX (fun _ _ _ _ _ _ us hl => match us, hl with | [_, _], _ => rfl) ?dA ?dL ?dC ?dK
      (case dA => dsimp only [DV.KOf]; k_is); (case dL => dsimp only [DV.KOf]; k_is); (case dC => dsimp only [DV.KOf]; k_is); (case dK => dsimp only [DV.KOf]; k_is)
    have d__law_vaguer : DV.DefF (DV.KOf KX) mg "_law_vaguer" K96.s__law_vaguer ["draws", "kind"] := by
      refine' DV.defF_mk KX GX (fun _ _ _ _ _ _ us hl => match us, hl with | [_, _], _ => rfl) ?dA ?dL ?dC ?dK
      (case dA => dsimp only [DV.KOf]; k_is); (case dL => dsimp only [DV.KOf]; k_is); (case dC => dsimp only [DV.KOf]; k_is); (case dK => dsimp only [DV.KOf]; k_is)
    have d__law_alike : DV.DefF (DV.KOf KX) mg "_law_alike" K96.s__law_alike ["one", "two"] := by
      refine' DV.defF_mk KX GX (fun _ _ _ _ _ _ us hl => match us, hl with | [_, _], _ => rfl) ?dA ?dL ?dC ?dK
      (case dA => dsimp only [DV.KOf]; k_is); (case dL => dsimp only [DV.KOf]; k_is); (case dC => dsimp only [DV.KOf]; k_is); (case dK => dsimp only [DV.KOf]; k_is)
    have d__law_value : DV.DefF (DV.KOf KX) mg "_law_value" K96.s__law_value ["draws", "kind", "deep"] := by
      refine' DV.defF_mk KX GX (fun _ _ _ _ _ _ us hl => match us, hl with | [_, _, _], _ => rfl) ?dA ?dL ?dC ?dK
      (case dA => dsimp only [DV.KOf]; k_is); (case dL => dsimp only [DV.KOf]; k_is); (case dC => dsimp only [DV.KOf]; k_is); (case dK => dsimp only [DV.KOf]; k_is)
    have d__law_plain : DV.DefF (DV.KOf KX) mg "_law_plain" K96.s__law_plain ["draws", "deep"] := by
      refine' DV.defF_mk KX GX (fun _ _ _ _ _ _ us hl => match us, hl with | [_, _], _ => rfl) ?dA ?dL ?dC ?dK
      (case dA => dsimp only [DV.KOf]; k_is); (case dL => dsimp only [DV.KOf]; k_is); (case dC => dsimp only [DV.KOf]; k_is); (case dK => dsimp only [DV.KOf]; k_is)
    have d__law_plain_chain : DV.DefF (DV.KOf KX) mg "_law_plain_chain" K96.s__law_plain_chain ["draws", "many"] := by
      refine' DV.defF_mk KX GX (fun _ _ _ _ _ _ us hl => match us, hl with | [_, _], _ => rfl) ?dA ?dL ?dC ?dK
      (case dA => dsimp only [DV.KOf]; k_is); (case dL => dsimp only [DV.KOf]; k_is); (case dC => dsimp only [DV.KOf]; k_is); (case dK => dsimp only [DV.KOf]; k_is)
    have d__law_bare : DV.DefF (DV.KOf KX) mg "_law_bare" K96.s__law_bare ["value"] := by
      refine' DV.defF_mk KX GX (fun _ _ _ _ _ _ us hl => match us, hl with | [_], _ => rfl) ?dA ?dL ?dC ?dK
      (case dA => dsimp only [DV.KOf]; k_is); (case dL => dsimp only [DV.KOf]; k_is); (case dC => dsimp only [DV.KOf]; k_is); (case dK => dsimp only [DV.KOf]; k_is)
    have d__law_row : DV.DefF (DV.KOf KX) mg "_law_row" K96.s__law_row ["kinds"] := by
      refine' DV.defF_mk KX GX (fun _ _ _ _ _ _ us hl => match us, hl with | [_], _ => rfl) ?dA ?dL ?dC ?dK
      (case dA => dsimp only [DV.KOf]; k_is); (case dL => dsimp only [DV.KOf]; k_is); (case dC => dsimp only [DV.KOf]; k_is); (case dK => dsimp only [DV.KOf]; k_is)
    have d_law : DV.DefF (DV.KOf KX) mg "law" K96.s_law ["script"] := by
      refine' DV.defF_mk KX GX (fun _ _ _ _ _ _ us hl => match us, hl with | [_], _ => rfl) ?dA ?dL ?dC ?dK
      (case dA => dsimp only [DV.KOf]; k_is); (case dL => dsimp only [DV.KOf]; k_is); (case dC => dsimp only [DV.KOf]; k_is); (case dK => dsimp only [DV.KOf]; k_is)
    have Df : K96.Ds (DV.KOf KX) mg := ⟨d__wall, d_ground_of, d_meet, d_cast_value, d_tagged, d_cast_pair, d_cast_items, d_shown, d_cast_any, d_Store___init__, d_Store_make, d_Store_read, d_Store_write, d_of_cast, d_middle_of, d_together, d_fail_behind, d_middles, d_is_idle, d_bend, d_bend_middle, d_middle_meet, d_triple, d_joined, d_joined_all, d_goes, d__law_draws, d__law_draw, d__law_same, d__law_vaguer, d__law_alike, d__law_value, d__law_plain, d__law_plain_chain, d__law_bare, d__law_row, d_law⟩
    refine' DV.law_mk (n := 79) KX GX hmg K96.sc_law (fun _ _ _ _ _ _ _ _ => .of_eq rfl) (fun base => K96.ok_law Gs (K96.all_ok Gs Df 79)) ?dA ?dL ?dC ?dK
    (case dA => k_is); (case dL => k_is); (case dC => k_is); (case dK => k_is)
end
