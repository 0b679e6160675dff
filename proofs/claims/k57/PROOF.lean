import PyProof.Rows.All
import Wide.All
import OpenK.AllK
import Wide.FinOn
import HandS.ForMost
import HandS.Gcd
import HandS.Walk
import HandS.EndBits
import HandS.Wide
import HandS.IsInst
import HandS.TupAny
import HandS.SortInts
import HandS.Zip
import HandS.More
import HandS.Text
import HandS.WordsExc
import HandS.ExcCtx
import HandS.HotCalls
import HandS.ExcIs
import HandS.Defaults
import HandS.MakeKwOnly
import HandS.DictComp
import HandS.Iter
import KE.GoesMore
import KE.GoesEnum
import KE.KDictPairs
import HandS.Style
import HandS.Star
import HandS.Property
import HandS.Deep
import HandS.Comp
import HandS.TupLen
import KE.KExcSuper
import HandS.ExcInit
import HandS.ExcField
import HandS.Nested
import HandS.Strs
import KE.KStateDown
import HandS.Head0
import HandS.Head1
import HandS.Head2
import HandS.HeadEnd
import HandS.HeadHook1
import HandS.HeadHook2
import PySem.Challenge.RW_anycompany_k57_order_visits
set_option Elab.async false
set_option linter.all false
set_option maxRecDepth 100000
set_option maxHeartbeats 1000000
namespace Q
open PySem L2
inductive D where
  | non
  | bl (b : Bool)
  | int (i : Int)
  | str (s : Str)
  | tup (xs : List D)
  | lst (xs : List D)
  | dk (ks : List Key) (vs : List D)
  | dt (ks : List (List Key)) (vs : List D)
  | xt (xs : List D)
  | kt (ks : List Key)
  | ins (x : Str) (ns : List Str) (xs : List D)
/-- a datum, or a list (a dict) that the frame alone owns -/
inductive O where
  | fz (d : D)
  | ls (os : List O)
  | ok (ks : List Key) (ds : List D)
  | ot (ks : List (List Key)) (ds : List D)
inductive Sl where
  | un
  | has (o : O)
  | lent
  | adr (a : Addr)
abbrev En := List Sl
mutual
def O.frz : O → D
  | .fz d => d
  | .ls os => .lst (O.frzs os)
  | .ok ks ds => .dk ks ds
  | .ot ks ds => .dt ks ds
def O.frzs : List O → List D
  | [] => []
  | o :: os => o.frz :: O.frzs os
end
theorem frzs_map : ∀ os : List O, O.frzs os = os.map O.frz
  | [] => rfl
  | o :: os => by rw [O.frzs, frzs_map os]; rfl
def Ex (H H' : Hp) : Prop := ∀ a o, H a = some o → H' a = some o
theorem Ex.refl (H : Hp) : Ex H H := fun _ _ h => h
theorem Ex.trans {H H1 H2 : Hp} (a : Ex H H1) (b : Ex H1 H2) : Ex H H2 := fun x o h => b x o (a x o h)
theorem Ex.new {H : Hp} {p : Addr} {o : HO} (h : H p = none) : Ex H (upd H p o) := fun a u e => by
  rw [upd_ne (ne_of_none e h)]; exact e
theorem Ex.rd {H H' : Hp} {a : Addr} {u : HO} (e : Ex H H') (h : Rd H a u) : Rd H' a u := by
  rcases h with h | ⟨o, h⟩
  · exact .inl (e a _ h)
  · exact .inr ⟨o, e a _ h⟩
theorem Ex.l {K : PySem.W.Frag} {H H' : Hp} {a : Addr} {xs : List V} (e : Ex H H') (h : SqL K H a xs) : SqL K H' a xs := by
  rcases h with h | h
  · exact .inl (e.rd h)
  · exact .inr h
theorem Ex.t {K : PySem.W.Frag} {H H' : Hp} {a : Addr} {xs : List V} (e : Ex H H') (h : SqT K H a xs) : SqT K H' a xs := by
  rcases h with h | h
  · exact .inl (e.rd h)
  · exact .inr h
theorem Ex.none {H H' : Hp} {a : Addr} (e : Ex H H') (h : H' a = none) : H a = none := by
  cases q : H a with
  | none => rfl
  | some o => rw [e a o q] at h; cases h
/-- x names an own class of the module, C -/
structure InsC (K : PySem.W.Frag) (x : Str) (C : Addr) : Prop where
  ns : PySem.W.nsIn K mainGlobals x = some (some (.ref C))
  cl : Cls K C
  ha : PySem.W.findIn K (.ref C) "__class__" = some (some (.builtin "object.__class__"))
  hn : PySem.W.specialIn K (.builtin "object.__class__") "__get__" = some (some (.builtin "getset_descriptor.__get__"))
  htk : PySem.W.takesIn K (.builtin "object.__class__") = some true
  hm : PySem.W.mroIn K C (.type "object") = some true
  kt : ∀ t ∈ ["int", "bool", "str", "tuple", "list", "dict"], PySem.W.kitOne K (.ref C) (.type t) = some false
mutual
def Rp (K : PySem.W.Frag) (H : Hp) : D → V → Prop
  | .non, v => v = .non
  | .bl b, v => v = .bl b
  | .int i, v => v = .int i
  | .str s, v => v = .str s
  | .tup ds, v => ∃ a vs, v = .ref a ∧ SqT K H a vs ∧ Rps K H ds vs
  | .lst ds, v => ∃ a vs, v = .ref a ∧ SqL K H a vs ∧ Rps K H ds vs
  | .dk ks ds, v => ∃ a kvs, v = .ref a ∧ H a = some (.dK kvs) ∧ kvs.map Prod.fst = ks ∧ Rps K H ds (kvs.map Prod.snd)
  | .dt ks ds, v => ∃ a kvs, v = .ref a ∧ H a = some (.dT kvs) ∧ kvs.map Prod.fst = ks ∧ Rps K H ds (kvs.map Prod.snd)
  | .xt ds, v => ∃ a vs o, v = .ref a ∧ H a = some (.frz o (.tup vs)) ∧ o.cls = .type "tuple" ∧ o.dict = none ∧ (∃ its n, o.data = .seq its n) ∧ Rps K H ds vs
  | .kt ks, v => ∃ a, v = .ref a ∧ H a = some (.tup (ks.map kV))
  | .ins x ns ds, v => ∃ a C dx vs, v = .ref a ∧ H a = some (.ins C dx (ns.zip vs)) ∧ H dx = some (.own a) ∧ InsC K x C ∧ ns.length = ds.length ∧ Rps K H ds vs
def Rps (K : PySem.W.Frag) (H : Hp) : List D → List V → Prop
  | [], vs => vs = []
  | d :: ds, vs => ∃ v r, vs = v :: r ∧ Rp K H d v ∧ Rps K H ds r
end
mutual
theorem Rp.mono {K : PySem.W.Frag} {H H' : Hp} (e : Ex H H') : ∀ (d : D) (v : V), Rp K H d v → Rp K H' d v
  | .non, _, h => by rw [Rp] at h ⊢; exact h
  | .bl b, _, h => by rw [Rp] at h ⊢; exact h
  | .int i, _, h => by rw [Rp] at h ⊢; exact h
  | .str s, _, h => by rw [Rp] at h ⊢; exact h
  | .tup ds, _, h => by
    rw [Rp] at h ⊢
    obtain ⟨a, vs, h1, h2, h3⟩ := h
    exact ⟨a, vs, h1, e.t h2, Rps.mono e ds vs h3⟩
  | .lst ds, _, h => by
    rw [Rp] at h ⊢
    obtain ⟨a, vs, h1, h2, h3⟩ := h
    exact ⟨a, vs, h1, e.l h2, Rps.mono e ds vs h3⟩
  | .dk ks ds, _, h => by
    rw [Rp] at h ⊢
    obtain ⟨a, vs, h1, h2, h3, h4⟩ := h
    exact ⟨a, vs, h1, e _ _ h2, h3, Rps.mono e ds _ h4⟩
  | .dt ks ds, _, h => by
    rw [Rp] at h ⊢
    obtain ⟨a, vs, h1, h2, h3, h4⟩ := h
    exact ⟨a, vs, h1, e _ _ h2, h3, Rps.mono e ds _ h4⟩
  | .xt ds, _, h => by
    rw [Rp] at h ⊢
    obtain ⟨a, vs, o, h1, h2, h3, h4, h5, h6⟩ := h
    exact ⟨a, vs, o, h1, e _ _ h2, h3, h4, h5, Rps.mono e ds _ h6⟩
  | .kt ks, _, h => by
    rw [Rp] at h ⊢
    obtain ⟨a, h1, h2⟩ := h
    exact ⟨a, h1, e _ _ h2⟩
  | .ins x ns ds, _, h => by
    rw [Rp] at h ⊢
    obtain ⟨a, C, dx, vs, h1, h2, h3, h4, h5, h6⟩ := h
    exact ⟨a, C, dx, vs, h1, e _ _ h2, e _ _ h3, h4, h5, Rps.mono e ds _ h6⟩
theorem Rps.mono {K : PySem.W.Frag} {H H' : Hp} (e : Ex H H') : ∀ (ds : List D) (vs : List V), Rps K H ds vs → Rps K H' ds vs
  | [], _, h => by rw [Rps] at h ⊢; exact h
  | d :: ds, _, h => by
    rw [Rps] at h ⊢
    obtain ⟨v, r, h1, h2, h3⟩ := h
    exact ⟨v, r, h1, Rp.mono e d v h2, Rps.mono e ds r h3⟩
end
theorem Rps.len {K : PySem.W.Frag} {H : Hp} : ∀ {ds : List D} {vs : List V}, Rps K H ds vs → ds.length = vs.length
  | [], _, h => by rw [Rps] at h; subst h; rfl
  | d :: ds, _, h => by
    rw [Rps] at h
    obtain ⟨v, r, rfl, _, h3⟩ := h
    simp [Rps.len h3]
theorem Rps.get {K : PySem.W.Frag} {H : Hp} : ∀ {ds : List D} {vs : List V} {i : Nat} {d : D}, Rps K H ds vs → ds[i]? = some d → ∃ v, vs[i]? = some v ∧ Rp K H d v
  | [], _, _, _, _, e => by simp at e
  | d :: ds, _, 0, _, h, e => by
    rw [Rps] at h
    obtain ⟨v, r, rfl, h2, h3⟩ := h
    simp at e; subst e
    exact ⟨v, rfl, h2⟩
  | d :: ds, _, i + 1, d', h, e => by
    rw [Rps] at h
    obtain ⟨v, r, rfl, h2, h3⟩ := h
    have e' : ds[i]? = some d' := by simpa using e
    obtain ⟨v', h1, h2⟩ := Rps.get h3 e'
    exact ⟨v', by simpa using h1, h2⟩
theorem Rps.append {K : PySem.W.Frag} {H : Hp} : ∀ {ds es : List D} {vs us : List V}, Rps K H ds vs → Rps K H es us → Rps K H (ds ++ es) (vs ++ us)
  | [], _, _, _, h, k => by rw [Rps] at h; subst h; exact k
  | d :: ds, es, _, us, h, k => by
    rw [Rps] at h
    obtain ⟨v, r, rfl, h2, h3⟩ := h
    show Rps K H (d :: (ds ++ es)) (v :: (r ++ us))
    rw [Rps]
    exact ⟨v, _, rfl, h2, Rps.append h3 k⟩
theorem Rps.one {K : PySem.W.Frag} {H : Hp} {d : D} {v : V} (h : Rp K H d v) : Rps K H [d] [v] := by
  rw [Rps]; exact ⟨v, [], rfl, h, by rw [Rps]⟩
theorem Rps.cons {K : PySem.W.Frag} {H : Hp} {d : D} {v : V} {ds : List D} {vs : List V} (h : Rp K H d v) (k : Rps K H ds vs) : Rps K H (d :: ds) (v :: vs) := by
  rw [Rps]; exact ⟨v, vs, rfl, h, k⟩
theorem Rps.nil {K : PySem.W.Frag} {H : Hp} : Rps K H [] [] := by rw [Rps]
theorem Rps.take {K : PySem.W.Frag} {H : Hp} : ∀ {ds : List D} {vs : List V} (n : Nat), Rps K H ds vs → Rps K H (ds.take n) (vs.take n)
  | [], _, _, h => by rw [Rps] at h; subst h; simp; exact Rps.nil
  | d :: ds, _, 0, h => by simp; exact Rps.nil
  | d :: ds, _, n + 1, h => by
    rw [Rps] at h
    obtain ⟨v, r, rfl, h2, h3⟩ := h
    exact Rps.cons h2 (Rps.take n h3)
theorem Rps.drop {K : PySem.W.Frag} {H : Hp} : ∀ {ds : List D} {vs : List V} (n : Nat), Rps K H ds vs → Rps K H (ds.drop n) (vs.drop n)
  | [], _, _, h => by rw [Rps] at h; subst h; simp; exact Rps.nil
  | d :: ds, _, 0, h => by simpa using h
  | d :: ds, _, n + 1, h => by
    rw [Rps] at h
    obtain ⟨v, r, rfl, h2, h3⟩ := h
    exact Rps.drop n h3
mutual
def Ro (K : PySem.W.Frag) (B H : Hp) : O → V → List Addr → Prop
  | .fz d, v, fp => fp = [] ∧ Rp K B d v
  | .ls os, v, fp => ∃ a vs fr, v = .ref a ∧ fp = a :: fr ∧ H a = some (.lst vs) ∧ Ros K B H os vs fr
  | .ok ks ds, v, fp => ∃ a kvs, v = .ref a ∧ fp = [a] ∧ H a = some (.dK kvs) ∧ kvs.map Prod.fst = ks ∧ Rps K B ds (kvs.map Prod.snd)
  | .ot ks ds, v, fp => ∃ a kvs, v = .ref a ∧ fp = [a] ∧ H a = some (.dT kvs) ∧ kvs.map Prod.fst = ks ∧ Rps K B ds (kvs.map Prod.snd)
def Ros (K : PySem.W.Frag) (B H : Hp) : List O → List V → List Addr → Prop
  | [], vs, fp => vs = [] ∧ fp = []
  | o :: os, vs, fp => ∃ v r f1 f2, vs = v :: r ∧ fp = f1 ++ f2 ∧ Ro K B H o v f1 ∧ Ros K B H os r f2
end
mutual
theorem Ro.mono {K : PySem.W.Frag} {B B' H H' : Hp} (e : Ex B B') : ∀ (o : O) (v : V) (fp : List Addr), (∀ a ∈ fp, H' a = H a) → Ro K B H o v fp → Ro K B' H' o v fp
  | .fz d, _, _, _, h => by
    rw [Ro] at h ⊢
    exact ⟨h.1, Rp.mono e d _ h.2⟩
  | .ls os, _, _, g, h => by
    rw [Ro] at h ⊢
    obtain ⟨a, vs, fr, h1, rfl, h3, h4⟩ := h
    exact ⟨a, vs, fr, h1, rfl, (g a (by simp)).trans h3, Ros.mono e os vs fr (fun b hb => g b (by simp [hb])) h4⟩
  | .ok ks ds, _, _, g, h => by
    rw [Ro] at h ⊢
    obtain ⟨a, kvs, h1, rfl, h3, h4, h5⟩ := h
    exact ⟨a, kvs, h1, rfl, (g a (by simp)).trans h3, h4, Rps.mono e ds _ h5⟩
  | .ot ks ds, _, _, g, h => by
    rw [Ro] at h ⊢
    obtain ⟨a, kvs, h1, rfl, h3, h4, h5⟩ := h
    exact ⟨a, kvs, h1, rfl, (g a (by simp)).trans h3, h4, Rps.mono e ds _ h5⟩
theorem Ros.mono {K : PySem.W.Frag} {B B' H H' : Hp} (e : Ex B B') : ∀ (os : List O) (vs : List V) (fp : List Addr), (∀ a ∈ fp, H' a = H a) → Ros K B H os vs fp → Ros K B' H' os vs fp
  | [], _, _, _, h => by rw [Ros] at h ⊢; exact h
  | o :: os, _, _, g, h => by
    rw [Ros] at h ⊢
    obtain ⟨v, r, f1, f2, h1, rfl, h3, h4⟩ := h
    exact ⟨v, r, f1, f2, h1, rfl, Ro.mono e o v f1 (fun b hb => g b (by simp [hb])) h3, Ros.mono e os r f2 (fun b hb => g b (by simp [hb])) h4⟩
end
mutual
/-- what is owned stands in the heap -/
theorem Ro.there {K : PySem.W.Frag} {B H : Hp} : ∀ (o : O) (v : V) (fp : List Addr), Ro K B H o v fp → ∀ a ∈ fp, H a ≠ none
  | .fz d, _, _, h => by
    rw [Ro] at h
    obtain ⟨rfl, _⟩ := h
    intro a ha; simp at ha
  | .ls os, _, _, h => by
    rw [Ro] at h
    obtain ⟨a, vs, fr, h1, rfl, h3, h4⟩ := h
    intro b hb
    rcases List.mem_cons.mp hb with rfl | hb
    · rw [h3]; simp
    · exact Ros.there os vs fr h4 b hb
  | .ok ks ds, _, _, h => by
    rw [Ro] at h
    obtain ⟨a, kvs, h1, rfl, h3, h4, h5⟩ := h
    intro b hb
    rw [List.mem_singleton.mp hb, h3]; simp
  | .ot ks ds, _, _, h => by
    rw [Ro] at h
    obtain ⟨a, kvs, h1, rfl, h3, h4, h5⟩ := h
    intro b hb
    rw [List.mem_singleton.mp hb, h3]; simp
theorem Ros.there {K : PySem.W.Frag} {B H : Hp} : ∀ (os : List O) (vs : List V) (fp : List Addr), Ros K B H os vs fp → ∀ a ∈ fp, H a ≠ none
  | [], _, _, h => by
    rw [Ros] at h
    obtain ⟨_, rfl⟩ := h
    intro a ha; simp at ha
  | o :: os, _, _, h => by
    rw [Ros] at h
    obtain ⟨v, r, f1, f2, h1, rfl, h3, h4⟩ := h
    intro b hb
    rcases List.mem_append.mp hb with hb | hb
    · exact Ro.there o v f1 h3 b hb
    · exact Ros.there os r f2 h4 b hb
end
mutual
/-- what is owned may be read as frozen, over any heap that holds the base and the owned addresses -/
theorem Ro.frz {K : PySem.W.Frag} {B H B' : Hp} (e : Ex B B') : ∀ (o : O) (v : V) (fp : List Addr), (∀ a ∈ fp, B' a = H a) → Ro K B H o v fp → Rp K B' o.frz v
  | .fz d, _, _, _, h => by
    rw [Ro] at h
    rw [O.frz]
    exact Rp.mono e d _ h.2
  | .ls os, _, _, g, h => by
    rw [Ro] at h
    obtain ⟨a, vs, fr, h1, rfl, h3, h4⟩ := h
    rw [O.frz, Rp]
    exact ⟨a, vs, h1, SqL.of ((g a (by simp)).trans h3), Ros.frz e os vs fr (fun b hb => g b (by simp [hb])) h4⟩
  | .ok ks ds, _, _, g, h => by
    rw [Ro] at h
    obtain ⟨a, kvs, h1, rfl, h3, h4, h5⟩ := h
    rw [O.frz, Rp]
    exact ⟨a, kvs, h1, (g a (by simp)).trans h3, h4, Rps.mono e ds _ h5⟩
  | .ot ks ds, _, _, g, h => by
    rw [Ro] at h
    obtain ⟨a, kvs, h1, rfl, h3, h4, h5⟩ := h
    rw [O.frz, Rp]
    exact ⟨a, kvs, h1, (g a (by simp)).trans h3, h4, Rps.mono e ds _ h5⟩
theorem Ros.frz {K : PySem.W.Frag} {B H B' : Hp} (e : Ex B B') : ∀ (os : List O) (vs : List V) (fp : List Addr), (∀ a ∈ fp, B' a = H a) → Ros K B H os vs fp → Rps K B' (O.frzs os) vs
  | [], _, _, _, h => by
    rw [Ros] at h
    rw [O.frzs, Rps]
    exact h.1
  | o :: os, _, _, g, h => by
    rw [Ros] at h
    obtain ⟨v, r, f1, f2, h1, rfl, h3, h4⟩ := h
    rw [O.frzs, Rps]
    exact ⟨v, r, h1, Ro.frz e o v f1 (fun b hb => g b (by simp [hb])) h3, Ros.frz e os r f2 (fun b hb => g b (by simp [hb])) h4⟩
end
mutual
def Vw (K : PySem.W.Frag) (B H : Hp) : O → V → Prop
  | .fz d, v => Rp K B d v
  | .ls os, v => ∃ a vs, v = .ref a ∧ H a = some (.lst vs) ∧ Vws K B H os vs
  | .ok ks ds, v => ∃ a kvs, v = .ref a ∧ H a = some (.dK kvs) ∧ kvs.map Prod.fst = ks ∧ Rps K B ds (kvs.map Prod.snd)
  | .ot ks ds, v => ∃ a kvs, v = .ref a ∧ H a = some (.dT kvs) ∧ kvs.map Prod.fst = ks ∧ Rps K B ds (kvs.map Prod.snd)
def Vws (K : PySem.W.Frag) (B H : Hp) : List O → List V → Prop
  | [], vs => vs = []
  | o :: os, vs => ∃ v r, vs = v :: r ∧ Vw K B H o v ∧ Vws K B H os r
end
mutual
theorem Vw.mono {K : PySem.W.Frag} {B B' H H' : Hp} (e : Ex B B') (e' : Ex H H') : ∀ (o : O) (v : V), Vw K B H o v → Vw K B' H' o v
  | .fz d, _, h => by rw [Vw] at h ⊢; exact Rp.mono e d _ h
  | .ls os, _, h => by
    rw [Vw] at h ⊢
    obtain ⟨a, vs, h1, h3, h4⟩ := h
    exact ⟨a, vs, h1, e' _ _ h3, Vws.mono e e' os vs h4⟩
  | .ok ks ds, _, h => by
    rw [Vw] at h ⊢
    obtain ⟨a, kvs, h1, h3, h4, h5⟩ := h
    exact ⟨a, kvs, h1, e' _ _ h3, h4, Rps.mono e ds _ h5⟩
  | .ot ks ds, _, h => by
    rw [Vw] at h ⊢
    obtain ⟨a, kvs, h1, h3, h4, h5⟩ := h
    exact ⟨a, kvs, h1, e' _ _ h3, h4, Rps.mono e ds _ h5⟩
theorem Vws.mono {K : PySem.W.Frag} {B B' H H' : Hp} (e : Ex B B') (e' : Ex H H') : ∀ (os : List O) (vs : List V), Vws K B H os vs → Vws K B' H' os vs
  | [], _, h => by rw [Vws] at h ⊢; exact h
  | o :: os, _, h => by
    rw [Vws] at h ⊢
    obtain ⟨v, r, h1, h3, h4⟩ := h
    exact ⟨v, r, h1, Vw.mono e e' o v h3, Vws.mono e e' os r h4⟩
end
mutual
theorem Ro.vw {K : PySem.W.Frag} {B H : Hp} : ∀ (o : O) (v : V) (fp : List Addr), Ro K B H o v fp → Vw K B H o v
  | .fz d, _, _, h => by rw [Ro] at h; rw [Vw]; exact h.2
  | .ls os, _, _, h => by
    rw [Ro] at h
    obtain ⟨a, vs, fr, h1, rfl, h3, h4⟩ := h
    rw [Vw]
    exact ⟨a, vs, h1, h3, Ros.vws os vs fr h4⟩
  | .ok ks ds, _, _, h => by
    rw [Ro] at h
    obtain ⟨a, kvs, h1, rfl, h3, h4, h5⟩ := h
    rw [Vw]
    exact ⟨a, kvs, h1, h3, h4, h5⟩
  | .ot ks ds, _, _, h => by
    rw [Ro] at h
    obtain ⟨a, kvs, h1, rfl, h3, h4, h5⟩ := h
    rw [Vw]
    exact ⟨a, kvs, h1, h3, h4, h5⟩
theorem Ros.vws {K : PySem.W.Frag} {B H : Hp} : ∀ (os : List O) (vs : List V) (fp : List Addr), Ros K B H os vs fp → Vws K B H os vs
  | [], _, _, h => by rw [Ros] at h; rw [Vws]; exact h.1
  | o :: os, _, _, h => by
    rw [Ros] at h
    obtain ⟨v, r, f1, f2, h1, rfl, h3, h4⟩ := h
    rw [Vws]
    exact ⟨v, r, h1, Ro.vw o v f1 h3, Ros.vws os r f2 h4⟩
end
theorem Vws.len {K : PySem.W.Frag} {B H : Hp} : ∀ {ds : List O} {vs : List V}, Vws K B H ds vs → ds.length = vs.length
  | [], _, h => by rw [Vws] at h; subst h; rfl
  | d :: ds, _, h => by
    rw [Vws] at h
    obtain ⟨v, r, rfl, _, h3⟩ := h
    simp [Vws.len h3]
theorem Vws.get {K : PySem.W.Frag} {B H : Hp} : ∀ {ds : List O} {vs : List V} {i : Nat} {d : O}, Vws K B H ds vs → ds[i]? = some d → ∃ v, vs[i]? = some v ∧ Vw K B H d v
  | [], _, _, _, _, e => by simp at e
  | d :: ds, _, 0, _, h, e => by
    rw [Vws] at h
    obtain ⟨v, r, rfl, h2, h3⟩ := h
    simp at e; subst e
    exact ⟨v, rfl, h2⟩
  | d :: ds, _, i + 1, d', h, e => by
    rw [Vws] at h
    obtain ⟨v, r, rfl, h2, h3⟩ := h
    have e' : ds[i]? = some d' := by simpa using e
    obtain ⟨v', h1, h2⟩ := Vws.get h3 e'
    exact ⟨v', by simpa using h1, h2⟩
theorem Vws.nil {K : PySem.W.Frag} {B H : Hp} : Vws K B H [] [] := by rw [Vws]
theorem Vws.cons {K : PySem.W.Frag} {B H : Hp} {d : O} {v : V} {ds : List O} {vs : List V} (h : Vw K B H d v) (k : Vws K B H ds vs) : Vws K B H (d :: ds) (v :: vs) := by
  rw [Vws]; exact ⟨v, vs, rfl, h, k⟩
theorem Vws.fz {K : PySem.W.Frag} {B H : Hp} : ∀ {ds : List D} {vs : List V}, Rps K B ds vs → Vws K B H (ds.map O.fz) vs
  | [], _, h => by rw [Rps] at h; subst h; exact Vws.nil
  | d :: ds, _, h => by
    rw [Rps] at h
    obtain ⟨v, r, rfl, h2, h3⟩ := h
    exact Vws.cons (by rw [Vw]; exact h2) (Vws.fz h3)
/-- all are data -/
def O.d? : O → Option D
  | .fz d => some d
  | _ => none
theorem Vws.dat {K : PySem.W.Frag} {B H : Hp} : ∀ {os : List O} {vs : List V} {ds : List D}, Vws K B H os vs → os.mapM O.d? = some ds → Rps K B ds vs
  | [], _, ds, h, e => by
    rw [Vws] at h; subst h
    simp at e; subst e; exact Rps.nil
  | o :: os, _, ds, h, e => by
    rw [Vws] at h
    obtain ⟨v, r, rfl, h2, h3⟩ := h
    rw [List.mapM_cons] at e
    cases o with
    | fz d =>
      cases q : os.mapM O.d? with
      | none => rw [q] at e; simp [O.d?] at e
      | some es =>
        rw [q] at e; simp [O.d?] at e; subst e
        rw [Vw] at h2
        exact Rps.cons h2 (Vws.dat h3 q)
    | ls _ => simp [O.d?] at e
    | ok _ _ => simp [O.d?] at e
    | ot _ _ => simp [O.d?] at e
end Q
set_option Elab.async false
set_option linter.all false
set_option maxRecDepth 100000
set_option maxHeartbeats 1000000
namespace Q
open PySem L2
def Own (K : PySem.W.Frag) (H0 B H : Hp) (A : List Addr) (R : List (O × V)) : Prop :=
  ∃ fp, Ros K B H (R.map Prod.fst) (R.map Prod.snd) fp ∧ fp.Nodup ∧ ∀ a ∈ fp, B a = none ∧ H0 a = none ∧ a ∉ A
section
variable {K : PySem.W.Frag} {H0 B B' H H' : Hp} {A : List Addr} {R R' : List (O × V)} {o : O} {v : V}
theorem ros_perm (p : R.Perm R') : ∀ fp, Ros K B H (R.map Prod.fst) (R.map Prod.snd) fp → ∃ fp', fp.Perm fp' ∧ Ros K B H (R'.map Prod.fst) (R'.map Prod.snd) fp' := by
  induction p with
  | nil => exact fun fp h => ⟨fp, .refl _, h⟩
  | cons x p ih =>
    intro fp h
    rw [List.map_cons, List.map_cons, Ros] at h
    obtain ⟨v, r, f1, f2, h1, rfl, h3, h4⟩ := h
    cases h1
    obtain ⟨f2', p2, h5⟩ := ih f2 h4
    refine ⟨f1 ++ f2', p2.append_left f1, ?_⟩
    rw [List.map_cons, List.map_cons, Ros]
    exact ⟨_, _, f1, f2', rfl, rfl, h3, h5⟩
  | swap x y l =>
    intro fp h
    rw [List.map_cons, List.map_cons, List.map_cons, List.map_cons, Ros] at h
    obtain ⟨v, r, f1, f2, h1, rfl, h3, h4⟩ := h
    cases h1
    rw [Ros] at h4
    obtain ⟨v', r', g1, g2, h5, rfl, h6, h7⟩ := h4
    cases h5
    refine ⟨g1 ++ (f1 ++ g2), ?_, ?_⟩
    · rw [← List.append_assoc, ← List.append_assoc]
      exact List.perm_append_comm.append_right _
    · rw [List.map_cons, List.map_cons, List.map_cons, List.map_cons, Ros]
      refine ⟨_, _, g1, _, rfl, rfl, h6, ?_⟩
      rw [Ros]
      exact ⟨_, _, f1, g2, rfl, rfl, h3, h7⟩
  | trans p q ih1 ih2 =>
    intro fp h
    obtain ⟨f1, p1, h1⟩ := ih1 fp h
    obtain ⟨f2, p2, h2⟩ := ih2 f1 h1
    exact ⟨f2, p1.trans p2, h2⟩
theorem Own.perm (h : Own K H0 B H A R) (p : R.Perm R') : Own K H0 B H A R' := by
  obtain ⟨fp, h1, h2, h3⟩ := h
  obtain ⟨fp', p', h4⟩ := ros_perm p fp h1
  exact ⟨fp', h4, p'.nodup_iff.mp h2, fun a ha => h3 a (p'.mem_iff.mpr ha)⟩
theorem Own.cons_iff {fp : List Addr} : Ros K B H (((o, v) :: R).map Prod.fst) (((o, v) :: R).map Prod.snd) fp ↔ ∃ f1 f2, fp = f1 ++ f2 ∧ Ro K B H o v f1 ∧ Ros K B H (R.map Prod.fst) (R.map Prod.snd) f2 := by
  rw [List.map_cons, List.map_cons, Ros]
  constructor
  · rintro ⟨v', r, f1, f2, h1, h2, h3, h4⟩
    cases h1
    exact ⟨f1, f2, h2, h3, h4⟩
  · rintro ⟨f1, f2, h2, h3, h4⟩
    exact ⟨_, _, f1, f2, rfl, h2, h3, h4⟩
theorem Own.tail (h : Own K H0 B H A ((o, v) :: R)) : Own K H0 B H A R := by
  obtain ⟨fp, h1, h2, h3⟩ := h
  obtain ⟨f1, f2, rfl, _, h4⟩ := Own.cons_iff.mp h1
  exact ⟨f2, h4, (List.nodup_append.mp h2).2.1, fun a ha => h3 a (List.mem_append_right _ ha)⟩
theorem Own.drop {R1 R2 : List (O × V)} (h : Own K H0 B H A (R1 ++ R2)) : Own K H0 B H A R2 := by
  induction R1 with
  | nil => exact h
  | cons x r ih => exact ih (Own.tail (o := x.1) (v := x.2) h)
theorem Own.vw (h : Own K H0 B H A ((o, v) :: R)) : Vw K B H o v := by
  obtain ⟨fp, h1, h2, h3⟩ := h
  obtain ⟨f1, f2, rfl, h4, _⟩ := Own.cons_iff.mp h1
  exact Ro.vw o v f1 h4
theorem Own.nil : Own K H0 B H A [] := ⟨[], by rw [List.map_nil, List.map_nil, Ros]; exact ⟨rfl, rfl⟩, List.nodup_nil, fun a h => by simp at h⟩
theorem Own.fz {d : D} (h : Own K H0 B H A R) (r : Rp K B d v) : Own K H0 B H A ((.fz d, v) :: R) := by
  obtain ⟨fp, h1, h2, h3⟩ := h
  exact ⟨fp, Own.cons_iff.mpr ⟨[], fp, rfl, by rw [Ro]; exact ⟨rfl, r⟩, h1⟩, h2, h3⟩
theorem Own.fzs {ds : List D} : ∀ {vs : List V}, Rps K B ds vs → Own K H0 B H A R → Own K H0 B H A ((ds.map O.fz).zip vs ++ R) := by
  induction ds with
  | nil => intro vs h k; simpa using k
  | cons d ds ih =>
    intro vs h k
    rw [Rps] at h
    obtain ⟨v, r, rfl, h2, h3⟩ := h
    exact (ih h3 k).fz h2
/-- the heap grows, and the base by what is new -/
theorem Own.grow (h : Own K H0 B H A R) (e : Ex B B') (e' : Ex H H') (n : ∀ a, B a = none → H a ≠ none → B' a = none) : Own K H0 B' H' A R := by
  obtain ⟨fp, h1, h2, h3⟩ := h
  have th := Ros.there _ _ _ h1
  refine ⟨fp, Ros.mono e _ _ fp (fun a ha => ?_) h1, h2, fun a ha => ⟨n a (h3 a ha).1 (th a ha), (h3 a ha).2⟩⟩
  cases q : H a with
  | none => exact absurd q (th a ha)
  | some o => exact e' a o q
/-- an address that is not owned may change -/
theorem Own.upd {a : Addr} {x : HO} (h : Own K H0 B H (a :: A) R) : Own K H0 B (upd H a x) (a :: A) R := by
  obtain ⟨fp, h1, h2, h3⟩ := h
  refine ⟨fp, Ros.mono (Ex.refl _) _ _ fp (fun b hb => ?_) h1, h2, h3⟩
  exact upd_ne fun e => (h3 b hb).2.2 (by rw [e]; exact List.mem_cons_self)
theorem Own.more {a : Addr} (h : Own K H0 B H A R) (e : H a = none) : Own K H0 B H (a :: A) R := by
  obtain ⟨fp, h1, h2, h3⟩ := h
  have th := Ros.there _ _ _ h1
  refine ⟨fp, h1, h2, fun b hb => ⟨(h3 b hb).1, (h3 b hb).2.1, fun z => ?_⟩⟩
  rcases List.mem_cons.mp z with rfl | z
  · exact th b hb e
  · exact (h3 b hb).2.2 z
theorem zip_fst {α β : Type} : ∀ {xs : List α} {ys : List β}, xs.length = ys.length → (xs.zip ys).map Prod.fst = xs
  | [], [], _ => rfl
  | x :: xs, y :: ys, h => by simp [zip_fst (xs := xs) (ys := ys) (by simpa using h)]
theorem zip_snd {α β : Type} : ∀ {xs : List α} {ys : List β}, xs.length = ys.length → (xs.zip ys).map Prod.snd = ys
  | [], [], _ => rfl
  | x :: xs, y :: ys, h => by simp [zip_snd (xs := xs) (ys := ys) (by simpa using h)]
theorem Ros.len : ∀ {os : List O} {vs : List V} {fp : List Addr}, Ros K B H os vs fp → os.length = vs.length
  | [], _, _, h => by rw [Ros] at h; rw [h.1]; rfl
  | o :: os, _, _, h => by
    rw [Ros] at h
    obtain ⟨v, r, f1, f2, rfl, rfl, h3, h4⟩ := h
    simp [Ros.len h4]
theorem Ros.append : ∀ {os ps : List O} {vs us : List V} {f g : List Addr}, Ros K B H os vs f → Ros K B H ps us g → Ros K B H (os ++ ps) (vs ++ us) (f ++ g)
  | [], _, _, _, _, _, h, k => by rw [Ros] at h; rw [h.1, h.2]; exact k
  | o :: os, ps, _, us, _, g, h, k => by
    rw [Ros] at h
    obtain ⟨v, r, f1, f2, rfl, rfl, h3, h4⟩ := h
    show Ros K B H (o :: (os ++ ps)) (v :: (r ++ us)) (f1 ++ f2 ++ g)
    rw [Ros]
    exact ⟨v, _, f1, f2 ++ g, rfl, by rw [List.append_assoc], h3, Ros.append h4 k⟩
theorem Ros.split : ∀ {os ps : List O} {vs us : List V} {f : List Addr}, os.length = vs.length → Ros K B H (os ++ ps) (vs ++ us) f → ∃ f1 f2, f = f1 ++ f2 ∧ Ros K B H os vs f1 ∧ Ros K B H ps us f2
  | [], _, [], _, f, _, h => ⟨[], f, rfl, by rw [Ros]; exact ⟨rfl, rfl⟩, h⟩
  | o :: os, ps, v :: vs, us, f, hl, h => by
    have h' : Ros K B H (o :: (os ++ ps)) (v :: (vs ++ us)) f := h
    rw [Ros] at h'
    obtain ⟨v', r, f1, f2, h1, rfl, h3, h4⟩ := h'
    cases h1
    obtain ⟨g1, g2, rfl, h5, h6⟩ := Ros.split (by simpa using hl) h4
    refine ⟨f1 ++ g1, g2, by rw [List.append_assoc], ?_, h6⟩
    rw [Ros]
    exact ⟨_, _, f1, g1, rfl, rfl, h3, h5⟩
/-- a list opened: its items are roots -/
theorem Own.open {os : List O} {a : Addr} (h : Own K H0 B H A ((.ls os, .ref a) :: R)) :
    ∃ vs, H a = some (.lst vs) ∧ os.length = vs.length ∧ B a = none ∧ H0 a = none ∧ a ∉ A ∧ Own K H0 B H (a :: A) (os.zip vs ++ R) := by
  obtain ⟨fp, h1, h2, h3⟩ := h
  obtain ⟨f1, f2, rfl, h4, h5⟩ := Own.cons_iff.mp h1
  rw [Ro] at h4
  obtain ⟨b, vs, fr, e, rfl, h6, h7⟩ := h4
  cases e
  have ha := h3 a (by simp)
  have hl := h7.len
  refine ⟨vs, h6, hl, ha.1, ha.2.1, ha.2.2, fr ++ f2, ?_, ?_, fun b hb => ⟨(h3 b ?_).1, (h3 b ?_).2.1, fun z => ?_⟩⟩
  · rw [List.map_append, List.map_append, zip_fst hl, zip_snd hl]
    exact h7.append h5
  · rw [List.cons_append] at h2
    exact (List.nodup_cons.mp h2).2
  · exact List.mem_cons_of_mem _ hb
  · exact List.mem_cons_of_mem _ hb
  · rcases List.mem_cons.mp z with rfl | z
    · rw [List.cons_append] at h2
      exact (List.nodup_cons.mp h2).1 hb
    · exact (h3 b (List.mem_cons_of_mem _ hb)).2.2 z
/-- .. and shut -/
theorem Own.shut {os : List O} {vs : List V} {a : Addr} (h : Own K H0 B H (a :: A) (os.zip vs ++ R)) (hl : os.length = vs.length) (ha : H a = some (.lst vs)) (hb : B a = none) (h0 : H0 a = none) (hA : a ∉ A) :
    Own K H0 B H A ((.ls os, .ref a) :: R) := by
  obtain ⟨fp, h1, h2, h3⟩ := h
  rw [List.map_append, List.map_append, zip_fst hl, zip_snd hl] at h1
  obtain ⟨f1, f2, rfl, h4, h5⟩ := Ros.split hl h1
  refine ⟨a :: f1 ++ f2, Own.cons_iff.mpr ⟨a :: f1, f2, rfl, ?_, h5⟩, ?_, fun b hb' => ?_⟩
  · rw [Ro]
    exact ⟨a, vs, f1, rfl, rfl, ha, h4⟩
  · rw [List.cons_append]
    exact List.nodup_cons.mpr ⟨fun z => (h3 a z).2.2 List.mem_cons_self, h2⟩
  · rcases List.mem_cons.mp hb' with rfl | z
    · exact ⟨hb, h0, hA⟩
    · exact ⟨(h3 b z).1, (h3 b z).2.1, fun y => (h3 b z).2.2 (List.mem_cons_of_mem _ y)⟩
theorem Own.openT {ks : List (List Key)} {ds : List D} {a : Addr} (h : Own K H0 B H A ((.ot ks ds, .ref a) :: R)) :
    ∃ kvs, H a = some (.dT kvs) ∧ kvs.map Prod.fst = ks ∧ Rps K B ds (kvs.map Prod.snd) ∧ B a = none ∧ H0 a = none ∧ a ∉ A ∧ Own K H0 B H (a :: A) R := by
  obtain ⟨fp, h1, h2, h3⟩ := h
  obtain ⟨f1, f2, rfl, h4, h5⟩ := Own.cons_iff.mp h1
  rw [Ro] at h4
  obtain ⟨b, kvs, e, rfl, h6, h7, h8⟩ := h4
  cases e
  have ha := h3 a (by simp)
  rw [List.cons_append] at h2
  refine ⟨kvs, h6, h7, h8, ha.1, ha.2.1, ha.2.2, f2, h5, (List.nodup_cons.mp h2).2, fun b hb => ⟨(h3 b (by simp [hb])).1, (h3 b (by simp [hb])).2.1, fun z => ?_⟩⟩
  rcases List.mem_cons.mp z with rfl | z
  · exact (List.nodup_cons.mp h2).1 hb
  · exact (h3 b (by simp [hb])).2.2 z
theorem Own.shutT {ks : List (List Key)} {ds : List D} {kvs : List (List Key × V)} {a : Addr} (h : Own K H0 B H (a :: A) R) (ha : H a = some (.dT kvs)) (hk : kvs.map Prod.fst = ks) (hd : Rps K B ds (kvs.map Prod.snd)) (hb : B a = none) (h0 : H0 a = none) (hA : a ∉ A) :
    Own K H0 B H A ((.ot ks ds, .ref a) :: R) := by
  obtain ⟨fp, h1, h2, h3⟩ := h
  refine ⟨a :: fp, Own.cons_iff.mpr ⟨[a], fp, rfl, ?_, h1⟩, List.nodup_cons.mpr ⟨fun z => (h3 a z).2.2 List.mem_cons_self, h2⟩, fun b hb' => ?_⟩
  · rw [Ro]
    exact ⟨a, kvs, rfl, rfl, ha, hk, hd⟩
  · rcases List.mem_cons.mp hb' with rfl | z
    · exact ⟨hb, h0, hA⟩
    · exact ⟨(h3 b z).1, (h3 b z).2.1, fun y => (h3 b z).2.2 (List.mem_cons_of_mem _ y)⟩
open Classical in
/-- an owned thing is given to the base -/
theorem Own.freeze (h : Own K H0 B H A ((o, v) :: R)) (bh : Ex B H) : ∃ B', Ex B B' ∧ Ex B' H ∧ Rp K B' o.frz v ∧ Own K H0 B' H A R ∧ ∀ a, H0 a ≠ none → B' a = B a := by
  obtain ⟨fp, h1, h2, h3⟩ := h
  obtain ⟨f1, f2, rfl, h4, h5⟩ := Own.cons_iff.mp h1
  have nd := List.nodup_append.mp h2
  have e1 : Ex B (fun a => if a ∈ f1 then H a else B a) := fun a u q => by
    show (if a ∈ f1 then H a else B a) = some u
    by_cases hm : a ∈ f1
    · have := (h3 a (List.mem_append_left _ hm)).1
      rw [this] at q; cases q
    · rw [if_neg hm]; exact q
  refine ⟨fun a => if a ∈ f1 then H a else B a, e1, fun a u q => ?_, Ro.frz e1 o v f1 (fun a ha => if_pos ha) h4, ⟨f2, Ros.mono e1 _ _ f2 (fun _ _ => rfl) h5, nd.2.1, fun a ha => ⟨?_, (h3 a (List.mem_append_right _ ha)).2⟩⟩, fun a ha => ?_⟩
  · have q' : (if a ∈ f1 then H a else B a) = some u := q
    by_cases hm : a ∈ f1
    · rw [if_pos hm] at q'; exact q'
    · rw [if_neg hm] at q'; exact bh a u q'
  · show (if a ∈ f1 then H a else B a) = none
    rw [if_neg fun hm => nd.2.2 a hm a ha rfl]
    exact (h3 a (List.mem_append_right _ ha)).1
  · show (if a ∈ f1 then H a else B a) = B a
    exact if_neg fun hm => ha (h3 a (List.mem_append_left _ hm)).2.1
end
def rt : Sl → Option V → List (O × V)
  | .has o, some v => [(o, v)]
  | _, _ => []
def roots : En → L2.St → List (O × V)
  | e :: es, s :: ss => rt e s ++ roots es ss
  | _, _ => []
theorem roots_at : ∀ {env : En} {σ : L2.St} {i : Nat} {e : Sl} {s : Option V}, env[i]? = some e → σ[i]? = some s → ∃ R, (roots env σ).Perm (rt e s ++ R) ∧ ∀ e' s', (roots (env.set i e') (σ.set i s')).Perm (rt e' s' ++ R)
  | [], _, _, _, _, h, _ => by simp at h
  | _ :: _, [], _, _, _, _, h => by simp at h
  | x :: es, y :: ss, 0, e, s, h1, h2 => by
    simp at h1 h2
    subst h1 h2
    exact ⟨roots es ss, .refl _, fun e' s' => .refl _⟩
  | x :: es, y :: ss, i + 1, e, s, h1, h2 => by
    obtain ⟨R, p, q⟩ := roots_at (env := es) (σ := ss) (i := i) (e := e) (s := s) (by simpa using h1) (by simpa using h2)
    refine ⟨rt x y ++ R, ?_, fun e' s' => ?_⟩
    · show (rt x y ++ roots es ss).Perm _
      refine (p.append_left _).trans ?_
      rw [← List.append_assoc, ← List.append_assoc]
      exact List.perm_append_comm.append_right _
    · show (rt x y ++ roots (es.set i e') (ss.set i s')).Perm _
      refine ((q e' s').append_left _).trans ?_
      rw [← List.append_assoc, ← List.append_assoc]
      exact List.perm_append_comm.append_right _
structure Sg (ln : Nat → Option V) (env : En) (σ : L2.St) : Prop where
  len : env.length = σ.length
  has : ∀ (i : Nat) (o : O), env[i]? = some (Sl.has o) → ∃ v, σ[i]? = some (some v)
  lent : ∀ (i : Nat), env[i]? = some Sl.lent → ∃ v, ln i = some v ∧ σ[i]? = some (some v)
  adr : ∀ (i : Nat) (a : Addr), env[i]? = some (Sl.adr a) → σ[i]? = some (some (.ref a))
theorem Sg.set {ln : Nat → Option V} {env : En} {σ : L2.St} (g : Sg ln env σ) (i : Nat) (o : O) (v : V) : Sg ln (env.set i (.has o)) (σ.set i (some v)) where
  len := by rw [List.length_set, List.length_set]; exact g.len
  has := fun j o' e => by
    by_cases h : i = j
    · subst h
      have hi : i < env.length := by
        have := (List.getElem?_eq_some_iff.mp e).1
        simpa using this
      exact ⟨v, by rw [List.getElem?_set_self (by rw [← g.len]; exact hi)]⟩
    · rw [List.getElem?_set_ne h] at e
      obtain ⟨v', e'⟩ := g.has j o' e
      exact ⟨v', by rw [List.getElem?_set_ne h]; exact e'⟩
  lent := fun j e => by
    by_cases h : i = j
    · subst h
      have hi : i < env.length := by
        have := (List.getElem?_eq_some_iff.mp e).1
        simpa using this
      rw [List.getElem?_set_self hi] at e
      cases e
    · rw [List.getElem?_set_ne h] at e
      obtain ⟨v', e1, e2⟩ := g.lent j e
      exact ⟨v', e1, by rw [List.getElem?_set_ne h]; exact e2⟩
  adr := fun j a e => by
    by_cases h : i = j
    · subst h
      have hi : i < env.length := by
        have := (List.getElem?_eq_some_iff.mp e).1
        simpa using this
      rw [List.getElem?_set_self hi] at e
      cases e
    · rw [List.getElem?_set_ne h] at e
      rw [List.getElem?_set_ne h]
      exact g.adr j a e
/-- what is in a slot changes, the slot's value stays -/
theorem Sg.same {ln : Nat → Option V} {env : En} {σ : L2.St} (g : Sg ln env σ) {i : Nat} {o : O} (h : env[i]? = some (.has o)) (o' : O) : Sg ln (env.set i (.has o')) σ := by
  obtain ⟨v, hv⟩ := g.has i o h
  have q := g.set i o' v
  rwa [show σ.set i (some v) = σ from by
    obtain ⟨h1, h2⟩ := List.getElem?_eq_some_iff.mp hv
    rw [← h2]; simp] at q
structure Wd (H0 B0 B H : Hp) : Prop where
  b0 : Ex B0 B
  bh : Ex B H
  h0 : Ex H0 H
  nw : ∀ a, B0 a = none → H0 a ≠ none → B a = none
theorem Wd.refl {B H : Hp} (e : Ex B H) : Wd H B B H := ⟨Ex.refl _, e, Ex.refl _, fun _ h _ => h⟩
theorem Wd.trans {H0 B0 B H B' H' : Hp} (a : Wd H0 B0 B H) (b : Wd H B B' H') : Wd H0 B0 B' H' :=
  ⟨a.b0.trans b.b0, b.bh, a.h0.trans b.h0, fun x h1 h2 => b.nw x (a.nw x h1 h2) fun e => h2 (a.h0.none e)⟩
theorem Wd.new {B H : Hp} (e : Ex B H) {p : Addr} {x : HO} (hp : H p = none) : Wd H B (upd B p x) (upd H p x) :=
  ⟨Ex.new (e.none hp), fun a u q => by
    by_cases h : a = p
    · subst h; rw [upd_same] at q ⊢; exact q
    · rw [upd_ne h] at q ⊢; exact e a u q, Ex.new hp, fun a h1 h2 => by rw [upd_ne fun z => h2 (by rw [z]; exact hp)]; exact h1⟩
theorem Wd.newH {B H : Hp} (e : Ex B H) {p : Addr} {x : HO} (hp : H p = none) : Wd H B B (upd H p x) :=
  ⟨Ex.refl _, e.trans (Ex.new hp), Ex.new hp, fun a h1 _ => h1⟩
structure Stt (K : PySem.W.Frag) (H0 B0 : Hp) (ln : Nat → Option V) (Γ : List (O × V)) (B H : Hp) (σ : L2.St) (env : En) : Prop where
  w : Wd H0 B0 B H
  sg : Sg ln env σ
  own : Own K H0 B H [] (roots env σ ++ Γ)
section
variable {K : PySem.W.Frag} {H0 B0 B B' H H' : Hp} {ln : Nat → Option V} {Γ Γ' : List (O × V)} {σ : L2.St} {env : En} {o : O} {v : V} {d : D}
theorem Stt.push (h : Stt K H0 B0 ln Γ B H σ env) (r : Rp K B d v) : Stt K H0 B0 ln ((.fz d, v) :: Γ) B H σ env :=
  ⟨h.w, h.sg, (h.own.fz r).perm List.perm_middle.symm⟩
theorem Stt.pop (h : Stt K H0 B0 ln ((o, v) :: Γ) B H σ env) : Stt K H0 B0 ln Γ B H σ env :=
  ⟨h.w, h.sg, (h.own.perm List.perm_middle).tail⟩
theorem Stt.perm (h : Stt K H0 B0 ln Γ B H σ env) (p : Γ.Perm Γ') : Stt K H0 B0 ln Γ' B H σ env := ⟨h.w, h.sg, h.own.perm (p.append_left _)⟩
theorem Stt.vw (h : Stt K H0 B0 ln ((o, v) :: Γ) B H σ env) : Vw K B H o v := (h.own.perm List.perm_middle).vw
theorem Stt.rp (h : Stt K H0 B0 ln ((.fz d, v) :: Γ) B H σ env) : Rp K B d v := by
  have := h.vw; rw [Vw] at this; exact this
/-- a step of the world -/
theorem Stt.step (h : Stt K H0 B0 ln Γ B H σ env) (w : Wd H B B' H') : Stt K H0 B0 ln Γ B' H' σ env :=
  ⟨h.w.trans w, h.sg, h.own.grow w.b0 w.h0 w.nw⟩
/-- a temp is frozen -/
theorem Stt.frz (h : Stt K H0 B0 ln ((o, v) :: Γ) B H σ env) : ∃ B', Ex B B' ∧ Stt K H0 B0 ln ((.fz o.frz, v) :: Γ) B' H σ env := by
  obtain ⟨B', e1, e2, r, ow, n⟩ := (h.own.perm List.perm_middle).freeze h.w.bh
  have w' : Wd H0 B0 B' H := ⟨h.w.b0.trans e1, e2, h.w.h0, fun a h1 h2 => (n a h2).trans (h.w.nw a h1 h2)⟩
  exact ⟨B', e1, Stt.push ⟨w', h.sg, ow⟩ r⟩
/-- a slot's content -/
theorem Stt.slot (h : Stt K H0 B0 ln Γ B H σ env) {i : Nat} (e : env[i]? = some (.has o)) : ∃ v, σ[i]? = some (some v) ∧ Vw K B H o v := by
  obtain ⟨v, hv⟩ := h.sg.has i o e
  obtain ⟨R, p, _⟩ := roots_at e hv
  refine ⟨v, hv, ?_⟩
  have q : Own K H0 B H [] (((o, v) :: R) ++ Γ) := h.own.perm (p.append_right Γ)
  exact q.vw
theorem Stt.slotD (h : Stt K H0 B0 ln Γ B H σ env) {i : Nat} (e : env[i]? = some (.has (.fz d))) : ∃ v, σ[i]? = some (some v) ∧ Rp K B d v := by
  obtain ⟨v, hv, w⟩ := h.slot e
  rw [Vw] at w
  exact ⟨v, hv, w⟩
/-- a temp goes into a slot -/
theorem Stt.store (h : Stt K H0 B0 ln ((o, v) :: Γ) B H σ env) {i : Nat} (hi : i < env.length) : Stt K H0 B0 ln Γ B H (σ.set i (some v)) (env.set i (.has o)) := by
  have hs : i < σ.length := by rw [← h.sg.len]; exact hi
  obtain ⟨R, p, q⟩ := roots_at (List.getElem?_eq_getElem hi) (List.getElem?_eq_getElem hs)
  refine ⟨h.w, h.sg.set i o v, ?_⟩
  have ow : Own K H0 B H [] (rt env[i] σ[i] ++ (R ++ ((o, v) :: Γ))) := by
    rw [← List.append_assoc]
    exact h.own.perm (p.append_right _)
  have o2 := ow.drop
  exact o2.perm (List.perm_middle.trans ((((q (.has o) (some v)).append_right Γ).symm)))
/-- what stands in a slot is taken out and something else is put there, the value as it was -/
theorem Stt.slotOut (h : Stt K H0 B0 ln Γ B H σ env) {i : Nat} (e : env[i]? = some (.has o)) : ∃ v R, σ[i]? = some (some v) ∧ Own K H0 B H [] ((o, v) :: (R ++ Γ)) ∧ ∀ o' B' H', Own K H0 B' H' [] ((o', v) :: (R ++ Γ)) → Wd H0 B0 B' H' → Stt K H0 B0 ln Γ B' H' σ (env.set i (.has o')) := by
  obtain ⟨v, hv⟩ := h.sg.has i o e
  obtain ⟨R, p, q⟩ := roots_at e hv
  refine ⟨v, R, hv, h.own.perm (p.append_right Γ), fun o' B' H' ow w => ⟨w, h.sg.same e o', ?_⟩⟩
  have z : σ.set i (some v) = σ := by
    obtain ⟨h1, h2⟩ := List.getElem?_eq_some_iff.mp hv
    rw [← h2]; simp
  have q' := q (.has o') (some v)
  rw [z] at q'
  exact ow.perm (q'.append_right Γ).symm
theorem Stt.slotFrz (h : Stt K H0 B0 ln Γ B H σ env) {i : Nat} (e : env[i]? = some (.has o)) : ∃ v B', σ[i]? = some (some v) ∧ Ex B B' ∧ Rp K B' o.frz v ∧ Stt K H0 B0 ln Γ B' H σ (env.set i (.has (.fz o.frz))) := by
  obtain ⟨v, R, hv, ow, back⟩ := h.slotOut e
  obtain ⟨B', e1, e2, r, ow', n⟩ := ow.freeze h.w.bh
  exact ⟨v, B', hv, e1, r, back (.fz o.frz) B' H (ow'.fz r) ⟨h.w.b0.trans e1, e2, h.w.h0, fun a h1 h2 => (n a h2).trans (h.w.nw a h1 h2)⟩⟩
/-- a new tuple of data -/
theorem Stt.newTup {ds : List D} {vs : List V} (h : Stt K H0 B0 ln Γ B H σ env) (r : Rps K B ds vs) {p : Addr} (hp : H p = none) :
    Ex B (upd B p (.tup vs)) ∧ Ex H (upd H p (.tup vs)) ∧ Stt K H0 B0 ln ((.fz (.tup ds), .ref p) :: Γ) (upd B p (.tup vs)) (upd H p (.tup vs)) σ env := by
  have w := Wd.new (x := .tup vs) h.w.bh hp
  refine ⟨w.b0, w.h0, (h.step w).push ?_⟩
  rw [Rp]
  exact ⟨p, vs, rfl, SqT.of upd_same, Rps.mono w.b0 ds vs r⟩
/-- a new list of temps -/
theorem Stt.newLst {os : List O} {vs : List V} (h : Stt K H0 B0 ln (os.zip vs ++ Γ) B H σ env) (hl : os.length = vs.length) {p : Addr} (hp : H p = none) :
    Ex H (upd H p (.lst vs)) ∧ Stt K H0 B0 ln ((.ls os, .ref p) :: Γ) B (upd H p (.lst vs)) σ env := by
  have w := Wd.newH (x := .lst vs) h.w.bh hp
  refine ⟨w.h0, h.w.trans w, h.sg, ?_⟩
  have o1 : Own K H0 B H [] (os.zip vs ++ (roots env σ ++ Γ)) := by
    refine h.own.perm ?_
    rw [← List.append_assoc, ← List.append_assoc]
    exact List.perm_append_comm.append_right _
  have o2 := (o1.more hp).upd (x := .lst vs)
  exact (o2.shut hl upd_same (h.w.bh.none hp) (h.w.h0.none hp) (by simp)).perm List.perm_middle.symm
theorem Stt.newLstD {ds : List D} {vs : List V} (h : Stt K H0 B0 ln Γ B H σ env) (r : Rps K B ds vs) {p : Addr} (hp : H p = none) :
    Ex H (upd H p (.lst vs)) ∧ Stt K H0 B0 ln ((.ls (ds.map .fz), .ref p) :: Γ) B (upd H p (.lst vs)) σ env := by
  refine Stt.newLst ⟨h.w, h.sg, ?_⟩ (by rw [List.length_map]; exact r.len) hp
  refine (Own.fzs r h.own).perm ?_
  rw [← List.append_assoc, ← List.append_assoc]
  exact List.perm_append_comm.append_right _
end
end Q
set_option Elab.async false
set_option linter.all false
set_option maxRecDepth 100000
set_option maxHeartbeats 1000000
namespace Q
open PySem L2 PyProof.Rows
abbrev EM (α : Type) := En → Option (α × En)
def SE (K : PySem.W.Frag) (t : TE) (m : EM O) : Prop :=
  ∀ (H0 B0 : Hp) (ln : Nat → Option V) (Γ : List (O × V)) (B H : Hp) (σ : L2.St) (env : En), Stt K H0 B0 ln Γ B H σ env → ∀ o env', m env = some (o, env') → ∀ Q : VK,
    (∀ v B' H', Ex B B' → Ex H H' → Stt K H0 B0 ln ((o, v) :: Γ) B' H' σ env' → Q v H') → t σ H Q
def SV (K : PySem.W.Frag) (t : TE) (m : EM O) : Prop :=
  ∀ (H0 B0 : Hp) (ln : Nat → Option V) (Γ : List (O × V)) (B H : Hp) (σ : L2.St) (env : En), Stt K H0 B0 ln Γ B H σ env → ∀ o env', m env = some (o, env') → ∀ Q : VK,
    (∀ v B' H', Ex B B' → Ex H H' → Stt K H0 B0 ln Γ B' H' σ env' → Vw K B' H' o v → Q v H') → t σ H Q
def STst (K : PySem.W.Frag) (t : TT) (m : EM Bool) : Prop :=
  ∀ (H0 B0 : Hp) (ln : Nat → Option V) (Γ : List (O × V)) (B H : Hp) (σ : L2.St) (env : En), Stt K H0 B0 ln Γ B H σ env → ∀ b env', m env = some (b, env') → ∀ Q : Bool → Hp → Prop,
    (∀ B' H', Ex B B' → Ex H H' → Stt K H0 B0 ln Γ B' H' σ env' → Q b H') → t σ H Q
def SA (K : PySem.W.Frag) (t : TA) (m : EM (List O)) : Prop :=
  ∀ (H0 B0 : Hp) (ln : Nat → Option V) (Γ : List (O × V)) (B H : Hp) (σ : L2.St) (env : En), Stt K H0 B0 ln Γ B H σ env → ∀ os env', m env = some (os, env') → ∀ Q : List V → Hp → Prop,
    (∀ vs B' H', Ex B B' → Ex H H' → os.length = vs.length → Stt K H0 B0 ln (os.zip vs ++ Γ) B' H' σ env' → Q vs H') → t σ H Q
def SVA (K : PySem.W.Frag) (t : TA) (m : EM (List O)) : Prop :=
  ∀ (H0 B0 : Hp) (ln : Nat → Option V) (Γ : List (O × V)) (B H : Hp) (σ : L2.St) (env : En), Stt K H0 B0 ln Γ B H σ env → ∀ os env', m env = some (os, env') → ∀ Q : List V → Hp → Prop,
    (∀ vs B' H', Ex B B' → Ex H H' → Stt K H0 B0 ln Γ B' H' σ env' → Vws K B' H' os vs → Q vs H') → t σ H Q
def QE (X : Cx) (e : Expr) (m : EM O) : Prop := ∃ t, PE X e t ∧ SE X.K t m
def QV (X : Cx) (e : Expr) (m : EM O) : Prop := ∃ t, PE X e t ∧ SV X.K t m
def QT (X : Cx) (e : Expr) (m : EM Bool) : Prop := ∃ t, PT X e t ∧ STst X.K t m
def QW (X : Cx) (e : Expr) (m : EM Bool) : Prop := ∃ t, PW X e t ∧ STst X.K t m
def QA (X : Cx) (es : List Expr) (m : EM (List O)) : Prop := ∃ t, PA X es t ∧ SA X.K t m
def QVA (X : Cx) (es : List Expr) (m : EM (List O)) : Prop := ∃ t, PA X es t ∧ SVA X.K t m
def mC (d : D) : EM O := fun env => some (.fz d, env)
def mView (i : Nat) : EM O := fun env => match env[i]? with
  | some (.has o) => some (o, env)
  | _ => none
def mName (i : Nat) : EM O := fun env => match env[i]? with
  | some (.has (.fz d)) => some (.fz d, env)
  | some (.has o) => some (.fz o.frz, env.set i (.has (.fz o.frz)))
  | _ => none
def mFz (m : EM O) : EM O := fun env => match m env with
  | some (.fz d, e) => some (.fz d, e)
  | _ => none
def mFrz (m : EM O) : EM O := fun env => match m env with
  | some (o, e) => some (.fz o.frz, e)
  | none => none
def m1 (g : O → Option O) (a : EM O) : EM O := fun env => (a env).bind fun p => (g p.1).bind fun z => some (z, p.2)
def m2 (g : O → O → Option O) (a b : EM O) : EM O := fun env => (a env).bind fun p => (b p.2).bind fun q => (g p.1 q.1).bind fun z => some (z, q.2)
def mNil : EM (List O) := fun env => some ([], env)
def mCons (a : EM O) (r : EM (List O)) : EM (List O) := fun env => (a env).bind fun p => (r p.2).bind fun q => some (p.1 :: q.1, q.2)
def mL (g : List O → Option O) (a : EM (List O)) : EM O := fun env => (a env).bind fun p => (g p.1).bind fun z => some (z, p.2)
def mTst (a : EM O) : EM Bool := fun env => (a env).bind fun p => match p.1 with
  | .fz (.bl b) => some (b, p.2)
  | _ => none
def mTru (g : O → Option Bool) (a : EM O) : EM Bool := fun env => (a env).bind fun p => (g p.1).bind fun z => some (z, p.2)
def mAnd (a b : EM Bool) : EM Bool := fun env => (a env).bind fun p => if p.1 = true then b p.2 else some (false, p.2)
def mOr (a b : EM Bool) : EM Bool := fun env => (a env).bind fun p => if p.1 = true then some (true, p.2) else b p.2
def mNot (a : EM Bool) : EM Bool := fun env => (a env).bind fun p => some (!p.1, p.2)
def mIf (c : EM Bool) (a b : EM O) : EM O := fun env => (c env).bind fun p => if p.1 = true then a p.2 else b p.2
/-- and, or, not as values of bools -/
def mAndV (a b : EM O) : EM O := fun env => (a env).bind fun p => match p.1 with
  | .fz (.bl c) => if c = true then b p.2 else some (.fz (.bl false), p.2)
  | _ => none
def mOrV (a b : EM O) : EM O := fun env => (a env).bind fun p => match p.1 with
  | .fz (.bl c) => if c = true then some (.fz (.bl true), p.2) else b p.2
  | _ => none
def mNotV (a : EM O) : EM O := fun env => (a env).bind fun p => match p.1 with
  | .fz (.bl c) => some (.fz (.bl (!c)), p.2)
  | _ => none
/-- a tuple of what is told -/
def mTup (a : EM (List O)) : EM O := fun env => (a env).bind fun p => if p.1.length ≤ sizeLine then some (.fz (.tup (O.frzs p.1)), p.2) else none
def mLst (a : EM (List O)) : EM O := fun env => (a env).bind fun p => if p.1.length ≤ sizeLine then some (.ls p.1, p.2) else none
/-- a call: the arguments are given away -/
def mCall (f : List D → Option D) (a : EM (List O)) : EM O := fun env => (a env).bind fun p => (f (O.frzs p.1)).bind fun d => some (.fz d, p.2)
theorem bind_some {α β : Type} {x : Option α} {f : α → Option β} {b : β} (h : x.bind f = some b) : ∃ a, x = some a ∧ f a = some b := by
  cases x with
  | none => cases h
  | some a => exact ⟨a, rfl, h⟩
section
variable {X : Cx} {e a b c : Expr} {es : List Expr} {m ma mb : EM O} {pos : Pos}
theorem qv_of_qe (h : QE X e m) : QV X e m := by
  obtain ⟨t, h1, h2⟩ := h
  exact ⟨t, h1, fun H0 B0 ln Γ B H σ env s o env' em Q q => h2 H0 B0 ln Γ B H σ env s o env' em Q fun v B' H' e1 e2 s' => q v B' H' e1 e2 s'.pop s'.vw⟩
theorem qe_fz (h : QV X e m) : QE X e (mFz m) := by
  obtain ⟨t, h1, h2⟩ := h
  refine ⟨t, h1, fun H0 B0 ln Γ B H σ env s o env' em Q q => ?_⟩
  unfold mFz at em
  split at em
  · rename_i d e2 hm
    cases em
    refine h2 H0 B0 ln Γ B H σ env s _ _ hm Q fun v B' H' e1 e2 s' w => q v B' H' e1 e2 (s'.push ?_)
    rw [Vw] at w; exact w
  · cases em
theorem qv_name (i : Nat) {x : Str} (hN : X.N[i]? = some x := by rfl) (hv : Vis X.env.scope x := by first | exact Or.inl rfl | exact Or.inr (Or.inl rfl) | exact Or.inr (Or.inr rfl)) (hd : (x == ("__debug__" : Str)) = false := by decide)
    (hcd : (x == ("__classdict__" : Str)) = false := by decide) : QV X (.Name x pos) (mView i) := by
  refine ⟨tVar i, pe_var hN hv hd hcd, fun H0 B0 ln Γ B H σ env s o env' em Q q => ?_⟩
  unfold mView at em
  split at em
  · rename_i o' hm
    cases em
    obtain ⟨v, hv, w⟩ := s.slot hm
    exact ⟨v, hv, q v B H (Ex.refl _) (Ex.refl _) s w⟩
  · cases em
theorem qe_name (i : Nat) {x : Str} (hN : X.N[i]? = some x := by rfl) (hv : Vis X.env.scope x := by first | exact Or.inl rfl | exact Or.inr (Or.inl rfl) | exact Or.inr (Or.inr rfl)) (hd : (x == ("__debug__" : Str)) = false := by decide)
    (hcd : (x == ("__classdict__" : Str)) = false := by decide) : QE X (.Name x pos) (mName i) := by
  refine ⟨tVar i, pe_var hN hv hd hcd, fun H0 B0 ln Γ B H σ env s o env' em Q q => ?_⟩
  unfold mName at em
  split at em
  · rename_i d hm
    cases em
    obtain ⟨v, hv, r⟩ := s.slotD hm
    exact ⟨v, hv, q v B H (Ex.refl _) (Ex.refl _) (s.push r)⟩
  · rename_i o' hm
    cases em
    obtain ⟨v, B', hv, e1, r, s'⟩ := s.slotFrz hm
    exact ⟨v, hv, q v B' H e1 (Ex.refl _) (s'.push r)⟩
  · cases em
theorem qe_c {t : TE} {d : D} {v : V} (h : PE X e t) (ht : t = tC v) (hd : ∀ K B, Rp K B d v) : QE X e (mC d) := by
  subst ht
  refine ⟨_, h, fun H0 B0 ln Γ B H σ env s o env' em Q q => ?_⟩
  cases em
  exact q v B H (Ex.refl _) (Ex.refl _) (s.push (hd _ _))
theorem qe_int {i j} : QE X (.Constant (.int i) j pos) (mC (.int i)) := qe_c pe_int rfl fun _ _ => by rw [Rp]
theorem qe_bl {b j} : QE X (.Constant (.bool b) j pos) (mC (.bl b)) := qe_c pe_bl rfl fun _ _ => by rw [Rp]
theorem qe_non {j} : QE X (.Constant .none j pos) (mC .non) := qe_c pe_non rfl fun _ _ => by rw [Rp]
theorem qe_str {x j} : QE X (.Constant (.str x) j pos) (mC (.str x)) := qe_c pe_str rfl fun _ _ => by rw [Rp]
theorem qa_nil : QA X [] mNil := ⟨tNil, pa_nil, fun H0 B0 ln Γ B H σ env s o env' em Q q => by
  cases em
  exact q [] B H (Ex.refl _) (Ex.refl _) rfl s⟩
theorem qa_cons {mr : EM (List O)} (h : QE X e m) (hr : QA X es mr) (hs : starEach (e :: es) X.env = (false, eval e X.env) :: starEach es X.env := by rfl) : QA X (e :: es) (mCons m mr) := by
  obtain ⟨t, h1, h2⟩ := h
  obtain ⟨u, h3, h4⟩ := hr
  refine ⟨tCons t u, pa_cons h1 h3 hs, fun H0 B0 ln Γ B H σ env s os env' em Q q => ?_⟩
  obtain ⟨p, em1, em⟩ := bind_some em
  obtain ⟨r, em2, em⟩ := bind_some em
  cases em
  refine h2 H0 B0 ln Γ B H σ env s _ _ em1 _ fun v B1 H1 e1 e2 s1 => ?_
  refine h4 H0 B0 ln _ B1 H1 σ _ s1 _ _ em2 _ fun vs B2 H2 e3 e4 hl s2 => ?_
  exact q (v :: vs) B2 H2 (e1.trans e3) (e2.trans e4) (by simp [hl]) (s2.perm List.perm_middle)
theorem qva_nil : QVA X [] mNil := ⟨tNil, pa_nil, fun H0 B0 ln Γ B H σ env s o env' em Q q => by
  cases em
  exact q [] B H (Ex.refl _) (Ex.refl _) s Vws.nil⟩
theorem qva_cons {mr : EM (List O)} (h : QV X e m) (hr : QVA X es mr) (hs : starEach (e :: es) X.env = (false, eval e X.env) :: starEach es X.env := by rfl) : QVA X (e :: es) (mCons m mr) := by
  obtain ⟨t, h1, h2⟩ := h
  obtain ⟨u, h3, h4⟩ := hr
  refine ⟨tCons t u, pa_cons h1 h3 hs, fun H0 B0 ln Γ B H σ env s os env' em Q q => ?_⟩
  obtain ⟨p, em1, em⟩ := bind_some em
  obtain ⟨r, em2, em⟩ := bind_some em
  cases em
  refine h2 H0 B0 ln Γ B H σ env s _ _ em1 _ fun v B1 H1 e1 e2 s1 w => ?_
  refine h4 H0 B0 ln _ B1 H1 σ _ s1 _ _ em2 _ fun vs B2 H2 e3 e4 s2 ws => ?_
  exact q (v :: vs) B2 H2 (e1.trans e3) (e2.trans e4) s2 (Vws.cons (Vw.mono e3 e4 _ _ w) ws)
/-- temps frozen, one after the other -/
theorem Stt.frzs {K : PySem.W.Frag} {H0 B0 : Hp} {ln : Nat → Option V} {σ : L2.St} {env : En} {H : Hp} : ∀ {os : List O} {vs : List V} {Γ : List (O × V)} {B : Hp}, os.length = vs.length → Stt K H0 B0 ln (os.zip vs ++ Γ) B H σ env →
    ∃ B', Ex B B' ∧ Rps K B' (O.frzs os) vs ∧ Stt K H0 B0 ln Γ B' H σ env
  | [], [], Γ, B, _, s => ⟨B, Ex.refl _, by rw [O.frzs, Rps], s⟩
  | o :: os, v :: vs, Γ, B, hl, s => by
    have s1 : Stt K H0 B0 ln ((o, v) :: (os.zip vs ++ Γ)) B H σ env := s
    obtain ⟨B1, e1, s2⟩ := s1.frz
    have r := s2.rp
    obtain ⟨B2, e2, r2, s3⟩ := Stt.frzs (by simpa using hl) s2.pop
    refine ⟨B2, e1.trans e2, ?_, s3⟩
    rw [O.frzs]
    exact Rps.cons (Rp.mono e2 _ _ r) r2
theorem qe_tup {x1} {ma : EM (List O)} (h : QA X es ma) : QE X (.Tuple es x1 pos) (mTup ma) := by
  obtain ⟨t, h1, h2⟩ := h
  refine ⟨tTup t, pe_tup h1, fun H0 B0 ln Γ B H σ env s o env' em Q q => ?_⟩
  obtain ⟨p, em1, em⟩ := bind_some em
  by_cases hz : p.1.length ≤ sizeLine
  · rw [if_pos hz] at em
    cases em
    refine h2 H0 B0 ln Γ B H σ env s _ _ em1 _ fun vs B1 H1 e1 e2 hl s1 => ⟨hl ▸ hz, fun a ha => ?_⟩
    obtain ⟨B2, e3, r, s2⟩ := Stt.frzs hl s1
    obtain ⟨e4, e5, s3⟩ := s2.newTup r ha
    exact q _ _ _ ((e1.trans e3).trans e4) (e2.trans e5) s3
  · rw [if_neg hz] at em; cases em
theorem qe_lst {ma : EM (List O)} (h : QA X es ma) : QE X (.List es pos) (mLst ma) := by
  obtain ⟨t, h1, h2⟩ := h
  refine ⟨tLst t, pe_lst h1, fun H0 B0 ln Γ B H σ env s o env' em Q q => ?_⟩
  obtain ⟨p, em1, em⟩ := bind_some em
  by_cases hz : p.1.length ≤ sizeLine
  · rw [if_pos hz] at em
    cases em
    refine h2 H0 B0 ln Γ B H σ env s _ _ em1 _ fun vs B1 H1 e1 e2 hl s1 => ⟨hl ▸ hz, fun a ha => ?_⟩
    obtain ⟨e3, s2⟩ := s1.newLst hl ha
    exact q _ _ _ e1 (e2.trans e3) s2
  · rw [if_neg hz] at em; cases em
def RS (K : PySem.W.Frag) (r : R2) (g : O → O → Option O) : Prop :=
  ∀ (H0 B0 : Hp) (ln : Nat → Option V) (Γ : List (O × V)) (B H : Hp) (σ : L2.St) (env : En), Stt K H0 B0 ln Γ B H σ env → ∀ o1 o2 o x y, Vw K B H o1 x → Vw K B H o2 y → g o1 o2 = some o → ∀ Q : VK,
    (∀ v B' H', Ex B B' → Ex H H' → Stt K H0 B0 ln ((o, v) :: Γ) B' H' σ env → Q v H') → r x y H Q
def QOp (X : Cx) (f : Value → Value → Sem Value) (g : O → O → Option O) : Prop := ∃ r, OpR X f r ∧ RS X.K r g
theorem RS.bin {t u : TE} {r : R2} {g : O → O → Option O} (hr : RS X.K r g) (h2 : SV X.K t ma) (h4 : SV X.K u mb) : SE X.K (tOp r t u) (m2 g ma mb) := by
  intro H0 B0 ln Γ B H σ env s o env' em Q q
  obtain ⟨p, em1, em⟩ := bind_some em
  obtain ⟨p2, em2, em⟩ := bind_some em
  obtain ⟨z, em3, em⟩ := bind_some em
  cases em
  refine h2 H0 B0 ln Γ B H σ env s _ _ em1 _ fun v B1 H1 e1 e2 s1 w1 => ?_
  refine h4 H0 B0 ln Γ B1 H1 σ _ s1 _ _ em2 _ fun u B2 H2 e3 e4 s2 w2 => ?_
  refine hr H0 B0 ln Γ B2 H2 σ _ s2 _ _ _ v u (Vw.mono e3 e4 _ _ w1) w2 em3 Q fun z B3 H3 e5 e6 s3 => ?_
  exact q z B3 H3 ((e1.trans e3).trans e5) ((e2.trans e4).trans e6) s3
theorem qe_bin {op : Operator} {g : O → O → Option O} (ho : QOp X (binaryOp op) g) (ha : QV X a ma) (hb : QV X b mb) : QE X (.BinOp a op b pos) (m2 g ma mb) := by
  obtain ⟨t, h1, h2⟩ := ha
  obtain ⟨u, h3, h4⟩ := hb
  obtain ⟨r, hr, hs⟩ := ho
  exact ⟨_, pe_op hr h1 h3, RS.bin hs h2 h4⟩
theorem qe_cmp {op : CmpOp} {g : O → O → Option O} (ho : QOp X (compareOp op) g) (ha : QV X a ma) (hb : QV X b mb) (hm : behindInMarks op b = false) : QE X (.Compare a [op] [b] pos) (m2 g ma mb) := by
  obtain ⟨t, h1, h2⟩ := ha
  obtain ⟨u, h3, h4⟩ := hb
  obtain ⟨r, hr, hs⟩ := ho
  exact ⟨_, pe_cmpR hr h1 h3 hm, RS.bin hs h2 h4⟩
theorem st_of_se {t : TE} (h : SE X.K t ma) : STst X.K (tTest t) (mTst ma) := by
  intro H0 B0 ln Γ B H σ env s o env' em Q q
  obtain ⟨p, em1, em⟩ := bind_some em
  obtain ⟨o1, e1⟩ := p
  refine h H0 B0 ln Γ B H σ env s _ _ em1 _ fun v B1 H1 e1 e2 s1 => ?_
  cases o1 with
  | fz d =>
    cases d with
    | bl b' =>
      cases em
      have r := s1.rp
      rw [Rp] at r
      exact ⟨_, r, q B1 H1 e1 e2 s1.pop⟩
    | _ => cases em
  | _ => cases em
theorem qt_cmp {op : CmpOp} {g : O → O → Option O} (ho : QOp X (compareOp op) g) (ha : QV X a ma) (hb : QV X b mb) (hm : behindInMarks op b = false) : QT X (.Compare a [op] [b] pos) (mTst (m2 g ma mb)) := by
  obtain ⟨t, h1, h2⟩ := ha
  obtain ⟨u, h3, h4⟩ := hb
  obtain ⟨r, hr, hs⟩ := ho
  exact ⟨_, pt_cmpR hr h1 h3 hm, st_of_se (RS.bin hs h2 h4)⟩
def oIg (g : Int → Int → Option O) : O → O → Option O
  | .fz (.int i), .fz (.int j) => g i j
  | _, _ => none
theorem vw_int {K : PySem.W.Frag} {B H : Hp} {i : Int} {v : V} (h : Vw K B H (.fz (.int i)) v) : v = .int i := by rw [Vw, Rp] at h; exact h
theorem vw_str {K : PySem.W.Frag} {B H : Hp} {i : Str} {v : V} (h : Vw K B H (.fz (.str i)) v) : v = .str i := by rw [Vw, Rp] at h; exact h
theorem vw_bl {K : PySem.W.Frag} {B H : Hp} {i : Bool} {v : V} (h : Vw K B H (.fz (.bl i)) v) : v = .bl i := by rw [Vw, Rp] at h; exact h
/-- ints in, a flat datum out -/
theorem rs_I {K : PySem.W.Frag} {C : Int → Int → Prop} {f : Int → Int → V} {g : Int → Int → Option O} (h : ∀ i j o, g i j = some o → C i j ∧ ∃ d, o = .fz d ∧ ∀ B, Rp K B d (f i j)) : RS K (rI C f) (oIg g) := by
  intro H0 B0 ln Γ B H σ env s o1 o2 o x y w1 w2 hg Q q
  unfold oIg at hg
  split at hg
  · rename_i i j
    obtain ⟨hc, d, rfl, hr⟩ := h i j o hg
    exact ⟨i, j, vw_int w1, vw_int w2, hc, q _ B H (Ex.refl _) (Ex.refl _) (s.push (hr B))⟩
  · cases hg
theorem rs_I0 {K : PySem.W.Frag} {f : Int → Int → V} {g : Int → Int → Option O} (h : ∀ i j o, g i j = some o → ∃ d, o = .fz d ∧ ∀ B, Rp K B d (f i j)) : RS K (rI0 f) (oIg g) := by
  intro H0 B0 ln Γ B H σ env s o1 o2 o x y w1 w2 hg Q q
  unfold oIg at hg
  split at hg
  · rename_i i j
    obtain ⟨d, rfl, hr⟩ := h i j o hg
    exact ⟨i, j, vw_int w1, vw_int w2, q _ B H (Ex.refl _) (Ex.refl _) (s.push (hr B))⟩
  · cases hg
theorem RS.or {K : PySem.W.Frag} {r r' : R2} {g g' : O → O → Option O} (h : RS K r g) (h' : RS K r' g') : RS K (fun x y H Q => r x y H Q ∨ r' x y H Q) (fun a b => (g a b).or (g' a b)) := by
  intro H0 B0 ln Γ B H σ env s o1 o2 o x y w1 w2 hg Q q
  cases e : g o1 o2 with
  | some z =>
    have hg' : (g o1 o2).or (g' o1 o2) = some o := hg
    rw [e] at hg'
    cases hg'
    exact .inl (h H0 B0 ln Γ B H σ env s o1 o2 _ x y w1 w2 e Q q)
  | none =>
    have hg' : (g o1 o2).or (g' o1 o2) = some o := hg
    rw [e] at hg'
    exact .inr (h' H0 B0 ln Γ B H σ env s o1 o2 _ x y w1 w2 hg' Q q)
def mulOk (i j : Int) : Bool := decide (Builtin.Int.intBits i ≤ 64) || decide (Builtin.Int.intBits j ≤ 64) || decide (Builtin.Int.intBits i + Builtin.Int.intBits j ≤ 134217728)
theorem mulOk_ok {i j : Int} (h : mulOk i j = true) : IntMulOk i j := by
  unfold mulOk at h
  simp only [Bool.or_eq_true, decide_eq_true_eq] at h
  rcases h with (h | h) | h
  · exact .of_left h
  · exact .of_right h
  · unfold IntMulOk
    intro z
    rw [Bool.and_eq_true] at z
    have z2 := z.2
    unfold Builtin.Int.intTooBig at z2
    have z3 := of_decide_eq_true z2
    rw [bitsLine_eq] at z3
    omega
theorem op_mulK : OpR X (binaryOp .Mult) (rI IntMulOk fun i j => .int (i * j)) := opI fun _ _ _ _ _ _ _ hc q => mul_int q hc
/-- what the frames are: a division by _pylong asks it -/
structure Grd (base : Heap) (P : Program) : Prop where
  seer : base.NoSeer
  tree : P.given.tree = none
structure Sr (base : Heap) (P : Program) (A : Around) (stack : List Env) : Prop where
  grd : Grd base P
  dp : A.depth + 107 < recursionLimit
  top : ∃ (env : Env) (l : List Env), stack = env :: l ∧ env.scope.isGenerator = false ∧ env.scope.isCoroutine = false ∧ env.builtins = builtinsNs ∧ env.globals = mainGlobals
theorem Sr.room {pins : List (Addr × Obj)} {σ : L2.St} {H : Hp} {s : Shared} (hs : Sr X.base X.prog X.A X.stack) (I : Inv X pins σ H s) : PySem.PylongRoom (model X.prog X.w) X.A s := by
  obtain ⟨env, l, e1, e2, e3, e4, e5⟩ := hs.top
  refine PySem.PylongRoom.of I.nolimit ?_ ?_
  · have h1 := hs.dp
    have h2 : Builtin.pylongFrames = 100 := rfl
    omega
  · exact PySem.SeerAt.of (env := env) (l := l) (hs.grd.seer.keeps I.bk) hs.grd.tree (by rw [I.ok.frames, e1]) e2 e3 e4 e5
theorem op_fdivK (hs : Sr X.base X.prog X.A X.stack) : OpR X (binaryOp .FloorDiv) (rI (fun _ j => j ≠ 0) fun i j => .int (i.fdiv j)) := by
  intro pins s σ H x y v u Q I rx ry h
  obtain ⟨i, j, rfl, rfl, hc, q⟩ := h
  obtain ⟨t, rfl⟩ := rx
  obtain ⟨t', rfl⟩ := ry
  exact floordiv_int hc ⟨.int (i.fdiv j), H, I.tok _, ⟨_, rfl⟩, q⟩ (.inr (hs.room I))
def iRes (f : Int → Int → Int) (i j : Int) : Option O := some (.fz (.int (f i j)))
def bRes (f : Int → Int → Bool) (i j : Int) : Option O := some (.fz (.bl (f i j)))
def oSub : O → O → Option O := oIg (iRes fun i j => i - j)
def oFdiv : O → O → Option O := oIg fun i j => if j ≠ 0 then some (.fz (.int (i.fdiv j))) else none
def oMod : O → O → Option O := oIg fun i j => if j ≠ 0 then some (.fz (.int (i.fmod j))) else none
def oPow : O → O → Option O := oIg fun i j => if 0 ≤ j ∧ j ≤ 1000000 ∧ i.natAbs < 2 ^ 64 then some (.fz (.int (i ^ j.toNat))) else none
def oLt : O → O → Option O := oIg (bRes fun i j => decide (i < j))
def oLe : O → O → Option O := oIg (bRes fun i j => decide (i ≤ j))
def oGt : O → O → Option O := oIg (bRes fun i j => decide (j < i))
def oGe : O → O → Option O := oIg (bRes fun i j => decide (j ≤ i))
theorem q_sub : QOp X (binaryOp .Sub) oSub := ⟨_, op_sub, rs_I0 fun i j o h => by cases h; exact ⟨_, rfl, fun B => by rw [Rp]⟩⟩
theorem q_fdiv (hs : Sr X.base X.prog X.A X.stack) : QOp X (binaryOp .FloorDiv) oFdiv := ⟨_, op_fdivK hs, rs_I fun i j o h => by
  split at h
  · rename_i hc; cases h; exact ⟨hc, _, rfl, fun B => by rw [Rp]⟩
  · cases h⟩
theorem q_mod : QOp X (binaryOp .Mod) oMod := ⟨_, op_modN, rs_I fun i j o h => by
  split at h
  · rename_i hc; cases h; exact ⟨hc, _, rfl, fun B => by rw [Rp]⟩
  · cases h⟩
theorem q_pow : QOp X (binaryOp .Pow) oPow := ⟨_, op_pow, rs_I fun i j o h => by
  split at h
  · rename_i hc; cases h; exact ⟨hc, _, rfl, fun B => by rw [Rp]⟩
  · cases h⟩
theorem q_lt : QOp X (compareOp .Lt) oLt := ⟨_, op_lt, rs_I0 fun i j o h => by cases h; exact ⟨_, rfl, fun B => by rw [Rp]⟩⟩
theorem q_gt : QOp X (compareOp .Gt) oGt := ⟨_, op_gt, rs_I0 fun i j o h => by cases h; exact ⟨_, rfl, fun B => by rw [Rp]⟩⟩
theorem q_ge : QOp X (compareOp .GtE) oGe := ⟨_, op_ge, rs_I0 fun i j o h => by cases h; exact ⟨_, rfl, fun B => by rw [Rp]⟩⟩
theorem qt_tru {g : O → Option Bool} (ha : QV X a ma) (hg : ∀ B H o v k, Ex B H → Vw X.K B H o v → g o = some k → TruV X.K v H k) (he : ∀ whole, isTrue a X.env whole = (do let v ← whole; standAt a.pos; holding [v] (truthy v)) := by intro _; rfl) : QT X a (mTru g ma) := by
  obtain ⟨t, h1, h2⟩ := ha
  refine ⟨_, pt_truth h1 he, fun H0 B0 ln Γ B H σ env s o env' em Q q => ?_⟩
  obtain ⟨p, em1, em⟩ := bind_some em
  obtain ⟨z, em2, em⟩ := bind_some em
  cases em
  exact h2 H0 B0 ln Γ B H σ env s _ _ em1 _ fun v B1 H1 e1 e2 s1 w => ⟨_, hg B1 H1 _ v _ s1.w.bh w em2, q B1 H1 e1 e2 s1⟩
def oTru : O → Option Bool
  | .fz .non => some false
  | .fz (.bl b) => some b
  | .fz (.int i) => some (i != 0)
  | .fz (.str y) => if y.length ≤ sizeLine then some ((y.length : Int) != 0) else none
  | .fz (.tup ds) => some (!ds.isEmpty)
  | .fz (.lst ds) => some (!ds.isEmpty)
  | .ls os => some (!os.isEmpty)
  | _ => none
theorem isEmpty_len {α β : Type} : ∀ {xs : List α} {ys : List β}, xs.length = ys.length → xs.isEmpty = ys.isEmpty
  | [], [], _ => rfl
  | _ :: _, _ :: _, _ => rfl
theorem oTru_ok {K : PySem.W.Frag} {B H : Hp} {o : O} {v : V} {k : Bool} (e : Ex B H) (w : Vw K B H o v) (h : oTru o = some k) : TruV K v H k := by
  unfold oTru at h
  split at h
  · cases h; rw [Vw, Rp] at w; subst w; rfl
  · cases h; rw [Vw, Rp] at w; subst w; rfl
  · cases h; rw [Vw, Rp] at w; subst w; rfl
  · rw [Vw, Rp] at w; subst w
    split at h
    · cases h; exact ⟨by assumption, rfl⟩
    · cases h
  · cases h; rw [Vw, Rp] at w
    obtain ⟨a, vs, rfl, h1, h2⟩ := w
    exact .inr (.inl ⟨vs, e.t h1, by rw [isEmpty_len h2.len]⟩)
  · cases h; rw [Vw, Rp] at w
    obtain ⟨a, vs, rfl, h1, h2⟩ := w
    exact .inl ⟨vs, e.l h1, by rw [isEmpty_len h2.len]⟩
  · cases h; rw [Vw] at w
    obtain ⟨a, vs, rfl, h1, h2⟩ := w
    exact .inl ⟨vs, SqL.of h1, by rw [isEmpty_len h2.len]⟩
  · cases h
theorem qt_val (ha : QV X a ma) (he : ∀ whole, isTrue a X.env whole = (do let v ← whole; standAt a.pos; holding [v] (truthy v)) := by intro _; rfl) : QT X a (mTru oTru ma) :=
  qt_tru ha (fun B H o v k e w h => oTru_ok e w h) he
variable {rest : List Expr} {na nb : EM Bool}
theorem qt_w (h : QW X e na) : QT X e na := by
  obtain ⟨t, h1, h2⟩ := h
  exact ⟨t, h1.pt, h2⟩
theorem qw_and1 (ha : QT X a na) : QW X (.BoolOp .And [a] pos) na := by
  obtain ⟨t, h1, h2⟩ := ha
  exact ⟨t, pw_and1 h1, h2⟩
theorem qw_or1 (ha : QT X a na) : QW X (.BoolOp .Or [a] pos) na := by
  obtain ⟨t, h1, h2⟩ := ha
  exact ⟨t, pw_or1 h1, h2⟩
theorem st_and {t u : TT} (h2 : STst X.K t na) (h4 : STst X.K u nb) : STst X.K (tAnd t u) (mAnd na nb) := by
  intro H0 B0 ln Γ B H σ env s o env' em Q q
  obtain ⟨p, em1, em⟩ := bind_some em
  obtain ⟨c, env1⟩ := p
  refine h2 H0 B0 ln Γ B H σ env s _ _ em1 _ fun B1 H1 e1 e2 s1 => ?_
  cases c with
  | true => exact h4 H0 B0 ln Γ B1 H1 σ _ s1 _ _ em Q fun B2 H2 e3 e4 s2 => q B2 H2 (e1.trans e3) (e2.trans e4) s2
  | false => cases em; exact q B1 H1 e1 e2 s1
theorem st_or {t u : TT} (h2 : STst X.K t na) (h4 : STst X.K u nb) : STst X.K (tOr t u) (mOr na nb) := by
  intro H0 B0 ln Γ B H σ env s o env' em Q q
  obtain ⟨p, em1, em⟩ := bind_some em
  obtain ⟨c, env1⟩ := p
  refine h2 H0 B0 ln Γ B H σ env s _ _ em1 _ fun B1 H1 e1 e2 s1 => ?_
  cases c with
  | false => exact h4 H0 B0 ln Γ B1 H1 σ _ s1 _ _ em Q fun B2 H2 e3 e4 s2 => q B2 H2 (e1.trans e3) (e2.trans e4) s2
  | true => cases em; exact q B1 H1 e1 e2 s1
theorem qw_and (ha : QT X a na) (hb : QW X (.BoolOp .And (b :: rest) pos) nb) : QW X (.BoolOp .And (a :: b :: rest) pos) (mAnd na nb) := by
  obtain ⟨t, h1, h2⟩ := ha
  obtain ⟨u, h3, h4⟩ := hb
  exact ⟨_, pw_and h1 h3, st_and h2 h4⟩
theorem qw_or (ha : QT X a na) (hb : QW X (.BoolOp .Or (b :: rest) pos) nb) : QW X (.BoolOp .Or (a :: b :: rest) pos) (mOr na nb) := by
  obtain ⟨t, h1, h2⟩ := ha
  obtain ⟨u, h3, h4⟩ := hb
  exact ⟨_, pw_or h1 h3, st_or h2 h4⟩
theorem qt_not (ha : QT X a na) : QT X (.UnaryOp .Not a pos) (mNot na) := by
  obtain ⟨t, h1, h2⟩ := ha
  refine ⟨_, pt_not h1, fun H0 B0 ln Γ B H σ env s o env' em Q q => ?_⟩
  obtain ⟨p, em1, em⟩ := bind_some em
  cases em
  exact h2 H0 B0 ln Γ B H σ env s _ _ em1 _ fun B1 H1 e1 e2 s1 => q B1 H1 e1 e2 s1
theorem qe_ifExp (hc : QT X c na) (ha : QE X a ma) (hb : QE X b mb) : QE X (.IfExp c a b pos) (mIf na ma mb) := by
  obtain ⟨t, h1, h2⟩ := hc
  obtain ⟨u, h3, h4⟩ := ha
  obtain ⟨w, h5, h6⟩ := hb
  refine ⟨_, pe_ifExp h1 h3 h5, fun H0 B0 ln Γ B H σ env s o env' em Q q => ?_⟩
  obtain ⟨p, em1, em⟩ := bind_some em
  obtain ⟨c, env1⟩ := p
  refine h2 H0 B0 ln Γ B H σ env s _ _ em1 _ fun B1 H1 e1 e2 s1 => ?_
  cases c with
  | true => exact h4 H0 B0 ln Γ B1 H1 σ _ s1 _ _ em Q fun v B2 H2 e3 e4 s2 => q v B2 H2 (e1.trans e3) (e2.trans e4) s2
  | false => exact h6 H0 B0 ln Γ B1 H1 σ _ s1 _ _ em Q fun v B2 H2 e3 e4 s2 => q v B2 H2 (e1.trans e3) (e2.trans e4) s2
theorem qe_one {op} (h : QE X a ma) : QE X (.BoolOp op [a] pos) ma := by
  obtain ⟨t, h1, h2⟩ := h
  exact ⟨t, pe_one h1, h2⟩
theorem qe_and (ha : QE X a ma) (hb : QE X (.BoolOp .And (b :: rest) pos) mb) : QE X (.BoolOp .And (a :: b :: rest) pos) (mAndV ma mb) := by
  obtain ⟨t, h1, h2⟩ := ha
  obtain ⟨u, h3, h4⟩ := hb
  refine ⟨_, pe_and h1 h3, fun H0 B0 ln Γ B H σ env s o env' em Q q => ?_⟩
  obtain ⟨p, em1, em⟩ := bind_some em
  obtain ⟨o1, env1⟩ := p
  refine h2 H0 B0 ln Γ B H σ env s _ _ em1 _ fun v B1 H1 e1 e2 s1 => ?_
  split at em
  · rename_i c hc
    have hc' : o1 = .fz (.bl c) := hc
    subst hc'
    have r := s1.rp
    rw [Rp] at r
    refine ⟨c, r, ?_⟩
    cases c with
    | true => exact h4 H0 B0 ln Γ B1 H1 σ _ s1.pop _ _ em Q fun v B2 H2 e3 e4 s2 => q v B2 H2 (e1.trans e3) (e2.trans e4) s2
    | false => cases em; subst r; exact q _ B1 H1 e1 e2 s1
  · cases em
theorem qe_not (ha : QE X a ma) : QE X (.UnaryOp .Not a pos) (mNotV ma) := by
  obtain ⟨t, h1, h2⟩ := ha
  refine ⟨_, pe_not h1, fun H0 B0 ln Γ B H σ env s o env' em Q q => ?_⟩
  obtain ⟨p, em1, em⟩ := bind_some em
  obtain ⟨o1, env1⟩ := p
  refine h2 H0 B0 ln Γ B H σ env s _ _ em1 _ fun v B1 H1 e1 e2 s1 => ?_
  split at em
  · rename_i c hc
    have hc' : o1 = .fz (.bl c) := hc
    subst hc'
    have r := s1.rp
    rw [Rp] at r
    cases em
    exact ⟨c, r, q _ B1 H1 e1 e2 (s1.pop.push (by rw [Rp]))⟩
  · cases em
end
end Q
set_option Elab.async false
set_option linter.all false
set_option maxRecDepth 100000
set_option maxHeartbeats 1000000
namespace Q
open PySem L2 PyProof.Rows
def O.asL : O → Option (List O)
  | .fz (.lst ds) => some (ds.map .fz)
  | .ls os => some os
  | _ => none
def O.asT : O → Option (List D)
  | .fz (.tup ds) => some ds
  | _ => none
def O.asS : O → Option (List O)
  | .fz (.lst ds) => some (ds.map .fz)
  | .ls os => some os
  | .fz (.tup ds) => some (ds.map .fz)
  | _ => none
section
variable {K : PySem.W.Frag} {B H : Hp} {o : O} {v : V}
theorem asL_ok {os : List O} (e : Ex B H) (w : Vw K B H o v) (h : o.asL = some os) : ∃ a vs, v = .ref a ∧ SqL K H a vs ∧ Vws K B H os vs := by
  unfold O.asL at h
  split at h
  · cases h; rw [Vw, Rp] at w
    obtain ⟨a, vs, rfl, h1, h2⟩ := w
    exact ⟨a, vs, rfl, e.l h1, Vws.fz h2⟩
  · cases h; rw [Vw] at w
    obtain ⟨a, vs, rfl, h1, h2⟩ := w
    exact ⟨a, vs, rfl, SqL.of h1, h2⟩
  · cases h
theorem asT_ok {ds : List D} (e : Ex B H) (w : Vw K B H o v) (h : o.asT = some ds) : ∃ a vs, v = .ref a ∧ SqT K H a vs ∧ SqT K B a vs ∧ Rps K B ds vs := by
  unfold O.asT at h
  split at h
  · cases h; rw [Vw, Rp] at w
    obtain ⟨a, vs, rfl, h1, h2⟩ := w
    exact ⟨a, vs, rfl, e.t h1, h1, h2⟩
  · cases h
theorem asS_ok {os : List O} (e : Ex B H) (w : Vw K B H o v) (h : o.asS = some os) : ∃ a vs, v = .ref a ∧ (SqL K H a vs ∨ SqT K H a vs) ∧ Vws K B H os vs := by
  unfold O.asS at h
  split at h
  · cases h; rw [Vw, Rp] at w
    obtain ⟨a, vs, rfl, h1, h2⟩ := w
    exact ⟨a, vs, rfl, .inl (e.l h1), Vws.fz h2⟩
  · cases h; rw [Vw] at w
    obtain ⟨a, vs, rfl, h1, h2⟩ := w
    exact ⟨a, vs, rfl, .inl (SqL.of h1), h2⟩
  · cases h; rw [Vw, Rp] at w
    obtain ⟨a, vs, rfl, h1, h2⟩ := w
    exact ⟨a, vs, rfl, .inr (e.t h1), Vws.fz h2⟩
  · cases h
/-- an owned list that may be read as a tracked one -/
theorem asO_ok {os : List O} (w : Vw K B H (.ls os) v) : ∃ a vs, v = .ref a ∧ H a = some (.lst vs) ∧ Vws K B H os vs := by
  rw [Vw] at w; exact w
theorem mapM_fz : ∀ ds : List D, (ds.map O.fz).mapM O.d? = some ds
  | [] => by simp
  | d :: ds => by
    rw [List.map_cons, List.mapM_cons, mapM_fz ds]
    rfl
end
section
variable {X : Cx} {K : PySem.W.Frag}
def oAddS : O → O → Option O
  | .fz (.str x), .fz (.str y) => if x.length + y.length ≤ sizeLine then some (.fz (.str (x ++ y))) else none
  | _, _ => none
def oAddT : O → O → Option O
  | .fz (.tup xs), .fz (.tup ys) => if xs.length + ys.length ≤ sizeLine then some (.fz (.tup (xs ++ ys))) else none
  | _, _ => none
def oAddL (a b : O) : Option O := (a.asL).bind fun xs => (b.asL).bind fun ys => if xs.length + ys.length ≤ sizeLine then (xs.mapM O.d?).bind fun ds => (ys.mapM O.d?).bind fun es => some (.ls ((ds ++ es).map .fz)) else none
def rCatS (K : PySem.W.Frag) : R2 := fun x y H Q => ∃ l b xs zs, x = .ref l ∧ y = .ref b ∧ SqL K H l xs ∧ SqL K H b zs ∧ xs.length + zs.length ≤ sizeLine ∧ ∀ p, H p = none → Q (.ref p) (upd H p (.lst (xs ++ zs)))
theorem op_catS : OpR X (binaryOp .Add) (rCatS X.K) := by
  intro pins s σ H x y v u Q I rx ry h
  obtain ⟨l, b, xs, zs, rfl, rfl, hH, hB, hz, q⟩ := h
  cases rx
  cases ry
  obtain ⟨i1, v1, ⟨⟨k1, d1, t1, s1⟩, n1, g1, c1, f1, w1⟩, _⟩ := I.list hH
  obtain ⟨i2, v2, ⟨⟨k2, d2, t2, s2⟩, n2, g2, c2, f2, w2⟩, _⟩ := I.list hB
  have l1 := v1.length
  have l2 := v2.length
  dsimp only at c1 f1 w1 c2 f2 w2
  subst c1 w1 c2 w2
  refine concat_meets ⟨_, g1, rfl⟩ ⟨_, g2, rfl⟩ PySem.noFill_list_add PySem.seq_list_add PySem.F.slot_list_add PySem.F.entry_list_add (PySem.F.args_list_add_2 _ _)
    (list_addW l b i1.toArray i2.toArray n1 n2 d1 d2 s1 s2 (by rw [List.size_toArray, List.size_toArray]; omega)) ⟨g1, g2, ?_⟩
  · rw [show i1.toArray ++ i2.toArray = (i1 ++ i2).toArray by simp]
    exact ⟨.ref _, _, I.lnew (t' := s.toks) (v1.append v2) (by rw [List.length_append]; exact hz), rfl, q _ I.fresh⟩
def oAddI : O → O → Option O := oIg (iRes fun i j => i + j)
theorem rs_addS : RS K (fun x y H Q => ∃ i j, x = .str i ∧ y = .str j ∧ i.length + j.length ≤ sizeLine ∧ Q (.str (i ++ j)) H) oAddS := by
  intro H0 B0 ln Γ B H σ env s o1 o2 o x y w1 w2 hg Q q
  unfold oAddS at hg
  split at hg
  · split at hg
    · cases hg
      exact ⟨_, _, vw_str w1, vw_str w2, by assumption, q _ B H (Ex.refl _) (Ex.refl _) (s.push (by rw [Rp]))⟩
    · cases hg
  · cases hg
theorem rs_addT : RS K (rCatA K) oAddT := by
  intro H0 B0 ln Γ B H σ env s o1 o2 o x y w1 w2 hg Q q
  unfold oAddT at hg
  split at hg
  · rename_i xs ys
    split at hg
    · rename_i hz
      cases hg
      obtain ⟨a, vs, rfl, h1, h1', h2⟩ := asT_ok s.w.bh w1 rfl
      obtain ⟨b, us, rfl, h3, h3', h4⟩ := asT_ok s.w.bh w2 rfl
      refine ⟨a, b, vs, us, rfl, rfl, h1, h3, by rw [← h2.len, ← h4.len]; exact hz, fun e => ?_, fun _ e => ?_, fun _ _ p hp => ?_⟩
      · subst e
        have : xs = [] := List.length_eq_zero_iff.mp (by rw [h2.len]; rfl)
        subst this
        exact q _ B H (Ex.refl _) (Ex.refl _) (s.push (by rw [Rp]; exact ⟨b, us, rfl, h3', h4⟩))
      · subst e
        have : ys = [] := List.length_eq_zero_iff.mp (by rw [h4.len]; rfl)
        subst this
        rw [List.append_nil] at q
        exact q _ B H (Ex.refl _) (Ex.refl _) (s.push (by rw [Rp]; exact ⟨a, vs, rfl, h1', h2⟩))
      · obtain ⟨e1, e2, s'⟩ := s.newTup (h2.append h4) hp
        exact q _ _ _ e1 e2 s'
    · cases hg
  · cases hg
theorem rs_addL : RS K (rCatS K) oAddL := by
  intro H0 B0 ln Γ B H σ env s o1 o2 o x y w1 w2 hg Q q
  unfold oAddL at hg
  obtain ⟨xs, g1, hg⟩ := bind_some hg
  obtain ⟨ys, g2, hg⟩ := bind_some hg
  split at hg
  · rename_i hz
    obtain ⟨ds, e1, hg⟩ := bind_some hg
    obtain ⟨es, e2, hg⟩ := bind_some hg
    cases hg
    obtain ⟨a, vs, rfl, h1, h2⟩ := asL_ok s.w.bh w1 g1
    obtain ⟨b, us, rfl, h3, h4⟩ := asL_ok s.w.bh w2 g2
    refine ⟨a, b, vs, us, rfl, rfl, h1, h3, by rw [← h2.len, ← h4.len]; exact hz, fun p hp => ?_⟩
    obtain ⟨e3, s'⟩ := s.newLstD ((h2.dat e1).append (h4.dat e2)) hp
    exact q _ _ _ (Ex.refl _) e3 s'
  · cases hg
def oAdd (a b : O) : Option O := ((oAddI a b).or (oAddT a b)).or ((oAddS a b).or (oAddL a b))
theorem q_add : QOp X (binaryOp .Add) oAdd :=
  ⟨_, (op_add.or op_catA).or (op_add_str.or op_catS), ((rs_I0 fun i j o h => by cases h; exact ⟨_, rfl, fun B => by rw [Rp]⟩).or rs_addT).or (rs_addS.or rs_addL)⟩
def oMulI : O → O → Option O := oIg fun i j => if mulOk i j = true then some (.fz (.int (i * j))) else none
theorem p63 : (9223372036854775808 : Int) = 2 ^ 63 := by decide +kernel
def oMulL : O → O → Option O
  | .ls xs, .fz (.int k) => if -9223372036854775808 ≤ k ∧ k < 9223372036854775808 ∧ xs.length * k.toNat ≤ sizeLine then (xs.mapM O.d?).bind fun ds => some (.ls ((List.replicate k.toNat ds).flatten.map .fz)) else none
  | _, _ => none
theorem rps_rep {B : Hp} {ds : List D} {vs : List V} (h : Rps K B ds vs) : ∀ n : Nat, Rps K B (List.replicate n ds).flatten (List.replicate n vs).flatten
  | 0 => by simp; exact Rps.nil
  | n + 1 => by
    rw [List.replicate_succ, List.replicate_succ, List.flatten_cons, List.flatten_cons]
    exact h.append (rps_rep h n)
theorem rs_mulL : RS K rRep oMulL := by
  intro H0 B0 ln Γ B H σ env s o1 o2 o x y w1 w2 hg Q q
  unfold oMulL at hg
  split at hg
  · rename_i xs k
    split at hg
    · rename_i hz
      obtain ⟨ds, e1, hg⟩ := bind_some hg
      cases hg
      obtain ⟨a, vs, rfl, h1, h2⟩ := asO_ok w1
      refine ⟨a, k, vs, rfl, vw_int w2, h1, p63 ▸ hz.1, p63 ▸ hz.2.1, by rw [← h2.len]; exact hz.2.2, fun p hp => ?_⟩
      obtain ⟨e3, s'⟩ := s.newLstD (rps_rep (h2.dat e1) k.toNat) hp
      exact q _ _ _ (Ex.refl _) e3 s'
    · cases hg
  · cases hg
def oMul (a b : O) : Option O := (oMulI a b).or (oMulL a b)
theorem q_mul : QOp X (binaryOp .Mult) oMul :=
  ⟨_, op_mulK.or op_rep, (rs_I fun i j o h => by
    split at h
    · rename_i hc; cases h; exact ⟨mulOk_ok hc, _, rfl, fun B => by rw [Rp]⟩
    · cases h).or rs_mulL⟩
def isN : O → Bool
  | .fz .non => true
  | _ => false
theorem isN_ok {B H : Hp} {o : O} {v : V} (w : Vw K B H o v) : decide (v = .non) = isN o := by
  cases o with
  | fz d =>
    rw [Vw] at w
    cases d with
    | non => rw [Rp] at w; subst w; rfl
    | bl b => rw [Rp] at w; subst w; rfl
    | int b => rw [Rp] at w; subst w; rfl
    | str b => rw [Rp] at w; subst w; rfl
    | tup b => rw [Rp] at w; obtain ⟨a, _, rfl, _⟩ := w; rfl
    | lst b => rw [Rp] at w; obtain ⟨a, _, rfl, _⟩ := w; rfl
    | dk b c => rw [Rp] at w; obtain ⟨a, _, rfl, _⟩ := w; rfl
    | dt b c => rw [Rp] at w; obtain ⟨a, _, rfl, _⟩ := w; rfl
    | xt b => rw [Rp] at w; obtain ⟨a, _, _, rfl, _⟩ := w; rfl
    | kt b => rw [Rp] at w; obtain ⟨a, rfl, _⟩ := w; rfl
    | ins b c d => rw [Rp] at w; obtain ⟨a, _, _, _, rfl, _⟩ := w; rfl
  | ls os => rw [Vw] at w; obtain ⟨a, _, rfl, _⟩ := w; rfl
  | ok b c => rw [Vw] at w; obtain ⟨a, _, rfl, _⟩ := w; rfl
  | ot b c => rw [Vw] at w; obtain ⟨a, _, rfl, _⟩ := w; rfl
def oIs : O → O → Option O
  | a, .fz .non => some (.fz (.bl (isN a)))
  | _, _ => none
def oIsNot : O → O → Option O
  | a, .fz .non => some (.fz (.bl (!isN a)))
  | _, _ => none
theorem q_is : QOp X (compareOp .Is) oIs := ⟨_, op_isN, by
  intro H0 B0 ln Γ B H σ env s o1 o2 o x y w1 w2 hg Q q
  unfold oIs at hg
  split at hg
  · cases hg
    rw [Vw, Rp] at w2
    refine ⟨w2, q _ B H (Ex.refl _) (Ex.refl _) (s.push (by rw [Rp, isN_ok w1]))⟩
  · cases hg⟩
mutual
def D.py : D → Option PyData
  | .non => some .none
  | .bl b => some (.bool b)
  | .int i => some (.int i)
  | .str s => some (.str s)
  | .tup ds => (D.pys ds).map .tuple
  | .lst ds => (D.pys ds).map .list
  | .dk _ _ => none
  | .dt _ _ => none
  | .xt _ => none
  | .kt _ => none
  | .ins _ _ _ => none
def D.pys : List D → Option (List PyData)
  | [] => some []
  | d :: ds => (d.py).bind fun p => (D.pys ds).bind fun q => some (p :: q)
end
mutual
theorem py_ok {H : Hp} : ∀ (d : D) (v : V) (p : PyData), Rp K H d v → d.py = some p → Dp K H v p
  | .non, v, p, h, e => by rw [Rp] at h; rw [D.py] at e; cases e; subst h; exact .non
  | .bl b, v, p, h, e => by rw [Rp] at h; rw [D.py] at e; cases e; subst h; exact .bl b
  | .int i, v, p, h, e => by rw [Rp] at h; rw [D.py] at e; cases e; subst h; exact .int i
  | .str i, v, p, h, e => by rw [Rp] at h; rw [D.py] at e; cases e; subst h; exact .str i
  | .tup ds, v, p, h, e => by
    rw [Rp] at h; rw [D.py] at e
    obtain ⟨a, vs, rfl, h1, h2⟩ := h
    obtain ⟨ps, e1, rfl⟩ := Option.map_eq_some_iff.mp e
    exact .tup h1 (pys_ok ds vs ps h2 e1)
  | .lst ds, v, p, h, e => by
    rw [Rp] at h; rw [D.py] at e
    obtain ⟨a, vs, rfl, h1, h2⟩ := h
    obtain ⟨ps, e1, rfl⟩ := Option.map_eq_some_iff.mp e
    exact .lst h1 (pys_ok ds vs ps h2 e1)
  | .dk _ _, v, p, h, e => by rw [D.py] at e; cases e
  | .dt _ _, v, p, h, e => by rw [D.py] at e; cases e
  | .xt _, v, p, h, e => by rw [D.py] at e; cases e
  | .kt _, v, p, h, e => by rw [D.py] at e; cases e
  | .ins _ _ _, v, p, h, e => by rw [D.py] at e; cases e
theorem pys_ok {H : Hp} : ∀ (ds : List D) (vs : List V) (ps : List PyData), Rps K H ds vs → D.pys ds = some ps → DpAll K H vs ps
  | [], vs, ps, h, e => by rw [Rps] at h; rw [D.pys] at e; cases e; subst h; exact .nil
  | d :: ds, vs, ps, h, e => by
    rw [Rps] at h; rw [D.pys] at e
    obtain ⟨v, r, rfl, h1, h2⟩ := h
    obtain ⟨p, e1, e⟩ := bind_some e
    obtain ⟨q, e2, e⟩ := bind_some e
    cases e
    exact .cons (py_ok d v p h1 e1) (pys_ok ds r q h2 e2)
end
mutual
theorem Vw.frz {B H : Hp} (e : Ex B H) : ∀ (o : O) (v : V), Vw K B H o v → Rp K H o.frz v
  | .fz d, v, h => by rw [Vw] at h; rw [O.frz]; exact Rp.mono e d v h
  | .ls os, v, h => by
    rw [Vw] at h
    obtain ⟨a, vs, rfl, h1, h2⟩ := h
    rw [O.frz, Rp]
    exact ⟨a, vs, rfl, SqL.of h1, Vws.frz e os vs h2⟩
  | .ok ks ds, v, h => by
    rw [Vw] at h
    obtain ⟨a, kvs, rfl, h1, h2, h3⟩ := h
    rw [O.frz, Rp]
    exact ⟨a, kvs, rfl, h1, h2, Rps.mono e _ _ h3⟩
  | .ot ks ds, v, h => by
    rw [Vw] at h
    obtain ⟨a, kvs, rfl, h1, h2, h3⟩ := h
    rw [O.frz, Rp]
    exact ⟨a, kvs, rfl, h1, h2, Rps.mono e _ _ h3⟩
theorem Vws.frz {B H : Hp} (e : Ex B H) : ∀ (os : List O) (vs : List V), Vws K B H os vs → Rps K H (O.frzs os) vs
  | [], vs, h => by rw [Vws] at h; rw [O.frzs, Rps]; exact h
  | o :: os, vs, h => by
    rw [Vws] at h
    obtain ⟨v, r, rfl, h1, h2⟩ := h
    rw [O.frzs]
    exact Rps.cons (Vw.frz e o v h1) (Vws.frz e os r h2)
end
def oEqB (a b : O) : Option Bool := (a.frz.py).bind fun p => (b.frz.py).bind fun q => if SeqAt.shaped p = true ∧ SeqAt.shaped q = true then some (PyData.eqv p q) else none
def oEq (a b : O) : Option O := (oEqB a b).bind fun z => some (.fz (.bl z))
def oNe (a b : O) : Option O := (oEqB a b).bind fun z => some (.fz (.bl (!z)))
theorem q_eq (hu : X.A.units + 64 < cLine) : QOp X (compareOp .Eq) oEq := ⟨_, op_eqD hu, by
  intro H0 B0 ln Γ B H σ env s o1 o2 o x y w1 w2 hg Q q
  obtain ⟨z, e, hg⟩ := bind_some hg
  cases hg
  obtain ⟨p, e1, e⟩ := bind_some e
  obtain ⟨p2, e2, e⟩ := bind_some e
  split at e
  · rename_i hs
    cases e
    exact ⟨p, p2, py_ok _ _ _ (Vw.frz s.w.bh _ _ w1) e1, py_ok _ _ _ (Vw.frz s.w.bh _ _ w2) e2, hs.1, hs.2, q _ B H (Ex.refl _) (Ex.refl _) (s.push (by rw [Rp]))⟩
  · cases e⟩
theorem q_ne (hu : X.A.units + 64 < cLine) : QOp X (compareOp .NotEq) oNe := ⟨_, op_neD hu, by
  intro H0 B0 ln Γ B H σ env s o1 o2 o x y w1 w2 hg Q q
  obtain ⟨z, e, hg⟩ := bind_some hg
  cases hg
  obtain ⟨p, e1, e⟩ := bind_some e
  obtain ⟨p2, e2, e⟩ := bind_some e
  split at e
  · rename_i hs
    cases e
    exact ⟨p, p2, py_ok _ _ _ (Vw.frz s.w.bh _ _ w1) e1, py_ok _ _ _ (Vw.frz s.w.bh _ _ w2) e2, hs.1, hs.2, q _ B H (Ex.refl _) (Ex.refl _) (s.push (by rw [Rp]))⟩
  · cases e⟩
variable {a b e : Expr} {ma mb : EM O} {pos : Pos}
def oIx : O → O → Option O
  | a, .fz (.int i) => match a with
    | .fz (.tup ds) => (atI ds i).map .fz
    | .fz (.lst ds) => (atI ds i).map .fz
    | .ls os => atI os i
    | .fz (.str z) => if z.length ≤ sizeLine then (atI z.cps.toList i).map fun c => .fz (.str ⟨#[c]⟩) else none
    | _ => none
  | _, _ => none
theorem atI_some {α : Type} {xs : List α} {i : Int} {x : α} (h : atI xs i = some x) : ∃ j, ixN xs.length i = some j ∧ xs[j]? = some x := by
  unfold atI at h
  exact bind_some h
theorem atI_len {α : Type} {xs : List α} {n : Nat} {i : Int} {j : Nat} {x : α} (hn : xs.length = n) (h : ixN n i = some j) (e : xs[j]? = some x) : atI xs i = some x := by
  unfold atI
  rw [hn, h]
  exact e
theorem qv_ix (ha : QV X a ma) (hb : QV X b mb) (hs : PlainIx b := by exact fun _ _ => rfl) : QV X (.Subscript a b pos) (m2 oIx ma mb) := by
  obtain ⟨t, h1, h2⟩ := ha
  obtain ⟨u, h3, h4⟩ := hb
  refine ⟨_, pe_ix (ix_list.or (ix_tup.or ix_str)) h1 h3 hs, fun H0 B0 ln Γ B H σ env s o env' em Q q => ?_⟩
  obtain ⟨p, em1, em⟩ := bind_some em
  obtain ⟨p2, em2, em⟩ := bind_some em
  obtain ⟨z, em3, em⟩ := bind_some em
  cases em
  refine h2 H0 B0 ln Γ B H σ env s _ _ em1 _ fun v B1 H1 e1 e2 s1 w1 => ?_
  refine h4 H0 B0 ln Γ B1 H1 σ _ s1 _ _ em2 _ fun u B2 H2 e3 e4 s2 w2 => ?_
  have w1 := Vw.mono e3 e4 _ _ w1
  have fin := fun z' w => q z' B2 H2 (e1.trans e3) (e2.trans e4) s2 w
  obtain ⟨oa, env1⟩ := p
  obtain ⟨ob, env2⟩ := p2
  cases ob with
  | fz d =>
    cases d with
    | int i =>
      have hu := vw_int w2
      subst hu
      cases oa with
      | fz da =>
        cases da with
        | tup ds =>
          obtain ⟨d, hd, rfl⟩ := Option.map_eq_some_iff.mp (show (atI ds i).map O.fz = some _ from em3)
          obtain ⟨p, vs, rfl, q1, q2, q3⟩ := asT_ok s2.w.bh w1 rfl
          obtain ⟨j, j1, j2⟩ := atI_some hd
          obtain ⟨x, x1, x2⟩ := q3.get j2
          exact .inr (.inl ⟨p, vs, i, x, rfl, rfl, q1, atI_len q3.len.symm j1 x1, fin x (by rw [Vw]; exact x2)⟩)
        | lst ds =>
          obtain ⟨d, hd, rfl⟩ := Option.map_eq_some_iff.mp (show (atI ds i).map O.fz = some _ from em3)
          obtain ⟨p, vs, rfl, q1, q3⟩ := asL_ok s2.w.bh w1 rfl
          obtain ⟨j, j1, j2⟩ := atI_some hd
          obtain ⟨x, x1, x2⟩ := q3.get (i := j) (d := .fz d) (by rw [List.getElem?_map, j2]; rfl)
          exact .inl ⟨p, vs, i, x, rfl, rfl, q1, atI_len (by rw [← q3.len, List.length_map]) j1 x1, fin x x2⟩
        | str z' =>
          have em4 : (if z'.length ≤ sizeLine then (atI z'.cps.toList i).map fun c => O.fz (.str ⟨#[c]⟩) else none) = some _ := em3
          split at em4
          · rename_i hz
            obtain ⟨c, hc, rfl⟩ := Option.map_eq_some_iff.mp em4
            have := vw_str w1
            subst this
            exact .inr (.inr ⟨z', i, c, rfl, rfl, hz, hc, fin _ (by rw [Vw, Rp])⟩)
          · cases em4
        | _ => cases em3
      | ls os =>
        obtain ⟨p, vs, rfl, q1, q3⟩ := asL_ok s2.w.bh w1 rfl
        obtain ⟨j, j1, j2⟩ := atI_some (show atI os i = some _ from em3)
        obtain ⟨x, x1, x2⟩ := q3.get j2
        exact .inl ⟨p, vs, i, x, rfl, rfl, q1, atI_len q3.len.symm j1 x1, fin x x2⟩
      | _ => cases em3
    | _ => cases em3
  | _ => cases em3
def RC (K : PySem.W.Frag) (r : List V → Hp → VK → Prop) (g : List O → Option O) : Prop :=
  ∀ (H0 B0 : Hp) (ln : Nat → Option V) (Γ : List (O × V)) (B H : Hp) (σ : L2.St) (env : En), Stt K H0 B0 ln Γ B H σ env → ∀ os o vs, Vws K B H os vs → g os = some o → ∀ Q : VK,
    (∀ v B' H', Ex B B' → Ex H H' → Stt K H0 B0 ln ((o, v) :: Γ) B' H' σ env → Q v H') → r vs H Q
def QC (X : Cx) (f : Value) (g : List O → Option O) : Prop := ∃ r, CallR X f r ∧ RC X.K r g
variable {es : List Expr} {x : Str} {p : Pos} {bid T : String} {g : List O → Option O} {mA : EM (List O)}
theorem RC.app {t : TA} {r : List V → Hp → VK → Prop} (hr : RC X.K r g) (h2 : SVA X.K t mA) : SE X.K (tCB r t) (mL g mA) := by
  intro H0 B0 ln Γ B H σ env s o env' em Q q
  obtain ⟨p, em1, em⟩ := bind_some em
  obtain ⟨z, em2, em⟩ := bind_some em
  cases em
  refine h2 H0 B0 ln Γ B H σ env s _ _ em1 _ fun vs B1 H1 e1 e2 s1 w1 => ?_
  exact hr H0 B0 ln Γ B1 H1 σ _ s1 _ _ vs w1 em2 Q fun v B2 H2 e3 e4 s2 => q v B2 H2 (e1.trans e3) (e2.trans e4) s2
theorem qe_callB (hc : QC X (.builtin bid) g) (hg : Gl X x) (hm : X.mg x = none) (hv : bootBuiltins x = some (.builtin bid)) (ha : QVA X (e :: es) mA) (hn : x ≠ "__name__" := by decide) (hdb : (x == ("__debug__" : Str)) = false := by decide)
    (he : starEach (e :: es) X.env = (false, eval e X.env) :: starEach es X.env := by rfl) (hpl : (backTo pos (starEach es X.env)).any (·.1) = false := by rfl) : QE X (.Call (.Name x p) (e :: es) [] pos) (mL g mA) := by
  obtain ⟨r, h1, h2⟩ := hc
  obtain ⟨t, h3, h4⟩ := ha
  exact ⟨_, pe_callB h1 hg hm hv h3 hn hdb he hpl, h2.app h4⟩
theorem qe_callTy (hc : QC X (.type T) g) (hg : Gl X x) (hm : X.mg x = none) (hv : bootBuiltins x = some (.type T)) (ha : QVA X (e :: es) mA) (hn : x ≠ "__name__" := by decide) (hdb : (x == ("__debug__" : Str)) = false := by decide)
    (he : starEach (e :: es) X.env = (false, eval e X.env) :: starEach es X.env := by rfl) (hpl : (backTo pos (starEach es X.env)).any (·.1) = false := by rfl) : QE X (.Call (.Name x p) (e :: es) [] pos) (mL g mA) := by
  obtain ⟨r, h1, h2⟩ := hc
  obtain ⟨t, h3, h4⟩ := ha
  exact ⟨_, pe_callTy h1 hg hm hv h3 hn hdb he hpl, h2.app h4⟩
theorem qe_callBfun (hc : QC X (.builtin bid) g) (hg : Gl X x) (hm : X.mg x = some (.builtin bid)) (ha : QVA X (e :: es) mA) (hdb : (x == ("__debug__" : Str)) = false := by decide)
    (he : starEach (e :: es) X.env = (false, eval e X.env) :: starEach es X.env := by rfl) (hpl : (backTo pos (starEach es X.env)).any (·.1) = false := by rfl) : QE X (.Call (.Name x p) (e :: es) [] pos) (mL g mA) := by
  obtain ⟨r, h1, h2⟩ := hc
  obtain ⟨t, h3, h4⟩ := ha
  exact ⟨_, pe_callBfun h1 hg hm h3 hdb he hpl, h2.app h4⟩
theorem vws1 {B H : Hp} {o : O} {vs : List V} (w : Vws K B H [o] vs) : ∃ v, vs = [v] ∧ Vw K B H o v := by
  rw [Vws] at w
  obtain ⟨v, r, rfl, w1, w2⟩ := w
  rw [Vws] at w2; subst w2
  exact ⟨v, rfl, w1⟩
theorem vws2 {B H : Hp} {o o' : O} {vs : List V} (w : Vws K B H [o, o'] vs) : ∃ v u, vs = [v, u] ∧ Vw K B H o v ∧ Vw K B H o' u := by
  rw [Vws] at w
  obtain ⟨v, r, rfl, w1, w2⟩ := w
  obtain ⟨u, rfl, w3⟩ := vws1 w2
  exact ⟨v, u, rfl, w1, w3⟩
def g1I (f : Int → Int) : List O → Option O
  | [.fz (.int i)] => some (.fz (.int (f i)))
  | _ => none
def gAbs : List O → Option O := g1I fun i => if i < 0 then -i else i
theorem c_abs : QC X (.builtin "abs") gAbs := ⟨_, call_abs, by
  intro H0 B0 ln Γ B H σ env s os o vs w hg Q q
  unfold gAbs g1I at hg
  split at hg
  · cases hg
    obtain ⟨v, rfl, w1⟩ := vws1 w
    have := vw_int w1
    subst this
    exact ⟨_, rfl, q _ B H (Ex.refl _) (Ex.refl _) (s.push (by rw [Rp]))⟩
  · cases hg⟩
def gInt : List O → Option O
  | [.fz (.int i)] => some (.fz (.int i))
  | [.fz (.bl b)] => some (.fz (.int (if b then 1 else 0)))
  | _ => none
theorem c_int : QC X (.type "int") gInt := ⟨_, call_int1, by
  intro H0 B0 ln Γ B H σ env s os o vs w hg Q q
  unfold gInt at hg
  split at hg
  · cases hg
    obtain ⟨v, rfl, w1⟩ := vws1 w
    have := vw_int w1
    subst this
    exact .inl ⟨_, rfl, q _ B H (Ex.refl _) (Ex.refl _) (s.push (by rw [Rp]))⟩
  · cases hg
    obtain ⟨v, rfl, w1⟩ := vws1 w
    have := vw_bl w1
    subst this
    exact .inr ⟨_, rfl, q _ B H (Ex.refl _) (Ex.refl _) (s.push (by rw [Rp]))⟩
  · cases hg⟩
def gMax2 : List O → Option O
  | [.fz (.int i), .fz (.int j)] => some (.fz (.int (if j > i then j else i)))
  | _ => none
def gMin2 : List O → Option O
  | [.fz (.int i), .fz (.int j)] => some (.fz (.int (if j < i then j else i)))
  | _ => none
def gGcd : List O → Option O
  | [.fz (.int i), .fz (.int j)] => some (.fz (.int ((Nat.gcd i.natAbs j.natAbs : Nat) : Int)))
  | _ => none
theorem c_gcd : QC X (.builtin "math.gcd") gGcd := ⟨_, cr_gcd, by
  intro H0 B0 ln Γ B H σ env s os o vs w hg Q q
  unfold gGcd at hg
  split at hg
  · cases hg
    obtain ⟨v, u, rfl, w1, w2⟩ := vws2 w
    have e1 := vw_int w1
    have e2 := vw_int w2
    subst e1 e2
    exact ⟨_, _, rfl, q _ B H (Ex.refl _) (Ex.refl _) (s.push (by rw [Rp]))⟩
  · cases hg⟩
def gLen : List O → Option O
  | [.fz (.tup ds)] => some (.fz (.int ds.length))
  | [.fz (.lst ds)] => some (.fz (.int ds.length))
  | [.ls os] => some (.fz (.int os.length))
  | [.fz (.str y)] => if y.length ≤ sizeLine then some (.fz (.int y.length)) else none
  | _ => none
theorem c_len : QC X (.builtin "len") gLen := ⟨_, call_len, by
  intro H0 B0 ln Γ B H σ env s os o vs w hg Q q
  unfold gLen at hg
  split at hg
  · rename_i ds
    cases hg
    obtain ⟨v, rfl, w1⟩ := vws1 w
    obtain ⟨a, vs, rfl, h1, _, h2⟩ := asT_ok s.w.bh w1 rfl
    exact ⟨_, _, rfl, .inr ⟨vs, h1, rfl⟩, q _ B H (Ex.refl _) (Ex.refl _) (s.push (by rw [Rp, h2.len]))⟩
  · rename_i ds
    cases hg
    obtain ⟨v, rfl, w1⟩ := vws1 w
    obtain ⟨a, vs, rfl, h1, h2⟩ := asL_ok s.w.bh w1 rfl
    exact ⟨_, _, rfl, .inl ⟨vs, h1, rfl⟩, q _ B H (Ex.refl _) (Ex.refl _) (s.push (by rw [Rp, ← h2.len, List.length_map]))⟩
  · rename_i ds
    cases hg
    obtain ⟨v, rfl, w1⟩ := vws1 w
    obtain ⟨a, vs, rfl, h1, h2⟩ := asL_ok s.w.bh w1 rfl
    exact ⟨_, _, rfl, .inl ⟨vs, h1, rfl⟩, q _ B H (Ex.refl _) (Ex.refl _) (s.push (by rw [Rp, h2.len]))⟩
  · split at hg
    · cases hg
      obtain ⟨v, rfl, w1⟩ := vws1 w
      have := vw_str w1
      subst this
      exact ⟨_, _, rfl, ⟨by assumption, rfl⟩, q _ B H (Ex.refl _) (Ex.refl _) (s.push (by rw [Rp]))⟩
    · cases hg
  · cases hg⟩
def gTuple : List O → Option O
  | [.fz (.tup ds)] => some (.fz (.tup ds))
  | [o] => (o.asL).bind fun os => (os.mapM O.d?).bind fun ds => some (.fz (.tup ds))
  | _ => none
theorem c_tuple : QC X (.type "tuple") gTuple := ⟨_, call_tuple_of, by
  intro H0 B0 ln Γ B H σ env s os o vs w hg Q q
  unfold gTuple at hg
  split at hg
  · rename_i ds
    cases hg
    obtain ⟨v, rfl, w1⟩ := vws1 w
    obtain ⟨a, vs, rfl, h1, h1', h2⟩ := asT_ok s.w.bh w1 rfl
    exact ⟨_, _, rfl, .inr ⟨h1, q _ B H (Ex.refl _) (Ex.refl _) (s.push (by rw [Rp]; exact ⟨a, vs, rfl, h1', h2⟩))⟩⟩
  · rename_i o1 _
    obtain ⟨os1, e1, hg⟩ := bind_some hg
    obtain ⟨ds, e2, hg⟩ := bind_some hg
    cases hg
    obtain ⟨v, rfl, w1⟩ := vws1 w
    obtain ⟨a, vs, rfl, h1, h2⟩ := asL_ok s.w.bh w1 e1
    refine ⟨_, _, rfl, .inl ⟨h1, fun p hp => ?_⟩⟩
    obtain ⟨e1, e2, s'⟩ := s.newTup (h2.dat e2) hp
    exact q _ _ _ e1 e2 s'
  · cases hg⟩
def gList : List O → Option O
  | [o] => (o.asS).bind fun os => (os.mapM O.d?).bind fun ds => some (.ls (ds.map .fz))
  | _ => none
theorem c_list : QC X (.type "list") gList := ⟨_, call_list_of, by
  intro H0 B0 ln Γ B H σ env s os o vs w hg Q q
  unfold gList at hg
  split at hg
  · rename_i o1
    obtain ⟨os1, e1, hg⟩ := bind_some hg
    obtain ⟨ds, e2, hg⟩ := bind_some hg
    cases hg
    obtain ⟨v, rfl, w1⟩ := vws1 w
    obtain ⟨a, vs, rfl, h1, h2⟩ := asS_ok s.w.bh w1 e1
    refine ⟨_, _, rfl, h1, fun p hp => ?_⟩
    obtain ⟨e2, s'⟩ := s.newLstD (h2.dat e2) hp
    exact q _ _ _ (Ex.refl _) e2 s'
  · cases hg⟩
def D.i? : D → Option Int
  | .int i => some i
  | _ => none
def D.b? : D → Option Bool
  | .bl i => some i
  | _ => none
theorem ints_ok {B : Hp} : ∀ {ds : List D} {vs : List V} {ns : List Int}, Rps K B ds vs → ds.mapM D.i? = some ns → vs = ns.map V.int
  | [], vs, ns, r, h => by
    rw [Rps] at r; subst r
    simp at h; subst h; rfl
  | d :: ds, vs, ns, r, h => by
    rw [Rps] at r
    obtain ⟨v, rr, rfl, r1, r2⟩ := r
    rw [List.mapM_cons] at h
    cases d with
    | int i =>
      cases e2 : ds.mapM D.i? with
      | none => rw [e2] at h; simp [D.i?] at h
      | some us' =>
        rw [e2] at h; simp [D.i?] at h; subst h
        rw [Rp] at r1
        rw [ints_ok r2 e2, r1]; rfl
    | _ => simp [D.i?] at h
theorem mapM_int : ∀ ns : List Int, (ns.map D.int).mapM D.i? = some ns
  | [] => by simp
  | n :: ns => by rw [List.map_cons, List.mapM_cons, mapM_int ns]; rfl
theorem mapM_bl : ∀ ns : List Bool, (ns.map D.bl).mapM D.b? = some ns
  | [] => by simp
  | n :: ns => by rw [List.map_cons, List.mapM_cons, mapM_bl ns]; rfl
def gLI (f : List Int → Option O) : List O → Option O
  | [o] => (o.asL).bind fun os => (os.mapM O.d?).bind fun ds => (ds.mapM D.i?).bind f
  | _ => none
def gLB (f : List Bool → Option O) : List O → Option O
  | [o] => (o.asL).bind fun os => (os.mapM O.d?).bind fun ds => (ds.mapM D.b?).bind f
  | _ => none
theorem gLI_ok {B H : Hp} {f : List Int → Option O} {os : List O} {o : O} {vs : List V} (e : Ex B H) (w : Vws K B H os vs) (h : gLI f os = some o) : ∃ a ns, vs = [.ref a] ∧ SqL K H a (ns.map V.int) ∧ f ns = some o := by
  unfold gLI at h
  split at h
  · obtain ⟨os1, e1, h⟩ := bind_some h
    obtain ⟨ds, e2, h⟩ := bind_some h
    obtain ⟨ns, e3, h⟩ := bind_some h
    obtain ⟨v, rfl, w1⟩ := vws1 w
    obtain ⟨a, vs, rfl, h1, h2⟩ := asL_ok e w1 e1
    have := ints_ok (h2.dat e2) e3
    subst this
    exact ⟨a, ns, rfl, h1, h⟩
  · cases h
def gSum : List O → Option O := gLI fun ns => some (.fz (.int ns.sum))
theorem c_sum (hc : X.calm = true) : QC X (.builtin "sum") gSum := ⟨_, cr_sum hc, by
  intro H0 B0 ln Γ B H σ env s os o vs w hg Q q
  obtain ⟨a, ns, rfl, h1, h2⟩ := gLI_ok s.w.bh w hg
  cases h2
  exact ⟨a, ns, rfl, h1, q _ B H (Ex.refl _) (Ex.refl _) (s.push (by rw [Rp]))⟩⟩
def gAll : List O → Option O := gLB fun ns => some (.fz (.bl (ns.all id)))
def gAny : List O → Option O := gLB fun ns => some (.fz (.bl (ns.any id)))
def sortI (ns : List Int) : List Int := ns.mergeSort (fun a b => decide (a ≤ b))
theorem rps_ints {B : Hp} : ∀ ns : List Int, Rps K B (ns.map D.int) (ns.map V.int)
  | [] => Rps.nil
  | n :: ns => Rps.cons (by rw [Rp]) (rps_ints ns)
inductive Ty where
  | int | bool | str | tup | lst | dct
def Ty.name : Ty → String
  | .int => "int" | .bool => "bool" | .str => "str" | .tup => "tuple" | .lst => "list" | .dct => "dict"
def isiO (t : Ty) : O → Bool
  | .fz .non => false
  | .fz (.bl _) => match t with | .bool => true | .int => true | _ => false
  | .fz (.int _) => match t with | .int => true | _ => false
  | .fz (.str _) => match t with | .str => true | _ => false
  | .fz (.tup _) => match t with | .tup => true | _ => false
  | .fz (.lst _) => match t with | .lst => true | _ => false
  | .ls _ => match t with | .lst => true | _ => false
  | .fz (.dk _ _) => match t with | .dct => true | _ => false
  | .fz (.dt _ _) => match t with | .dct => true | _ => false
  | .ok _ _ => match t with | .dct => true | _ => false
  | .ot _ _ => match t with | .dct => true | _ => false
  | .fz (.xt _) => match t with | .tup => true | _ => false
  | .fz (.kt _) => match t with | .tup => true | _ => false
  | .fz (.ins _ _ _) => false
theorem tyL {H : Hp} {a : Addr} {xs : List V} (h : SqL K H a xs) : TyX K H (.ref a) (.type "list") := by
  rcases h with (h | ⟨o, h⟩) | ⟨o, its, n, h1, h2, _⟩
  · exact .base (.lst h)
  · exact .base (.frz h)
  · exact .kList h1 h2
theorem tyT {H : Hp} {a : Addr} {xs : List V} (h : SqT K H a xs) : TyX K H (.ref a) (.type "tuple") := by
  rcases h with (h | ⟨o, h⟩) | ⟨o, its, n, h1, h2, _⟩
  · exact .base (.tup h)
  · exact .fTuple h
  · exact .kTuple h1 h2
theorem kitN (t : Ty) : kitB "NoneType" t.name = some false := by cases t <;> decide +kernel
theorem kitBl (t : Ty) : kitB "bool" t.name = some (match t with | .bool => true | .int => true | _ => false) := by cases t <;> decide +kernel
theorem kitI (t : Ty) : kitB "int" t.name = some (match t with | .int => true | _ => false) := by cases t <;> decide +kernel
theorem kitS (t : Ty) : kitB "str" t.name = some (match t with | .str => true | _ => false) := by cases t <;> decide +kernel
theorem kitT (t : Ty) : kitB "tuple" t.name = some (match t with | .tup => true | _ => false) := by cases t <;> decide +kernel
theorem kitL (t : Ty) : kitB "list" t.name = some (match t with | .lst => true | _ => false) := by cases t <;> decide +kernel
theorem kitD (t : Ty) : kitB "dict" t.name = some (match t with | .dct => true | _ => false) := by cases t <;> decide +kernel
theorem isi_ok {B H : Hp} (e : Ex B H) (t : Ty) {o : O} {v : V} (w : Vw K B H o v) : ∃ u, TyX K H v u ∧ PySem.W.kitOne K u (.type t.name) = some (isiO t o) := by
  cases o with
  | fz d =>
    rw [Vw] at w
    cases d with
    | non => rw [Rp] at w; subst w; exact ⟨_, .base .non, kit_ty (kitN t)⟩
    | bl b => rw [Rp] at w; subst w; exact ⟨_, .base (.bl b), kit_ty (kitBl t)⟩
    | int b => rw [Rp] at w; subst w; exact ⟨_, .base (.int b), kit_ty (kitI t)⟩
    | str b => rw [Rp] at w; subst w; exact ⟨_, .base (.str b), kit_ty (kitS t)⟩
    | tup b => rw [Rp] at w; obtain ⟨a, vs, rfl, h1, h2⟩ := w; exact ⟨_, tyT (e.t h1), kit_ty (kitT t)⟩
    | lst b => rw [Rp] at w; obtain ⟨a, vs, rfl, h1, h2⟩ := w; exact ⟨_, tyL (e.l h1), kit_ty (kitL t)⟩
    | dk b c => rw [Rp] at w; obtain ⟨a, vs, rfl, h1, h2⟩ := w; exact ⟨_, .base (.dK (e _ _ h1)), kit_ty (kitD t)⟩
    | dt b c => rw [Rp] at w; obtain ⟨a, vs, rfl, h1, h2⟩ := w; exact ⟨_, .base (.dT (e _ _ h1)), kit_ty (kitD t)⟩
    | xt b => rw [Rp] at w; obtain ⟨a, vs, o, rfl, h1, h2⟩ := w; exact ⟨_, .fTuple (e _ _ h1), kit_ty (kitT t)⟩
    | kt b => rw [Rp] at w; obtain ⟨a, rfl, h1⟩ := w; exact ⟨_, .base (.tup (e _ _ h1)), kit_ty (kitT t)⟩
    | ins x ns ds =>
      rw [Rp] at w
      obtain ⟨a, C, dx, vs, rfl, h1, h2, ic, h3, h4⟩ := w
      exact ⟨_, .base (.ins (e _ _ h1) ic.cl ic.ha ic.hn ic.htk ic.hm), by cases t <;> exact ic.kt _ (by decide)⟩
  | ls os => rw [Vw] at w; obtain ⟨a, vs, rfl, h1, h2⟩ := w; exact ⟨_, .base (.lst h1), kit_ty (kitL t)⟩
  | ok b c => rw [Vw] at w; obtain ⟨a, vs, rfl, h1, h2⟩ := w; exact ⟨_, .base (.dK h1), kit_ty (kitD t)⟩
  | ot b c => rw [Vw] at w; obtain ⟨a, vs, rfl, h1, h2⟩ := w; exact ⟨_, .base (.dT h1), kit_ty (kitD t)⟩
/-- isinstance(e, T) -/
theorem qe_isi (t : Ty) {y : Str} {py : Pos} (hg : Gl X "isinstance") (hm : X.mg "isinstance" = none) (ha : QV X e ma) (hgy : Gl X y) (hmy : X.mg y = none) (hvy : bootBuiltins y = some (.type t.name)) (hn : y ≠ "__name__" := by decide) (hdb : (y == ("__debug__" : Str)) = false := by decide)
    (he1 : starEach [e, .Name y py] X.env = (false, eval e X.env) :: starEach [.Name y py] X.env := by rfl) (he2 : starEach [.Name y py] X.env = (false, eval (.Name y py) X.env) :: starEach [] X.env := by rfl) (hpl : (backTo pos (starEach [.Name y py] X.env)).any (·.1) = false := by rfl) :
    QE X (.Call (.Name "isinstance" p) [e, .Name y py] [] pos) (m1 (fun o => some (.fz (.bl (isiO t o)))) ma) := by
  obtain ⟨u, h1, h2⟩ := ha
  refine ⟨_, pe_callB call_isi hg hm (by decide +kernel) (pa_cons h1 (pa_cons (pe_bltn (v := .ty t.name) hgy hmy hvy rfl hn hdb) pa_nil he2) he1) (by decide) (by decide) he1 hpl, fun H0 B0 ln Γ B H σ env s o env' em Q q => ?_⟩
  obtain ⟨z, em1, em⟩ := bind_some em
  obtain ⟨z2, em2, em⟩ := bind_some em
  cases em2
  cases em
  refine h2 H0 B0 ln Γ B H σ env s _ _ em1 _ fun v B1 H1 e1 e2 s1 w1 => ?_
  obtain ⟨u, tx, k⟩ := isi_ok s1.w.bh t w1
  exact ⟨v, .ty t.name, u, .type t.name, _, rfl, .ty _, tx, k, q _ B1 H1 e1 e2 (s1.push (by rw [Rp]))⟩
end
end Q
set_option Elab.async false
set_option linter.all false
set_option maxRecDepth 100000
set_option maxHeartbeats 1000000
namespace Q
open PySem L2 PyProof.Rows RZ
/-- J gives the data ds, one by one, while G stands -/
structure WalkD (K : PySem.W.Frag) (J : It) (G : Hp → Prop) (B : Hp) (ds : List D) : Prop where
  go : ∀ i H, i < ds.length → G H → J.go i H
  stop : ∀ H, G H → J.stop ds.length H
  yld : ∀ i d H x H' B1, ds[i]? = some d → G H → Ex B B1 → Ex B1 H → J.yld i H x H' → ∃ B2, Wd H B1 B2 H' ∧ Rp K B2 d x
theorem WalkD.mono {K : PySem.W.Frag} {J : It} {G G' : Hp → Prop} {B : Hp} {ds : List D} (w : WalkD K J G B ds) (h : ∀ H, G' H → G H) : WalkD K J G' B ds :=
  ⟨fun i H hi g => w.go i H hi (h H g), fun H g => w.stop H (h H g), fun i d H x H' B1 e g => w.yld i d H x H' B1 e (h H g)⟩
theorem walkD_list {K : PySem.W.Frag} {a : Addr} {vs : List V} {B : Hp} {ds : List D} (r : Rps K B ds vs) : WalkD K (Itl K a) (fun H => SqL K H a vs) B ds where
  go := fun i H hi g => ⟨vs, vs[i]'(by rw [← r.len]; exact hi), g, by simp⟩
  stop := fun H g => ⟨vs, g, by rw [r.len]; exact Nat.le_refl _⟩
  yld := fun i d H x H' B1 e g e1 e2 y => by
    obtain ⟨rfl, y⟩ := y
    obtain ⟨v, h1, h2⟩ := r.get e
    have := y vs g
    rw [h1] at this; cases this
    exact ⟨B1, Wd.refl e2, Rp.mono e1 _ _ h2⟩
theorem walkD_tup {K : PySem.W.Frag} {a : Addr} {vs : List V} {B : Hp} {ds : List D} (r : Rps K B ds vs) : WalkD K (Itt K a) (fun H => SqT K H a vs) B ds where
  go := fun i H hi g => ⟨vs, vs[i]'(by rw [← r.len]; exact hi), g, by simp⟩
  stop := fun H g => ⟨vs, g, by rw [r.len]; exact Nat.le_refl _⟩
  yld := fun i d H x H' B1 e g e1 e2 y => by
    obtain ⟨rfl, y⟩ := y
    obtain ⟨v, h1, h2⟩ := r.get e
    have := y vs g
    rw [h1] at this; cases this
    exact ⟨B1, Wd.refl e2, Rp.mono e1 _ _ h2⟩
def rangeD (lo : Int) (n : Nat) : List D := (List.range n).map fun i => .int (lo + (i : Nat))
theorem walkD_range {K : PySem.W.Frag} {lo : Int} {n : Nat} {B : Hp} : WalkD K (Itr lo n) (fun _ => True) B (rangeD lo n) where
  go := fun i H hi g => (by simpa [rangeD] using hi : i < n)
  stop := fun H g => by simp [rangeD, Itr]
  yld := fun i d H x H' B1 e g e1 e2 y => by
    obtain ⟨rfl, rfl⟩ := y
    refine ⟨B1, Wd.refl e2, ?_⟩
    unfold rangeD at e
    rw [List.getElem?_map] at e
    obtain ⟨j, h1, h2⟩ := Option.map_eq_some_iff.mp e
    have : j = i := by
      have := List.getElem?_eq_some_iff.mp h1
      obtain ⟨h3, h4⟩ := this
      simpa using h4.symm
    subst this
    rw [← h2, Rp]
def rangeC (lo c : Int) (n : Nat) : List D := (List.range n).map fun i => .int (lo + (i : Nat) * c)
def strD (z : Str) : List D := z.cps.toList.map fun c => .str ⟨#[c]⟩
theorem walkD_str {K : PySem.W.Frag} {z : Str} {B : Hp} : WalkD K (Its z) (fun _ => True) B (strD z) where
  go := fun i H hi g => (by simpa [strD] using hi : i < z.cps.size)
  stop := fun H g => by simp [strD, Its]
  yld := fun i d H x H' B1 e g e1 e2 y => by
    obtain ⟨rfl, c, hc, rfl⟩ := y
    refine ⟨B1, Wd.refl e2, ?_⟩
    unfold strD at e
    rw [List.getElem?_map] at e
    obtain ⟨j, h1, h2⟩ := Option.map_eq_some_iff.mp e
    rw [Array.getElem?_toList, hc] at h1
    cases h1
    rw [← h2, Rp]
def zipD (ds es : List D) : List D := (ds.zip es).map fun p => .tup [p.1, p.2]
def enumD (ds : List D) : List D := (List.range ds.length).zip ds |>.map fun p => .tup [.int (p.1 : Nat), p.2]
theorem pair_new {K : PySem.W.Frag} {H H' B1 : Hp} {x y v : V} {d e : D} {T : Addr} (e2 : Ex B1 H) (hT : H T = none) (hH : H' = upd H T (.tup [x, y])) (hv : v = .ref T) (hx : Rp K B1 d x) (hy : Rp K B1 e y) : ∃ B2, Wd H B1 B2 H' ∧ Rp K B2 (.tup [d, e]) v := by
  subst hH hv
  have w := Wd.new (x := .tup [x, y]) e2 hT
  refine ⟨_, w, ?_⟩
  rw [Rp]
  exact ⟨T, _, rfl, SqT.of upd_same, Rps.cons (Rp.mono w.b0 _ _ hx) (Rps.one (Rp.mono w.b0 _ _ hy))⟩
theorem zip_get {α β : Type} {xs : List α} {ys : List β} {i : Nat} {p : α × β} (h : (xs.zip ys)[i]? = some p) : xs[i]? = some p.1 ∧ ys[i]? = some p.2 := by
  rw [List.getElem?_zip_eq_some] at h; exact h
theorem walkD_zip {K : PySem.W.Frag} {a b : Addr} {vs us : List V} {B : Hp} {ds es : List D} (r : Rps K B ds vs) (r' : Rps K B es us) : WalkD K (Itz K a b) (fun H => SqL K H a vs ∧ SqL K H b us) B (zipD ds es) where
  go := fun i H hi g => by
    have h1 : i < ds.length ∧ i < es.length := by
      have : (zipD ds es).length = min ds.length es.length := by simp [zipD]
      omega
    exact ⟨vs, us, vs[i]'(by rw [← r.len]; exact h1.1), us[i]'(by rw [← r'.len]; exact h1.2), g.1, g.2, by simp, by simp⟩
  stop := fun H g => ⟨vs, us, g.1, g.2, by
    have : (zipD ds es).length = min ds.length es.length := by simp [zipD]
    rw [this, ← r.len, ← r'.len]; omega⟩
  yld := fun i d H x H' B1 e g e1 e2 y => by
    obtain ⟨T, u, w, hv, hT, hH, y1, y2⟩ := y
    unfold zipD at e
    rw [List.getElem?_map] at e
    obtain ⟨p, h1, rfl⟩ := Option.map_eq_some_iff.mp e
    obtain ⟨h2, h3⟩ := zip_get h1
    obtain ⟨v1, g1, g2⟩ := r.get h2
    obtain ⟨v2, g3, g4⟩ := r'.get h3
    have q1 := y1 vs g.1
    have q2 := y2 us g.2
    rw [g1] at q1; cases q1
    rw [g3] at q2; cases q2
    exact pair_new e2 hT hH hv (Rp.mono e1 _ _ g2) (Rp.mono e1 _ _ g4)
theorem walkD_zipT {K : PySem.W.Frag} {a b : Addr} {vs us : List V} {B : Hp} {ds es : List D} (r : Rps K B ds vs) (r' : Rps K B es us) : WalkD K (ItzT K a b) (fun H => SqT K H a vs ∧ SqT K H b us) B (zipD ds es) where
  go := fun i H hi g => by
    have h1 : i < ds.length ∧ i < es.length := by
      have : (zipD ds es).length = min ds.length es.length := by simp [zipD]
      omega
    exact ⟨vs, us, vs[i]'(by rw [← r.len]; exact h1.1), us[i]'(by rw [← r'.len]; exact h1.2), g.1, g.2, by simp, by simp⟩
  stop := fun H g => ⟨vs, us, g.1, g.2, by
    have : (zipD ds es).length = min ds.length es.length := by simp [zipD]
    rw [this, ← r.len, ← r'.len]; omega⟩
  yld := fun i d H x H' B1 e g e1 e2 y => by
    obtain ⟨T, u, w, hv, hT, hH, y1, y2⟩ := y
    unfold zipD at e
    rw [List.getElem?_map] at e
    obtain ⟨p, h1, rfl⟩ := Option.map_eq_some_iff.mp e
    obtain ⟨h2, h3⟩ := zip_get h1
    obtain ⟨v1, g1, g2⟩ := r.get h2
    obtain ⟨v2, g3, g4⟩ := r'.get h3
    have q1 := y1 vs g.1
    have q2 := y2 us g.2
    rw [g1] at q1; cases q1
    rw [g3] at q2; cases q2
    exact pair_new e2 hT hH hv (Rp.mono e1 _ _ g2) (Rp.mono e1 _ _ g4)
/-- what an iterable means: fz, that it stands whatever the frame does (for a loop); else while nothing is written (for a comprehension) -/
def SI (K : PySem.W.Frag) (fz : Bool) (wi : TI) (m : EM (List D)) : Prop :=
  ∀ (H0 B0 : Hp) (ln : Nat → Option V) (Γ : List (O × V)) (B H : Hp) (σ : L2.St) (env : En), Stt K H0 B0 ln Γ B H σ env → ∀ ds env', m env = some (ds, env') → ∀ R : It → Hp → Prop,
    (∀ J B' H', Ex B B' → Ex H H' → Stt K H0 B0 ln Γ B' H' σ env' → WalkD K J (fun H2 => if fz = true then Ex B' H2 else Ex H' H2) B' ds → R J H') → wi σ H R
def QI (X : Cx) (fz : Bool) (tg iter : Expr) (m : EM (List D)) : Prop := ∃ wi, PI X tg iter wi ∧ SI X.K fz wi m
def iAny (K : PySem.W.Frag) (te : TE) : TI := fun σ H R => te σ H fun x H1 => (∃ a xs, x = .ref a ∧ SqL K H1 a xs ∧ R (Itl K a) H1) ∨ (∃ a xs, x = .ref a ∧ SqT K H1 a xs ∧ R (Itt K a) H1) ∨ ∃ z, x = .str z ∧ R (Its z) H1
section
variable {X : Cx} {tg e : Expr} {te : TE} {m : EM O}
theorem pi_any (he : PE X e te) : PI X tg e (iAny X.K te) := by
  refine ⟨?_⟩
  intro pins s σ H R I h
  refine thn (he.run pins s σ H _ I h) ?_
  rintro v s1 ⟨x, H1, I1, r1, q | q | q⟩
  · obtain ⟨a, xs, rfl, hq, q⟩ := q
    cases r1
    obtain ⟨its, rv, p, hz⟩ := I1.list hq
    exact wpAny_pyIter_list p.isList (pi_one (tk := s1.toks) I1 _ (turn_list a _) ⟨_, Heap.get?_push_size _ rfl, rfl, rfl⟩ q)
  · obtain ⟨a, xs, rfl, hq, q⟩ := q
    cases r1
    obtain ⟨its, rv, p, hz⟩ := I1.tuple hq
    exact wpAny_pyIter_tuple p (pi_one (tk := s1.toks) I1 _ (turn_tuple a _) ⟨_, Heap.get?_push_size _ rfl, rfl, rfl⟩ q)
  · obtain ⟨z, rfl, q⟩ := q
    obtain ⟨t, rfl⟩ := r1
    cases ha : z.cps.all (· < 128)
    · exact wpAny_pyIter_wide ha (pi_one (tk := s1.toks) I1 _ (turn_str _ z t "str_iterator" (.inr rfl)) ⟨_, Heap.get?_push_size _ rfl, rfl, rfl⟩ q)
    · exact wpAny_pyIter_ascii ha (pi_one (tk := s1.toks) I1 _ (turn_str _ z t "str_ascii_iterator" (.inl rfl)) ⟨_, Heap.get?_push_size _ rfl, rfl, rfl⟩ q)
def D.items : D → Option (List D)
  | .lst ds => some ds
  | .tup ds => some ds
  | .str z => some (strD z)
  | _ => none
def mItF (m : EM O) : EM (List D) := fun env => (m env).bind fun p => (p.1.frz.items).bind fun ds => some (ds, p.2)
def O.items : O → Option (List D)
  | .fz d => d.items
  | .ls os => os.mapM O.d?
  | _ => none
def mItV (m : EM O) : EM (List D) := fun env => (m env).bind fun p => (p.1.items).bind fun ds => some (ds, p.2)
theorem itemsD_ok {K : PySem.W.Frag} {B H : Hp} {d : D} {v : V} {ds : List D} {Q : It → Prop} (e : Ex B H) (r : Rp K B d v) (h : d.items = some ds) (q : ∀ J, WalkD K J (fun H2 => Ex B H2) B ds → Q J) :
    (∃ a xs, v = .ref a ∧ SqL K H a xs ∧ Q (Itl K a)) ∨ (∃ a xs, v = .ref a ∧ SqT K H a xs ∧ Q (Itt K a)) ∨ ∃ z, v = .str z ∧ Q (Its z) := by
  unfold D.items at h
  split at h
  · cases h
    rw [Rp] at r
    obtain ⟨a, vs, rfl, h1, h2⟩ := r
    exact .inl ⟨a, vs, rfl, e.l h1, q _ ((walkD_list h2).mono fun H2 g => g.l h1)⟩
  · cases h
    rw [Rp] at r
    obtain ⟨a, vs, rfl, h1, h2⟩ := r
    exact .inr (.inl ⟨a, vs, rfl, e.t h1, q _ ((walkD_tup h2).mono fun H2 g => g.t h1)⟩)
  · cases h
    rw [Rp] at r
    exact .inr (.inr ⟨_, r, q _ (walkD_str.mono fun _ _ => trivial)⟩)
  · cases h
/-- for x in e: e is given away -/
theorem qi_frz (h : QE X e m) : QI X true tg e (mItF m) := by
  obtain ⟨t, h1, h2⟩ := h
  refine ⟨_, pi_any h1, fun H0 B0 ln Γ B H σ env s ds env' em R q => ?_⟩
  obtain ⟨p, em1, em⟩ := bind_some em
  obtain ⟨ds', em2, em⟩ := bind_some em
  cases em
  refine h2 H0 B0 ln Γ B H σ env s _ _ em1 _ fun v B1 H1 e1 e2 s1 => ?_
  obtain ⟨B2, e3, s2⟩ := s1.frz
  exact itemsD_ok s2.w.bh s2.rp em2 fun J w => q J B2 H1 (e1.trans e3) e2 s2.pop (w.mono fun H2 g => by rw [if_pos rfl] at g; exact g)
/-- in a comprehension: e is only seen -/
theorem qi_vw (h : QV X e m) : QI X false tg e (mItV m) := by
  obtain ⟨t, h1, h2⟩ := h
  refine ⟨_, pi_any h1, fun H0 B0 ln Γ B H σ env s ds env' em R q => ?_⟩
  obtain ⟨p, em1, em⟩ := bind_some em
  obtain ⟨ds', em2, em⟩ := bind_some em
  cases em
  refine h2 H0 B0 ln Γ B H σ env s _ _ em1 _ fun v B1 H1 e1 e2 s1 w1 => ?_
  obtain ⟨o, env1⟩ := p
  have sh : ∀ J G, WalkD X.K J G B1 ds → (∀ H2, Ex H1 H2 → G H2) → R J H1 := fun J G w hg => q J B1 H1 e1 e2 s1 (w.mono fun H2 g => hg H2 (by simpa using g))
  cases o with
  | fz d =>
    rw [Vw] at w1
    exact itemsD_ok s1.w.bh w1 em2 fun J w => sh J _ w fun H2 g => s1.w.bh.trans g
  | ls os =>
    obtain ⟨a, vs, rfl, g1, g2⟩ := asO_ok w1
    exact .inl ⟨a, vs, rfl, SqL.of g1, sh _ _ (walkD_list (g2.dat em2)) fun H2 g => SqL.of (g _ _ g1)⟩
  | _ => cases em2
variable {a b c : Expr} {p pos : Pos} {mA : EM (List O)} {fz : Bool}
theorem p62 : (4611686018427387904 : Int) = 2 ^ 62 := by decide +kernel
def mR1 (m : EM (List O)) : EM (List D) := fun env => (m env).bind fun p => match p.1 with
  | [.fz (.int j)] => if -4611686018427387904 ≤ j ∧ j < 4611686018427387904 then some (rangeD 0 j.toNat, p.2) else none
  | _ => none
def mR2 (m : EM (List O)) : EM (List D) := fun env => (m env).bind fun p => match p.1 with
  | [.fz (.int i), .fz (.int j)] => if -4611686018427387904 ≤ i ∧ i < 4611686018427387904 ∧ -4611686018427387904 ≤ j ∧ j < 4611686018427387904 then some (rangeD i (j - i).toNat, p.2) else none
  | _ => none
theorem qi_range1 (hg : Gl X "range") (hm : X.mg "range" = none) (ha : QVA X [a] mA) (hs : starEach [a] X.env = [(false, eval a X.env)] := by rfl) : QI X fz tg (.Call (.Name "range" p) [a] [] pos) (mR1 mA) := by
  obtain ⟨t, h1, h2⟩ := ha
  refine ⟨_, pi_range1 hg hm h1 hs, fun H0 B0 ln Γ B H σ env s ds env' em R q => ?_⟩
  obtain ⟨p, em1, em⟩ := bind_some em
  obtain ⟨os, env1⟩ := p
  refine h2 H0 B0 ln Γ B H σ env s _ _ em1 _ fun vs B1 H1 e1 e2 s1 w1 => ?_
  split at em
  · rename_i j hj
    have hj' : os = [.fz (.int j)] := hj
    subst hj'
    split at em
    · rename_i hb
      cases em
      obtain ⟨v, rfl, w2⟩ := vws1 w1
      have := vw_int w2
      subst this
      exact ⟨j, rfl, p62 ▸ hb.1, p62 ▸ hb.2, q _ B1 H1 e1 e2 s1 (walkD_range.mono fun _ _ => trivial)⟩
    · cases em
  · cases em
theorem qi_range2 (hg : Gl X "range") (hm : X.mg "range" = none) (ha : QVA X [a, b] mA) (hs : starEach [a, b] X.env = [(false, eval a X.env), (false, eval b X.env)] := by rfl) (hs2 : starEach [b] X.env = [(false, eval b X.env)] := by rfl) :
    QI X fz tg (.Call (.Name "range" p) [a, b] [] pos) (mR2 mA) := by
  obtain ⟨t, h1, h2⟩ := ha
  refine ⟨_, pi_range2 hg hm h1 hs hs2, fun H0 B0 ln Γ B H σ env s ds env' em R q => ?_⟩
  obtain ⟨p, em1, em⟩ := bind_some em
  obtain ⟨os, env1⟩ := p
  refine h2 H0 B0 ln Γ B H σ env s _ _ em1 _ fun vs B1 H1 e1 e2 s1 w1 => ?_
  split at em
  · rename_i i j hj
    have hj' : os = [.fz (.int i), .fz (.int j)] := hj
    subst hj'
    split at em
    · rename_i hb
      cases em
      obtain ⟨v, u, rfl, w2, w3⟩ := vws2 w1
      have := vw_int w2
      subst this
      have := vw_int w3
      subst this
      exact ⟨i, j, rfl, p62 ▸ hb, q _ B1 H1 e1 e2 s1 (walkD_range.mono fun _ _ => trivial)⟩
    · cases em
  · cases em
/-- zip, enumerate over what is seen -/
def mZipV (m : EM (List O)) : EM (List D) := fun env => (m env).bind fun p => match p.1 with
  | [o1, o2] => match o1, o2 with
    | .fz (.tup ds), .fz (.tup es) => some (zipD ds es, p.2)
    | _, _ => (o1.asL).bind fun l1 => (o2.asL).bind fun l2 => (l1.mapM O.d?).bind fun ds => (l2.mapM O.d?).bind fun es => some (zipD ds es, p.2)
  | _ => none
theorem qi_zipV {elts : List Expr} {kk : Nat} {tpos : Pos} (hg : Gl X "zip") (hm : X.mg "zip" = none) (ha : QVA X [a, b] mA) (hs : starEach [a, b] X.env = (false, eval a X.env) :: starEach [b] X.env := by rfl)
    (hpl : (backTo pos (starEach [b] X.env)).any (·.1) = false := by rfl) : QI X false (.Tuple elts kk tpos) (.Call (.Name "zip" p) [a, b] [] pos) (mZipV mA) := by
  obtain ⟨t, h1, h2⟩ := ha
  refine ⟨_, pi_zipA hg hm h1 hs hpl, fun H0 B0 ln Γ B H σ env s ds env' em R q => ?_⟩
  obtain ⟨p, em1, em⟩ := bind_some em
  obtain ⟨os, env1⟩ := p
  refine h2 H0 B0 ln Γ B H σ env s _ _ em1 _ fun vs B1 H1 e1 e2 s1 w1 => ?_
  split at em
  · rename_i o1 o2 hj
    have hj' : os = [o1, o2] := hj
    subst hj'
    obtain ⟨v, u, rfl, w2, w3⟩ := vws2 w1
    split at em
    · cases em
      obtain ⟨x1, vs, rfl, g1, g1', g2⟩ := asT_ok s1.w.bh w2 rfl
      obtain ⟨x2, us, rfl, g3, g3', g4⟩ := asT_ok s1.w.bh w3 rfl
      refine ⟨x1, x2, vs, us, rfl, .inr ⟨g1, g3, q _ B1 H1 e1 e2 s1 ((walkD_zipT g2 g4).mono fun H2 g => ?_)⟩⟩
      have g : Ex H1 H2 := by simpa using g
      exact ⟨g.t g1, g.t g3⟩
    · obtain ⟨l1, f1, em⟩ := bind_some em
      obtain ⟨l2, f2, em⟩ := bind_some em
      obtain ⟨ds', f3, em⟩ := bind_some em
      obtain ⟨es', f4, em⟩ := bind_some em
      cases em
      obtain ⟨x1, vs, rfl, g1, g2⟩ := asL_ok s1.w.bh w2 f1
      obtain ⟨x2, us, rfl, g3, g4⟩ := asL_ok s1.w.bh w3 f2
      refine ⟨x1, x2, vs, us, rfl, .inl ⟨g1, g3, q _ B1 H1 e1 e2 s1 ((walkD_zip (g2.dat f3) (g4.dat f4)).mono fun H2 g => ?_)⟩⟩
      have g : Ex H1 H2 := by simpa using g
      exact ⟨g.l g1, g.l g3⟩
  · cases em
def SG (K : PySem.W.Frag) (g : TG) (ws : List Nat) (gs : D → En → Option En) : Prop :=
  ∀ (H0 B0 : Hp) (ln : Nat → Option V) (Γ : List (O × V)) (B H : Hp) (σ : L2.St) (env : En), Stt K H0 B0 ln Γ B H σ env → ∀ d v env', Rp K B d v → gs d env = some env' → ∀ Q : L2.St → Hp → Prop,
    (∀ σ', Stt K H0 B0 ln Γ B H σ' env' → σ'.length = σ.length → (∀ j, j ∉ ws → σ'[j]? = σ[j]?) → Q σ' H) → g v σ H Q
def QG (X : Cx) (tg : Expr) (ws : List Nat) (gs : D → En → Option En) : Prop := ∃ g, PG X tg g ∧ SG X.K g ws gs
def gsName (i : Nat) : D → En → Option En := fun d env => if i < env.length then some (env.set i (.has (.fz d))) else none
theorem qg_name {i : Nat} {x : Str} (hN : X.N.Nodup) (hi : X.N[i]? = some x) (hx : Loc X.env.scope x := by first | exact Or.inl rfl | exact Or.inr rfl) (hf : X.fn x = true ∨ X.env.scope.names.lookup x = some .local := by first | exact .inl rfl | exact .inr rfl | assumption) : QG X (.Name x pos) [i] (gsName i) := by
  refine ⟨_, pg_name hN hi hx hf, fun H0 B0 ln Γ B H σ env s d v env' r em Q q => ?_⟩
  unfold gsName at em
  split at em
  · rename_i hl
    cases em
    refine q _ ((s.push r).store hl) (by simp) fun j hj => ?_
    rw [List.getElem?_set_ne (fun e => hj (by simp [e]))]
  · cases em
def SGs (K : PySem.W.Frag) (g : TGs) (ws : List Nat) (gs : List D → En → Option En) : Prop :=
  ∀ (H0 B0 : Hp) (ln : Nat → Option V) (Γ : List (O × V)) (B H : Hp) (σ : L2.St) (env : En), Stt K H0 B0 ln Γ B H σ env → ∀ ds vs env', Rps K B ds vs → gs ds env = some env' → ∀ Q : L2.St → Hp → Prop,
    (∀ σ', Stt K H0 B0 ln Γ B H σ' env' → σ'.length = σ.length → (∀ j, j ∉ ws → σ'[j]? = σ[j]?) → Q σ' H) → g vs σ H Q
def QGs (X : Cx) (ts : List Expr) (ws : List Nat) (gs : List D → En → Option En) : Prop := ∃ g, PGs X ts g ∧ SGs X.K g ws gs
def gsNil : List D → En → Option En := fun ds env => match ds with
  | [] => some env
  | _ => none
def gsCons (g : D → En → Option En) (r : List D → En → Option En) : List D → En → Option En := fun ds env => match ds with
  | d :: ds => (g d env).bind fun e => r ds e
  | _ => none
def gsTup (n : Nat) (r : List D → En → Option En) : D → En → Option En := fun d env => match d with
  | .tup ds => if ds.length = n then r ds env else none
  | _ => none
theorem qgs_nil : QGs X [] [] gsNil := ⟨_, pgs_nil, fun H0 B0 ln Γ B H σ env s ds vs env' r em Q q => by
  cases ds with
  | nil =>
    cases em
    rw [Rps] at r
    exact ⟨r, q σ s rfl fun _ _ => rfl⟩
  | cons _ _ => cases em⟩
theorem qgs_cons {es : List Expr} {ws us : List Nat} {gs : D → En → Option En} {gr : List D → En → Option En} (h1 : QG X e ws gs) (h2 : QGs X es us gr)
    (hs : (assignEach (e :: es) X.env).map (·.2) = assign e X.env :: (assignEach es X.env).map (·.2) := by rfl) : QGs X (e :: es) (ws ++ us) (gsCons gs gr) := by
  obtain ⟨g, g1, g2⟩ := h1
  obtain ⟨f, f1, f2⟩ := h2
  refine ⟨_, pgs_cons g1 f1 hs, fun H0 B0 ln Γ B H σ env s ds vs env' r em Q q => ?_⟩
  cases ds with
  | nil => cases em
  | cons d ds =>
    rw [Rps] at r
    obtain ⟨v, rr, rfl, r1, r2⟩ := r
    obtain ⟨env1, em1, em⟩ := bind_some em
    refine ⟨v, rr, rfl, g2 H0 B0 ln Γ B H σ env s d v _ r1 em1 _ fun σ1 s1 l1 k1 => ?_⟩
    refine f2 H0 B0 ln Γ B H σ1 _ s1 ds rr _ r2 em Q fun σ2 s2 l2 k2 => q σ2 s2 (l2.trans l1) fun j hj => ?_
    rw [k2 j (fun z => hj (by simp [z])), k1 j (fun z => hj (by simp [z]))]
theorem qg_tup {es : List Expr} {k n : Nat} {us : List Nat} {gr : List D → En → Option En} (hc : X.calm = true) (h : QGs X es us gr) (hn : (assignEach es X.env).length = n := by rfl) (hst : (assignEach es X.env).findIdx? (·.1) = none := by rfl) :
    QG X (.Tuple es k pos) us (gsTup n gr) := by
  obtain ⟨f, f1, f2⟩ := h
  refine ⟨_, pg_tup hc f1 hn hst, fun H0 B0 ln Γ B H σ env s d v env' r em Q q => ?_⟩
  cases d with
  | tup ds =>
    have em' : (if ds.length = n then gr ds env else none) = some env' := em
    split at em'
    · rename_i hl
      rw [Rp] at r
      obtain ⟨a, vs, rfl, g1, g2⟩ := r
      exact ⟨a, vs, rfl, s.w.bh.t g1, by rw [← g2.len]; exact hl, f2 H0 B0 ln Γ B H σ env s ds vs env' g2 em' Q q⟩
    · cases em'
  | _ => cases em
end
end Q
set_option Elab.async false
set_option linter.all false
set_option maxRecDepth 100000
set_option maxHeartbeats 1000000
namespace Q
open PySem L2 PyProof.Rows
inductive Out where
  | nx (e : En)
  | rt (d : D)
  | bk (e : En)
  | ct (e : En)
abbrev SM := En → Option Out
def Post (K : PySem.W.Frag) (H0 B0 : Hp) (ln : Nat → Option V) (Γ : List (O × V)) (B : Hp) (E : Ends) : Out → Prop
  | .nx e => ∀ B' H' σ', Ex B B' → Stt K H0 B0 ln Γ B' H' σ' e → E.nx σ' H'
  | .bk e => ∀ B' H' σ', Ex B B' → Stt K H0 B0 ln Γ B' H' σ' e → E.bk σ' H'
  | .ct e => ∀ B' H' σ', Ex B B' → Stt K H0 B0 ln Γ B' H' σ' e → E.ct σ' H'
  | .rt d => ∀ v B' H', Ex B B' → Wd H0 B0 B' H' → Rp K B' d v → E.rt v H'
def SS (K : PySem.W.Frag) (t : TS) (m : SM) : Prop :=
  ∀ (H0 B0 : Hp) (ln : Nat → Option V) (Γ : List (O × V)) (B H : Hp) (σ : L2.St) (env : En), Stt K H0 B0 ln Γ B H σ env → ∀ out, m env = some out → ∀ E : Ends, Post K H0 B0 ln Γ B E out → t E σ H
def QS (X : Cx) (st : Stmt) (m : SM) : Prop := ∃ t, PS X st t ∧ SS X.K t m
def QSs (X : Cx) (sts : List Stmt) (m : SM) : Prop := ∃ t, PSs X sts t ∧ SS X.K t m
theorem Post.up {K : PySem.W.Frag} {H0 B0 : Hp} {ln : Nat → Option V} {Γ : List (O × V)} {B B1 : Hp} {E : Ends} {out : Out} (h : Post K H0 B0 ln Γ B E out) (e : Ex B B1) : Post K H0 B0 ln Γ B1 E out := by
  cases out with
  | nx _ => exact fun B' H' σ' e' s => h B' H' σ' (e.trans e') s
  | bk _ => exact fun B' H' σ' e' s => h B' H' σ' (e.trans e') s
  | ct _ => exact fun B' H' σ' e' s => h B' H' σ' (e.trans e') s
  | rt _ => exact fun v B' H' e' s => h v B' H' (e.trans e') s
def sNext : SM := fun env => some (.nx env)
def sSeq (a b : SM) : SM := fun env => (a env).bind fun out => match out with
  | .nx e => b e
  | .rt d => some (.rt d)
  | .bk e => some (.bk e)
  | .ct e => some (.ct e)
def sAsg (i : Nat) (m : EM O) : SM := fun env => (m env).bind fun p => if i < p.2.length then some (.nx (p.2.set i (.has p.1))) else none
def sAsgT (gs : D → En → Option En) (m : EM O) : SM := fun env => (m env).bind fun p => (gs p.1.frz p.2).bind fun e => some (.nx e)
def sRet (m : EM O) : SM := fun env => (m env).bind fun p => some (.rt p.1.frz)
def sRetN : SM := fun _ => some (.rt .non)
def sIf (c : EM Bool) (a b : SM) : SM := fun env => (c env).bind fun p => if p.1 = true then a p.2 else b p.2
def sBreak : SM := fun env => some (.bk env)
def sNever : SM := fun _ => none
def forL (gs : D → En → Option En) (mb : SM) : List D → En → Option Out
  | [], e => some (.nx e)
  | d :: ds, e => (gs d e).bind fun e1 => (mb e1).bind fun out => match out with
    | .nx e2 => forL gs mb ds e2
    | .ct e2 => forL gs mb ds e2
    | .bk e2 => some (.nx e2)
    | .rt d => some (.rt d)
def sFor (mi : EM (List D)) (gs : D → En → Option En) (mb : SM) : SM := fun env => (mi env).bind fun p => forL gs mb p.1 p.2
def whileF (mt : EM Bool) (mb : SM) : Nat → En → Option Out
  | 0, _ => none
  | f + 1, e => (mt e).bind fun p => if p.1 = true then (mb p.2).bind fun out => match out with
      | .nx e2 => whileF mt mb f e2
      | .ct e2 => whileF mt mb f e2
      | .bk e2 => some (.nx e2)
      | .rt d => some (.rt d)
    else some (.nx p.2)
open Classical in
noncomputable def sWhile (mt : EM Bool) (mb : SM) : SM := fun env => if h : ∃ f out, whileF mt mb f env = some out then some (Classical.choose (Classical.choose_spec h)) else none
theorem whileF_mono {mt : EM Bool} {mb : SM} : ∀ {f : Nat} {e : En} {out : Out}, whileF mt mb f e = some out → ∀ g, f ≤ g → whileF mt mb g e = some out
  | 0, _, _, h, _, _ => by cases h
  | f + 1, e, out, h, 0, hg => by omega
  | f + 1, e, out, h, g + 1, hg => by
    rw [whileF] at h ⊢
    obtain ⟨p, h1, h⟩ := bind_some h
    rw [h1]
    show (if p.1 = true then _ else _) = _
    by_cases hb : p.1 = true
    · rw [if_pos hb] at h ⊢
      obtain ⟨o, h2, h⟩ := bind_some h
      rw [h2]
      show (match o with | .nx e2 => _ | .ct e2 => _ | .bk e2 => _ | .rt d => _) = _
      cases o with
      | nx e2 => exact whileF_mono h g (by omega)
      | ct e2 => exact whileF_mono h g (by omega)
      | bk e2 => exact h
      | rt d => exact h
    · rw [if_neg hb] at h ⊢
      exact h
theorem sWhile_of {mt : EM Bool} {mb : SM} {f : Nat} {e : En} {out : Out} (h : whileF mt mb f e = some out) : sWhile mt mb e = some out := by
  have hx : ∃ f out, whileF mt mb f e = some out := ⟨f, out, h⟩
  unfold sWhile
  rw [dif_pos hx]
  have h2 := Classical.choose_spec (Classical.choose_spec hx)
  have a := whileF_mono h (max f (Classical.choose hx)) (by omega)
  have b := whileF_mono h2 (max f (Classical.choose hx)) (by omega)
  rw [a] at b
  exact b.symm
theorem sWhile_some {mt : EM Bool} {mb : SM} {e : En} {out : Out} (h : sWhile mt mb e = some out) : ∃ f, whileF mt mb f e = some out := by
  unfold sWhile at h
  split at h
  · rename_i hx
    cases h
    exact ⟨_, Classical.choose_spec (Classical.choose_spec hx)⟩
  · cases h
section
variable {X : Cx} {st : Stmt} {rest : List Stmt} {a b : SM} {e c : Expr} {m : EM O} {n : EM Bool} {pos : Pos}
theorem qss_nil : QSs X [] sNext := ⟨_, pss_nil, fun H0 B0 ln Γ B H σ env s out em E q => by cases em; exact q B H σ (Ex.refl _) s⟩
theorem qss_cons (h1 : QS X st a) (h2 : QSs X rest b) : QSs X (st :: rest) (sSeq a b) := by
  obtain ⟨t, t1, t2⟩ := h1
  obtain ⟨u, u1, u2⟩ := h2
  refine ⟨_, pss_cons t1 u1, fun H0 B0 ln Γ B H σ env s out em E q => ?_⟩
  obtain ⟨o, em1, em⟩ := bind_some em
  refine t2 H0 B0 ln Γ B H σ env s _ em1 { E with nx := u E } ?_
  cases o with
  | nx e1 => exact fun B' H' σ' e' s' => u2 H0 B0 ln Γ B' H' σ' e1 s' out em E (q.up e')
  | rt d => cases em; exact q
  | bk e1 => cases em; exact q
  | ct e1 => cases em; exact q
theorem qss_one (h1 : QS X st a) : QSs X [st] a := by
  obtain ⟨t, t1, t2⟩ := h1
  exact ⟨t, pss_one t1, t2⟩
theorem qs_break : QS X (.Break pos) sBreak := ⟨_, ps_break, fun H0 B0 ln Γ B H σ env s out em E q => by cases em; exact q B H σ (Ex.refl _) s⟩
theorem qs_never : QS X st sNever := ⟨_, ps_never, fun H0 B0 ln Γ B H σ env s out em E q => by cases em⟩
theorem qs_ret (he : QE X e m) : QS X (.Return (some e) pos) (sRet m) := by
  obtain ⟨t, h1, h2⟩ := he
  refine ⟨_, ps_ret h1, fun H0 B0 ln Γ B H σ env s out em E q => ?_⟩
  obtain ⟨p, em1, em⟩ := bind_some em
  cases em
  refine h2 H0 B0 ln Γ B H σ env s _ _ em1 _ fun v B' H' e1 e2 s' => ?_
  obtain ⟨B2, e3, s2⟩ := s'.frz
  exact q v B2 H' (e1.trans e3) s2.w s2.rp
theorem qs_if {xs ys : List Stmt} (hc : QT X c n) (ha : QSs X xs a) (hb : QSs X ys b) : QS X (.If c xs ys pos) (sIf n a b) := by
  obtain ⟨t, t1, t2⟩ := hc
  obtain ⟨u, u1, u2⟩ := ha
  obtain ⟨w, w1, w2⟩ := hb
  refine ⟨_, ps_if t1 u1 w1, fun H0 B0 ln Γ B H σ env s out em E q => ?_⟩
  obtain ⟨p, em1, em⟩ := bind_some em
  obtain ⟨d, env1⟩ := p
  refine t2 H0 B0 ln Γ B H σ env s _ _ em1 _ fun B' H' e1 e2 s' => ?_
  cases d with
  | true => exact u2 H0 B0 ln Γ B' H' σ _ s' out em E (q.up e1)
  | false => exact w2 H0 B0 ln Γ B' H' σ _ s' out em E (q.up e1)
theorem ss_asg {t : TE} {i : Nat} (h2 : SE X.K t m) : SS X.K (tAsg t (gName i)) (sAsg i m) := by
  intro H0 B0 ln Γ B H σ env s out em E q
  obtain ⟨p, em1, em⟩ := bind_some em
  split at em
  · rename_i hi
    cases em
    exact h2 H0 B0 ln Γ B H σ env s _ _ em1 _ fun v B' H' e1 e2 s' => q B' H' _ e1 (s'.store hi)
  · cases em
theorem qs_set {i : Nat} {x : Str} {pos' : Pos} (hN : X.N.Nodup) (hi : X.N[i]? = some x) (he : QE X e m) (hx : Loc X.env.scope x := by first | exact Or.inl rfl | exact Or.inr rfl) (hs : swapsWith e (some (.Name x pos')) pos.line X.env = pure false := by rfl)
    (hf : X.fn x = true ∨ X.env.scope.names.lookup x = some .local := by first | exact .inl rfl | exact .inr rfl | assumption) : QS X (.Assign [.Name x pos'] e pos) (sAsg i m) := by
  obtain ⟨t, h1, h2⟩ := he
  exact ⟨_, ps_set hN hi hx h1 hs hf, ss_asg h2⟩
/-- a, b = e -/
theorem qs_asgT {tg : Expr} {ws : List Nat} {gs : D → En → Option En} (he : QE X e m) (hg : QG X tg ws gs) (hs : swapsWithSole [tg] e pos.line X.env = pure false := by rfl) (hw : swappedStores [tg] e X.env = pure none := by rfl)
    (h1 : (assignEach [tg] X.env).map (·.2) = [assign tg X.env] := by rfl) : QS X (.Assign [tg] e pos) (sAsgT gs m) := by
  obtain ⟨t, t1, t2⟩ := he
  obtain ⟨g, g1, g2⟩ := hg
  refine ⟨_, ps_asg t1 g1 hs hw h1, fun H0 B0 ln Γ B H σ env s out em E q => ?_⟩
  obtain ⟨p, em1, em⟩ := bind_some em
  obtain ⟨env2, em2, em⟩ := bind_some em
  cases em
  refine t2 H0 B0 ln Γ B H σ env s _ _ em1 _ fun v B' H' e1 e2 s' => ?_
  obtain ⟨B2, e3, s2⟩ := s'.frz
  exact g2 H0 B0 ln Γ B2 H' σ _ s2.pop _ v _ s2.rp em2 _ fun σ' s3 _ _ => q B2 H' σ' (e1.trans e3) s3
def sAug (i : Nat) (f : Int → Int → Int) (m : EM O) : SM := fun env => match env[i]? with
  | some (.has (.fz (.int x))) => (m env).bind fun p => match p.1 with
    | .fz (.int y) => if i < p.2.length then some (.nx (p.2.set i (.has (.fz (.int (f x y)))))) else none
    | _ => none
  | _ => none
theorem qs_for {tg iter : Expr} {body : List Stmt} {mi : EM (List D)} {ws : List Nat} {gs : D → En → Option En} {mb : SM} (hp : PassesOwn (model X.prog X.w) X.A X.env X.xe) (hc : X.calm = true) (hi : QI X true tg iter mi) (hg : QG X tg ws gs) (hb : QSs X body mb)
    (hs : ∀ x, foldedSetIterable iter X.env x = pure x := by intro _; rfl) : QS X (.For tg iter body [] pos) (sFor mi gs mb) := by
  obtain ⟨wi, i1, i2⟩ := hi
  obtain ⟨g, g1, g2⟩ := hg
  obtain ⟨t, t1, t2⟩ := hb
  refine ⟨_, ps_for hp hc i1 g1 t1 hs, fun H0 B0 ln Γ B H σ env s out em E q => ?_⟩
  obtain ⟨p, em1, em⟩ := bind_some em
  obtain ⟨ds, env1⟩ := p
  refine i2 H0 B0 ln Γ B H σ env s _ _ em1 _ fun J B1 H1 e1 e2 s1 w => ?_
  have w : WalkD X.K J (fun H2 => Ex B1 H2) B1 ds := w.mono fun H2 h => by rw [if_pos rfl]; exact h
  refine ⟨fun i k σ' H' => k = ds.length - i ∧ i ≤ ds.length ∧ ∃ B' env', Ex B1 B' ∧ Stt X.K H0 B0 ln Γ B' H' σ' env' ∧ forL gs mb (ds.drop i) env' = some out,
    ⟨ds.length, by simp, Nat.zero_le _, B1, env1, Ex.refl _, s1, em⟩, ?_⟩
  rintro i k σ2 H2 ⟨rfl, hi, B2, env2, e3, s2, em2⟩
  have g0 : Ex B1 H2 := e3.trans s2.w.bh
  by_cases hlt : i < ds.length
  · refine .inr ⟨w.go i H2 hlt g0, fun σ' H' => ∃ B' env', Ex B1 B' ∧ Stt X.K H0 B0 ln Γ B' H' σ' env' ∧ forL gs mb (ds.drop (i + 1)) env' = some out, fun σ' H' h => ⟨ds.length - (i + 1), by omega, rfl, hlt, h⟩, fun x H3 y => ?_⟩
    obtain ⟨B3, w3, r3⟩ := w.yld i ds[i] H2 x H3 B2 (List.getElem?_eq_getElem hlt) g0 e3 s2.w.bh y
    have s3 := s2.step w3
    rw [List.drop_eq_getElem_cons hlt, forL] at em2
    obtain ⟨env3, em3, em2⟩ := bind_some em2
    obtain ⟨o, em4, em2⟩ := bind_some em2
    refine g2 H0 B0 ln Γ B3 H3 σ2 env2 s3 _ x _ r3 em3 _ fun σ4 s4 _ _ => ?_
    refine t2 H0 B0 ln Γ B3 H3 σ4 env3 s4 o em4 _ ?_
    cases o with
    | nx e' => exact fun B' H' σ' e4 s' => ⟨B', e', (e3.trans w3.b0).trans e4, s', em2⟩
    | ct e' => exact fun B' H' σ' e4 s' => ⟨B', e', (e3.trans w3.b0).trans e4, s', em2⟩
    | bk e' => cases em2; exact fun B' H' σ' e4 s' => q B' H' σ' (((e1.trans e3).trans w3.b0).trans e4) s'
    | rt d => cases em2; exact fun v B' H' e4 s' r => q v B' H' (((e1.trans e3).trans w3.b0).trans e4) s' r
  · have hi' : i = ds.length := by omega
    subst hi'
    rw [List.drop_length, forL] at em2
    cases em2
    exact .inl ⟨w.stop H2 g0, q B2 H2 σ2 (e1.trans e3) s2⟩
theorem qs_while {body : List Stmt} {mb : SM} (hp : PassesOwn (model X.prog X.w) X.A X.env X.xe) (hc : QT X c n) (hb : QSs X body mb) : QS X (.While c body [] pos) (sWhile n mb) := by
  obtain ⟨u, u1, u2⟩ := hc
  obtain ⟨t, t1, t2⟩ := hb
  refine ⟨_, ps_while hp u1 t1, fun H0 B0 ln Γ B H σ env s out em E q => ?_⟩
  obtain ⟨f, em⟩ := sWhile_some em
  refine ⟨fun k σ' H' => ∃ B' env', Ex B B' ∧ Stt X.K H0 B0 ln Γ B' H' σ' env' ∧ whileF n mb k env' = some out, ⟨f, B, env, Ex.refl _, s, em⟩, ?_⟩
  rintro k σ2 H2 ⟨B2, env2, e3, s2, em2⟩
  cases k with
  | zero => cases em2
  | succ k =>
    rw [whileF] at em2
    obtain ⟨p, em3, em2⟩ := bind_some em2
    obtain ⟨d, env3⟩ := p
    refine u2 H0 B0 ln Γ B2 H2 σ2 env2 s2 _ _ em3 _ fun B3 H3 e4 e5 s3 => ?_
    cases d with
    | true =>
      have em4 : (mb env3).bind _ = some out := em2
      obtain ⟨o, em5, em6⟩ := bind_some em4
      rw [if_pos rfl]
      refine ⟨fun σ' H' => ∃ B' env', Ex B B' ∧ Stt X.K H0 B0 ln Γ B' H' σ' env' ∧ whileF n mb k env' = some out, fun σ' H' h => ⟨k, Nat.lt_succ_self _, h⟩, ?_⟩
      refine t2 H0 B0 ln Γ B3 H3 σ2 env3 s3 o em5 _ ?_
      cases o with
      | nx e' => exact fun B' H' σ' e6 s' => ⟨B', e', (e3.trans e4).trans e6, s', em6⟩
      | ct e' => exact fun B' H' σ' e6 s' => ⟨B', e', (e3.trans e4).trans e6, s', em6⟩
      | bk e' => cases em6; exact fun B' H' σ' e6 s' => q B' H' σ' ((e3.trans e4).trans e6) s'
      | rt d => cases em6; exact fun v B' H' e6 s' r => q v B' H' ((e3.trans e4).trans e6) s' r
    | false =>
      cases em2
      exact q B3 H3 σ2 (e3.trans e4) s3
end
section
variable {K : PySem.W.Frag} {H0 B0 B H : Hp} {ln : Nat → Option V} {Γ T : List (O × V)} {σ : L2.St} {env : En} {os : List O} {a : Addr}
theorem wd_upd {x : HO} (w : Wd H0 B0 B H) (hb : B a = none) (h0 : H0 a = none) : Wd H0 B0 B (upd H a x) :=
  ⟨w.b0, fun c u q => by rw [upd_ne (ne_of_none q hb)]; exact w.bh c u q, fun c u q => by rw [upd_ne (ne_of_none q h0)]; exact w.h0 c u q, w.nw⟩
theorem Own.mutl {R J : List (O × V)} (h : Own K H0 B H [] ((.ls os, .ref a) :: R)) : ∃ us, H a = some (.lst us) ∧ os.length = us.length ∧ B a = none ∧ H0 a = none ∧
    ∀ os' us' J, os'.length = us'.length → (os.zip us ++ R).Perm (os'.zip us' ++ J) → Own K H0 B (L2.upd H a (.lst us')) [] ((.ls os', .ref a) :: J) := by
  obtain ⟨us, h1, h2, h3, h4, h5, h6⟩ := h.open
  exact ⟨us, h1, h2, h3, h4, fun os' us' J hl p => ((h6.perm p).upd (x := .lst us')).shut hl upd_same h3 h4 h5⟩
theorem Stt.mutTemp (s : Stt K H0 B0 ln ((.ls os, .ref a) :: (T ++ Γ)) B H σ env) : ∃ us, H a = some (.lst us) ∧ os.length = us.length ∧ B a = none ∧
    ∀ os' us' J, os'.length = us'.length → (os.zip us ++ T).Perm (os'.zip us' ++ J) → Stt K H0 B0 ln ((.ls os', .ref a) :: (J ++ Γ)) B (upd H a (.lst us')) σ env := by
  obtain ⟨us, h1, h2, h3, h4, h5⟩ := (s.own.perm List.perm_middle).mutl (J := [])
  refine ⟨us, h1, h2, h3, fun os' us' J hl p => ⟨wd_upd s.w h3 h4, s.sg, ?_⟩⟩
  have := h5 os' us' (J ++ (roots env σ ++ Γ)) hl ?_
  · refine this.perm (List.Perm.trans ?_ List.perm_middle.symm)
    refine List.Perm.cons _ ?_
    rw [← List.append_assoc, ← List.append_assoc]
    exact List.perm_append_comm.append_right _
  · have e1 : (os.zip us ++ (roots env σ ++ (T ++ Γ))).Perm ((os.zip us ++ T) ++ (roots env σ ++ Γ)) := by
      rw [List.append_assoc (os.zip us)]
      refine List.Perm.append_left _ ?_
      rw [← List.append_assoc, ← List.append_assoc]
      exact List.perm_append_comm.append_right _
    refine e1.trans ?_
    rw [← List.append_assoc (os'.zip us')]
    exact p.append_right _
theorem Stt.mutSlot {i : Nat} (s : Stt K H0 B0 ln (T ++ Γ) B H σ env) (e : env[i]? = some (.has (.ls os))) : ∃ a us, σ[i]? = some (some (.ref a)) ∧ H a = some (.lst us) ∧ os.length = us.length ∧
    ∀ os' us' J, os'.length = us'.length → (os.zip us ++ T).Perm (os'.zip us' ++ J) → Stt K H0 B0 ln (J ++ Γ) B (upd H a (.lst us')) σ (env.set i (.has (.ls os'))) := by
  obtain ⟨v, hv, w0⟩ := s.slot e
  rw [Vw] at w0
  obtain ⟨a, vs0, rfl, _⟩ := w0
  obtain ⟨R2, p2, q2⟩ := roots_at e hv
  have z : σ.set i (some (V.ref a)) = σ := by
    obtain ⟨h1, h2⟩ := List.getElem?_eq_some_iff.mp hv
    rw [← h2]; simp
  have ow2 : Own K H0 B H [] ((O.ls os, V.ref a) :: (R2 ++ (T ++ Γ))) := s.own.perm (p2.append_right _)
  obtain ⟨us, h1, h2, h3, h4, g5⟩ := ow2.mutl (J := [])
  refine ⟨a, us, hv, h1, h2, fun os' us' J hl p => ⟨wd_upd s.w h3 h4, s.sg.same e _, ?_⟩⟩
  have q3 := q2 (.has (.ls os')) (some (.ref a))
  rw [z] at q3
  have e3 : (os.zip us ++ (R2 ++ (T ++ Γ))).Perm ((os'.zip us') ++ (R2 ++ (J ++ Γ))) := by
    have e2 : (os.zip us ++ (R2 ++ (T ++ Γ))).Perm ((os.zip us ++ T) ++ (R2 ++ Γ)) := by
      rw [List.append_assoc (os.zip us)]
      refine List.Perm.append_left _ ?_
      rw [← List.append_assoc, ← List.append_assoc]
      exact List.perm_append_comm.append_right _
    refine e2.trans ((p.append_right _).trans ?_)
    rw [List.append_assoc (os'.zip us')]
    refine List.Perm.append_left _ ?_
    rw [← List.append_assoc, ← List.append_assoc]
    exact List.perm_append_comm.append_right _
  exact (g5 os' us' (R2 ++ (J ++ Γ)) hl e3).perm (by
    rw [← List.cons_append]
    exact (q3.append_right _).symm)
end
end Q
set_option Elab.async false
set_option linter.all false
set_option maxRecDepth 100000
set_option maxHeartbeats 1000000
namespace Q
open PySem L2 PyProof.Rows
def lsAt (i : Nat) (env : En) : Option (List O) := match env[i]? with
  | some (.has (.ls os)) => some os
  | _ => none
theorem lsAt_ok {i : Nat} {env : En} {os : List O} (h : lsAt i env = some os) : env[i]? = some (.has (.ls os)) := by
  unfold lsAt at h
  split at h
  · cases h; assumption
  · cases h
def sApp (i : Nat) (m : EM O) : SM := fun env => (lsAt i env).bind fun _ => (m env).bind fun p => (lsAt i p.2).bind fun os => if os.length < sizeLine then some (.nx (p.2.set i (.has (.ls (os ++ [p.1]))))) else none
def sSetIx (i : Nat) (m mi : EM O) : SM := fun env => (m env).bind fun p => (lsAt i p.2).bind fun _ => (mi p.2).bind fun q => (lsAt i q.2).bind fun os => match q.1 with
  | .fz (.int k) => (ixN os.length k).bind fun j => some (.nx (q.2.set i (.has (.ls (os.set j p.1)))))
  | _ => none
theorem zip_append' {α β : Type} {xs ys : List α} {us ws : List β} (h : xs.length = us.length) : (xs ++ ys).zip (us ++ ws) = xs.zip us ++ ys.zip ws := List.zip_append h
theorem zip_set {α β : Type} : ∀ {xs : List α} {us : List β} {j : Nat} {x : α} {u : β}, xs.length = us.length → j < xs.length → ∃ y, (xs.zip us ++ [(x, u)]).Perm ((xs.set j x).zip (us.set j u) ++ [y])
  | [], _, _, _, _, _, h => by simp at h
  | a :: xs, [], _, _, _, h, _ => by simp at h
  | a :: xs, c :: us, 0, x, u, _, _ => ⟨(a, c), by
    show ((a, c) :: (xs.zip us ++ [(x, u)])).Perm ((x, u) :: (xs.zip us ++ [(a, c)]))
    have e1 : ((a, c) :: (xs.zip us ++ [(x, u)])).Perm ((a, c) :: (x, u) :: xs.zip us) := List.Perm.cons _ List.perm_append_comm
    have e2 : ((x, u) :: (xs.zip us ++ [(a, c)])).Perm ((x, u) :: (a, c) :: xs.zip us) := List.Perm.cons _ List.perm_append_comm
    exact e1.trans ((List.Perm.swap _ _ _).trans e2.symm)⟩
  | a :: xs, c :: us, j + 1, x, u, hl, hj => by
    obtain ⟨y, p⟩ := zip_set (xs := xs) (us := us) (j := j) (x := x) (u := u) (by simpa using hl) (by simpa using hj)
    exact ⟨y, p.cons (a, c)⟩
section
variable {X : Cx} {e e' : Expr} {m mi mk : EM O} {x : Str} {p0 p1 cpos pos : Pos} {i : Nat}
theorem qs_append (hN : X.N[i]? = some x) (he : QE X e m) (hv : Vis X.env.scope x := by first | exact Or.inl rfl | exact Or.inr (Or.inl rfl) | exact Or.inr (Or.inr rfl)) (hd : (x == ("__debug__" : Str)) = false := by decide)
    (hcd : (x == ("__classdict__" : Str)) = false := by decide)
    (hbase : attributeBase (.Name x p0) "append" X.env (eval (.Name x p0) X.env) = eval (.Name x p0) X.env := by rfl)
    (hfew : ((backTo cpos (starEach [e] X.env)).all (fun x => !x.1) && (backToKw cpos (keywordEach [] X.env)).all (fun x => x.1.isSome) && decide ([e].length + ([] : List Keyword).length + (if ([] : List Keyword).isEmpty then 0 else 1) < 30)) = true := by rfl)
    (hline : (p1.endLine == cpos.line) = true := by rfl) (hst : starEach [e] X.env = (false, eval e X.env) :: starEach [] X.env := by rfl) (hplain : (backTo cpos (starEach [] X.env)).any (·.1) = false := by rfl)
    (hs : swapsWith (.Call (.Attribute (.Name x p0) "append" p1) [e] [] cpos) none pos.line X.env = pure false := by rfl) :
    QS X (.Expr (.Call (.Attribute (.Name x p0) "append" p1) [e] [] cpos) pos) (sApp i m) := by
  obtain ⟨t, h1, h2⟩ := he
  refine ⟨_, ps_expr (pe_bm PySem.F.plainAttrs_list PySem.F.slot_list_append PySem.F.type_list_append mt_append (pe_var hN hv hd hcd) (pa_cons h1 pa_nil hst) hbase hfew hline hst hplain) hs, fun H0 B0 ln Γ B H σ env s out em E q => ?_⟩
  obtain ⟨os0, l0, em⟩ := bind_some em
  obtain ⟨p, em1, em⟩ := bind_some em
  obtain ⟨os, l1, em⟩ := bind_some em
  split at em
  · rename_i hz
    cases em
    obtain ⟨v, hv0, w⟩ := s.slot (lsAt_ok l0)
    obtain ⟨a0, vs0, rfl, g0, _⟩ := asO_ok w
    refine ⟨_, hv0, .inl ⟨rfl, vs0, SqL.of g0⟩, h2 H0 B0 ln Γ B H σ env s _ _ em1 _ fun u B1 H1 e1 e2 s1 => ?_⟩
    obtain ⟨a, us, hv1, g1, g2, g3⟩ := Stt.mutSlot (T := [(p.1, u)]) s1 (lsAt_ok l1)
    rw [hv0] at hv1
    cases hv1
    refine ⟨a0, us, u, rfl, rfl, g1, by rw [← g2]; exact hz, q B1 _ σ e1 ?_⟩
    exact g3 (os ++ [p.1]) (us ++ [u]) [] (by simp [g2]) (by rw [zip_append' g2]; simp)
  · cases em
theorem qs_setIx (hN : X.N[i]? = some x) (he : QE X e m) (hi : QV X e' mi) (hv : Vis X.env.scope x := by first | exact Or.inl rfl | exact Or.inr (Or.inl rfl) | exact Or.inr (Or.inr rfl)) (hd : (x == ("__debug__" : Str)) = false := by decide)
    (hcd : (x == ("__classdict__" : Str)) = false := by decide)
    (ha : ∀ v, assign (.Subscript (.Name x p0) e' p1) X.env v = (do
      let ov ← holding [v] (eval (.Name x p0) X.env)
      let iv ← holding [v, ov] (eval e' X.env)
      standAt p1
      holding [v, ov, iv] (setItem ov iv v)
      release [v, ov, iv] []) := by intro _; rfl)
    (hs : swapsWithSole [.Subscript (.Name x p0) e' p1] e pos.line X.env = pure false := by rfl) (hw : swappedStores [.Subscript (.Name x p0) e' p1] e X.env = pure none := by rfl)
    (h1 : (assignEach [.Subscript (.Name x p0) e' p1] X.env).map (·.2) = [assign (.Subscript (.Name x p0) e' p1) X.env] := by rfl) : QS X (.Assign [.Subscript (.Name x p0) e' p1] e pos) (sSetIx i m mi) := by
  obtain ⟨t, t1, t2⟩ := he
  obtain ⟨u, u1, u2⟩ := hi
  refine ⟨_, ps_asg t1 (pg_sub (pe_var hN hv hd hcd) u1 set_list ha) hs hw h1, fun H0 B0 ln Γ B H σ env s out em E q => ?_⟩
  obtain ⟨p, em1, em⟩ := bind_some em
  obtain ⟨os0, l0, em⟩ := bind_some em
  obtain ⟨r, em2, em⟩ := bind_some em
  obtain ⟨os, l1, em⟩ := bind_some em
  obtain ⟨o2, env2⟩ := r
  cases o2 with
  | fz d =>
    cases d with
    | int k =>
      obtain ⟨j, hj, em⟩ := bind_some (show (ixN os.length k).bind _ = some out from em)
      cases em
      refine t2 H0 B0 ln Γ B H σ env s _ _ em1 _ fun y B1 H1 e1 e2 s1 => ?_
      obtain ⟨v, hv0, w⟩ := s1.slot (lsAt_ok l0)
      obtain ⟨a0, vs0, rfl, g0, _⟩ := asO_ok w
      refine ⟨_, hv0, u2 H0 B0 ln _ B1 H1 σ _ s1 _ _ em2 _ fun z B2 H2 e3 e4 s2 w2 => ?_⟩
      have := vw_int w2
      subst this
      obtain ⟨a, us, hv1, g1, g2, g3⟩ := Stt.mutSlot (T := [(p.1, y)]) s2 (lsAt_ok l1)
      rw [hv0] at hv1
      cases hv1
      have hjl : j < os.length := (ixN_seq hj).2.1
      obtain ⟨w0, pw⟩ := zip_set (x := p.1) (u := y) g2 hjl
      refine ⟨a0, us, k, j, rfl, rfl, g1, by rw [← g2]; exact hj, q B2 _ σ (e1.trans e3) ?_⟩
      exact (g3 (os.set j p.1) (us.set j y) [w0] (by simp [g2]) pw).pop (o := w0.1) (v := w0.2)
    | _ => cases em
  | _ => cases em
end
def wipeE (env : En) : List Nat → En
  | [] => env
  | v :: vs => (wipeE env vs).set v .un
def backE (env : En) (e3 : En) : List Nat → En
  | [] => e3
  | v :: vs => (backE env e3 vs).set v (env[v]?.getD .un)
def okE (env : En) (vs : List Nat) : Bool := vs.all fun i => match env[i]? with
  | some .un => true
  | some (.has (.fz _)) => true
  | _ => false
def lcLoop (vs : List Nat) (gs : D → En → Option En) (mt : EM Bool) (me : EM O) : List D → List O → En → Option (List O × En)
  | [], acc, env => some (acc, env)
  | d :: ds, acc, env => if okE env vs = true then (gs d (wipeE env vs)).bind fun e1 => (mt e1).bind fun b =>
      if b.1 = true then (me b.2).bind fun r => if acc.length < sizeLine then lcLoop vs gs mt me ds (acc ++ [r.1]) (backE env r.2 vs) else none
      else lcLoop vs gs mt me ds acc (backE env b.2 vs) else none
def mLc (vs : List Nat) (mi : EM (List D)) (gs : D → En → Option En) (mt : EM Bool) (me : EM O) : EM O := fun env => (mi env).bind fun p => (lcLoop vs gs mt me p.1 [] p.2).bind fun q => some (.ls q.1, q.2)
section
variable {K : PySem.W.Frag} {H0 B0 B H : Hp} {ln : Nat → Option V} {Γ T : List (O × V)} {σ σ2 : L2.St} {env e3 : En}
theorem set_out {α : Type} {l : List α} {i : Nat} {x : α} (h : ¬ i < l.length) : l.set i x = l := List.set_eq_of_length_le (by omega)
/-- a slot forgotten -/
theorem Stt.un (s : Stt K H0 B0 ln Γ B H σ env) (i : Nat) (y : Option V) : Stt K H0 B0 ln Γ B H (σ.set i y) (env.set i .un) := by
  by_cases hi : i < env.length
  · have hs : i < σ.length := by rw [← s.sg.len]; exact hi
    obtain ⟨R, p, q⟩ := roots_at (List.getElem?_eq_getElem hi) (List.getElem?_eq_getElem hs)
    refine ⟨s.w, ⟨by rw [List.length_set, List.length_set]; exact s.sg.len, fun j o e => ?_, fun j e => ?_, fun j a e => ?_⟩, ?_⟩
    · by_cases h : i = j
      · subst h
        rw [List.getElem?_set_self hi] at e; cases e
      · rw [List.getElem?_set_ne h] at e
        obtain ⟨v, hv⟩ := s.sg.has j o e
        exact ⟨v, by rw [List.getElem?_set_ne h]; exact hv⟩
    · by_cases h : i = j
      · subst h
        rw [List.getElem?_set_self hi] at e; cases e
      · rw [List.getElem?_set_ne h] at e
        obtain ⟨v, hv, hv2⟩ := s.sg.lent j e
        exact ⟨v, hv, by rw [List.getElem?_set_ne h]; exact hv2⟩
    · by_cases h : i = j
      · subst h
        rw [List.getElem?_set_self hi] at e; cases e
      · rw [List.getElem?_set_ne h] at e
        rw [List.getElem?_set_ne h]
        exact s.sg.adr j a e
    · have q1 := q .un y
      have e0 : rt .un y = ([] : List (O × V)) := by cases y <;> rfl
      rw [e0, List.nil_append] at q1
      have ow : Own K H0 B H [] (rt env[i] σ[i] ++ (R ++ Γ)) := by
        rw [← List.append_assoc]
        exact s.own.perm (p.append_right _)
      exact ow.drop.perm (q1.symm.append_right _)
  · rw [set_out hi, set_out (by rw [← s.sg.len]; exact hi)]
    exact s
theorem Stt.wipe (s : Stt K H0 B0 ln Γ B H σ env) : ∀ vs, Stt K H0 B0 ln Γ B H (wipe σ vs) (wipeE env vs)
  | [] => s
  | v :: vs => by
    rw [L2.wipe, wipeE]
    exact (Stt.wipe s vs).un v none
def restS (σ σ2 : L2.St) : List Nat → L2.St
  | [] => σ2
  | v :: vs => (restS σ σ2 vs).set v (σ[v]?.getD none)
theorem restS_len (σ σ2 : L2.St) : ∀ vs, (restS σ σ2 vs).length = σ2.length
  | [] => rfl
  | v :: vs => by unfold restS; rw [List.length_set, restS_len σ σ2 vs]
theorem backE_len (env e3 : En) : ∀ vs, (backE env e3 vs).length = e3.length
  | [] => rfl
  | v :: vs => by unfold backE; rw [List.length_set, backE_len env e3 vs]
theorem restS_at (hl : σ2.length = σ.length) : ∀ (vs : List Nat) (j : Nat), (restS σ σ2 vs)[j]? = if j ∈ vs then σ[j]? else σ2[j]?
  | [], j => by simp [restS]
  | v :: vs, j => by
    rw [restS]
    by_cases h : v = j
    · subst h
      rw [if_pos (by simp)]
      by_cases hj : v < σ.length
      · rw [List.getElem?_set_self (by rw [restS_len, hl]; exact hj), List.getElem?_eq_getElem hj]; rfl
      · rw [set_out (by rw [restS_len, hl]; exact hj), List.getElem?_eq_none (by rw [restS_len, hl]; omega), List.getElem?_eq_none (by omega)]
    · rw [List.getElem?_set_ne h, restS_at hl vs j]
      have : (j ∈ v :: vs) ↔ (j ∈ vs) := by simp [Ne.symm h]
      by_cases hm : j ∈ vs
      · rw [if_pos hm, if_pos (this.mpr hm)]
      · rw [if_neg hm, if_neg (fun z => hm (this.mp z))]
theorem restS_eq (hl : σ2.length = σ.length) {vs : List Nat} (h : ∀ j, j ∉ vs → σ2[j]? = σ[j]?) : restS σ σ2 vs = σ := by
  apply List.ext_getElem?
  intro j
  rw [restS_at hl]
  by_cases hm : j ∈ vs
  · rw [if_pos hm]
  · rw [if_neg hm, h j hm]
theorem wipe_at (σ : L2.St) : ∀ (vs : List Nat) (j : Nat), (wipe σ vs)[j]? = if j ∈ vs then (σ[j]?).map (fun _ => none) else σ[j]?
  | [], j => by simp [L2.wipe]
  | v :: vs, j => by
    rw [L2.wipe]
    by_cases h : v = j
    · subst h
      rw [if_pos (by simp)]
      by_cases hj : v < σ.length
      · rw [List.getElem?_set_self (by rw [wipe_length]; exact hj), List.getElem?_eq_getElem hj]; rfl
      · rw [set_out (by rw [wipe_length]; exact hj), List.getElem?_eq_none (by rw [wipe_length]; omega), List.getElem?_eq_none (by omega)]; rfl
    · rw [List.getElem?_set_ne h, wipe_at σ vs j]
      have : (j ∈ v :: vs) ↔ (j ∈ vs) := by simp [Ne.symm h]
      by_cases hm : j ∈ vs
      · rw [if_pos hm, if_pos (this.mpr hm)]
      · rw [if_neg hm, if_neg (fun z => hm (this.mp z))]
theorem wipe_eq (hl : σ2.length = σ.length) {vs : List Nat} (h : ∀ j, j ∉ vs → σ2[j]? = σ[j]?) : wipe σ2 vs = wipe σ vs := by
  apply List.ext_getElem?
  intro j
  rw [wipe_at, wipe_at]
  by_cases hm : j ∈ vs
  · rw [if_pos hm, if_pos hm]
    by_cases hj : j < σ.length
    · rw [List.getElem?_eq_getElem hj, List.getElem?_eq_getElem (by rw [hl]; exact hj)]; rfl
    · rw [List.getElem?_eq_none (by omega), List.getElem?_eq_none (by omega)]
  · rw [if_neg hm, if_neg hm, h j hm]
/-- the block's own names as they were ahead of it: env over base B1, back over B -/
theorem Stt.back {B1 H1 : Hp} {Γ1 : List (O × V)} (s1 : Stt K H0 B0 ln Γ1 B1 H1 σ env) (e : Ex B1 B) (s : Stt K H0 B0 ln Γ B H σ2 e3) (hle : e3.length = env.length) : ∀ vs : List Nat, okE env vs = true → Stt K H0 B0 ln Γ B H (restS σ σ2 vs) (backE env e3 vs)
  | [], _ => s
  | v :: vs, h => by
    unfold okE at h
    rw [List.all_cons, Bool.and_eq_true] at h
    have ih := Stt.back s1 e s hle vs h.2
    rw [restS, backE]
    have h1 := h.1
    split at h1
    · rename_i q
      rw [q]
      exact ih.un v _
    · rename_i d q
      rw [q]
      obtain ⟨u, hu, r⟩ := s1.slotD q
      rw [hu]
      have hv : v < env.length := (List.getElem?_eq_some_iff.mp q).1
      exact (ih.push (Rp.mono e _ _ r)).store (by rw [backE_len, hle]; exact hv)
    · cases h1
end
theorem se_lc {K : PySem.W.Frag} {wi : TI} {mi : EM (List D)} {g : TG} {ws vs : List Nat} {gs : D → En → Option En} {tt : TT} {mt : EM Bool} {te : TE} {me : EM O} (hi : SI K false wi mi) (hg : SG K g ws gs) (hw : ∀ j ∈ ws, j ∈ vs) (ht : STst K tt mt) (he : SE K te me) :
    SE K (tLc wi g tt te vs) (mLc vs mi gs mt me) := by
  intro H0 B0 ln Γ B H σ env s o env' em Q q
  obtain ⟨p, em1, em⟩ := bind_some em
  obtain ⟨r, em2, em⟩ := bind_some em
  cases em
  obtain ⟨ds, env1⟩ := p
  refine hi H0 B0 ln Γ B H σ env s _ _ em1 _ fun J B1 H1 e1 e2 s1 w => ?_
  have w : WalkD K J (fun H2 => Ex H1 H2) B1 ds := w.mono fun H2 h => by simpa using h
  intro Dl hD
  obtain ⟨e0, s0⟩ := Stt.newLst (os := []) (vs := []) (Γ := Γ) s1 rfl hD
  refine ⟨fun i k H' => k = ds.length - i ∧ i ≤ ds.length ∧ ∃ acc B' env', Ex B1 B' ∧ Ex H1 H' ∧ Stt K H0 B0 ln ((.ls acc, .ref Dl) :: Γ) B' H' σ env' ∧ lcLoop vs gs mt me (ds.drop i) acc env' = some r,
    ⟨ds.length, by simp, Nat.zero_le _, [], B1, env1, Ex.refl _, e0, s0, em2⟩, ?_⟩
  rintro i k H2 ⟨rfl, hi, acc, B2, env2, e3, e4, s2, em2⟩
  by_cases hlt : i < ds.length
  · refine .inr ⟨w.go i H2 hlt e4, fun H' => ∃ acc B' env', Ex B1 B' ∧ Ex H1 H' ∧ Stt K H0 B0 ln ((.ls acc, .ref Dl) :: Γ) B' H' σ env' ∧ lcLoop vs gs mt me (ds.drop (i + 1)) acc env' = some r, fun H' h => ⟨ds.length - (i + 1), by omega, rfl, hlt, h⟩, fun x H3 y => ?_⟩
    obtain ⟨B3, w3, r3⟩ := w.yld i ds[i] H2 x H3 B2 (List.getElem?_eq_getElem hlt) e4 e3 s2.w.bh y
    have s3 := s2.step w3
    rw [List.drop_eq_getElem_cons hlt, lcLoop] at em2
    split at em2
    · rename_i hok
      obtain ⟨env3, em3, em2⟩ := bind_some em2
      obtain ⟨b, em4, em2⟩ := bind_some em2
      obtain ⟨b, env4⟩ := b
      refine hg H0 B0 ln _ B3 H3 (wipe σ vs) (wipeE env2 vs) (s3.wipe vs) _ x _ r3 em3 _ fun σ4 s4 l4 k4 => ?_
      have l4' : σ4.length = σ.length := by rw [l4, wipe_length]
      have k4' : ∀ j, j ∉ vs → σ4[j]? = σ[j]? := fun j hj => by rw [k4 j (fun z => hj (hw j z)), wipe_at, if_neg hj]
      have le4 : env3.length = env2.length := by rw [s4.sg.len, l4', ← s2.sg.len]
      refine ⟨wipe_eq l4' k4', ht H0 B0 ln _ B3 H3 σ4 env3 s4 _ _ em4 _ fun B5 H5 e5 e6 s5 => ?_⟩
      cases b with
      | true =>
        rw [if_pos rfl]
        obtain ⟨z, em5, em6⟩ := bind_some (show (me env4).bind _ = some r from em2)
        split at em6
        · rename_i hz
          refine he H0 B0 ln _ B5 H5 σ4 env4 s5 _ _ em5 _ fun y B6 H6 e7 e8 s6 => ?_
          obtain ⟨us, g1, g2, g3, g4⟩ := Stt.mutTemp (T := [(z.1, y)]) (s6.perm (List.Perm.swap _ _ _))
          have s7 := g4 (acc ++ [z.1]) (us ++ [y]) [] (by simp [g2]) (by rw [zip_append' g2]; simp)
          refine ⟨us, g1, by rw [← g2]; exact hz, acc ++ [z.1], B6, backE env2 z.2 vs, ((e3.trans w3.b0).trans e5).trans e7, fun c u h => ?_, ?_, em6⟩
          · rw [upd_ne (ne_of_none h hD)]
            exact e8 c u (e6 c u (w3.h0 c u (e4 c u h)))
          · have le6 : z.2.length = env2.length := by rw [s6.sg.len, l4', ← s2.sg.len]
            have s8 := Stt.back s2 ((w3.b0.trans e5).trans e7) s7 le6 vs hok
            rw [restS_eq l4' k4'] at s8
            exact s8
        · cases em6
      | false =>
        rw [if_neg Bool.false_ne_true]
        refine ⟨acc, B5, backE env2 env4 vs, (e3.trans w3.b0).trans e5, fun c u h => e6 c u (w3.h0 c u (e4 c u h)), ?_, em2⟩
        have le6 : env4.length = env2.length := by rw [s5.sg.len, l4', ← s2.sg.len]
        have s8 := Stt.back s2 (w3.b0.trans e5) s5 le6 vs hok
        rw [restS_eq l4' k4'] at s8
        exact s8
    · cases em2
  · have hi' : i = ds.length := by omega
    subst hi'
    rw [List.drop_length, lcLoop] at em2
    cases em2
    exact .inl ⟨w.stop H2 e4, q _ B2 H2 (e1.trans e3) (e2.trans e4) s2⟩
def QTs (X : Cx) (ifs : List Expr) (m : EM Bool) : Prop := ∃ t, PTs X ifs t ∧ STst X.K t m
def mYes : EM Bool := fun env => some (true, env)
section
variable {X : Cx}
theorem qts_nil : QTs X [] mYes := ⟨_, pts_nil, fun H0 B0 ln Γ B H σ env s b env' em Q q => by cases em; exact q B H (Ex.refl _) (Ex.refl _) s⟩
theorem qts_one {c : Expr} {m : EM Bool} (h : QT X c m) : QTs X [c] m := by
  obtain ⟨t, h1, h2⟩ := h
  exact ⟨_, pts_one h1, h2⟩
end
end Q
set_option Elab.async false
set_option linter.all false
set_option maxRecDepth 100000
set_option maxHeartbeats 1000000
namespace Q
open PySem L2 PyProof.Rows
def tCE (K : PySem.W.Frag) (m : EM O) : TE := fun σ H Q => ∃ H0 B0 ln Γ B env o env', Stt K H0 B0 ln Γ B H σ env ∧ m env = some (o, env') ∧ ∀ v B' H', Ex B B' → Ex H H' → Stt K H0 B0 ln ((o, v) :: Γ) B' H' σ env' → Q v H'
def tCT (K : PySem.W.Frag) (m : EM Bool) : TT := fun σ H Q => ∃ H0 B0 ln Γ B env o env', Stt K H0 B0 ln Γ B H σ env ∧ m env = some (o, env') ∧ ∀ B' H', Ex B B' → Ex H H' → Stt K H0 B0 ln Γ B' H' σ env' → Q o H'
def tCG (K : PySem.W.Frag) (ws : List Nat) (gs : D → En → Option En) : TG := fun v σ H Q => ∃ H0 B0 ln Γ B env d env', Stt K H0 B0 ln Γ B H σ env ∧ Rp K B d v ∧ gs d env = some env' ∧ ∀ σ', Stt K H0 B0 ln Γ B H σ' env' → σ'.length = σ.length → (∀ j, j ∉ ws → σ'[j]? = σ[j]?) → Q σ' H
def tCI (K : PySem.W.Frag) (fz : Bool) (m : EM (List D)) : TI := fun σ H R => ∃ H0 B0 ln Γ B env ds env', Stt K H0 B0 ln Γ B H σ env ∧ m env = some (ds, env') ∧ ∀ J B' H', Ex B B' → Ex H H' → Stt K H0 B0 ln Γ B' H' σ env' → WalkD K J (fun H2 => if fz = true then Ex B' H2 else Ex H' H2) B' ds → R J H'
theorem seC {K : PySem.W.Frag} {m : EM O} : SE K (tCE K m) m := fun H0 B0 ln Γ B H σ env s o env' em Q q => ⟨H0, B0, ln, Γ, B, env, o, env', s, em, q⟩
theorem stC {K : PySem.W.Frag} {m : EM Bool} : STst K (tCT K m) m := fun H0 B0 ln Γ B H σ env s o env' em Q q => ⟨H0, B0, ln, Γ, B, env, o, env', s, em, q⟩
theorem sgC {K : PySem.W.Frag} {ws : List Nat} {gs : D → En → Option En} : SG K (tCG K ws gs) ws gs := fun H0 B0 ln Γ B H σ env s d v env' r em Q q => ⟨H0, B0, ln, Γ, B, env, d, env', s, r, em, q⟩
theorem siC {K : PySem.W.Frag} {fz : Bool} {m : EM (List D)} : SI K fz (tCI K fz m) m := fun H0 B0 ln Γ B H σ env s ds env' em R q => ⟨H0, B0, ln, Γ, B, env, ds, env', s, em, q⟩
section
variable {X : Cx} {e : Expr}
theorem QE.c {m : EM O} (h : QE X e m) : PE X e (tCE X.K m) := by
  obtain ⟨t, h1, h2⟩ := h
  exact ⟨fun pins s σ H Q I ⟨H0, B0, ln, Γ, B, env, o, env', st, em, q⟩ => h1.run pins s σ H Q I (h2 H0 B0 ln Γ B H σ env st o env' em Q q)⟩
theorem QTs.c {m : EM Bool} {ifs : List Expr} (h : QTs X ifs m) : PTs X ifs (tCT X.K m) := by
  obtain ⟨t, h1, h2⟩ := h
  exact ⟨fun pins s σ H Q I ⟨H0, B0, ln, Γ, B, env, o, env', st, em, q⟩ => h1.run pins s σ H Q I (h2 H0 B0 ln Γ B H σ env st o env' em Q q)⟩
theorem QG.c {ws : List Nat} {gs : D → En → Option En} (h : QG X e ws gs) : PG X e (tCG X.K ws gs) := by
  obtain ⟨t, h1, h2⟩ := h
  exact ⟨fun pins s σ H v u Q I r ⟨H0, B0, ln, Γ, B, env, d, env', st, rd, em, q⟩ => h1.run pins s σ H v u Q I r (h2 H0 B0 ln Γ B H σ env st d v env' rd em Q q)⟩
theorem QI.c {fz : Bool} {tg : Expr} {m : EM (List D)} (h : QI X fz tg e m) : PI X tg e (tCI X.K fz m) := by
  obtain ⟨t, h1, h2⟩ := h
  exact ⟨fun pins s σ H R I ⟨H0, B0, ln, Γ, B, env, ds, env', st, em, q⟩ => h1.run pins s σ H R I (h2 H0 B0 ln Γ B H σ env st ds env' em R q)⟩
end
section
variable {X : Cx} {elt tg iter : Expr} {ifs : List Expr} {scope : Scope} {own : List (Str × Nat)} {pos : Pos} {mi : EM (List D)} {ws : List Nat} {gs : D → En → Option En} {mt : EM Bool} {me : EM O}
theorem qe_lc (own : List (Str × Nat)) (hc : X.calm = true) (hN : X.N.Nodup) (hi : QI X false tg iter mi) (hk : blkC X.N X.env.scope scope own = true)
    (hg : ∀ (s : Shared) (H : Hp) (C : Addr) (cl : List (Str × Addr)) (fp : List Addr), QG (X.blk s H scope (compEnvC scope cl C X.env) fp) tg ws gs)
    (ht : ∀ (s : Shared) (H : Hp) (C : Addr) (cl : List (Str × Addr)) (fp : List Addr), QTs (X.blk s H scope (compEnvC scope cl C X.env) fp) ifs mt)
    (he : ∀ (s : Shared) (H : Hp) (C : Addr) (cl : List (Str × Addr)) (fp : List Addr), QE (X.blk s H scope (compEnvC scope cl C X.env) fp) elt me)
    (hw : ∀ j ∈ ws, j ∈ own.map (·.2) := by decide) (hs : ∀ x, foldedSetIterable iter X.env x = pure x := by intro _; rfl) :
    QE X (.ListComp elt [⟨tg, iter, ifs, 0⟩] scope pos) (mLc (own.map (·.2)) mi gs mt me) :=
  ⟨_, pe_lc (wi := tCI X.K false mi) (g := tCG X.K ws gs) (tt := tCT X.K mt) (te := tCE X.K me) hc hN hi.c (blkOk_by hk) (fun s H C cl fp => (hg s H C cl fp).c) (fun s H C cl fp => (ht s H C cl fp).c) (fun s H C cl fp => (he s H C cl fp).c) hs, se_lc siC sgC hw stC seC⟩
theorem qs_setLc {i : Nat} {y : Str} {py spos : Pos} (own : List (Str × Nat)) (hc : X.calm = true) (hN : X.N.Nodup) (hy : X.N[i]? = some y) (hyl : X.env.scope.names.lookup y = some .local)
    (hsw : swapsWith (.ListComp elt [⟨tg, iter, ifs, 0⟩] scope pos) (some (.Name y py)) spos.line X.env = pure true) (hi : QI X false tg iter mi) (hk : blkC X.N X.env.scope scope own = true)
    (hg : ∀ (s : Shared) (H : Hp) (C : Addr) (cl : List (Str × Addr)) (fp : List Addr), QG (X.blk s H scope (compEnvC scope cl C X.env) fp) tg ws gs)
    (ht : ∀ (s : Shared) (H : Hp) (C : Addr) (cl : List (Str × Addr)) (fp : List Addr), QTs (X.blk s H scope (compEnvC scope cl C X.env) fp) ifs mt)
    (he : ∀ (s : Shared) (H : Hp) (C : Addr) (cl : List (Str × Addr)) (fp : List Addr), QE (X.blk s H scope (compEnvC scope cl C X.env) fp) elt me)
    (hw : ∀ j ∈ ws, j ∈ own.map (·.2) := by decide) (hs : ∀ x, foldedSetIterable iter X.env x = pure x := by intro _; rfl) :
    QS X (.Assign [.Name y py] (.ListComp elt [⟨tg, iter, ifs, 0⟩] scope pos) spos) (sAsg i (mLc (own.map (·.2)) mi gs mt me)) :=
  ⟨_, ps_setLc (wi := tCI X.K false mi) (g := tCG X.K ws gs) (tt := tCT X.K mt) (te := tCE X.K me) hc hN hy hyl hsw hi.c (blkOk_by hk) (fun s H C cl fp => (hg s H C cl fp).c) (fun s H C cl fp => (ht s H C cl fp).c) (fun s H C cl fp => (he s H C cl fp).c) hs, ss_asg (se_lc siC sgC hw stC seC)⟩
end
def spM (K : PySem.W.Frag) (n : Nat) (mf : List D → Option D) : Sp := fun vs H Q _ => ∃ B ds d, Ex B H ∧ Rps K B ds vs ∧ ds.length = n ∧ mf ds = some d ∧ ∀ v B' H', Wd H B B' H' → Rp K B' d v → Q v H'
/-- the def x of the module means mf -/
structure DefOk (P : Program) (w : World) (K : PySem.W.Frag) (mg : Str → Option Value) (base : Heap) (k : Nat) (x : Str) (n : Nat) (mf : List D → Option D) : Prop where
  len : ∀ ds d, mf ds = some d → ds.length = n
  ex : ∃ (f : Addr) (fd : FuncData) (ps : List Str), FnOk P w K mg base CX0 k f fd ps (spM K n mf) ∧ mg x = some (.ref f) ∧ PySem.W.keepIn K (.ref f) = true ∧ Binds K fd ps []
section
variable {X : Cx} {k n : Nat} {x : Str} {mf : List D → Option D} {e : Expr} {es : List Expr} {mA : EM (List O)} {p pos : Pos}
theorem qe_call (G : DefOk X.prog X.w X.K X.mg X.base k x n mf) (hr : Room k X.A) (ha : QA X (e :: es) mA) (hg : Gl X x := by rfl) (hdb : (x == ("__debug__" : Str)) = false := by decide)
    (he : starEach (e :: es) X.env = (false, eval e X.env) :: starEach es X.env := by rfl) (hpl : (backTo pos (starEach es X.env)).any (·.1) = false := by rfl) : QE X (.Call (.Name x p) (e :: es) [] pos) (mCall mf mA) := by
  obtain ⟨f, fd, ps, F, hm, hk, hb⟩ := G.ex
  obtain ⟨t, h1, h2⟩ := ha
  refine ⟨_, pe_call F hr hg hm hk hb .nil pass0 h1 hdb he hpl, fun H0 B0 ln Γ B H σ env s o env' em Q q => ?_⟩
  obtain ⟨p, em1, em⟩ := bind_some em
  obtain ⟨d, em2, em⟩ := bind_some em
  cases em
  refine h2 H0 B0 ln Γ B H σ env s _ _ em1 _ fun vs B1 H1 e1 e2 hl s1 => ?_
  obtain ⟨B2, e3, r, s2⟩ := Stt.frzs hl s1
  rw [List.append_nil]
  refine ⟨B2, O.frzs p.1, d, s2.w.bh, r, G.len _ _ em2, em2, fun v B' H' w r' => ?_⟩
  exact q v B' H' ((e1.trans e3).trans w.b0) (e2.trans w.h0) ((s2.step w).push r')
def startE (N : Nat) (ds : List D) : En := ds.map (fun d => Sl.has (.fz d)) ++ List.replicate (N - ds.length) Sl.un
def outD : Out → Option D
  | .nx _ => some .non
  | .rt d => some d
  | _ => none
def runD (n N : Nat) (m : SM) (ds : List D) : Option D := if ds.length = n then (m (startE N ds)).bind outD else none
theorem roots_start {K : PySem.W.Frag} {H0 B H : Hp} : ∀ {ds : List D} {vs : List V} (r : Nat), Rps K B ds vs → Own K H0 B H [] (roots (ds.map (fun d => Sl.has (.fz d)) ++ List.replicate r Sl.un) (vs.map some ++ List.replicate r none))
  | [], vs, r, h => by
    rw [Rps] at h; subst h
    have e : ∀ r : Nat, roots (([] : List D).map (fun d => Sl.has (.fz d)) ++ List.replicate r Sl.un) (([] : List V).map some ++ List.replicate r none) = [] := by
      intro r
      induction r with
      | zero => rfl
      | succ r ih => exact ih
    rw [e r]
    exact Own.nil
  | d :: ds, vs, r, h => by
    rw [Rps] at h
    obtain ⟨v, rr, rfl, h1, h2⟩ := h
    exact (roots_start r h2).fz h1
theorem sg_start {ln : Nat → Option V} : ∀ {ds : List D} {vs : List V} (r : Nat), ds.length = vs.length → Sg ln (ds.map (fun d => Sl.has (.fz d)) ++ List.replicate r Sl.un) (vs.map some ++ List.replicate r none) := by
  intro ds vs r h
  refine ⟨by simp [h], fun i o e => ?_, fun i e => ?_, fun i a e => ?_⟩
  · by_cases hi : i < ds.length
    · have hv : i < vs.length := by omega
      exact ⟨vs[i], by rw [List.getElem?_append_left (by simpa using hv)]; simp [hv]⟩
    · rw [List.getElem?_append_right (by simpa using hi)] at e
      rw [List.getElem?_replicate] at e
      split at e <;> cases e
  · by_cases hi : i < ds.length
    · rw [List.getElem?_append_left (by simpa using hi)] at e
      rw [List.getElem?_map, List.getElem?_eq_getElem hi] at e
      cases e
    · rw [List.getElem?_append_right (by simpa using hi)] at e
      rw [List.getElem?_replicate] at e
      split at e <;> cases e
  · by_cases hi : i < ds.length
    · rw [List.getElem?_append_left (by simpa using hi)] at e
      rw [List.getElem?_map, List.getElem?_eq_getElem hi] at e
      cases e
    · rw [List.getElem?_append_right (by simpa using hi)] at e
      rw [List.getElem?_replicate] at e
      split at e <;> cases e
theorem fn_okM {P : Program} {w : World} {K : PySem.W.Frag} {mg : Str → Option Value} {base : Heap} {qual : Str} {st : Stmt} {f : Addr} {fd : FuncData} {N ps : List Str} {k : Nat} {m : SM} (F : Fun K x qual st f fd) (S : FnScope N ps (defScope st))
    (hbody : ∀ (cdv : Value) (A : Around) (outer : List Env) (s : Shared) (H : Hp) (E : XK), Room k (A.deeper (envOfC qual (defScope st) s.heap.objs.size f cdv)) → QSs (cxOf CX0 P w K mg base N qual (defScope st) f cdv A outer s H E).nox (defBody st) m) :
    FnOk P w K mg base CX0 (k + 1) f fd ps (spM K ps.length (runD ps.length N.length m)) := by
  refine F.ok S (fun vs H Q E h => ?_) (fun cdv A outer s H vs Q E hr h => ?_)
  · obtain ⟨B, ds, d, _, r, hn, _⟩ := h
    rw [← r.len]; exact hn
  · obtain ⟨B, ds, d, e, r, hn, em, q⟩ := h
    obtain ⟨t, h1, h2⟩ := hbody cdv A outer s H E hr
    refine ⟨t, h1, ?_⟩
    unfold runD at em
    rw [if_pos hn] at em
    obtain ⟨out, em1, em⟩ := bind_some em
    refine h2 H B (fun _ => none) [] B H _ (startE N.length ds) ⟨Wd.refl e, ?_, ?_⟩ out em1 _ ?_
    · unfold startE L2.start
      rw [r.len]
      exact sg_start _ r.len
    · unfold startE L2.start
      rw [r.len, List.append_nil]
      exact roots_start _ r
    · cases out with
      | nx e' => cases em; exact fun B' H' σ' e2 s' => q .non B' H' s'.w (by rw [Rp])
      | rt d' => cases em; exact fun v B' H' e2 w' r' => q v B' H' w' r'
      | bk e' => cases em
      | ct e' => cases em
theorem runD_len {n N : Nat} {m : SM} : ∀ ds d, runD n N m ds = some d → ds.length = n := fun ds d h => by
  unfold runD at h
  split at h
  · assumption
  · cases h
theorem def_ok {P : Program} {w : World} {K : PySem.W.Frag} {mg : Str → Option Value} {base : Heap} {qual : Str} {st : Stmt} {f : Addr} {fd : FuncData} {N ps : List Str} {k : Nat} {m : SM} (F : Fun K x qual st f fd) (S : FnScope N ps (defScope st)) (hm : mg x = some (.ref f)) (hb : Binds K fd ps [])
    (hbody : ∀ (cdv : Value) (A : Around) (outer : List Env) (s : Shared) (H : Hp) (E : XK), Room k (A.deeper (envOfC qual (defScope st) s.heap.objs.size f cdv)) → QSs (cxOf CX0 P w K mg base N qual (defScope st) f cdv A outer s H E).nox (defBody st) m) :
    DefOk P w K mg base (k + 1) x ps.length (runD ps.length N.length m) := ⟨runD_len, f, fd, ps, fn_okM F S hbody, hm, F.kp, hb⟩
/-- a def by another meaning -/
theorem DefOk.imp {P : Program} {w : World} {K : PySem.W.Frag} {mg : Str → Option Value} {base : Heap} {mf' : List D → Option D} (G : DefOk P w K mg base k x n mf) (h : ∀ ds d, mf' ds = some d → mf ds = some d) : DefOk P w K mg base k x n mf' := by
  obtain ⟨f, fd, ps, F, hm, hk, hb⟩ := G.ex
  exact ⟨fun ds d e => G.len ds d (h ds d e), f, fd, ps, F.imp fun vs H Q E ⟨B, ds, d, e, r, hn, em, q⟩ => ⟨B, ds, d, e, r, hn, h ds d em, q⟩, hm, hk, hb⟩
end
def spLaw (K : PySem.W.Frag) : Sp := fun vs H Q _ => ∃ (a : Addr) (ns : List Int), vs = [.ref a] ∧ SqL K H a (ns.map V.int) ∧ ns.length ≤ 63 ∧ (∀ z ∈ ns, Builtin.Int.intBits z ≤ 1048576) ∧ ∀ H', Q (.bl true) H'
theorem law_imp {P : Program} {w : World} {K : PySem.W.Frag} {mg : Str → Option Value} {base : Heap} {k : Nat} {mf : List D → Option D} {f : Addr} {fd : FuncData} {ps : List Str} (F : FnOk P w K mg base CX0 k f fd ps (spM K 1 mf))
    (h : ∀ ns : List Int, ns.length ≤ 63 → (∀ z ∈ ns, Builtin.Int.intBits z ≤ 1048576) → mf [.lst (ns.map D.int)] = some (.bl true)) : FnOk P w K mg base CX0 k f fd ps (spLaw K) := by
  refine F.imp fun vs H Q E hs => ?_
  obtain ⟨a, ns, rfl, hS, hl, hz, q⟩ := hs
  refine ⟨H, [.lst (ns.map D.int)], _, Ex.refl _, Rps.one ?_, rfl, h ns hl hz, fun v B' H' w' r => ?_⟩
  · rw [Rp]
    exact ⟨a, _, rfl, hS, rps_ints ns⟩
  · rw [Rp] at r
    subst r
    exact q H'
end Q
set_option Elab.async false
set_option linter.all false
set_option maxRecDepth 100000
set_option maxHeartbeats 1000000
namespace Q
open PySem L2 PyProof.Rows
section
variable {X : Cx} {a : Expr} {ma : EM O} {pos : Pos}
def oNeg : O → Option O
  | .fz (.int i) => some (.fz (.int (-i)))
  | _ => none
theorem qe_neg (ha : QV X a ma) : QE X (.UnaryOp .USub a pos) (m1 oNeg ma) := by
  obtain ⟨t, h1, h2⟩ := ha
  refine ⟨_, pe_un un_neg h1, fun H0 B0 ln Γ B H σ env s o env' em Q q => ?_⟩
  obtain ⟨p, em1, em⟩ := bind_some em
  obtain ⟨z, em2, em⟩ := bind_some em
  cases em
  refine h2 H0 B0 ln Γ B H σ env s _ _ em1 _ fun v B1 H1 e1 e2 s1 w => ?_
  obtain ⟨o1, env1⟩ := p
  cases o1 with
  | fz d =>
    cases d with
    | int i =>
      cases em2
      have := vw_int w
      subst this
      exact ⟨i, rfl, q _ B1 H1 e1 e2 (s1.push (by rw [Rp]))⟩
    | _ => cases em2
  | _ => cases em2
end
/-- a def that is never left: the foot of a recursion -/
theorem DefOk.zero {P : Program} {w : World} {K : PySem.W.Frag} {mg : Str → Option Value} {base : Heap} {x qual : Str} {st : Stmt} {f : Addr} {fd : FuncData} {ps : List Str} {k n : Nat} (F : Fun K x qual st f fd) (hm : mg x = some (.ref f)) (hb : Binds K fd ps []) :
    DefOk P w K mg base k x n (fun _ => none) := by
  refine ⟨fun _ _ h => (by cases h), f, fd, ps, ⟨?_, ?_⟩, hm, F.kp, hb⟩
  · rintro vs H Q E ⟨_, _, _, _, _, _, h, _⟩
    cases h
  · rintro A outer s H args us vs Q E _ _ _ _ ⟨_, _, _, _, _, _, h, _⟩
    cases h
theorem DefOk.up {P : Program} {w : World} {K : PySem.W.Frag} {mg : Str → Option Value} {base : Heap} {j k : Nat} {x : Str} {n : Nat} {mf : List D → Option D} (G : DefOk P w K mg base j x n mf) (h : j ≤ k) : DefOk P w K mg base k x n mf := by
  obtain ⟨l, f, fd, ps, F, hm, hk, hb⟩ := G
  exact ⟨l, f, fd, ps, F.mono h, hm, hk, hb⟩
end Q
set_option Elab.async false
set_option linter.all false
set_option maxRecDepth 100000
set_option maxHeartbeats 1000000
namespace Q
open PySem L2 PyProof.Rows
theorem sr_def {base : Heap} {P : Program} {A : Around} {qual : Str} {sc : Scope} {L f : Addr} {cdv : Value} {outer : List Env} {k : Nat} (G : Grd base P) (hr : Room k (A.deeper (envOfC qual sc L f cdv))) (hk : 34 ≤ k)
    (h1 : sc.isGenerator = false) (h2 : sc.isCoroutine = false) : Sr base P (A.deeper (envOfC qual sc L f cdv)) (envOfC qual sc L f cdv :: outer) :=
  ⟨G, by have := hr.dp; omega, _, _, rfl, h1, h2, rfl, rfl⟩
theorem fn_less {P : Program} {w : World} {K K2 : PySem.W.Frag} {mg : Str → Option Value} {base : Heap} {CX : CXT} {k : Nat} {f : Addr} {fd : FuncData} {ps : List Str} {sp : Sp} (F : FnOk P w K mg base CX k f fd ps sp) (h : K.In base) :
    FnOk P w K2 mg base CX k f fd ps sp :=
  ⟨F.len, fun A outer s H args us vs Q E hr e hb hv hs => F.run A outer s H args us vs Q E hr ⟨e.frames, ⟨h, e.mod.glob, e.mod.blt, e.mod.nolimit⟩, e.bs, e.bsz, e.funs, e.frf, e.hok, e.bare⟩ hb hv hs⟩
theorem at_mem : ∀ {l : List (Addr × Obj)} {a : Addr} {o : Obj}, l.lookup a = some o → (a, o) ∈ l
  | [], a, o, h => by cases h
  | (b, u) :: l, a, o, h => by
    rw [List.lookup_cons] at h
    by_cases e : a = b
    · subst e
      simp at h
      subst h
      exact List.mem_cons_self
    · have e2 : (a == b) = false := by simpa using e
      rw [e2] at h
      exact List.mem_cons_of_mem _ (at_mem h)
/-- objects that stand in the heap may be added to what is known -/
theorem more_in {K ext : PySem.W.Frag} {h : Heap} (hK : K.In h) (hx : ∀ p ∈ ext, h.get? p.1 = some p.2) : PySem.W.Frag.In (K ++ ext) h := fun a o e => by
  rw [List.lookup_append] at e
  cases hk : K.lookup a with
  | some o2 => rw [hk] at e; cases e; exact hK a _ hk
  | none =>
    rw [hk] at e
    exact hx (a, o) (at_mem (show ext.lookup a = some o from e))
theorem less_in {K ext : PySem.W.Frag} {h : Heap} (hK : PySem.W.Frag.In (K ++ ext) h) : K.In h := fun a o e => hK a o (by rw [List.lookup_append, e]; rfl)
theorem has_in {K ext : PySem.W.Frag} {h g : Heap} (hK : K.In h) (hx : ∀ p ∈ ext, h.get? p.1 = some p.2) (hg : PySem.W.Frag.In (K ++ ext) g) : ∀ p ∈ ext, g.get? p.1 = some p.2 := by
  rintro ⟨a, o⟩ hp
  have h1 := more_in hK hx
  cases e : (K ++ ext).lookup a with
  | none =>
    rw [List.lookup_append] at e
    cases hk : K.lookup a with
    | some o2 => rw [hk] at e; cases e
    | none =>
      rw [hk] at e
      exact absurd hp (fun hp => by
        have := List.lookup_eq_none_iff.mp (show ext.lookup a = none from e) (a, o) hp
        simp at this)
  | some o2 =>
    have e1 := h1 a o2 e
    rw [hx _ hp] at e1
    cases e1
    exact hg a o e
theorem NoSeer_ext {h : Heap} (hN : h.NoSeer) : ∃ ext : PySem.W.Frag, (∀ p ∈ ext, h.get? p.1 = some p.2) ∧ (∀ p ∈ ext, p.2.cls ≠ .type "list" ∨ ∃ es ep, p.2.data = .dict es ep) ∧ ∀ g : Heap, (∀ p ∈ ext, g.get? p.1 = some p.2) → g.NoSeer := by
  obtain ⟨mc, ⟨o1, es1, ep1, g1, d1, r1⟩, c1⟩ := hN.statics
  obtain ⟨mm, ⟨o2, es2, ep2, g2, d2, r2⟩, c2⟩ := hN.mods
  obtain ⟨mb, ⟨o3, es3, ep3, g3, d3, r3⟩, c3⟩ := hN.imp
  obtain ⟨mg, bm, ob, ⟨o4, es4, ep4, g4, d4, r4⟩, c4, g5, c5⟩ := hN.main
  refine ⟨[(cStatics, o1), (sysModules, o2), (builtinsNs, o3), (mainGlobals, o4), (bm, ob)], ?_, ?_, fun g hg => ?_⟩
  · intro p hp
    simp only [List.mem_cons, List.not_mem_nil, or_false] at hp
    rcases hp with rfl | rfl | rfl | rfl | rfl <;> assumption
  · intro p hp
    simp only [List.mem_cons, List.not_mem_nil, or_false] at hp
    rcases hp with rfl | rfl | rfl | rfl | rfl
    · exact .inr ⟨_, _, d1⟩
    · exact .inr ⟨_, _, d2⟩
    · exact .inr ⟨_, _, d3⟩
    · exact .inr ⟨_, _, d4⟩
    · refine .inl ?_
      rw [c5.1]
      intro z
      injection z with z
      exact absurd z (by decide)
  · have q1 := hg (cStatics, o1) (by simp)
    have q2 := hg (sysModules, o2) (by simp)
    have q3 := hg (builtinsNs, o3) (by simp)
    have q4 := hg (mainGlobals, o4) (by simp)
    have q5 := hg (bm, ob) (by simp)
    exact ⟨⟨mc, ⟨o1, es1, ep1, q1, d1, r1⟩, c1⟩, ⟨mm, ⟨o2, es2, ep2, q2, d2, r2⟩, c2⟩, ⟨mb, ⟨o3, es3, ep3, q3, d3, r3⟩, c3⟩, ⟨mg, bm, ob, ⟨o4, es4, ep4, q4, d4, r4⟩, c4, q5, c5⟩⟩
end Q
set_option Elab.async false
set_option linter.all false
set_option maxRecDepth 100000
set_option maxHeartbeats 1000000
namespace Q
open PySem L2
section
variable {d : D} {env : En} {i : Nat} {o a b : O} {x y : Int} {ma mb : EM O} {mA mB : EM (List O)} {na nb : EM Bool} {sa sb : SM}
@[simp] theorem e_mC : mC d env = some (.fz d, env) := rfl
@[simp] theorem e_mView : mView i env = match env[i]? with | some (.has o) => some (o, env) | _ => none := rfl
@[simp] theorem e_mName : mName i env = match env[i]? with | some (.has (.fz d)) => some (.fz d, env) | some (.has o) => some (.fz o.frz, env.set i (.has (.fz o.frz))) | _ => none := rfl
@[simp] theorem e_mFz : mFz ma env = match ma env with | some (.fz d, e) => some (.fz d, e) | _ => none := rfl
@[simp] theorem e_mFrz : mFrz ma env = match ma env with | some (o, e) => some (.fz o.frz, e) | none => none := rfl
@[simp] theorem e_m1 {g : O → Option O} : m1 g ma env = (ma env).bind fun p => (g p.1).bind fun z => some (z, p.2) := rfl
@[simp] theorem e_m2 {g : O → O → Option O} : m2 g ma mb env = (ma env).bind fun p => (mb p.2).bind fun q => (g p.1 q.1).bind fun z => some (z, q.2) := rfl
@[simp] theorem e_mNil : mNil env = some ([], env) := rfl
@[simp] theorem e_mCons : mCons ma mA env = (ma env).bind fun p => (mA p.2).bind fun q => some (p.1 :: q.1, q.2) := rfl
@[simp] theorem e_mL {g : List O → Option O} : mL g mA env = (mA env).bind fun p => (g p.1).bind fun z => some (z, p.2) := rfl
@[simp] theorem e_mTst : mTst ma env = (ma env).bind fun p => match p.1 with | .fz (.bl b) => some (b, p.2) | _ => none := rfl
@[simp] theorem e_mTru {g : O → Option Bool} : mTru g ma env = (ma env).bind fun p => (g p.1).bind fun z => some (z, p.2) := rfl
@[simp] theorem e_mAnd : mAnd na nb env = (na env).bind fun p => if p.1 = true then nb p.2 else some (false, p.2) := rfl
@[simp] theorem e_mOr : mOr na nb env = (na env).bind fun p => if p.1 = true then some (true, p.2) else nb p.2 := rfl
@[simp] theorem e_mNot : mNot na env = (na env).bind fun p => some (!p.1, p.2) := rfl
@[simp] theorem e_mIf : mIf na ma mb env = (na env).bind fun p => if p.1 = true then ma p.2 else mb p.2 := rfl
@[simp] theorem e_mAndV : mAndV ma mb env = (ma env).bind fun p => match p.1 with | .fz (.bl c) => if c = true then mb p.2 else some (.fz (.bl false), p.2) | _ => none := rfl
@[simp] theorem e_mOrV : mOrV ma mb env = (ma env).bind fun p => match p.1 with | .fz (.bl c) => if c = true then some (.fz (.bl true), p.2) else mb p.2 | _ => none := rfl
@[simp] theorem e_mNotV : mNotV ma env = (ma env).bind fun p => match p.1 with | .fz (.bl c) => some (.fz (.bl (!c)), p.2) | _ => none := rfl
@[simp] theorem e_mTup : mTup mA env = (mA env).bind fun p => if p.1.length ≤ sizeLine then some (.fz (.tup (O.frzs p.1)), p.2) else none := rfl
@[simp] theorem e_mLst : mLst mA env = (mA env).bind fun p => if p.1.length ≤ sizeLine then some (.ls p.1, p.2) else none := rfl
@[simp] theorem e_mCall {f : List D → Option D} : mCall f mA env = (mA env).bind fun p => (f (O.frzs p.1)).bind fun d => some (.fz d, p.2) := rfl
@[simp] theorem e_sNext : sNext env = some (.nx env) := rfl
@[simp] theorem e_sSeq : sSeq sa sb env = (sa env).bind fun out => match out with | .nx e => sb e | .rt d => some (.rt d) | .bk e => some (.bk e) | .ct e => some (.ct e) := rfl
@[simp] theorem e_sAsg : sAsg i ma env = (ma env).bind fun p => if i < p.2.length then some (.nx (p.2.set i (.has p.1))) else none := rfl
@[simp] theorem e_sAsgT {gs : D → En → Option En} : sAsgT gs ma env = (ma env).bind fun p => (gs p.1.frz p.2).bind fun e => some (.nx e) := rfl
@[simp] theorem e_sRet : sRet ma env = (ma env).bind fun p => some (.rt p.1.frz) := rfl
@[simp] theorem e_sRetN : sRetN env = some (.rt .non) := rfl
@[simp] theorem e_sIf : sIf na sa sb env = (na env).bind fun p => if p.1 = true then sa p.2 else sb p.2 := rfl
@[simp] theorem e_sBreak : sBreak env = some (.bk env) := rfl
@[simp] theorem e_sFor {mi : EM (List D)} {gs : D → En → Option En} : sFor mi gs sa env = (mi env).bind fun p => forL gs sa p.1 p.2 := rfl
@[simp] theorem e_sAug {f : Int → Int → Int} : sAug i f ma env = match env[i]? with | some (.has (.fz (.int x))) => (ma env).bind fun p => (match p.1 with | .fz (.int y) => if i < p.2.length then some (.nx (p.2.set i (.has (.fz (.int (f x y)))))) else none | _ => none) | _ => none := rfl
@[simp] theorem e_mItF : mItF ma env = (ma env).bind fun p => (p.1.frz.items).bind fun ds => some (ds, p.2) := rfl
@[simp] theorem e_mItV : mItV ma env = (ma env).bind fun p => (p.1.items).bind fun ds => some (ds, p.2) := rfl
@[simp] theorem e_mLc {vs : List Nat} {mi : EM (List D)} {gs : D → En → Option En} : mLc vs mi gs na ma env = (mi env).bind fun p => (lcLoop vs gs na ma p.1 [] p.2).bind fun q => some (.ls q.1, q.2) := rfl
@[simp] theorem e_mYes : mYes env = some (true, env) := rfl
@[simp] theorem e_gsName : gsName i d env = if i < env.length then some (env.set i (.has (.fz d))) else none := rfl
@[simp] theorem e_gsNil {ds : List D} : gsNil ds env = match ds with | [] => some env | _ => none := rfl
@[simp] theorem e_gsCons {g : D → En → Option En} {r : List D → En → Option En} {ds : List D} : gsCons g r ds env = match ds with | d :: ds => (g d env).bind fun e => r ds e | _ => none := rfl
@[simp] theorem e_gsTup {n : Nat} {r : List D → En → Option En} : gsTup n r d env = match d with | .tup ds => if ds.length = n then r ds env else none | _ => none := rfl
@[simp] theorem e_sApp : sApp i ma env = (lsAt i env).bind fun _ => (ma env).bind fun p => (lsAt i p.2).bind fun os => if os.length < sizeLine then some (.nx (p.2.set i (.has (.ls (os ++ [p.1]))))) else none := rfl
@[simp] theorem e_lsAt : lsAt i env = match env[i]? with | some (.has (.ls os)) => some os | _ => none := rfl
@[simp] theorem e_frzs0 : O.frzs [] = [] := by rw [O.frzs]
@[simp] theorem e_frzs1 {os : List O} : O.frzs (o :: os) = o.frz :: O.frzs os := by rw [O.frzs]
@[simp] theorem e_frz : (O.fz d).frz = d := by rw [O.frz]
@[simp] theorem e_frzl {os : List O} : (O.ls os).frz = .lst (O.frzs os) := by rw [O.frz]
@[simp] theorem e_frzsfz : ∀ ds : List D, O.frzs (ds.map O.fz) = ds
  | [] => by simp
  | d :: ds => by rw [List.map_cons, e_frzs1, e_frz, e_frzsfz ds]
@[simp] theorem e_add : oAdd (.fz (.int x)) (.fz (.int y)) = some (.fz (.int (x + y))) := rfl
@[simp] theorem e_addT {xs ys : List D} : oAdd (.fz (.tup xs)) (.fz (.tup ys)) = if xs.length + ys.length ≤ sizeLine then some (.fz (.tup (xs ++ ys))) else none := by
  unfold oAdd oAddI oAddT oAddS oAddL oIg
  simp [O.asL]
theorem e_addL {a b : O} {xs ys : List D} (ha : a.asL = some (xs.map .fz)) (hb : b.asL = some (ys.map .fz)) (hz : xs.length + ys.length ≤ sizeLine) (hi : oAddI a b = none := by rfl) (ht : oAddT a b = none := by rfl) (hs : oAddS a b = none := by rfl) : oAdd a b = some (.ls ((xs ++ ys).map .fz)) := by
  unfold oAdd oAddL
  rw [hi, ht, hs, ha, hb]
  simp only [Option.bind_some, List.length_map, if_pos hz, mapM_fz, Option.none_or]
@[simp] theorem e_addLL {xs ys : List D} : oAdd (.ls (xs.map .fz)) (.ls (ys.map .fz)) = if xs.length + ys.length ≤ sizeLine then some (.ls ((xs ++ ys).map .fz)) else none := by
  by_cases hz : xs.length + ys.length ≤ sizeLine
  · rw [if_pos hz, e_addL rfl rfl hz]
  · rw [if_neg hz]
    unfold oAdd oAddL
    simp [O.asL, hz, oAddI, oAddT, oAddS, oIg]
@[simp] theorem e_sub : oSub (.fz (.int x)) (.fz (.int y)) = some (.fz (.int (x - y))) := rfl
@[simp] theorem e_mul : oMul (.fz (.int x)) (.fz (.int y)) = if mulOk x y = true then some (.fz (.int (x * y))) else none := by
  unfold oMul oMulI oMulL oIg
  simp
@[simp] theorem e_fdiv : oFdiv (.fz (.int x)) (.fz (.int y)) = if y ≠ 0 then some (.fz (.int (x.fdiv y))) else none := rfl
@[simp] theorem e_mod : oMod (.fz (.int x)) (.fz (.int y)) = if y ≠ 0 then some (.fz (.int (x.fmod y))) else none := rfl
@[simp] theorem e_pow : oPow (.fz (.int x)) (.fz (.int y)) = if 0 ≤ y ∧ y ≤ 1000000 ∧ x.natAbs < 2 ^ 64 then some (.fz (.int (x ^ y.toNat))) else none := rfl
@[simp] theorem e_neg : oNeg (.fz (.int x)) = some (.fz (.int (-x))) := rfl
@[simp] theorem e_lt : oLt (.fz (.int x)) (.fz (.int y)) = some (.fz (.bl (decide (x < y)))) := rfl
@[simp] theorem e_le : oLe (.fz (.int x)) (.fz (.int y)) = some (.fz (.bl (decide (x ≤ y)))) := rfl
@[simp] theorem e_gt : oGt (.fz (.int x)) (.fz (.int y)) = some (.fz (.bl (decide (y < x)))) := rfl
@[simp] theorem e_ge : oGe (.fz (.int x)) (.fz (.int y)) = some (.fz (.bl (decide (y ≤ x)))) := rfl
@[simp] theorem e_eqI : oEq (.fz (.int x)) (.fz (.int y)) = some (.fz (.bl (x == y))) := by
  simp [oEq, oEqB, D.py, O.frz, SeqAt.shaped, PyData.canLay0, PyData.depth, PyData.eqv]
@[simp] theorem e_neI : oNe (.fz (.int x)) (.fz (.int y)) = some (.fz (.bl (!(x == y)))) := by
  simp [oNe, oEqB, D.py, O.frz, SeqAt.shaped, PyData.canLay0, PyData.depth, PyData.eqv]
@[simp] theorem e_eqR {x2 y2 : Int} : oEq (.fz (.tup [.int x, .int x2])) (.fz (.tup [.int y, .int y2])) = some (.fz (.bl (x == y && x2 == y2))) := by
  simp [oEq, oEqB, D.py, D.pys, O.frz, SeqAt.shaped, PyData.canLay0, PyData.canLayAll0, PyData.depth, PyData.depthAll, PyData.eqv, PyData.eqvAll]
@[simp] theorem e_neR {x2 y2 : Int} : oNe (.fz (.tup [.int x, .int x2])) (.fz (.tup [.int y, .int y2])) = some (.fz (.bl (!(x == y && x2 == y2)))) := by
  simp [oNe, oEqB, D.py, D.pys, O.frz, SeqAt.shaped, PyData.canLay0, PyData.canLayAll0, PyData.depth, PyData.depthAll, PyData.eqv, PyData.eqvAll]
@[simp] theorem e_is : oIs a (.fz .non) = some (.fz (.bl (isN a))) := rfl
@[simp] theorem e_isnot : oIsNot a (.fz .non) = some (.fz (.bl (!isN a))) := rfl
@[simp] theorem e_len : gLen [.fz (.tup ds)] = some (.fz (.int ds.length)) := rfl
@[simp] theorem e_lenL {ds : List D} : gLen [.fz (.lst ds)] = some (.fz (.int ds.length)) := rfl
@[simp] theorem e_lenO {os : List O} : gLen [.ls os] = some (.fz (.int os.length)) := rfl
@[simp] theorem e_gInt : gInt [.fz (.int x)] = some (.fz (.int x)) := rfl
@[simp] theorem e_gIntB {b : Bool} : gInt [.fz (.bl b)] = some (.fz (.int (if b then 1 else 0))) := rfl
@[simp] theorem e_gAbs : gAbs [.fz (.int x)] = some (.fz (.int (if x < 0 then -x else x))) := rfl
@[simp] theorem e_gMax : gMax2 [.fz (.int x), .fz (.int y)] = some (.fz (.int (if y > x then y else x))) := rfl
@[simp] theorem e_gMin : gMin2 [.fz (.int x), .fz (.int y)] = some (.fz (.int (if y < x then y else x))) := rfl
@[simp] theorem e_gGcd : gGcd [.fz (.int x), .fz (.int y)] = some (.fz (.int ((Nat.gcd x.natAbs y.natAbs : Nat) : Int))) := rfl
@[simp] theorem e_gTup {ds : List D} : gTuple [.fz (.tup ds)] = some (.fz (.tup ds)) := rfl
@[simp] theorem e_gTupL {ds : List D} : gTuple [.fz (.lst ds)] = some (.fz (.tup ds)) := by
  simp only [gTuple, O.asL, mapM_fz, Option.bind_some]
@[simp] theorem e_gTupO {ds : List D} : gTuple [.ls (ds.map .fz)] = some (.fz (.tup ds)) := by
  simp only [gTuple, O.asL, mapM_fz, Option.bind_some]
@[simp] theorem e_gLstT {ds : List D} : gList [.fz (.tup ds)] = some (.ls (ds.map .fz)) := by
  simp only [gList, O.asS, mapM_fz, Option.bind_some]
@[simp] theorem e_gLstL {ds : List D} : gList [.fz (.lst ds)] = some (.ls (ds.map .fz)) := by
  simp only [gList, O.asS, mapM_fz, Option.bind_some]
@[simp] theorem e_gLstO {ds : List D} : gList [.ls (ds.map .fz)] = some (.ls (ds.map .fz)) := by
  simp only [gList, O.asS, mapM_fz, Option.bind_some]
@[simp] theorem e_ixT {ds : List D} : oIx (.fz (.tup ds)) (.fz (.int x)) = (atI ds x).map .fz := rfl
@[simp] theorem e_ixL {ds : List D} : oIx (.fz (.lst ds)) (.fz (.int x)) = (atI ds x).map .fz := rfl
@[simp] theorem e_ixO {os : List O} : oIx (.ls os) (.fz (.int x)) = atI os x := rfl
@[simp] theorem e_at0 {α : Type} {x : α} {xs : List α} : atI (x :: xs) 0 = some x := by
  unfold atI ixN
  simp
@[simp] theorem e_at1 {α : Type} {x y : α} {xs : List α} : atI (x :: y :: xs) 1 = some y := by
  unfold atI ixN
  rw [if_pos (by omega), if_pos (by simp only [List.length_cons]; omega)]
  rfl
@[simp] theorem e_at2 {α : Type} {x y z : α} {xs : List α} : atI (x :: y :: z :: xs) 2 = some z := by
  unfold atI ixN
  rw [if_pos (by omega), if_pos (by simp only [List.length_cons]; omega)]
  rfl
theorem atI_nat' {α : Type} {xs : List α} {j : Nat} (h : j < xs.length) : atI xs (j : Int) = xs[j]? := by
  unfold atI ixN
  rw [if_pos (by omega), if_pos (by omega)]
  rfl
@[simp] theorem e_truB {b : Bool} : oTru (.fz (.bl b)) = some b := rfl
@[simp] theorem e_truI : oTru (.fz (.int x)) = some (x != 0) := rfl
@[simp] theorem e_sizeLine : sizeLine = 16777216 := sizeLine_eq
@[simp] theorem e_outrt : outD (.rt d) = some d := rfl
@[simp] theorem e_outnx : outD (.nx env) = some .non := rfl
@[simp] theorem e_isNnon : isN (.fz .non) = true := rfl
@[simp] theorem e_isNint : isN (.fz (.int x)) = false := rfl
@[simp] theorem e_isNtup {ds : List D} : isN (.fz (.tup ds)) = false := rfl
@[simp] theorem e_isNlst {ds : List D} : isN (.fz (.lst ds)) = false := rfl
@[simp] theorem e_isNbl {b : Bool} : isN (.fz (.bl b)) = false := rfl
@[simp] theorem e_isNstr {b : Str} : isN (.fz (.str b)) = false := rfl
end
theorem run_eq {n N : Nat} {m : SM} {ds : List D} (h : ds.length = n) : runD n N m ds = (m (startE N ds)).bind outD := by
  unfold runD
  rw [if_pos h]
theorem forL_inv {gs : D → En → Option En} {mb : SM} (I : Nat → En → Prop) : ∀ (ds : List D) (k : Nat) (env : En), I k env → (∀ i d env, ds[i]? = some d → I (k + i) env → ∃ e1 e2, gs d env = some e1 ∧ (mb e1 = some (.nx e2) ∨ mb e1 = some (.ct e2)) ∧ I (k + i + 1) e2) →
    ∃ env', forL gs mb ds env = some (.nx env') ∧ I (k + ds.length) env'
  | [], k, env, h, _ => ⟨env, rfl, h⟩
  | d :: ds, k, env, h, hs => by
    obtain ⟨e1, e2, h1, h2, h3⟩ := hs 0 d env rfl h
    obtain ⟨env', h4, h5⟩ := forL_inv I ds (k + 1) e2 h3 (fun i d' env he hI => by
      obtain ⟨a, b, c, d, e⟩ := hs (i + 1) d' env (by simpa using he) (by rw [← Nat.add_assoc, Nat.add_right_comm]; exact hI)
      exact ⟨a, b, c, d, by rw [show k + 1 + i + 1 = k + (i + 1) + 1 by omega]; exact e⟩)
    refine ⟨env', ?_, by rw [List.length_cons, show k + (ds.length + 1) = k + 1 + ds.length by omega]; exact h5⟩
    rw [forL, h1, Option.bind_some]
    rcases h2 with h2 | h2 <;> (rw [h2, Option.bind_some]; exact h4)
theorem for_inv {gs : D → En → Option En} {mb : SM} {ds : List D} {env : En} (I : Nat → En → Prop) (h0 : I 0 env) (hs : ∀ i d env, ds[i]? = some d → I i env → ∃ e1 e2, gs d env = some e1 ∧ (mb e1 = some (.nx e2) ∨ mb e1 = some (.ct e2)) ∧ I (i + 1) e2) :
    ∃ env', forL gs mb ds env = some (.nx env') ∧ I ds.length env' := by
  obtain ⟨e, h1, h2⟩ := forL_inv I ds 0 env h0 (fun i d env h1 h2 => by
    rw [Nat.zero_add] at h2 ⊢
    exact hs i d env h1 h2)
  exact ⟨e, h1, by rw [Nat.zero_add] at h2; exact h2⟩
theorem rangeD_get {lo : Int} {n i : Nat} {d : D} (h : (rangeD lo n)[i]? = some d) : i < n ∧ d = .int (lo + (i : Nat)) := by
  unfold rangeD at h
  rw [List.getElem?_map] at h
  obtain ⟨j, h1, h2⟩ := Option.map_eq_some_iff.mp h
  obtain ⟨h3, h4⟩ := List.getElem?_eq_some_iff.mp h1
  have h5 : i < n := by simpa using h3
  have h6 : j = i := by simpa using h4.symm
  subst h6
  exact ⟨h5, h2.symm⟩
theorem rangeD0_get {n i : Nat} {d : D} (h : (rangeD 0 n)[i]? = some d) : i < n ∧ d = .int (i : Nat) := by
  obtain ⟨h1, h2⟩ := rangeD_get h
  exact ⟨h1, by rw [h2, Int.zero_add]⟩
@[simp] theorem rangeD_len {lo : Int} {n : Nat} : (rangeD lo n).length = n := by simp [rangeD]
end Q
set_option Elab.async false
set_option linter.all false
set_option maxRecDepth 100000
set_option maxHeartbeats 1000000
namespace Q
open PySem L2
def encQ (q : Rat) : D := .tup [.int q.num, .int (q.den : Int)]
theorem encQ_inj {a b : Rat} (h : encQ a = encQ b) : a = b := by
  unfold encQ at h
  injection h with h
  injection h with h1 h2
  injection h1 with h1
  injection h2 with h2 _
  injection h2 with h2
  exact Rat.ext h1 (by exact_mod_cast h2)
/-- small enough, by powers of two -/
def Sq (n d : Nat) (q : Rat) : Prop := q.num.natAbs < 2 ^ n ∧ q.den < 2 ^ d
theorem Sq.mono {n d n' d' : Nat} {q : Rat} (h : Sq n d q) (hn : n ≤ n') (hd : d ≤ d') : Sq n' d' q :=
  ⟨Nat.lt_of_lt_of_le h.1 (Nat.pow_le_pow_right (by decide) hn), Nat.lt_of_lt_of_le h.2 (Nat.pow_le_pow_right (by decide) hd)⟩
theorem intBits_lt {x : Int} {k : Nat} (h : x.natAbs < 2 ^ k) : Builtin.Int.intBits x ≤ k := by
  unfold Builtin.Int.intBits
  split
  · exact Nat.zero_le _
  · rename_i hx
    have hx' : x.natAbs ≠ 0 := by
      intro e
      exact hx (by simpa using e)
    have := (Nat.log2_lt hx').mpr h
    omega
theorem mul_ok {x y : Int} {j k : Nat} (hx : x.natAbs < 2 ^ j) (hy : y.natAbs < 2 ^ k) (h : j + k ≤ 134217728) : mulOk x y = true := by
  unfold mulOk
  have h1 := intBits_lt hx
  have h2 := intBits_lt hy
  simp only [Bool.or_eq_true, decide_eq_true_eq]
  right
  omega
theorem mul_okL {x y : Int} (hx : x.natAbs < 2 ^ 64) : mulOk x y = true := by
  unfold mulOk
  have h1 := intBits_lt hx
  simp [h1]
theorem mul_okR {x y : Int} (hx : y.natAbs < 2 ^ 64) : mulOk x y = true := by
  unfold mulOk
  have h1 := intBits_lt hx
  simp [h1]
theorem natAbs_mul_lt {x y : Int} {j k : Nat} (hx : x.natAbs < 2 ^ j) (hy : y.natAbs < 2 ^ k) : (x * y).natAbs < 2 ^ (j + k) := by
  rw [Int.natAbs_mul, Nat.pow_add]
  exact Nat.mul_lt_mul'' hx hy
theorem natAbs_add_lt {x y : Int} {k : Nat} (hx : x.natAbs < 2 ^ k) (hy : y.natAbs < 2 ^ k) : (x + y).natAbs < 2 ^ (k + 1) := by
  rw [Nat.pow_succ]
  omega
theorem natAbs_sub_lt {x y : Int} {k : Nat} (hx : x.natAbs < 2 ^ k) (hy : y.natAbs < 2 ^ k) : (x - y).natAbs < 2 ^ (k + 1) := by
  rw [Nat.pow_succ]
  omega
/-- a divisor that stock divides by without more ado -/
def Dv (y : Int) : Prop := y.natAbs < 2 ^ 9000
theorem Dv.of {y : Int} {k : Nat} (h : y.natAbs < 2 ^ k) (hk : k ≤ 9000) : Dv y := Nat.lt_of_lt_of_le h (Nat.pow_le_pow_right (by decide) hk)
theorem Dv.le {y z : Int} (h : Dv y) (hk : z.natAbs ≤ y.natAbs) : Dv z := Nat.lt_of_le_of_lt hk h
/-- n, d without their common divisor are the ratio's parts -/
theorem divInt_parts_pos (n : Int) {d : Int} (h : 0 < d) : (Rat.divInt n d).num = n.fdiv ((Nat.gcd n.natAbs d.natAbs : Nat) : Int) ∧ ((Rat.divInt n d).den : Int) = d.fdiv ((Nat.gcd n.natAbs d.natAbs : Nat) : Int) := by
  have hg : Int.gcd d n = Nat.gcd n.natAbs d.natAbs := by
    show Nat.gcd d.natAbs n.natAbs = _
    exact Nat.gcd_comm _ _
  constructor
  · rw [Rat.num_divInt, hg, Int.sign_eq_one_of_pos h, Int.one_mul, Int.fdiv_eq_ediv_of_nonneg _ (by omega)]
  · rw [Rat.den_divInt, if_neg (by omega), hg, Int.fdiv_eq_ediv_of_nonneg _ (by omega), Int.natCast_ediv]
    rw [Int.natAbs_of_nonneg (by omega)]
theorem divInt_parts_neg (n : Int) {d : Int} (h : d < 0) : (Rat.divInt n d).num = n.fdiv (-((Nat.gcd n.natAbs d.natAbs : Nat) : Int)) ∧ ((Rat.divInt n d).den : Int) = d.fdiv (-((Nat.gcd n.natAbs d.natAbs : Nat) : Int)) := by
  have h1 := divInt_parts_pos (-n) (d := -d) (by omega)
  rw [Int.natAbs_neg, Int.natAbs_neg] at h1
  have e : Rat.divInt (-n) (-d) = Rat.divInt n d := Rat.neg_divInt_neg n d
  rw [e] at h1
  have hf : ∀ a b : Int, (-a).fdiv b = a.fdiv (-b) := fun a b => by
    have := Int.neg_fdiv_neg a (-b)
    rw [Int.neg_neg] at this
    exact this
  rw [hf, hf] at h1
  exact h1
theorem sq_divInt {n d : Int} {j k : Nat} (hn : n.natAbs < 2 ^ j) (hd : d.natAbs < 2 ^ k) (h0 : d ≠ 0) : Sq j k (Rat.divInt n d) := by
  constructor
  · rw [Rat.num_divInt]
    refine Nat.lt_of_le_of_lt (Nat.le_trans (Int.natAbs_ediv_le_natAbs _ _) ?_) hn
    rw [Int.natAbs_mul, Int.natAbs_sign, if_neg h0, Nat.one_mul]
    exact Nat.le_refl _
  · rw [Rat.den_divInt, if_neg h0]
    exact Nat.lt_of_le_of_lt (Nat.div_le_self _ _) hd
theorem den_ne (q : Rat) : (q.den : Int) ≠ 0 := by
  have := q.den_nz
  omega
theorem den_pos' (q : Rat) : (0 : Int) < (q.den : Int) := by
  have := q.den_nz
  omega
theorem add_divInt (a b : Rat) : Rat.divInt (a.num * b.den + b.num * a.den) (a.den * b.den) = a + b := by
  rw [← Rat.divInt_add_divInt _ _ (den_ne a) (den_ne b), Rat.num_divInt_den, Rat.num_divInt_den]
theorem sub_divInt (a b : Rat) : Rat.divInt (a.num * b.den - b.num * a.den) (a.den * b.den) = a - b := by
  rw [← Rat.divInt_sub_divInt _ _ (den_ne a) (den_ne b), Rat.num_divInt_den, Rat.num_divInt_den]
theorem mul_divInt (a b : Rat) : Rat.divInt (a.num * b.num) (a.den * b.den) = a * b := by
  rw [← Rat.divInt_mul_divInt, Rat.num_divInt_den, Rat.num_divInt_den]
theorem div_divInt (a b : Rat) : Rat.divInt (a.num * b.den) (a.den * b.num) = a / b := by
  rw [← Rat.divInt_mul_divInt, Rat.num_divInt_den, ← Rat.inv_def, Rat.div_def]
theorem pow_up {x j k : Nat} (h : x < 2 ^ j) (hk : j ≤ k) : x < 2 ^ k := Nat.lt_of_lt_of_le h (Nat.pow_le_pow_right (by decide) hk)
theorem den_abs {q : Rat} {k : Nat} (h : q.den < 2 ^ k) : ((q.den : Int)).natAbs < 2 ^ k := by simpa using h
variable {n1 d1 n2 d2 : Nat} {a b : Rat}
theorem sq_add (ha : Sq n1 d1 a) (hb : Sq n2 d2 b) : Sq (max (n1 + d2) (n2 + d1) + 1) (d1 + d2) (a + b) := by
  rw [← add_divInt]
  exact sq_divInt (natAbs_add_lt (pow_up (natAbs_mul_lt ha.1 (den_abs hb.2)) (by omega)) (pow_up (natAbs_mul_lt hb.1 (den_abs ha.2)) (by omega))) (natAbs_mul_lt (den_abs ha.2) (den_abs hb.2)) (Int.mul_ne_zero (den_ne a) (den_ne b))
theorem sq_sub (ha : Sq n1 d1 a) (hb : Sq n2 d2 b) : Sq (max (n1 + d2) (n2 + d1) + 1) (d1 + d2) (a - b) := by
  rw [← sub_divInt]
  exact sq_divInt (natAbs_sub_lt (pow_up (natAbs_mul_lt ha.1 (den_abs hb.2)) (by omega)) (pow_up (natAbs_mul_lt hb.1 (den_abs ha.2)) (by omega))) (natAbs_mul_lt (den_abs ha.2) (den_abs hb.2)) (Int.mul_ne_zero (den_ne a) (den_ne b))
theorem sq_mul (ha : Sq n1 d1 a) (hb : Sq n2 d2 b) : Sq (n1 + n2) (d1 + d2) (a * b) := by
  rw [← mul_divInt]
  exact sq_divInt (natAbs_mul_lt ha.1 hb.1) (natAbs_mul_lt (den_abs ha.2) (den_abs hb.2)) (Int.mul_ne_zero (den_ne a) (den_ne b))
theorem num_ne {b : Rat} (h : b ≠ 0) : b.num ≠ 0 := fun e => h (Rat.num_eq_zero.mp e)
theorem divInt_div (x y : Int) : Rat.divInt x y = (x : Rat) / (y : Rat) := by
  rw [← div_divInt, Rat.num_intCast, Rat.den_intCast, Rat.num_intCast, Rat.den_intCast]
  simp
theorem divInt_nonneg {x y : Int} (hx : 0 ≤ x) (hy : 0 < y) : 0 ≤ Rat.divInt x y := by
  rw [Rat.le_iff]
  have h1 : 0 ≤ (Rat.divInt x y).num := by
    rw [Rat.num_divInt, Int.sign_eq_one_of_pos hy, Int.one_mul]
    exact Int.ediv_nonneg hx (by omega)
  simpa using h1
theorem divInt_lt_one {x y : Int} (hy : 0 < y) (h : x < y) : Rat.divInt x y < 1 := by
  have hy' : (0 : Rat) < (y : Rat) := by exact_mod_cast hy
  have hx' : (x : Rat) < (y : Rat) := by exact_mod_cast h
  rw [divInt_div]
  refine Rat.not_le.mp fun hle => ?_
  have h2 := Rat.mul_le_mul_of_nonneg_right hle (Rat.le_of_lt hy')
  have e : (x : Rat) / (y : Rat) * (y : Rat) = (x : Rat) := by
    have : (y : Rat) ≠ 0 := by grind
    grind
  rw [e, Rat.one_mul] at h2
  exact absurd hx' (Rat.not_lt.mpr h2)
/-- a ratio spelled out -/
theorem encQ_of {q : Rat} {n d : Int} (h1 : q.num = n) (h2 : (q.den : Int) = d) : encQ q = .tup [.int n, .int d] := by
  unfold encQ
  rw [h1, h2]
theorem encQ_one : encQ 1 = .tup [.int 1, .int 1] := encQ_of rfl rfl
theorem encQ_zero : encQ 0 = .tup [.int 0, .int 1] := encQ_of rfl rfl
/-- gcd, by steps -/
theorem gcd_step (a b : Nat) : Nat.gcd a b = Nat.gcd b (a % b) := by
  rw [Nat.gcd_comm a b, Nat.gcd_rec b a, Nat.gcd_comm]
end Q
set_option Elab.async false
set_option linter.all false
set_option maxRecDepth 100000
set_option maxHeartbeats 1000000
namespace Q
open PySem L2
mutual
def D.dep : D → Nat
  | .tup ds => D.deps ds + 1
  | .lst ds => D.deps ds + 1
  | _ => 0
def D.deps : List D → Nat
  | [] => 0
  | d :: ds => max d.dep (D.deps ds)
end
@[simp] theorem e_eqB {x y : Bool} : oEq (.fz (.bl x)) (.fz (.bl y)) = some (.fz (.bl (x == y))) := by
  simp -implicitDefEqProofs [oEq, oEqB, D.py, O.frz, SeqAt.shaped, PyData.canLay0, PyData.depth, PyData.eqv]
@[simp] theorem e_all {bs : List Bool} : gAll [.ls (bs.map fun b => .fz (.bl b))] = some (.fz (.bl (bs.all id))) := by
  have e : (bs.map fun b => O.fz (.bl b)) = (bs.map D.bl).map O.fz := by rw [List.map_map]; rfl
  rw [e]
  show gLB _ _ = _
  simp only [gLB, O.asL, mapM_fz, mapM_bl, Option.bind_some]
def cellZ (ns : List Int) (k : Nat) : Int := (ns[k]?).getD (5 * (k : Int) + 3)
end Q
set_option Elab.async false
set_option linter.all false
set_option maxRecDepth 100000
set_option maxHeartbeats 1000000
namespace Q
open PySem L2 PyProof.Rows
section
variable {X : Cx} {K : PySem.W.Frag} {a e : Expr} {lo hi : Option Expr} {ma : EM O} {ml mh : EM (Option Int)} {pos p2 : Pos}
def SO (K : PySem.W.Frag) (t : TO) (m : EM (Option Int)) : Prop :=
  ∀ (H0 B0 : Hp) (ln : Nat → Option V) (Γ : List (O × V)) (B H : Hp) (σ : L2.St) (env : En), Stt K H0 B0 ln Γ B H σ env → ∀ o env', m env = some (o, env') → ∀ Q : Option Int → Hp → Prop,
    (∀ B' H', Ex B B' → Ex H H' → Stt K H0 B0 ln Γ B' H' σ env' → Q o H') → t σ H Q
def QO (X : Cx) (e : Option Expr) (m : EM (Option Int)) : Prop := ∃ t, PO X e t ∧ SO X.K t m
def mONone : EM (Option Int) := fun env => some (none, env)
def iOf : O → Option Int
  | .fz (.int i) => some i
  | _ => none
def mOSome (ma : EM O) : EM (Option Int) := fun env => (ma env).bind fun p => (iOf p.1).bind fun i => some (some i, p.2)
theorem qo_none : QO X none mONone := ⟨_, po_none, fun H0 B0 ln Γ B H σ env s o env' em Q q => by
  cases em
  exact q B H (Ex.refl _) (Ex.refl _) s⟩
theorem qo_some (ha : QV X e ma) : QO X (some e) (mOSome ma) := by
  obtain ⟨t, h1, h2⟩ := ha
  refine ⟨_, po_some h1, fun H0 B0 ln Γ B H σ env s o env' em Q q => ?_⟩
  obtain ⟨p, em1, em⟩ := bind_some em
  obtain ⟨i, em2, em⟩ := bind_some em
  cases em
  refine h2 H0 B0 ln Γ B H σ env s _ _ em1 _ fun v B1 H1 e1 e2 s1 w1 => ?_
  obtain ⟨o1, e1'⟩ := p
  unfold iOf at em2
  dsimp only at em2 w1
  split at em2
  · cases em2
    exact ⟨_, vw_int w1, q B1 H1 e1 e2 s1⟩
  · cases em2
def cut {α : Type} (xs : List α) (lo hi : Option Int) : List α := (xs.drop (HT.sIx xs.length 0 lo)).take (HT.sIx xs.length xs.length hi - HT.sIx xs.length 0 lo)
def oSlice (lo hi : Option Int) : O → Option O
  | .fz (.str z) => if z.length ≤ sizeLine then some (.fz (.str (cutS z lo hi))) else none
  | .fz (.tup ds) => some (.fz (.tup (cut ds lo hi)))
  | o => (o.asL).bind fun os => (os.mapM O.d?).bind fun ds => some (.ls ((cut ds lo hi).map .fz))
def mSlice (ma : EM O) (ml mh : EM (Option Int)) : EM O := fun env => (ma env).bind fun p => (ml p.2).bind fun l => (mh l.2).bind fun h => (oSlice l.1 h.1 p.1).bind fun o => some (o, h.2)
theorem Rps.cut {B : Hp} {ds : List D} {vs : List V} (lo hi : Option Int) (h : Rps K B ds vs) : Rps K B (cut ds lo hi) (cutV vs lo hi) := by
  unfold Q.cut cutV
  rw [← h.len]
  exact (h.drop _).take _
theorem cut_all {α : Type} {xs : List α} {lo hi : Option Int} (h : HT.sIx xs.length 0 lo = 0 ∧ HT.sIx xs.length xs.length hi = xs.length) : cut xs lo hi = xs := by
  unfold cut
  rw [h.1, h.2, List.drop_zero, Nat.sub_zero, List.take_length]
theorem qe_slice (ha : QV X a ma) (hl : QO X lo ml) (hh : QO X hi mh) : QE X (.Subscript a (.Slice lo hi none p2) pos) (mSlice ma ml mh) := by
  obtain ⟨t, h1, h2⟩ := ha
  obtain ⟨u, h3, h4⟩ := hl
  obtain ⟨u', h5, h6⟩ := hh
  refine ⟨_, pe_slice (sl_list.or (sl_tupA.or sl_str)) h1 h3 h5, fun H0 B0 ln Γ B H σ env s o env' em Q q => ?_⟩
  obtain ⟨p, em1, em⟩ := bind_some em
  obtain ⟨l, em2, em⟩ := bind_some em
  obtain ⟨h, em3, em⟩ := bind_some em
  obtain ⟨z, em4, em⟩ := bind_some em
  cases em
  refine h2 H0 B0 ln Γ B H σ env s _ _ em1 _ fun v B1 H1 e1 e2 s1 w1 => ?_
  refine h4 H0 B0 ln Γ B1 H1 σ _ s1 _ _ em2 _ fun B2 H2 e3 e4 s2 => ?_
  refine h6 H0 B0 ln Γ B2 H2 σ _ s2 _ _ em3 _ fun B3 H3 e5 e6 s3 => ?_
  have w1 := Vw.mono (e3.trans e5) (e4.trans e6) _ _ w1
  have fin : ∀ v' B' H', Ex B3 B' → Ex H3 H' → Stt X.K H0 B0 ln ((_, v') :: Γ) B' H' σ h.2 → Q v' H' := fun v' B' H' e7 e8 s4 => q v' B' H' (((e1.trans e3).trans e5).trans e7) (((e2.trans e4).trans e6).trans e8) s4
  unfold oSlice at em4
  split at em4
  · rename_i z' ee
    split at em4
    · rename_i hz
      cases em4
      rw [ee] at w1
      exact .inr (.inr ⟨_, vw_str w1, hz, fin _ B3 H3 (Ex.refl _) (Ex.refl _) (s3.push (by rw [Rp]))⟩)
    · cases em4
  · rename_i ds ee
    cases em4
    rw [ee] at w1
    obtain ⟨b, vs, rfl, g1, g1', g2⟩ := asT_ok s3.w.bh w1 rfl
    refine .inr (.inl ⟨b, vs, rfl, g1, fun hw => ?_, fun hw p hp => ?_⟩)
    · rw [← g2.len] at hw
      rw [cut_all hw] at fin
      exact fin _ B3 H3 (Ex.refl _) (Ex.refl _) (s3.push (by rw [Rp]; exact ⟨b, vs, rfl, g1', g2⟩))
    · obtain ⟨e7, e8, s'⟩ := s3.newTup (g2.cut l.1 h.1) hp
      exact fin _ _ _ e7 e8 s'
  · rename_i o1 _ _
    obtain ⟨os, em5, em4⟩ := bind_some em4
    obtain ⟨ds, em6, em4⟩ := bind_some em4
    cases em4
    obtain ⟨b, vs, rfl, g1, g2⟩ := asL_ok s3.w.bh w1 em5
    refine .inl ⟨b, vs, rfl, g1, fun p hp => ?_⟩
    obtain ⟨e7, s'⟩ := s3.newLstD ((g2.dat em6).cut l.1 h.1) hp
    exact fin _ _ _ (Ex.refl _) e7 s'
end
def CstOk (K : PySem.W.Frag) (mg : Str → Option Value) (x : Str) (d : D) : Prop := ∃ (v : Value) (u : V), mg x = some v ∧ RelV u v ∧ ∀ B, Rp K B d u
theorem qe_cst {X : Cx} {x : Str} {pos : Pos} {d : D} (hg : Gl X x) (h : CstOk X.K X.mg x d) (hd : (x == ("__debug__" : Str)) = false := by decide) : QE X (.Name x pos) (mC d) := by
  obtain ⟨v, u, h1, h2, h3⟩ := h
  refine ⟨_, pe_glob hg h1 h2 hd, fun H0 B0 ln Γ B H σ env s o env' em Q q => ?_⟩
  cases em
  exact q _ B H (Ex.refl _) (Ex.refl _) (s.push (h3 B))
def intsIn : List Value → Option (List Int)
  | [] => some []
  | .int i _ :: vs => (intsIn vs).bind fun is => some (i :: is)
  | _ => none
theorem intsIn_ok {K : PySem.W.Frag} {B : Hp} : ∀ {vs : List Value} {is : List Int}, intsIn vs = some is → Vals (is.map V.int) vs ∧ Rps K B (is.map D.int) (is.map V.int) := by
  intro vs is h
  refine ⟨?_, rps_ints is⟩
  induction vs generalizing is with
  | nil => cases h; exact .nil
  | cons v vs ih =>
    cases v with
    | int i t =>
      obtain ⟨js, e1, e2⟩ := bind_some (show (intsIn vs).bind _ = _ from h)
      cases e2
      exact .cons ⟨t, rfl⟩ (ih e1)
    | _ => cases h
theorem cst_tup {K : PySem.W.Frag} {mg : Str → Option Value} {x : Str} {a : Addr} {od : Option Addr} {its : Array Value} {n : Nat} {sl : Array (Option Value)} {is : List Int} (h : mg x = some (.ref a))
    (l : K.lookup a = some ⟨.type "tuple", od, .seq its n, sl⟩) (hi : intsIn its.toList = some is) (hz : its.size ≤ sizeLine) : CstOk K mg x (.tup (is.map D.int)) :=
  ⟨.ref a, .ref a, h, rfl, fun B => by
    rw [Rp]
    exact ⟨a, is.map V.int, rfl, .inr ⟨_, its, n, l, rfl, rfl, hz, (intsIn_ok (K := K) (B := B) hi).1⟩, (intsIn_ok hi).2⟩⟩
section
variable {env : En} {ma : EM O} {ml mh : EM (Option Int)} {i : Int} {lo hi : Option Int}
@[simp] theorem e_mONone : mONone env = some (none, env) := rfl
@[simp] theorem e_mOSome : mOSome ma env = (ma env).bind fun p => (iOf p.1).bind fun i => some (some i, p.2) := rfl
@[simp] theorem e_iOf : iOf (.fz (.int i)) = some i := rfl
@[simp] theorem e_mSlice : mSlice ma ml mh env = (ma env).bind fun p => (ml p.2).bind fun l => (mh l.2).bind fun h => (oSlice l.1 h.1 p.1).bind fun o => some (o, h.2) := rfl
@[simp] theorem e_sliceT {ds : List D} : oSlice lo hi (.fz (.tup ds)) = some (.fz (.tup (cut ds lo hi))) := rfl
@[simp] theorem e_sliceL {ds : List D} : oSlice lo hi (.fz (.lst ds)) = some (.ls ((cut ds lo hi).map .fz)) := by
  simp only [oSlice, O.asL, Option.bind_some, mapM_fz]
@[simp] theorem e_sliceO {ds : List D} : oSlice lo hi (.ls (ds.map .fz)) = some (.ls ((cut ds lo hi).map .fz)) := by
  simp only [oSlice, O.asL, Option.bind_some, mapM_fz]
theorem cut_from {α : Type} {xs : List α} {k : Nat} : cut xs (some (k : Int)) none = xs.drop k := by
  unfold cut
  rw [HT.sIx_nat, HT.sIx_none]
  by_cases h : k ≤ xs.length
  · rw [Nat.min_eq_left h]
    rw [List.take_of_length_le]
    rw [List.length_drop]; exact Nat.le_refl _
  · rw [Nat.min_eq_right (by omega), List.drop_length, List.drop_eq_nil_of_le (by omega), List.take_nil]
theorem cut_to {α : Type} {xs : List α} {k : Nat} : cut xs none (some (k : Int)) = xs.take k := by
  unfold cut
  rw [HT.sIx_nat, HT.sIx_none, List.drop_zero, Nat.sub_zero]
  by_cases h : k ≤ xs.length
  · rw [Nat.min_eq_left h]
  · rw [Nat.min_eq_right (by omega), List.take_of_length_le (by omega), List.take_of_length_le (by omega)]
end
end Q
set_option Elab.async false
set_option linter.all false
set_option maxRecDepth 100000
set_option maxHeartbeats 1000000
namespace Q
open PySem L2
def sz (q : Rat) : Nat := Nat.log2 (max q.num.natAbs q.den) + 1
theorem lt_log2 (x : Nat) : x < 2 ^ (Nat.log2 x + 1) := by
  by_cases h : x = 0
  · subst h; decide
  · exact (Nat.log2_lt h).mp (Nat.lt_succ_self _)
theorem sq_sz (q : Rat) : Sq (sz q) (sz q) q := by
  have h := lt_log2 (max q.num.natAbs q.den)
  exact ⟨Nat.lt_of_le_of_lt (Nat.le_max_left _ _) h, Nat.lt_of_le_of_lt (Nat.le_max_right _ _) h⟩
theorem sz_le {q : Rat} {k : Nat} (h : Sq k k q) : sz q ≤ k := by
  have h0 : max q.num.natAbs q.den ≠ 0 := by
    have := q.den_nz
    omega
  have : max q.num.natAbs q.den < 2 ^ k := by
    have h1 := h.1
    have h2 := h.2
    omega
  have := (Nat.log2_lt h0).mpr this
  unfold sz
  omega
theorem sz_add (a b : Rat) : sz (a + b) ≤ sz a + sz b + 1 := by
  refine sz_le ((sq_add (sq_sz a) (sq_sz b)).mono ?_ ?_) <;> omega
theorem sz_sub (a b : Rat) : sz (a - b) ≤ sz a + sz b + 1 := by
  refine sz_le ((sq_sub (sq_sz a) (sq_sz b)).mono ?_ ?_) <;> omega
theorem sz_mul (a b : Rat) : sz (a * b) ≤ sz a + sz b := sz_le (sq_mul (sq_sz a) (sq_sz b))
theorem sz_zero : sz 0 = 1 := by decide +kernel
theorem sz_one : sz 1 = 1 := by decide +kernel
theorem sz_divInt {n d : Int} {k : Nat} (hn : n.natAbs < 2 ^ k) (hd : d.natAbs < 2 ^ k) (hk : 1 ≤ k) : sz (Rat.divInt n d) ≤ k := by
  by_cases h0 : d = 0
  · subst h0
    rw [Rat.divInt_zero, sz_zero]
    exact hk
  · exact sz_le (sq_divInt hn hd h0)
theorem num_sz {q : Rat} {k : Nat} (h : sz q ≤ k) : q.num.natAbs < 2 ^ k := pow_up (sq_sz q).1 h
theorem den_sz {q : Rat} {k : Nat} (h : sz q ≤ k) : ((q.den : Int)).natAbs < 2 ^ k := den_abs (pow_up (sq_sz q).2 h)
theorem oks {a b : Rat} (h : sz a + sz b ≤ 134217728) : mulOk a.num b.den = true ∧ mulOk b.num a.den = true ∧ mulOk (a.den : Int) b.den = true ∧ mulOk a.num b.num = true ∧ mulOk (a.den : Int) b.num = true :=
  ⟨mul_ok (sq_sz a).1 (den_abs (sq_sz b).2) h, mul_ok (sq_sz b).1 (den_abs (sq_sz a).2) (by omega), mul_ok (den_abs (sq_sz a).2) (den_abs (sq_sz b).2) h, mul_ok (sq_sz a).1 (sq_sz b).1 h, mul_ok (den_abs (sq_sz a).2) (sq_sz b).1 h⟩
def szs (qs : List Rat) : Nat := (qs.map fun q => sz q + 1).sum
theorem szs_cons (q : Rat) (qs : List Rat) : szs (q :: qs) = sz q + 1 + szs qs := by simp [szs]
theorem szs_le {qs : List Rat} {k : Nat} (h : ∀ q ∈ qs, sz q ≤ k) : szs qs ≤ qs.length * (k + 1) := by
  induction qs with
  | nil => simp [szs]
  | cons q qs ih =>
    rw [szs_cons, List.length_cons, Nat.add_mul]
    have := ih fun x hx => h x (by simp [hx])
    have := h q (by simp)
    omega
/-- the sum of a row, from r on -/
def sumQ (r : Rat) (qs : List Rat) : Rat := qs.foldl (fun a b => a + b) r
theorem sumQ_cons (r q : Rat) (qs : List Rat) : sumQ r (q :: qs) = sumQ (r + q) qs := rfl
theorem sumQ_nil (r : Rat) : sumQ r [] = r := rfl
@[simp] theorem e_itT {ds : List D} : D.items (.tup ds) = some ds := rfl
@[simp] theorem e_itL {ds : List D} : D.items (.lst ds) = some ds := rfl
theorem for_fold {T S α : Type} {gs : D → En → Option En} {mb : SM} (E : T → S → En) (g : α → D) (f : S → α → S) (I : S → List α → Prop)
    (step : ∀ s x xs t, I s (x :: xs) → ∃ e1 t', gs (g x) (E t s) = some e1 ∧ (mb e1 = some (.nx (E t' (f s x))) ∨ mb e1 = some (.ct (E t' (f s x)))) ∧ I (f s x) xs) :
    ∀ (xs : List α) (s : S) (t : T), I s xs → ∃ t', forL gs mb (xs.map g) (E t s) = some (.nx (E t' (xs.foldl f s)))
  | [], s, t, _ => ⟨t, rfl⟩
  | x :: xs, s, t, h => by
    obtain ⟨e1, t', h1, h2, h3⟩ := step s x xs t h
    obtain ⟨t2, h4⟩ := for_fold E g f I step xs (f s x) t' h3
    refine ⟨t2, ?_⟩
    rw [List.map_cons, forL, h1, Option.bind_some]
    rcases h2 with h2 | h2 <;> (rw [h2, Option.bind_some]; exact h4)
theorem lc_mapx {α : Type} {vs : List Nat} {gs : D → En → Option En} {me : EM O} {env : En} (h : α → D) (g : α → O) : ∀ (xs : List α) (acc : List O), okE env vs = true → acc.length + xs.length ≤ sizeLine → (∀ x ∈ xs, ∃ e1 e2, gs (h x) (wipeE env vs) = some e1 ∧ me e1 = some (g x, e2) ∧ backE env e2 vs = env) →
    lcLoop vs gs mYes me (xs.map h) acc env = some (acc ++ xs.map g, env)
  | [], acc, _, _, _ => by simp [lcLoop]
  | d :: ds, acc, h0, hz, hs => by
    obtain ⟨e1, e2, h1, h2, h3⟩ := hs d (by simp)
    have hl : acc.length < sizeLine := by rw [List.length_cons] at hz; omega
    rw [List.map_cons, lcLoop, if_pos h0, h1, Option.bind_some, e_mYes, Option.bind_some]
    show (if true = true then (me e1).bind _ else _) = _
    rw [if_pos rfl, h2, Option.bind_some, if_pos hl, h3, lc_mapx h g ds _ h0 (by rw [List.length_append, List.length_singleton]; rw [List.length_cons] at hz; omega) (fun d' hd => hs d' (by simp [hd]))]
    simp
theorem lc_filterx {α : Type} {vs : List Nat} {gs : D → En → Option En} {mt : EM Bool} {me : EM O} {env : En} (h : α → D) (p : α → Bool) (g : α → O) : ∀ (xs : List α) (acc : List O), okE env vs = true → acc.length + xs.length ≤ sizeLine →
    (∀ x ∈ xs, ∃ e1 e2, gs (h x) (wipeE env vs) = some e1 ∧ mt e1 = some (p x, e2) ∧ (p x = true → ∃ e3, me e2 = some (g x, e3) ∧ backE env e3 vs = env) ∧ (p x = false → backE env e2 vs = env)) →
    lcLoop vs gs mt me (xs.map h) acc env = some (acc ++ (xs.filter p).map g, env)
  | [], acc, _, _, _ => by simp [lcLoop]
  | d :: ds, acc, h0, hz, hs => by
    obtain ⟨e1, e2, h1, h2, h3, h4⟩ := hs d (by simp)
    have hl : acc.length < sizeLine := by rw [List.length_cons] at hz; omega
    rw [List.map_cons, lcLoop, if_pos h0, h1, Option.bind_some, h2, Option.bind_some]
    cases hp : p d with
    | true =>
      obtain ⟨e3, h5, h6⟩ := h3 hp
      dsimp only
      rw [if_pos rfl, h5, Option.bind_some, if_pos hl, h6, lc_filterx h p g ds _ h0 (by rw [List.length_append, List.length_singleton]; rw [List.length_cons] at hz; omega) (fun d' hd => hs d' (by simp [hd]))]
      simp [hp]
    | false =>
      dsimp only
      rw [if_neg Bool.false_ne_true, h4 hp, lc_filterx h p g ds _ h0 (by rw [List.length_cons] at hz; omega) (fun d' hd => hs d' (by simp [hd]))]
      simp [hp]
@[simp] theorem e_any {bs : List Bool} : gAny [.ls (bs.map fun b => .fz (.bl b))] = some (.fz (.bl (bs.any id))) := by
  have e : (bs.map fun b => O.fz (.bl b)) = (bs.map D.bl).map O.fz := by rw [List.map_map]; rfl
  rw [e]
  show gLB _ _ = _
  simp only [gLB, O.asL, mapM_fz, mapM_bl, Option.bind_some]
@[simp] theorem e_oitT {ds : List D} : O.items (.fz (.tup ds)) = some ds := rfl
@[simp] theorem e_oitL {ds : List D} : O.items (.fz (.lst ds)) = some ds := rfl
@[simp] theorem e_oitO {ds : List D} : O.items (.ls (ds.map .fz)) = some ds := by
  simp only [O.items, mapM_fz]
theorem encQ_dep (q : Rat) : (encQ q).dep = 1 := by simp -implicitDefEqProofs [encQ, D.dep, D.deps]
theorem rangeD_map {lo : Int} {n : Nat} : rangeD lo n = (List.range n).map fun (i : Nat) => D.int (lo + (i : Int)) := rfl
theorem range0_map {n : Nat} : rangeD 0 n = (List.range n).map fun (i : Nat) => D.int (i : Int) := by
  rw [rangeD_map]
  exact List.map_congr_left fun i _ => by rw [Int.zero_add]
end Q
set_option Elab.async false
set_option linter.all false
set_option maxRecDepth 100000
set_option maxHeartbeats 1000000
namespace Q
open PySem L2
mutual
/-- plain data: no bools, no dicts -/
def D.gd : D → Bool
  | .tup ds => D.gds ds
  | .lst ds => D.gds ds
  | .dk _ _ => false
  | .dt _ _ => false
  | .xt _ => false
  | .kt _ => false
  | .ins _ _ _ => false
  | .bl _ => false
  | .str s => PyData.strOk s
  | _ => true
def D.gds : List D → Bool
  | [] => true
  | d :: ds => d.gd && D.gds ds
end
mutual
theorem gd_py : ∀ d : D, d.gd = true → ∃ p, d.py = some p ∧ p.canLay0 = true ∧ p.depth ≤ d.dep + 1
  | .non, _ => ⟨_, by rw [D.py], by rw [PyData.canLay0], by rw [PyData.depth]; omega⟩
  | .int i, _ => ⟨_, by rw [D.py], by rw [PyData.canLay0], by rw [PyData.depth]; omega⟩
  | .str s, h => ⟨_, by rw [D.py], by rw [D.gd] at h; rw [PyData.canLay0]; exact h, by rw [PyData.depth]; omega⟩
  | .tup ds, h => by
    rw [D.gd] at h
    obtain ⟨ps, h1, h2, h3⟩ := gds_py ds h
    exact ⟨.tuple ps, by rw [D.py, h1]; rfl, by rw [PyData.canLay0]; exact h2, by rw [PyData.depth, D.dep]; omega⟩
  | .lst ds, h => by
    rw [D.gd] at h
    obtain ⟨ps, h1, h2, h3⟩ := gds_py ds h
    exact ⟨.list ps, by rw [D.py, h1]; rfl, by rw [PyData.canLay0]; exact h2, by rw [PyData.depth, D.dep]; omega⟩
  | .bl _, h => by rw [D.gd] at h; cases h
  | .dk _ _, h => by rw [D.gd] at h; cases h
  | .dt _ _, h => by rw [D.gd] at h; cases h
  | .xt _, h => by rw [D.gd] at h; cases h
  | .kt _, h => by rw [D.gd] at h; cases h
  | .ins _ _ _, h => by rw [D.gd] at h; cases h
theorem gds_py : ∀ ds : List D, D.gds ds = true → ∃ ps, D.pys ds = some ps ∧ PyData.canLayAll0 ps = true ∧ PyData.depthAll ps ≤ D.deps ds + 1
  | [], _ => ⟨[], by rw [D.pys], by rw [PyData.canLayAll0], by rw [PyData.depthAll]; omega⟩
  | d :: ds, h => by
    rw [D.gds, Bool.and_eq_true] at h
    obtain ⟨p, h1, h2, h3⟩ := gd_py d h.1
    obtain ⟨ps, h4, h5, h6⟩ := gds_py ds h.2
    exact ⟨p :: ps, by rw [D.pys, h1, h4]; rfl, by rw [PyData.canLayAll0, h2, h5]; rfl, by rw [PyData.depthAll, D.deps]; omega⟩
end
mutual
theorem eqv_gd : ∀ (d e : D) (p q : PyData), d.gd = true → e.gd = true → d.py = some p → e.py = some q → (PyData.eqv p q = true ↔ d = e)
  | .non, e, p, q, h1, h2, h3, h4 => by
    rw [D.py] at h3; cases h3
    cases e with
    | non => rw [D.py] at h4; cases h4; simp [PyData.eqv]
    | int _ => rw [D.py] at h4; cases h4; simp [PyData.eqv]
    | str _ => rw [D.py] at h4; cases h4; simp [PyData.eqv]
    | tup ds => rw [D.py] at h4; obtain ⟨ps, _, h4⟩ := Option.map_eq_some_iff.mp h4; subst h4; simp [PyData.eqv]
    | lst ds => rw [D.py] at h4; obtain ⟨ps, _, h4⟩ := Option.map_eq_some_iff.mp h4; subst h4; simp [PyData.eqv]
    | bl _ => rw [D.gd] at h2; cases h2
    | dk _ _ => rw [D.gd] at h2; cases h2
    | dt _ _ => rw [D.gd] at h2; cases h2
    | xt _ => rw [D.gd] at h2; cases h2
    | kt _ => rw [D.gd] at h2; cases h2
    | ins _ _ _ => rw [D.gd] at h2; cases h2
  | .int i, e, p, q, h1, h2, h3, h4 => by
    rw [D.py] at h3; cases h3
    cases e with
    | non => rw [D.py] at h4; cases h4; simp [PyData.eqv]
    | int _ => rw [D.py] at h4; cases h4; simp [PyData.eqv]
    | str _ => rw [D.py] at h4; cases h4; simp [PyData.eqv]
    | tup ds => rw [D.py] at h4; obtain ⟨ps, _, h4⟩ := Option.map_eq_some_iff.mp h4; subst h4; simp [PyData.eqv]
    | lst ds => rw [D.py] at h4; obtain ⟨ps, _, h4⟩ := Option.map_eq_some_iff.mp h4; subst h4; simp [PyData.eqv]
    | bl _ => rw [D.gd] at h2; cases h2
    | dk _ _ => rw [D.gd] at h2; cases h2
    | dt _ _ => rw [D.gd] at h2; cases h2
    | xt _ => rw [D.gd] at h2; cases h2
    | kt _ => rw [D.gd] at h2; cases h2
    | ins _ _ _ => rw [D.gd] at h2; cases h2
  | .str i, e, p, q, h1, h2, h3, h4 => by
    rw [D.py] at h3; cases h3
    cases e with
    | non => rw [D.py] at h4; cases h4; simp [PyData.eqv]
    | int _ => rw [D.py] at h4; cases h4; simp [PyData.eqv]
    | str _ => rw [D.py] at h4; cases h4; simp [PyData.eqv]
    | tup ds => rw [D.py] at h4; obtain ⟨ps, _, h4⟩ := Option.map_eq_some_iff.mp h4; subst h4; simp [PyData.eqv]
    | lst ds => rw [D.py] at h4; obtain ⟨ps, _, h4⟩ := Option.map_eq_some_iff.mp h4; subst h4; simp [PyData.eqv]
    | bl _ => rw [D.gd] at h2; cases h2
    | dk _ _ => rw [D.gd] at h2; cases h2
    | dt _ _ => rw [D.gd] at h2; cases h2
    | xt _ => rw [D.gd] at h2; cases h2
    | kt _ => rw [D.gd] at h2; cases h2
    | ins _ _ _ => rw [D.gd] at h2; cases h2
  | .tup ds, e, p, q, h1, h2, h3, h4 => by
    rw [D.py] at h3
    obtain ⟨ps, h5, h3⟩ := Option.map_eq_some_iff.mp h3
    subst h3
    cases e with
    | non => rw [D.py] at h4; cases h4; simp [PyData.eqv]
    | int _ => rw [D.py] at h4; cases h4; simp [PyData.eqv]
    | str _ => rw [D.py] at h4; cases h4; simp [PyData.eqv]
    | tup es =>
      rw [D.py] at h4
      obtain ⟨qs, h6, h4⟩ := Option.map_eq_some_iff.mp h4
      subst h4
      rw [D.gd] at h1 h2
      rw [PyData.eqv, eqvs_gd ds es ps qs h1 h2 h5 h6]
      simp
    | lst es => rw [D.py] at h4; obtain ⟨ps, _, h4⟩ := Option.map_eq_some_iff.mp h4; subst h4; simp [PyData.eqv]
    | bl _ => rw [D.gd] at h2; cases h2
    | dk _ _ => rw [D.gd] at h2; cases h2
    | dt _ _ => rw [D.gd] at h2; cases h2
    | xt _ => rw [D.gd] at h2; cases h2
    | kt _ => rw [D.gd] at h2; cases h2
    | ins _ _ _ => rw [D.gd] at h2; cases h2
  | .lst ds, e, p, q, h1, h2, h3, h4 => by
    rw [D.py] at h3
    obtain ⟨ps, h5, h3⟩ := Option.map_eq_some_iff.mp h3
    subst h3
    cases e with
    | non => rw [D.py] at h4; cases h4; simp [PyData.eqv]
    | int _ => rw [D.py] at h4; cases h4; simp [PyData.eqv]
    | str _ => rw [D.py] at h4; cases h4; simp [PyData.eqv]
    | tup es => rw [D.py] at h4; obtain ⟨ps, _, h4⟩ := Option.map_eq_some_iff.mp h4; subst h4; simp [PyData.eqv]
    | lst es =>
      rw [D.py] at h4
      obtain ⟨qs, h6, h4⟩ := Option.map_eq_some_iff.mp h4
      subst h4
      rw [D.gd] at h1 h2
      rw [PyData.eqv, eqvs_gd ds es ps qs h1 h2 h5 h6]
      simp
    | bl _ => rw [D.gd] at h2; cases h2
    | dk _ _ => rw [D.gd] at h2; cases h2
    | dt _ _ => rw [D.gd] at h2; cases h2
    | xt _ => rw [D.gd] at h2; cases h2
    | kt _ => rw [D.gd] at h2; cases h2
    | ins _ _ _ => rw [D.gd] at h2; cases h2
  | .bl _, _, _, _, h, _, _, _ => by rw [D.gd] at h; cases h
  | .dk _ _, _, _, _, h, _, _, _ => by rw [D.gd] at h; cases h
  | .dt _ _, _, _, _, h, _, _, _ => by rw [D.gd] at h; cases h
  | .xt _, _, _, _, h, _, _, _ => by rw [D.gd] at h; cases h
  | .kt _, _, _, _, h, _, _, _ => by rw [D.gd] at h; cases h
  | .ins _ _ _, _, _, _, h, _, _, _ => by rw [D.gd] at h; cases h
theorem eqvs_gd : ∀ (ds es : List D) (ps qs : List PyData), D.gds ds = true → D.gds es = true → D.pys ds = some ps → D.pys es = some qs → (PyData.eqvAll ps qs = true ↔ ds = es)
  | [], es, ps, qs, h1, h2, h3, h4 => by
    rw [D.pys] at h3; cases h3
    cases es with
    | nil => rw [D.pys] at h4; cases h4; simp [PyData.eqvAll]
    | cons e es =>
      rw [D.pys] at h4
      obtain ⟨q, g1, h4⟩ := bind_some h4
      obtain ⟨qs', g2, h4⟩ := bind_some h4
      cases h4
      simp [PyData.eqvAll]
  | d :: ds, es, ps, qs, h1, h2, h3, h4 => by
    rw [D.pys] at h3
    obtain ⟨p, g1, h3⟩ := bind_some h3
    obtain ⟨ps', g2, h3⟩ := bind_some h3
    cases h3
    rw [D.gds, Bool.and_eq_true] at h1
    cases es with
    | nil => rw [D.pys] at h4; cases h4; simp [PyData.eqvAll]
    | cons e es =>
      rw [D.pys] at h4
      obtain ⟨q, g3, h4⟩ := bind_some h4
      obtain ⟨qs', g4, h4⟩ := bind_some h4
      cases h4
      rw [D.gds, Bool.and_eq_true] at h2
      rw [PyData.eqvAll, Bool.and_eq_true, eqv_gd d e p q h1.1 h2.1 g1 g3, eqvs_gd ds es ps' qs' h1.2 h2.2 g2 g4, List.cons.injEq]
end
theorem eqB_gd {d e : D} (h1 : d.gd = true) (h2 : e.gd = true) (h3 : d.dep ≤ 60) (h4 : e.dep ≤ 60) : ∃ z, oEqB (.fz d) (.fz e) = some z ∧ (z = true ↔ d = e) := by
  obtain ⟨p, a1, a2, a3⟩ := gd_py d h1
  obtain ⟨q, b1, b2, b3⟩ := gd_py e h2
  refine ⟨PyData.eqv p q, ?_, eqv_gd d e p q h1 h2 a1 b1⟩
  have s1 : SeqAt.shaped p = true := by
    unfold SeqAt.shaped
    rw [a2, Bool.true_and, decide_eq_true_eq]; omega
  have s2 : SeqAt.shaped q = true := by
    unfold SeqAt.shaped
    rw [b2, Bool.true_and, decide_eq_true_eq]; omega
  unfold oEqB
  rw [e_frz, a1, Option.bind_some, e_frz, b1, Option.bind_some, if_pos ⟨s1, s2⟩]
theorem eq_gd {d e : D} [Decidable (d = e)] (h1 : d.gd = true) (h2 : e.gd = true) (h3 : d.dep ≤ 60) (h4 : e.dep ≤ 60) : oEq (.fz d) (.fz e) = some (.fz (.bl (decide (d = e)))) ∧ oNe (.fz d) (.fz e) = some (.fz (.bl (!decide (d = e)))) := by
  obtain ⟨z, h5, h6⟩ := eqB_gd h1 h2 h3 h4
  have e1 : z = decide (d = e) := by
    rw [Bool.eq_iff_iff, decide_eq_true_eq]; exact h6
  subst e1
  unfold oEq oNe
  rw [h5]
  exact ⟨rfl, rfl⟩
theorem eq_self {d : D} (h1 : d.gd = true) (h3 : d.dep ≤ 60) : oEq (.fz d) (.fz d) = some (.fz (.bl true)) ∧ oNe (.fz d) (.fz d) = some (.fz (.bl false)) := by
  obtain ⟨z, h5, h6⟩ := eqB_gd h1 h1 h3 h3
  have e1 : z = true := h6.mpr rfl
  subst e1
  unfold oEq oNe
  rw [h5]
  exact ⟨rfl, rfl⟩
theorem encQ_gd (q : Rat) : (encQ q).gd = true := by simp -implicitDefEqProofs [encQ, D.gd, D.gds]
theorem eqQ (a b : Rat) : oEq (.fz (encQ a)) (.fz (encQ b)) = some (.fz (.bl (decide (a = b)))) ∧ oNe (.fz (encQ a)) (.fz (encQ b)) = some (.fz (.bl (!decide (a = b)))) := by
  obtain ⟨z, h5, h6⟩ := eqB_gd (encQ_gd a) (encQ_gd b) (by rw [encQ_dep]; decide) (by rw [encQ_dep]; decide)
  have e1 : z = decide (a = b) := by
    rw [Bool.eq_iff_iff, decide_eq_true_eq, h6]
    exact ⟨encQ_inj, fun h => by rw [h]⟩
  subst e1
  unfold oEq oNe
  rw [h5]
  exact ⟨rfl, rfl⟩
end Q
namespace Q
open PySem L2
theorem ixN_nat {n j : Nat} (h : j < n) : ixN n (j : Int) = some j := by
  unfold ixN
  rw [if_pos (by omega), if_pos (by omega)]
  rfl
/-- a slot that is not bound, or holds a datum -/
def slD : Option D → Sl
  | none => .un
  | some d => .has (.fz d)
def encP (p : Nat × Rat) : D := .tup [.int (p.1 : Int), encQ p.2]
end Q
namespace Q
open PySem L2
theorem e_mulL {d : D} {xs : List D} {n : Nat} (h : n ≤ 16000000) (hx : xs = [d] := by rfl) : oMul (.ls (xs.map .fz)) (.fz (.int (n : Int))) = some (.ls ((List.replicate n d).map .fz)) := by
  subst hx
  have h1 : oMulI (.ls ([d].map .fz)) (.fz (.int (n : Int))) = none := rfl
  unfold oMul
  rw [h1, Option.none_or]
  unfold oMulL
  have h2 : -9223372036854775808 ≤ (n : Int) ∧ (n : Int) < 9223372036854775808 ∧ ([d].map O.fz).length * (n : Int).toNat ≤ sizeLine := by
    refine ⟨by omega, by omega, ?_⟩
    show 1 * (n : Int).toNat ≤ 16777216
    omega
  have h3 : ∀ n : Nat, (List.replicate n [d]).flatten = List.replicate n d := fun n => by
    induction n with
    | zero => rfl
    | succ n ih => rw [List.replicate_succ, List.flatten_cons, ih]; rfl
  dsimp only
  rw [if_pos h2, mapM_fz, Option.bind_some, Int.toNat_natCast, h3]
end Q
namespace Q
open PySem L2
def encR (r : List (Nat × Rat)) : D := .tup (r.map encP)
def encG (rs : List Rat) (rows : List (List (Nat × Rat))) : D := .tup [.tup (rs.map encQ), .tup (rows.map encR)]
/-- a row that a game of this size may have -/
structure RowOk (size : Nat) (r : List (Nat × Rat)) : Prop where
  lt : ∀ p ∈ r, p.1 < size
  nn : ∀ p ∈ r, 0 ≤ p.2
  one : sumQ 0 (r.map (·.2)) = 1
  sz : szs (r.map (·.2)) ≤ 60000000
/-- targets that ascend, none with chance 0 -/
structure Canon (r : List (Nat × Rat)) : Prop where
  asc : (r.map (·.1)).Pairwise (· < ·)
  ne : ∀ p ∈ r, p.2 ≠ 0
end Q
namespace Q
open PySem L2
/-- a game as it is told -/
structure GameOk (rs : List Rat) (rows : List (List (Nat × Rat))) (n : Nat) : Prop where
  l1 : rs.length = n
  l2 : rows.length = n
  n0 : n ≠ 0
  nz : n ≤ 1000000
  ok : ∀ r ∈ rows, RowOk n r
  ca : ∀ r ∈ rows, Canon r
  sh : ∀ r ∈ rows, r.length ≤ 1000000
end Q
namespace Q
open PySem L2
end Q
set_option Elab.async false
set_option linter.all false
set_option maxRecDepth 100000
set_option maxHeartbeats 1000000
namespace Q
open PySem L2
theorem e_sum {is : List Int} : gSum [.ls (is.map fun i => .fz (.int i))] = some (.fz (.int is.sum)) := by
  have e : (is.map fun i => O.fz (.int i)) = (is.map D.int).map O.fz := by rw [List.map_map]; rfl
  rw [e]
  show gLI _ _ = _
  simp only [gLI, O.asL, mapM_fz, mapM_int, Option.bind_some]
theorem divInt_same (a b c : Int) : Rat.divInt a c + Rat.divInt b c = Rat.divInt (a + b) c := by
  by_cases h : c = 0
  · subst h; simp [Rat.divInt_zero]; grind
  · rw [Rat.divInt_add_divInt _ _ h h, ← Int.add_mul, Rat.divInt_mul_right h]
theorem sumQ_div (W : Int) (ws : List Int) (a : Int) : sumQ (Rat.divInt a W) (ws.map fun w => Rat.divInt w W) = Rat.divInt (a + ws.sum) W := by
  induction ws generalizing a with
  | nil => simp [sumQ]
  | cons w ws ih => rw [List.map_cons, sumQ_cons, divInt_same, ih, List.sum_cons, Int.add_assoc]
theorem divInt_self' {W : Int} (h : W ≠ 0) : Rat.divInt W W = 1 := by
  have := Rat.divInt_mul_right (n := 1) (d := 1) h
  rw [Int.one_mul] at this
  rw [this]; rfl
theorem divInt_ne {a b : Int} (ha : a ≠ 0) (hb : b ≠ 0) : Rat.divInt a b ≠ 0 := by
  intro e
  have z : Rat.divInt 0 1 = 0 := by decide +kernel
  have := (Rat.divInt_eq_divInt_iff hb (by decide : (1 : Int) ≠ 0)).mp (e.trans z.symm)
  omega
end Q
namespace Q
open PySem L2
end Q
set_option Elab.async false
set_option linter.all false
set_option maxRecDepth 100000
set_option maxHeartbeats 1000000
namespace Q
open PySem L2 PyProof.Rows RZ
def mZipF (m : EM (List O)) : EM (List D) := fun env => (m env).bind fun p => match O.frzs p.1 with
  | [.tup ds, .tup es] => some (zipD ds es, p.2)
  | [.lst ds, .lst es] => some (zipD ds es, p.2)
  | _ => none
theorem rps2 {K : PySem.W.Frag} {B : Hp} {d e : D} {vs : List V} (r : Rps K B [d, e] vs) : ∃ v u, vs = [v, u] ∧ Rp K B d v ∧ Rp K B e u := by
  rw [Rps] at r
  obtain ⟨v, rr, rfl, h1, h2⟩ := r
  rw [Rps] at h2
  obtain ⟨u, r3, rfl, h3, h4⟩ := h2
  rw [Rps] at h4
  subst h4
  exact ⟨v, u, rfl, h1, h3⟩
theorem qi_zipF {X : Cx} {a b : Expr} {p pos : Pos} {mA : EM (List O)} {elts : List Expr} {kk : Nat} {tpos : Pos} (hg : Gl X "zip") (hm : X.mg "zip" = none) (ha : QA X [a, b] mA) (hs : starEach [a, b] X.env = (false, eval a X.env) :: starEach [b] X.env := by rfl)
    (hpl : (backTo pos (starEach [b] X.env)).any (·.1) = false := by rfl) : QI X true (.Tuple elts kk tpos) (.Call (.Name "zip" p) [a, b] [] pos) (mZipF mA) := by
  obtain ⟨t, h1, h2⟩ := ha
  refine ⟨_, pi_zipA hg hm h1 hs hpl, fun H0 B0 ln Γ B H σ env s ds env' em R q => ?_⟩
  obtain ⟨p, em1, em⟩ := bind_some em
  obtain ⟨os, env1⟩ := p
  refine h2 H0 B0 ln Γ B H σ env s _ _ em1 _ fun vs B1 H1 e1 e2 hl s1 => ?_
  obtain ⟨B2, e3, r, s2⟩ := Stt.frzs hl s1
  generalize hos : O.frzs os = fs at r
  have em : (match O.frzs os with | [.tup ds, .tup es] => some (zipD ds es, env1) | [.lst ds, .lst es] => some (zipD ds es, env1) | _ => none) = some (ds, env') := em
  rw [hos] at em
  split at em
  · cases em
    obtain ⟨v, u, rfl, w2, w3⟩ := rps2 r
    rw [Rp] at w2 w3
    obtain ⟨x1, vs, rfl, g1, g2⟩ := w2
    obtain ⟨x2, us, rfl, g3, g4⟩ := w3
    refine ⟨x1, x2, vs, us, rfl, .inr ⟨s2.w.bh.t g1, s2.w.bh.t g3, q _ B2 H1 (e1.trans e3) e2 s2 ((walkD_zipT g2 g4).mono fun H2 g => ?_)⟩⟩
    have g : Ex B2 H2 := by simpa using g
    exact ⟨g.t g1, g.t g3⟩
  · cases em
    obtain ⟨v, u, rfl, w2, w3⟩ := rps2 r
    rw [Rp] at w2 w3
    obtain ⟨x1, vs, rfl, g1, g2⟩ := w2
    obtain ⟨x2, us, rfl, g3, g4⟩ := w3
    refine ⟨x1, x2, vs, us, rfl, .inl ⟨s2.w.bh.l g1, s2.w.bh.l g3, q _ B2 H1 (e1.trans e3) e2 s2 ((walkD_zip g2 g4).mono fun H2 g => ?_)⟩⟩
    have g : Ex B2 H2 := by simpa using g
    exact ⟨g.l g1, g.l g3⟩
  · cases em
def SEw (K : PySem.W.Frag) (t : TE) (m : EM O) : Prop :=
  ∀ (H0 B0 : Hp) (ln : Nat → Option V) (Γ : List (O × V)) (B H : Hp) (σ : L2.St) (env : En), Stt K H0 B0 ln Γ B H σ env → ∀ o env', m env = some (o, env') → ∀ Q : VK,
    (∀ v B' H', Ex B B' → Stt K H0 B0 ln ((o, v) :: Γ) B' H' σ env' → Q v H') → t σ H Q
def QEw (X : Cx) (e : Expr) (m : EM O) : Prop := ∃ t, PE X e t ∧ SEw X.K t m
section
variable {K : PySem.W.Frag} {H0 B0 B H : Hp} {ln : Nat → Option V} {Γ : List (O × V)} {σ : L2.St} {env : En} {o : O} {v : V} {i : Nat}
theorem set_same' {σ : L2.St} {v : Option V} (hv : σ[i]? = some v) : σ.set i v = σ := by
  obtain ⟨h1, h2⟩ := List.getElem?_eq_some_iff.mp hv
  rw [← h2]; simp
theorem Stt.lend (s : Stt K H0 B0 ln Γ B H σ env) (e : env[i]? = some (.has o)) : ∃ v, σ[i]? = some (some v) ∧ Stt K H0 B0 (fun j => if j = i then some v else ln j) ((o, v) :: Γ) B H σ (env.set i .lent) := by
  obtain ⟨v, hv⟩ := s.sg.has i o e
  obtain ⟨R, p, q⟩ := roots_at e hv
  have hi : i < env.length := (List.getElem?_eq_some_iff.mp e).1
  refine ⟨v, hv, s.w, ⟨by rw [List.length_set]; exact s.sg.len, fun j o' h => ?_, fun j h => ?_, fun j a h => ?_⟩, ?_⟩
  · by_cases hj : i = j
    · subst hj
      rw [List.getElem?_set_self hi] at h; cases h
    · rw [List.getElem?_set_ne hj] at h
      exact s.sg.has j o' h
  · by_cases hj : i = j
    · subst hj
      exact ⟨v, if_pos rfl, hv⟩
    · rw [List.getElem?_set_ne hj] at h
      obtain ⟨v', h1, h2⟩ := s.sg.lent j h
      exact ⟨v', (if_neg (fun z => hj z.symm)).trans h1, h2⟩
  · by_cases hj : i = j
    · subst hj
      rw [List.getElem?_set_self hi] at h; cases h
    · rw [List.getElem?_set_ne hj] at h
      exact s.sg.adr j a h
  · have q1 := q .lent (some v)
    rw [set_same' hv] at q1
    have ow : Own K H0 B H [] (((o, v) :: R) ++ Γ) := s.own.perm (p.append_right Γ)
    exact ow.perm (List.perm_middle.symm.trans ((q1.append_right ((o, v) :: Γ)).symm))
theorem Stt.unlend {ln' : Nat → Option V} (s : Stt K H0 B0 ln' ((o, v) :: Γ) B H σ env) (e : env[i]? = some .lent) (hv : ln' i = some v) (hl : ∀ j, j ≠ i → ln' j = ln j) : Stt K H0 B0 ln Γ B H σ (env.set i (.has o)) := by
  obtain ⟨v', h1, h2⟩ := s.sg.lent i e
  rw [hv] at h1
  cases h1
  obtain ⟨R, p, q⟩ := roots_at e h2
  have hi : i < env.length := (List.getElem?_eq_some_iff.mp e).1
  refine ⟨s.w, ⟨by rw [List.length_set]; exact s.sg.len, fun j o' h => ?_, fun j h => ?_, fun j a h => ?_⟩, ?_⟩
  · by_cases hj : i = j
    · subst hj
      exact ⟨v, h2⟩
    · rw [List.getElem?_set_ne hj] at h
      exact s.sg.has j o' h
  · by_cases hj : i = j
    · subst hj
      rw [List.getElem?_set_self hi] at h; cases h
    · rw [List.getElem?_set_ne hj] at h
      obtain ⟨v', g1, g2⟩ := s.sg.lent j h
      exact ⟨v', (hl j (fun z => hj z.symm)).symm.trans g1, g2⟩
  · by_cases hj : i = j
    · subst hj
      rw [List.getElem?_set_self hi] at h; cases h
    · rw [List.getElem?_set_ne hj] at h
      exact s.sg.adr j a h
  · have q1 := q (.has o) (some v)
    rw [set_same' h2] at q1
    have ow : Own K H0 B H [] (R ++ ((o, v) :: Γ)) := s.own.perm (p.append_right _)
    exact ow.perm (List.perm_middle.trans (q1.append_right Γ).symm)
end
def lentAt (i : Nat) (e : En) : Bool := match e[i]? with
  | some .lent => true
  | _ => false
theorem lentAt_ok {i : Nat} {e : En} (h : lentAt i e = true) : e[i]? = some .lent := by
  unfold lentAt at h
  split at h
  · assumption
  · cases h
def endZ (c r : Nat) (o1 o2 : List O) : Out → Option Out
  | .nx e => if lentAt c e = true ∧ lentAt r e = true then some (.nx ((e.set r (.has (.ls o2))).set c (.has (.ls o1)))) else none
  | .rt d => some (.rt d)
  | _ => none
def sForZ (c r : Nat) (gs : D → En → Option En) (mb : SM) : SM := fun env => (lsAt c env).bind fun o1 => (lsAt r env).bind fun o2 => if c = r then none else (o1.mapM O.d?).bind fun ds => (o2.mapM O.d?).bind fun es =>
  (forL gs mb (zipD ds es) ((env.set c .lent).set r .lent)).bind (endZ c r o1 o2)
theorem qs_forZ {X : Cx} {c r : Nat} {x y : Str} {elts : List Expr} {kk : Nat} {px py pz p tpos pos : Pos} {body : List Stmt} {ws : List Nat} {gs : D → En → Option En} {mb : SM} (hp : PassesOwn (model X.prog X.w) X.A X.env X.xe) (hc : X.calm = true) (hg : Gl X "zip") (hm : X.mg "zip" = none)
    (hN : X.N[c]? = some x) (hN2 : X.N[r]? = some y) (hgt : QG X (.Tuple elts kk tpos) ws gs) (hb : QSs X body mb)
    (hv : Vis X.env.scope x := by first | exact Or.inl rfl | exact Or.inr (Or.inl rfl) | exact Or.inr (Or.inr rfl)) (hd : (x == ("__debug__" : Str)) = false := by decide) (hcd : (x == ("__classdict__" : Str)) = false := by decide)
    (hv2 : Vis X.env.scope y := by first | exact Or.inl rfl | exact Or.inr (Or.inl rfl) | exact Or.inr (Or.inr rfl)) (hd2 : (y == ("__debug__" : Str)) = false := by decide) (hcd2 : (y == ("__classdict__" : Str)) = false := by decide)
    (hs : starEach [.Name x px, .Name y py] X.env = (false, eval (.Name x px) X.env) :: starEach [.Name y py] X.env := by rfl) (hs2 : starEach [.Name y py] X.env = (false, eval (.Name y py) X.env) :: starEach [] X.env := by rfl)
    (hpl : (backTo p (starEach [.Name y py] X.env)).any (·.1) = false := by rfl)
    (hfs : ∀ z, foldedSetIterable (.Call (.Name "zip" pz) [.Name x px, .Name y py] [] p) X.env z = pure z := by intro _; rfl) :
    QS X (.For (.Tuple elts kk tpos) (.Call (.Name "zip" pz) [.Name x px, .Name y py] [] p) body [] pos) (sForZ c r gs mb) := by
  obtain ⟨g, g1, g2⟩ := hgt
  obtain ⟨t, t1, t2⟩ := hb
  refine ⟨_, ps_for hp hc (pi_zipA hg hm (pa_cons (pe_var hN hv hd hcd) (pa_cons (pe_var hN2 hv2 hd2 hcd2) pa_nil hs2) hs) hs hpl) g1 t1 hfs, fun H0 B0 ln Γ B H σ env s out em E q => ?_⟩
  obtain ⟨o1, l1, em⟩ := bind_some em
  obtain ⟨o2, l2, em⟩ := bind_some em
  split at em
  · cases em
  rename_i hcr
  obtain ⟨ds, f1, em⟩ := bind_some em
  obtain ⟨es, f2, em⟩ := bind_some em
  obtain ⟨out0, em0, em⟩ := bind_some em
  obtain ⟨va, hva, s1⟩ := s.lend (lsAt_ok l1)
  have l2' : (env.set c Sl.lent)[r]? = some (.has (.ls o2)) := by rw [List.getElem?_set_ne hcr]; exact lsAt_ok l2
  obtain ⟨vb, hvb, s2⟩ := s1.lend l2'
  have wb0 := s2.vw
  rw [Vw] at wb0
  obtain ⟨b, us0, rfl, hb0, wb1⟩ := wb0
  have wa0 := (s2.perm (List.Perm.swap _ _ _)).vw
  rw [Vw] at wa0
  obtain ⟨a, vs0, rfl, ha0, wa1⟩ := wa0
  have fin : ∀ B' H' σ' e, Ex B B' → Stt X.K H0 B0 (fun j => if j = r then some (V.ref b) else if j = c then some (V.ref a) else ln j) ((.ls o2, .ref b) :: (.ls o1, .ref a) :: Γ) B' H' σ' e → endZ c r o1 o2 (.nx e) = some out → E.nx σ' H' := fun B' H' σ' e e1 s' h => by
    have h : (if lentAt c e = true ∧ lentAt r e = true then some (Out.nx ((e.set r (.has (.ls o2))).set c (.has (.ls o1)))) else none) = some out := h
    split at h
    · rename_i hl
      cases h
      have u1 := s'.unlend (ln := fun j => if j = c then some (V.ref a) else ln j) (lentAt_ok hl.2) (if_pos rfl) (fun j hj => if_neg hj)
      have u2 := u1.unlend (ln := ln) (i := c) (by rw [List.getElem?_set_ne (fun z => hcr z.symm)]; exact lentAt_ok hl.1) (if_pos rfl) (fun j hj => if_neg hj)
      exact q B' H' σ' e1 u2
    · cases h
  refine ⟨_, hva, _, hvb, a, b, vs0, us0, rfl, .inl ⟨SqL.of ha0, SqL.of hb0, ?_⟩⟩
  refine ⟨fun i k σ' H' => k = (zipD ds es).length - i ∧ i ≤ (zipD ds es).length ∧ ∃ B' env', Ex B B' ∧ Stt X.K H0 B0 (fun j => if j = r then some (V.ref b) else if j = c then some (V.ref a) else ln j) ((.ls o2, .ref b) :: (.ls o1, .ref a) :: Γ) B' H' σ' env' ∧ forL gs mb ((zipD ds es).drop i) env' = some out0,
    ⟨(zipD ds es).length, by simp, Nat.zero_le _, B, _, Ex.refl _, s2, em0⟩, ?_⟩
  rintro i k σ2 H2 ⟨rfl, hi, B2, env2, e3, s3, em2⟩
  have wb := s3.vw
  rw [Vw] at wb
  obtain ⟨b', us, eb, hb', wb'⟩ := wb
  cases eb
  have wa := (s3.perm (List.Perm.swap _ _ _)).vw
  rw [Vw] at wa
  obtain ⟨a', vs, ea, ha', wa'⟩ := wa
  cases ea
  have w := walkD_zip (K := X.K) (a := a) (b := b) (wa'.dat f1) (wb'.dat f2)
  have gg : SqL X.K H2 a vs ∧ SqL X.K H2 b us := ⟨SqL.of ha', SqL.of hb'⟩
  by_cases hlt : i < (zipD ds es).length
  · refine .inr ⟨w.go i H2 hlt gg, fun σ' H' => ∃ B' env', Ex B B' ∧ Stt X.K H0 B0 (fun j => if j = r then some (V.ref b) else if j = c then some (V.ref a) else ln j) ((.ls o2, .ref b) :: (.ls o1, .ref a) :: Γ) B' H' σ' env' ∧ forL gs mb ((zipD ds es).drop (i + 1)) env' = some out0, fun σ' H' h => ⟨(zipD ds es).length - (i + 1), by omega, rfl, hlt, h⟩, fun x H3 y => ?_⟩
    obtain ⟨B3, w3, r3⟩ := w.yld i (zipD ds es)[i] H2 x H3 B2 (List.getElem?_eq_getElem hlt) gg (Ex.refl _) s3.w.bh y
    have s4 := s3.step w3
    rw [List.drop_eq_getElem_cons hlt, forL] at em2
    obtain ⟨env3, em3, em2⟩ := bind_some em2
    obtain ⟨o, em4, em2⟩ := bind_some em2
    refine g2 H0 B0 _ _ B3 H3 σ2 env2 s4 _ x _ r3 em3 _ fun σ4 s5 _ _ => ?_
    refine t2 H0 B0 _ _ B3 H3 σ4 env3 s5 o em4 _ ?_
    cases o with
    | nx e' => exact fun B' H' σ' e4 s' => ⟨B', e', (e3.trans w3.b0).trans e4, s', em2⟩
    | ct e' => exact fun B' H' σ' e4 s' => ⟨B', e', (e3.trans w3.b0).trans e4, s', em2⟩
    | bk e' => cases em2; exact fun B' H' σ' e4 s' => fin B' H' σ' e' ((e3.trans w3.b0).trans e4) s' em
    | rt d => cases em2; cases em; exact fun v B' H' e4 s' r => q v B' H' ((e3.trans w3.b0).trans e4) s' r
  · have hi' : i = (zipD ds es).length := by omega
    subst hi'
    rw [List.drop_length, forL] at em2
    cases em2
    exact .inl ⟨w.stop H2 gg, fin B2 H2 σ2 env2 e3 s3 em⟩
@[simp] theorem e_at3 {α : Type} {a b c d : α} {xs : List α} : atI (a :: b :: c :: d :: xs) 3 = some d := atI_nat' (j := 3) (by simp)
@[simp] theorem e_at4 {α : Type} {a b c d e : α} {xs : List α} : atI (a :: b :: c :: d :: e :: xs) 4 = some e := atI_nat' (j := 4) (by simp)
@[simp] theorem e_at5 {α : Type} {a b c d e f : α} {xs : List α} : atI (a :: b :: c :: d :: e :: f :: xs) 5 = some f := atI_nat' (j := 5) (by simp)
def frzE (i : Nat) (env : En) : En := match env[i]? with
  | some (.has o) => env.set i (.has (.fz o.frz))
  | _ => env
def mGh (i : Nat) (m : EM O) : EM O := fun env => m (frzE i env)
@[simp] theorem e_mGh {i : Nat} {m : EM O} {env : En} : mGh i m env = m (match env[i]? with
  | some (.has o) => env.set i (.has (.fz o.frz))
  | _ => env) := rfl
end Q
set_option Elab.async false
set_option linter.all false
set_option maxRecDepth 100000
set_option maxHeartbeats 1000000
namespace Q
open PySem L2
@[simp] theorem e_truL {os : List O} : oTru (.ls os) = some (!os.isEmpty) := rfl
@[simp] theorem e_neB {x y : Bool} : oNe (.fz (.bl x)) (.fz (.bl y)) = some (.fz (.bl (!(x == y)))) := by
  simp -implicitDefEqProofs [oNe, oEqB, D.py, O.frz, SeqAt.shaped, PyData.canLay0, PyData.depth, PyData.eqv]
/-- naturals as the frame's own list -/
def natsO (xs : List Nat) : List O := xs.map fun (i : Nat) => .fz (.int (i : Int))
theorem natsO_snoc (xs : List Nat) (x : Nat) : natsO xs ++ [.fz (.int (x : Int))] = natsO (xs ++ [x]) := by unfold natsO; simp
theorem natsO_len (xs : List Nat) : (natsO xs).length = xs.length := by unfold natsO; simp
theorem range_set {α : Type} (g : Nat → α) (n t : Nat) (a : α) : ((List.range n).map g).set t a = (List.range n).map fun i => if i = t then a else g i := by
  apply List.ext_getElem
  · simp
  · intro i h1 h2
    rw [List.getElem_set]
    simp only [List.getElem_map, List.getElem_range]
    by_cases h : t = i
    · subst h; simp
    · rw [if_neg h, if_neg (fun e => h e.symm)]
theorem range_at {g : Nat → O} {n t : Nat} (h : t < n) : atI ((List.range n).map g) (t : Int) = some (g t) := by
  rw [atI_nat' (by simpa using h), List.getElem?_map, List.getElem?_range h]; rfl
inductive Reach (succ : Nat → List Nat) (s : Nat) : Nat → Prop
  | start : Reach succ s s
  | step {x y : Nat} : Reach succ s x → y ∈ succ x → Reach succ s y
def updB (f : Nat → Bool) (t : Nat) : Nat → Bool := fun i => if i = t then true else f i
def cntF (f : Nat → Bool) (n : Nat) : Nat := ((List.range n).filter fun i => !f i).length
theorem cntF_succ (f : Nat → Bool) (n : Nat) : cntF f (n + 1) = cntF f n + if f n = true then 0 else 1 := by
  unfold cntF
  rw [List.range_succ, List.filter_append, List.length_append]
  cases h : f n <;> simp [h]
theorem cntF_updO (f : Nat → Bool) (t : Nat) : ∀ n, n ≤ t → cntF (updB f t) n = cntF f n
  | 0, _ => rfl
  | n + 1, h => by
    rw [cntF_succ, cntF_succ, cntF_updO f t n (by omega)]
    have : updB f t n = f n := if_neg (by omega)
    rw [this]
theorem cntF_upd (f : Nat → Bool) (t : Nat) (hf : f t = false) : ∀ n, t < n → cntF (updB f t) n + 1 = cntF f n
  | 0, h => by omega
  | n + 1, h => by
    rw [cntF_succ, cntF_succ]
    by_cases e : t = n
    · subst e
      rw [cntF_updO f t t (Nat.le_refl _), show updB f t t = true from if_pos rfl, hf]
      rfl
    · have := cntF_upd f t hf n (by omega)
      have e2 : updB f t n = f n := if_neg (fun z => e z.symm)
      rw [e2]; omega
theorem cntF_le (f : Nat → Bool) (n : Nat) : cntF f n ≤ n := by
  unfold cntF
  have := List.length_filter_le (fun i => !f i) (List.range n)
  rwa [List.length_range] at this
def visit (st : (Nat → Bool) × List Nat) (t : Nat) : (Nat → Bool) × List Nat := if st.1 t = true then st else (updB st.1 t, st.2 ++ [t])
structure Vis (n : Nat) (f : Nat → Bool) (ws : List Nat) (ts : List Nat) (r : (Nat → Bool) × List Nat) : Prop where
  mem : ∀ i, r.1 i = true ↔ f i = true ∨ i ∈ ts
  ext : ∃ e, r.2 = ws ++ e ∧ ∀ i ∈ e, i ∈ ts
  new : ∀ i, r.1 i = true → f i = false → i ∈ r.2
  pot : r.2.length + cntF r.1 n = ws.length + cntF f n
theorem visit_fold (n : Nat) : ∀ (ts : List Nat) (f : Nat → Bool) (ws : List Nat), (∀ t ∈ ts, t < n) → Vis n f ws ts (ts.foldl visit (f, ws))
  | [], f, ws, _ => ⟨fun i => by simp, ⟨[], by simp, by simp⟩, fun i h1 h2 => by
      have h1 : f i = true := h1
      rw [h2] at h1
      exact absurd h1 Bool.false_ne_true, rfl⟩
  | t :: ts, f, ws, h => by
    rw [List.foldl_cons]
    cases hf : f t
    case true =>
      have e : visit (f, ws) t = (f, ws) := if_pos hf
      rw [e]
      obtain ⟨h1, ⟨ex, h2, h2'⟩, h3, h4⟩ := visit_fold n ts f ws fun x hx => h x (by simp [hx])
      refine ⟨fun i => ?_, ⟨ex, h2, fun i hi => by simp [h2' i hi]⟩, h3, h4⟩
      rw [h1 i, List.mem_cons]
      constructor
      · rintro (h | h)
        · exact .inl h
        · exact .inr (.inr h)
      · rintro (h | rfl | h)
        · exact .inl h
        · exact .inl hf
        · exact .inr h
    case false =>
      have e : visit (f, ws) t = (updB f t, ws ++ [t]) := if_neg (by show ¬ f t = true; rw [hf]; simp)
      rw [e]
      obtain ⟨h1, ⟨ex, h2, h2'⟩, h3, h4⟩ := visit_fold n ts (updB f t) (ws ++ [t]) fun x hx => h x (by simp [hx])
      have hu : ∀ i, updB f t i = true ↔ f i = true ∨ i = t := fun i => by
        unfold updB
        by_cases h : i = t <;> simp [h]
      refine ⟨fun i => ?_, ⟨t :: ex, by rw [h2]; simp, fun i hi => ?_⟩, fun i a b => ?_, ?_⟩
      · rw [h1 i, hu i, List.mem_cons, or_assoc]
      · rcases List.mem_cons.mp hi with rfl | hi
        · simp
        · simp [h2' i hi]
      · by_cases q : i = t
        · subst q
          rw [h2]; simp
        · refine h3 i a ?_
          unfold updB
          rw [if_neg q]; exact b
      · rw [h4, List.length_append, List.length_singleton]
        have := cntF_upd f t hf n (h t (by simp))
        omega
structure Dfs (succ : Nat → List Nat) (s n : Nat) (f : Nat → Bool) (ws : List Nat) : Prop where
  lt : ∀ w ∈ ws, w < n
  fw : ∀ w ∈ ws, f w = true
  re : ∀ x, f x = true → Reach succ s x
  st : f s = true
  cl : ∀ x, f x = true → x ∉ ws → ∀ y ∈ succ x, f y = true
theorem Dfs.step {succ : Nat → List Nat} {s n x : Nat} {f : Nat → Bool} {ws : List Nat} (hs : ∀ x, x < n → ∀ y ∈ succ x, y < n) (I : Dfs succ s n f (ws ++ [x])) :
    let r := (succ x).foldl visit (f, ws)
    Dfs succ s n r.1 r.2 ∧ r.2.length + cntF r.1 n = ws.length + cntF f n := by
  have hx : x < n := I.lt x (by simp)
  obtain ⟨h1, ⟨ex, h2, h2'⟩, h3, h4⟩ := visit_fold n (succ x) f ws (hs x hx)
  have rx : Reach succ s x := I.re x (I.fw x (by simp))
  refine ⟨⟨fun w hw => ?_, fun w hw => ?_, fun y hy => ?_, (h1 s).mpr (.inl I.st), fun y hy hn z hz => (h1 z).mpr ?_⟩, h4⟩
  · rw [h2] at hw
    rcases List.mem_append.mp hw with h | h
    · exact I.lt w (by simp [h])
    · exact hs x hx w (h2' w h)
  · rw [h2] at hw
    rcases List.mem_append.mp hw with h | h
    · exact (h1 w).mpr (.inl (I.fw w (by simp [h])))
    · exact (h1 w).mpr (.inr (h2' w h))
  · rcases (h1 y).mp hy with h | h
    · exact I.re y h
    · exact .step rx h
  · by_cases hyx : y = x
    · subst hyx
      exact .inr hz
    · have hyw : y ∉ ws := fun z => hn (by rw [h2]; simp [z])
      cases hf : f y with
      | true => exact .inl (I.cl y hf (by simp [hyw, hyx]) z hz)
      | false => exact absurd (h3 y hy hf) hn
/-- the other way: rounds over all that is found -/
structure Rnd (succ : Nat → List Nat) (s n : Nat) (f : Nat → Bool) (R : List Nat) : Prop where
  mem : ∀ i, f i = true ↔ i ∈ R
  lt : ∀ w ∈ R, w < n
  re : ∀ x ∈ R, Reach succ s x
  st : s ∈ R
  pot : R.length + cntF f n = n
theorem Rnd.row {succ : Nat → List Nat} {s n : Nat} (hs : ∀ x, x < n → ∀ y ∈ succ x, y < n) {x : Nat} {f : Nat → Bool} {R : List Nat} (I : Rnd succ s n f R) (hx : x ∈ R) :
    let r := (succ x).foldl visit (f, R)
    Rnd succ s n r.1 r.2 ∧ (∃ e, r.2 = R ++ e) ∧ ∀ y ∈ succ x, y ∈ r.2 := by
  obtain ⟨h1, ⟨ex, h2, h2'⟩, h3, h4⟩ := visit_fold n (succ x) f R (hs x (I.lt x hx))
  have hm : ∀ i, ((succ x).foldl visit (f, R)).1 i = true ↔ i ∈ ((succ x).foldl visit (f, R)).2 := fun i => by
    constructor
    · intro h
      cases hf : f i with
      | true => rw [h2]; simp [(I.mem i).mp hf]
      | false => exact h3 i h hf
    · intro h
      rw [h2] at h
      rcases List.mem_append.mp h with h | h
      · exact (h1 i).mpr (.inl ((I.mem i).mpr h))
      · exact (h1 i).mpr (.inr (h2' i h))
  refine ⟨⟨hm, fun w hw => ?_, fun w hw => ?_, by rw [h2]; simp [I.st], by rw [h4]; exact I.pot⟩, ⟨ex, h2⟩, fun y hy => (hm y).mp ((h1 y).mpr (.inr hy))⟩
  · rw [h2] at hw
    rcases List.mem_append.mp hw with h | h
    · exact I.lt w h
    · exact hs x (I.lt x hx) w (h2' w h)
  · rw [h2] at hw
    rcases List.mem_append.mp hw with h | h
    · exact I.re w h
    · exact .step (I.re x hx) (h2' w h)
theorem Rnd.rows {succ : Nat → List Nat} {s n : Nat} (hs : ∀ x, x < n → ∀ y ∈ succ x, y < n) : ∀ (xs : List Nat) (f : Nat → Bool) (R : List Nat), Rnd succ s n f R → (∀ x ∈ xs, x ∈ R) →
    let r := xs.foldl (fun st x => (succ x).foldl visit st) (f, R)
    Rnd succ s n r.1 r.2 ∧ (∃ e, r.2 = R ++ e) ∧ ∀ x ∈ xs, ∀ y ∈ succ x, y ∈ r.2
  | [], f, R, I, _ => ⟨I, ⟨[], by simp⟩, by simp⟩
  | x :: xs, f, R, I, h => by
    obtain ⟨I1, ⟨e1, q1⟩, c1⟩ := Rnd.row hs I (h x (by simp))
    obtain ⟨I2, ⟨e2, q2⟩, c2⟩ := Rnd.rows hs xs _ _ I1 fun y hy => by rw [q1]; simp [h y (by simp [hy])]
    refine ⟨I2, ⟨e1 ++ e2, ?_⟩, fun y hy z hz => ?_⟩
    · refine q2.trans ?_
      rw [q1, List.append_assoc]
    · rcases List.mem_cons.mp hy with rfl | hy
      · refine (show _ ∈ _ from ?_)
        have : z ∈ ((succ y).foldl visit (f, R)).2 ++ e2 := by simp [c1 z hz]
        rwa [← q2] at this
      · exact c2 y hy z hz
def sm {α : Type} (f : α → Rat) : List α → Rat
  | [] => 0
  | x :: xs => f x + sm f xs
section
variable {α : Type} {f g : α → Rat} {xs : List α}
theorem sumQ_sm (r : Rat) (f : α → Rat) (xs : List α) : sumQ r (xs.map f) = r + sm f xs := by
  induction xs generalizing r with
  | nil => rw [List.map_nil, sumQ_nil, sm, Rat.add_zero]
  | cons x xs ih => rw [List.map_cons, sumQ_cons, ih, sm, Rat.add_assoc]
theorem sumQ0_sm (f : α → Rat) (xs : List α) : sumQ 0 (xs.map f) = sm f xs := by rw [sumQ_sm, Rat.zero_add]
theorem sm_filter (c : α → Bool) (f : α → Rat) (xs : List α) : sm f (xs.filter c) = sm (fun x => if c x = true then f x else 0) xs := by
  induction xs with
  | nil => rfl
  | cons x xs ih =>
    rw [sm]
    cases h : c x with
    | true => rw [List.filter_cons_of_pos h, sm, ih, if_pos rfl]
    | false => rw [List.filter_cons_of_neg (by rw [h]; simp), ih, if_neg (by simp), Rat.zero_add]
theorem sm_congr (h : ∀ x ∈ xs, f x = g x) : sm f xs = sm g xs := by
  induction xs with
  | nil => rfl
  | cons x xs ih => rw [sm, sm, h x (by simp), ih fun y hy => h y (by simp [hy])]
theorem sm_add (f g : α → Rat) (xs : List α) : sm (fun x => f x + g x) xs = sm f xs + sm g xs := by
  induction xs with
  | nil => rw [sm, sm, sm, Rat.add_zero]
  | cons x xs ih => rw [sm, sm, sm, ih]; grind
theorem sm_sub (f g : α → Rat) (xs : List α) : sm (fun x => f x - g x) xs = sm f xs - sm g xs := by
  induction xs with
  | nil => rw [sm, sm, sm]; grind
  | cons x xs ih => rw [sm, sm, sm, ih]; grind
theorem sm_mul (c : Rat) (f : α → Rat) (xs : List α) : sm (fun x => c * f x) xs = c * sm f xs := by
  induction xs with
  | nil => rw [sm, sm, Rat.mul_zero]
  | cons x xs ih => rw [sm, sm, ih, Rat.mul_add]
theorem sm_zero (h : ∀ x ∈ xs, f x = 0) : sm f xs = 0 := by
  induction xs with
  | nil => rfl
  | cons x xs ih => rw [sm, h x (by simp), ih fun y hy => h y (by simp [hy]), Rat.add_zero]
end
end Q
set_option Elab.async false
set_option linter.all false
set_option maxRecDepth 100000
set_option maxHeartbeats 1000000
namespace Q
open PySem L2
def gz (r : List Rat) (j : Nat) : Rat := (r[j]?).getD 0
theorem gz_out {r : List Rat} {j : Nat} (h : r.length ≤ j) : gz r j = 0 := by
  unfold gz; rw [List.getElem?_eq_none h]; rfl
theorem gz_in {r : List Rat} {j : Nat} (h : j < r.length) : gz r j = r[j] := by
  unfold gz; rw [List.getElem?_eq_getElem h]; rfl
def wo (row other : List Rat) (c : Nat) : List Rat := if gz row c = 0 then row else (row.zip other).map fun p => p.1 - gz row c * p.2
theorem wo_len {row other : List Rat} {c : Nat} (h : row.length = other.length) : (wo row other c).length = row.length := by
  unfold wo
  split
  · rfl
  · simp; omega
theorem gz_wo {row other : List Rat} {c : Nat} (h : row.length = other.length) (j : Nat) : gz (wo row other c) j = gz row j - gz row c * gz other j := by
  unfold wo
  split
  · rename_i h0; rw [h0]; grind
  · by_cases hj : j < row.length
    · have h2 : ((row.zip other).map fun p => p.1 - gz row c * p.2).length = row.length := by simp; omega
      rw [gz_in (by rw [h2]; exact hj), gz_in hj, gz_in (by omega : j < other.length)]
      simp
    · rw [gz_out (by simp; omega), gz_out (r := row) (j := j) (by omega), gz_out (r := other) (j := j) (by omega)]; grind
def sc (row : List Rat) (p : Rat) : List Rat := row.map fun x => x / p
theorem gz_sc (row : List Rat) (p : Rat) (j : Nat) : gz (sc row p) j = gz row j / p := by
  unfold sc
  by_cases hj : j < row.length
  · rw [gz_in (by simpa using hj), gz_in hj]; simp
  · rw [gz_out (by simp; omega), gz_out (by omega)]; grind
theorem sc_len (row : List Rat) (p : Rat) : (sc row p).length = row.length := by simp [sc]
def fnz (row : List Rat) (n : Nat) : Option Nat := (List.range n).find? fun c => decide (gz row c ≠ 0)
theorem fnz_none {row : List Rat} {n : Nat} (h : fnz row n = none) : ∀ c, c < n → gz row c = 0 := fun c hc => by
  unfold fnz at h
  have := List.find?_eq_none.mp h c (List.mem_range.mpr hc)
  simpa using this
theorem fnz_some {row : List Rat} {n c : Nat} (h : fnz row n = some c) : c < n ∧ gz row c ≠ 0 := by
  unfold fnz at h
  have h1 := List.mem_range.mp (List.mem_of_find?_eq_some h)
  have h2 := List.find?_some h
  exact ⟨h1, by simpa using h2⟩
def gRow (rows : List (List Rat)) (cols : List Nat) (row : List Rat) : List Rat := (cols.zip rows).foldl (fun r p => wo r p.2 p.1) row
inductive GR where
  | dep (y : List Rat)
  | sol (rows : List (List Rat)) (cols : List Nat)
def gRun (G : Nat → List Rat) (n : Nat) : Nat → Nat → List (List Rat) → List Nat → GR
  | 0, _, rows, cols => .sol rows cols
  | k + 1, t, rows, cols => match fnz (gRow rows cols (G t)) n with
    | none => .dep ((gRow rows cols (G t)).drop ((gRow rows cols (G t)).length - n))
    | some c => gRun G n k (t + 1) (rows.map (fun o => wo o (sc (gRow rows cols (G t)) (gz (gRow rows cols (G t)) c)) c) ++ [sc (gRow rows cols (G t)) (gz (gRow rows cols (G t)) c)]) (cols ++ [c])
def Lin (r : List Rat) (a : Rat) (r1 : List Rat) (b : Rat) (r2 : List Rat) : Prop := ∀ j, gz r j = a * gz r1 j + b * gz r2 j
def dot (φ : Nat → Rat) (L : Nat) (r : List Rat) : Rat := sm (fun j => φ j * gz r j) (List.range L)
theorem dot_lin {φ : Nat → Rat} {L : Nat} {r r1 r2 : List Rat} {a b : Rat} (h : Lin r a r1 b r2) : dot φ L r = a * dot φ L r1 + b * dot φ L r2 := by
  unfold dot
  rw [← sm_mul, ← sm_mul, ← sm_add]
  exact sm_congr fun j _ => by rw [h j]; grind
theorem lin_wo {row other : List Rat} {c : Nat} (h : row.length = other.length) : Lin (wo row other c) 1 row (-(gz row c)) other := fun j => by
  rw [gz_wo h]; grind
theorem lin_sc (row : List Rat) (p : Rat) : Lin (sc row p) (1 / p) row 0 row := fun j => by
  rw [gz_sc]; grind
/-- r is made of the given rows ahead of t, by what it bears behind q -/
structure Comb (G : Nat → List Rat) (q n L t : Nat) (r : List Rat) : Prop where
  eq : ∀ j, j < L → gz r j = sm (fun k => gz r (q + k) * gz (G k) j) (List.range t)
  zero : ∀ k, t ≤ k → k < n → gz r (q + k) = 0
theorem Comb.lin {G : Nat → List Rat} {q n L t : Nat} {r r1 r2 : List Rat} {a b : Rat} (h1 : Comb G q n L t r1) (h2 : Comb G q n L t r2) (h : Lin r a r1 b r2) : Comb G q n L t r where
  eq := fun j hj => by
    rw [h j, h1.eq j hj, h2.eq j hj, ← sm_mul, ← sm_mul, ← sm_add]
    exact sm_congr fun k _ => by rw [h (q + k)]; grind
  zero := fun k hk hn => by rw [h (q + k), h1.zero k hk hn, h2.zero k hk hn]; grind
theorem sm_range_succ (f : Nat → Rat) (t : Nat) : sm f (List.range (t + 1)) = sm f (List.range t) + f t := by
  have key : ∀ (xs : List Nat) (y : Nat), sm f (xs ++ [y]) = sm f xs + f y := by
    intro xs y
    induction xs with
    | nil => show f y + 0 = 0 + f y; grind
    | cons x xs ih => show f x + sm f (xs ++ [y]) = f x + sm f xs + f y; rw [ih]; grind
  rw [List.range_succ, key]
theorem Comb.up {G : Nat → List Rat} {q n L t : Nat} {r : List Rat} (h : Comb G q n L t r) (ht : t < n) : Comb G q n L (t + 1) r where
  eq := fun j hj => by
    rw [sm_range_succ, h.zero t (Nat.le_refl _) ht, h.eq j hj]; grind
  zero := fun k hk hn => h.zero k (by omega) hn
/-- the given rows: what is given and the unit behind q -/
structure Given (G : Nat → List Rat) (q n L : Nat) : Prop where
  hL : L = q + n
  hq : n ≤ q
  len : ∀ k, k < n → (G k).length = L
  unit : ∀ k l, k < n → l < n → gz (G k) (q + l) = if l = k then 1 else 0
theorem sm_one {f : Nat → Rat} {t : Nat} : ∀ {n : Nat}, t < n → (∀ k, k ≠ t → f k = 0) → sm f (List.range n) = f t
  | 0, h, _ => by omega
  | n + 1, h, hz => by
    rw [sm_range_succ]
    by_cases e : t = n
    · subst e
      rw [sm_zero fun k hk => hz k (by have := List.mem_range.mp hk; omega)]; grind
    · rw [sm_one (by omega) hz, hz n (fun z => e z.symm)]; grind
theorem Given.comb {G : Nat → List Rat} {q n L t : Nat} (g : Given G q n L) (ht : t < n) : Comb G q n L (t + 1) (G t) where
  eq := fun j hj => by
    rw [sm_one (t := t) (by omega) (fun k hk => ?_), g.unit t t ht ht, if_pos rfl]
    · grind
    · by_cases hkn : k < n
      · rw [g.unit t k ht hkn, if_neg hk]; grind
      · rw [gz_out (by rw [g.len t ht, g.hL]; omega)]; grind
  zero := fun k hk hn => by rw [g.unit t k ht hn, if_neg (by omega)]
structure GI (G : Nat → List Rat) (q n L t : Nat) (rows : List (List Rat)) (cols : List Nat) : Prop where
  lr : rows.length = t
  lc : cols.length = t
  len : ∀ r ∈ rows, r.length = L
  clt : ∀ c ∈ cols, c < n
  one : ∀ (i j : Nat) (r : List Rat) (c : Nat), rows[i]? = some r → cols[j]? = some c → gz r c = if i = j then 1 else 0
  comb : ∀ r ∈ rows, Comb G q n L t r
  span : ∀ φ : Nat → Rat, (∀ r ∈ rows, dot φ L r = 0) → ∀ k, k < t → dot φ L (G k) = 0
theorem GI.start {G : Nat → List Rat} {q n L : Nat} : GI G q n L 0 [] [] :=
  ⟨rfl, rfl, by simp, by simp, by simp, by simp, fun _ _ k hk => by omega⟩
structure RowI (G : Nat → List Rat) (q n L t : Nat) (rows : List (List Rat)) (cols : List Nat) (i : Nat) (r : List Rat) : Prop where
  len : r.length = L
  zer : ∀ (j : Nat) (c : Nat), j < i → cols[j]? = some c → gz r c = 0
  comb : Comb G q n L (t + 1) r
  unit : gz r (q + t) = 1
  dots : ∀ φ : Nat → Rat, (∀ r ∈ rows, dot φ L r = 0) → dot φ L r = dot φ L (G t)
theorem GI.row {G : Nat → List Rat} {q n L t : Nat} {rows : List (List Rat)} {cols : List Nat} (g : Given G q n L) (I : GI G q n L t rows cols) (ht : t < n) : RowI G q n L t rows cols t (gRow rows cols (G t)) := by
  have key : ∀ (xs : List (Nat × List Rat)) (i : Nat) (r : List Rat), (∀ (k : Nat) (p : Nat × List Rat), xs[k]? = some p → cols[i + k]? = some p.1 ∧ rows[i + k]? = some p.2) → RowI G q n L t rows cols i r → RowI G q n L t rows cols (i + xs.length) (xs.foldl (fun r p => wo r p.2 p.1) r) := by
    intro xs
    induction xs with
    | nil => intro i r _ h; exact h
    | cons p xs ih =>
      intro i r hx h
      obtain ⟨hc, hr⟩ := hx 0 p rfl
      rw [Nat.add_zero] at hc hr
      have hm : p.2 ∈ rows := List.mem_of_getElem? hr
      have hl : r.length = p.2.length := by rw [h.len, I.len _ hm]
      have hL := lin_wo (row := r) (other := p.2) (c := p.1) hl
      have step : RowI G q n L t rows cols (i + 1) (wo r p.2 p.1) := by
        refine ⟨by rw [wo_len hl, h.len], fun j c hj hcj => ?_, h.comb.lin ((I.comb _ hm).up ht) hL, ?_, fun φ hφ => ?_⟩
        · rw [gz_wo hl]
          by_cases hji : j = i
          · subst hji
            rw [hc] at hcj; cases hcj
            rw [I.one j j p.2 p.1 hr hc, if_pos rfl]; grind
          · rw [h.zer j c (by omega) hcj, I.one i j p.2 c hr hcj, if_neg (fun z => hji z.symm)]; grind
        · rw [gz_wo hl, h.unit, (I.comb _ hm).zero t (Nat.le_refl _) ht]; grind
        · rw [dot_lin hL, hφ _ hm, h.dots φ hφ]; grind
      have := ih (i + 1) (wo r p.2 p.1) (fun k p' hk => by
        have := hx (k + 1) p' (by simpa using hk)
        rwa [show i + (k + 1) = i + 1 + k by omega] at this) step
      rw [List.length_cons, show i + (xs.length + 1) = i + 1 + xs.length by omega]
      exact this
  have h0 : RowI G q n L t rows cols 0 (G t) := ⟨g.len t ht, fun j c hj => by omega, g.comb ht, by rw [g.unit t t ht ht, if_pos rfl], fun φ _ => rfl⟩
  have := key (cols.zip rows) 0 (G t) (fun k p hk => by
    rw [List.getElem?_zip_eq_some] at hk
    rw [Nat.zero_add]; exact hk) h0
  have hz : (cols.zip rows).length = t := by simp [I.lr, I.lc]
  rw [hz, Nat.zero_add] at this
  exact this
theorem GI.next {G : Nat → List Rat} {q n L t c : Nat} {rows : List (List Rat)} {cols : List Nat} (g : Given G q n L) (I : GI G q n L t rows cols) (ht : t < n) (hc : c < n) (h0 : gz (gRow rows cols (G t)) c ≠ 0) :
    GI G q n L (t + 1) (rows.map (fun o => wo o (sc (gRow rows cols (G t)) (gz (gRow rows cols (G t)) c)) c) ++ [sc (gRow rows cols (G t)) (gz (gRow rows cols (G t)) c)]) (cols ++ [c]) := by
  have R := GI.row g I ht
  generalize gRow rows cols (G t) = row at *
  generalize hp : gz row c = p at *
  have hs := lin_sc row p
  have slen : (sc row p).length = L := by rw [sc_len, R.len]
  have sone : gz (sc row p) c = 1 := by rw [gz_sc, hp]; grind
  have szer : ∀ (j c' : Nat), cols[j]? = some c' → gz (sc row p) c' = 0 := fun j c' hj => by
    have hj' : j < t := by
      have := (List.getElem?_eq_some_iff.mp hj).1
      rw [I.lc] at this; exact this
    rw [gz_sc, R.zer j c' hj' hj]; grind
  have scomb : Comb G q n L (t + 1) (sc row p) := R.comb.lin R.comb hs
  have wl : ∀ r ∈ rows, r.length = (sc row p).length := fun r hr => by rw [slen, I.len r hr]
  refine ⟨by simp [I.lr], by simp [I.lc], fun r hr => ?_, fun c' hc' => ?_, fun i j r c' hi hj => ?_, fun r hr => ?_, fun φ hφ k hk => ?_⟩
  · rcases List.mem_append.mp hr with h | h
    · obtain ⟨o, ho, rfl⟩ := List.mem_map.mp h
      rw [wo_len (wl o ho), I.len o ho]
    · rw [List.mem_singleton.mp h, slen]
  · rcases List.mem_append.mp hc' with h | h
    · exact I.clt c' h
    · rw [List.mem_singleton.mp h]; exact hc
  · have hlm : (rows.map fun o => wo o (sc row p) c).length = t := by simp [I.lr]
    by_cases hit : i < t
    · rw [List.getElem?_append_left (by rw [hlm]; exact hit), List.getElem?_map] at hi
      obtain ⟨o, ho, rfl⟩ := Option.map_eq_some_iff.mp hi
      have hom : o ∈ rows := List.mem_of_getElem? ho
      rw [gz_wo (wl o hom)]
      by_cases hjt : j < t
      · rw [List.getElem?_append_left (by rw [I.lc]; exact hjt)] at hj
        rw [szer j c' hj, I.one i j o c' ho hj]; grind
      · have hje : j = t := by
          have := (List.getElem?_eq_some_iff.mp hj).1
          rw [List.length_append, List.length_singleton, I.lc] at this; omega
        subst hje
        rw [List.getElem?_append_right (by rw [I.lc]; exact Nat.le_refl _), I.lc, Nat.sub_self] at hj
        cases hj
        rw [sone, if_neg (by omega)]; grind
    · have hie : i = t := by
        have := (List.getElem?_eq_some_iff.mp hi).1
        rw [List.length_append, List.length_singleton, hlm] at this; omega
      subst hie
      rw [List.getElem?_append_right (by rw [hlm]; exact Nat.le_refl _), hlm, Nat.sub_self] at hi
      cases hi
      by_cases hjt : j < i
      · rw [List.getElem?_append_left (by rw [I.lc]; exact hjt)] at hj
        rw [szer j c' hj, if_neg (by omega)]
      · have hje : j = i := by
          have := (List.getElem?_eq_some_iff.mp hj).1
          rw [List.length_append, List.length_singleton, I.lc] at this; omega
        subst hje
        rw [List.getElem?_append_right (by rw [I.lc]; exact Nat.le_refl _), I.lc, Nat.sub_self] at hj
        cases hj
        rw [sone, if_pos rfl]
  · rcases List.mem_append.mp hr with h | h
    · obtain ⟨o, ho, rfl⟩ := List.mem_map.mp h
      exact ((I.comb o ho).up ht).lin scomb (lin_wo (wl o ho))
    · rw [List.mem_singleton.mp h]; exact scomb
  · have hsd : dot φ L (sc row p) = 0 := hφ _ (by simp)
    have hold : ∀ r ∈ rows, dot φ L r = 0 := fun r hr => by
      have h1 := hφ (wo r (sc row p) c) (by simp only [List.mem_append, List.mem_map]; exact .inl ⟨r, hr, rfl⟩)
      rw [dot_lin (lin_wo (wl r hr)), hsd] at h1
      grind
    by_cases hkt : k < t
    · exact I.span φ hold k hkt
    · have : k = t := by omega
      subst this
      rw [← R.dots φ hold]
      rw [dot_lin hs] at hsd
      have hp' : p * (1 / p) = 1 := by grind
      have h2 : p * (1 / p * dot φ L row + 0 * dot φ L row) = 0 := by rw [hsd, Rat.mul_zero]
      have h3 : p * (1 / p * dot φ L row + 0 * dot φ L row) = (p * (1 / p)) * dot φ L row := by grind
      rw [h3, hp', Rat.one_mul] at h2
      exact h2
/-- n different numbers below n are all of them -/
theorem visit_nodup (n : Nat) : ∀ (xs : List Nat) (f : Nat → Bool) (ws : List Nat), xs.Nodup → (∀ x ∈ xs, f x = false) → (xs.foldl visit (f, ws)).2 = ws ++ xs
  | [], f, ws, _, _ => by simp
  | x :: xs, f, ws, h, hf => by
    rw [List.foldl_cons, show visit (f, ws) x = (updB f x, ws ++ [x]) from if_neg (by show ¬ f x = true; rw [hf x (by simp)]; simp)]
    obtain ⟨h1, h2⟩ := List.nodup_cons.mp h
    rw [visit_nodup n xs (updB f x) (ws ++ [x]) h2 fun y hy => ?_]
    · simp
    · unfold updB
      rw [if_neg (fun (e : y = x) => h1 (e ▸ hy)), hf y (by simp [hy])]
theorem nodup_len {n : Nat} {xs : List Nat} (h : xs.Nodup) (hl : ∀ x ∈ xs, x < n) : xs.length ≤ n := by
  have v := (visit_fold n xs (fun _ => false) [] hl).pot
  rw [visit_nodup n xs _ _ h fun _ _ => rfl] at v
  have := cntF_le (fun _ => false) n
  simp at v
  omega
theorem nodup_all {n : Nat} {xs : List Nat} (h : xs.Nodup) (hl : ∀ x ∈ xs, x < n) (hn : xs.length = n) : ∀ j, j < n → j ∈ xs := fun j hj => by
  refine Classical.byContradiction fun hno => ?_
  have h2 := nodup_len (n := n) (xs := j :: xs) (List.nodup_cons.mpr ⟨hno, h⟩) (fun x hx => by
    rcases List.mem_cons.mp hx with rfl | hx
    · exact hj
    · exact hl x hx)
  rw [List.length_cons] at h2
  omega
theorem GI.nodup {G : Nat → List Rat} {q n L t : Nat} {rows : List (List Rat)} {cols : List Nat} (I : GI G q n L t rows cols) : cols.Nodup := by
  rw [List.nodup_iff_pairwise_ne, List.pairwise_iff_getElem]
  intro i j hi hj hij e
  have hr : i < rows.length := by rw [I.lr, ← I.lc]; exact hi
  have h1 := I.one i i rows[i] cols[i] (List.getElem?_eq_getElem hr) (List.getElem?_eq_getElem hi)
  have h2 := I.one i j rows[i] cols[i] (List.getElem?_eq_getElem hr) (by rw [List.getElem?_eq_getElem hj, e])
  rw [if_pos rfl] at h1
  rw [if_neg (by omega), h1] at h2
  exact absurd h2 (by decide)
/-- what elimination tells: a dependency, or rows that give a solution -/
theorem gRun_spec {G : Nat → List Rat} {q n L : Nat} (g : Given G q n L) : ∀ (k t : Nat) (rows : List (List Rat)) (cols : List Nat), k + t = n → GI G q n L t rows cols →
    (∃ y, gRun G n k t rows cols = .dep y ∧ y.length = n ∧ (∃ k, k < n ∧ gz y k ≠ 0) ∧ ∀ j, j < n → sm (fun k => gz y k * gz (G k) j) (List.range n) = 0) ∨
    (∃ rows' cols', gRun G n k t rows cols = .sol rows' cols' ∧ GI G q n L n rows' cols')
  | 0, t, rows, cols, h, I => .inr ⟨rows, cols, rfl, by rw [Nat.zero_add] at h; subst h; exact I⟩
  | k + 1, t, rows, cols, h, I => by
    have ht : t < n := by omega
    have R := GI.row g I ht
    rw [gRun]
    cases hf : fnz (gRow rows cols (G t)) n with
    | some c =>
      obtain ⟨hc, h0⟩ := fnz_some hf
      exact gRun_spec g k (t + 1) _ _ (by omega) (GI.next g I ht hc h0)
    | none =>
      have hz := fnz_none hf
      generalize gRow rows cols (G t) = row at *
      have hq : row.length - n = q := by rw [R.len, g.hL]; omega
      have gy : ∀ k, gz (row.drop (row.length - n)) k = gz row (q + k) := fun k => by
        unfold gz; rw [List.getElem?_drop, hq]
      refine .inl ⟨_, rfl, by rw [List.length_drop, R.len, g.hL]; omega, ⟨t, ht, by rw [gy, R.unit]; decide⟩, fun j hj => ?_⟩
      have h1 := R.comb.eq j (by rw [g.hL]; have := g.hq; omega)
      rw [hz j hj] at h1
      have key : ∀ m, t + 1 + m ≤ n → sm (fun k => gz (row.drop (row.length - n)) k * gz (G k) j) (List.range (t + 1 + m)) = 0 := by
        intro m
        induction m with
        | zero =>
          intro _
          rw [Nat.add_zero, h1]
          exact sm_congr fun k _ => by rw [gy]
        | succ m ih =>
          intro hm
          rw [← Nat.add_assoc, sm_range_succ, ih (by omega), gy, R.comb.zero (t + 1 + m) (by omega) (by omega)]; grind
      have := key (n - (t + 1)) (by omega)
      rwa [show t + 1 + (n - (t + 1)) = n by omega] at this
/-- the row that stands for a column -/
def pick (rows : List (List Rat)) (cols : List Nat) (c : Nat) : List Rat := (rows[cols.idxOf c]?).getD []
theorem GI.pick {G : Nat → List Rat} {q n L : Nat} {rows : List (List Rat)} {cols : List Nat} (I : GI G q n L n rows cols) {c : Nat} (hc : c < n) : ∃ i : Nat, cols[i]? = some c ∧ rows[i]? = some (Q.pick rows cols c) ∧ Q.pick rows cols c ∈ rows := by
  have hm := nodup_all I.nodup I.clt I.lc c hc
  have hi := List.idxOf_lt_length_of_mem hm
  have hr : cols.idxOf c < rows.length := by rw [I.lr, ← I.lc]; exact hi
  have e : Q.pick rows cols c = rows[cols.idxOf c] := by
    unfold Q.pick
    rw [List.getElem?_eq_getElem hr]; rfl
  refine ⟨cols.idxOf c, ?_, ?_, ?_⟩
  · rw [List.getElem?_eq_getElem hi, List.getElem_idxOf hi]
  · rw [e, List.getElem?_eq_getElem hr]
  · rw [e]; exact List.getElem_mem hr
theorem GI.solved {G : Nat → List Rat} {q n L : Nat} {rows : List (List Rat)} {cols : List Nat} (g : Given G q n L) (I : GI G q n L n rows cols) {k j : Nat} (hk : k < n) (hj : n ≤ j) (hjL : j < L) :
    sm (fun c => gz (G k) c * gz (Q.pick rows cols c) j) (List.range n) = gz (G k) j := by
  have hnL : n ≤ L := by rw [g.hL]; have := g.hq; omega
  let φ : Nat → Rat := fun x => if x = j then 1 else if x < n then -(gz (Q.pick rows cols x) j) else 0
  have hdot : ∀ r : List Rat, dot φ L r = gz r j - sm (fun c => gz r c * gz (Q.pick rows cols c) j) (List.range n) := fun r => by
    have key : ∀ m, n ≤ m → sm (fun x => φ x * gz r x) (List.range m) = (if j < m then gz r j else 0) - sm (fun c => gz r c * gz (Q.pick rows cols c) j) (List.range n) := by
      intro m hm
      induction m with
      | zero =>
        have : n = 0 := by omega
        subst this
        show (0 : Rat) = (if j < 0 then _ else 0) - 0
        rw [if_neg (by omega)]; grind
      | succ m ih =>
        by_cases hmn : m + 1 = n
        · rw [if_neg (by omega), hmn]
          have : ∀ x ∈ List.range n, φ x * gz r x = (-1) * (gz r x * gz (Q.pick rows cols x) j) := fun x hx => by
            have hx := List.mem_range.mp hx
            show (if x = j then (1 : Rat) else if x < n then -(gz (Q.pick rows cols x) j) else 0) * gz r x = _
            rw [if_neg (by omega), if_pos hx]; grind
          rw [sm_congr this, sm_mul]; grind
        · rw [sm_range_succ, ih (by omega)]
          have hφ : φ m = if m = j then 1 else 0 := by
            show (if m = j then (1 : Rat) else if m < n then _ else 0) = _
            by_cases e : m = j
            · rw [if_pos e, if_pos e]
            · rw [if_neg e, if_neg e, if_neg (by omega)]
          rw [hφ]
          by_cases e : m = j
          · subst e
            rw [if_pos rfl, if_neg (by omega), if_pos (by omega)]; grind
          · rw [if_neg e]
            by_cases h2 : j < m
            · rw [if_pos h2, if_pos (by omega)]; grind
            · rw [if_neg h2, if_neg (by omega)]; grind
    have := key L hnL
    rw [if_pos hjL] at this
    exact this
  have hkill : ∀ r ∈ rows, dot φ L r = 0 := fun r hr => by
    obtain ⟨i, hi⟩ := List.mem_iff_getElem?.mp hr
    have hil : i < cols.length := by
      have := (List.getElem?_eq_some_iff.mp hi).1
      rw [I.lr, ← I.lc] at this; exact this
    have hci := List.getElem?_eq_getElem hil
    have hcn := I.clt _ (List.getElem_mem hil)
    obtain ⟨i', h1, h2, _⟩ := I.pick hcn
    have hii : i' = i := by
      have hi'l := (List.getElem?_eq_some_iff.mp h1).1
      have o1 := I.one i' i (Q.pick rows cols cols[i]) cols[i] h2 hci
      have o2 := I.one i' i' (Q.pick rows cols cols[i]) cols[i] h2 h1
      rw [if_pos rfl] at o2
      rw [o2] at o1
      by_cases e : i' = i
      · exact e
      · rw [if_neg e] at o1; exact absurd o1 (by decide)
    subst hii
    rw [h2] at hi
    have hrp : Q.pick rows cols cols[i'] = r := Option.some.inj hi
    rw [hdot, sm_one (t := cols[i']) hcn (fun c hc => ?_), hrp]
    · have := I.one i' i' r cols[i'] (by rw [h2, hrp]) hci
      rw [if_pos rfl] at this
      rw [this]; grind
    · by_cases hcn' : c < n
      · obtain ⟨i2, h3, h4, _⟩ := I.pick hcn'
        have := I.one i' i2 r c (by rw [h2, hrp]) h3
        rw [if_neg (fun e => by subst e; rw [hci] at h3; exact hc (Option.some.inj h3).symm)] at this
        rw [this]; grind
      · have : Q.pick rows cols c = [] := by
          unfold Q.pick
          have : c ∉ cols := fun h => hcn' (I.clt c h)
          rw [List.idxOf_eq_length this, List.getElem?_eq_none (by rw [I.lr, I.lc]; exact Nat.le_refl _)]; rfl
        rw [this]
        show _ * gz [] j = 0
        rw [gz_out (r := []) (j := j) (Nat.zero_le _)]; grind
  have := I.span φ hkill k hk
  rw [hdot] at this
  grind
/-- a row over one denominator: its first n items and the others -/
def Bd (n : Nat) (x : Nat × Nat) (r : List Rat) : Prop := ∃ d : Int, 0 < d ∧ d.natAbs < 2 ^ x.1 ∧ (∀ j, j < n → ∃ z : Int, gz r j * (d : Rat) = (z : Rat) ∧ z.natAbs < 2 ^ x.1) ∧ ∀ j, n ≤ j → ∃ z : Int, gz r j * (d : Rat) = (z : Rat) ∧ z.natAbs < 2 ^ x.2
def bW (p x : Nat × Nat) : Nat × Nat := (x.1 + p.1 + 1, max (x.2 + p.1) (x.1 + p.2) + 1)
def bRow (p x : Nat × Nat) : Nat → Nat × Nat
  | 0 => x
  | k + 1 => bW p (bRow p x k)
def bD (x : Nat × Nat) : Nat × Nat := x
def bSt (x : Nat × Nat) : Nat → Nat × Nat
  | 0 => (1, 1)
  | t + 1 => bW (bD (bRow (bSt x t) x t)) (bSt x t)
def bOk (x : Nat × Nat) : Bool := decide (x.1 ≤ 30000000) && decide (x.2 ≤ 30000000)
def gOk (x : Nat × Nat) (n : Nat) : Bool := (List.range n).all fun t => bOk (bSt x t) && bOk (bD (bRow (bSt x t) x t)) && (List.range (t + 1)).all fun k => bOk (bRow (bSt x t) x k)
theorem pow2_le {a b : Nat} (h : a ≤ b) : 2 ^ a ≤ 2 ^ b := Nat.pow_le_pow_right (by decide) h
theorem Bd.mono {n : Nat} {x y : Nat × Nat} {r : List Rat} (h : Bd n x r) (h1 : x.1 ≤ y.1) (h2 : x.2 ≤ y.2) : Bd n y r := by
  obtain ⟨d, d0, d1, a, b⟩ := h
  refine ⟨d, d0, Nat.lt_of_lt_of_le d1 (pow2_le h1), fun j hj => ?_, fun j hj => ?_⟩
  · obtain ⟨z, e, l⟩ := a j hj
    exact ⟨z, e, Nat.lt_of_lt_of_le l (pow2_le h1)⟩
  · obtain ⟨z, e, l⟩ := b j hj
    exact ⟨z, e, Nat.lt_of_lt_of_le l (pow2_le h2)⟩
theorem bd_abs {a b : Int} {i j k : Nat} (ha : a.natAbs < 2 ^ i) (hb : b.natAbs < 2 ^ j) (h : i + j ≤ k) : (a * b).natAbs < 2 ^ k :=
  Nat.lt_of_lt_of_le (natAbs_mul_lt ha hb) (pow2_le h)
theorem bd_num {a d f g e : Rat} : (a - f * g) * (d * e) = (a * d) * e - (f * d) * (g * e) := by grind
theorem Bd.wo {n c : Nat} {x p : Nat × Nat} {r o : List Rat} (h : Bd n x r) (k : Bd n p o) (hl : r.length = o.length) (hc : c < n) : Bd n (bW p x) (wo r o c) := by
  obtain ⟨d, d0, d1, a1, a2⟩ := h
  obtain ⟨e, e0, e1, b1, b2⟩ := k
  obtain ⟨f, f1, f2⟩ := a1 c hc
  have key : ∀ j (z w : Int), gz r j * (d : Rat) = (z : Rat) → gz o j * (e : Rat) = (w : Rat) → gz (Q.wo r o c) j * ((d * e : Int) : Rat) = ((z * e - f * w : Int) : Rat) := fun j z w h1 h2 => by
    rw [gz_wo hl, Rat.intCast_mul, Rat.intCast_sub, Rat.intCast_mul, Rat.intCast_mul, bd_num, h1, h2, f1]
  refine ⟨d * e, Int.mul_pos d0 e0, bd_abs d1 e1 (by show _ ≤ x.1 + p.1 + 1; omega), fun j hj => ?_, fun j hj => ?_⟩
  · obtain ⟨z, z1, z2⟩ := a1 j hj
    obtain ⟨w, w1, w2⟩ := b1 j hj
    exact ⟨_, key j z w z1 w1, natAbs_sub_lt (k := x.1 + p.1) (bd_abs z2 e1 (Nat.le_refl _)) (bd_abs f2 w2 (Nat.le_refl _))⟩
  · obtain ⟨z, z1, z2⟩ := a2 j hj
    obtain ⟨w, w1, w2⟩ := b2 j hj
    exact ⟨_, key j z w z1 w1, natAbs_sub_lt (k := max (x.2 + p.1) (x.1 + p.2)) (bd_abs z2 e1 (Nat.le_max_left _ _)) (bd_abs f2 w2 (Nat.le_max_right _ _))⟩
theorem bd_quo {a d c : Rat} (hd : d ≠ 0) (hc : c * d ≠ 0) : a / c * (c * d) = a * d := by
  have : c ≠ 0 := fun h => hc (by rw [h, Rat.zero_mul])
  grind
theorem Bd.sc {n c : Nat} {x : Nat × Nat} {r : List Rat} (h : Bd n x r) (hc : c < n) : Bd n (bD x) (sc r (gz r c)) := by
  obtain ⟨d, d0, d1, a1, a2⟩ := h
  obtain ⟨f, f1, f2⟩ := a1 c hc
  have hd : (d : Rat) ≠ 0 := fun z => by have := Rat.intCast_inj.mp (z.trans Rat.intCast_zero.symm); omega
  rcases Int.lt_trichotomy f 0 with hf | hf | hf
  · have key : ∀ j (z : Int), gz r j * (d : Rat) = (z : Rat) → gz (Q.sc r (gz r c)) j * ((-f : Int) : Rat) = ((-z : Int) : Rat) := fun j z h1 => by
      have hfc : gz r c * (d : Rat) ≠ 0 := fun e => by rw [f1] at e; have := Rat.intCast_inj.mp (e.trans Rat.intCast_zero.symm); omega
      rw [gz_sc, Rat.intCast_neg, Rat.intCast_neg, ← f1, ← h1, Rat.mul_neg, bd_quo hd hfc]
    refine ⟨-f, by omega, by rw [Int.natAbs_neg]; exact f2, fun j hj => ?_, fun j hj => ?_⟩
    · obtain ⟨z, z1, z2⟩ := a1 j hj
      exact ⟨-z, key j z z1, by rw [Int.natAbs_neg]; exact z2⟩
    · obtain ⟨z, z1, z2⟩ := a2 j hj
      exact ⟨-z, key j z z1, by rw [Int.natAbs_neg]; exact z2⟩
  · subst hf
    have hz : gz r c = 0 := by
      rw [Rat.intCast_zero] at f1
      rcases Rat.mul_eq_zero.mp f1 with h | h
      · exact h
      · exact absurd h hd
    have key : ∀ j, gz (Q.sc r (gz r c)) j * ((1 : Int) : Rat) = ((0 : Int) : Rat) := fun j => by
      rw [gz_sc, hz, Rat.div_def, Rat.inv_zero, Rat.mul_zero, Rat.zero_mul]; rfl
    have h2 : ∀ k : Nat, Int.natAbs 0 < 2 ^ k := fun k => Nat.pos_of_ne_zero (by simp)
    have h1 : (1 : Int).natAbs < 2 ^ (bD x).1 := Nat.lt_of_le_of_lt (by omega) d1
    exact ⟨1, by decide, h1, fun j _ => ⟨0, key j, h2 _⟩, fun j _ => ⟨0, key j, h2 _⟩⟩
  · have key : ∀ j (z : Int), gz r j * (d : Rat) = (z : Rat) → gz (Q.sc r (gz r c)) j * (f : Rat) = (z : Rat) := fun j z h1 => by
      have hfc : gz r c * (d : Rat) ≠ 0 := fun e => by rw [f1] at e; have := Rat.intCast_inj.mp (e.trans Rat.intCast_zero.symm); omega
      rw [gz_sc, ← f1, ← h1, bd_quo hd hfc]
    refine ⟨f, hf, f2, fun j hj => ?_, fun j hj => ?_⟩
    · obtain ⟨z, z1, z2⟩ := a1 j hj
      exact ⟨z, key j z z1, z2⟩
    · obtain ⟨z, z1, z2⟩ := a2 j hj
      exact ⟨z, key j z z1, z2⟩
theorem bd_sz {q : Rat} {d z : Int} {a b : Nat} (hd : 0 < d) (h1 : d.natAbs < 2 ^ a) (h2 : z.natAbs < 2 ^ b) (e : q * (d : Rat) = (z : Rat)) : sz q ≤ max a b := by
  have hd0 : (d : Rat) ≠ 0 := fun z => by have := Rat.intCast_inj.mp (z.trans Rat.intCast_zero.symm); omega
  have e2 : q = Rat.divInt z d := by rw [divInt_div, ← e]; grind
  have ha : 1 ≤ a := by
    rcases Nat.eq_zero_or_pos a with h | h
    · rw [h] at h1; simp at h1; omega
    · exact h
  rw [e2]
  exact sz_divInt (Nat.lt_of_lt_of_le h2 (pow2_le (Nat.le_max_right _ _))) (Nat.lt_of_lt_of_le h1 (pow2_le (Nat.le_max_left _ _))) (Nat.le_trans ha (Nat.le_max_left _ _))
theorem Bd.at {n : Nat} {x : Nat × Nat} {r : List Rat} (h : Bd n x r) (j : Nat) : sz (gz r j) ≤ max x.1 x.2 := by
  obtain ⟨d, d0, d1, a1, a2⟩ := h
  by_cases hj : j < n
  · obtain ⟨z, z1, z2⟩ := a1 j hj
    have := bd_sz d0 d1 z2 z1
    omega
  · obtain ⟨z, z1, z2⟩ := a2 j (by omega)
    exact bd_sz d0 d1 z2 z1
theorem Bd.item {n : Nat} {x : Nat × Nat} {r : List Rat} (h : Bd n x r) (ok : bOk x = true) : ∀ q ∈ r, sz q ≤ 30000000 := fun q hq => by
  unfold bOk at ok
  rw [Bool.and_eq_true, decide_eq_true_eq, decide_eq_true_eq] at ok
  obtain ⟨j, hj⟩ := List.mem_iff_getElem?.mp hq
  have e : gz r j = q := by unfold gz; rw [hj]; rfl
  rw [← e]
  have := h.at j
  omega
theorem gOk_at {x : Nat × Nat} {n t : Nat} (h : gOk x n = true) (ht : t < n) : bOk (bSt x t) = true ∧ bOk (bD (bRow (bSt x t) x t)) = true ∧ ∀ k, k ≤ t → bOk (bRow (bSt x t) x k) = true := by
  unfold gOk at h
  rw [List.all_eq_true] at h
  have := h t (List.mem_range.mpr ht)
  rw [Bool.and_eq_true, Bool.and_eq_true, List.all_eq_true] at this
  exact ⟨this.1.1, this.1.2, fun k hk => this.2 k (List.mem_range.mpr (by omega))⟩
theorem cut_mid {α : Type} {xs : List α} {a b : Nat} (hb : b ≤ xs.length) (ha : a ≤ b) : cut xs (some (a : Int)) (some (b : Int)) = (xs.drop a).take (b - a) := by
  unfold cut
  rw [HT.sIx_nat, HT.sIx_nat, Nat.min_eq_left hb, Nat.min_eq_left (Nat.le_trans ha hb)]
theorem fold_upd {β : Type} (g : List Rat → β) : ∀ (ps : List (Nat × List Rat)) (f : Nat → β), (ps.map (·.1)).Nodup → ∀ p ∈ ps, (ps.foldl (fun f p => fun i => if i = p.1 then g p.2 else f i) f) p.1 = g p.2
  | [], _, _, _, h => by simp at h
  | q :: ps, f, nd, p, h => by
    rw [List.foldl_cons]
    rw [List.map_cons] at nd
    obtain ⟨n1, n2⟩ := List.nodup_cons.mp nd
    rcases List.mem_cons.mp h with rfl | h
    · have key : ∀ (ps : List (Nat × List Rat)) (f : Nat → β), p.1 ∉ ps.map (·.1) → (ps.foldl (fun f p => fun i => if i = p.1 then g p.2 else f i) f) p.1 = f p.1 := by
        intro ps
        induction ps with
        | nil => intro f _; rfl
        | cons q ps ih =>
          intro f hn
          rw [List.map_cons, List.mem_cons] at hn
          rw [List.foldl_cons, ih _ (fun h => hn (.inr h))]
          exact if_neg (fun e => hn (.inl e))
      rw [key ps _ n1]
      exact if_pos rfl
    · exact fold_upd g ps _ n2 p h
/-- a comprehension whose first turn changes the frame once -/
theorem lc_chg {α : Type} {vs : List Nat} {gs : D → En → Option En} {me : EM O} {env env' : En} (h : α → D) (g : α → O) {xs : List α} (hx : xs ≠ []) (acc : List O) (h0 : okE env vs = true) (h1 : okE env' vs = true) (hz : acc.length + xs.length ≤ sizeLine)
    (s0 : ∀ x ∈ xs, ∃ e1 e2, gs (h x) (wipeE env vs) = some e1 ∧ me e1 = some (g x, e2) ∧ backE env e2 vs = env') (s1 : ∀ x ∈ xs, ∃ e1 e2, gs (h x) (wipeE env' vs) = some e1 ∧ me e1 = some (g x, e2) ∧ backE env' e2 vs = env') :
    lcLoop vs gs mYes me (xs.map h) acc env = some (acc ++ xs.map g, env') := by
  cases xs with
  | nil => exact absurd rfl hx
  | cons x xs =>
    obtain ⟨e1, e2, a1, a2, a3⟩ := s0 x (by simp)
    have hl : acc.length < sizeLine := by rw [List.length_cons] at hz; omega
    rw [List.map_cons, lcLoop, if_pos h0, a1, Option.bind_some, e_mYes, Option.bind_some]
    show (if true = true then (me e1).bind _ else _) = _
    rw [if_pos rfl, a2, Option.bind_some, if_pos hl, a3, lc_mapx h g xs _ h1 (by rw [List.length_append, List.length_singleton]; rw [List.length_cons] at hz; omega) (fun y hy => s1 y (by simp [hy]))]
    simp
end Q
set_option Elab.async false
set_option linter.all false
set_option maxRecDepth 100000
set_option maxHeartbeats 1000000
namespace Q
open PySem L2 PyProof.Rows
def mGive (i : Nat) : EM O := fun env => match env[i]? with
  | some (.has o) => some (o, env.set i .un)
  | _ => none
@[simp] theorem e_mGive {i : Nat} {env : En} : mGive i env = match env[i]? with
  | some (.has o) => some (o, env.set i .un)
  | _ => none := rfl
def mCallO (f : List O → Option D) (a : EM (List O)) : EM O := fun env => (a env).bind fun p => (f p.1).bind fun d => some (.fz d, p.2)
@[simp] theorem e_mCallO {f : List O → Option D} {a : EM (List O)} {env : En} : mCallO f a env = (a env).bind fun p => (f p.1).bind fun d => some (.fz d, p.2) := rfl
end Q
set_option Elab.async false
set_option linter.all false
set_option maxRecDepth 100000
set_option maxHeartbeats 1000000
namespace Q
open PySem L2 PyProof.Rows
inductive RX where
  | ret (d : D)
  | exc (x : Str) (p : Option (Str × D))
inductive OutX where
  | ok (o : Out)
  | ex (x : Str) (p : Option (Str × D)) (env : En)
abbrev SMX := En → Option OutX
inductive ResX where
  | ok (o : O) (env : En)
  | ex (x : Str) (p : Option (Str × D)) (env : En)
abbrev EMX := En → Option ResX
inductive ResA where
  | ok (os : List O) (env : En)
  | ex (x : Str) (p : Option (Str × D)) (env : En)
abbrev AMX := En → Option ResA
def Pay (K : PySem.W.Frag) (H0 B H : Hp) : Option (Str × D) → Option Addr → Prop
  | none, d => d = none
  | some (f, dd), d => ∃ a v, d = some a ∧ H a = some (.xd [(f, v)]) ∧ Rp K B dd v ∧ B a = none ∧ H0 a = none
theorem Pay.up {K : PySem.W.Frag} {H0 H1 B H : Hp} {p : Option (Str × D)} {d : Option Addr} (e : Ex H0 H1) (h : Pay K H1 B H p d) : Pay K H0 B H p d := by
  cases p with
  | none => exact h
  | some q =>
    obtain ⟨f, dd⟩ := q
    obtain ⟨a, v, h1, h2, h3, h4, h5⟩ := h
    exact ⟨a, v, h1, h2, h3, h4, e.none h5⟩
def WishE (K : PySem.W.Frag) (mg : Str → Option Value) (H0 B0 : Hp) (ln : Nat → Option V) (Γ : List (O × V)) (B : Hp) (σ : L2.St) (W : WX) (x : Str) (p : Option (Str × D)) (env' : En) : Prop :=
  ∀ C d B' H', mg x = some (.ref C) → Ex B B' → Pay K H0 B' H' p d → Stt K H0 B0 ln Γ B' H' σ env' → W (.ref C) d σ H'
theorem _root_.L2.PS.nox {X : Cx} {st : Stmt} {t : TS} (h : PS X.nox st t) : PS X st t := ⟨fun pins s σ H D I hw =>
  wpAny_mono (h.run pins s σ H D (I.wish _) hw) (fun _ _ q => q.unwish) fun _ _ z => False.elim z⟩
theorem WishE.up {K : PySem.W.Frag} {mg : Str → Option Value} {H0 B0 : Hp} {ln : Nat → Option V} {Γ : List (O × V)} {B B1 : Hp} {σ : L2.St} {W : WX} {x : Str} {p : Option (Str × D)} {env' : En} (h : WishE K mg H0 B0 ln Γ B σ W x p env') (e : Ex B B1) : WishE K mg H0 B0 ln Γ B1 σ W x p env' :=
  fun C d B' H' hc e' hp s => h C d B' H' hc (e.trans e') hp s
def mOk (m : EM O) : EMX := fun env => (m env).map fun p => .ok p.1 p.2
def aNil : AMX := fun env => some (.ok [] env)
def aCons (a : EMX) (r : AMX) : AMX := fun env => (a env).bind fun p => match p with
  | .ok o e => (r e).map fun q => match q with
    | .ok os e2 => .ok (o :: os) e2
    | .ex x p e2 => .ex x p e2
  | .ex x p e => some (.ex x p e)
def mTupX (m : AMX) : EMX := fun env => (m env).bind fun p => match p with
  | .ok os e => if os.length ≤ sizeLine then some (.ok (.fz (.tup (O.frzs os))) e) else none
  | .ex x p e => some (.ex x p e)
def mCallX (f : List D → Option RX) (mA : EM (List O)) : EMX := fun env => (mA env).bind fun p => (f (O.frzs p.1)).map fun r => match r with
  | .ret d => .ok (.fz d) p.2
  | .exc x pl => .ex x pl p.2
section
variable {X : Cx} {k n : Nat} {x : Str} {mf : List D → Option RX} {e : Expr} {es : List Expr} {mA : EM (List O)} {p pos : Pos}
theorem QA.nox {t : TA} (h : PA X.nox es t) : PA X es t := ⟨fun ps pins s σ H Q I hw =>
  wpAny_mono (h.run ps pins s σ H Q (I.wish _) hw) (fun _ _ ⟨v, H', I', r, q⟩ => ⟨v, H', I'.unwish, r, q⟩) fun _ _ z => False.elim z⟩
end
def sOkX (m : SM) : SMX := fun env => (m env).map OutX.ok
def sSeqX (a b : SMX) : SMX := fun env => (a env).bind fun out => match out with
  | .ok (.nx e) => b e
  | .ok (.rt d) => some (.ok (.rt d))
  | .ok (.bk e) => some (.ok (.bk e))
  | .ok (.ct e) => some (.ok (.ct e))
  | .ex x p e => some (.ex x p e)
def sIfX (c : EM Bool) (a b : SMX) : SMX := fun env => (c env).bind fun p => if p.1 = true then a p.2 else b p.2
def sRaiseX (x : Str) : SMX := fun env => some (.ex x none env)
def sDropX (m : EMX) : SMX := fun env => (m env).map fun r => match r with
  | .ok _ e => .ok (.nx e)
  | .ex x p e => .ex x p e
def sRetX (m : EMX) : SMX := fun env => (m env).map fun r => match r with
  | .ok o _ => .ok (.rt o.frz)
  | .ex x p e => .ex x p e
def sAsgX (i : Nat) (m : EMX) : SMX := fun env => (m env).bind fun r => match r with
  | .ok o e => if i < e.length then some (.ok (.nx (e.set i (.has o)))) else none
  | .ex x p e => some (.ex x p e)
def outDX : OutX → Option RX
  | .ok o => (outD o).map .ret
  | .ex x p _ => some (.exc x p)
def runX (n N : Nat) (m : SMX) (ds : List D) : Option RX := if ds.length = n then (m (startE N ds)).bind outDX else none
end Q
set_option Elab.async false
set_option linter.all false
set_option maxRecDepth 100000
set_option maxHeartbeats 1000000
namespace Q
open PySem L2 PyProof.Rows
def mAdrB (a : Addr) (i : Nat) (b : Bool) : EM O := fun env => match env[i]? with
  | some (.adr a') => if a' = a then some (.fz (.bl b), env) else none
  | _ => none
@[simp] theorem e_mAdrB {a : Addr} {i : Nat} {b : Bool} {env : En} : mAdrB a i b env = match env[i]? with
  | some (.adr a') => if a' = a then some (.fz (.bl b), env) else none
  | _ => none := rfl
def msN (m : SM) : Option (Str × D) → SM
  | none => m
  | some _ => fun _ => none
@[simp] theorem e_sOkX {m : SM} {env : En} : sOkX m env = (m env).map OutX.ok := rfl
@[simp] theorem e_sSeqX {a b : SMX} {env : En} : sSeqX a b env = (a env).bind fun out => match out with
  | .ok (.nx e) => b e
  | .ok (.rt d) => some (.ok (.rt d))
  | .ok (.bk e) => some (.ok (.bk e))
  | .ok (.ct e) => some (.ok (.ct e))
  | .ex x p e => some (.ex x p e) := rfl
@[simp] theorem e_sIfX {c : EM Bool} {a b : SMX} {env : En} : sIfX c a b env = (c env).bind fun p => if p.1 = true then a p.2 else b p.2 := rfl
@[simp] theorem e_sRaiseX {x : Str} {env : En} : sRaiseX x env = some (.ex x none env) := rfl
@[simp] theorem e_sDropX {m : EMX} {env : En} : sDropX m env = (m env).map fun r => match r with
  | .ok _ e => .ok (.nx e)
  | .ex x p e => .ex x p e := rfl
@[simp] theorem e_sRetX {m : EMX} {env : En} : sRetX m env = (m env).map fun r => match r with
  | .ok o _ => .ok (.rt o.frz)
  | .ex x p e => .ex x p e := rfl
@[simp] theorem e_sAsgX {i : Nat} {m : EMX} {env : En} : sAsgX i m env = (m env).bind fun r => match r with
  | .ok o e => if i < e.length then some (.ok (.nx (e.set i (.has o)))) else none
  | .ex x p e => some (.ex x p e) := rfl
@[simp] theorem e_mOk {m : EM O} {env : En} : mOk m env = (m env).map fun p => .ok p.1 p.2 := rfl
@[simp] theorem e_aNil {env : En} : aNil env = some (.ok [] env) := rfl
@[simp] theorem e_aCons {a : EMX} {r : AMX} {env : En} : aCons a r env = (a env).bind fun p => match p with
  | .ok o e => (r e).map fun q => match q with
    | .ok os e2 => .ok (o :: os) e2
    | .ex x p e2 => .ex x p e2
  | .ex x p e => some (.ex x p e) := rfl
@[simp] theorem e_mTupX {m : AMX} {env : En} : mTupX m env = (m env).bind fun p => match p with
  | .ok os e => if os.length ≤ sizeLine then some (.ok (.fz (.tup (O.frzs os))) e) else none
  | .ex x p e => some (.ex x p e) := rfl
@[simp] theorem e_mCallX {f : List D → Option RX} {mA : EM (List O)} {env : En} : mCallX f mA env = (mA env).bind fun p => (f (O.frzs p.1)).map fun r => match r with
  | .ret d => .ok (.fz d) p.2
  | .exc x pl => .ex x pl p.2 := rfl
@[simp] theorem e_outDXo {o : Out} : outDX (.ok o) = (outD o).map .ret := rfl
@[simp] theorem e_outDXe {x : Str} {p : Option (Str × D)} {e : En} : outDX (.ex x p e) = some (.exc x p) := rfl
@[simp] theorem e_msN {m : SM} : msN m none = m := rfl
end Q
set_option Elab.async false
set_option linter.all false
set_option maxRecDepth 100000
set_option maxHeartbeats 1000000
namespace Q
open PySem L2 L2H PyProof.Rows
/-- such a call in the suite -/
def mCallH (a : Addr) (i : Nat) (r : Option D) : EM O := fun env => match env[i]? with
  | some (.adr a') => if a' = a then r.map fun d => (.fz d, env) else none
  | _ => none
@[simp] theorem e_mCallH {a : Addr} {i : Nat} {r : Option D} {env : En} : mCallH a i r env = match env[i]? with
  | some (.adr a') => if a' = a then r.map fun d => (.fz d, env) else none
  | _ => none := rfl
def boolsO : List O → Option (List Bool)
  | [] => some []
  | .fz (.bl b) :: os => (boolsO os).map (b :: ·)
  | _ => none
def mCnt (i : Nat) (m : EM O) : EM O := fun env => (lsAt i env).bind fun _ => (m env).bind fun p => (lsAt i p.2).bind fun os => (boolsO os).bind fun bs => match p.1 with
  | .fz (.bl b) => some (.fz (.int ((bs.countP (· == b) : Nat) : Int)), p.2)
  | _ => none
@[simp] theorem e_mCnt {i : Nat} {m : EM O} {env : En} : mCnt i m env = (lsAt i env).bind fun _ => (m env).bind fun p => (lsAt i p.2).bind fun os => (boolsO os).bind fun bs => match p.1 with
  | .fz (.bl b) => some (.fz (.int ((bs.countP (· == b) : Nat) : Int)), p.2)
  | _ => none := rfl
end Q
set_option Elab.async false
set_option linter.all false
set_option maxRecDepth 100000
set_option maxHeartbeats 1000000
namespace Q
open PySem L2 PyProof.Rows
structure DefOkK (P : Program) (w : World) (K : PySem.W.Frag) (mg : Str → Option Value) (base : Heap) (k : Nat) (x : Str) (n : Nat) (mf : List D → Option D) (Sh : FuncData → List Str → Prop) : Prop where
  len : ∀ ds d, mf ds = some d → ds.length = n
  ex : ∃ (f : Addr) (fd : FuncData) (ps : List Str), FnOk P w K mg base CX0 k f fd ps (spM K n mf) ∧ mg x = some (.ref f) ∧ PySem.W.keepIn K (.ref f) = true ∧ Sh fd ps
def mCallK (f : List D → Option D) (na nk : Nat) (gD : List D → List D → List D) (mA mK : EM (List O)) : EM O := fun env => (mA env).bind fun p => (mK p.2).bind fun q => if p.1.length = na ∧ q.1.length = nk then (f (gD (O.frzs p.1) (O.frzs q.1))).bind fun d => some (.fz d, q.2) else none
@[simp] theorem e_mCallK {f : List D → Option D} {na nk : Nat} {gD : List D → List D → List D} {mA mK : EM (List O)} {env : En} : mCallK f na nk gD mA mK env = (mA env).bind fun p => (mK p.2).bind fun q => if p.1.length = na ∧ q.1.length = nk then (f (gD (O.frzs p.1) (O.frzs q.1))).bind fun d => some (.fz d, q.2) else none := rfl
end Q
set_option Elab.async false
set_option linter.all false
set_option maxRecDepth 100000
set_option maxHeartbeats 1000000
namespace Q
open PySem L2 PyProof.Rows
def D.key : D → Option Key
  | .int i => some (.inl i)
  | .str s => some (.inr s)
  | _ => none
def O.key : O → Option Key
  | .fz d => d.key
  | _ => none
def O.asD : O → Option (List Key × List D)
  | .fz (.dk ks ds) => some (ks, ds)
  | .ok ks ds => some (ks, ds)
  | _ => none
def lookD : List Key → List D → Key → Option D
  | j :: ks, d :: ds, k => if j = k then some d else lookD ks ds k
  | _, _, _ => none
section
variable {K : PySem.W.Frag} {H0 B0 B H : Hp} {ln : Nat → Option V} {Γ : List (O × V)} {σ : L2.St} {env : En} {ks : List Key} {ds : List D} {a : Addr} {o : O} {v : V}
theorem key_ok {d : D} {k : Key} (r : Rp K B d v) (h : d.key = some k) : v = kV k := by
  cases d <;> simp [D.key] at h <;> (rw [Rp] at r; subst r h; rfl)
end
def oDIx (a b : O) : Option O := (a.asD).bind fun p => (b.key).bind fun k => (lookD p.1 p.2 k).map .fz
def oDIn (b a : O) : Option O := (a.asD).bind fun p => (b.key).bind fun k => some (.fz (.bl (lookD p.1 p.2 k).isSome))
def oDNotIn (b a : O) : Option O := (a.asD).bind fun p => (b.key).bind fun k => some (.fz (.bl (!(lookD p.1 p.2 k).isSome)))
section
variable {X : Cx} {a b c e : Expr} {ma mb mc m : EM O} {pos : Pos}
theorem hu1 {A : Around} (h : A.units + 64 < cLine) : A.units + 1 < cLine := by omega
/-- d.get(k, x) -/
def mGet (ma mb mc : EM O) : EM O := fun env => (ma env).bind fun p => (mb p.2).bind fun q => (mc q.2).bind fun r => (p.1.asD).bind fun d => (q.1.key).bind fun k => some (.fz ((lookD d.1 d.2 k).getD r.1.frz), r.2)
@[simp] theorem e_mGet {ma mb mc : EM O} {env : En} : mGet ma mb mc env = (ma env).bind fun p => (mb p.2).bind fun q => (mc q.2).bind fun r => (p.1.asD).bind fun d => (q.1.key).bind fun k => some (.fz ((lookD d.1 d.2 k).getD r.1.frz), r.2) := rfl
/-- {} -/
def mDNew : EM O := fun env => some (.ok [] [], env)
@[simp] theorem e_mDNew {env : En} : mDNew env = some (.ok [] [], env) := rfl
end
def dkAt (i : Nat) (env : En) : Option (List Key × List D) := match env[i]? with
  | some (.has (.ok ks ds)) => some (ks, ds)
  | _ => none
def sDSet (i : Nat) (m mk : EM O) : SM := fun env => (m env).bind fun p => (dkAt i p.2).bind fun _ => (mk p.2).bind fun q => (dkAt i q.2).bind fun d => (q.1.key).bind fun k =>
  if d.1.length < sizeLine ∧ lookD d.1 d.2 k = none then some (.nx (q.2.set i (.has (.ok (d.1 ++ [k]) (d.2 ++ [p.1.frz]))))) else none
@[simp] theorem e_sDSet {i : Nat} {m mk : EM O} {env : En} : sDSet i m mk env = (m env).bind fun p => (dkAt i p.2).bind fun _ => (mk p.2).bind fun q => (dkAt i q.2).bind fun d => (q.1.key).bind fun k =>
  if d.1.length < sizeLine ∧ lookD d.1 d.2 k = none then some (.nx (q.2.set i (.has (.ok (d.1 ++ [k]) (d.2 ++ [p.1.frz]))))) else none := rfl
def dcLoop (vs : List Nat) (gs : D → En → Option En) (mt : EM Bool) (mk mv : EM O) : List D → List Key → List D → En → Option ((List Key × List D) × En)
  | [], ks, acc, env => some ((ks, acc), env)
  | d :: ds, ks, acc, env => if okE env vs = true then (gs d (wipeE env vs)).bind fun e1 => (mt e1).bind fun b =>
      if b.1 = true then (mk b.2).bind fun r => (mv r.2).bind fun z => (r.1.key).bind fun k => if ks.length < sizeLine ∧ lookD ks acc k = none then dcLoop vs gs mt mk mv ds (ks ++ [k]) (acc ++ [z.1.frz]) (backE env z.2 vs) else none
      else dcLoop vs gs mt mk mv ds ks acc (backE env b.2 vs) else none
def mDc (vs : List Nat) (mi : EM (List D)) (gs : D → En → Option En) (mt : EM Bool) (mk mv : EM O) : EM O := fun env => (mi env).bind fun p => (dcLoop vs gs mt mk mv p.1 [] [] p.2).bind fun q => some (.ok q.1.1 q.1.2, q.2)
@[simp] theorem e_mDc {vs : List Nat} {mi : EM (List D)} {gs : D → En → Option En} {mt : EM Bool} {mk mv : EM O} {env : En} : mDc vs mi gs mt mk mv env = (mi env).bind fun p => (dcLoop vs gs mt mk mv p.1 [] [] p.2).bind fun q => some (.ok q.1.1 q.1.2, q.2) := rfl
end Q
set_option Elab.async false
set_option linter.all false
set_option maxRecDepth 100000
set_option maxHeartbeats 1000000
namespace Q
open PySem L2 PyProof.Rows
end Q
set_option Elab.async false
set_option linter.all false
set_option maxRecDepth 100000
set_option maxHeartbeats 1000000
namespace Q
open PySem L2 PyProof.Rows
def mEnumF (m : EM O) : EM (List D) := fun env => (m env).bind fun p => match p.1.frz with
  | .tup ds => some (enumD ds, p.2)
  | .lst ds => some (enumD ds, p.2)
  | _ => none
def mEnumV (m : EM O) : EM (List D) := fun env => (m env).bind fun p => (p.1.asS).bind fun os => (os.mapM O.d?).bind fun ds => some (enumD ds, p.2)
@[simp] theorem e_mEnumF {m : EM O} {env : En} : mEnumF m env = (m env).bind fun p => match p.1.frz with
  | .tup ds => some (enumD ds, p.2)
  | .lst ds => some (enumD ds, p.2)
  | _ => none := rfl
@[simp] theorem e_mEnumV {m : EM O} {env : En} : mEnumV m env = (m env).bind fun p => (p.1.asS).bind fun os => (os.mapM O.d?).bind fun ds => some (enumD ds, p.2) := rfl
section
variable {X : Cx} {e : Expr} {p pos tpos : Pos} {m : EM O} {elts : List Expr} {kk : Nat}
/-- range(i, j, -1) -/
def mR3 (m : EM (List O)) : EM (List D) := fun env => (m env).bind fun p => match p.1 with
  | [.fz (.int i), .fz (.int j), .fz (.int (-1))] => if -4611686018427387904 ≤ i ∧ i < 4611686018427387904 ∧ -4611686018427387904 ≤ j ∧ j < 4611686018427387904 then some (rangeC i (-1) (i - j).toNat, p.2) else none
  | _ => none
@[simp] theorem e_mR3 {m : EM (List O)} {env : En} : mR3 m env = (m env).bind fun p => match p.1 with
  | [.fz (.int i), .fz (.int j), .fz (.int (-1))] => if -4611686018427387904 ≤ i ∧ i < 4611686018427387904 ∧ -4611686018427387904 ≤ j ∧ j < 4611686018427387904 then some (rangeC i (-1) (i - j).toNat, p.2) else none
  | _ => none := rfl
end
def oShr : O → O → Option O := oIg fun i j => if 0 ≤ j then some (.fz (.int (i / 2 ^ j.toNat))) else none
@[simp] theorem e_shr {i j : Int} : oShr (.fz (.int i)) (.fz (.int j)) = if 0 ≤ j then some (.fz (.int (i / 2 ^ j.toNat))) else none := rfl
@[simp] theorem e_oDIx {a b : O} : oDIx a b = (a.asD).bind fun p => (b.key).bind fun k => (lookD p.1 p.2 k).map .fz := rfl
@[simp] theorem e_oDIn {a b : O} : oDIn b a = (a.asD).bind fun p => (b.key).bind fun k => some (.fz (.bl (lookD p.1 p.2 k).isSome)) := rfl
@[simp] theorem e_oDNotIn {a b : O} : oDNotIn b a = (a.asD).bind fun p => (b.key).bind fun k => some (.fz (.bl (!(lookD p.1 p.2 k).isSome))) := rfl
@[simp] theorem e_asDk {ks : List Key} {ds : List D} : O.asD (.fz (.dk ks ds)) = some (ks, ds) := rfl
@[simp] theorem e_asOk {ks : List Key} {ds : List D} : O.asD (.ok ks ds) = some (ks, ds) := rfl
@[simp] theorem e_keyI {i : Int} : O.key (.fz (.int i)) = some (.inl i) := rfl
@[simp] theorem e_keyS {i : Str} : O.key (.fz (.str i)) = some (.inr i) := rfl
@[simp] theorem e_frzOk {ks : List Key} {ds : List D} : O.frz (.ok ks ds) = .dk ks ds := rfl
end Q
set_option Elab.async false
set_option linter.all false
set_option maxRecDepth 100000
set_option maxHeartbeats 1000000
namespace Q
open PySem L2
@[simp] theorem e_asST {ds : List D} : O.asS (.fz (.tup ds)) = some (ds.map .fz) := rfl
@[simp] theorem e_asSL {ds : List D} : O.asS (.fz (.lst ds)) = some (ds.map .fz) := rfl
@[simp] theorem e_asSO {os : List O} : O.asS (.ls os) = some os := rfl
abbrev natD (i : Nat) : D := .int (i : Int)
@[simp] theorem mapM_fzc {ds : List D} : List.mapM (O.d? ∘ O.fz) ds = some ds := by
  rw [← List.mapM_map]; exact mapM_fz ds
end Q
set_option Elab.async false
set_option linter.all false
set_option maxRecDepth 100000
set_option maxHeartbeats 1000000
namespace Q
open PySem L2
/-- a row's chances over one small denominator -/
def RowD (r : List (Nat × Rat)) : Prop := ∃ W : Int, 0 < W ∧ W.natAbs < 2 ^ 7 ∧ ∀ p ∈ r, ∃ z : Int, p.2 * (W : Rat) = (z : Rat) ∧ 0 ≤ z ∧ z ≤ W
structure GameSz (rs : List Rat) (rows : List (List (Nat × Rat))) (n : Nat) : Prop where
  ok : GameOk rs rows n
  rw : ∀ q ∈ rs, Sq 110 4 q ∨ (n = 1 ∧ Sq 20000 20000 q)
  rl : ∀ r ∈ rows, r.length ≤ 24
  rp : ∀ r ∈ rows, ∀ p ∈ r, sz p.2 ≤ 7
  rd : ∀ r ∈ rows, RowD r
/-- small rewards -/
abbrev Smr (rs : List Rat) : Prop := ∀ q ∈ rs, Sq 110 4 q
structure Disc (b : Rat) : Prop where
  nn : 0 ≤ b
  lt : b < 1
  sz : sz b ≤ 8
def rwA (rs : List Rat) (x : Nat) : Rat := (rs[x]?).getD 0
def rowA (rows : List (List (Nat × Rat))) (x : Nat) : List (Nat × Rat) := (rows[x]?).getD []
def lvStep (b : Rat) (xs : List Nat) (s : (Nat → Rat) × Rat) (p : Nat × Rat) : (Nat → Rat) × Rat :=
  if p.1 ∈ xs then (fun l => if l = xs.idxOf p.1 then s.1 l - b * p.2 else s.1 l, s.2) else (s.1, s.2 + b * p.2)
def unitF (k : Nat) : Nat → Rat := fun l => if l = k then 1 else 0
def lvRow (b : Rat) (xs : List Nat) (k : Nat) (r : List (Nat × Rat)) : (Nat → Rat) × Rat := r.foldl (lvStep b xs) (unitF k, 0)
theorem lv_fst (b : Rat) (xs : List Nat) (l : Nat) : ∀ (r : List (Nat × Rat)) (s : (Nat → Rat) × Rat), (r.foldl (lvStep b xs) s).1 l = s.1 l - b * sm (fun p => if p.1 ∈ xs ∧ xs.idxOf p.1 = l then p.2 else 0) r
  | [], s => by
    show s.1 l = s.1 l - b * 0
    grind
  | p :: r, s => by
    rw [List.foldl_cons, lv_fst b xs l r]
    show _ = s.1 l - b * ((if p.1 ∈ xs ∧ xs.idxOf p.1 = l then p.2 else 0) + sm (fun p => if p.1 ∈ xs ∧ xs.idxOf p.1 = l then p.2 else 0) r)
    unfold lvStep
    by_cases h : p.1 ∈ xs
    · rw [if_pos h]
      by_cases h2 : xs.idxOf p.1 = l
      · rw [if_pos ⟨h, h2⟩]
        show (if l = xs.idxOf p.1 then _ else _) - _ = _
        rw [if_pos h2.symm]
        grind
      · rw [if_neg fun z => h2 z.2]
        show (if l = xs.idxOf p.1 then _ else _) - _ = _
        rw [if_neg fun z => h2 z.symm]
        grind
    · rw [if_neg h, if_neg fun z => h z.1]
      show s.1 l - _ = _
      grind
/-- what the step leaves of the sizes -/
theorem lv_sz {b : Rat} (hb : sz b ≤ 8) (xs : List Nat) : ∀ (r : List (Nat × Rat)) (s : (Nat → Rat) × Rat) (K : Nat), (∀ p ∈ r, sz p.2 ≤ 7) → (∀ l, sz (s.1 l) ≤ K) → sz s.2 ≤ K →
    (∀ l, sz ((r.foldl (lvStep b xs) s).1 l) ≤ K + 16 * r.length) ∧ sz (r.foldl (lvStep b xs) s).2 ≤ K + 16 * r.length
  | [], s, K, _, h1, h2 => ⟨fun l => h1 l, h2⟩
  | p :: r, s, K, hp, h1, h2 => by
    have hpp := hp p (by simp)
    have hm := sz_mul b p.2
    have q1 : ∀ l, sz ((lvStep b xs s p).1 l) ≤ K + 16 := fun l => by
      unfold lvStep
      split
      · show sz (if l = xs.idxOf p.1 then s.1 l - b * p.2 else s.1 l) ≤ _
        have := h1 l
        split
        · have := sz_sub (s.1 l) (b * p.2); omega
        · omega
      · have := h1 l; show sz (s.1 l) ≤ _; omega
    have q2 : sz (lvStep b xs s p).2 ≤ K + 16 := by
      unfold lvStep
      split
      · show sz s.2 ≤ _; omega
      · show sz (s.2 + b * p.2) ≤ _
        have := sz_add s.2 (b * p.2); omega
    obtain ⟨a, c⟩ := lv_sz hb xs r _ (K + 16) (fun q hq => hp q (by simp [hq])) q1 q2
    rw [List.foldl_cons, List.length_cons]
    exact ⟨fun l => by have := a l; omega, by omega⟩
theorem num_den (b : Rat) : b * ((b.den : Int) : Rat) = ((b.num : Int) : Rat) := by
  have h0 : ((b.den : Int) : Rat) ≠ 0 := fun z => by
    have := Rat.intCast_inj.mp (z.trans Rat.intCast_zero.symm)
    exact den_ne b this
  have e := divInt_div b.num (b.den : Int)
  rw [Rat.num_divInt_den] at e
  grind
/-- over one denominator -/
theorem lv_den {b : Rat} (hb : Disc b) (xs : List Nat) (W : Int) (hW : 0 < W) : ∀ (r : List (Nat × Rat)) (s : (Nat → Rat) × Rat) (i : Nat), (∀ p ∈ r, ∃ z : Int, p.2 * (W : Rat) = (z : Rat) ∧ 0 ≤ z ∧ z ≤ W) →
    (∀ l, ∃ z : Int, s.1 l * (((b.den : Int) * W : Int) : Rat) = (z : Rat) ∧ z.natAbs ≤ i * ((b.den : Int) * W).natAbs) → (∃ z : Int, s.2 * (((b.den : Int) * W : Int) : Rat) = (z : Rat) ∧ z.natAbs ≤ i * ((b.den : Int) * W).natAbs) →
    (∀ l, ∃ z : Int, (r.foldl (lvStep b xs) s).1 l * (((b.den : Int) * W : Int) : Rat) = (z : Rat) ∧ z.natAbs ≤ (i + r.length) * ((b.den : Int) * W).natAbs) ∧ ∃ z : Int, (r.foldl (lvStep b xs) s).2 * (((b.den : Int) * W : Int) : Rat) = (z : Rat) ∧ z.natAbs ≤ (i + r.length) * ((b.den : Int) * W).natAbs
  | [], s, i, _, h1, h2 => ⟨h1, h2⟩
  | p :: r, s, i, hp, h1, h2 => by
    obtain ⟨z, z1, z2, z3⟩ := hp p (by simp)
    have hbn : 0 ≤ b.num := Rat.num_nonneg.mpr hb.nn
    have hbl : b.num ≤ (b.den : Int) := by
      have := (Rat.lt_iff b 1).mp hb.lt
      simp at this
      omega
    have sh : b * p.2 * (((b.den : Int) * W : Int) : Rat) = ((b.num * z : Int) : Rat) := by
      have e : b * ((b.den : Int) : Rat) = ((b.num : Int) : Rat) := num_den b
      rw [Rat.intCast_mul, Rat.intCast_mul, ← z1, ← e]
      grind
    have sb : (b.num * z).natAbs ≤ ((b.den : Int) * W).natAbs := by
      have h3 : 0 ≤ b.num * z := Int.mul_nonneg hbn z2
      have h4 : b.num * z ≤ (b.den : Int) * W := Int.mul_le_mul hbl z3 z2 (by omega)
      omega
    have grow : ∀ x : Nat, x ≤ i * ((b.den : Int) * W).natAbs → x ≤ (i + 1) * ((b.den : Int) * W).natAbs := fun x hx => by
      rw [Nat.succ_mul]; omega
    have q1 : ∀ l, ∃ z : Int, (lvStep b xs s p).1 l * (((b.den : Int) * W : Int) : Rat) = (z : Rat) ∧ z.natAbs ≤ (i + 1) * ((b.den : Int) * W).natAbs := fun l => by
      obtain ⟨y, y1, y2⟩ := h1 l
      unfold lvStep
      split
      · show ∃ z : Int, (if l = xs.idxOf p.1 then s.1 l - b * p.2 else s.1 l) * _ = _ ∧ _
        split
        · refine ⟨y - b.num * z, ?_, ?_⟩
          · rw [show ∀ u v w : Rat, (u - v) * w = u * w - v * w from fun u v w => by grind, y1, sh, Rat.intCast_sub]
          · rw [Nat.succ_mul]; omega
        · exact ⟨y, y1, grow _ y2⟩
      · exact ⟨y, y1, grow _ y2⟩
    have q2 : ∃ z : Int, (lvStep b xs s p).2 * (((b.den : Int) * W : Int) : Rat) = (z : Rat) ∧ z.natAbs ≤ (i + 1) * ((b.den : Int) * W).natAbs := by
      obtain ⟨y, y1, y2⟩ := h2
      unfold lvStep
      split
      · exact ⟨y, y1, grow _ y2⟩
      · show ∃ z : Int, (s.2 + b * p.2) * _ = _ ∧ _
        refine ⟨y + b.num * z, ?_, ?_⟩
        · rw [Rat.add_mul, y1, sh, Rat.intCast_add]
        · rw [Nat.succ_mul]; omega
    obtain ⟨a, c⟩ := lv_den hb xs W hW r _ (i + 1) (fun q hq => hp q (by simp [hq])) q1 q2
    rw [List.foldl_cons, List.length_cons, show i + (r.length + 1) = i + 1 + r.length by omega]
    exact ⟨a, c⟩
/-- chances that are summed over the states of the set -/
theorem sm_split {xs : List Nat} (nd : xs.Nodup) (Y : Nat → Rat) : ∀ r : List (Nat × Rat), sm (fun l => sm (fun p => if p.1 ∈ xs ∧ xs.idxOf p.1 = l then p.2 else 0) r * Y l) (List.range xs.length) = sm (fun p => if p.1 ∈ xs then p.2 * Y (xs.idxOf p.1) else 0) r
  | [] => by
    show sm (fun l => 0 * Y l) _ = 0
    exact sm_zero fun x _ => by rw [Rat.zero_mul]
  | p :: r => by
    show sm (fun l => ((if p.1 ∈ xs ∧ xs.idxOf p.1 = l then p.2 else 0) + sm (fun p => if p.1 ∈ xs ∧ xs.idxOf p.1 = l then p.2 else 0) r) * Y l) _ = (if p.1 ∈ xs then p.2 * Y (xs.idxOf p.1) else 0) + sm (fun p => if p.1 ∈ xs then p.2 * Y (xs.idxOf p.1) else 0) r
    rw [← sm_split nd Y r, sm_congr (g := fun l => (if p.1 ∈ xs ∧ xs.idxOf p.1 = l then p.2 else 0) * Y l + sm (fun p => if p.1 ∈ xs ∧ xs.idxOf p.1 = l then p.2 else 0) r * Y l) fun l _ => by rw [Rat.add_mul], sm_add]
    congr 1
    by_cases h : p.1 ∈ xs
    · have hi : xs.idxOf p.1 < xs.length := List.idxOf_lt_length_of_mem h
      rw [if_pos h, sm_one hi fun k hk => by rw [if_neg fun z => hk z.2.symm, Rat.zero_mul], if_pos ⟨h, rfl⟩]
    · rw [if_neg h]
      exact sm_zero fun l _ => by rw [if_neg fun z => h z.1, Rat.zero_mul]
/-- what is earned and what is left until the play leaves xs -/
structure Lv (rs : List Rat) (rows : List (List (Nat × Rat))) (b : Rat) (xs : List Nat) (E F : Nat → Rat) : Prop where
  e : ∀ x ∈ xs, E x = rwA rs x + b * sm (fun p => p.2 * E p.1) (rowA rows x)
  f : ∀ x ∈ xs, F x = b * sm (fun p => p.2 * F p.1) (rowA rows x)
  e0 : ∀ x, x ∉ xs → E x = 0
  f1 : ∀ x, x ∉ xs → F x = 1
theorem sm_le {α : Type} {f g : α → Rat} : ∀ {xs : List α}, (∀ x ∈ xs, f x ≤ g x) → sm f xs ≤ sm g xs
  | [], _ => Rat.le_refl
  | x :: xs, h => by
    show f x + sm f xs ≤ g x + sm g xs
    have h1 := h x (by simp)
    have h2 := sm_le (xs := xs) fun y hy => h y (by simp [hy])
    grind
theorem sm_swap {α β : Type} (f : α → β → Rat) (ys : List β) : ∀ xs : List α, sm (fun x => sm (f x) ys) xs = sm (fun y => sm (fun x => f x y) xs) ys
  | [] => by
    show (0 : Rat) = sm (fun y => (0 : Rat)) ys
    exact (sm_zero fun _ _ => rfl).symm
  | x :: xs => by
    show sm (f x) ys + sm (fun x => sm (f x) ys) xs = sm (fun y => f x y + sm (fun x => f x y) xs) ys
    rw [sm_add, sm_swap f ys xs]
end Q
set_option Elab.async false
set_option linter.all false
set_option maxRecDepth 100000
set_option maxHeartbeats 1000000
namespace Q
open PySem L2 PyProof.Rows
def ExT (o : Obj) : Prop := o.cls = .type "tuple" ∧ o.dict = none ∧ ∃ its n, o.data = .seq its n
theorem call_tupX {X : Cx} : CallR X (.type "tuple") (fun xs H Q => ∃ p ys, xs = [.ref p] ∧ SqL X.K H p ys ∧ ∀ l o, H l = none → ExT o → Q (.ref l) (upd H l (.frz o (.tup ys)))) := by
  intro pins s σ H xs us Q I r hh
  obtain ⟨p, ys, rfl, hq, q⟩ := hh
  obtain ⟨u, rfl, rx⟩ := r.one
  cases rx
  obtain ⟨its, rv, pl, hz⟩ := I.list hq
  have hlen := rv.length
  refine call_tuple_list pl.isList (fun h' kp => ?_) (by simp only [List.size_toArray]; omega)
  have J : Inv X pins σ H { s with heap := h' } := I.kept (t' := s.toks) kp
  refine ⟨.ref h'.objs.size, _, J.laid (o := .frz { cls := .type "tuple", data := .seq its.toArray } (.tup ys)) (t' := s.toks) (fun b o e => Heap.get?_push_of_some _ e) (Nat.le_refl _) ?_, rfl, q _ _ (J.hok.fresh (Nat.le_refl _)) ⟨rfl, rfl, _, _, rfl⟩⟩
  exact ⟨Heap.get?_push_size _ rfl, hz, its, rv, IsTup.new _ _⟩
section
variable {K : PySem.W.Frag} {H0 B0 B H : Hp} {ln : Nat → Option V} {Γ : List (O × V)} {σ : L2.St} {env : En}
theorem Stt.newXt {ds : List D} {vs : List V} {o : Obj} (h : Stt K H0 B0 ln Γ B H σ env) (r : Rps K B ds vs) (ho : ExT o) {p : Addr} (hp : H p = none) :
    Ex B (upd B p (.frz o (.tup vs))) ∧ Ex H (upd H p (.frz o (.tup vs))) ∧ Stt K H0 B0 ln ((.fz (.xt ds), .ref p) :: Γ) (upd B p (.frz o (.tup vs))) (upd H p (.frz o (.tup vs))) σ env := by
  have w := Wd.new (x := .frz o (.tup vs)) h.w.bh hp
  refine ⟨w.b0, w.h0, (h.step w).push ?_⟩
  rw [Rp]
  exact ⟨p, vs, o, rfl, upd_same, ho.1, ho.2.1, ho.2.2, Rps.mono w.b0 ds vs r⟩
theorem rp_unx {ds : List D} {v : V} (r : Rp K B (.xt ds) v) : Rp K B (.tup ds) v := by
  rw [Rp] at r
  obtain ⟨a, vs, o, rfl, h1, _, _, _, h2⟩ := r
  rw [Rp]
  exact ⟨a, vs, rfl, .inl (.inr ⟨o, h1⟩), h2⟩
end
def gTupX : List O → Option O
  | [o] => (o.asL).bind fun os => (os.mapM O.d?).bind fun ds => some (.fz (.xt ds))
  | _ => none
theorem c_tupX {X : Cx} : QC X (.type "tuple") gTupX := ⟨_, call_tupX, by
  intro H0 B0 ln Γ B H σ env s os o vs w hg Q q
  unfold gTupX at hg
  split at hg
  · rename_i o1
    obtain ⟨os1, e1, hg⟩ := bind_some hg
    obtain ⟨ds, e2, hg⟩ := bind_some hg
    cases hg
    obtain ⟨v, rfl, w1⟩ := vws1 w
    obtain ⟨a, vs, rfl, h1, h2⟩ := asL_ok s.w.bh w1 e1
    refine ⟨_, _, rfl, h1, fun p ob hp ho => ?_⟩
    obtain ⟨e1, e2, s'⟩ := s.newXt (h2.dat e2) ho hp
    exact q _ _ _ e1 e2 s'
  · cases hg⟩
@[simp] theorem e_gTupX {ds : List D} : gTupX [.ls (ds.map .fz)] = some (.fz (.xt ds)) := by
  simp only [gTupX, O.asL, mapM_fz, Option.bind_some]
def unX : O → O
  | .fz (.xt ds) => .fz (.tup ds)
  | o => o
def mUnX (m : EM O) : EM O := fun env => (m env).bind fun p => some (unX p.1, p.2)
@[simp] theorem e_mUnX {m : EM O} {env : En} : mUnX m env = (m env).bind fun p => some (unX p.1, p.2) := rfl
@[simp] theorem e_unX {ds : List D} : unX (.fz (.xt ds)) = .fz (.tup ds) := rfl
theorem qe_unx {X : Cx} {e : Expr} {m : EM O} (h : QE X e m) : QE X e (mUnX m) := by
  obtain ⟨t, h1, h2⟩ := h
  refine ⟨t, h1, fun H0 B0 ln Γ B H σ env s o env' em Q q => ?_⟩
  obtain ⟨p, em1, em⟩ := bind_some em
  cases em
  obtain ⟨o1, env1⟩ := p
  refine h2 H0 B0 ln Γ B H σ env s _ _ em1 _ fun v B1 H1 e1 e2 s1 => q v B1 H1 e1 e2 ?_
  unfold unX
  split
  · rename_i ds hd
    have hd : o1 = .fz (.xt ds) := hd
    subst hd
    exact s1.pop.push (rp_unx s1.rp)
  · exact s1
end Q
set_option Elab.async false
set_option linter.all false
set_option maxRecDepth 100000
set_option maxHeartbeats 1000000
namespace Q
open PySem L2
theorem exists_max {α : Type} (g : α → Rat) : ∀ (xs : List α), xs ≠ [] → ∃ x ∈ xs, ∀ y ∈ xs, g y ≤ g x
  | [], h => absurd rfl h
  | [x], _ => ⟨x, by simp, fun y hy => by rw [List.mem_singleton.mp hy]; exact Rat.le_refl⟩
  | x :: y :: xs, _ => by
    obtain ⟨z, hz, h⟩ := exists_max g (y :: xs) (by simp)
    by_cases c : g z ≤ g x
    · refine ⟨x, by simp, fun w hw => ?_⟩
      rcases List.mem_cons.mp hw with rfl | hw
      · exact Rat.le_refl
      · exact Rat.le_trans (h w hw) c
    · refine ⟨z, List.mem_cons_of_mem _ hz, fun w hw => ?_⟩
      rcases List.mem_cons.mp hw with rfl | hw
      · grind
      · exact h w hw
/-- chances: not below 0, together 1 -/
structure Chances (rows : List (List (Nat × Rat))) (n : Nat) : Prop where
  nn : ∀ x, ∀ p ∈ rowA rows x, 0 ≤ p.2
  one : ∀ x, x < n → sm (fun p => p.2) (rowA rows x) = 1
theorem GameSz.ch {rs : List Rat} {rows : List (List (Nat × Rat))} {n : Nat} (g : GameSz rs rows n) : Chances rows n := by
  have key : ∀ x, x < rows.length → rowA rows x ∈ rows := fun x h => by
    unfold rowA
    rw [List.getElem?_eq_getElem h]
    exact List.getElem_mem h
  refine ⟨fun x p hp => ?_, fun x hx => ?_⟩
  · by_cases h : x < rows.length
    · exact (g.ok.ok _ (key x h)).nn p hp
    · unfold rowA at hp
      rw [List.getElem?_eq_none (by omega)] at hp
      simp at hp
  · have := (g.ok.ok _ (key x (by rw [g.ok.l2]; exact hx))).one
    rwa [sumQ0_sm] at this
/-- an average is not above what bounds it -/
theorem avg_le {r : List (Nat × Rat)} (nn : ∀ p ∈ r, 0 ≤ p.2) {g : Nat → Rat} {M : Rat} (h : ∀ t, g t ≤ M) : sm (fun p => p.2 * g p.1) r ≤ M * sm (fun p => p.2) r := by
  rw [← sm_mul]
  exact sm_le fun p hp => by
    have := Rat.mul_le_mul_of_nonneg_left (h p.1) (nn p hp)
    grind
/-- what is at most b times its own average in the set, and not above 0 outside, is not above 0 -/
theorem max_prin {rows : List (List (Nat × Rat))} {n : Nat} (ch : Chances rows n) {b : Rat} (hb : Disc b) {xs : List Nat} (hx : ∀ x ∈ xs, x < n) {g : Nat → Rat} (h : ∀ x ∈ xs, g x ≤ b * sm (fun p => p.2 * g p.1) (rowA rows x)) (h0 : ∀ x, x ∉ xs → g x ≤ 0) (x : Nat) : g x ≤ 0 := by
  by_cases hm : x ∈ xs
  · obtain ⟨z, hz, mx⟩ := exists_max g xs (fun e => by rw [e] at hm; simp at hm)
    refine Rat.le_trans (mx x hm) ?_
    apply Classical.byContradiction
    intro hpos
    have hpos : 0 < g z := by grind
    have all : ∀ t, g t ≤ g z := fun t => by
      by_cases ht : t ∈ xs
      · exact mx t ht
      · have := h0 t ht; grind
    have a1 := avg_le (ch.nn z) all
    rw [ch.one z (hx z hz), Rat.mul_one] at a1
    have a2 := Rat.mul_le_mul_of_nonneg_left a1 hb.nn
    have a3 := h z hz
    have a4 : 0 < (1 - b) * g z := Rat.mul_pos (by have := hb.lt; grind) hpos
    grind
  · exact h0 x hm
theorem Lv.f_le {rs : List Rat} {rows : List (List (Nat × Rat))} {n : Nat} (ch : Chances rows n) {b : Rat} (hb : Disc b) {xs : List Nat} (hx : ∀ x ∈ xs, x < n) {E F : Nat → Rat} (lv : Lv rs rows b xs E F) : ∀ t, 0 ≤ F t ∧ F t ≤ 1 := fun t => by
  constructor
  · have := max_prin ch hb hx (g := fun t => -F t) (fun x h => by
      have e : sm (fun p : Nat × Rat => p.2 * -F p.1) (rowA rows x) = (-1) * sm (fun p => p.2 * F p.1) (rowA rows x) := by
        rw [← sm_mul]
        exact sm_congr fun p _ => by grind
      have e2 := lv.f x h
      show -F x ≤ b * sm (fun p : Nat × Rat => p.2 * -F p.1) (rowA rows x)
      rw [e]
      grind) (fun x h => by rw [lv.f1 x h]; grind) t
    grind
  · have := max_prin ch hb hx (g := fun t => F t - 1) (fun x h => by
      have e := lv.f x h
      have e2 := ch.one x (hx x h)
      have e3 : sm (fun p : Nat × Rat => p.2 * (F p.1 - 1)) (rowA rows x) = sm (fun p => p.2 * F p.1) (rowA rows x) - sm (fun p => p.2) (rowA rows x) := by
        rw [← sm_sub]
        exact sm_congr fun p _ => by grind
      have := hb.lt
      show F x - 1 ≤ b * sm (fun p : Nat × Rat => p.2 * (F p.1 - 1)) (rowA rows x)
      rw [e3, e2]
      grind) (fun x h => by rw [lv.f1 x h]; grind) t
    grind
theorem Lv.uniq {rs : List Rat} {rows : List (List (Nat × Rat))} {n : Nat} (ch : Chances rows n) {b : Rat} (hb : Disc b) {xs : List Nat} (hx : ∀ x ∈ xs, x < n) {E F E' F' : Nat → Rat} (lv : Lv rs rows b xs E F) (lw : Lv rs rows b xs E' F') : E = E' ∧ F = F' := by
  have one : ∀ (A B : Nat → Rat), (∀ x ∈ xs, A x - B x ≤ b * sm (fun p => p.2 * (A p.1 - B p.1)) (rowA rows x)) → (∀ x, x ∉ xs → A x - B x ≤ 0) → ∀ t, A t ≤ B t := fun A B h1 h2 t => by
    have := max_prin ch hb hx (g := fun t => A t - B t) h1 h2 t
    grind
  have sp : ∀ (A B : Nat → Rat) (r : List (Nat × Rat)), sm (fun p => p.2 * (A p.1 - B p.1)) r = sm (fun p => p.2 * A p.1) r - sm (fun p => p.2 * B p.1) r := fun A B r => by
    rw [← sm_sub]
    exact sm_congr fun p _ => by grind
  have le : ∀ {E F E' F' : Nat → Rat}, Lv rs rows b xs E F → Lv rs rows b xs E' F' → (∀ t, E t ≤ E' t) ∧ ∀ t, F t ≤ F' t := fun {E F E' F'} lv lw => by
    constructor
    · exact one E E' (fun x h => by rw [lv.e x h, lw.e x h, sp]; grind) (fun x h => by rw [lv.e0 x h, lw.e0 x h]; grind)
    · exact one F F' (fun x h => by rw [lv.f x h, lw.f x h, sp]; grind) (fun x h => by rw [lv.f1 x h, lw.f1 x h]; grind)
  have a := le lv lw
  have c := le lw lv
  exact ⟨funext fun t => Rat.le_antisymm (a.1 t) (c.1 t), funext fun t => Rat.le_antisymm (a.2 t) (c.2 t)⟩
/-- the states of the first j pairs, ascending -/
def setOf (n : Nat) (ps : List (Nat × Rat)) (j : Nat) : List Nat := (List.range n).filter fun s => decide (s ∈ (ps.take j).map (·.1))
theorem setOf_nodup (n : Nat) (ps : List (Nat × Rat)) (j : Nat) : (setOf n ps j).Nodup := List.nodup_range.sublist List.filter_sublist
theorem setOf_mem {n : Nat} {ps : List (Nat × Rat)} {j s : Nat} (h : ∀ p ∈ ps, p.1 < n) : s ∈ setOf n ps j ↔ s ∈ (ps.take j).map (·.1) := by
  unfold setOf
  rw [List.mem_filter, List.mem_range, decide_eq_true_eq]
  refine ⟨fun h => h.2, fun hm => ⟨?_, hm⟩⟩
  obtain ⟨p, hp, rfl⟩ := List.mem_map.mp hm
  exact h p (List.mem_of_mem_take hp)
theorem setOf_lt {n : Nat} {ps : List (Nat × Rat)} {j : Nat} : ∀ s ∈ setOf n ps j, s < n := fun s h => List.mem_range.mp (List.mem_filter.mp h).1
theorem take_next {ps : List (Nat × Rat)} {j : Nat} (hj : j < ps.length) : (ps.take (j + 1)).map (·.1) = (ps.take j).map (·.1) ++ [ps[j].1] := by
  rw [List.take_add_one, List.getElem?_eq_getElem hj, List.map_append]; rfl
/-- the value that belongs to a state -/
def idxV (ps : List (Nat × Rat)) (s : Nat) : Rat := ((ps.find? fun p => decide (p.1 = s)).map (·.2)).getD 0
theorem idxV_of : ∀ {ps : List (Nat × Rat)} {p : Nat × Rat}, (ps.map (·.1)).Nodup → p ∈ ps → idxV ps p.1 = p.2
  | q :: ps, p, nd, h => by
    rw [List.map_cons, List.nodup_cons] at nd
    unfold idxV
    rw [List.find?_cons]
    rcases List.mem_cons.mp h with rfl | h
    · rw [decide_eq_true rfl]; rfl
    · have hne : ¬ q.1 = p.1 := fun e => nd.1 (by rw [e]; exact List.mem_map_of_mem h)
      rw [decide_eq_false hne]
      exact idxV_of nd.2 h
end Q
set_option Elab.async false
set_option linter.all false
set_option maxRecDepth 100000
set_option maxHeartbeats 1000000
namespace Q
open PySem L2 PyProof.Rows PySem.Calls
def gSortT : List O → Option O
  | [o] => (o.asT).bind fun ds => (ds.mapM D.i?).bind fun ns => some (.ls ((sortI ns).map fun i => .fz (.int i)))
  | _ => none
@[simp] theorem e_gSortT {ns : List Int} : gSortT [.fz (.tup (ns.map D.int))] = some (.ls ((sortI ns).map fun i => .fz (.int i))) := by
  simp only [gSortT, O.asT, mapM_int, Option.bind_some]
end Q
set_option Elab.async false
set_option linter.all false
set_option maxRecDepth 100000
set_option maxHeartbeats 1000000
namespace Q
open PySem L2
def stepV (rs : List Rat) (rows : List (List (Nat × Rat))) (b : Rat) (V : Nat → Rat) (s : Nat) : Rat := rwA rs s + b * sm (fun p => p.2 * V p.1) (rowA rows s)
/-- played inside the set, stopped at the amount outside -/
structure Sol (rs : List Rat) (rows : List (List (Nat × Rat))) (b : Rat) (xs : List Nat) (M : Rat) (V : Nat → Rat) : Prop where
  i : ∀ x ∈ xs, V x = stepV rs rows b V x
  o : ∀ x, x ∉ xs → V x = M
theorem step_lin (rs : List Rat) (rows : List (List (Nat × Rat))) (b : Rat) (E F : Nat → Rat) (M : Rat) (s : Nat) : stepV rs rows b (fun t => E t + F t * M) s = stepV rs rows b E s + b * sm (fun p => p.2 * F p.1) (rowA rows s) * M := by
  unfold stepV
  have e : sm (fun p : Nat × Rat => p.2 * (E p.1 + F p.1 * M)) (rowA rows s) = sm (fun p => p.2 * E p.1) (rowA rows s) + M * sm (fun p => p.2 * F p.1) (rowA rows s) := by
    rw [← sm_mul, ← sm_add]
    exact sm_congr fun p _ => by grind
  rw [e]
  grind
theorem Lv.sol {rs : List Rat} {rows : List (List (Nat × Rat))} {b : Rat} {xs : List Nat} {E F : Nat → Rat} (lv : Lv rs rows b xs E F) (M : Rat) : Sol rs rows b xs M (fun t => E t + F t * M) := by
  refine ⟨fun x hx => ?_, fun x hx => ?_⟩
  · rw [step_lin]
    have e1 := lv.e x hx
    have e2 := lv.f x hx
    show E x + F x * M = _
    unfold stepV
    rw [← e1, ← e2]
  · show E x + F x * M = M
    rw [lv.e0 x hx, lv.f1 x hx]
    grind
section
variable {rs : List Rat} {rows : List (List (Nat × Rat))} {n : Nat} (ch : Chances rows n) {b : Rat} (hb : Disc b)
theorem step_sub (U V : Nat → Rat) (s : Nat) : stepV rs rows b U s - stepV rs rows b V s = b * sm (fun p => p.2 * (U p.1 - V p.1)) (rowA rows s) := by
  unfold stepV
  have e : sm (fun p : Nat × Rat => p.2 * (U p.1 - V p.1)) (rowA rows s) = sm (fun p => p.2 * U p.1) (rowA rows s) - sm (fun p => p.2 * V p.1) (rowA rows s) := by
    rw [← sm_sub]
    exact sm_congr fun p _ => by grind
  rw [e]
  grind
include ch hb in
theorem step_mono {U V : Nat → Rat} {d : Rat} (h : ∀ t, U t ≤ V t + d) {s : Nat} (hs : s < n) : stepV rs rows b U s ≤ stepV rs rows b V s + b * d := by
  have a1 := avg_le (ch.nn s) (g := fun t => U t - V t) (M := d) fun t => by have := h t; grind
  rw [ch.one s hs, Rat.mul_one] at a1
  have a2 := Rat.mul_le_mul_of_nonneg_left a1 hb.nn
  have e := step_sub (rs := rs) (rows := rows) (b := b) U V s
  rw [← e] at a2
  grind
include ch hb in
theorem sub_le {xs : List Nat} (hx : ∀ x ∈ xs, x < n) {U V : Nat → Rat} (h1 : ∀ x ∈ xs, U x ≤ stepV rs rows b U x) (h2 : ∀ x ∈ xs, stepV rs rows b V x ≤ V x) (h3 : ∀ x, x ∉ xs → U x ≤ V x) (t : Nat) : U t ≤ V t := by
  have := max_prin ch hb hx (g := fun t => U t - V t) (fun x h => by
    have a := h1 x h
    have c := h2 x h
    have e := step_sub (rs := rs) (rows := rows) (b := b) U V x
    show U x - V x ≤ b * sm (fun p : Nat × Rat => p.2 * (U p.1 - V p.1)) (rowA rows x)
    rw [← e]
    grind) (fun x h => by have := h3 x h; grind) t
  grind
include ch hb in
theorem Sol.le {xs : List Nat} (hx : ∀ x ∈ xs, x < n) {M : Rat} {U V : Nat → Rat} (hu : Sol rs rows b xs M U) (hv : Sol rs rows b xs M V) (t : Nat) : U t ≤ V t :=
  sub_le ch hb hx (fun x h => by rw [← hu.i x h]; exact Rat.le_refl) (fun x h => by rw [← hv.i x h]; exact Rat.le_refl) (fun x h => by rw [hu.o x h, hv.o x h]; exact Rat.le_refl) t
include ch hb in
theorem Sol.uniq {xs : List Nat} (hx : ∀ x ∈ xs, x < n) {M : Rat} {U V : Nat → Rat} (hu : Sol rs rows b xs M U) (hv : Sol rs rows b xs M V) : U = V :=
  funext fun t => Rat.le_antisymm (Sol.le ch hb hx hu hv t) (Sol.le ch hb hx hv hu t)
include ch hb in
theorem Sol.shift {xs : List Nat} (hx : ∀ x ∈ xs, x < n) {M N : Rat} (h : M ≤ N) {U V : Nat → Rat} (hu : Sol rs rows b xs M U) (hv : Sol rs rows b xs N V) (t : Nat) : V t ≤ U t + (N - M) := by
  have key := max_prin ch hb hx (g := fun t => V t - U t - (N - M)) (fun x h => by
    have a := hu.i x h
    have c := hv.i x h
    have e := step_sub (rs := rs) (rows := rows) (b := b) V U x
    have o := ch.one x (hx x h)
    have e3 : sm (fun p : Nat × Rat => p.2 * (V p.1 - U p.1 - (N - M))) (rowA rows x) = sm (fun p => p.2 * (V p.1 - U p.1)) (rowA rows x) - (N - M) * sm (fun p => p.2) (rowA rows x) := by
      rw [← sm_mul, ← sm_sub]
      exact sm_congr fun p _ => by grind
    show V x - U x - (N - M) ≤ b * sm (fun p : Nat × Rat => p.2 * (V p.1 - U p.1 - (N - M))) (rowA rows x)
    rw [e3, o]
    have q : b * (N - M) ≤ 1 * (N - M) := Rat.mul_le_mul_of_nonneg_right (by have := hb.lt; grind) (by grind)
    rw [← a, ← c] at e
    grind) (fun x h => by
      show V x - U x - (N - M) ≤ 0
      rw [hu.o x h, hv.o x h]
      grind) t
  grind
end
/-- the order in which the states are chosen: each step takes the best worth -/
structure Ord (rs : List Rat) (rows : List (List (Nat × Rat))) (n : Nat) (b : Rat) (ps : List (Nat × Rat)) : Prop where
  lt : ∀ p ∈ ps, p.1 < n
  nd : (ps.map (·.1)).Nodup
  len : ps.length = n
  step : ∀ j (h : j < ps.length), ∃ V, Sol rs rows b (setOf n ps j) ps[j].2 V ∧ stepV rs rows b V ps[j].1 = ps[j].2 ∧ ps[j].1 ∉ setOf n ps j ∧ ∀ s, s < n → s ∉ setOf n ps j → stepV rs rows b V s ≤ ps[j].2
theorem setOf_next_mem {n : Nat} {ps : List (Nat × Rat)} (h : ∀ p ∈ ps, p.1 < n) {j : Nat} (hj : j < ps.length) (s : Nat) : s ∈ setOf n ps (j + 1) ↔ s ∈ setOf n ps j ∨ s = ps[j].1 := by
  rw [setOf_mem h, setOf_mem h, take_next hj, List.mem_append, List.mem_singleton]
theorem least_nat {p : Nat → Prop} (h : ∃ m, p m) : ∃ m, p m ∧ ∀ j, j < m → ¬ p j := by
  obtain ⟨m, hm⟩ := h
  induction m using Nat.strongRecOn with
  | _ m ih =>
    by_cases hc : ∃ j, j < m ∧ p j
    · obtain ⟨j, hj, pj⟩ := hc
      exact ih j hj pj
    · exact ⟨m, hm, fun j hj pj => hc ⟨j, hj, pj⟩⟩
theorem nodup_fst_inj {ps : List (Nat × Rat)} (nd : (ps.map (·.1)).Nodup) {i j : Nat} (hi : i < ps.length) (hj : j < ps.length) (e : ps[i].1 = ps[j].1) : i = j := by
  have h1 : (ps.map (·.1))[i]'(by simpa using hi) = (ps.map (·.1))[j]'(by simpa using hj) := by simpa using e
  exact (List.getElem_inj nd).mp h1
section
variable {rs : List Rat} {rows : List (List (Nat × Rat))} {n : Nat} (ch : Chances rows n) {b : Rat} (hb : Disc b) {ps : List (Nat × Rat)} (o : Ord rs rows n b ps)
include ch hb o in
theorem Ord.down1 {j : Nat} (hj : j + 1 < ps.length) : ps[j + 1].2 ≤ ps[j].2 := by
  obtain ⟨V, sv, e1, h1, h2⟩ := o.step j (by omega)
  obtain ⟨W, sw, e2, h3, h4⟩ := o.step (j + 1) hj
  have hm := setOf_next_mem o.lt (j := j) (by omega)
  have sv' : Sol rs rows b (setOf n ps (j + 1)) ps[j].2 V := by
    refine ⟨fun x hx => ?_, fun x hx => sv.o x fun h => hx ((hm x).mpr (.inl h))⟩
    rcases (hm x).mp hx with h | rfl
    · exact sv.i x h
    · rw [e1]; exact sv.o _ h1
  apply Classical.byContradiction
  intro hc
  have hlt : ps[j].2 < ps[j + 1].2 := by grind
  have sh := Sol.shift ch hb setOf_lt (by grind : ps[j].2 ≤ ps[j + 1].2) sv' sw
  have hn : ps[j + 1].1 < n := o.lt _ (List.getElem_mem hj)
  have a1 := step_mono (rs := rs) ch hb sh hn
  have a2 := h2 ps[j + 1].1 hn fun h => h3 ((hm _).mpr (.inl h))
  have q : b * (ps[j + 1].2 - ps[j].2) < 1 * (ps[j + 1].2 - ps[j].2) := Rat.mul_lt_mul_of_pos_right hb.lt (by grind)
  rw [e2] at a1
  generalize b * (ps[j + 1].2 - ps[j].2) = w at *
  grind
include ch hb o in
theorem Ord.down {i j : Nat} (hij : i ≤ j) (hj : j < ps.length) : ps[j].2 ≤ ps[i].2 := by
  induction j with
  | zero =>
    have : i = 0 := by omega
    subst this
    exact Rat.le_refl
  | succ j ih =>
    by_cases h : i = j + 1
    · subst h; exact Rat.le_refl
    · exact Rat.le_trans (o.down1 ch hb hj) (ih (by omega) (by omega))
include o in
theorem Ord.idx {j : Nat} (hj : j < ps.length) : idxV ps ps[j].1 = ps[j].2 := idxV_of o.nd (List.getElem_mem hj)
include o in
theorem Ord.all {s : Nat} (hs : s < n) : ∃ j, ∃ h : j < ps.length, ps[j].1 = s := by
  have := nodup_all (n := n) o.nd (fun x hx => by
    obtain ⟨p, hp, rfl⟩ := List.mem_map.mp hx
    exact o.lt p hp) (by simp [o.len]) s hs
  obtain ⟨p, hp, e⟩ := List.mem_map.mp this
  obtain ⟨j, hj, rfl⟩ := List.mem_iff_getElem.mp hp
  exact ⟨j, hj, e⟩
/-- the states whose value is above the amount -/
def above (n : Nat) (ps : List (Nat × Rat)) (M : Rat) : List Nat := (List.range n).filter fun s => decide (M < idxV ps s)
theorem above_mem {M : Rat} {s : Nat} : s ∈ above n ps M ↔ s < n ∧ M < idxV ps s := by
  unfold above
  rw [List.mem_filter, List.mem_range, decide_eq_true_eq]
theorem above_lt {M : Rat} : ∀ s ∈ above n ps M, s < n := fun s h => (above_mem.mp h).1
theorem above_nodup {M : Rat} : (above n ps M).Nodup := List.nodup_range.sublist List.filter_sublist
theorem setOf_get (h : ∀ p ∈ ps, p.1 < n) {j s : Nat} : s ∈ setOf n ps j ↔ ∃ i, ∃ hi : i < ps.length, i < j ∧ ps[i].1 = s := by
  rw [setOf_mem h, List.mem_map]
  constructor
  · rintro ⟨p, hp, rfl⟩
    obtain ⟨i, hi, rfl⟩ := List.mem_iff_getElem.mp hp
    rw [List.length_take] at hi
    exact ⟨i, by omega, by omega, by rw [List.getElem_take]⟩
  · rintro ⟨i, hi, hij, rfl⟩
    refine ⟨ps[i], List.mem_iff_getElem.mpr ⟨i, by rw [List.length_take]; omega, by rw [List.getElem_take]⟩, rfl⟩
include ch hb o in
theorem Ord.cut (M : Rat) : ∃ m, m ≤ ps.length ∧ (∀ j (h : j < ps.length), j < m ↔ M < ps[j].2) ∧ above n ps M = setOf n ps m := by
  have ex : ∃ m, m ≤ ps.length ∧ ∀ j (h : j < ps.length), j < m ↔ M < ps[j].2 := by
    by_cases hall : ∀ j (h : j < ps.length), M < ps[j].2
    · exact ⟨ps.length, Nat.le_refl _, fun j h => ⟨fun _ => hall j h, fun _ => h⟩⟩
    · have hex : ∃ j, ∃ h : j < ps.length, ¬ M < ps[j].2 := by
        apply Classical.byContradiction
        intro hc
        exact hall fun j h => Classical.byContradiction fun h2 => hc ⟨j, h, h2⟩
      obtain ⟨m, ⟨hm, h2⟩, h3⟩ := least_nat hex
      refine ⟨m, by omega, fun j h => ⟨fun hlt => ?_, fun hM => ?_⟩⟩
      · exact Classical.byContradiction fun h4 => h3 j hlt ⟨h, h4⟩
      · apply Classical.byContradiction
        intro hge
        have := o.down ch hb (i := m) (j := j) (by omega) h
        exact h2 (by grind)
  obtain ⟨m, hm, h⟩ := ex
  refine ⟨m, hm, h, ?_⟩
  unfold above setOf
  refine List.filter_congr fun s hs => ?_
  refine decide_eq_decide.mpr ?_
  obtain ⟨j, hj, rfl⟩ := o.all (List.mem_range.mp hs)
  rw [o.idx hj, ← h j hj, ← setOf_mem (n := n) o.lt, setOf_get o.lt]
  constructor
  · exact fun hjm => ⟨j, hj, hjm, rfl⟩
  · rintro ⟨i, hi, him, e⟩
    have : i = j := nodup_fst_inj o.nd hi hj e
    rw [← this]; exact him
include ch hb o in
theorem Ord.floor (ex : ∀ j, j ≤ ps.length → ∀ M, ∃ V, Sol rs rows b (setOf n ps j) M V) {M : Rat} : ∀ j, j ≤ ps.length → (∀ i (h : i < ps.length), i < j → M ≤ ps[i].2) → ∀ V, Sol rs rows b (setOf n ps j) M V → ∀ t, M ≤ V t
  | 0, _, _, V, sv, t => by
    rw [sv.o t (by unfold setOf; simp)]
    exact Rat.le_refl
  | j + 1, hj, hM, V, sv, t => by
    obtain ⟨U, su⟩ := ex j (by omega) M
    have hU := Ord.floor ex j (by omega) (fun i h hij => hM i h (by omega)) U su
    refine Rat.le_trans (hU t) ?_
    have hm := setOf_next_mem o.lt (j := j) (by omega)
    obtain ⟨W, sw, e1, h1, h2⟩ := o.step j (by omega)
    refine sub_le (rs := rs) ch hb (xs := setOf n ps (j + 1)) setOf_lt (fun x hx => ?_) (fun x hx => by rw [← sv.i x hx]; exact Rat.le_refl) (fun x hx => ?_) t
    · rcases (hm x).mp hx with h | rfl
      · rw [← su.i x h]; exact Rat.le_refl
      · rw [su.o _ h1]
        have hle := hM j (by omega) (by omega)
        have sh := Sol.shift ch hb setOf_lt hle su sw
        have a1 := step_mono (rs := rs) ch hb sh (o.lt _ (List.getElem_mem (by omega : j < ps.length)))
        have q : b * (ps[j].2 - M) ≤ 1 * (ps[j].2 - M) := Rat.mul_le_mul_of_nonneg_right (by have := hb.lt; grind) (by grind)
        rw [e1] at a1
        generalize b * (ps[j].2 - M) = w at *
        grind
    · rw [su.o x fun h => hx ((hm x).mpr (.inl h)), sv.o x hx]
      exact Rat.le_refl
include ch hb o in
theorem Ord.bell (ex : ∀ j, j ≤ ps.length → ∀ M, ∃ V, Sol rs rows b (setOf n ps j) M V) {M : Rat} {V : Nat → Rat} (sv : Sol rs rows b (above n ps M) M V) : (∀ t, M ≤ V t) ∧ ∀ s, s < n → stepV rs rows b V s ≤ V s := by
  obtain ⟨m, hm, h, e⟩ := o.cut ch hb M
  rw [e] at sv
  have fl := o.floor ch hb ex m hm (fun i hi him => by have := (h i hi).mp him; grind) V sv
  refine ⟨fl, fun s hs => ?_⟩
  by_cases hin : s ∈ setOf n ps m
  · rw [← sv.i s hin]; exact Rat.le_refl
  · rw [sv.o s hin]
    by_cases hml : m < ps.length
    · obtain ⟨W, sw, e1, h1, h2⟩ := o.step m hml
      have hle : ps[m].2 ≤ M := by
        have := mt (h m hml).mpr (by omega)
        grind
      have sh := Sol.shift ch hb setOf_lt hle sw sv
      have a1 := step_mono (rs := rs) ch hb sh hs
      have a2 := h2 s hs hin
      have q : b * (M - ps[m].2) ≤ 1 * (M - ps[m].2) := Rat.mul_le_mul_of_nonneg_right (by have := hb.lt; grind) (by grind)
      generalize b * (M - ps[m].2) = w at *
      grind
    · obtain ⟨j, hj, rfl⟩ := o.all hs
      exact absurd ((setOf_get o.lt).mpr ⟨j, hj, by omega, rfl⟩) hin
include ch hb in
theorem bell_max {M : Rat} {V : Nat → Rat} (h1 : ∀ t, M ≤ V t) (h2 : ∀ s, s < n → stepV rs rows b V s ≤ V s) {xs : List Nat} (hx : ∀ x ∈ xs, x < n) {U : Nat → Rat} (su : Sol rs rows b xs M U) (t : Nat) : U t ≤ V t :=
  sub_le ch hb hx (fun x h => by rw [← su.i x h]; exact Rat.le_refl) (fun x h => h2 x (hx x h)) (fun x h => by rw [su.o x h]; exact h1 x) t
include ch hb o in
theorem Ord.tie (ex : ∀ j, j ≤ ps.length → ∀ M, ∃ V, Sol rs rows b (setOf n ps j) M V) {s : Nat} (hs : s < n) {V : Nat → Rat} (sv : Sol rs rows b (above n ps (idxV ps s)) (idxV ps s) V) : stepV rs rows b V s = idxV ps s := by
  obtain ⟨h1, h2⟩ := o.bell ch hb ex sv
  obtain ⟨j, hj, rfl⟩ := o.all hs
  rw [o.idx hj] at *
  have hle := h2 _ hs
  rw [sv.o _ (fun h => by have := (above_mem.mp h).2; rw [o.idx hj] at this; exact absurd this (by grind))] at hle
  obtain ⟨W, sw, e1, h3, h4⟩ := o.step j hj
  have hW := bell_max (rs := rs) ch hb h1 h2 setOf_lt sw
  have a1 := step_mono (rs := rs) ch hb (U := W) (V := V) (d := 0) (fun t => by have := hW t; grind) hs
  rw [e1] at a1
  grind
end
end Q
set_option Elab.async false
set_option linter.all false
set_option maxRecDepth 100000
set_option maxHeartbeats 1000000
namespace Q
open PySem L2
def oShl : O → O → Option O := oIg fun i j => if 0 ≤ j ∧ j ≤ 1000000 ∧ i.natAbs < 2 ^ 64 then some (.fz (.int (i * 2 ^ j.toNat))) else none
@[simp] theorem e_shl {i j : Int} : oShl (.fz (.int i)) (.fz (.int j)) = if 0 ≤ j ∧ j ≤ 1000000 ∧ i.natAbs < 2 ^ 64 then some (.fz (.int (i * 2 ^ j.toNat))) else none := rfl
end Q
set_option Elab.async false
set_option linter.all false
set_option maxRecDepth 100000
set_option maxHeartbeats 1000000
namespace Q
open PySem L2
/-- a set: ascending, below the size -/
structure SetOk (n : Nat) (zs : List Int) : Prop where
  asc : zs.Pairwise (· < ·)
  nn : ∀ z ∈ zs, 0 ≤ z
  lt : ∀ z ∈ zs, z < n
theorem SetOk.nodup {n : Nat} {zs : List Int} (h : SetOk n zs) : (zs.map Int.toNat).Nodup := by
  unfold List.Nodup
  rw [List.pairwise_map]
  refine List.Pairwise.imp_of_mem ?_ h.asc
  intro a b ha hb hab
  have := h.nn a ha
  have := h.nn b hb
  omega
theorem SetOk.mem {n : Nat} {zs : List Int} (h : SetOk n zs) : ∀ x ∈ zs.map Int.toNat, x < n := fun x hx => by
  obtain ⟨z, hz, rfl⟩ := List.mem_map.mp hx
  have := h.nn z hz
  have := h.lt z hz
  omega
end Q
set_option Elab.async false
set_option linter.all false
set_option maxRecDepth 100000
set_option maxHeartbeats 1000000
namespace Q
open PySem L2
def oIsB : O → O → Option O
  | .fz (.bl a), .fz (.bl b) => some (.fz (.bl (decide (a = b))))
  | _, _ => none
def oIsNotB : O → O → Option O
  | .fz (.bl a), .fz (.bl b) => some (.fz (.bl (!decide (a = b))))
  | _, _ => none
@[simp] theorem e_isB {a b : Bool} : oIsB (.fz (.bl a)) (.fz (.bl b)) = some (.fz (.bl (decide (a = b)))) := rfl
@[simp] theorem e_isNotB {a b : Bool} : oIsNotB (.fz (.bl a)) (.fz (.bl b)) = some (.fz (.bl (!decide (a = b)))) := rfl
end Q
set_option Elab.async false
set_option linter.all false
set_option maxRecDepth 100000
set_option maxHeartbeats 1000000
namespace Q
open PySem L2 PyProof.Rows
def lookF : List Str → List D → Str → Option D
  | n :: ns, d :: ds, f => match f == n with
    | true => some d
    | false => lookF ns ds f
  | _, _, _ => none
/-- the class x, and no class of it has the name f -/
structure FldOk (K : PySem.W.Frag) (x f : Str) : Prop where
  ex : ∃ C, PySem.W.nsIn K mainGlobals x = some (some (.ref C)) ∧ NoAttr K C f
theorem FldOk.of {K : PySem.W.Frag} {x f : Str} {C : Addr} (T : FldOk K x f) (i : InsC K x C) : NoAttr K C f := by
  obtain ⟨C', h, n⟩ := T.ex
  have := h.symm.trans i.ns
  cases this
  exact n
def oFld (x f : Str) : O → Option O
  | .fz (.ins y ns ds) => if y = x then (lookF ns ds f).map .fz else none
  | _ => none
def isIns (x : Str) (m : Str) : O → Option D
  | .fz (.ins y ns ds) => if y = x ∧ m ∉ ns then some (.ins y ns ds) else none
  | _ => none
def mMeth (x m : Str) (mf : List D → Option D) (mo : EM O) (mA : EM (List O)) : EM O := fun env => (mo env).bind fun p => (isIns x m p.1).bind fun d => (mA p.2).bind fun q => (mf (d :: O.frzs q.1)).bind fun r => some (.fz r, q.2)
def iSeq (a : SM) (b : Addr → En → Option D) : Addr → En → Option D := fun p env => (a env).bind fun out => match out with
  | .nx e => b p e
  | _ => none
@[simp] theorem e_oFld {x f : Str} {ns : List Str} {ds : List D} {y : Str} : oFld x f (.fz (.ins y ns ds)) = if y = x then (lookF ns ds f).map .fz else none := rfl
@[simp] theorem e_isIns {x m : Str} {ns : List Str} {ds : List D} {y : Str} : isIns x m (.fz (.ins y ns ds)) = if y = x ∧ m ∉ ns then some (.ins y ns ds) else none := rfl
@[simp] theorem e_mMeth {x m : Str} {mf : List D → Option D} {mo : EM O} {mA : EM (List O)} {env : En} : mMeth x m mf mo mA env = (mo env).bind fun p => (isIns x m p.1).bind fun d => (mA p.2).bind fun q => (mf (d :: O.frzs q.1)).bind fun r => some (.fz r, q.2) := rfl
@[simp] theorem e_iSeq {a : SM} {b : Addr → En → Option D} {p : Addr} {env : En} : iSeq a b p env = (a env).bind fun out => match out with
  | .nx e => b p e
  | _ => none := rfl
end Q
set_option Elab.async false
set_option linter.all false
set_option maxRecDepth 100000
set_option maxHeartbeats 1000000
namespace Q
open PySem L2 PyProof.Rows
end Q
set_option Elab.async false
set_option linter.all false
set_option maxRecDepth 100000
set_option maxHeartbeats 1000000
namespace Q
open PySem L2
def kAt (ks : List (Rat × Rat)) (k : Nat) : Rat × Rat := (ks[k]?).getD (0, 0)
theorem kAt_mem {ks : List (Rat × Rat)} {k : Nat} (h : k < ks.length) : kAt ks k ∈ ks := by
  unfold kAt
  rw [List.getElem?_eq_getElem h]
  exact List.getElem_mem h
/-- the slope behind knot k -/
def sl (ks : List (Rat × Rat)) (k : Nat) : Rat := ((kAt ks (k + 1)).2 - (kAt ks k).2) / ((kAt ks (k + 1)).1 - (kAt ks k).1)
structure KOk (ks : List (Rat × Rat)) : Prop where
  ne : ks ≠ []
  asc : ∀ k, k + 1 < ks.length → (kAt ks k).1 < (kAt ks (k + 1)).1
  pos : 1 < ks.length → 0 < sl ks 0
  up : ∀ k, k + 2 < ks.length → sl ks k < sl ks (k + 1)
  one : ∀ k, k + 1 < ks.length → sl ks k < 1
  last : (kAt ks (ks.length - 1)).1 = (kAt ks (ks.length - 1)).2
theorem KOk.len {ks : List (Rat × Rat)} (h : KOk ks) : 0 < ks.length := List.length_pos_iff.mpr h.ne
theorem KOk.ne0 {ks : List (Rat × Rat)} (h : KOk ks) {k : Nat} (hk : k + 1 < ks.length) : (kAt ks (k + 1)).1 - (kAt ks k).1 ≠ 0 := by
  have := h.asc k hk
  grind
/-- the piece in which the amount lies: the first knot behind the first that is not below it -/
def segLe (ks : List (Rat × Rat)) (a : Rat) : Option Nat := (List.range (ks.length - 1)).find? fun i => decide (a ≤ (kAt ks (i + 1)).1)
def segLt (ks : List (Rat × Rat)) (a : Rat) : Option Nat := (List.range (ks.length - 1)).find? fun i => decide (a < (kAt ks (i + 1)).1)
def pieceV (ks : List (Rat × Rat)) (a : Rat) (i : Nat) : Rat := (kAt ks i).2 + sl ks i * (a - (kAt ks i).1)
def valK (ks : List (Rat × Rat)) (a : Rat) : Rat := if a ≤ (kAt ks 0).1 then (kAt ks 0).2 else match segLe ks a with
  | some i => pieceV ks a i
  | none => a
def slopeK (ks : List (Rat × Rat)) (a : Rat) : Rat := if a < (kAt ks 0).1 then 0 else match segLt ks a with
  | some i => sl ks i
  | none => 1
theorem seg_lt {n : Nat} {p : Nat → Bool} {i : Nat} (h : (List.range n).find? p = some i) : i < n ∧ p i = true :=
  ⟨List.mem_range.mp (List.mem_of_find?_eq_some h), List.find?_some h⟩
end Q
set_option Elab.async false
set_option linter.all false
set_option maxRecDepth 100000
set_option maxHeartbeats 1000000
namespace Q
open PySem L2 PyProof.Rows
def isI (x : Str) : O → Option D
  | .fz (.ins y ns ds) => if y = x then some (.ins y ns ds) else none
  | _ => none
def mProp (x : Str) (mf : List D → Option D) (m : EM O) : EM O := fun env => (m env).bind fun p => (isI x p.1).bind fun d => (mf [d]).bind fun r => some (.fz r, p.2)
@[simp] theorem e_mProp {x : Str} {mf : List D → Option D} {m : EM O} {env : En} : mProp x mf m env = (m env).bind fun p => (isI x p.1).bind fun d => (mf [d]).bind fun r => some (.fz r, p.2) := rfl
@[simp] theorem e_isI {x y : Str} {ns : List Str} {ds : List D} : isI x (.fz (.ins y ns ds)) = if y = x then some (.ins y ns ds) else none := rfl
end Q
set_option Elab.async false
set_option linter.all false
set_option maxRecDepth 100000
set_option maxHeartbeats 1000000
namespace Q
open PySem L2
def mL' (ks : List (Rat × Rat)) (j : Nat) : Rat := if j = 0 then 0 else if j < ks.length then sl ks (j - 1) else 1
def lineK (ks : List (Rat × Rat)) (j : Nat) (t : Rat) : Rat := (kAt ks (j - 1)).2 + mL' ks j * (t - (kAt ks (j - 1)).1)
section
variable {ks : List (Rat × Rat)} (o : KOk ks)
include o in
theorem sl_mul {k : Nat} (hk : k + 1 < ks.length) : sl ks k * ((kAt ks (k + 1)).1 - (kAt ks k).1) = (kAt ks (k + 1)).2 - (kAt ks k).2 := by
  unfold sl
  rw [Rat.div_mul_cancel (o.ne0 hk)]
include o in
theorem line_at {j : Nat} (hj : j < ks.length) : lineK ks j (kAt ks j).1 = (kAt ks j).2 := by
  unfold lineK mL'
  by_cases h : j = 0
  · subst h
    rw [if_pos rfl]
    show (kAt ks 0).2 + 0 * ((kAt ks 0).1 - (kAt ks 0).1) = _
    grind
  · obtain ⟨i, rfl⟩ : ∃ i, j = i + 1 := ⟨j - 1, by omega⟩
    rw [if_neg h, if_pos hj, Nat.add_sub_cancel, sl_mul o hj]
    grind
include o in
theorem line_lin {j : Nat} (hj : j < ks.length) (t : Rat) : lineK ks j t = (kAt ks j).2 + mL' ks j * (t - (kAt ks j).1) := by
  have := line_at o hj
  unfold lineK at *
  rw [← this]
  grind
theorem line_move (j : Nat) (a b : Rat) : lineK ks j b = lineK ks j a + mL' ks j * (b - a) := by
  unfold lineK
  grind
include o in
theorem m_up {j : Nat} (hj : j < ks.length) : mL' ks j ≤ mL' ks (j + 1) := by
  unfold mL'
  rw [if_neg (Nat.succ_ne_zero j), Nat.add_sub_cancel]
  by_cases h : j = 0
  · subst h
    rw [if_pos rfl]
    split
    · rename_i h1
      have := o.pos (by omega)
      grind
    · decide
  · obtain ⟨i, rfl⟩ : ∃ i, j = i + 1 := ⟨j - 1, by omega⟩
    rw [if_neg h, if_pos hj, Nat.add_sub_cancel]
    split
    · rename_i h1
      have := o.up i h1
      grind
    · have := o.one i hj
      grind
include o in
theorem line_up {j : Nat} (hj : j < ks.length) {t : Rat} (h : (kAt ks j).1 ≤ t) : lineK ks j t ≤ lineK ks (j + 1) t := by
  rw [line_lin o hj]
  unfold lineK
  rw [Nat.add_sub_cancel]
  have h1 := m_up o hj
  have h2 : mL' ks j * (t - (kAt ks j).1) ≤ mL' ks (j + 1) * (t - (kAt ks j).1) := Rat.mul_le_mul_of_nonneg_right h1 (by grind)
  grind
include o in
theorem line_down {j : Nat} (hj : j < ks.length) {t : Rat} (h : t ≤ (kAt ks j).1) : lineK ks (j + 1) t ≤ lineK ks j t := by
  rw [line_lin o hj]
  unfold lineK
  rw [Nat.add_sub_cancel]
  have h1 := m_up o hj
  have h2 : mL' ks j * ((kAt ks j).1 - t) ≤ mL' ks (j + 1) * ((kAt ks j).1 - t) := Rat.mul_le_mul_of_nonneg_right h1 (by grind)
  grind
include o in
theorem k_mono {i j : Nat} (h : i ≤ j) (hj : j < ks.length) : (kAt ks i).1 ≤ (kAt ks j).1 := by
  induction j with
  | zero =>
    have : i = 0 := by omega
    subst this
    exact Rat.le_refl
  | succ j ih =>
    by_cases e : i = j + 1
    · subst e; exact Rat.le_refl
    · have h1 := ih (by omega) (by omega)
      have h2 := o.asc j hj
      grind
/-- the piece p holds the amount t -/
structure Pos (ks : List (Rat × Rat)) (p : Nat) (t : Rat) : Prop where
  le : p ≤ ks.length
  lo : p ≠ 0 → (kAt ks (p - 1)).1 ≤ t
  hi : p < ks.length → t ≤ (kAt ks p).1
include o in
theorem Pos.up {p : Nat} {t : Rat} (h : Pos ks p t) : ∀ d j : Nat, j + d = p → lineK ks j t ≤ lineK ks p t
  | 0, j, e => by
    have : j = p := by omega
    subst this
    exact Rat.le_refl
  | d + 1, j, e => by
    have h0 := h.le
    have h1 := Pos.up h d (j + 1) (by omega)
    have h2 := h.lo (by omega)
    have h3 := k_mono o (i := j) (j := p - 1) (by omega) (by omega)
    exact Rat.le_trans (line_up o (by omega) (Rat.le_trans h3 h2)) h1
include o in
theorem Pos.down {p : Nat} {t : Rat} (h : Pos ks p t) : ∀ d : Nat, p + d ≤ ks.length → lineK ks (p + d) t ≤ lineK ks p t
  | 0, _ => Rat.le_refl
  | d + 1, e => by
    have h1 := Pos.down h d (by omega)
    have h2 := h.hi (by omega)
    have h3 := k_mono o (i := p) (j := p + d) (by omega) (by omega)
    exact Rat.le_trans (line_down o (j := p + d) (by omega) (Rat.le_trans h2 h3)) h1
include o in
theorem Pos.max {p : Nat} {t : Rat} (h : Pos ks p t) {j : Nat} (hj : j ≤ ks.length) : lineK ks j t ≤ lineK ks p t := by
  by_cases c : j ≤ p
  · exact h.up o (p - j) j (by omega)
  · have := h.down o (j - p) (by omega)
    have e : p + (j - p) = j := by omega
    rwa [e] at this
theorem find_prev {n : Nat} {p : Nat → Bool} {i : Nat} (h : (List.range n).find? p = some i) : ∀ j, j < i → p j = false := fun j hj => by
  rw [List.find?_range_eq_some] at h
  simpa using h.2.2 j hj
include o in
theorem valK_line (t : Rat) : ∃ p, Pos ks p t ∧ valK ks t = lineK ks p t := by
  have hl := o.len
  unfold valK
  split
  · rename_i h
    refine ⟨0, ⟨by omega, fun z => absurd rfl z, fun _ => h⟩, ?_⟩
    unfold lineK mL'
    rw [if_pos rfl]
    show (kAt ks 0).2 = (kAt ks 0).2 + 0 * _
    grind
  · rename_i h0
    have hgt : (kAt ks 0).1 < t := by grind
    split
    · rename_i i hs
      obtain ⟨hi, hp⟩ := seg_lt hs
      have hp := of_decide_eq_true hp
      refine ⟨i + 1, ⟨by omega, fun _ => ?_, fun _ => hp⟩, ?_⟩
      · rw [Nat.add_sub_cancel]
        by_cases c : i = 0
        · subst c; grind
        · obtain ⟨k, rfl⟩ : ∃ k, i = k + 1 := ⟨i - 1, by omega⟩
          have := of_decide_eq_false (find_prev hs k (by omega))
          grind
      · unfold lineK mL' pieceV
        rw [if_neg (by omega), if_pos (by omega), Nat.add_sub_cancel]
    · rename_i hs
      refine ⟨ks.length, ⟨Nat.le_refl _, fun _ => ?_, fun z => by omega⟩, ?_⟩
      · by_cases c : ks.length = 1
        · rw [c]; show (kAt ks 0).1 ≤ t; grind
        · have := List.find?_eq_none.mp hs (ks.length - 2) (List.mem_range.mpr (by omega))
          have e : ks.length - 2 + 1 = ks.length - 1 := by omega
          rw [e] at this
          have := mt decide_eq_true this
          grind
      · unfold lineK mL'
        rw [if_neg (by omega), if_neg (by omega), ← o.last]
        grind
include o in
theorem slopeK_line (t : Rat) : ∃ p, Pos ks p t ∧ slopeK ks t = mL' ks p := by
  have hl := o.len
  unfold slopeK
  split
  · rename_i h
    exact ⟨0, ⟨by omega, fun z => absurd rfl z, fun _ => by grind⟩, by unfold mL'; rw [if_pos rfl]⟩
  · rename_i h0
    have hge : (kAt ks 0).1 ≤ t := by grind
    split
    · rename_i i hs
      obtain ⟨hi, hp⟩ := seg_lt hs
      have hp := of_decide_eq_true hp
      refine ⟨i + 1, ⟨by omega, fun _ => ?_, fun _ => by grind⟩, ?_⟩
      · rw [Nat.add_sub_cancel]
        by_cases c : i = 0
        · subst c; exact hge
        · obtain ⟨k, rfl⟩ : ∃ k, i = k + 1 := ⟨i - 1, by omega⟩
          have := of_decide_eq_false (find_prev hs k (by omega))
          grind
      · unfold mL'
        rw [if_neg (by omega), if_pos (by omega), Nat.add_sub_cancel]
    · rename_i hs
      refine ⟨ks.length, ⟨Nat.le_refl _, fun _ => ?_, fun z => by omega⟩, ?_⟩
      · by_cases c : ks.length = 1
        · rw [c]; exact hge
        · have := List.find?_eq_none.mp hs (ks.length - 2) (List.mem_range.mpr (by omega))
          have e : ks.length - 2 + 1 = ks.length - 1 := by omega
          rw [e] at this
          have := mt decide_eq_true this
          grind
      · unfold mL'
        rw [if_neg (by omega), if_neg (by omega)]
include o in
theorem valK_ge {j : Nat} (hj : j ≤ ks.length) (t : Rat) : lineK ks j t ≤ valK ks t := by
  obtain ⟨p, hp, e⟩ := valK_line o t
  rw [e]
  exact hp.max o hj
include o in
theorem m_bounds {j : Nat} (hj : j ≤ ks.length) : 0 ≤ mL' ks j ∧ mL' ks j ≤ 1 := by
  have hl := o.len
  constructor
  · induction j with
    | zero => unfold mL'; rw [if_pos rfl]; decide
    | succ j ih => exact Rat.le_trans (ih (by omega)) (m_up o (by omega))
  · have : ∀ d, d ≤ ks.length → mL' ks (ks.length - d) ≤ 1 := fun d => by
      induction d with
      | zero => intro _; unfold mL'; rw [Nat.sub_zero, if_neg (by omega), if_neg (by omega)]; exact Rat.le_refl
      | succ d ih =>
        intro hd
        have h1 := ih (by omega)
        have h2 := m_up o (j := ks.length - (d + 1)) (by omega)
        have e : ks.length - (d + 1) + 1 = ks.length - d := by omega
        rw [e] at h2
        exact Rat.le_trans h2 h1
    have := this (ks.length - j) (by omega)
    have e : ks.length - (ks.length - j) = j := by omega
    rwa [e] at this
include o in
theorem slopeK_bounds (t : Rat) : 0 ≤ slopeK ks t ∧ slopeK ks t ≤ 1 := by
  obtain ⟨q, hq, e2⟩ := slopeK_line o t
  rw [e2]
  exact m_bounds o hq.le
end
end Q
set_option Elab.async false
set_option linter.all false
set_option maxRecDepth 100000
set_option maxHeartbeats 1000000
namespace Q
open PySem L2
structure LackB (g : Rat → Rat) (xs : List Rat) (s : Rat × Option Rat) : Prop where
  no : s.2 = none → s.1 = 0 ∧ ∀ a ∈ xs, g a ≤ 0
  yes : ∀ m, s.2 = some m → m ∈ xs ∧ s.1 = g m ∧ 0 < g m ∧ (∀ a ∈ xs, g a ≤ g m) ∧ ∀ a ∈ xs, g a = g m → m ≤ a
def stepL (g : Rat → Rat) (s : Rat × Option Rat) (a : Rat) : Rat × Option Rat :=
  if s.1 < g a then (g a, some a) else match s.2 with
    | some m => if s.1 = g a ∧ a < m then (s.1, some a) else s
    | none => s
theorem LackB.step {g : Rat → Rat} {xs : List Rat} {s : Rat × Option Rat} (h : LackB g xs s) (a : Rat) : LackB g (xs ++ [a]) (stepL g s a) := by
  have mem : ∀ {P : Rat → Prop}, (∀ x ∈ xs, P x) → P a → ∀ x ∈ xs ++ [a], P x := fun h1 h2 x hx => by
    rcases List.mem_append.mp hx with hx | hx
    · exact h1 x hx
    · rw [List.mem_singleton.mp hx]; exact h2
  obtain ⟨l, w⟩ := s
  have hn : w = none → l = 0 ∧ ∀ a ∈ xs, g a ≤ 0 := h.no
  have hy : ∀ m, w = some m → m ∈ xs ∧ l = g m ∧ 0 < g m ∧ (∀ a ∈ xs, g a ≤ g m) ∧ ∀ a ∈ xs, g a = g m → m ≤ a := h.yes
  unfold stepL
  by_cases c : l < g a
  · rw [if_pos c]
    have h0 : 0 ≤ l ∧ ∀ x ∈ xs, g x ≤ l := by
      cases w with
      | none =>
        obtain ⟨e, q⟩ := hn rfl
        subst e
        exact ⟨Rat.le_refl, q⟩
      | some m =>
        obtain ⟨_, e, p, q, _⟩ := hy m rfl
        subst e
        exact ⟨by grind, q⟩
    refine ⟨(fun z => by cases z), fun m hm => ?_⟩
    cases hm
    refine ⟨by simp, rfl, by grind, mem (fun x hx => by have := h0.2 x hx; grind) Rat.le_refl, mem (fun x hx e => ?_) (fun _ => Rat.le_refl)⟩
    have := h0.2 x hx
    grind
  · rw [if_neg c]
    cases w with
    | none =>
      obtain ⟨e, q⟩ := hn rfl
      subst e
      exact ⟨fun _ => ⟨rfl, mem q (by grind)⟩, fun m hm => by cases hm⟩
    | some m =>
      obtain ⟨p1, e, p2, p3, p4⟩ := hy m rfl
      subst e
      show LackB g (xs ++ [a]) (if g m = g a ∧ a < m then (g m, some a) else (g m, some m))
      split
      · rename_i hc
        refine ⟨(fun z => by cases z), fun m' hm => ?_⟩
        cases hm
        rw [← hc.1]
        exact ⟨by simp, rfl, p2, mem p3 (by grind), mem (fun x hx e => by have := p4 x hx e; grind) (fun _ => Rat.le_refl)⟩
      · rename_i hc
        refine ⟨(fun z => by cases z), fun m' hm => ?_⟩
        cases hm
        exact ⟨by simp [p1], rfl, p2, mem p3 (by grind), mem p4 (fun e => by
          apply Classical.byContradiction
          intro hlt
          exact hc ⟨e.symm, by grind⟩)⟩
theorem LackB.uniq {g : Rat → Rat} {xs ys : List Rat} {s t : Rat × Option Rat} (h : LackB g xs s) (h' : LackB g ys t) (e : ∀ a, a ∈ xs ↔ a ∈ ys) : s = t := by
  obtain ⟨l, w⟩ := s
  obtain ⟨l', w'⟩ := t
  have hn : w = none → l = 0 ∧ ∀ a ∈ xs, g a ≤ 0 := h.no
  have hy : ∀ m, w = some m → m ∈ xs ∧ l = g m ∧ 0 < g m ∧ (∀ a ∈ xs, g a ≤ g m) ∧ ∀ a ∈ xs, g a = g m → m ≤ a := h.yes
  have hn' : w' = none → l' = 0 ∧ ∀ a ∈ ys, g a ≤ 0 := h'.no
  have hy' : ∀ m, w' = some m → m ∈ ys ∧ l' = g m ∧ 0 < g m ∧ (∀ a ∈ ys, g a ≤ g m) ∧ ∀ a ∈ ys, g a = g m → m ≤ a := h'.yes
  cases w with
  | none =>
    obtain ⟨rfl, q⟩ := hn rfl
    cases w' with
    | none => obtain ⟨rfl, _⟩ := hn' rfl; rfl
    | some m' =>
      obtain ⟨p1, _, p2, _⟩ := hy' m' rfl
      have := q m' ((e m').mpr p1)
      grind
  | some m =>
    obtain ⟨p1, rfl, p2, p3, p4⟩ := hy m rfl
    cases w' with
    | none =>
      obtain ⟨_, q⟩ := hn' rfl
      have := q m ((e m).mp p1)
      grind
    | some m' =>
      obtain ⟨q1, rfl, q2, q3, q4⟩ := hy' m' rfl
      have a1 := p3 m' ((e m').mpr q1)
      have a2 := q3 m ((e m).mp p1)
      have ee : g m = g m' := Rat.le_antisymm a2 a1
      have b1 := p4 m' ((e m').mpr q1) ee.symm
      have b2 := q4 m ((e m).mp p1) ee
      have : m = m' := Rat.le_antisymm b1 b2
      rw [this]
structure Mg (ks qs : List (Rat × Rat)) (i j : Nat) (out : List Rat) : Prop where
  i1 : i ≤ ks.length
  j1 : j ≤ qs.length
  asc : out.Pairwise (· < ·)
  l1 : i < ks.length → ∀ a ∈ out, a < (kAt ks i).1
  l2 : j < qs.length → ∀ a ∈ out, a < (kAt qs j).1
  mem : ∀ a, a ∈ out ↔ (∃ k, k < i ∧ a = (kAt ks k).1) ∨ ∃ k, k < j ∧ a = (kAt qs k).1
  len : out.length ≤ i + j
theorem Mg.nil (ks qs : List (Rat × Rat)) : Mg ks qs 0 0 [] :=
  ⟨Nat.zero_le _, Nat.zero_le _, List.Pairwise.nil, fun _ a h => by simp at h, fun _ a h => by simp at h, fun a => by simp, Nat.le_refl _⟩
theorem ex_succ {ks : List (Rat × Rat)} {i : Nat} {a : Rat} : (∃ k, k < i + 1 ∧ a = (kAt ks k).1) ↔ (∃ k, k < i ∧ a = (kAt ks k).1) ∨ a = (kAt ks i).1 := by
  constructor
  · rintro ⟨k, hk, rfl⟩
    by_cases e : k = i
    · subst e; exact .inr rfl
    · exact .inl ⟨k, by omega, rfl⟩
  · rintro (⟨k, hk, rfl⟩ | rfl)
    · exact ⟨k, by omega, rfl⟩
    · exact ⟨i, by omega, rfl⟩
section
variable {ks qs : List (Rat × Rat)} (o : KOk ks) (p : KOk qs) {i j : Nat} {out : List Rat}
theorem asc_snoc {out : List Rat} {a : Rat} (h : out.Pairwise (· < ·)) (ha : ∀ x ∈ out, x < a) : (out ++ [a]).Pairwise (· < ·) := by
  rw [List.pairwise_append]
  exact ⟨h, List.pairwise_singleton _ _, fun x hx y hy => by rw [List.mem_singleton.mp hy]; exact ha x hx⟩
theorem lt_snoc {out : List Rat} {a b : Rat} (ha : ∀ x ∈ out, x < b) (h : a < b) : ∀ x ∈ out ++ [a], x < b := fun x hx => by
  rcases List.mem_append.mp hx with hx | hx
  · exact ha x hx
  · rw [List.mem_singleton.mp hx]; exact h
include o in
theorem Mg.one (m : Mg ks qs i j out) (hi : i < ks.length) (h : j < qs.length → (kAt ks i).1 < (kAt qs j).1) : Mg ks qs (i + 1) j (out ++ [(kAt ks i).1]) := by
  refine ⟨hi, m.j1, asc_snoc m.asc (m.l1 hi), fun h1 => lt_snoc (fun x hx => ?_) (o.asc i h1), fun h2 => lt_snoc (m.l2 h2) (h h2), fun a => ?_, by have := m.len; simp; omega⟩
  · have := m.l1 hi x hx
    have := o.asc i h1
    grind
  · rw [List.mem_append, m.mem, List.mem_singleton, ex_succ]
    constructor
    · rintro ((h | h) | h)
      · exact .inl (.inl h)
      · exact .inr h
      · exact .inl (.inr h)
    · rintro ((h | h) | h)
      · exact .inl (.inl h)
      · exact .inr h
      · exact .inl (.inr h)
end
end Q
set_option Elab.async false
set_option linter.all false
set_option maxRecDepth 100000
set_option maxHeartbeats 1000000
namespace Q
open PySem L2 PyProof.Rows PySem.W
def oOwn (x : Str) (mf : List D → Option D) (a b : O) : Option O := (isI x a).bind fun d => (isI x b).bind fun e => (mf [d, e]).bind fun r => some (.fz r)
@[simp] theorem e_oOwn {x : Str} {mf : List D → Option D} {a b : O} : oOwn x mf a b = (isI x a).bind fun d => (isI x b).bind fun e => (mf [d, e]).bind fun r => some (.fz r) := rfl
end Q
set_option Elab.async false
set_option linter.all false
set_option maxRecDepth 100000
set_option maxHeartbeats 1000000
namespace Q
open PySem L2
def slP (p q : Rat × Rat) : Rat := (q.2 - p.2) / (q.1 - p.1)
def aft (p : Rat × Rat) : List (Rat × Rat) → Rat
  | [] => 1
  | q :: _ => slP p q
def nxt (p : Rat × Rat) : List (Rat × Rat) → Prop
  | [] => p.1 = p.2
  | q :: _ => p.1 < q.1
/-- the slope at an amount, when the slope ahead of the points is b -/
def slS (b : Rat) : List (Rat × Rat) → Rat → Rat
  | [], _ => b
  | p :: r, x => if x < p.1 then b else slS (aft p r) r x
def TOk (b : Rat) : List (Rat × Rat) → Prop
  | [] => b = 1
  | p :: r => b < aft p r ∧ nxt p r ∧ TOk (aft p r) r
theorem slP_mul {p q : Rat × Rat} (h : p.1 < q.1) : slP p q * (q.1 - p.1) = q.2 - p.2 := by
  have : q.1 - p.1 ≠ 0 := by grind
  unfold slP
  rw [Rat.div_def, Rat.mul_assoc, Rat.inv_mul_cancel _ this, Rat.mul_one]
theorem TOk.lt1 : ∀ {r : List (Rat × Rat)} {b : Rat} {p : Rat × Rat}, TOk b (p :: r) → b < 1
  | [], b, p, ⟨h1, _, _⟩ => h1
  | q :: r, b, p, ⟨h1, _, h3⟩ => by
    have := TOk.lt1 h3
    grind
theorem slS_big : ∀ (r : List (Rat × Rat)) (b : Rat) (x : Rat), TOk b r → (∀ p ∈ r, p.1 ≤ x) → slS b r x = 1
  | [], b, x, h, _ => h
  | p :: r, b, x, ⟨_, _, h3⟩, h => by
    have hp := h p (by simp)
    show (if x < p.1 then b else slS (aft p r) r x) = 1
    rw [if_neg (by grind)]
    exact slS_big r _ x h3 fun q hq => h q (by simp [hq])
theorem nxt_low {p : Rat × Rat} {r : List (Rat × Rat)} (h : nxt p r) {b x : Rat} (hx : x ≤ p.1) : slS b r x = b := by
  cases r with
  | nil => rfl
  | cons q r =>
    have h : p.1 < q.1 := h
    exact if_pos (by grind)
theorem slS_uniq : ∀ (r s : List (Rat × Rat)) (b : Rat), TOk b r → TOk b s → (∀ x, slS b r x = slS b s x) → r = s
  | [], [], _, _, _, _ => rfl
  | [], q :: s, b, h, h', _ => by
    have := h'.lt1
    have h : b = 1 := h
    grind
  | p :: r, [], b, h, h', _ => by
    have := h.lt1
    have h' : b = 1 := h'
    grind
  | p :: r, q :: s, b, ⟨h1, h2, h3⟩, ⟨k1, k2, k3⟩, e => by
    have ep := e p.1
    have eq' := e q.1
    have l1 : slS b (p :: r) p.1 = aft p r := by
      show (if p.1 < p.1 then b else _) = _
      rw [if_neg (Rat.lt_irrefl)]
      exact nxt_low h2 Rat.le_refl
    have l2 : slS b (q :: s) q.1 = aft q s := by
      show (if q.1 < q.1 then b else _) = _
      rw [if_neg (Rat.lt_irrefl)]
      exact nxt_low k2 Rat.le_refl
    have hpq : p.1 = q.1 := by
      by_cases c1 : p.1 < q.1
      · have : slS b (q :: s) p.1 = b := if_pos c1
        rw [l1, this] at ep
        grind
      · by_cases c2 : q.1 < p.1
        · have : slS b (p :: r) q.1 = b := if_pos c2
          rw [l2, this] at eq'
          grind
        · grind
    have ea : aft p r = aft q s := by
      rw [← hpq] at l2
      rw [← l1, ← l2]
      exact ep
    have ih := slS_uniq r s (aft p r) h3 (by rw [ea]; exact k3) fun x => by
      by_cases c : x < p.1
      · rw [nxt_low h2 (Rat.le_of_lt c), ea, nxt_low k2 (by rw [← hpq]; exact Rat.le_of_lt c)]
      · have := e x
        have a1 : slS b (p :: r) x = slS (aft p r) r x := if_neg c
        have a2 : slS b (q :: s) x = slS (aft q s) s x := if_neg (by rw [← hpq]; exact c)
        rw [a1, a2] at this
        rw [this, ea]
    subst ih
    have : p.2 = q.2 := by
      cases r with
      | nil =>
        have h2 : p.1 = p.2 := h2
        have k2 : q.1 = q.2 := k2
        grind
      | cons z r =>
        have m1 := slP_mul (p := p) (q := z) h2
        have m2 := slP_mul (p := q) (q := z) k2
        have ea : slP p z = slP q z := ea
        rw [ea, hpq] at m1
        grind
    rw [show p = q from Prod.ext hpq this]
theorem tok_of : ∀ (r : List (Rat × Rat)) (b : Rat) (p : Rat × Rat), b < 1 → (1 < (p :: r).length → b < sl (p :: r) 0) →
    (∀ k, k + 1 < (p :: r).length → (kAt (p :: r) k).1 < (kAt (p :: r) (k + 1)).1) → (∀ k, k + 2 < (p :: r).length → sl (p :: r) k < sl (p :: r) (k + 1)) → (∀ k, k + 1 < (p :: r).length → sl (p :: r) k < 1) →
    (kAt (p :: r) ((p :: r).length - 1)).1 = (kAt (p :: r) ((p :: r).length - 1)).2 → TOk b (p :: r)
  | [], b, p, h1, _, _, _, _, h6 => ⟨h1, h6, rfl⟩
  | q :: r, b, p, h1, h2, h3, h4, h5, h6 => by
    have ea : aft p (q :: r) = sl (p :: q :: r) 0 := rfl
    refine ⟨h2 (by simp), h3 0 (by simp), ?_⟩
    rw [ea]
    refine tok_of r _ q (h5 0 (by simp)) (fun hh => h4 0 (by simp at hh ⊢; omega)) (fun k hk => h3 (k + 1) (by simp at hk ⊢; omega)) (fun k hk => h4 (k + 1) (by simp at hk ⊢; omega)) (fun k hk => h5 (k + 1) (by simp at hk ⊢; omega)) ?_
    have e : (p :: q :: r).length - 1 = ((q :: r).length - 1) + 1 := by simp
    rw [e] at h6
    exact h6
theorem KOk.tok {ks : List (Rat × Rat)} (o : KOk ks) : TOk 0 ks := by
  cases ks with
  | nil => exact absurd rfl o.ne
  | cons p r => exact tok_of r 0 p (by decide) o.pos o.asc o.up o.one o.last
def seg1 (ks : List (Rat × Rat)) (x : Rat) : Rat := match segLt ks x with
  | some i => sl ks i
  | none => 1
theorem segLt_cons (p q : Rat × Rat) (r : List (Rat × Rat)) (x : Rat) : segLt (p :: q :: r) x = if x < q.1 then some 0 else (segLt (q :: r) x).map (· + 1) := by
  unfold segLt
  have e : (p :: q :: r).length - 1 = ((q :: r).length - 1) + 1 := by simp
  rw [e, List.range_succ_eq_map, List.find?_cons]
  by_cases h : x < q.1
  · have : decide (x < (kAt (p :: q :: r) (0 + 1)).1) = true := decide_eq_true h
    rw [this, if_pos h]
  · have : decide (x < (kAt (p :: q :: r) (0 + 1)).1) = false := decide_eq_false h
    rw [this, if_neg h, List.find?_map]
    rfl
theorem seg1_slS : ∀ (r : List (Rat × Rat)) (p : Rat × Rat) (x : Rat), seg1 (p :: r) x = slS (aft p r) r x
  | [], p, x => rfl
  | q :: r, p, x => by
    have ih := seg1_slS r q x
    unfold seg1 at ih ⊢
    rw [segLt_cons]
    show _ = if x < q.1 then aft p (q :: r) else slS (aft q r) r x
    by_cases h : x < q.1
    · rw [if_pos h, if_pos h]; rfl
    · rw [if_neg h, if_neg h, ← ih]
      cases segLt (q :: r) x <;> rfl
theorem slopeK_slS (ks : List (Rat × Rat)) (hne : ks ≠ []) (x : Rat) : slopeK ks x = slS 0 ks x := by
  cases ks with
  | nil => exact absurd rfl hne
  | cons p r =>
    unfold slopeK
    show (if x < p.1 then 0 else seg1 (p :: r) x) = if x < p.1 then 0 else slS (aft p r) r x
    rw [seg1_slS]
theorem slopeK_uniq {ks qs : List (Rat × Rat)} (o : KOk ks) (p : KOk qs) (h : ∀ x, slopeK ks x = slopeK qs x) : ks = qs :=
  slS_uniq ks qs 0 o.tok p.tok fun x => by rw [← slopeK_slS ks o.ne, ← slopeK_slS qs p.ne, h x]
end Q
set_option Elab.async false
set_option linter.all false
set_option maxRecDepth 100000
set_option maxHeartbeats 1000000
namespace Q
open PySem L2
theorem mul_nn {a b : Rat} (h1 : 0 ≤ a) (h2 : 0 ≤ b) : 0 ≤ a * b := Rat.mul_nonneg h1 h2
end Q
set_option Elab.async false
set_option linter.all false
set_option maxRecDepth 100000
set_option maxHeartbeats 1000000
namespace Q
open PySem L2
structure KZ (a s v : Nat) (ks : List (Rat × Rat)) : Prop where
  am : ∀ p ∈ ks, sz p.1 ≤ a
  sl : ∀ k, k + 1 < ks.length → sz (sl ks k) ≤ s
  va : ∀ p ∈ ks, sz p.2 ≤ v
theorem KZ.mono {a s v a' s' v' : Nat} {ks : List (Rat × Rat)} (h : KZ a s v ks) (h1 : a ≤ a') (h2 : s ≤ s') (h3 : v ≤ v') : KZ a' s' v' ks :=
  ⟨fun p hp => Nat.le_trans (h.am p hp) h1, fun k hk => Nat.le_trans (h.sl k hk) h2, fun p hp => Nat.le_trans (h.va p hp) h3⟩
/-- a curve that is the product of two -/
structure PrK (ks qs R : List (Rat × Rat)) : Prop where
  ok : KOk R
  sp : ∀ x, slopeK R x = slopeK ks x * slopeK qs x
theorem PrK.uniq {ks qs R S : List (Rat × Rat)} (h : PrK ks qs R) (h' : PrK ks qs S) : R = S := slopeK_uniq h.ok h'.ok fun x => by rw [h.sp, h'.sp]
def topK (ks : List (Rat × Rat)) : Rat := (kAt ks (ks.length - 1)).1
theorem slS_lt1 : ∀ (r : List (Rat × Rat)) (b x : Rat), TOk b r → (∃ q ∈ r, x < q.1) → slS b r x < 1
  | [], _, _, _, ⟨q, h, _⟩ => by simp at h
  | p :: r, b, x, h, ⟨q, hq, hx⟩ => by
    have h1 := h.lt1
    show (if x < p.1 then b else slS (aft p r) r x) < 1
    split
    · exact h1
    · rename_i hn
      refine slS_lt1 r _ x h.2.2 ⟨q, ?_, hx⟩
      rcases List.mem_cons.mp hq with e | e
      · subst e; exact absurd hx hn
      · exact e
theorem mem_kAt {ks : List (Rat × Rat)} {p : Rat × Rat} (h : p ∈ ks) : ∃ k, k < ks.length ∧ p = kAt ks k := by
  obtain ⟨k, hk, rfl⟩ := List.mem_iff_getElem.mp h
  refine ⟨k, hk, ?_⟩
  unfold kAt
  rw [List.getElem?_eq_getElem hk]; rfl
theorem top_le {ks : List (Rat × Rat)} (o : KOk ks) (x : Rat) : (∀ p ∈ ks, p.1 ≤ x) ↔ topK ks ≤ x := by
  have hl := o.len
  constructor
  · exact fun h => h _ (kAt_mem (by omega))
  · intro h p hp
    obtain ⟨k, hk, rfl⟩ := mem_kAt hp
    exact Rat.le_trans (k_mono o (by omega) (by omega)) h
theorem slope_one {ks : List (Rat × Rat)} (o : KOk ks) (x : Rat) : slopeK ks x = 1 ↔ topK ks ≤ x := by
  rw [← top_le o, slopeK_slS ks o.ne]
  constructor
  · intro h p hp
    apply Classical.byContradiction
    intro hn
    have := slS_lt1 ks 0 x o.tok ⟨p, hp, Rat.not_le.mp hn⟩
    rw [h] at this
    exact absurd this (Rat.lt_irrefl)
  · exact slS_big ks 0 x o.tok
theorem one_mul_iff {a b : Rat} (a0 : 0 ≤ a) (a1 : a ≤ 1) (b0 : 0 ≤ b) (b1 : b ≤ 1) : a * b = 1 ↔ a = 1 ∧ b = 1 := by
  constructor
  · intro h
    have h1 := Rat.mul_le_mul_of_nonneg_left b1 a0
    have h2 := Rat.mul_le_mul_of_nonneg_right a1 b0
    rw [Rat.mul_one, h] at h1
    rw [Rat.one_mul, h] at h2
    exact ⟨Rat.le_antisymm a1 h1, Rat.le_antisymm b1 h2⟩
  · rintro ⟨rfl, rfl⟩
    exact Rat.one_mul 1
theorem PrK.top {ks qs R : List (Rat × Rat)} (o : KOk ks) (p : KOk qs) (h : PrK ks qs R) : topK R = if topK ks < topK qs then topK qs else topK ks := by
  have key : ∀ x, topK R ≤ x ↔ topK ks ≤ x ∧ topK qs ≤ x := fun x => by
    obtain ⟨a0, a1⟩ := slopeK_bounds o x
    obtain ⟨b0, b1⟩ := slopeK_bounds p x
    rw [← slope_one h.ok, ← slope_one o, ← slope_one p, h.sp, one_mul_iff a0 a1 b0 b1]
  have k1 := (key (topK R)).mp Rat.le_refl
  split
  · rename_i c
    exact Rat.le_antisymm ((key _).mpr ⟨Rat.le_of_lt c, Rat.le_refl⟩) k1.2
  · rename_i c
    exact Rat.le_antisymm ((key _).mpr ⟨Rat.le_refl, Rat.not_lt.mp c⟩) k1.1
end Q
set_option Elab.async false
set_option linter.all false
set_option maxRecDepth 100000
set_option maxHeartbeats 1000000
namespace Q
open PySem L2
section
variable {ks : List (Rat × Rat)} (o : KOk ks)
include o in
theorem slopeK_line2 (t : Rat) : ∃ p, Pos ks p t ∧ (p < ks.length → t < (kAt ks p).1) ∧ slopeK ks t = mL' ks p := by
  have hl := o.len
  unfold slopeK
  split
  · rename_i h
    exact ⟨0, ⟨by omega, fun z => absurd rfl z, fun _ => by grind⟩, fun _ => h, by unfold mL'; rw [if_pos rfl]⟩
  · rename_i h0
    have hge : (kAt ks 0).1 ≤ t := by grind
    split
    · rename_i i hs
      obtain ⟨hi, hp⟩ := seg_lt hs
      have hp := of_decide_eq_true hp
      refine ⟨i + 1, ⟨by omega, fun _ => ?_, fun _ => by grind⟩, fun _ => hp, ?_⟩
      · rw [Nat.add_sub_cancel]
        by_cases c : i = 0
        · subst c; exact hge
        · obtain ⟨k, rfl⟩ : ∃ k, i = k + 1 := ⟨i - 1, by omega⟩
          have := of_decide_eq_false (find_prev hs k (by omega))
          grind
      · unfold mL'
        rw [if_neg (by omega), if_pos (by omega), Nat.add_sub_cancel]
    · rename_i hs
      refine ⟨ks.length, ⟨Nat.le_refl _, fun _ => ?_, fun z => by omega⟩, fun z => by omega, ?_⟩
      · by_cases c : ks.length = 1
        · rw [c]; exact hge
        · have := List.find?_eq_none.mp hs (ks.length - 2) (List.mem_range.mpr (by omega))
          have e : ks.length - 2 + 1 = ks.length - 1 := by omega
          rw [e] at this
          have := mt decide_eq_true this
          grind
      · unfold mL'
        rw [if_neg (by omega), if_neg (by omega)]
include o in
theorem pos_val {p : Nat} {t : Rat} (h : Pos ks p t) : valK ks t = lineK ks p t := by
  obtain ⟨q, hq, e⟩ := valK_line o t
  have h1 : lineK ks q t ≤ lineK ks p t := h.max o hq.le
  have h2 := valK_ge o h.le t
  rw [e] at h2 ⊢
  exact Rat.le_antisymm h1 h2
include o in
theorem val_step {a b : Rat} (hab : a ≤ b) (hn : ∀ p ∈ ks, p.1 ≤ a ∨ b ≤ p.1) : valK ks b = valK ks a + slopeK ks a * (b - a) := by
  obtain ⟨p, hp, hlt, e⟩ := slopeK_line2 o a
  have hb : Pos ks p b := ⟨hp.le, fun h => Rat.le_trans (hp.lo h) hab, fun h => by
    rcases hn _ (kAt_mem h) with h1 | h1
    · have := hlt h
      grind
    · exact h1⟩
  rw [pos_val o hp, pos_val o hb, e]
  exact line_move p a b
end
theorem asc_ex : ∀ B : List Rat, ∃ A : List Rat, A.Pairwise (· < ·) ∧ ∀ a, a ∈ A ↔ a ∈ B
  | [] => ⟨[], List.Pairwise.nil, fun a => Iff.rfl⟩
  | b :: B => by
    obtain ⟨A, h1, h2⟩ := asc_ex B
    refine ⟨A.filter (fun x => decide (x < b)) ++ b :: A.filter (fun x => decide (b < x)), ?_, fun a => ?_⟩
    · rw [List.pairwise_append]
      refine ⟨h1.filter _, List.pairwise_cons.mpr ⟨fun x hx => of_decide_eq_true (List.mem_filter.mp hx).2, h1.filter _⟩, fun x hx y hy => ?_⟩
      have hx := of_decide_eq_true (List.mem_filter.mp hx).2
      rcases List.mem_cons.mp hy with h | h
      · rw [h]; exact hx
      · have := of_decide_eq_true (List.mem_filter.mp h).2
        grind
    · rw [List.mem_append, List.mem_cons, List.mem_filter, List.mem_filter, h2, List.mem_cons]
      constructor
      · rintro (h | h | h)
        · exact .inr h.1
        · exact .inl h
        · exact .inr h.1
      · rintro (h | h)
        · exact .inr (.inl h)
        · by_cases c1 : a < b
          · exact .inl ⟨h, decide_eq_true c1⟩
          · by_cases c2 : b < a
            · exact .inr (.inr ⟨h, decide_eq_true c2⟩)
            · exact .inr (.inl (by grind))
/-- an ascending row from x on with all amounts of B above x -/
theorem asc_from (B : List Rat) (x : Rat) : ∃ r : List Rat, (x :: r).Pairwise (· < ·) ∧ ∀ a ∈ B, a ≤ x ∨ a ∈ r := by
  obtain ⟨A, h1, h2⟩ := asc_ex B
  refine ⟨A.filter (fun y => decide (x < y)), List.pairwise_cons.mpr ⟨fun y hy => of_decide_eq_true (List.mem_filter.mp hy).2, h1.filter _⟩, fun a ha => ?_⟩
  by_cases c : x < a
  · exact .inr (List.mem_filter.mpr ⟨(h2 a).mpr ha, decide_eq_true c⟩)
  · exact .inl (by grind)
theorem asc_gap {a c : Rat} {r : List Rat} (h : (a :: c :: r).Pairwise (· < ·)) {z : Rat} (hz : z ≤ a ∨ z ∈ c :: r) : z ≤ a ∨ c ≤ z := by
  have h' := List.pairwise_cons.mp h
  have hc := List.pairwise_cons.mp h'.2
  rcases hz with h | h
  · exact .inl h
  · rcases List.mem_cons.mp h with h | h
    · exact .inr (by rw [h]; exact Rat.le_refl)
    · exact .inr (Rat.le_of_lt (hc.1 _ h))
end Q
set_option Elab.async false
set_option linter.all false
set_option maxRecDepth 100000
set_option maxHeartbeats 1000000
namespace Q
open PySem L2
def mPopAt (i : Nat) (mk : EM O) : EM O := fun env => (lsAt i env).bind fun _ => (mk env).bind fun p => match p.1 with
  | .fz (.int z) => (lsAt i p.2).bind fun os => if 0 ≤ z ∧ z < 9223372036854775808 then (os[z.toNat]?).bind fun o => some (o, p.2.set i (.has (.ls (os.eraseIdx z.toNat)))) else none
  | _ => none
theorem zip_erase {α β : Type} {xs : List α} {us : List β} {k : Nat} {x : α} (h : xs.length = us.length) (hx : xs[k]? = some x) : ∃ y, us[k]? = some y ∧ (xs.zip us).Perm ((xs.eraseIdx k).zip (us.eraseIdx k) ++ [(x, y)]) := by
  obtain ⟨hk, rfl⟩ := List.getElem?_eq_some_iff.mp hx
  have hk2 : k < us.length := by omega
  refine ⟨us[k], List.getElem?_eq_getElem hk2, ?_⟩
  have e1 : xs = xs.take k ++ xs[k] :: xs.drop (k + 1) := by rw [← List.drop_eq_getElem_cons hk, List.take_append_drop]
  have e2 : us = us.take k ++ us[k] :: us.drop (k + 1) := by rw [← List.drop_eq_getElem_cons hk2, List.take_append_drop]
  have e3 : xs.zip us = (xs.take k).zip (us.take k) ++ (xs[k], us[k]) :: (xs.drop (k + 1)).zip (us.drop (k + 1)) := by
    calc xs.zip us = (xs.take k ++ xs[k] :: xs.drop (k + 1)).zip (us.take k ++ us[k] :: us.drop (k + 1)) := by rw [← e1, ← e2]
      _ = _ := by rw [zip_append' (by simp; omega), List.zip_cons_cons]
  have e4 : (xs.eraseIdx k).zip (us.eraseIdx k) = (xs.take k).zip (us.take k) ++ (xs.drop (k + 1)).zip (us.drop (k + 1)) := by
    rw [List.eraseIdx_eq_take_drop_succ, List.eraseIdx_eq_take_drop_succ, zip_append' (by simp; omega)]
  rw [e3, e4, List.append_assoc]
  refine List.Perm.append_left _ ?_
  exact (List.perm_append_comm (l₁ := [(xs[k], us[k])])
    )
section
variable {X : Cx} {a b e e' : Expr} {ma mb m mk : EM O} {x : Str} {p0 p1 cpos pos p : PySem.Pos} {i : Nat}
theorem qew_popAt (hN : X.N[i]? = some x) (hk : QV X e' mk) (hv : L2.Vis X.env.scope x := by first | exact Or.inl rfl | exact Or.inr (Or.inl rfl) | exact Or.inr (Or.inr rfl)) (hd : (x == ("__debug__" : Str)) = false := by decide)
    (hcd : (x == ("__classdict__" : Str)) = false := by decide)
    (hbase : attributeBase (.Name x p0) "pop" X.env (eval (.Name x p0) X.env) = eval (.Name x p0) X.env := by rfl)
    (hfew : ((backTo cpos (starEach [e'] X.env)).all (fun x => !x.1) && (backToKw cpos (keywordEach [] X.env)).all (fun x => x.1.isSome) && decide ([e'].length + ([] : List Keyword).length + (if ([] : List Keyword).isEmpty then 0 else 1) < 30)) = true := by rfl)
    (hline : (p1.endLine == cpos.line) = true := by rfl) (hst : starEach [e'] X.env = (false, eval e' X.env) :: starEach [] X.env := by rfl) (hplain : (backTo cpos (starEach [] X.env)).any (·.1) = false := by rfl) :
    QEw X (.Call (.Attribute (.Name x p0) "pop" p1) [e'] [] cpos) (mPopAt i mk) := by
  obtain ⟨u, u1, u2⟩ := hk
  refine ⟨_, pe_bm PySem.F.plainAttrs_list PySem.F.slot_list_pop PySem.F.type_list_pop mt_popAt (pe_var hN hv hd hcd) (pa_cons u1 pa_nil hst) hbase hfew hline hst hplain, fun H0 B0 ln Γ B H σ env s o env' em Q q => ?_⟩
  obtain ⟨os0, l0, em⟩ := bind_some em
  obtain ⟨r, em2, em⟩ := bind_some em
  obtain ⟨o2, env2⟩ := r
  cases o2 with
  | fz d =>
    cases d with
    | int k =>
      obtain ⟨os, l1, em⟩ := bind_some (show (lsAt i env2).bind _ = some (o, env') from em)
      split at em
      · rename_i hz
        obtain ⟨o', g0, em⟩ := bind_some em
        cases em
        obtain ⟨v, hv0, w⟩ := s.slot (lsAt_ok l0)
        obtain ⟨a0, vs0, rfl, g00, _⟩ := asO_ok w
        refine ⟨_, hv0, .inl ⟨rfl, vs0, SqL.of g00⟩, u2 H0 B0 ln Γ B H σ env s _ _ em2 _ fun z B1 H1 e1 e2 s1 w1 => ?_⟩
        have := vw_int w1
        subst this
        obtain ⟨a, us, hv1, g1, g2, g3⟩ := Stt.mutSlot (T := []) s1 (lsAt_ok l1)
        rw [hv0] at hv1
        cases hv1
        obtain ⟨y, y1, y2⟩ := zip_erase g2 g0
        have hlt : k.toNat < us.length := (List.getElem?_eq_some_iff.mp y1).1
        have hseq : seqIndex? k us.length = some k.toNat := by
          have e1 : (if k < 0 then k + (us.length : Int) else k) = k := if_neg (by omega)
          have e2 : (decide (0 ≤ k) && decide (k < (us.length : Int))) = true := by
            rw [decide_eq_true hz.1, decide_eq_true (by omega : k < (us.length : Int))]; rfl
          simp only [seqIndex?, e1, e2, if_true]
        have hlo : -(2 ^ 63) ≤ k := by
          rw [← p63]; omega
        have hhi : k < 2 ^ 63 := by
          rw [← p63]; exact hz.2
        refine ⟨a0, us, k, k.toNat, y, rfl, rfl, g1, hlo, hhi, hseq, y1, q y B1 _ e1 ?_⟩
        exact g3 (os.eraseIdx k.toNat) (us.eraseIdx k.toNat) [(_, y)] (by rw [List.length_eraseIdx, List.length_eraseIdx, g2]) (by rw [List.append_nil]; exact y2)
      · cases em
    | _ => cases em
  | _ => cases em
end
@[simp] theorem e_mPopAt {i : Nat} {mk : EM O} {env : En} : mPopAt i mk env = (lsAt i env).bind fun _ => (mk env).bind fun p => match p.1 with
  | .fz (.int z) => (lsAt i p.2).bind fun os => if 0 ≤ z ∧ z < 9223372036854775808 then (os[z.toNat]?).bind fun o => some (o, p.2.set i (.has (.ls (os.eraseIdx z.toNat)))) else none
  | _ => none := rfl
end Q
set_option Elab.async false
set_option linter.all false
set_option maxRecDepth 100000
set_option maxHeartbeats 1000000
namespace Q
open PySem L2
def LinOn (F : Rat → Rat) (x y : Rat) : Prop := ∃ s : Rat, ∀ t, x ≤ t → t ≤ y → F t = F x + s * (t - x)
structure Pts (F : Rat → Rat) (ps : List (Rat × Rat)) : Prop where
  val : ∀ i, i < ps.length → (kAt ps i).2 = F (kAt ps i).1
  asc : ∀ i, i + 1 < ps.length → (kAt ps i).1 < (kAt ps (i + 1)).1
  lin : ∀ i, i + 1 < ps.length → LinOn F (kAt ps i).1 (kAt ps (i + 1)).1
theorem Pts.nil (F : Rat → Rat) : Pts F [] := ⟨fun i h => by simp at h, fun i h => by simp at h, fun i h => by simp at h⟩
theorem kAt_app {ps qs : List (Rat × Rat)} {i : Nat} (h : i < ps.length) : kAt (ps ++ qs) i = kAt ps i := by
  unfold kAt
  rw [List.getElem?_append_left h]
theorem kAt_last {ps : List (Rat × Rat)} {q : Rat × Rat} : kAt (ps ++ [q]) ps.length = q := by
  unfold kAt
  rw [List.getElem?_append_right (Nat.le_refl _), Nat.sub_self]; rfl
theorem Pts.snoc {F : Rat → Rat} {ps : List (Rat × Rat)} (h : Pts F ps) {q : Rat × Rat} (hv : q.2 = F q.1) (hn : ps ≠ [] → (kAt ps (ps.length - 1)).1 < q.1 ∧ LinOn F (kAt ps (ps.length - 1)).1 q.1) : Pts F (ps ++ [q]) := by
  have hl : (ps ++ [q]).length = ps.length + 1 := by simp
  refine ⟨fun i hi => ?_, fun i hi => ?_, fun i hi => ?_⟩
  · rw [hl] at hi
    by_cases c : i < ps.length
    · rw [kAt_app c]; exact h.val i c
    · have : i = ps.length := by omega
      subst this
      rw [kAt_last]; exact hv
  · rw [hl] at hi
    by_cases c : i + 1 < ps.length
    · rw [kAt_app c, kAt_app (by omega)]; exact h.asc i c
    · have e : i + 1 = ps.length := by omega
      rw [kAt_app (by omega), e, kAt_last]
      have := (hn (fun z => by rw [z] at e; simp at e)).1
      rwa [show ps.length - 1 = i by omega] at this
  · rw [hl] at hi
    by_cases c : i + 1 < ps.length
    · rw [kAt_app c, kAt_app (by omega)]; exact h.lin i c
    · have e : i + 1 = ps.length := by omega
      rw [kAt_app (by omega), e, kAt_last]
      have := (hn (fun z => by rw [z] at e; simp at e)).2
      rwa [show ps.length - 1 = i by omega] at this
theorem Pts.tail {F : Rat → Rat} {p : Rat × Rat} {r : List (Rat × Rat)} (h : Pts F (p :: r)) : Pts F r :=
  ⟨fun i hi => h.val (i + 1) (by simp; omega), fun i hi => h.asc (i + 1) (by simp; omega), fun i hi => h.lin (i + 1) (by simp; omega)⟩
theorem next_ex (B : List Rat) (x : Rat) : ∃ c, x < c ∧ ∀ a ∈ B, a ≤ x ∨ c ≤ a := by
  obtain ⟨r, h1, h2⟩ := asc_from B x
  cases r with
  | nil => exact ⟨x + 1, by grind, fun a ha => by
      rcases h2 a ha with h | h
      · exact .inl h
      · simp at h⟩
  | cons c r => exact ⟨c, (List.pairwise_cons.mp h1).1 c (by simp), fun a ha => asc_gap h1 (h2 a ha)⟩
theorem val_uniq {R S : List (Rat × Rat)} (o : KOk R) (p : KOk S) (h : ∀ x, valK R x = valK S x) : R = S :=
  slopeK_uniq o p fun x => by
    obtain ⟨c, hc, hn⟩ := next_ex ((R ++ S).map (·.1)) x
    have e1 := val_step o (Rat.le_of_lt hc) fun z hz => hn z.1 (List.mem_map.mpr ⟨z, by simp [hz], rfl⟩)
    have e2 := val_step p (Rat.le_of_lt hc) fun z hz => hn z.1 (List.mem_map.mpr ⟨z, by simp [hz], rfl⟩)
    rw [h c, h x, e2] at e1
    have e3 : slopeK S x * (c - x) = slopeK R x * (c - x) := by grind
    have hne : c - x ≠ 0 := by grind
    have e4 : slopeK S x * (c - x) / (c - x) = slopeK R x * (c - x) / (c - x) := by rw [e3]
    rw [Rat.mul_div_cancel hne, Rat.mul_div_cancel hne] at e4
    exact e4.symm
def mx (a b : Rat) : Rat := if a < b then b else a
end Q
set_option Elab.async false
set_option linter.all false
set_option maxRecDepth 100000
set_option maxHeartbeats 1000000
namespace Q
open PySem L2
def mn (a b : Rat) : Rat := if b < a then b else a
structure MeetK (ks qs R : List (Rat × Rat)) : Prop where
  ok : KOk R
  l : ∀ x, valK R x ≤ valK ks x
  r : ∀ x, valK R x ≤ valK qs x
  max : ∀ T, KOk T → (∀ x, valK T x ≤ valK ks x) → (∀ x, valK T x ≤ valK qs x) → ∀ x, valK T x ≤ valK R x
  on : ∀ p ∈ R, p.2 = valK ks p.1 ∨ p.2 = valK qs p.1
theorem MeetK.uniq {ks qs R S : List (Rat × Rat)} (h : MeetK ks qs R) (h' : MeetK ks qs S) : R = S :=
  val_uniq h.ok h'.ok fun x => Rat.le_antisymm (h'.max R h.ok h.l h.r x) (h.max S h'.ok h'.l h'.r x)
end Q
set_option Elab.async false
set_option linter.all false
set_option maxRecDepth 100000
set_option maxHeartbeats 1000000
namespace Q
open PySem L2
def inL (os : List O) (j : Nat) : Option (List O) := match os[j]? with
  | some (.ls us) => some us
  | _ => none
theorem inL_ok {os : List O} {j : Nat} {us : List O} (h : inL os j = some us) : os[j]? = some (.ls us) := by
  unfold inL at h
  split at h
  · cases h; assumption
  · cases h
def sAppAt (i : Nat) (mi m : EM O) : SM := fun env => (lsAt i env).bind fun _ => (mi env).bind fun q => match q.1 with
  | .fz (.int k) => (lsAt i q.2).bind fun os1 => (ixN os1.length k).bind fun j => (inL os1 j).bind fun _ => (m q.2).bind fun p => (lsAt i p.2).bind fun os => (inL os j).bind fun us =>
      if us.length < sizeLine then some (.nx (p.2.set i (.has (.ls (os.set j (.ls (us ++ [p.1]))))))) else none
  | _ => none
section
variable {K : PySem.W.Frag} {H0 B0 B H : Hp} {ln : Nat → Option V} {Γ T : List (O × V)} {σ : L2.St} {env : En} {os : List O} {a : Addr}
theorem erase_set {α : Type} : ∀ (l : List α) (j : Nat) (x : α), (l.set j x).eraseIdx j = l.eraseIdx j
  | [], j, x => by cases j <;> rfl
  | a :: l, 0, x => rfl
  | a :: l, j + 1, x => by
    show a :: (l.set j x).eraseIdx j = a :: l.eraseIdx j
    rw [erase_set l j x]
theorem Own.mutl2 {j : Nat} {xs : List O} {R : List (O × V)} (h : Own K H0 B H [] ((.ls os, .ref a) :: R)) (hj : os[j]? = some (.ls xs)) :
    ∃ us b ws, H a = some (.lst us) ∧ os.length = us.length ∧ us[j]? = some (.ref b) ∧ H b = some (.lst ws) ∧ xs.length = ws.length ∧ B b = none ∧ H0 b = none ∧
    ∀ xs' ws' J, xs'.length = ws'.length → (xs.zip ws ++ R).Perm (xs'.zip ws' ++ J) → Own K H0 B (L2.upd H b (.lst ws')) [] ((.ls (os.set j (.ls xs')), .ref a) :: J) := by
  obtain ⟨us, h1, h2, h3, h4, h5, h6⟩ := h.open
  obtain ⟨y, y1, y2⟩ := zip_erase h2 hj
  have p1 : (os.zip us ++ R).Perm ((O.ls xs, y) :: ((os.eraseIdx j).zip (us.eraseIdx j) ++ R)) := by
    refine (y2.append_right R).trans ?_
    rw [List.append_assoc]
    exact List.perm_middle
  have h7 := h6.perm p1
  have hw := h7.vw
  rw [Vw] at hw
  obtain ⟨b, ws0, rfl, _⟩ := hw
  obtain ⟨ws, k1, k2, k3, k4, k5, k6⟩ := h7.open
  refine ⟨us, b, ws, h1, h2, y1, k1, k2, k3, k4, fun xs' ws' J hl p => ?_⟩
  generalize hrest : (os.eraseIdx j).zip (us.eraseIdx j) = rest at *
  have e : (xs.zip ws ++ (rest ++ R)).Perm (xs'.zip ws' ++ (rest ++ J)) := by
    have e1 : ∀ (A B C : List (O × V)), (A ++ (B ++ C)).Perm (B ++ (A ++ C)) := fun A B C => by
      rw [← List.append_assoc, ← List.append_assoc]
      exact List.perm_append_comm.append_right _
    exact (e1 _ _ _).trans ((p.append_left rest).trans (e1 _ _ _))
  have k7 := ((k6.perm e).upd (x := .lst ws')).shut hl upd_same k3 k4 k5
  have hjl : j < os.length := (List.getElem?_eq_some_iff.mp hj).1
  have hs : (os.set j (.ls xs')).length = us.length := by rw [List.length_set]; exact h2
  obtain ⟨y', z1, z2⟩ := zip_erase (k := j) (x := O.ls xs') hs (List.getElem?_set_self hjl)
  rw [y1] at z1
  cases z1
  rw [erase_set, hrest] at z2
  have p2 : ((O.ls xs', V.ref b) :: (rest ++ J)).Perm ((os.set j (.ls xs')).zip us ++ J) := by
    refine List.Perm.trans ?_ (z2.symm.append_right J)
    rw [List.append_assoc]
    exact List.perm_middle.symm
  have hab : a ≠ b := fun z => k5 (by rw [z]; exact List.mem_cons_self)
  exact (k7.perm p2).shut hs (by rw [upd_ne hab]; exact h1) h3 h4 h5
theorem Stt.mutSub {i j : Nat} {xs : List O} (s : Stt K H0 B0 ln (T ++ Γ) B H σ env) (e : env[i]? = some (.has (.ls os))) (hj : os[j]? = some (.ls xs)) :
    ∃ a us b ws, σ[i]? = some (some (.ref a)) ∧ H a = some (.lst us) ∧ us[j]? = some (.ref b) ∧ H b = some (.lst ws) ∧ xs.length = ws.length ∧
    ∀ xs' ws' J, xs'.length = ws'.length → (xs.zip ws ++ T).Perm (xs'.zip ws' ++ J) → Stt K H0 B0 ln (J ++ Γ) B (upd H b (.lst ws')) σ (env.set i (.has (.ls (os.set j (.ls xs'))))) := by
  obtain ⟨v, hv, w0⟩ := s.slot e
  rw [Vw] at w0
  obtain ⟨a, vs0, rfl, _⟩ := w0
  obtain ⟨R2, p2, q2⟩ := roots_at e hv
  have z : σ.set i (some (V.ref a)) = σ := by
    obtain ⟨h1, h2⟩ := List.getElem?_eq_some_iff.mp hv
    rw [← h2]; simp
  have ow2 : Own K H0 B H [] ((O.ls os, V.ref a) :: (R2 ++ (T ++ Γ))) := s.own.perm (p2.append_right _)
  obtain ⟨us, b, ws, h1, _, h2, h3, h4, h5, h6, g5⟩ := ow2.mutl2 hj
  refine ⟨a, us, b, ws, hv, h1, h2, h3, h4, fun xs' ws' J hl p => ⟨wd_upd s.w h5 h6, s.sg.same e _, ?_⟩⟩
  have q3 := q2 (.has (.ls (os.set j (.ls xs')))) (some (.ref a))
  rw [z] at q3
  have e3 : (xs.zip ws ++ (R2 ++ (T ++ Γ))).Perm ((xs'.zip ws') ++ (R2 ++ (J ++ Γ))) := by
    have e2 : (xs.zip ws ++ (R2 ++ (T ++ Γ))).Perm ((xs.zip ws ++ T) ++ (R2 ++ Γ)) := by
      rw [List.append_assoc (xs.zip ws)]
      refine List.Perm.append_left _ ?_
      rw [← List.append_assoc, ← List.append_assoc]
      exact List.perm_append_comm.append_right _
    refine e2.trans ((p.append_right _).trans ?_)
    rw [List.append_assoc (xs'.zip ws')]
    refine List.Perm.append_left _ ?_
    rw [← List.append_assoc, ← List.append_assoc]
    exact List.perm_append_comm.append_right _
  exact (g5 xs' ws' (R2 ++ (J ++ Γ)) hl e3).perm (by
    rw [← List.cons_append]
    exact (q3.append_right _).symm)
end
@[simp] theorem e_sAppAt {i : Nat} {mi m : EM O} {env : En} : sAppAt i mi m env = (lsAt i env).bind fun _ => (mi env).bind fun q => match q.1 with
  | .fz (.int k) => (lsAt i q.2).bind fun os1 => (ixN os1.length k).bind fun j => (inL os1 j).bind fun _ => (m q.2).bind fun p => (lsAt i p.2).bind fun os => (inL os j).bind fun us =>
      if us.length < sizeLine then some (.nx (p.2.set i (.has (.ls (os.set j (.ls (us ++ [p.1]))))))) else none
  | _ => none := rfl
/-- what stands in any case stands in a comprehension -/
theorem qi_weak {X : Cx} {tg e : Expr} {m : EM (List D)} (h : QI X true tg e m) : QI X false tg e m := by
  obtain ⟨wi, h1, h2⟩ := h
  refine ⟨wi, h1, fun H0 B0 ln Γ B H σ env s ds env' em R q => ?_⟩
  refine h2 H0 B0 ln Γ B H σ env s ds env' em R fun J B' H' e1 e2 s' w => q J B' H' e1 e2 s' (w.mono fun H2 g => ?_)
  have g : Ex H' H2 := by simpa using g
  rw [if_pos rfl]
  exact s'.w.bh.trans g
end Q
set_option Elab.async false
set_option linter.all false
set_option maxRecDepth 100000
set_option maxHeartbeats 1000000
namespace Q
open PySem L2
structure StopV (rs : List Rat) (rows : List (List (Nat × Rat))) (n : Nat) (b M : Rat) (V : Nat → Rat) : Prop where
  ge : ∀ t, M ≤ V t
  bell : ∀ s, s < n → stepV rs rows b V s ≤ V s
  sol : ∃ xs : List Nat, xs.Nodup ∧ (∀ x ∈ xs, x < n) ∧ Sol rs rows b xs M V
section
variable {rs : List Rat} {rows : List (List (Nat × Rat))} {n : Nat} (ch : Chances rows n) {b : Rat} (hb : Disc b)
include ch hb in
theorem StopV.uniq {M : Rat} {V W : Nat → Rat} (h : StopV rs rows n b M V) (h' : StopV rs rows n b M W) : V = W := funext fun t => by
  obtain ⟨xs, _, hx, s⟩ := h.sol
  obtain ⟨ys, _, hy, s'⟩ := h'.sol
  exact Rat.le_antisymm (bell_max ch hb h'.ge h'.bell hx s t) (bell_max ch hb h.ge h.bell hy s' t)
theorem StopV.eq {M : Rat} {V : Nat → Rat} (h : StopV rs rows n b M V) {s : Nat} (hs : s < n) : V s = if stepV rs rows b V s < M then M else stepV rs rows b V s := by
  obtain ⟨xs, _, hx, sl⟩ := h.sol
  have g := h.ge s
  have l := h.bell s hs
  by_cases hin : s ∈ xs
  · have e := sl.i s hin
    rw [if_neg (by rw [← e]; grind)]
    exact e
  · have e := sl.o s hin
    split
    · exact e
    · grind
variable (lvx : ∀ xs : List Nat, xs.Nodup → (∀ x ∈ xs, x < n) → ∃ E F, Lv rs rows b xs E F)
include ch hb lvx in
/-- a line that supports the value -/
theorem StopV.support {M : Rat} {V : Nat → Rat} (h : StopV rs rows n b M V) (s : Nat) : ∃ E F : Rat, 0 ≤ F ∧ F ≤ 1 ∧ V s = E + F * M ∧ ∀ N W, StopV rs rows n b N W → E + F * N ≤ W s := by
  obtain ⟨xs, nd, hx, sl⟩ := h.sol
  obtain ⟨E, F, lv⟩ := lvx xs nd hx
  have e := Sol.uniq ch hb hx sl (lv.sol M)
  obtain ⟨f0, f1⟩ := lv.f_le ch hb hx s
  refine ⟨E s, F s, f0, f1, by rw [e], fun N W hW => ?_⟩
  exact bell_max ch hb hW.ge hW.bell hx (lv.sol N) s
variable {SV : Rat → Nat → Rat} (hSV : ∀ M, StopV rs rows n b M (SV M))
variable {ps : List (Nat × Rat)} (o : Ord rs rows n b ps)
include ch hb lvx o in
theorem stop_above {M : Rat} {V : Nat → Rat} (h : StopV rs rows n b M V) : Sol rs rows b (above n ps M) M V := by
  obtain ⟨E, F, lv⟩ := lvx (above n ps M) above_nodup above_lt
  have ex : ∀ j, j ≤ ps.length → ∀ M, ∃ V, Sol rs rows b (setOf n ps j) M V := fun j _ M => by
    obtain ⟨E, F, l⟩ := lvx (setOf n ps j) (setOf_nodup n ps j) setOf_lt
    exact ⟨_, l.sol M⟩
  obtain ⟨B1, B2⟩ := o.bell ch hb ex (lv.sol M)
  have s0 : StopV rs rows n b M (fun t => E t + F t * M) := ⟨B1, B2, _, above_nodup, above_lt, lv.sol M⟩
  rw [h.uniq ch hb s0]
  exact lv.sol M
include ch hb lvx o in
/-- any set between the states above the amount and those not below it -/
theorem sol_any {M : Rat} {V : Nat → Rat} (h : StopV rs rows n b M V) {xs : List Nat} (hx : ∀ x ∈ xs, x < n) (h1 : ∀ s, s < n → M < idxV ps s → s ∈ xs) (h2 : ∀ s ∈ xs, M ≤ idxV ps s) : Sol rs rows b xs M V := by
  have sa := stop_above ch hb lvx o h
  have ex : ∀ j, j ≤ ps.length → ∀ M, ∃ V, Sol rs rows b (setOf n ps j) M V := fun j _ M => by
    obtain ⟨E, F, l⟩ := lvx (setOf n ps j) (setOf_nodup n ps j) setOf_lt
    exact ⟨_, l.sol M⟩
  refine ⟨fun s hs => ?_, fun s hs => ?_⟩
  · by_cases c : M < idxV ps s
    · exact sa.i s (above_mem.mpr ⟨hx s hs, c⟩)
    · have e : idxV ps s = M := Rat.le_antisymm (Rat.not_lt.mp c) (h2 s hs)
      have t := o.tie ch hb ex (hx s hs) (V := V) (by rw [e]; exact sa)
      rw [t, e]
      exact sa.o s fun z => c (above_mem.mp z).2
  · refine sa.o s fun z => hs ?_
    obtain ⟨z1, z2⟩ := above_mem.mp z
    exact h1 s z1 z2
include ch hb lvx o hSV in
theorem lin_stop (s : Nat) {x y : Rat} (hxy : ∀ t, t < n → x < idxV ps t → y ≤ idxV ps t) : LinOn (fun M => SV M s) x y := by
  have hxs : ∀ t, t ∈ (List.range n).filter (fun t => decide (y ≤ idxV ps t)) ↔ t < n ∧ y ≤ idxV ps t := fun t => by
    rw [List.mem_filter, List.mem_range]
    constructor
    · rintro ⟨a, c⟩; exact ⟨a, of_decide_eq_true c⟩
    · rintro ⟨a, c⟩; exact ⟨a, decide_eq_true c⟩
  have hlt : ∀ t ∈ (List.range n).filter (fun t => decide (y ≤ idxV ps t)), t < n := fun t ht => ((hxs t).mp ht).1
  obtain ⟨E, F, lv⟩ := lvx _ (List.nodup_range.sublist List.filter_sublist : ((List.range n).filter (fun t => decide (y ≤ idxV ps t))).Nodup) hlt
  have key : ∀ M, x ≤ M → M ≤ y → SV M s = E s + F s * M := fun M a c => by
    have sa := sol_any ch hb lvx o (hSV M) hlt (fun t ht h => (hxs t).mpr ⟨ht, hxy t ht (by grind)⟩) (fun t ht => Rat.le_trans c ((hxs t).mp ht).2)
    have := Sol.uniq ch hb hlt sa (lv.sol M)
    rw [this]
  refine ⟨F s, fun t a c => ?_⟩
  show SV t s = SV x s + F s * (t - x)
  rw [key t a c, key x Rat.le_refl (Rat.le_trans a c)]
  grind
end
def amtP (ps : List (Nat × Rat)) (k : Nat) : Rat := ((ps[k]?).map (·.2)).getD 0
theorem amtP_eq {ps : List (Nat × Rat)} {k : Nat} (h : k < ps.length) : amtP ps k = ps[k].2 := by
  unfold amtP
  rw [List.getElem?_eq_getElem h]; rfl
structure AC (SV : Rat → Nat → Rat) (ps : List (Nat × Rat)) (n kk : Nat) (P : Nat → List (Rat × Rat)) : Prop where
  pts : ∀ s, s < n → Pts (fun M => SV M s) (P s)
  nil : kk = ps.length → ∀ s, P s = []
  ne : kk < ps.length → ∀ s, s < n → P s ≠ []
  fst : kk < ps.length → ∀ s, s < n → (kAt (P s) 0).1 = amtP ps (ps.length - 1)
  lst : kk < ps.length → ∀ s, s < n → (kAt (P s) ((P s).length - 1)).1 = mn (idxV ps s) (amtP ps kk)
  len : ∀ s, (P s).length ≤ ps.length - kk
section
variable {rs : List Rat} {rows : List (List (Nat × Rat))} {n : Nat} (ch : Chances rows n) {b : Rat} (hb : Disc b) (lvx : ∀ xs : List Nat, xs.Nodup → (∀ x ∈ xs, x < n) → ∃ E F, Lv rs rows b xs E F) {SV : Rat → Nat → Rat} (hSV : ∀ M, StopV rs rows n b M (SV M)) {ps : List (Nat × Rat)} (o : Ord rs rows n b ps)
include ch hb o in
theorem amt_down {i j : Nat} (h : i ≤ j) (hj : j < ps.length) : amtP ps j ≤ amtP ps i := by
  rw [amtP_eq hj, amtP_eq (by omega)]
  exact o.down ch hb h hj
include ch hb o in
theorem idx_at {s : Nat} (hs : s < n) : ∃ j, j < ps.length ∧ (∃ h : j < ps.length, ps[j].1 = s) ∧ idxV ps s = amtP ps j := by
  obtain ⟨j, hj, rfl⟩ := o.all hs
  exact ⟨j, hj, ⟨hj, rfl⟩, by rw [amtP_eq hj, o.idx hj]⟩
include ch hb o in
theorem in_setOf {k : Nat} (hk : k < ps.length) (hne : k + 1 < ps.length → amtP ps (k + 1) ≠ amtP ps k) {s : Nat} (hs : s < n) : s ∈ setOf n ps (k + 1) ↔ amtP ps k ≤ idxV ps s := by
  rw [setOf_get o.lt]
  constructor
  · rintro ⟨i, hi, hik, rfl⟩
    rw [o.idx hi, ← amtP_eq hi]
    exact amt_down ch hb o (by omega) hk
  · intro h
    obtain ⟨j, hj, rfl⟩ := o.all hs
    refine ⟨j, hj, ?_, rfl⟩
    apply Classical.byContradiction
    intro hn
    rw [o.idx hj, ← amtP_eq hj] at h
    have h1 := amt_down ch hb o (i := k + 1) (j := j) (by omega) hj
    have h2 := amt_down ch hb o (i := k) (j := k + 1) (by omega) (by omega)
    exact hne (by omega) (Rat.le_antisymm h2 (Rat.le_trans h h1))
include ch hb lvx o hSV in
theorem AC.step {k : Nat} {P : Nat → List (Rat × Rat)} (hk : k < ps.length) (hne : k + 1 < ps.length → amtP ps (k + 1) ≠ amtP ps k) (h : AC SV ps n (k + 1) P) :
    AC SV ps n k (fun s => if s ∈ setOf n ps (k + 1) then P s ++ [(amtP ps k, SV (amtP ps k) s)] else P s) := by
  have hlast : k + 1 = ps.length → ∀ s, s < n → amtP ps k ≤ idxV ps s := fun e s hs => by
    obtain ⟨j, hj, _, ej⟩ := idx_at ch hb o hs
    rw [ej]
    exact amt_down ch hb o (by omega) hk
  have hlt : k + 1 < ps.length → amtP ps (k + 1) < amtP ps k := fun h1 => by
    have h2 := amt_down ch hb o (i := k) (j := k + 1) (by omega) h1
    have := hne h1
    grind
  have nx : ∀ s, s < n → ¬ amtP ps k ≤ idxV ps s → idxV ps s ≤ amtP ps (k + 1) ∧ k + 1 < ps.length := fun s hs hn => by
    obtain ⟨j, hj, _, ej⟩ := idx_at ch hb o hs
    have hkj : k < j := by
      apply Classical.byContradiction
      intro hc
      have := amt_down ch hb o (i := j) (j := k) (by omega) hk
      rw [← ej] at this
      exact hn this
    rw [ej]
    exact ⟨amt_down ch hb o (by omega) hj, by omega⟩
  refine ⟨fun s hs => ?_, fun e => by omega, fun _ s hs => ?_, fun _ s hs => ?_, fun _ s hs => ?_, fun s => ?_⟩
  · show Pts _ (if s ∈ setOf n ps (k + 1) then _ else _)
    split
    · rename_i hin
      have hge := (in_setOf ch hb o hk hne hs).mp hin
      refine (h.pts s hs).snoc rfl fun hnil => ?_
      have hk1 : k + 1 < ps.length := by
        apply Classical.byContradiction
        intro hc
        exact hnil (h.nil (by omega) s)
      have hl := hlt hk1
      have el := h.lst hk1 s hs
      have em : mn (idxV ps s) (amtP ps (k + 1)) = amtP ps (k + 1) := if_pos (by grind)
      rw [el, em]
      refine ⟨hl, lin_stop ch hb lvx hSV o s fun t ht hx => ?_⟩
      apply Classical.byContradiction
      intro hc
      have := (nx t ht hc).1
      grind
    · exact h.pts s hs
  · show (if s ∈ setOf n ps (k + 1) then _ else _) ≠ []
    split
    · simp
    · rename_i hin
      have hn := mt (in_setOf ch hb o hk hne hs).mpr hin
      exact h.ne (nx s hs hn).2 s hs
  · show (kAt (if s ∈ setOf n ps (k + 1) then _ else _) 0).1 = _
    by_cases hk1 : k + 1 < ps.length
    · split
      · rw [kAt_app (List.length_pos_iff.mpr (h.ne hk1 s hs))]
        exact h.fst hk1 s hs
      · exact h.fst hk1 s hs
    · have e := hlast (by omega) s hs
      have hin := (in_setOf ch hb o hk hne hs).mpr e
      rw [if_pos hin, h.nil (by omega) s]
      show amtP ps k = _
      congr 1
      omega
  · show (kAt (if s ∈ setOf n ps (k + 1) then P s ++ [(amtP ps k, SV (amtP ps k) s)] else P s) ((if s ∈ setOf n ps (k + 1) then P s ++ [(amtP ps k, SV (amtP ps k) s)] else P s).length - 1)).1 = _
    by_cases hin : s ∈ setOf n ps (k + 1)
    · have hge := (in_setOf ch hb o hk hne hs).mp hin
      rw [if_pos hin]
      have e : (P s ++ [(amtP ps k, SV (amtP ps k) s)]).length - 1 = (P s).length := by simp
      rw [e, kAt_last]
      show amtP ps k = mn _ _
      unfold mn
      split
      · rfl
      · grind
    · have hn := mt (in_setOf ch hb o hk hne hs).mpr hin
      obtain ⟨n1, n2⟩ := nx s hs hn
      rw [if_neg hin, h.lst n2 s hs]
      unfold mn
      rw [if_neg (by grind), if_neg (by grind)]
  · show (if s ∈ setOf n ps (k + 1) then P s ++ [(amtP ps k, SV (amtP ps k) s)] else P s).length ≤ _
    have := h.len s
    split
    · simp; omega
    · omega
end
end Q
set_option Elab.async false
set_option linter.all false
set_option maxRecDepth 100000
set_option maxHeartbeats 1000000
namespace Q
open PySem L2
section
variable {rs : List Rat} {rows : List (List (Nat × Rat))} {n : Nat} (ch : Chances rows n) {b : Rat} (hb : Disc b)
variable (lvx : ∀ xs : List Nat, xs.Nodup → (∀ x ∈ xs, x < n) → ∃ E F, Lv rs rows b xs E F)
include ch hb lvx in
theorem StopV.mono {M N : Rat} (hMN : M ≤ N) {V W : Nat → Rat} (h : StopV rs rows n b M V) (h' : StopV rs rows n b N W) (t : Nat) : V t ≤ W t := by
  obtain ⟨E, F, f0, f1, e, sup⟩ := h.support ch hb lvx t
  have := sup N W h'
  have k := Rat.mul_le_mul_of_nonneg_left hMN f0
  grind
variable (ex : ∀ M, ∃ V, StopV rs rows n b M V)
end
end Q
set_option Elab.async false
set_option linter.all false
set_option maxRecDepth 100000
set_option maxHeartbeats 1000000
namespace Q
open PySem L2
def prL (cs : List (List (Rat × Rat))) (x : Rat) : Rat := cs.foldl (fun t c => t * slopeK c x) 1
theorem prL_foldl (x : Rat) : ∀ (cs : List (List (Rat × Rat))) (t : Rat), cs.foldl (fun t c => t * slopeK c x) t = t * prL cs x
  | [], t => by show t = t * 1; rw [Rat.mul_one]
  | c :: cs, t => by
    show cs.foldl _ (t * slopeK c x) = t * cs.foldl _ (1 * slopeK c x)
    rw [prL_foldl x cs, prL_foldl x cs (1 * slopeK c x)]
    grind
theorem prL_cons (c : List (Rat × Rat)) (cs : List (List (Rat × Rat))) (x : Rat) : prL (c :: cs) x = slopeK c x * prL cs x := by
  show cs.foldl _ (1 * slopeK c x) = _
  rw [prL_foldl]
  grind
theorem prL_snoc (c : List (Rat × Rat)) (cs : List (List (Rat × Rat))) (x : Rat) : prL (cs ++ [c]) x = prL cs x * slopeK c x := by
  unfold prL
  rw [List.foldl_append]; rfl
theorem prL_perm {cs ds : List (List (Rat × Rat))} (h : cs.Perm ds) (x : Rat) : prL cs x = prL ds x := by
  induction h with
  | nil => rfl
  | cons a _ ih => rw [prL_cons, prL_cons, ih]
  | swap a b l => rw [prL_cons, prL_cons, prL_cons, prL_cons]; grind
  | trans _ _ ih1 ih2 => rw [ih1, ih2]
theorem prL_bd {x : Rat} : ∀ {cs : List (List (Rat × Rat))}, (∀ c ∈ cs, KOk c) → 0 ≤ prL cs x ∧ prL cs x ≤ 1
  | [], _ => ⟨by show (0 : Rat) ≤ 1; decide, Rat.le_refl⟩
  | c :: cs, h => by
    obtain ⟨a0, a1⟩ := slopeK_bounds (h c (by simp)) x
    obtain ⟨b0, b1⟩ := prL_bd (x := x) fun d hd => h d (List.mem_cons_of_mem _ hd)
    rw [prL_cons]
    refine ⟨mul_nn a0 b0, ?_⟩
    have := Rat.mul_le_mul_of_nonneg_right a1 b0
    rw [Rat.one_mul] at this
    exact Rat.le_trans this b1
theorem prL_one {x : Rat} : ∀ {cs : List (List (Rat × Rat))}, (∀ c ∈ cs, KOk c) → (prL cs x = 1 ↔ ∀ c ∈ cs, topK c ≤ x)
  | [], _ => ⟨fun _ c hc => by simp at hc, fun _ => rfl⟩
  | c :: cs, h => by
    obtain ⟨a0, a1⟩ := slopeK_bounds (h c (by simp)) x
    obtain ⟨b0, b1⟩ := prL_bd (x := x) fun d hd => h d (List.mem_cons_of_mem _ hd)
    rw [prL_cons, one_mul_iff a0 a1 b0 b1, slope_one (h c (by simp)), prL_one fun d hd => h d (List.mem_cons_of_mem _ hd)]
    constructor
    · rintro ⟨h1, h2⟩ d hd
      rcases List.mem_cons.mp hd with e | e
      · rw [e]; exact h1
      · exact h2 d e
    · exact fun h => ⟨h c (by simp), fun d hd => h d (List.mem_cons_of_mem _ hd)⟩
structure PrL (cs : List (List (Rat × Rat))) (R : List (Rat × Rat)) : Prop where
  ok : KOk R
  sp : ∀ x, slopeK R x = prL cs x
theorem PrL.uniq {cs ds : List (List (Rat × Rat))} {R S : List (Rat × Rat)} (h : PrL cs R) (h' : PrL ds S) (e : cs.Perm ds) : R = S :=
  slopeK_uniq h.ok h'.ok fun x => by rw [h.sp, h'.sp, prL_perm e]
theorem PrL.one {c : List (Rat × Rat)} (o : KOk c) : PrL [c] c := ⟨o, fun x => by show _ = 1 * _; rw [Rat.one_mul]⟩
theorem PrL.snoc {cs : List (List (Rat × Rat))} {c R S : List (Rat × Rat)} (h : PrL cs R) (p : PrK R c S) : PrL (cs ++ [c]) S := ⟨p.ok, fun x => by rw [p.sp, h.sp, prL_snoc]⟩
/-- the top of a product is the greatest top -/
theorem PrL.top {cs : List (List (Rat × Rat))} {R : List (Rat × Rat)} (h : PrL cs R) (hk : ∀ c ∈ cs, KOk c) (x : Rat) : topK R ≤ x ↔ ∀ c ∈ cs, topK c ≤ x := by
  rw [← slope_one h.ok, h.sp, prL_one hk]
structure Plc where
  rs : List Rat
  rows : List (List (Nat × Rat))
  n : Nat
  s : Nat
structure PlOk (p : Plc) : Prop where
  g : GameSz p.rs p.rows p.n
  hs : p.s < p.n
  hn : p.n ≤ 4
end Q
set_option Elab.async false
set_option linter.all false
set_option maxRecDepth 100000
set_option maxHeartbeats 1000000
namespace Q
open PySem L2
end Q
set_option Elab.async false
set_option linter.all false
set_option maxRecDepth 100000
set_option maxHeartbeats 1000000
namespace Q
open PySem L2
def isLs : O → Bool
  | .ls _ => true
  | .fz (.lst _) => true
  | _ => false
def oIdx (b a : O) : Option O := if isLs b = true then (a.frz.py).bind fun p => match b.frz.py with
  | some (.list qs) => if SeqAt.shaped p = true ∧ SeqAt.shaped (.list qs) = true ∧ qs.findIdx (fun z => PyData.eqv z p) < qs.length then some (.fz (.int (qs.findIdx fun z => PyData.eqv z p : Nat))) else none
  | _ => none else none
section
variable {X : Cx} {e e' : Expr} {m0 m : EM O} {p1 cpos : PySem.Pos}
theorem isLs_sq {K : PySem.W.Frag} {B H : Hp} {o : O} {v : V} (e : Ex B H) (w : Vw K B H o v) (h : isLs o = true) : ∃ a xs, v = .ref a ∧ SqL K H a xs := by
  cases o with
  | ls os =>
    rw [Vw] at w
    obtain ⟨a, vs, rfl, g, _⟩ := w
    exact ⟨a, vs, rfl, SqL.of g⟩
  | fz d =>
    cases d with
    | lst ds =>
      have r := Vw.frz e _ _ w
      rw [O.frz, Rp] at r
      obtain ⟨a, vs, rfl, g, _⟩ := r
      exact ⟨a, vs, rfl, g⟩
    | _ => cases h
  | _ => cases h
theorem qe_index (hu : X.A.units + 65 < cLine) (h0 : QV X e m0) (he : QV X e' m)
    (hbase : attributeBase e "index" X.env (eval e X.env) = eval e X.env := by rfl)
    (hfew : ((backTo cpos (starEach [e'] X.env)).all (fun x => !x.1) && (backToKw cpos (keywordEach [] X.env)).all (fun x => x.1.isSome) && decide ([e'].length + ([] : List Keyword).length + (if ([] : List Keyword).isEmpty then 0 else 1) < 30)) = true := by rfl)
    (hline : (p1.endLine == cpos.line) = true := by rfl) (hst : starEach [e'] X.env = (false, eval e' X.env) :: starEach [] X.env := by rfl) (hplain : (backTo cpos (starEach [] X.env)).any (·.1) = false := by rfl) :
    QE X (.Call (.Attribute e "index" p1) [e'] [] cpos) (m2 oIdx m0 m) := by
  obtain ⟨t0, z1, z2⟩ := h0
  obtain ⟨u, u1, u2⟩ := he
  refine ⟨_, pe_bm PySem.F.plainAttrs_list PySem.F.slot_list_index PySem.F.type_list_index (mt_indexD hu) z1 (pa_cons u1 pa_nil hst) hbase hfew hline hst hplain, fun H0 B0 ln Γ B H σ env s o env' em Q q => ?_⟩
  obtain ⟨r0, em1, em⟩ := bind_some em
  obtain ⟨r1, em2, em⟩ := bind_some em
  obtain ⟨z, em3, em⟩ := bind_some em
  cases em
  refine z2 H0 B0 ln Γ B H σ env s _ _ em1 _ fun v B1 H1 e1 e2 s1 w1 => ?_
  unfold oIdx at em3
  split at em3
  · rename_i hl
    obtain ⟨a, xs, rfl, g⟩ := isLs_sq s1.w.bh w1 hl
    refine ⟨.inl ⟨rfl, xs, g⟩, ?_⟩
    refine u2 H0 B0 ln Γ B1 H1 σ _ s1 _ _ em2 _ fun y B2 H2 e3 e4 s2 w2 => ?_
    have w1 := Vw.mono e3 e4 _ _ w1
    obtain ⟨p, e5, em3⟩ := bind_some em3
    split at em3
    · rename_i qs e6
      split at em3
      · rename_i hs
        obtain ⟨h1, h2, h3⟩ := hs
        cases em3
        refine ⟨a, y, p, qs, _, _, rfl, rfl, py_ok _ _ _ (Vw.frz s2.w.bh _ _ w1) e6, py_ok _ _ _ (Vw.frz s2.w.bh _ _ w2) e5, h2, h1, List.getElem?_eq_getElem h3, List.findIdx_getElem (w := h3), fun m z' hm hz => ?_, ?_⟩
        · obtain ⟨hm2, rfl⟩ := List.getElem?_eq_some_iff.mp hz
          exact List.not_of_lt_findIdx hm |> fun h => by simpa using h
        · exact q _ B2 H2 (e1.trans e3) (e2.trans e4) (s2.push (by rw [Rp]))
      · cases em3
    · cases em3
  · cases em3
end
def lcLoop2 (vs : List Nat) (gs : D → En → Option En) (mt : EM Bool) (vs1 : List Nat) (mi1 : EM (List D)) (gs1 : D → En → Option En) (mt1 : EM Bool) (me : EM O) : List D → List O → En → Option (List O × En)
  | [], acc, env => some (acc, env)
  | d :: ds, acc, env => if okE env vs = true then (gs d (wipeE env vs)).bind fun e1 => (mt e1).bind fun b =>
      if b.1 = true then (mi1 b.2).bind fun p => (lcLoop vs1 gs1 mt1 me p.1 acc p.2).bind fun r => lcLoop2 vs gs mt vs1 mi1 gs1 mt1 me ds r.1 (backE env r.2 vs)
      else lcLoop2 vs gs mt vs1 mi1 gs1 mt1 me ds acc (backE env b.2 vs) else none
def mLc2 (vs : List Nat) (mi : EM (List D)) (gs : D → En → Option En) (mt : EM Bool) (vs1 : List Nat) (mi1 : EM (List D)) (gs1 : D → En → Option En) (mt1 : EM Bool) (me : EM O) : EM O :=
  fun env => (mi env).bind fun p => (lcLoop2 vs gs mt vs1 mi1 gs1 mt1 me p.1 [] p.2).bind fun q => some (.ls q.1, q.2)
theorem se_lc2 {K : PySem.W.Frag} {wi wi1 : TI} {mi mi1 : EM (List D)} {g g1 : TG} {ws ws1 vs vs1 : List Nat} {gs gs1 : D → En → Option En} {tt tt1 : TT} {mt mt1 : EM Bool} {te : TE} {me : EM O} (hi : SI K false wi mi) (hg : SG K g ws gs) (hw : ∀ j ∈ ws, j ∈ vs) (ht : STst K tt mt)
    (hi1 : SI K true wi1 mi1) (hg1 : SG K g1 ws1 gs1) (hw1 : ∀ j ∈ ws1, j ∈ vs1) (ht1 : STst K tt1 mt1) (he : SE K te me) :
    SE K (tLc2 wi g tt wi1 g1 tt1 te vs vs1) (mLc2 vs mi gs mt vs1 mi1 gs1 mt1 me) := by
  intro H0 B0 ln Γ B H σ env s o env' em Q q
  obtain ⟨p, em1, em⟩ := bind_some em
  obtain ⟨r, em2, em⟩ := bind_some em
  cases em
  obtain ⟨ds, env1⟩ := p
  refine hi H0 B0 ln Γ B H σ env s _ _ em1 _ fun J B1 H1 e1 e2 s1 w => ?_
  have w : WalkD K J (fun H2 => Ex H1 H2) B1 ds := w.mono fun H2 h => by simpa using h
  intro Dl hD
  obtain ⟨e0, s0⟩ := Stt.newLst (os := []) (vs := []) (Γ := Γ) s1 rfl hD
  refine ⟨fun i k H' => k = ds.length - i ∧ i ≤ ds.length ∧ ∃ acc B' env', Ex B1 B' ∧ Ex H1 H' ∧ Stt K H0 B0 ln ((.ls acc, .ref Dl) :: Γ) B' H' σ env' ∧ lcLoop2 vs gs mt vs1 mi1 gs1 mt1 me (ds.drop i) acc env' = some r,
    ⟨ds.length, by simp, Nat.zero_le _, [], B1, env1, Ex.refl _, e0, s0, em2⟩, ?_⟩
  rintro i k H2 ⟨rfl, hi, acc, B2, env2, e3, e4, s2, em2⟩
  by_cases hlt : i < ds.length
  · refine .inr ⟨w.go i H2 hlt e4, fun H' => ∃ acc B' env', Ex B1 B' ∧ Ex H1 H' ∧ Stt K H0 B0 ln ((.ls acc, .ref Dl) :: Γ) B' H' σ env' ∧ lcLoop2 vs gs mt vs1 mi1 gs1 mt1 me (ds.drop (i + 1)) acc env' = some r, fun H' h => ⟨ds.length - (i + 1), by omega, rfl, hlt, h⟩, fun x H3 y => ?_⟩
    obtain ⟨B3, w3, r3⟩ := w.yld i ds[i] H2 x H3 B2 (List.getElem?_eq_getElem hlt) e4 e3 s2.w.bh y
    have s3 := s2.step w3
    rw [List.drop_eq_getElem_cons hlt, lcLoop2] at em2
    split at em2
    · rename_i hok
      obtain ⟨env3, em3, em2⟩ := bind_some em2
      obtain ⟨b, em4, em2⟩ := bind_some em2
      obtain ⟨b, env4⟩ := b
      refine hg H0 B0 ln _ B3 H3 (wipe σ vs) (wipeE env2 vs) (s3.wipe vs) _ x _ r3 em3 _ fun σ4 s4 l4 k4 => ?_
      have l4' : σ4.length = σ.length := by rw [l4, wipe_length]
      have k4' : ∀ j, j ∉ vs → σ4[j]? = σ[j]? := fun j hj => by rw [k4 j (fun z => hj (hw j z)), wipe_at, if_neg hj]
      have le4 : env3.length = env2.length := by rw [s4.sg.len, l4', ← s2.sg.len]
      refine ⟨wipe_eq l4' k4', ht H0 B0 ln _ B3 H3 σ4 env3 s4 _ _ em4 _ fun B5 H5 e5 e6 s5 => ?_⟩
      cases b with
      | true =>
        rw [if_pos rfl]
        obtain ⟨ri, em5, em6⟩ := bind_some (show (mi1 env4).bind _ = some r from em2)
        obtain ⟨ds1, env5⟩ := ri
        obtain ⟨r1, em7, em8⟩ := bind_some em6
        refine hi1 H0 B0 ln _ B5 H5 σ4 env4 s5 _ _ em5 _ fun J1 B6 H6 e7 e8 s6 w6 => ?_
        have w6 : WalkD K J1 (fun H2 => Ex B6 H2) B6 ds1 := w6.mono fun H2 h => by simpa using h
        refine ⟨fun j k H' => k = ds1.length - j ∧ j ≤ ds1.length ∧ ∃ acc B' env', Ex B6 B' ∧ Ex H1 H' ∧ Stt K H0 B0 ln ((.ls acc, .ref Dl) :: Γ) B' H' σ4 env' ∧ lcLoop vs1 gs1 mt1 me (ds1.drop j) acc env' = some r1,
          ⟨ds1.length, by simp, Nat.zero_le _, acc, B6, env5, Ex.refl _, fun c u h => e8 c u (e6 c u (w3.h0 c u (e4 c u h))), s6, em7⟩, ?_⟩
        rintro j k H7 ⟨rfl, hj, acc7, B7, env7, e9, e10, s7, em7⟩
        by_cases hjl : j < ds1.length
        · refine .inr ⟨w6.go j H7 hjl (e9.trans s7.w.bh), fun H' => ∃ acc B' env', Ex B6 B' ∧ Ex H1 H' ∧ Stt K H0 B0 ln ((.ls acc, .ref Dl) :: Γ) B' H' σ4 env' ∧ lcLoop vs1 gs1 mt1 me (ds1.drop (j + 1)) acc env' = some r1, fun H' h => ⟨ds1.length - (j + 1), by omega, rfl, hjl, h⟩, fun x1 H8 y1 => ?_⟩
          obtain ⟨B8, w8, r8⟩ := w6.yld j ds1[j] H7 x1 H8 B7 (List.getElem?_eq_getElem hjl) (e9.trans s7.w.bh) e9 s7.w.bh y1
          have s8 := s7.step w8
          rw [List.drop_eq_getElem_cons hjl, lcLoop] at em7
          split at em7
          · rename_i hok7
            obtain ⟨env8, em9, em7⟩ := bind_some em7
            obtain ⟨b8, em10, em7⟩ := bind_some em7
            obtain ⟨b8, env9⟩ := b8
            refine hg1 H0 B0 ln _ B8 H8 (wipe σ4 vs1) (wipeE env7 vs1) (s8.wipe vs1) _ x1 _ r8 em9 _ fun σ9 s9 l9 k9 => ?_
            have l9' : σ9.length = σ4.length := by rw [l9, wipe_length]
            have k9' : ∀ j, j ∉ vs1 → σ9[j]? = σ4[j]? := fun j hj => by rw [k9 j (fun z => hj (hw1 j z)), wipe_at, if_neg hj]
            refine ⟨wipe_eq l9' k9', ht1 H0 B0 ln _ B8 H8 σ9 env8 s9 _ _ em10 _ fun B10 H10 e11 e12 s10 => ?_⟩
            cases b8 with
            | true =>
              rw [if_pos rfl]
              obtain ⟨z, em11, em12⟩ := bind_some (show (me env9).bind _ = some r1 from em7)
              split at em12
              · rename_i hz
                refine he H0 B0 ln _ B10 H10 σ9 env9 s10 _ _ em11 _ fun y B11 H11 e13 e14 s11 => ?_
                obtain ⟨us, g1, g2, g3, g4⟩ := Stt.mutTemp (T := [(z.1, y)]) (s11.perm (List.Perm.swap _ _ _))
                have s12 := g4 (acc7 ++ [z.1]) (us ++ [y]) [] (by simp [g2]) (by rw [zip_append' g2]; simp)
                refine ⟨us, g1, by rw [← g2]; exact hz, acc7 ++ [z.1], B11, backE env7 z.2 vs1, ((e9.trans w8.b0).trans e11).trans e13, fun c u h => ?_, ?_, em12⟩
                · rw [upd_ne (ne_of_none h hD)]
                  exact e14 c u (e12 c u (w8.h0 c u (e10 c u h)))
                · have le6 : z.2.length = env7.length := by rw [s11.sg.len, l9', ← s7.sg.len]
                  have s13 := Stt.back s7 ((w8.b0.trans e11).trans e13) s12 le6 vs1 hok7
                  rw [restS_eq l9' k9'] at s13
                  exact s13
              · cases em12
            | false =>
              rw [if_neg Bool.false_ne_true]
              refine ⟨acc7, B10, backE env7 env9 vs1, (e9.trans w8.b0).trans e11, fun c u h => e12 c u (w8.h0 c u (e10 c u h)), ?_, em7⟩
              have le6 : env9.length = env7.length := by rw [s10.sg.len, l9', ← s7.sg.len]
              have s13 := Stt.back s7 (w8.b0.trans e11) s10 le6 vs1 hok7
              rw [restS_eq l9' k9'] at s13
              exact s13
          · cases em7
        · have hj' : j = ds1.length := by omega
          subst hj'
          rw [List.drop_length, lcLoop] at em7
          cases em7
          refine .inl ⟨w6.stop H7 (e9.trans s7.w.bh), acc7, B7, backE env2 env7 vs, (((e3.trans w3.b0).trans e5).trans e7).trans e9, e10, ?_, em8⟩
          have le6 : env7.length = env2.length := by rw [s7.sg.len, l4', ← s2.sg.len]
          have s8 := Stt.back s2 (((w3.b0.trans e5).trans e7).trans e9) s7 le6 vs hok
          rw [restS_eq l4' k4'] at s8
          exact s8
      | false =>
        rw [if_neg Bool.false_ne_true]
        refine ⟨acc, B5, backE env2 env4 vs, (e3.trans w3.b0).trans e5, fun c u h => e6 c u (w3.h0 c u (e4 c u h)), ?_, em2⟩
        have le6 : env4.length = env2.length := by rw [s5.sg.len, l4', ← s2.sg.len]
        have s8 := Stt.back s2 (w3.b0.trans e5) s5 le6 vs hok
        rw [restS_eq l4' k4'] at s8
        exact s8
    · cases em2
  · have hi' : i = ds.length := by omega
    subst hi'
    rw [List.drop_length, lcLoop2] at em2
    cases em2
    exact .inl ⟨w.stop H2 e4, q _ B2 H2 (e1.trans e3) (e2.trans e4) s2⟩
section
variable {X : Cx} {elt tg iter tg1 iter1 : Expr} {ifs ifs1 : List Expr} {scope : Scope} {own : List (Str × Nat)} {pos : PySem.Pos} {mi mi1 : EM (List D)} {ws ws1 : List Nat} {gs gs1 : D → En → Option En} {mt mt1 : EM Bool} {me : EM O}
theorem qs_setLc2 {i : Nat} {y : Str} {py spos : PySem.Pos} (own : List (Str × Nat)) (vs1 : List Nat) (hc : X.calm = true) (hN : X.N.Nodup) (hy : X.N[i]? = some y) (hyl : X.env.scope.names.lookup y = some .local)
    (hsw : swapsWith (.ListComp elt [⟨tg, iter, ifs, 0⟩, ⟨tg1, iter1, ifs1, 0⟩] scope pos) (some (.Name y py)) spos.line X.env = pure true) (hi : QI X false tg iter mi) (hk : blkC X.N X.env.scope scope own = true)
    (hg : ∀ (s : Shared) (H : Hp) (C : Addr) (cl : List (Str × Addr)) (fp : List Addr), QG (X.blk s H scope (compEnvC scope cl C X.env) fp) tg ws gs)
    (ht : ∀ (s : Shared) (H : Hp) (C : Addr) (cl : List (Str × Addr)) (fp : List Addr), QTs (X.blk s H scope (compEnvC scope cl C X.env) fp) ifs mt)
    (hi1 : ∀ (s : Shared) (H : Hp) (C : Addr) (cl : List (Str × Addr)) (fp : List Addr), QI (X.blk s H scope (compEnvC scope cl C X.env) fp) true tg1 iter1 mi1)
    (hg1 : ∀ (s : Shared) (H : Hp) (C : Addr) (cl : List (Str × Addr)) (fp : List Addr), QG (X.blk s H scope (compEnvC scope cl C X.env) fp) tg1 ws1 gs1)
    (ht1 : ∀ (s : Shared) (H : Hp) (C : Addr) (cl : List (Str × Addr)) (fp : List Addr), QTs (X.blk s H scope (compEnvC scope cl C X.env) fp) ifs1 mt1)
    (he : ∀ (s : Shared) (H : Hp) (C : Addr) (cl : List (Str × Addr)) (fp : List Addr), QE (X.blk s H scope (compEnvC scope cl C X.env) fp) elt me)
    (hw : ∀ j ∈ ws, j ∈ own.map (·.2) := by decide) (hw1 : ∀ j ∈ ws1, j ∈ vs1 := by decide) (hv : ∀ i ∈ vs1, i ∈ own.map (·.2) := by decide) (hs : ∀ x, foldedSetIterable iter X.env x = pure x := by intro _; rfl) (hs1 : ∀ env x, foldedSetIterable iter1 env x = pure x := by intro _ _; rfl) :
    QS X (.Assign [.Name y py] (.ListComp elt [⟨tg, iter, ifs, 0⟩, ⟨tg1, iter1, ifs1, 0⟩] scope pos) spos) (sAsg i (mLc2 (own.map (·.2)) mi gs mt vs1 mi1 gs1 mt1 me)) :=
  ⟨_, ps_setLc2 (wi := tCI X.K false mi) (g := tCG X.K ws gs) (tt := tCT X.K mt) (wi1 := tCI X.K true mi1) (g1 := tCG X.K ws1 gs1) (tt1 := tCT X.K mt1) (te := tCE X.K me) hc hN hy hyl hsw hi.c (blkOk_by hk) hv (fun s H C cl fp => (hg s H C cl fp).c) (fun s H C cl fp => (ht s H C cl fp).c)
    (fun s H C cl fp => (hi1 s H C cl fp).c) (fun s H C cl fp => (hg1 s H C cl fp).c) (fun s H C cl fp => (ht1 s H C cl fp).c) (fun s H C cl fp => (he s H C cl fp).c) hs hs1, ss_asg (se_lc2 siC sgC hw stC siC sgC hw1 stC seC)⟩
end
theorem roomU65 {k : Nat} {A : Around} (h : Room k A) : A.units + 65 < cLine := by have := h.un; omega
end Q
set_option Elab.async false
set_option linter.all false
set_option maxRecDepth 100000
set_option maxHeartbeats 1000000
namespace Q
open PySem L2
def encJ (j : List Nat) : D := .tup (j.map fun (n : Nat) => D.int (n : Int))
theorem encJ_inj {a b : List Nat} (h : encJ a = encJ b) : a = b := by
  unfold encJ at h
  injection h with h
  have : ∀ (a b : List Nat), a.map (fun (n : Nat) => D.int (n : Int)) = b.map (fun (n : Nat) => D.int (n : Int)) → a = b := by
    intro a
    induction a with
    | nil => intro b h; cases b with
      | nil => rfl
      | cons _ _ => simp at h
    | cons x xs ih => intro b h; cases b with
      | nil => simp at h
      | cons y ys =>
        simp only [List.map_cons, List.cons.injEq] at h
        obtain ⟨h1, h2⟩ := h
        injection h1 with h1
        rw [ih ys h2, show x = y by omega]
  exact this a b h
theorem gds_ints : ∀ j : List Nat, D.gds (j.map fun (n : Nat) => D.int (n : Int)) = true
  | [] => by rw [List.map_nil, D.gds]
  | x :: xs => by
    have h : (D.int (x : Int)).gd = true := by simp [D.gd]
    rw [List.map_cons, D.gds, gds_ints xs, h]; rfl
theorem encJ_gd (j : List Nat) : (encJ j).gd = true := by unfold encJ; rw [D.gd]; exact gds_ints j
theorem deps_ints : ∀ j : List Nat, D.deps (j.map fun (n : Nat) => D.int (n : Int)) ≤ 1
  | [] => by rw [List.map_nil, D.deps]; omega
  | x :: xs => by
    have := deps_ints xs
    have h : (D.int (x : Int)).dep ≤ 1 := by simp [D.dep]
    rw [List.map_cons, D.deps]; omega
theorem encJ_dep (j : List Nat) : (encJ j).dep ≤ 2 := by
  have := deps_ints j
  unfold encJ; rw [D.dep]; omega
/-- the joint states, ascending -/
def jnt (ns : List Nat) : List (List Nat) := ns.foldl (fun rows n => rows.flatMap fun r => (List.range n).map fun s => r ++ [s]) [[]]
theorem jnt_snoc (ns : List Nat) (n : Nat) : jnt (ns ++ [n]) = (jnt ns).flatMap fun r => (List.range n).map fun s => r ++ [s] := by
  unfold jnt; rw [List.foldl_append]; rfl
/-- a joint state of games of ns states -/
structure JOk (ns j : List Nat) : Prop where
  len : j.length = ns.length
  lt : ∀ (i x n : Nat), j[i]? = some x → ns[i]? = some n → x < n
theorem JOk.nil : JOk [] [] := ⟨rfl, fun i x n h => by simp at h⟩
theorem jOk_snoc {ns j : List Nat} {n : Nat} : JOk (ns ++ [n]) j ↔ ∃ r s, j = r ++ [s] ∧ JOk ns r ∧ s < n := by
  constructor
  · intro h
    have hl := h.len
    rw [List.length_append, List.length_singleton] at hl
    have hne : j ≠ [] := fun e => by rw [e] at hl; simp at hl
    refine ⟨j.dropLast, j.getLast hne, (List.dropLast_concat_getLast hne).symm, ⟨by rw [List.length_dropLast]; omega, fun i x m h1 h2 => ?_⟩, ?_⟩
    · have hi : i < ns.length := (List.getElem?_eq_some_iff.mp h2).1
      rw [List.getElem?_dropLast, if_pos (by omega)] at h1
      exact h.lt i x m h1 (by rw [List.getElem?_append_left hi]; exact h2)
    · refine h.lt ns.length _ n ?_ (by rw [List.getElem?_append_right (Nat.le_refl _)]; simp)
      rw [List.getLast_eq_getElem, List.getElem?_eq_getElem (by omega)]
      have : j.length - 1 = ns.length := by omega
      simp only [this]
  · rintro ⟨r, s, rfl, h, hs⟩
    refine ⟨by rw [List.length_append, List.length_append, h.len]; rfl, fun i x m h1 h2 => ?_⟩
    by_cases hi : i < ns.length
    · rw [List.getElem?_append_left (by rw [h.len]; exact hi)] at h1
      rw [List.getElem?_append_left hi] at h2
      exact h.lt i x m h1 h2
    · have hi2 : i < (ns ++ [n]).length := (List.getElem?_eq_some_iff.mp h2).1
      rw [List.length_append, List.length_singleton] at hi2
      have e : i = ns.length := by omega
      subst e
      rw [List.getElem?_append_right (Nat.le_refl _), Nat.sub_self] at h2
      rw [← h.len, List.getElem?_append_right (Nat.le_refl _), Nat.sub_self] at h1
      simp only [List.getElem?_cons_zero, Option.some.injEq] at h1 h2
      omega
theorem rev_ind {P : List Nat → Prop} (h0 : P []) (h1 : ∀ ns n, P ns → P (ns ++ [n])) (ns : List Nat) : P ns := by
  have : ∀ (k : Nat) (ns : List Nat), ns.length = k → P ns := by
    intro k
    induction k with
    | zero => intro ns h; rw [List.length_eq_zero_iff.mp h]; exact h0
    | succ k ih =>
      intro ns h
      have hne : ns ≠ [] := fun e => by rw [e] at h; simp at h
      rw [← List.dropLast_concat_getLast hne]
      exact h1 _ _ (ih _ (by rw [List.length_dropLast]; omega))
  exact this _ ns rfl
theorem mem_jnt (ns : List Nat) : ∀ j, j ∈ jnt ns ↔ JOk ns j := by
  refine rev_ind (P := fun ns => ∀ j, j ∈ jnt ns ↔ JOk ns j) ?_ (fun ns n ih => ?_) ns
  · intro j
    show j ∈ [[]] ↔ _
    constructor
    · intro h; rw [List.mem_singleton.mp h]; exact .nil
    · intro h; rw [List.mem_singleton]; exact List.length_eq_zero_iff.mp h.len
  · intro j
    rw [jnt_snoc, jOk_snoc, List.mem_flatMap]
    constructor
    · rintro ⟨r, hr, h⟩
      obtain ⟨s, hs, rfl⟩ := List.mem_map.mp h
      exact ⟨r, s, rfl, (ih r).mp hr, List.mem_range.mp hs⟩
    · rintro ⟨r, s, rfl, hr, hs⟩
      exact ⟨r, (ih r).mpr hr, List.mem_map.mpr ⟨s, List.mem_range.mpr hs, rfl⟩⟩
theorem nodup_flat {α β : Type} {f : α → List β} : ∀ {xs : List α}, xs.Nodup → (∀ x ∈ xs, (f x).Nodup) → (∀ x ∈ xs, ∀ y ∈ xs, ∀ z, z ∈ f x → z ∈ f y → x = y) → (xs.flatMap f).Nodup
  | [], _, _, _ => by simp
  | x :: xs, h, h1, h2 => by
    rw [List.flatMap_cons, List.nodup_append]
    rw [List.nodup_cons] at h
    refine ⟨h1 x (by simp), nodup_flat h.2 (fun y hy => h1 y (List.mem_cons_of_mem _ hy)) (fun y hy w hw => h2 y (List.mem_cons_of_mem _ hy) w (List.mem_cons_of_mem _ hw)), fun a ha b hb e => ?_⟩
    subst e
    obtain ⟨y, hy, hay⟩ := List.mem_flatMap.mp hb
    have := h2 x (by simp) y (List.mem_cons_of_mem _ hy) a ha hay
    subst this
    exact h.1 hy
theorem jnt_nodup (ns : List Nat) : (jnt ns).Nodup := by
  refine rev_ind (P := fun ns => (jnt ns).Nodup) (by show ([[]] : List (List Nat)).Nodup; simp) (fun ns n ih => ?_) ns
  rw [jnt_snoc]
  refine nodup_flat ih (fun r _ => ?_) (fun r _ r' _ z hz hz' => ?_)
  · rw [List.Nodup, List.pairwise_map]
    refine List.Pairwise.imp ?_ (List.nodup_range (n := n))
    intro a b hab e
    exact hab (by simpa using e)
  · obtain ⟨s, _, rfl⟩ := List.mem_map.mp hz
    obtain ⟨s', _, e⟩ := List.mem_map.mp hz'
    exact (List.append_inj' e rfl).1.symm
theorem flat_len {α β : Type} {f : α → List β} {n : Nat} : ∀ {xs : List α}, (∀ x ∈ xs, (f x).length ≤ n) → (xs.flatMap f).length ≤ xs.length * n
  | [], _ => by simp
  | x :: xs, h => by
    have h1 := h x (by simp)
    have h2 := flat_len (f := f) (n := n) fun y hy => h y (List.mem_cons_of_mem _ hy)
    rw [List.flatMap_cons, List.length_append, List.length_cons, Nat.succ_mul]
    omega
theorem jnt_len {m : Nat} (ns : List Nat) : (∀ n ∈ ns, n ≤ m) → (jnt ns).length ≤ m ^ ns.length := by
  refine rev_ind (P := fun ns => (∀ n ∈ ns, n ≤ m) → (jnt ns).length ≤ m ^ ns.length) (fun _ => by show 1 ≤ m ^ 0; simp) (fun ns n ih h => ?_) ns
  have h1 := ih fun x hx => h x (List.mem_append_left _ hx)
  have h2 := h n (by simp)
  rw [jnt_snoc, List.length_append, List.length_singleton, Nat.pow_succ]
  refine Nat.le_trans (flat_len (n := n) fun r _ => by simp) ?_
  exact Nat.le_trans (Nat.mul_le_mul_left _ h2) (Nat.mul_le_mul_right _ h1)
theorem jnt_small {ns : List Nat} (h5 : ∀ n ∈ ns, n ≤ 5) (hl : ns.length ≤ 6) : (jnt ns).length ≤ 15625 :=
  Nat.le_trans (jnt_len ns h5) (Nat.le_trans (Nat.pow_le_pow_right (by decide) hl) (by decide))
theorem JOk.set {ns j : List Nat} (h : JOk ns j) {i t n : Nat} (hi : ns[i]? = some n) (ht : t < n) : JOk ns (j.set i t) := by
  refine ⟨by rw [List.length_set]; exact h.len, fun k x m h1 h2 => ?_⟩
  by_cases e : i = k
  · subst e
    have hk : i < j.length := by rw [h.len]; exact (List.getElem?_eq_some_iff.mp hi).1
    rw [List.getElem?_set_self hk] at h1
    rw [hi] at h2
    cases h1; cases h2; exact ht
  · rw [List.getElem?_set_ne e] at h1
    exact h.lt k x m h1 h2
theorem JOk.at {ns j : List Nat} (h : JOk ns j) {i n : Nat} (hi : ns[i]? = some n) : ∃ x, j[i]? = some x ∧ x < n := by
  have hk : i < j.length := by rw [h.len]; exact (List.getElem?_eq_some_iff.mp hi).1
  exact ⟨j[i], List.getElem?_eq_getElem hk, h.lt i _ n (List.getElem?_eq_getElem hk) hi⟩
theorem pys_map {α : Type} (f : α → D) (hg : ∀ a, (f a).gd = true) : ∀ js : List α, ∃ ps, D.pys (js.map f) = some ps ∧ ps.length = js.length
  | [] => ⟨[], by rw [List.map_nil, D.pys], rfl⟩
  | j :: js => by
    obtain ⟨p, h1, _⟩ := gd_py (f j) (hg j)
    obtain ⟨ps, h2, h3⟩ := pys_map f hg js
    exact ⟨p :: ps, by rw [List.map_cons, D.pys, h1, h2]; rfl, by simp [h3]⟩
theorem gds_mapF {α : Type} (f : α → D) (hg : ∀ a, (f a).gd = true) : ∀ js : List α, D.gds (js.map f) = true
  | [] => by rw [List.map_nil, D.gds]
  | j :: js => by rw [List.map_cons, D.gds, hg j, gds_mapF f hg js]; rfl
theorem deps_mapF {α : Type} (f : α → D) {k : Nat} (hd : ∀ a, (f a).dep ≤ k) : ∀ js : List α, D.deps (js.map f) ≤ k
  | [] => by rw [List.map_nil, D.deps]; omega
  | j :: js => by
    have h1 := hd j
    have h2 := deps_mapF f hd js
    rw [List.map_cons, D.deps]; omega
theorem eqv_map {α : Type} [DecidableEq α] {f : α → D} (inj : ∀ a b, f a = f b → a = b) (hg : ∀ a, (f a).gd = true) {a b : α} {p q : PyData} (h1 : (f a).py = some p) (h2 : (f b).py = some q) : PyData.eqv p q = decide (a = b) := by
  have h := eqv_gd (f a) (f b) p q (hg a) (hg b) h1 h2
  by_cases e : a = b
  · subst e; rw [h.mpr rfl, decide_eq_true rfl]
  · rw [decide_eq_false e]
    cases q0 : PyData.eqv p q with
    | false => rfl
    | true => exact absurd (inj _ _ (h.mp q0)) e
theorem find_map {α : Type} [DecidableEq α] [BEq α] [LawfulBEq α] {f : α → D} (inj : ∀ a b, f a = f b → a = b) (hg : ∀ a, (f a).gd = true) {j : α} {p : PyData} (h1 : (f j).py = some p) : ∀ (js : List α) (ps : List PyData), D.pys (js.map f) = some ps → ps.findIdx (fun z => PyData.eqv z p) = js.idxOf j ∧ (ps.any fun z => PyData.eqv z p) = decide (j ∈ js)
  | [], ps, h => by rw [List.map_nil, D.pys] at h; cases h; exact ⟨rfl, rfl⟩
  | a :: js, ps, h => by
    rw [List.map_cons, D.pys] at h
    obtain ⟨q, h2, h⟩ := bind_some h
    obtain ⟨qs, h3, h⟩ := bind_some h
    cases h
    obtain ⟨i1, i2⟩ := find_map inj hg h1 js qs h3
    have e := eqv_map inj hg h2 h1
    constructor
    · rw [List.findIdx_cons, List.idxOf_cons, e, i1]
      by_cases q : a = j
      · subst q; simp
      · have hb : (a == j) = false := by simpa using q
        rw [decide_eq_false q, hb]
    · rw [List.any_cons, e, i2]
      by_cases q : a = j
      · subst q; simp
      · simp [q, Ne.symm q]
theorem shaped_map {α : Type} {f : α → D} (hg : ∀ a, (f a).gd = true) (hd : ∀ a, (f a).dep ≤ 60) (js : List α) {ps : List PyData} (h : D.pys (js.map f) = some ps) : SeqAt.shaped (.list ps) = true := by
  obtain ⟨p, h1, h2, h3⟩ := gd_py (.lst (js.map f)) (by rw [D.gd]; exact gds_mapF f hg js)
  rw [D.py, h] at h1
  cases h1
  have := deps_mapF f hd js
  rw [D.dep] at h3
  unfold SeqAt.shaped
  rw [h2]
  simp only [Bool.true_and, decide_eq_true_eq]
  omega
theorem shaped_one {α : Type} {f : α → D} (hg : ∀ a, (f a).gd = true) (hd : ∀ a, (f a).dep ≤ 60) (j : α) : ∃ p, (f j).py = some p ∧ SeqAt.shaped p = true := by
  obtain ⟨p, h1, h2, h3⟩ := gd_py (f j) (hg j)
  have := hd j
  refine ⟨p, h1, ?_⟩
  unfold SeqAt.shaped
  rw [h2]
  simp only [Bool.true_and, decide_eq_true_eq]
  omega
theorem idx_map {α : Type} [DecidableEq α] [BEq α] [LawfulBEq α] {f : α → D} (inj : ∀ a b, f a = f b → a = b) (hg : ∀ a, (f a).gd = true) (hd : ∀ a, (f a).dep ≤ 60) {js : List α} {j : α} (h : j ∈ js) : oIdx (.fz (.lst (js.map f))) (.fz (f j)) = some (.fz (.int (js.idxOf j : Nat))) := by
  obtain ⟨p, h1, h2⟩ := shaped_one hg hd j
  obtain ⟨ps, h3, h4⟩ := pys_map f hg js
  obtain ⟨i1, i2⟩ := find_map inj hg h1 js ps h3
  have hs := shaped_map hg hd js h3
  unfold oIdx
  rw [if_pos (show isLs (O.fz (.lst (js.map f))) = true from rfl)]
  have e1 : (O.fz (f j)).frz.py = some p := h1
  have e2 : (O.fz (.lst (js.map f))).frz.py = some (.list ps) := by show D.py (.lst _) = _; rw [D.py, h3]; rfl
  rw [e1, Option.bind_some, e2]
  simp only
  rw [if_pos ⟨h2, hs, by rw [i1, h4]; exact List.idxOf_lt_length_iff.mpr h⟩, i1]
theorem lc2_mapx {α : Type} {vs vs1 : List Nat} {gs gs1 : D → En → Option En} {mi1 : EM (List D)} {mt1 : EM Bool} {me : EM O} {env : En} (f : α → D) (g : α → List O) : ∀ (xs : List α) (acc : List O), okE env vs = true → acc.length + (xs.flatMap g).length ≤ sizeLine →
    (∀ x ∈ xs, ∀ acc : List O, acc.length + (g x).length ≤ sizeLine → ∃ e1 p e2, gs (f x) (wipeE env vs) = some e1 ∧ mi1 e1 = some p ∧ lcLoop vs1 gs1 mt1 me p.1 acc p.2 = some (acc ++ g x, e2) ∧ backE env e2 vs = env) →
    lcLoop2 vs gs mYes vs1 mi1 gs1 mt1 me (xs.map f) acc env = some (acc ++ xs.flatMap g, env)
  | [], acc, _, _, _ => by simp [lcLoop2]
  | x :: xs, acc, h0, hz, hs => by
    rw [List.flatMap_cons, List.length_append] at hz
    obtain ⟨e1, p, e2, h1, h2, h3, h4⟩ := hs x (by simp) acc (by omega)
    rw [List.map_cons, lcLoop2, if_pos h0, h1, Option.bind_some, e_mYes, Option.bind_some]
    show (if true = true then (mi1 e1).bind _ else _) = _
    rw [if_pos rfl, h2, Option.bind_some, h3, Option.bind_some]
    show lcLoop2 vs gs mYes vs1 mi1 gs1 mt1 me (xs.map f) (acc ++ g x) (backE env e2 vs) = _
    rw [h4, lc2_mapx f g xs _ h0 (by rw [List.length_append]; omega) fun y hy => hs y (List.mem_cons_of_mem _ hy)]
    rw [List.flatMap_cons, List.append_assoc]
@[simp] theorem e_mLc2 {vs vs1 : List Nat} {mi mi1 : EM (List D)} {gs gs1 : D → En → Option En} {mt mt1 : EM Bool} {me : EM O} {env : En} : mLc2 vs mi gs mt vs1 mi1 gs1 mt1 me env = (mi env).bind fun p => (lcLoop2 vs gs mt vs1 mi1 gs1 mt1 me p.1 [] p.2).bind fun q => some (.ls q.1, q.2) := rfl
end Q
set_option Elab.async false
set_option linter.all false
set_option maxRecDepth 100000
set_option maxHeartbeats 1000000
namespace Q
open PySem L2
/-- the game of a place -/
def gmE (p : Plc) : D := encG p.rs p.rows
def nst (ps : List Plc) : List Nat := ps.map (·.n)
theorem nst_get {ps : List Plc} {i : Nat} {p : Plc} (h : ps[i]? = some p) : (nst ps)[i]? = some p.n := by unfold nst; rw [List.getElem?_map, h]; rfl
def gst (g : Option Rat) (x : Rat) : Option Rat := match g with
  | none => some x
  | some y => if y < x then some x else some y
def grt (stop : Option Rat) (xs : List Rat) : Option Rat := xs.foldl gst stop
structure IsG (stop : Option Rat) (xs : List Rat) (g : Rat) : Prop where
  mem : stop = some g ∨ g ∈ xs
  st : ∀ x, stop = some x → x ≤ g
  le : ∀ x ∈ xs, x ≤ g
theorem IsG.grt : ∀ {xs : List Rat} {stop : Option Rat} {g : Rat}, IsG stop xs g → Q.grt stop xs = some g
  | [], stop, g, h => by
    rcases h.mem with e | e
    · exact e
    · simp at e
  | x :: xs, stop, g, h => by
    show Q.grt (gst stop x) xs = some g
    refine IsG.grt ⟨?_, fun y hy => ?_, fun y hy => h.le y (List.mem_cons_of_mem _ hy)⟩
    · have hx := h.le x (by simp)
      rcases h.mem with e | e
      · subst e
        left
        show (if g < x then some x else some g) = some g
        rw [if_neg (by grind)]
      · rcases List.mem_cons.mp e with e | e
        · subst e
          left
          cases stop with
          | none => rfl
          | some y =>
            have := h.st y rfl
            show (if y < g then some g else some y) = some g
            by_cases q : y < g
            · rw [if_pos q]
            · rw [if_neg q, show y = g by grind]
        · exact .inr e
    · have hx := h.le x (by simp)
      cases stop with
      | none => cases hy; exact hx
      | some z =>
        have hz := h.st z rfl
        have hy : (if z < x then some x else some z) = some y := hy
        split at hy
        · cases hy; exact hx
        · cases hy; exact hz
theorem IsG.uniq {stop : Option Rat} {xs : List Rat} {g h : Rat} (a : IsG stop xs g) (b : IsG stop xs h) : g = h := by
  have := a.grt
  rw [b.grt] at this
  exact (Option.some.inj this).symm
/-- j[:i] + (t,) + j[i + 1:] -/
theorem cut_set {j : List Nat} {i t : Nat} (hi : i < j.length) : j.take i ++ [t] ++ j.drop (i + 1) = j.set i t := by
  rw [List.set_eq_take_append_cons_drop, if_pos hi, List.append_assoc]; rfl
/-- j[:i] + (t,) + j[i + 1:] -/
theorem nst_le {ps : List Plc} (hn : ∀ p ∈ ps, p.n ≤ 5) (i : Nat) : ∀ n ∈ nst (ps.take i), n ≤ 5 := fun n h => by
  unfold nst at h
  obtain ⟨p, hp, rfl⟩ := List.mem_map.mp h
  exact hn p (List.mem_of_mem_take hp)
theorem nst_small {ps : List Plc} (hn : ∀ p ∈ ps, p.n ≤ 5) (hl : ps.length ≤ 6) (i : Nat) : (jnt (nst (ps.take i))).length ≤ 15625 :=
  jnt_small (nst_le hn i) (by unfold nst; rw [List.length_map, List.length_take]; omega)
theorem nst_take {ps : List Plc} {i : Nat} {p : Plc} (h : ps[i]? = some p) : nst (ps.take (i + 1)) = nst (ps.take i) ++ [p.n] := by
  rw [List.take_add_one, h]; unfold nst; rw [List.map_append]; rfl
end Q
set_option Elab.async false
set_option linter.all false
set_option maxRecDepth 100000
set_option maxHeartbeats 1000000
namespace Q
open PySem L2 PyProof.Rows
def D.keys : List D → Option (List Key)
  | [] => some []
  | d :: ds => (d.key).bind fun k => (D.keys ds).bind fun ks => some (k :: ks)
/-- a tuple to be looked up -/
def D.keyT : D → Option (List Key)
  | .tup ds => D.keys ds
  | .kt ks => some ks
  | _ => none
/-- a tuple to be stored -/
def D.keyX : D → Option (List Key)
  | .kt ks => some ks
  | _ => none
def O.keyT : O → Option (List Key)
  | .fz d => d.keyT
  | _ => none
def O.keyX : O → Option (List Key)
  | .fz d => d.keyX
  | _ => none
def O.asDT : O → Option (List (List Key) × List D)
  | .fz (.dt ks ds) => some (ks, ds)
  | .ot ks ds => some (ks, ds)
  | _ => none
def lookT : List (List Key) → List D → List Key → Option D
  | j :: ks, d :: ds, k => if j = k then some d else lookT ks ds k
  | _, _, _ => none
section
variable {K : PySem.W.Frag} {H0 B0 B H : Hp} {ln : Nat → Option V} {Γ : List (O × V)} {σ : L2.St} {env : En} {ks : List (List Key)} {ds : List D} {a : Addr} {o : O} {v : V}
theorem keys_ok : ∀ {ds : List D} {vs : List V} {ks : List Key}, Rps K B ds vs → D.keys ds = some ks → vs = ks.map kV
  | [], vs, ks, r, h => by rw [Rps] at r; rw [D.keys] at h; cases h; rw [r]; rfl
  | d :: ds, vs, ks, r, h => by
    rw [Rps] at r
    obtain ⟨v, rr, rfl, h1, h2⟩ := r
    rw [D.keys] at h
    obtain ⟨k, e1, h⟩ := bind_some h
    obtain ⟨ks', e2, h⟩ := bind_some h
    cases h
    rw [List.map_cons, key_ok h1 e1, keys_ok h2 e2]
theorem keyT_ok {k : List Key} (e : Ex B H) (w : Vw K B H o v) (h : o.keyT = some k) : ∃ b, v = .ref b ∧ SqT K H b (k.map kV) := by
  cases o with
  | fz d =>
    rw [Vw] at w
    cases d with
    | tup ds =>
      rw [Rp] at w
      obtain ⟨b, vs, rfl, h1, h2⟩ := w
      have := keys_ok h2 h
      subst this
      exact ⟨b, rfl, e.t h1⟩
    | kt ks =>
      rw [Rp] at w
      obtain ⟨b, rfl, h1⟩ := w
      cases h
      exact ⟨b, rfl, SqT.of (e _ _ h1)⟩
    | _ => cases h
  | _ => cases h
theorem keyX_ok {k : List Key} (e : Ex B H) (w : Vw K B H o v) (h : o.keyX = some k) : ∃ b, v = .ref b ∧ H b = some (.tup (k.map kV)) := by
  cases o with
  | fz d =>
    rw [Vw] at w
    cases d with
    | kt ks =>
      rw [Rp] at w
      obtain ⟨b, rfl, h1⟩ := w
      cases h
      exact ⟨b, rfl, e _ _ h1⟩
    | _ => cases h
  | _ => cases h
theorem asDT_ok {p : List (List Key) × List D} (e : Ex B H) (w : Vw K B H o v) (h : o.asDT = some p) : ∃ a kvs, v = .ref a ∧ H a = some (.dT kvs) ∧ kvs.map Prod.fst = p.1 ∧ Rps K B p.2 (kvs.map Prod.snd) := by
  unfold O.asDT at h
  split at h
  · cases h; rw [Vw, Rp] at w
    obtain ⟨a, kvs, rfl, h1, h2, h3⟩ := w
    exact ⟨a, kvs, rfl, e _ _ h1, h2, h3⟩
  · cases h; rw [Vw] at w
    exact w
  · cases h
theorem lookT_ok (k : List Key) : ∀ {kvs : List (List Key × V)} {ds : List D}, Rps K B ds (kvs.map Prod.snd) → match lookT (kvs.map Prod.fst) ds k with
    | some d => ∃ v, valV kvs k = some v ∧ Rp K B d v
    | none => valV kvs k = none
  | [], ds, r => by
    cases ds <;> exact valV_nil
  | p :: kvs, ds, r => by
    cases ds with
    | nil => rw [Rps] at r; cases r
    | cons d ds =>
      rw [Rps] at r
      obtain ⟨v, rr, e, r1, r2⟩ := r
      cases e
      show match (if p.1 = k then some d else lookT (kvs.map Prod.fst) ds k) with
        | some d => ∃ v, valV (p :: kvs) k = some v ∧ Rp K B d v
        | none => valV (p :: kvs) k = none
      by_cases h : p.1 = k
      · rw [if_pos h]
        exact ⟨p.2, valV_pos h, r1⟩
      · rw [if_neg h, valV_neg h]
        exact lookT_ok k r2
theorem lookT_some {k : List Key} {d : D} {kvs : List (List Key × V)} (r : Rps K B ds (kvs.map Prod.snd)) (h : lookT (kvs.map Prod.fst) ds k = some d) : ∃ v, valV kvs k = some v ∧ Rp K B d v := by
  have := lookT_ok k r
  rw [h] at this
  exact this
theorem lookT_none {k : List Key} {kvs : List (List Key × V)} (r : Rps K B ds (kvs.map Prod.snd)) (h : lookT (kvs.map Prod.fst) ds k = none) : valV kvs k = none := by
  have := lookT_ok k r
  rw [h] at this
  exact this
theorem Stt.newDt (h : Stt K H0 B0 ln Γ B H σ env) {p : Addr} (hp : H p = none) : Ex H (upd H p (.dT [])) ∧ Stt K H0 B0 ln ((.ot [] [], .ref p) :: Γ) B (upd H p (.dT [])) σ env := by
  have w := Wd.newH (x := .dT []) h.w.bh hp
  refine ⟨w.h0, h.w.trans w, h.sg, ?_⟩
  have o2 := (h.own.more hp).upd (x := .dT [])
  exact (o2.shutT (ks := []) (ds := []) (kvs := []) upd_same rfl (by rw [List.map_nil, Rps]) (h.w.bh.none hp) (h.w.h0.none hp) (by simp)).perm List.perm_middle.symm
theorem Stt.mutSlotT {i : Nat} (s : Stt K H0 B0 ln Γ B H σ env) (e : env[i]? = some (.has (.ot ks ds))) : ∃ a kvs, σ[i]? = some (some (.ref a)) ∧ H a = some (.dT kvs) ∧ kvs.map Prod.fst = ks ∧ Rps K B ds (kvs.map Prod.snd) ∧
    ∀ kvs' ks' ds', kvs'.map Prod.fst = ks' → Rps K B ds' (kvs'.map Prod.snd) → Stt K H0 B0 ln Γ B (upd H a (.dT kvs')) σ (env.set i (.has (.ot ks' ds'))) := by
  obtain ⟨v, R, hv, ow, back⟩ := s.slotOut e
  have hw := ow.vw
  rw [Vw] at hw
  obtain ⟨a, _, rfl, _⟩ := hw
  obtain ⟨kvs, h1, h2, h3, h4, h5, h6, h7⟩ := ow.openT
  refine ⟨a, kvs, hv, h1, h2, h3, fun kvs' ks' ds' e1 e2 => back _ _ _ ((h7.upd (x := .dT kvs')).shutT upd_same e1 e2 h4 h5 h6) (wd_upd s.w h4 h5)⟩
end
def tDGetS (K : PySem.W.Frag) (td ty : TE) : TE := fun σ H Q => td σ H fun x H1 => ty σ H1 fun y H2 => ∃ a kvs b k v, x = .ref a ∧ Rd H2 a (.dT kvs) ∧ y = .ref b ∧ SqT K H2 b (k.map kV) ∧ valV kvs k = some v ∧ Q v H2
section
variable {X : Cx} {o i e a b : Expr} {td ty : TE} {ma mb m : EM O} {pos : PySem.Pos}
theorem pe_dgetS (hu : X.A.units + 1 < cLine) (ho : PE X o td) (hi : PE X i ty) (hs : NoSl i) : PE X (.Subscript o i pos) (tDGetS X.K td ty) := by
  refine ⟨fun pins s σ H Q I h => ?_⟩
  refine subD_of PySem.F.slot_dict_getitem.lookup hs (thn (ho.run pins s σ H _ I h) fun u s1 ⟨x, H1, I1, rx, q1⟩ => thn (hi.run pins s1 σ H1 _ I1 q1) fun iv s2 ⟨y, H2, I2, ry, a, kvs, b, k, v, ex, e, ey, hb, l, q2⟩ => ?_)
  subst ex ey
  obtain rfl : u = Value.ref a := rx
  cases (show iv = Value.ref b from ry)
  obtain ⟨z, hd, xs, rel, dd⟩ := dt_rd I2.hok e
  obtain ⟨its, r, ⟨ob, h1, h2, n, h3⟩, _⟩ := I2.tuple hb
  have key : (tupleKind (mixKind X.prog X.w)).is s2.heap k b := ⟨ob, its.toArray, n, h1, h2, h3, by simpa using items_are r⟩
  refine ⟨dd.typeIs, ?_⟩
  obtain ⟨w', hw, rw'⟩ := RelO.some_of (v := v) (o := (atKey xs k).map (·.2)) (by rw [← l]; exact rel.val k)
  obtain ⟨p, hp, hp2⟩ := Option.map_eq_some_iff.mp hw
  refine wpAny_getItem_heap (tupleKind_room_in1 hu) key dd hp ?_
  rw [hp2]
  exact ⟨v, H2, I2.tok _, rw', q2⟩
def oDIxT (a b : O) : Option O := (a.asDT).bind fun p => (b.keyT).bind fun k => (lookT p.1 p.2 k).map .fz
theorem qv_dixT (hu : X.A.units + 64 < cLine) (ha : QV X a ma) (hb : QV X b mb) (hs : NoSl b := by exact fun _ _ => rfl) : QV X (.Subscript a b pos) (m2 oDIxT ma mb) := by
  obtain ⟨t, h1, h2⟩ := ha
  obtain ⟨u, h3, h4⟩ := hb
  refine ⟨_, pe_dgetS (hu1 hu) h1 h3 hs, fun H0 B0 ln Γ B H σ env s o env' em Q q => ?_⟩
  obtain ⟨p, em1, em⟩ := bind_some em
  obtain ⟨p2, em2, em⟩ := bind_some em
  obtain ⟨z, em3, em⟩ := bind_some em
  cases em
  refine h2 H0 B0 ln Γ B H σ env s _ _ em1 _ fun v B1 H1 e1 e2 s1 w1 => ?_
  refine h4 H0 B0 ln Γ B1 H1 σ _ s1 _ _ em2 _ fun u B2 H2 e3 e4 s2 w2 => ?_
  have w1 := Vw.mono e3 e4 _ _ w1
  obtain ⟨kd, k1, em3⟩ := bind_some em3
  obtain ⟨k, k2, em3⟩ := bind_some em3
  obtain ⟨d, k3, rfl⟩ := Option.map_eq_some_iff.mp em3
  obtain ⟨x, kvs, rfl, g1, g2, g3⟩ := asDT_ok s2.w.bh w1 k1
  obtain ⟨b', rfl, hb'⟩ := keyT_ok s2.w.bh w2 k2
  rw [← g2] at k3
  obtain ⟨y, y1, y2⟩ := lookT_some g3 k3
  exact ⟨x, kvs, b', k, y, rfl, .inl g1, rfl, hb', y1, q y B2 H2 (e1.trans e3) (e2.trans e4) s2 (by rw [Vw]; exact y2)⟩
def mDNewT : EM O := fun env => some (.ot [] [], env)
@[simp] theorem e_mDNewT {env : En} : mDNewT env = some (.ot [] [], env) := rfl
theorem qe_dnewT : QE X (.Dict [] [] pos) mDNewT := by
  refine ⟨_, pe_dnewT, fun H0 B0 ln Γ B H σ env s o env' em Q q => ?_⟩
  cases em
  intro p hp
  obtain ⟨e1, s1⟩ := s.newDt hp
  exact q _ B _ (Ex.refl _) e1 s1
def gLenT : List O → Option O
  | [.ot ks _] => some (.fz (.int ks.length))
  | _ => none
@[simp] theorem e_gLenT {ks : List (List Key)} {ds : List D} : gLenT [.ot ks ds] = some (.fz (.int ks.length)) := rfl
theorem c_lenT : QC X (.builtin "len") gLenT := ⟨_, call_len_dT, by
  intro H0 B0 ln Γ B H σ env s os o vs w hg Q q
  unfold gLenT at hg
  split at hg
  · rename_i ks ds
    cases hg
    obtain ⟨v, rfl, w1⟩ := vws1 w
    rw [Vw] at w1
    obtain ⟨a, kvs, rfl, h1, h2, h3⟩ := w1
    refine ⟨a, kvs, rfl, h1, ?_⟩
    have : kvs.length = ks.length := by rw [← h2, List.length_map]
    rw [this]
    exact q _ B H (Ex.refl _) (Ex.refl _) (s.push (by rw [Rp]))
  · cases hg⟩
end
def dtAt (i : Nat) (env : En) : Option (List (List Key) × List D) := match env[i]? with
  | some (.has (.ot ks ds)) => some (ks, ds)
  | _ => none
theorem dtAt_ok {i : Nat} {env : En} {p : List (List Key) × List D} (h : dtAt i env = some p) : env[i]? = some (.has (.ot p.1 p.2)) := by
  unfold dtAt at h
  split at h
  · cases h; assumption
  · cases h
def sDSetT (i : Nat) (m mk : EM O) : SM := fun env => (m env).bind fun p => (dtAt i p.2).bind fun _ => (mk p.2).bind fun q => (dtAt i q.2).bind fun d => (q.1.keyX).bind fun k =>
  if d.1.length < sizeLine ∧ lookT d.1 d.2 k = none then some (.nx (q.2.set i (.has (.ot (d.1 ++ [k]) (d.2 ++ [p.1.frz]))))) else none
@[simp] theorem e_sDSetT {i : Nat} {m mk : EM O} {env : En} : sDSetT i m mk env = (m env).bind fun p => (dtAt i p.2).bind fun _ => (mk p.2).bind fun q => (dtAt i q.2).bind fun d => (q.1.keyX).bind fun k =>
  if d.1.length < sizeLine ∧ lookT d.1 d.2 k = none then some (.nx (q.2.set i (.has (.ot (d.1 ++ [k]) (d.2 ++ [p.1.frz]))))) else none := rfl
theorem putT_new {K : PySem.W.Frag} {B : Hp} {ks : List (List Key)} {ds : List D} {kvs : List (List Key × V)} {k : List Key} {d : D} {v : V} (hk : kvs.map Prod.fst = ks) (hd : Rps K B ds (kvs.map Prod.snd)) (hn : lookT ks ds k = none) (r : Rp K B d v) :
    (putK kvs k v).map Prod.fst = ks ++ [k] ∧ Rps K B (ds ++ [d]) ((putK kvs k v).map Prod.snd) := by
  subst hk
  rw [putK_new v (lookT_none hd hn)]
  refine ⟨by simp, ?_⟩
  rw [List.map_append]
  exact hd.append (Rps.one r)
section
variable {X : Cx} {e e' : Expr} {m mk : EM O} {x : Str} {p0 p1 pos : PySem.Pos} {i : Nat}
theorem qs_dsetT (hu : X.A.units + 64 < cLine) (hN : X.N[i]? = some x) (he : QE X e m) (hi : QV X e' mk) (hv : L2.Vis X.env.scope x := by first | exact Or.inl rfl | exact Or.inr (Or.inl rfl) | exact Or.inr (Or.inr rfl)) (hd : (x == ("__debug__" : Str)) = false := by decide)
    (hcd : (x == ("__classdict__" : Str)) = false := by decide)
    (hs : swapsWith e (some (.Subscript (.Name x p0) e' p1)) pos.line X.env = pure false := by rfl) : QS X (.Assign [.Subscript (.Name x p0) e' p1] e pos) (sDSetT i m mk) := by
  obtain ⟨t, t1, t2⟩ := he
  obtain ⟨u, u1, u2⟩ := hi
  refine ⟨_, ps_dput (hu1 hu) (pe_var hN hv hd hcd) u1 t1 hs, fun H0 B0 ln Γ B H σ env s out em E q => ?_⟩
  obtain ⟨p, em1, em⟩ := bind_some em
  obtain ⟨os0, l0, em⟩ := bind_some em
  obtain ⟨r, em2, em⟩ := bind_some em
  obtain ⟨d, l1, em⟩ := bind_some em
  obtain ⟨k, k1, em⟩ := bind_some em
  split at em
  · rename_i hz
    cases em
    refine t2 H0 B0 ln Γ B H σ env s _ _ em1 _ fun y B1 H1 e1 e2 s1 => ?_
    obtain ⟨v, hv0, w⟩ := s1.slot (dtAt_ok l0)
    refine ⟨_, hv0, u2 H0 B0 ln _ B1 H1 σ _ s1 _ _ em2 _ fun z B2 H2 e3 e4 s2 w2 => ?_⟩
    obtain ⟨b', rfl, hb'⟩ := keyX_ok s2.w.bh w2 k1
    obtain ⟨B3, e5, s3⟩ := s2.frz
    have r3 := s3.rp
    obtain ⟨a, kvs, hv1, g1, g2, g3, g4⟩ := s3.pop.mutSlotT (dtAt_ok l1)
    rw [hv0] at hv1
    cases hv1
    obtain ⟨n1, n2⟩ := putT_new g2 g3 hz.2 r3
    have hl : kvs.length < sizeLine := by
      have h9 : d.1.length < sizeLine := hz.1
      rw [← g2, List.length_map] at h9
      exact h9
    exact ⟨a, _, rfl, DPut.t g1 hb' hl, q B3 _ σ ((e1.trans e3).trans e5) (g4 _ _ _ n1 n2)⟩
  · cases em
end
def mTupK (m : EM O) : EM O := fun env => (m env).bind fun p => match p.1 with
  | .fz (.int i) => some (.fz (.kt [.inl i]), p.2)
  | _ => none
@[simp] theorem e_mTupK {m : EM O} {env : En} : mTupK m env = (m env).bind fun p => match p.1 with
  | .fz (.int i) => some (.fz (.kt [.inl i]), p.2)
  | _ => none := rfl
theorem Stt.newKt {K : PySem.W.Frag} {H0 B0 B H : Hp} {ln : Nat → Option V} {Γ : List (O × V)} {σ : L2.St} {env : En} (h : Stt K H0 B0 ln Γ B H σ env) (ks : List Key) {p : Addr} (hp : H p = none) :
    Ex B (upd B p (.tup (ks.map kV))) ∧ Ex H (upd H p (.tup (ks.map kV))) ∧ Stt K H0 B0 ln ((.fz (.kt ks), .ref p) :: Γ) (upd B p (.tup (ks.map kV))) (upd H p (.tup (ks.map kV))) σ env := by
  have w := Wd.new (x := .tup (ks.map kV)) h.w.bh hp
  refine ⟨w.b0, w.h0, (h.step w).push ?_⟩
  rw [Rp]
  exact ⟨p, rfl, upd_same⟩
def oCatK : O → O → Option O
  | .fz (.tup []), .fz (.kt ys) => if ys.length ≤ sizeLine then some (.fz (.kt ys)) else none
  | .fz (.kt xs), .fz (.kt ys) => if xs ≠ [] ∧ ys ≠ [] ∧ xs.length + ys.length ≤ sizeLine then some (.fz (.kt (xs ++ ys))) else none
  | _, _ => none
section
variable {X : Cx} {e : Expr} {es : List Expr} {m : EM O} {pos : PySem.Pos}
theorem qe_tupK {x1} (h : QE X e m) (hst : starEach [e] X.env = (false, eval e X.env) :: starEach [] X.env := by rfl) : QE X (.Tuple [e] x1 pos) (mTupK m) := by
  obtain ⟨t, h1, h2⟩ := h
  refine ⟨tTup _, pe_tup (pa_cons h1 pa_nil hst), fun H0 B0 ln Γ B H σ env s o env' em Q q => ?_⟩
  obtain ⟨p, em1, em⟩ := bind_some em
  obtain ⟨o1, env1⟩ := p
  refine h2 H0 B0 ln Γ B H σ env s _ _ em1 _ fun v B1 H1 e1 e2 s1 => ?_
  split at em
  · rename_i i ho
    cases em
    simp only at ho
    subst ho
    have r := s1.rp
    rw [Rp] at r
    subst r
    refine ⟨by rw [sizeLine_eq]; simp, fun a ha => ?_⟩
    obtain ⟨e3, e4, s2⟩ := s1.pop.newKt [.inl i] ha
    exact q _ _ _ (e1.trans e3) (e2.trans e4) s2
  · cases em
theorem q_catK : QOp X (binaryOp .Add) oCatK := ⟨_, op_catA, by
  intro H0 B0 ln Γ B H σ env s o1 o2 o x y w1 w2 hg Q q
  unfold oCatK at hg
  split at hg
  · rename_i ys
    split at hg
    · rename_i hz
      cases hg
      obtain ⟨a, vs, rfl, h1, h1', h2⟩ := asT_ok s.w.bh w1 rfl
      rw [Vw, Rp] at w2
      obtain ⟨b, rfl, h3⟩ := w2
      rw [Rps] at h2
      subst h2
      refine ⟨a, b, [], ys.map kV, rfl, rfl, h1, SqT.of (s.w.bh _ _ h3), by simpa using hz, fun _ => ?_, fun e => absurd rfl e, fun e => absurd rfl e⟩
      exact q _ B H (Ex.refl _) (Ex.refl _) (s.push (by rw [Rp]; exact ⟨b, rfl, h3⟩))
    · cases hg
  · rename_i xs ys
    split at hg
    · rename_i hz
      cases hg
      rw [Vw, Rp] at w1 w2
      obtain ⟨a, rfl, h1⟩ := w1
      obtain ⟨b, rfl, h2⟩ := w2
      refine ⟨a, b, xs.map kV, ys.map kV, rfl, rfl, SqT.of (s.w.bh _ _ h1), SqT.of (s.w.bh _ _ h2), by rw [List.length_map, List.length_map]; exact hz.2.2, fun e => absurd (List.map_eq_nil_iff.mp e) hz.1, fun _ e => absurd (List.map_eq_nil_iff.mp e) hz.2.1, fun _ _ p hp => ?_⟩
      rw [← List.map_append]
      obtain ⟨e1, e2, s'⟩ := s.newKt (xs ++ ys) hp
      exact q _ _ _ e1 e2 s'
    · cases hg
  · cases hg⟩
end
def kD : Key → D
  | .inl i => .int i
  | .inr x => .str x
def D.unk : D → D
  | .kt ks => .tup (ks.map kD)
  | d => d
def mUnK (m : EM O) : EM O := fun env => (m env).bind fun p => match p.1 with
  | .fz (.tup ds) => some (.fz (.tup (ds.map D.unk)), p.2)
  | _ => none
@[simp] theorem e_mUnK {m : EM O} {env : En} : mUnK m env = (m env).bind fun p => match p.1 with
  | .fz (.tup ds) => some (.fz (.tup (ds.map D.unk)), p.2)
  | _ => none := rfl
theorem rps_kD {K : PySem.W.Frag} {B : Hp} : ∀ ks : List Key, Rps K B (ks.map kD) (ks.map kV)
  | [] => by rw [List.map_nil, List.map_nil, Rps]
  | k :: ks => by
    rw [List.map_cons, List.map_cons, Rps]
    refine ⟨_, _, rfl, ?_, rps_kD ks⟩
    cases k with
    | inl i => show Rp K B (.int i) _; rw [Rp]; rfl
    | inr x => show Rp K B (.str x) _; rw [Rp]; rfl
theorem rp_unk {K : PySem.W.Frag} {B : Hp} {d : D} {v : V} (r : Rp K B d v) : Rp K B d.unk v := by
  unfold D.unk
  split
  · rw [Rp] at r
    obtain ⟨a, rfl, h⟩ := r
    rw [Rp]
    exact ⟨a, _, rfl, SqT.of h, rps_kD _⟩
  · exact r
theorem rps_unk {K : PySem.W.Frag} {B : Hp} : ∀ {ds : List D} {vs : List V}, Rps K B ds vs → Rps K B (ds.map D.unk) vs
  | [], vs, r => r
  | d :: ds, vs, r => by
    rw [Rps] at r
    obtain ⟨v, rr, rfl, h1, h2⟩ := r
    rw [List.map_cons, Rps]
    exact ⟨v, rr, rfl, rp_unk h1, rps_unk h2⟩
theorem qe_unk {X : Cx} {e : Expr} {m : EM O} (h : QE X e m) : QE X e (mUnK m) := by
  obtain ⟨t, h1, h2⟩ := h
  refine ⟨t, h1, fun H0 B0 ln Γ B H σ env s o env' em Q q => ?_⟩
  obtain ⟨p, em1, em⟩ := bind_some em
  obtain ⟨o1, env1⟩ := p
  refine h2 H0 B0 ln Γ B H σ env s _ _ em1 _ fun v B1 H1 e1 e2 s1 => ?_
  split at em
  · rename_i ds ho
    cases em
    simp only at ho
    subst ho
    have r := s1.rp
    refine q _ B1 H1 e1 e2 (s1.pop.push ?_)
    rw [Rp] at r ⊢
    obtain ⟨a, vs, rfl, g1, g2⟩ := r
    exact ⟨a, vs, rfl, g1, rps_unk g2⟩
  · cases em
end Q
set_option Elab.async false
set_option linter.all false
set_option maxRecDepth 100000
set_option maxHeartbeats 1000000
namespace Q
open PySem PySem.Spec L2 PyProof.Rows
def dcLoopT (vs : List Nat) (gs : D → En → Option En) (mt : EM Bool) (mk mv : EM O) : List D → List (List Key) → List D → En → Option ((List (List Key) × List D) × En)
  | [], ks, acc, env => some ((ks, acc), env)
  | d :: ds, ks, acc, env => if okE env vs = true then (gs d (wipeE env vs)).bind fun e1 => (mt e1).bind fun b =>
      if b.1 = true then (mk b.2).bind fun r => (mv r.2).bind fun z => (r.1.keyX).bind fun k => if ks.length < sizeLine ∧ lookT ks acc k = none then dcLoopT vs gs mt mk mv ds (ks ++ [k]) (acc ++ [z.1.frz]) (backE env z.2 vs) else none
      else dcLoopT vs gs mt mk mv ds ks acc (backE env b.2 vs) else none
def mDcT (vs : List Nat) (mi : EM (List D)) (gs : D → En → Option En) (mt : EM Bool) (mk mv : EM O) : EM O := fun env => (mi env).bind fun p => (dcLoopT vs gs mt mk mv p.1 [] [] p.2).bind fun q => some (.ot q.1.1 q.1.2, q.2)
@[simp] theorem e_mDcT {vs : List Nat} {mi : EM (List D)} {gs : D → En → Option En} {mt : EM Bool} {mk mv : EM O} {env : En} : mDcT vs mi gs mt mk mv env = (mi env).bind fun p => (dcLoopT vs gs mt mk mv p.1 [] [] p.2).bind fun q => some (.ot q.1.1 q.1.2, q.2) := rfl
section
variable {X : Cx} {kx vx tg iter : Expr} {ifs : List Expr} {scope : Scope} {pos : PySem.Pos} {mi : EM (List D)} {ws : List Nat} {gs : D → En → Option En} {mt : EM Bool} {mk mv : EM O}
def mUnk1 (m : EM O) : EM O := fun env => (m env).bind fun p => match p.1 with
  | .fz d => some (.fz d.unk, p.2)
  | _ => none
@[simp] theorem e_mUnk1 {m : EM O} {env : En} : mUnk1 m env = (m env).bind fun p => match p.1 with
  | .fz d => some (.fz d.unk, p.2)
  | _ => none := rfl
theorem qv_unk1 {e : Expr} {m : EM O} (h : QV X e m) : QV X e (mUnk1 m) := by
  obtain ⟨t, h1, h2⟩ := h
  refine ⟨t, h1, fun H0 B0 ln Γ B H σ env s o env' em Q q => ?_⟩
  obtain ⟨p, em1, em⟩ := bind_some em
  obtain ⟨o1, env1⟩ := p
  refine h2 H0 B0 ln Γ B H σ env s _ _ em1 _ fun v B1 H1 e1 e2 s1 w => ?_
  split at em
  · rename_i d ho
    cases em
    simp only at ho
    subst ho
    refine q _ B1 H1 e1 e2 s1 ?_
    rw [Vw] at w ⊢
    exact rp_unk w
  · cases em
end
end Q
set_option Elab.async false
set_option linter.all false
set_option maxRecDepth 100000
set_option maxHeartbeats 1000000
namespace Q
open PySem L2
theorem frz_ls (l : List D) : O.frz (.ls (l.map .fz)) = .lst l := by rw [O.frz, e_frzsfz]
def num (ns j : List Nat) : Nat := (ns.zip j).foldl (fun a p => a * p.1 + p.2) 0
theorem num_snoc {ns r : List Nat} (h : r.length = ns.length) (n s : Nat) : num (ns ++ [n]) (r ++ [s]) = num ns r * n + s := by
  unfold num; rw [List.zip_append h.symm, List.foldl_append]; rfl
theorem flat_get {α β : Type} {f : α → List β} {n : Nat} : ∀ {xs : List α} {k s : Nat} {x : α}, (∀ x ∈ xs, (f x).length = n) → xs[k]? = some x → s < n → (xs.flatMap f)[k * n + s]? = (f x)[s]?
  | [], k, s, x, _, h, _ => by simp at h
  | y :: xs, 0, s, x, hl, h, hs => by
    have h : y = x := by simpa using h
    subst h
    rw [List.flatMap_cons, Nat.zero_mul, Nat.zero_add, List.getElem?_append_left (by rw [hl y (by simp)]; exact hs)]
  | y :: xs, k + 1, s, x, hl, h, hs => by
    rw [List.flatMap_cons, List.getElem?_append_right (by rw [hl y (by simp), Nat.succ_mul]; omega), hl y (by simp), show (k + 1) * n + s - n = k * n + s by rw [Nat.succ_mul]; omega]
    exact flat_get (fun z hz => hl z (List.mem_cons_of_mem _ hz)) (by simpa using h) hs
theorem jnt_num (ns : List Nat) : ∀ j, JOk ns j → (jnt ns)[num ns j]? = some j := by
  refine rev_ind (P := fun ns => ∀ j, JOk ns j → (jnt ns)[num ns j]? = some j) ?_ (fun ns n ih => ?_) ns
  · intro j h
    have := List.length_eq_zero_iff.mp h.len
    subst this; rfl
  · intro j h
    obtain ⟨r, s, rfl, hr, hs⟩ := jOk_snoc.mp h
    rw [num_snoc hr.len, jnt_snoc, flat_get (n := n) (fun x _ => by simp) (ih r hr) hs, List.getElem?_map, List.getElem?_range hs]; rfl
theorem num_lt {ns j : List Nat} (h : JOk ns j) : num ns j < (jnt ns).length := (List.getElem?_eq_some_iff.mp (jnt_num ns j h)).1
theorem jnt_at {ns j : List Nat} (h : JOk ns j) : (jnt ns)[num ns j]'(num_lt h) = j := (List.getElem?_eq_some_iff.mp (jnt_num ns j h)).2
theorem idx_num {ns j : List Nat} (h : JOk ns j) : (jnt ns).idxOf j = num ns j := by
  have := (jnt_nodup ns).idxOf_getElem _ (num_lt h)
  rw [jnt_at h] at this; exact this
theorem num_of {ns j : List Nat} {k : Nat} (h : (jnt ns)[k]? = some j) : num ns j = k := by
  obtain ⟨hi, e⟩ := List.getElem?_eq_some_iff.mp h
  have := (jnt_nodup ns).idxOf_getElem _ hi
  rw [e, idx_num ((mem_jnt ns j).mp (List.mem_of_getElem? h))] at this
  exact this
theorem num_mono (ns : List Nat) : ∀ (j : List Nat) (i n t u : Nat), JOk ns j → ns[i]? = some n → t < u → u < n → num ns (j.set i t) < num ns (j.set i u) := by
  refine rev_ind (P := fun ns => ∀ (j : List Nat) (i n t u : Nat), JOk ns j → ns[i]? = some n → t < u → u < n → num ns (j.set i t) < num ns (j.set i u)) ?_ (fun ns m ih => ?_) ns
  · intro j i n t u _ h; simp at h
  · intro j i n t u hj hn htu hun
    obtain ⟨r, s, rfl, hr, hs⟩ := jOk_snoc.mp hj
    by_cases hi : i < ns.length
    · rw [List.getElem?_append_left hi] at hn
      have hir : i < r.length := by rw [hr.len]; exact hi
      rw [List.set_append_left _ _ hir, List.set_append_left _ _ hir, num_snoc (by rw [List.length_set]; exact hr.len), num_snoc (by rw [List.length_set]; exact hr.len)]
      have h := ih r i n t u hr hn htu hun
      have h2 : (num ns (r.set i t) + 1) * m ≤ num ns (r.set i u) * m := Nat.mul_le_mul_right _ h
      rw [Nat.succ_mul] at h2
      omega
    · have hi2 := (List.getElem?_eq_some_iff.mp hn).1
      rw [List.length_append, List.length_singleton] at hi2
      have e : i = r.length := by rw [hr.len]; omega
      subst e
      rw [List.set_append_right _ _ (Nat.le_refl _), List.set_append_right _ _ (Nat.le_refl _), Nat.sub_self]
      show num (ns ++ [m]) (r ++ [t]) < num (ns ++ [m]) (r ++ [u])
      rw [num_snoc hr.len, num_snoc hr.len]
      omega
def jrwA (ps : List Plc) (j : List Nat) (i : Nat) : Rat := match ps[i]? with
  | some p => rwA p.rs (j[i]?.getD 0)
  | none => 0
def jrow (ps : List Plc) (j : List Nat) (i : Nat) : List (Nat × Rat) := match ps[i]? with
  | some p => (rowA p.rows (j[i]?.getD 0)).map fun w => (num (nst ps) (j.set i w.1), w.2)
  | none => []
theorem jrow_eq {ps : List Plc} {j : List Nat} {i s : Nat} {p : Plc} (h : ps[i]? = some p) (hs : j[i]? = some s) : jrwA ps j i = rwA p.rs s ∧ jrow ps j i = (rowA p.rows s).map fun w => (num (nst ps) (j.set i w.1), w.2) := by
  unfold jrwA jrow; rw [h, hs]; exact ⟨rfl, rfl⟩
structure GmsOk (ps : List Plc) : Prop where
  g : ∀ p ∈ ps, GameSz p.rs p.rows p.n
  n5 : ∀ p ∈ ps, p.n ≤ 5
  l5 : ps.length ≤ 6
  ne : ps ≠ []
theorem rowsA_mem {rows : List (List (Nat × Rat))} {x : Nat} (h : x < rows.length) : rowA rows x ∈ rows := by
  unfold rowA
  rw [List.getElem?_eq_getElem h]
  exact List.getElem_mem h
theorem rwsA_mem {rs : List Rat} {x : Nat} (h : x < rs.length) : rwA rs x ∈ rs := by
  unfold rwA
  rw [List.getElem?_eq_getElem h]
  exact List.getElem_mem h
theorem jg_sz {ps : List Plc} (hg : GmsOk ps) (hS : ∀ p ∈ ps, Smr p.rs) {ch : List Nat → Nat} (hc : ∀ j, JOk (nst ps) j → ch j < ps.length) (hN : (jnt (nst ps)).length ≠ 0) :
    GameSz ((jnt (nst ps)).map fun j => jrwA ps j (ch j)) ((jnt (nst ps)).map fun j => jrow ps j (ch j)) (jnt (nst ps)).length := by
  have hz : (jnt (nst ps)).length ≤ 15625 := by
    have := nst_small hg.n5 hg.l5 ps.length
    rwa [List.take_length] at this
  have part : ∀ j ∈ jnt (nst ps), ∃ p s, p ∈ ps ∧ ps[ch j]? = some p ∧ j[ch j]? = some s ∧ s < p.n ∧ rowA p.rows s ∈ p.rows ∧ rwA p.rs s ∈ p.rs ∧ JOk (nst ps) j := fun j hj => by
    have hj := (mem_jnt _ j).mp hj
    have hp := List.getElem?_eq_getElem (hc j hj)
    obtain ⟨s, hs, hlt⟩ := hj.at (nst_get hp)
    have g := hg.g _ (List.getElem_mem (hc j hj))
    exact ⟨_, s, List.getElem_mem (hc j hj), hp, hs, hlt, rowsA_mem (by rw [g.ok.l2]; exact hlt), rwsA_mem (by rw [g.ok.l1]; exact hlt), hj⟩
  have rows : ∀ r ∈ (jnt (nst ps)).map (fun j => jrow ps j (ch j)), ∃ (p : Plc) (j : List Nat) (s : Nat), p ∈ ps ∧ ps[ch j]? = some p ∧ s < p.n ∧ JOk (nst ps) j ∧ rowA p.rows s ∈ p.rows ∧ r = (rowA p.rows s).map fun w => (num (nst ps) (j.set (ch j) w.1), w.2) := fun r hr => by
    obtain ⟨j, hj, rfl⟩ := List.mem_map.mp hr
    obtain ⟨p, s, h1, h2, h3, h4, h5, h6, h7⟩ := part j hj
    exact ⟨p, j, s, h1, h2, h4, h7, h5, (jrow_eq h2 h3).2⟩
  refine ⟨⟨by simp, by simp, hN, by omega, fun r hr => ?_, fun r hr => ?_, fun r hr => ?_⟩, fun q hq => ?_, fun r hr => ?_, fun r hr => ?_, fun r hr => ?_⟩
  · obtain ⟨p, j, s, h1, h2, h4, h7, h5, rfl⟩ := rows r hr
    have ok := (hg.g p h1).ok.ok _ h5
    have e2 : ((rowA p.rows s).map fun w => (num (nst ps) (j.set (ch j) w.1), w.2)).map (·.2) = (rowA p.rows s).map (·.2) := by rw [List.map_map]; rfl
    refine ⟨fun w hw => ?_, fun w hw => ?_, by rw [e2]; exact ok.one, by rw [e2]; exact ok.sz⟩
    · obtain ⟨w', hw', rfl⟩ := List.mem_map.mp hw
      exact num_lt (h7.set (nst_get h2) (ok.lt w' hw'))
    · obtain ⟨w', hw', rfl⟩ := List.mem_map.mp hw
      exact ok.nn w' hw'
  · obtain ⟨p, j, s, h1, h2, h4, h7, h5, rfl⟩ := rows r hr
    have ca := (hg.g p h1).ok.ca _ h5
    have ok := (hg.g p h1).ok.ok _ h5
    refine ⟨?_, fun w hw => ?_⟩
    · rw [List.map_map, List.pairwise_map]
      have h := ca.asc
      rw [List.pairwise_map] at h
      refine List.Pairwise.imp_of_mem ?_ h
      intro a c ha hc hac
      exact num_mono (nst ps) j (ch j) p.n a.1 c.1 h7 (nst_get h2) hac (ok.lt c hc)
    · obtain ⟨w', hw', rfl⟩ := List.mem_map.mp hw
      exact ca.ne w' hw'
  · obtain ⟨p, j, s, h1, h2, h4, h7, h5, rfl⟩ := rows r hr
    rw [List.length_map]; exact (hg.g p h1).ok.sh _ h5
  · obtain ⟨j, hj, rfl⟩ := List.mem_map.mp hq
    obtain ⟨p, s, h1, h2, h3, h4, h5, h6, h7⟩ := part j hj
    rw [(jrow_eq h2 h3).1]
    exact .inl (hS p h1 _ h6)
  · obtain ⟨p, j, s, h1, h2, h4, h7, h5, rfl⟩ := rows r hr
    rw [List.length_map]; exact (hg.g p h1).rl _ h5
  · obtain ⟨p, j, s, h1, h2, h4, h7, h5, rfl⟩ := rows r hr
    intro w hw
    obtain ⟨w', hw', rfl⟩ := List.mem_map.mp hw
    exact (hg.g p h1).rp _ h5 w' hw'
  · obtain ⟨p, j, s, h1, h2, h4, h7, h5, rfl⟩ := rows r hr
    obtain ⟨W, w0, w1, hW⟩ := (hg.g p h1).rd _ h5
    refine ⟨W, w0, w1, fun w hw => ?_⟩
    obtain ⟨w', hw', rfl⟩ := List.mem_map.mp hw
    exact hW w' hw'
theorem lookT_notin : ∀ {ks : List (List Key)} {ds : List D} {k : List Key}, k ∉ ks → lookT ks ds k = none
  | [], ds, k, _ => by cases ds <;> rfl
  | a :: ks, [], k, _ => rfl
  | a :: ks, d :: ds, k, h => by
    show (if a = k then some d else lookT ks ds k) = none
    rw [if_neg (fun e => h (by rw [e]; simp))]
    exact lookT_notin fun z => h (List.mem_cons_of_mem _ z)
end Q
set_option Elab.async false
set_option linter.all false
set_option maxRecDepth 100000
set_option maxHeartbeats 1000000
namespace Q
open PySem L2
end Q
set_option Elab.async false
set_option linter.all false
set_option maxRecDepth 100000
set_option maxHeartbeats 1000000
namespace Q
open PySem L2
def mTupKs (ma : EM (List O)) : EM O := fun env => (ma env).bind fun p => (D.keys (O.frzs p.1)).bind fun ks => if p.1.length ≤ sizeLine then some (.fz (.kt ks), p.2) else none
@[simp] theorem e_mTupKs {ma : EM (List O)} {env : En} : mTupKs ma env = (ma env).bind fun p => (D.keys (O.frzs p.1)).bind fun ks => if p.1.length ≤ sizeLine then some (.fz (.kt ks), p.2) else none := rfl
theorem qe_tupKs {X : Cx} {es : List Expr} {pos : PySem.Pos} {x1} {ma : EM (List O)} (h : QA X es ma) : QE X (.Tuple es x1 pos) (mTupKs ma) := by
  obtain ⟨t, h1, h2⟩ := h
  refine ⟨tTup t, pe_tup h1, fun H0 B0 ln Γ B H σ env s o env' em Q q => ?_⟩
  obtain ⟨p, em1, em⟩ := bind_some em
  obtain ⟨ks, em2, em⟩ := bind_some em
  by_cases hz : p.1.length ≤ sizeLine
  · rw [if_pos hz] at em
    cases em
    refine h2 H0 B0 ln Γ B H σ env s _ _ em1 _ fun vs B1 H1 e1 e2 hl s1 => ⟨hl ▸ hz, fun a ha => ?_⟩
    obtain ⟨B2, e3, r, s2⟩ := Stt.frzs hl s1
    have hk := keys_ok r em2
    subst hk
    obtain ⟨e4, e5, s3⟩ := s2.newKt ks ha
    exact q _ _ _ ((e1.trans e3).trans e4) (e2.trans e5) s3
  · rw [if_neg hz] at em; cases em
@[simp] theorem e_keys2 {a b : Int} : D.keys [.int a, .int b] = some [.inl a, .inl b] := by
  rw [D.keys, D.keys, D.keys]; rfl
end Q
set_option Elab.async false
set_option linter.all false
set_option maxRecDepth 100000
set_option maxHeartbeats 1000000
namespace Q
open PySem L2
theorem JOk.append {ns j ms k : List Nat} (h : JOk ns j) (h' : JOk ms k) : JOk (ns ++ ms) (j ++ k) := by
  refine ⟨by rw [List.length_append, List.length_append, h.len, h'.len], fun i x n hx hn => ?_⟩
  by_cases hi : i < ns.length
  · rw [List.getElem?_append_left hi] at hn
    rw [List.getElem?_append_left (by rw [h.len]; exact hi)] at hx
    exact h.lt i x n hx hn
  · rw [List.getElem?_append_right (by omega)] at hn
    rw [List.getElem?_append_right (by rw [h.len]; omega), h.len] at hx
    exact h'.lt _ x n hx hn
end Q
set_option Elab.async false
set_option linter.all false
set_option maxRecDepth 100000
set_option maxHeartbeats 1000000
namespace Q
open PySem L2
end Q
set_option Elab.async false
set_option linter.all false
set_option maxRecDepth 100000
set_option maxHeartbeats 1000000
namespace Q
open PySem L2 PyProof.Rows
end Q
set_option Elab.async false
set_option linter.all false
set_option maxRecDepth 100000
set_option maxHeartbeats 1000000
namespace PySem.W
open PySem PySem.Spec PySem.Calls PyProof.Rows
end PySem.W
namespace Q
open PySem L2 L2H PyProof.Rows
end Q
set_option Elab.async false
set_option linter.all false
set_option maxRecDepth 100000
set_option maxHeartbeats 1000000
namespace Q
open PySem L2 L2H PyProof.Rows
def sRaiseP (x fld : Str) (m : EM O) : SMX := fun env => (m env).bind fun p => some (.ex x (some (fld, p.1.frz)) p.2)
@[simp] theorem e_sRaiseP {x fld : Str} {m : EM O} {env : En} : sRaiseP x fld m env = (m env).bind fun p => some (.ex x (some (fld, p.1.frz)) p.2) := rfl
end Q
set_option Elab.async false
set_option linter.all false
set_option maxRecDepth 100000
set_option maxHeartbeats 1000000
namespace Q
open PySem L2 L2H PyProof.Rows
end Q
set_option Elab.async false
set_option linter.all false
set_option maxRecDepth 100000
set_option maxHeartbeats 1000000
namespace Q
open PySem L2 L2H PyProof.Rows
/-- a def with keywords that is never left: the foot of a recursion -/
theorem DefOkK.zero {P : Program} {w : World} {K : PySem.W.Frag} {mg : Str → Option Value} {base : Heap} {x qual : Str} {as : Arguments} {bd : List Stmt} {sc : Scope} {pv : List V} {kv : List (Str × V)} {f : Addr} {fd : FuncData} {ps : List Str} {k n : Nat} {Sh : FuncData → List Str → Prop} (F : FunD K x qual as bd sc pv kv f fd) (hm : mg x = some (.ref f)) (hs : Sh fd ps) :
    DefOkK P w K mg base k x n (fun _ => none) Sh := by
  refine ⟨fun _ _ h => (by cases h), f, fd, ps, ⟨?_, ?_⟩, hm, F.kp, hs⟩
  · rintro vs H Q E ⟨_, _, _, _, _, _, h, _⟩
    cases h
  · rintro A outer s H args us vs Q E _ _ _ _ ⟨_, _, _, _, _, _, h, _⟩
    cases h
def mAdrZ (a : Addr) (i : Nat) (z : Int) : EM O := fun env => match env[i]? with
  | some (.adr a') => if a' = a then some (.fz (.int z), env) else none
  | _ => none
@[simp] theorem e_mAdrZ {a : Addr} {i : Nat} {z : Int} {env : En} : mAdrZ a i z env = match env[i]? with
  | some (.adr a') => if a' = a then some (.fz (.int z), env) else none
  | _ => none := rfl
end Q
set_option Elab.async false
set_option linter.all false
set_option maxRecDepth 100000
set_option maxHeartbeats 1000000
namespace Q
open PySem L2 PyProof.Rows
def PostI (K : PySem.W.Frag) (H0 B0 : Hp) (ln : Nat → Option V) (Γ : List (O × V)) (B : Hp) (i : Nat) (w : Option (Option V)) (E : Ends) : Out → Prop
  | .nx e => ∀ B' H' σ', Ex B B' → Stt K H0 B0 ln Γ B' H' σ' e → σ'[i]? = w → E.nx σ' H'
  | .bk e => ∀ B' H' σ', Ex B B' → Stt K H0 B0 ln Γ B' H' σ' e → σ'[i]? = w → E.bk σ' H'
  | .ct e => ∀ B' H' σ', Ex B B' → Stt K H0 B0 ln Γ B' H' σ' e → σ'[i]? = w → E.ct σ' H'
  | .rt d => ∀ v B' H', Ex B B' → Wd H0 B0 B' H' → Rp K B' d v → E.rt v H'
theorem PostI.up {K : PySem.W.Frag} {H0 B0 : Hp} {ln : Nat → Option V} {Γ : List (O × V)} {B B1 : Hp} {i : Nat} {w : Option (Option V)} {E : Ends} {out : Out} (h : PostI K H0 B0 ln Γ B i w E out) (e : Ex B B1) : PostI K H0 B0 ln Γ B1 i w E out := by
  cases out with
  | nx _ => exact fun B' H' σ' e' s' => h B' H' σ' (e.trans e') s'
  | bk _ => exact fun B' H' σ' e' s' => h B' H' σ' (e.trans e') s'
  | ct _ => exact fun B' H' σ' e' s' => h B' H' σ' (e.trans e') s'
  | rt _ => exact fun v B' H' e' => h v B' H' (e.trans e')
def SSI (K : PySem.W.Frag) (i : Nat) (t : TS) (m : SM) : Prop :=
  ∀ (H0 B0 : Hp) (ln : Nat → Option V) (Γ : List (O × V)) (B H : Hp) (σ : L2.St) (env : En), Stt K H0 B0 ln Γ B H σ env → ∀ out, m env = some out → ∀ E : Ends, PostI K H0 B0 ln Γ B i σ[i]? E out → t E σ H
/-- the block always returns; what it returns is owned -/
abbrev RM := En → Option (O × En)
def rRet (m : EM O) : RM := m
def rIf (n : EM Bool) (a b : RM) : RM := fun env => (n env).bind fun p => if p.1 = true then a p.2 else b p.2
def rSeq (a : SM) (b : RM) : RM := fun env => (a env).bind fun out => match out with
  | .nx e => b e
  | _ => none
@[simp] theorem e_rRet {m : EM O} {env : En} : rRet m env = m env := rfl
@[simp] theorem e_rIf {n : EM Bool} {a b : RM} {env : En} : rIf n a b env = (n env).bind fun p => if p.1 = true then a p.2 else b p.2 := rfl
@[simp] theorem e_rSeq {a : SM} {b : RM} {env : En} : rSeq a b env = (a env).bind fun out => match out with
  | .nx e => b e
  | _ => none := rfl
section
variable {X : Cx} {st : Stmt} {rest : List Stmt} {a b : SM} {e c : Expr} {m : EM O} {n : EM Bool} {pos : PySem.Pos} {i : Nat}
/-- xs.append(e), where e may change the frame's own -/
theorem qs_appendW0 {x : Str} {p0 p1 cpos : PySem.Pos} {j : Nat} (hN : X.N[j]? = some x) (he : QEw X e m) (hv : L2.Vis X.env.scope x := by first | exact Or.inl rfl | exact Or.inr (Or.inl rfl) | exact Or.inr (Or.inr rfl)) (hd : (x == ("__debug__" : Str)) = false := by decide)
    (hcd : (x == ("__classdict__" : Str)) = false := by decide)
    (hbase : attributeBase (.Name x p0) "append" X.env (eval (.Name x p0) X.env) = eval (.Name x p0) X.env := by rfl)
    (hfew : ((backTo cpos (starEach [e] X.env)).all (fun x => !x.1) && (backToKw cpos (keywordEach [] X.env)).all (fun x => x.1.isSome) && decide ([e].length + ([] : List Keyword).length + (if ([] : List Keyword).isEmpty then 0 else 1) < 30)) = true := by rfl)
    (hline : (p1.endLine == cpos.line) = true := by rfl) (hst : starEach [e] X.env = (false, eval e X.env) :: starEach [] X.env := by rfl) (hplain : (backTo cpos (starEach [] X.env)).any (·.1) = false := by rfl)
    (hs : swapsWith (.Call (.Attribute (.Name x p0) "append" p1) [e] [] cpos) none pos.line X.env = pure false := by rfl) (i : Nat) :
    ∃ t, PS X (.Expr (.Call (.Attribute (.Name x p0) "append" p1) [e] [] cpos) pos) t ∧ SS X.K t (sApp j m) ∧ SSI X.K i t (sApp j m) := by
  obtain ⟨t, h1, h2⟩ := he
  refine ⟨_, ps_expr (pe_bm PySem.F.plainAttrs_list PySem.F.slot_list_append PySem.F.type_list_append mt_append (pe_var hN hv hd hcd) (pa_cons h1 pa_nil hst) hbase hfew hline hst hplain) hs, fun H0 B0 ln Γ B H σ env s out em E q => ?_, fun H0 B0 ln Γ B H σ env s out em E q => ?_⟩
  all_goals
    obtain ⟨os0, l0, em⟩ := bind_some em
    obtain ⟨p, em1, em⟩ := bind_some em
    obtain ⟨os, l1, em⟩ := bind_some em
    split at em
    · rename_i hz
      cases em
      obtain ⟨v, hv0, w⟩ := s.slot (lsAt_ok l0)
      obtain ⟨a0, vs0, rfl, g0, _⟩ := asO_ok w
      refine ⟨_, hv0, .inl ⟨rfl, vs0, SqL.of g0⟩, h2 H0 B0 ln Γ B H σ env s _ _ em1 _ fun u B1 H1 e1 s1 => ?_⟩
      obtain ⟨a, us, hv1, g1, g2, g3⟩ := Stt.mutSlot (T := [(p.1, u)]) s1 (lsAt_ok l1)
      rw [hv0] at hv1
      cases hv1
      refine ⟨a0, us, u, rfl, rfl, g1, by rw [← g2]; exact hz, ?_⟩
      have st := g3 (os ++ [p.1]) (us ++ [u]) [] (by simp [g2]) (by rw [zip_append' g2]; simp)
      first
        | exact q B1 _ σ e1 st
        | exact q B1 _ σ e1 st rfl
    · cases em
theorem qs_appendW {x : Str} {p0 p1 cpos : PySem.Pos} {j : Nat} (hN : X.N[j]? = some x) (he : QEw X e m) (hv : L2.Vis X.env.scope x := by first | exact Or.inl rfl | exact Or.inr (Or.inl rfl) | exact Or.inr (Or.inr rfl)) (hd : (x == ("__debug__" : Str)) = false := by decide)
    (hcd : (x == ("__classdict__" : Str)) = false := by decide)
    (hbase : attributeBase (.Name x p0) "append" X.env (eval (.Name x p0) X.env) = eval (.Name x p0) X.env := by rfl)
    (hfew : ((backTo cpos (starEach [e] X.env)).all (fun x => !x.1) && (backToKw cpos (keywordEach [] X.env)).all (fun x => x.1.isSome) && decide ([e].length + ([] : List Keyword).length + (if ([] : List Keyword).isEmpty then 0 else 1) < 30)) = true := by rfl)
    (hline : (p1.endLine == cpos.line) = true := by rfl) (hst : starEach [e] X.env = (false, eval e X.env) :: starEach [] X.env := by rfl) (hplain : (backTo cpos (starEach [] X.env)).any (·.1) = false := by rfl)
    (hs : swapsWith (.Call (.Attribute (.Name x p0) "append" p1) [e] [] cpos) none pos.line X.env = pure false := by rfl) :
    QS X (.Expr (.Call (.Attribute (.Name x p0) "append" p1) [e] [] cpos) pos) (sApp j m) := by
  obtain ⟨t, h1, h2, _⟩ := qs_appendW0 hN he hv hd hcd hbase hfew hline hst hplain hs 0
  exact ⟨t, h1, h2⟩
end
end Q
set_option Elab.async false
set_option linter.all false
set_option maxRecDepth 100000
set_option maxHeartbeats 1000000
namespace Q
open PySem L2 PyProof.Rows
def spR (K : PySem.W.Frag) (n : Nat) (mf : List D → Option O) : Sp := fun vs H Q _ => ∃ B ds o, Ex B H ∧ Rps K B ds vs ∧ ds.length = n ∧ mf ds = some o ∧ ∀ v B' H', Wd H B B' H' → Own K H B' H' [] [(o, v)] → Q v H'
structure DefOkR (P : Program) (w : World) (K : PySem.W.Frag) (mg : Str → Option Value) (base : Heap) (k : Nat) (x : Str) (n : Nat) (mf : List D → Option O) : Prop where
  len : ∀ ds d, mf ds = some d → ds.length = n
  ex : ∃ (f : Addr) (fd : FuncData) (ps : List Str), FnOk P w K mg base CX0 k f fd ps (spR K n mf) ∧ mg x = some (.ref f) ∧ PySem.W.keepIn K (.ref f) = true ∧ Binds K fd ps []
/-- its result, frozen -/
theorem DefOkR.frz {P : Program} {w : World} {K : PySem.W.Frag} {mg : Str → Option Value} {base : Heap} {k n : Nat} {x : Str} {mf : List D → Option O} {mf' : List D → Option D} (G : DefOkR P w K mg base k x n mf) (h : ∀ ds d, mf' ds = some d → ∃ o, mf ds = some o ∧ o.frz = d) : DefOk P w K mg base k x n mf' := by
  obtain ⟨f, fd, ps, F, hm, hk, hb⟩ := G.ex
  refine ⟨fun ds d e => by obtain ⟨o, h1, _⟩ := h ds d e; exact G.len ds o h1, f, fd, ps, F.imp fun vs H Q E ⟨B, ds, d, e, r, hn, em, q⟩ => ?_, hm, hk, hb⟩
  obtain ⟨o, h1, rfl⟩ := h ds d em
  refine ⟨B, ds, o, e, r, hn, h1, fun v B' H' w ow => ?_⟩
  have s : Stt K H B (fun _ => none) [(o, v)] B' H' [] [] := ⟨w, ⟨rfl, fun i o e => by simp at e, fun i e => by simp at e, fun i a e => by simp at e⟩, ow⟩
  obtain ⟨B2, e2, s2⟩ := s.frz
  exact q v B2 H' s2.w s2.rp
section
variable {X : Cx} {k n : Nat} {x : Str} {mf : List D → Option O} {e : Expr} {es : List Expr} {mA : EM (List O)} {p pos : PySem.Pos}
def mCallR (f : List D → Option O) (a : EM (List O)) : EM O := fun env => (a env).bind fun p => (f (O.frzs p.1)).map fun o => (o, p.2)
@[simp] theorem e_mCallR {f : List D → Option O} {a : EM (List O)} {env : En} : mCallR f a env = (a env).bind fun p => (f (O.frzs p.1)).map fun o => (o, p.2) := rfl
end
def spB (K : PySem.W.Frag) (n : Nat) (mf : D → List O → List D → Option (O × List O)) : Sp := fun vs H Q _ => ∃ H0 B d0 os ds o os' v0 a vs', vs = v0 :: a :: vs' ∧ Wd H0 B B H ∧ Rp K B d0 v0 ∧ Rps K B ds vs' ∧ Own K H0 B H [] [(.ls os, a)] ∧ ds.length + 2 = n ∧ mf d0 os ds = some (o, os') ∧
  ∀ v B' H', Wd H0 B B' H' → Own K H0 B' H' [] [(o, v), (.ls os', a)] → Q v H'
structure DefOkB (P : Program) (w : World) (K : PySem.W.Frag) (mg : Str → Option Value) (base : Heap) (k : Nat) (x : Str) (n : Nat) (mf : D → List O → List D → Option (O × List O)) : Prop where
  len : ∀ d os ds r, mf d os ds = some r → ds.length + 2 = n
  ex : ∃ (f : Addr) (fd : FuncData) (ps : List Str), FnOk P w K mg base CX0 k f fd ps (spB K n mf) ∧ mg x = some (.ref f) ∧ PySem.W.keepIn K (.ref f) = true ∧ Binds K fd ps []
def mCallB (f : D → List O → List D → Option (O × List O)) (i : Nat) (m0 : EM O) (mr : EM (List O)) : EM O := fun env => (m0 env).bind fun p0 => (lsAt i p0.2).bind fun os => (mr (p0.2.set i .lent)).bind fun pr => if lentAt i pr.2 = true then (f p0.1.frz os (O.frzs pr.1)).bind fun r => some (r.1, pr.2.set i (.has (.ls r.2))) else none
@[simp] theorem e_mCallB {f : D → List O → List D → Option (O × List O)} {i : Nat} {m0 : EM O} {mr : EM (List O)} {env : En} : mCallB f i m0 mr env = (m0 env).bind fun p0 => (lsAt i p0.2).bind fun os => (mr (p0.2.set i .lent)).bind fun pr => if lentAt i pr.2 = true then (f p0.1.frz os (O.frzs pr.1)).bind fun r => some (r.1, pr.2.set i (.has (.ls r.2))) else none := rfl
section
variable {X : Cx} {k n i : Nat} {x y : Str} {mf : D → List O → List D → Option (O × List O)} {e : Expr} {es : List Expr} {m0 : EM O} {mr : EM (List O)} {p py pos : PySem.Pos}
theorem DefOkB.zero {P : Program} {w : World} {K : PySem.W.Frag} {mg : Str → Option Value} {base : Heap} {x qual : Str} {st : Stmt} {f : Addr} {fd : FuncData} {ps : List Str} {k n : Nat} (F : Fun K x qual st f fd) (hm : mg x = some (.ref f)) (hb : Binds K fd ps []) :
    DefOkB P w K mg base k x n (fun _ _ _ => none) := by
  refine ⟨fun _ _ _ _ h => (by cases h), f, fd, ps, ⟨?_, ?_⟩, hm, F.kp, hb⟩
  · rintro vs H Q E ⟨_, _, _, _, _, _, _, _, _, _, _, _, _, _, _, _, h, _⟩
    cases h
  · rintro A outer s H args us vs Q E _ _ _ _ ⟨_, _, _, _, _, _, _, _, _, _, _, _, _, _, _, _, h, _⟩
    cases h
end
end Q
set_option Elab.async false
set_option linter.all false
set_option maxRecDepth 100000
set_option maxHeartbeats 1000000
namespace Q
open PySem L2 PyProof.Rows
def sExtL (i : Nat) (m : EM O) : SM := fun env => (lsAt i env).bind fun _ => (m env).bind fun p => (lsAt i p.2).bind fun os => match p.1 with
  | .fz (.lst ds) => if os.length + ds.length ≤ sizeLine then some (.nx (p.2.set i (.has (.ls (os ++ ds.map .fz))))) else none
  | _ => none
section
variable {X : Cx} {e : Expr} {m : EM O} {x : Str} {p0 p1 cpos pos : PySem.Pos} {i : Nat}
@[simp] theorem e_sExtL {i : Nat} {m : EM O} {env : En} : sExtL i m env = (lsAt i env).bind fun _ => (m env).bind fun p => (lsAt i p.2).bind fun os => match p.1 with
  | .fz (.lst ds) => if os.length + ds.length ≤ sizeLine then some (.nx (p.2.set i (.has (.ls (os ++ ds.map .fz))))) else none
  | _ => none := rfl
end
end Q
set_option Elab.async false
set_option linter.all false
set_option maxRecDepth 100000
set_option maxHeartbeats 1000000
namespace Q
open PySem L2 PyProof.Rows
def oMulF : O → O → Option O
  | .fz (.lst xs), .fz (.int k) => if -9223372036854775808 ≤ k ∧ k < 9223372036854775808 ∧ xs.length * k.toNat ≤ sizeLine then some (.ls ((List.replicate k.toNat xs).flatten.map .fz)) else none
  | _, _ => none
@[simp] theorem e_mulF {xs : List D} {k : Int} : oMulF (.fz (.lst xs)) (.fz (.int k)) = if -9223372036854775808 ≤ k ∧ k < 9223372036854775808 ∧ xs.length * k.toNat ≤ sizeLine then some (.ls ((List.replicate k.toNat xs).flatten.map .fz)) else none := rfl
end Q
set_option Elab.async false
set_option linter.all false
set_option maxRecDepth 100000
set_option maxHeartbeats 1000000
namespace Q
open PySem L2 PyProof.Rows
def sSetAt (i : Nat) (m mi mj : EM O) : SM := fun env => (m env).bind fun p => (lsAt i p.2).bind fun _ => (mi p.2).bind fun q => match q.1 with
  | .fz (.int k) => (lsAt i q.2).bind fun os1 => (ixN os1.length k).bind fun j => (inL os1 j).bind fun us1 => (mj q.2).bind fun r => (lsAt i r.2).bind fun os => (inL os j).bind fun us => match r.1 with
    | .fz (.int k2) => (ixN us.length k2).bind fun j2 => some (.nx (r.2.set i (.has (.ls (os.set j (.ls (us.set j2 p.1)))))))
    | _ => none
  | _ => none
section
variable {X : Cx} {e e' e2 : Expr} {m mi mj : EM O} {x : Str} {p0 p1 p2 pos : PySem.Pos} {i : Nat}
theorem qs_setAt (hN : X.N[i]? = some x) (he : QE X e m) (hi : QV X e' mi) (hj : QV X e2 mj) (hv : L2.Vis X.env.scope x := by first | exact Or.inl rfl | exact Or.inr (Or.inl rfl) | exact Or.inr (Or.inr rfl)) (hd : (x == ("__debug__" : Str)) = false := by decide)
    (hcd : (x == ("__classdict__" : Str)) = false := by decide) (hix : PlainIx e' := by exact fun _ _ => rfl)
    (ha : ∀ v, assign (.Subscript (.Subscript (.Name x p0) e' p2) e2 p1) X.env v = (do
      let ov ← holding [v] (eval (.Subscript (.Name x p0) e' p2) X.env)
      let iv ← holding [v, ov] (eval e2 X.env)
      standAt p1
      holding [v, ov, iv] (setItem ov iv v)
      release [v, ov, iv] []) := by intro _; rfl)
    (hs : swapsWithSole [.Subscript (.Subscript (.Name x p0) e' p2) e2 p1] e pos.line X.env = pure false := by rfl) (hw : swappedStores [.Subscript (.Subscript (.Name x p0) e' p2) e2 p1] e X.env = pure none := by rfl)
    (h1 : (assignEach [.Subscript (.Subscript (.Name x p0) e' p2) e2 p1] X.env).map (·.2) = [assign (.Subscript (.Subscript (.Name x p0) e' p2) e2 p1) X.env] := by rfl) : QS X (.Assign [.Subscript (.Subscript (.Name x p0) e' p2) e2 p1] e pos) (sSetAt i m mi mj) := by
  obtain ⟨t, t1, t2⟩ := he
  obtain ⟨u, u1, u2⟩ := hi
  obtain ⟨w, w1, w2⟩ := hj
  refine ⟨_, ps_asg t1 (pg_sub (pe_ix ix_list (pe_var hN hv hd hcd) u1 hix) w1 set_list ha) hs hw h1, fun H0 B0 ln Γ B H σ env s out em E q => ?_⟩
  obtain ⟨p, em1, em⟩ := bind_some em
  obtain ⟨os0, l0, em⟩ := bind_some em
  obtain ⟨r, em2, em⟩ := bind_some em
  obtain ⟨o2, env2⟩ := r
  cases o2 with
  | fz d =>
    cases d with
    | int k =>
      obtain ⟨os1, l1, em⟩ := bind_some (show (lsAt i env2).bind _ = some out from em)
      obtain ⟨j, hj, em⟩ := bind_some em
      obtain ⟨us1, hin1, em⟩ := bind_some em
      obtain ⟨r2, em3, em⟩ := bind_some em
      obtain ⟨os, l2, em⟩ := bind_some em
      obtain ⟨us, hin, em⟩ := bind_some em
      obtain ⟨o3, env3⟩ := r2
      cases o3 with
      | fz d2 =>
        cases d2 with
        | int k2 =>
          obtain ⟨j2, hj2, em⟩ := bind_some (show (ixN us.length k2).bind _ = some out from em)
          cases em
          refine t2 H0 B0 ln Γ B H σ env s _ _ em1 _ fun y B1 H1 e1 e2 s1 => ?_
          obtain ⟨v, hv0, w⟩ := s1.slot (lsAt_ok l0)
          obtain ⟨a0, vs0, rfl, g0, _⟩ := asO_ok w
          refine ⟨_, hv0, u2 H0 B0 ln _ B1 H1 σ _ s1 _ _ em2 _ fun z B2 H2 e3 e4 s2 ww2 => ?_⟩
          have := vw_int ww2
          subst this
          obtain ⟨v1, hv1, w11⟩ := s2.slot (lsAt_ok l1)
          rw [hv0] at hv1
          cases hv1
          obtain ⟨a1, vs1, e01, g1, r1⟩ := asO_ok w11
          cases e01
          obtain ⟨yb, y1, y2⟩ := r1.get (inL_ok hin1)
          rw [Vw] at y2
          obtain ⟨b, ws1, rfl, gb, _⟩ := y2
          have hlen := r1.len
          refine ⟨a0, vs1, k, .ref b, rfl, rfl, SqL.of g1, atI_len (hlen.symm) hj y1, w2 H0 B0 ln _ B2 H2 σ _ s2 _ _ em3 _ fun z3 B3 H3 e5 e6 s3 ww3 => ?_⟩
          have := vw_int ww3
          subst this
          obtain ⟨a2, us2, b2, ws2, k1, k2', k3, k4, k5, k6⟩ := Stt.mutSub (T := [(p.1, y)]) s3 (lsAt_ok l2) (inL_ok hin)
          rw [hv0] at k1
          cases k1
          have ka := e6 _ _ g1
          rw [ka] at k2'
          cases k2'
          rw [y1] at k3
          cases k3
          have hjl : j2 < us.length := (ixN_seq hj2).2.1
          obtain ⟨w0, pw⟩ := zip_set (x := p.1) (u := y) k5 hjl
          refine ⟨b, ws2, k2, j2, rfl, rfl, k4, by rw [← k5]; exact hj2, q B3 _ σ ((e1.trans e3).trans e5) ?_⟩
          exact (k6 (us.set j2 p.1) (ws2.set j2 y) [w0] (by simp [k5]) pw).pop (o := w0.1) (v := w0.2)
        | _ => cases em
      | _ => cases em
    | _ => cases em
  | _ => cases em
end
@[simp] theorem e_sSetAt {i : Nat} {m mi mj : EM O} {env : En} : sSetAt i m mi mj env = (m env).bind fun p => (lsAt i p.2).bind fun _ => (mi p.2).bind fun q => match q.1 with
  | .fz (.int k) => (lsAt i q.2).bind fun os1 => (ixN os1.length k).bind fun j => (inL os1 j).bind fun us1 => (mj q.2).bind fun r => (lsAt i r.2).bind fun os => (inL os j).bind fun us => match r.1 with
    | .fz (.int k2) => (ixN us.length k2).bind fun j2 => some (.nx (r.2.set i (.has (.ls (os.set j (.ls (us.set j2 p.1)))))))
    | _ => none
  | _ => none := rfl
section
variable {X : Cx}
theorem room_inT {d : PyData} {ds : List PyData} (sd : SeqAt.shaped d = true) (hu : X.A.units + 65 < cLine) : X.A.units + 1 + min (PyData.depthAll ds) d.depth < cLine := by
  have h : d.depth ≤ 64 := by
    unfold SeqAt.shaped at sd
    rw [Bool.and_eq_true] at sd
    exact of_decide_eq_true sd.2
  have := Nat.min_le_right (PyData.depthAll ds) d.depth
  omega
theorem layT {ds : List PyData} (se : SeqAt.shaped (.tuple ds) = true) : PyData.canLayAll0 ds = true := by
  have := SeqAt.canLay_of_shaped se
  simpa [PyData.canLay0] using this
def rIndexT (K : PySem.W.Frag) : V → List V → Hp → VK → Prop := fun x xs H Q => ∃ (a : Addr) (y : V) (d : PyData) (ds : List PyData) (j : Nat) (z : PyData), x = V.ref a ∧ xs = [y] ∧ Dp K H (V.ref a) (.tuple ds) ∧ Dp K H y d ∧
  SeqAt.shaped (.tuple ds) = true ∧ SeqAt.shaped d = true ∧ ds[j]? = some z ∧ PyData.eqv z d = true ∧ (∀ (m : Nat) (z' : PyData), m < j → ds[m]? = some z' → PyData.eqv z' d = false) ∧ Q (.int (j : Nat)) H
theorem mt_tupIndexD (hu : X.A.units + 65 < cLine) : MtR X "tuple.index" (rIndexT X.K) := by
  intro pins s σ H x xs v us Q I rx rxs h
  obtain ⟨a, y, d, ds, j, z, rfl, rfl, hl, hy, sl, sd, hz, hzj, hno, q⟩ := h
  cases rx
  cases rxs with
  | cons ry rt =>
    rename_i uy ut
    cases rt
    obtain ⟨bs, r1⟩ := Dp.reads I d y uy hy ry
    have hxs : PyData.canLayAll0 ds = true := layT sl
    have hroom : X.A.units + 1 + min (PyData.depthAll ds) d.depth < cLine := room_inT sd hu
    cases hl with
    | tup hs ha =>
      obtain ⟨its, rv, ⟨⟨cls, dd, data, sls⟩, ho, hc, n, hdt⟩, hlen⟩ := I.tuple hs
      simp only at hc hdt
      subst hc hdt
      obtain ⟨as, h4⟩ := Dp.readsAll I ds _ its ha rv
      have hn : its.length = ds.length := SeqAt.ReadsAll.length ds its as h4
      have hmap : its.map (SeqAt.readOf s.heap) = ds := SeqAt.readsAll_map ds its as hxs h4
      have hvl := rv.length
      obtain ⟨hjd, _⟩ := List.getElem?_eq_some_iff.mp hz
      have hjl : j < its.length := by omega
      have hj : j < its.toArray.size := by simpa using hjl
      have at_ : ∀ (m : Nat) (hm : m < its.toArray.size) (z' : PyData), ds[m]? = some z' → SeqAt.readOf s.heap its.toArray[m] = z' := by
        intro m hm z' hz'
        have hml : m < its.length := by simpa using hm
        rw [← hmap, List.getElem?_map, List.getElem?_eq_getElem hml] at hz'
        have e1 : SeqAt.readOf s.heap its[m] = z' := Option.some.inj (show some (SeqAt.readOf s.heap its[m]) = some z' from hz')
        simpa using e1
      refine call_meets PySem.F.slot_tuple_index ⟨_, ho, rfl⟩ PySem.F.entry_tuple_index (PySem.F.args_tuple_index_2 _ _)
        (TI.tuple_indexAt a its.toArray n dd sls uy (fun u => PyData.eqv (SeqAt.readOf s.heap u) d) j hj ?_ ?_) ⟨ho, SeqAt.items_eqAt (vs := its.toArray) (by simpa using h4) r1 hxs (SeqAt.canLay_of_shaped sd) hroom, ?_⟩
      · show PyData.eqv (SeqAt.readOf s.heap its.toArray[j]) d = true
        rw [at_ j hj z hz]
        exact hzj
      · intro m hm hmj
        have hmd : m < ds.length := by omega
        have hz' : ds[m]? = some ds[m] := List.getElem?_eq_getElem hmd
        show PyData.eqv (SeqAt.readOf s.heap its.toArray[m]) d = false
        rw [at_ m hm _ hz']
        exact hno m _ hmj hz'
      · exact ⟨.int (j : Nat), H, I.tok _, ⟨_, rfl⟩, q⟩
def tBMX (r : V → List V → Hp → VK → Prop) (to : TE) (t : TA) : TE := fun σ H Q => to σ H fun x H1 => (∃ a o xs, x = .ref a ∧ H1 a = some (.frz o (.tup xs)) ∧ ExT o) ∧ t σ H1 fun xs H2 => r x xs H2 Q
theorem pe_bmX {o e : Expr} {es : List Expr} {to : TE} {t : TA} {name : Str} {apos cpos : PySem.Pos} {id : String} {r : V → List V → Hp → VK → Prop} (pa : PlainAttrs "tuple") (slot : Slot "tuple" name id) (hty : typeOf (.builtin id) = pure (.type "method_descriptor")) (hm : MtR X id r) (ho : PE X o to) (ha : PA X (e :: es) t)
    (hbase : attributeBase o name X.env (eval o X.env) = eval o X.env := by rfl)
    (hfew : ((backTo cpos (starEach (e :: es) X.env)).all (fun x => !x.1) && (backToKw cpos (keywordEach [] X.env)).all (fun x => x.1.isSome)
      && decide ((e :: es).length + ([] : List Keyword).length + (if ([] : List Keyword).isEmpty then 0 else 1) < 30)) = true := by rfl)
    (hline : (apos.endLine == cpos.line) = true := by rfl) (hs : starEach (e :: es) X.env = (false, eval e X.env) :: starEach es X.env := by rfl) (hplain : (backTo cpos (starEach es X.env)).any (·.1) = false := by rfl) :
    PE X (.Call (.Attribute o name apos) (e :: es) [] cpos) (tBMX r to t) := by
  refine ⟨fun pins s σ H Q I h => ?_⟩
  refine wpAny_Call_method_late hbase hfew hline rfl (thn (ho.run pins s σ H _ I h) fun v s1 ⟨x, H1, I1, r1, ⟨a, ob, xs, hx, hH, hx1, hx2, hx3⟩, q1⟩ => ?_)
  subst hx
  have hv : v = .ref a := by cases r1; rfl
  subst hv
  have hget : s1.heap.get? a = some ob := (show ObjOk X.prog X.w H1 s1.heap a (.frz ob (.tup xs)) from I1.hok a _ hH).1
  refine ⟨"tuple", id, pa, slot, hty, ⟨ob, hget, hx1⟩, fun a' e => by cases e; exact ⟨ob, hget, hx2⟩, ?_⟩
  have hA := ha.run cpos pins s1 σ H1 _ I1 q1
  rw [hs] at hA ⊢
  refine Calls.callWith_builtin (by show (false || (backTo cpos (starEach es X.env)).any (·.1)) = false; rw [hplain] <;> rfl) (Calls.evalArgs_plain ?_)
  exact thn hA fun us s2 ⟨vs, H2, I2, r2, q2⟩ => hm pins s2 σ H2 (.ref a) vs (.ref a) us Q I2 r1 r2 q2
def oIdxT : O → O → Option O
  | .fz (.xt ds), a => (a.frz.py).bind fun p => match (D.tup ds).py with
    | some (.tuple qs) => if SeqAt.shaped p = true ∧ SeqAt.shaped (.tuple qs) = true ∧ qs.findIdx (fun z => PyData.eqv z p) < qs.length then some (.fz (.int (qs.findIdx fun z => PyData.eqv z p : Nat))) else none
    | _ => none
  | _, _ => none
theorem qe_indexT {e e' : Expr} {m0 m : EM O} {p1 cpos : PySem.Pos} (hu : X.A.units + 65 < cLine) (h0 : QV X e m0) (he : QV X e' m)
    (hbase : attributeBase e "index" X.env (eval e X.env) = eval e X.env := by rfl)
    (hfew : ((backTo cpos (starEach [e'] X.env)).all (fun x => !x.1) && (backToKw cpos (keywordEach [] X.env)).all (fun x => x.1.isSome) && decide ([e'].length + ([] : List Keyword).length + (if ([] : List Keyword).isEmpty then 0 else 1) < 30)) = true := by rfl)
    (hline : (p1.endLine == cpos.line) = true := by rfl) (hst : starEach [e'] X.env = (false, eval e' X.env) :: starEach [] X.env := by rfl) (hplain : (backTo cpos (starEach [] X.env)).any (·.1) = false := by rfl) :
    QE X (.Call (.Attribute e "index" p1) [e'] [] cpos) (m2 oIdxT m0 m) := by
  obtain ⟨t0, z1, z2⟩ := h0
  obtain ⟨u, u1, u2⟩ := he
  refine ⟨_, pe_bmX PySem.F.plainAttrs_tuple PySem.F.slot_tuple_index PySem.F.type_tuple_index (mt_tupIndexD hu) z1 (pa_cons u1 pa_nil hst) hbase hfew hline hst hplain, fun H0 B0 ln Γ B H σ env s o env' em Q q => ?_⟩
  obtain ⟨r0, em1, em⟩ := bind_some em
  obtain ⟨r1, em2, em⟩ := bind_some em
  obtain ⟨z, em3, em⟩ := bind_some em
  cases em
  refine z2 H0 B0 ln Γ B H σ env s _ _ em1 _ fun v B1 H1 e1 e2 s1 w1 => ?_
  obtain ⟨o1, env1⟩ := r0
  unfold oIdxT at em3
  split at em3
  · rename_i ds heq
    have heq : o1 = .fz (.xt ds) := heq
    subst heq
    rw [Vw] at w1
    have rx2 := w1
    rw [Rp] at rx2
    obtain ⟨a, vs, ob, rfl, g, g1, g2, g3, _⟩ := rx2
    refine ⟨⟨a, ob, vs, rfl, s1.w.bh _ _ g, g1, g2, g3⟩, ?_⟩
    refine u2 H0 B0 ln Γ B1 H1 σ _ s1 _ _ em2 _ fun y B2 H2 e3 e4 s2 w2 => ?_
    have ry := Rp.mono s2.w.bh _ _ (rp_unx (Rp.mono e3 _ _ w1))
    obtain ⟨p, e5, em3⟩ := bind_some em3
    split at em3
    · rename_i qs e6
      split at em3
      · rename_i hs
        obtain ⟨h1, h2, h3⟩ := hs
        cases em3
        refine ⟨a, y, p, qs, _, _, rfl, rfl, py_ok _ _ _ ry e6, py_ok _ _ _ (Vw.frz s2.w.bh _ _ w2) e5, h2, h1, List.getElem?_eq_getElem h3, List.findIdx_getElem (w := h3), fun m z' hm hz => ?_, ?_⟩
        · obtain ⟨hm2, rfl⟩ := List.getElem?_eq_some_iff.mp hz
          exact List.not_of_lt_findIdx hm |> fun h => by simpa using h
        · exact q _ B2 H2 (e1.trans e3) (e2.trans e4) (s2.push (by rw [Rp]))
      · cases em3
    · cases em3
  · cases em3
end
theorem qv_unx {X : Cx} {e : Expr} {m : EM O} (h : QV X e m) : QV X e (mUnX m) := by
  obtain ⟨t, h1, h2⟩ := h
  refine ⟨t, h1, fun H0 B0 ln Γ B H σ env s o env' em Q q => ?_⟩
  obtain ⟨p, em1, em⟩ := bind_some em
  cases em
  obtain ⟨o1, env1⟩ := p
  refine h2 H0 B0 ln Γ B H σ env s _ _ em1 _ fun v B1 H1 e1 e2 s1 w1 => q v B1 H1 e1 e2 s1 ?_
  unfold unX
  split
  · rename_i ds hd
    have hd : o1 = .fz (.xt ds) := hd
    subst hd
    rw [Vw] at w1 ⊢
    exact rp_unx w1
  · exact w1
def lMin : List Int → Option Int
  | [] => none
  | x :: xs => some (xs.foldl (fun a b => if b < a then b else a) x)
theorem fold_min : ∀ (xs : List Int) (a : Int), (xs.foldl (fun a b => if b < a then b else a) a = a ∨ xs.foldl (fun a b => if b < a then b else a) a ∈ xs) ∧ xs.foldl (fun a b => if b < a then b else a) a ≤ a ∧ ∀ y ∈ xs, xs.foldl (fun a b => if b < a then b else a) a ≤ y
  | [], a => by simp
  | x :: xs, a => by
    rw [List.foldl_cons]
    obtain ⟨h1, h2, h3⟩ := fold_min xs (if x < a then x else a)
    generalize xs.foldl (fun a b => if b < a then b else a) (if x < a then x else a) = m at *
    split at h2
    · rename_i c
      rw [if_pos c] at h1
      refine ⟨.inr ?_, by omega, fun y hy => ?_⟩
      · rcases h1 with h | h
        · rw [h]; simp
        · simp [h]
      · rcases List.mem_cons.mp hy with rfl | hy
        · exact h2
        · exact h3 y hy
    · rename_i c
      rw [if_neg c] at h1
      refine ⟨?_, h2, fun y hy => ?_⟩
      · rcases h1 with h | h
        · exact .inl h
        · exact .inr (by simp [h])
      · rcases List.mem_cons.mp hy with rfl | hy
        · omega
        · exact h3 y hy
theorem lMin_ok {ns : List Int} {m : Int} (h : lMin ns = some m) : m ∈ ns ∧ ∀ y ∈ ns, m ≤ y := by
  cases ns with
  | nil => cases h
  | cons x xs =>
    cases h
    obtain ⟨h1, h2, h3⟩ := fold_min xs x
    refine ⟨?_, fun y hy => ?_⟩
    · rcases h1 with h | h
      · rw [h]; simp
      · simp [h]
    · rcases List.mem_cons.mp hy with rfl | hy
      · exact h2
      · exact h3 y hy
def gMinL : List O → Option O := gLI fun ns => (lMin ns).map fun m => .fz (.int m)
theorem c_minL {X : Cx} (hc : X.calm = true) : QC X (.builtin "min") gMinL := ⟨_, cr_min hc, by
  intro H0 B0 ln Γ B H σ env s os o vs w hg Q q
  obtain ⟨a, ns, rfl, h1, h2⟩ := gLI_ok s.w.bh w hg
  obtain ⟨m, hm, rfl⟩ := Option.map_eq_some_iff.mp h2
  obtain ⟨m1, m2⟩ := lMin_ok hm
  refine ⟨a, ns, rfl, h1, List.length_pos_of_mem m1, fun m' h3 h4 => ?_⟩
  have : m' = m := by
    have := m2 m' h3
    have := h4 m m1
    omega
  subst this
  exact q _ B H (Ex.refl _) (Ex.refl _) (s.push (by rw [Rp]))⟩
end Q
set_option Elab.async false
set_option linter.all false
set_option maxRecDepth 100000
set_option maxHeartbeats 1000000
namespace Q
open PySem L2 PyProof.Rows
theorem walk_ofT {l : PySem.W.OpenLaw} {n k : Nat} {q : Program} {loose : List Str} {XP : (Str → Option Value) → Heap → Prop} {YP : World → Heap → Prop} {d : DefRec} {x : Str}
    (hn : l.most = some n) (hn2 : n = 63) (hdf : d.params.defaults = []) (hr : Room k callerA) (hq : importsNone q = true) (ht : l.prog.given.tree = none)
    (F : ∀ (w : World) (mg : Str → Option Value) (fa : Addr) (h : Heap), YP w h → h.Ns mainGlobals mg → mg d.name = some (.ref fa) →
      ∃ (K : PySem.W.Frag) (fd : FuncData), K.In h ∧ (∀ (s : Shared) (u : Value), BindsTo s fd ⟨[u], []⟩ [(x, u)]) ∧
        ∀ base : Heap, K.In base → base.Ns mainGlobals mg → Grd base l.prog → FnOk l.prog w K mg base CX0 k fa fd [x] (spLaw K)) :
    PySem.W.WalkO q loose XP YP l.row.toRowW d [] (fun f vs => PySem.call f vs) := by
  refine Att.attach_callB hn hdf fun w s₀ s₁ mg mb fa o pm cd doc a vs ns G Y ho hd hcd hmg hobj hints hlen hbits hg => ?_
  obtain ⟨K, fd, KX, hb, hF⟩ := F w mg fa _ Y G.T.g hmg
  obtain ⟨ext, hx1, hx2, hx3⟩ := NoSeer_ext (G.T.seer hq)
  refine law_call (K := K ++ ext) (CX := CX0) (sp := spLaw K) (more_in KX hx1) G.T.g G.T.b G.T.builtins G.T.nolimit hg hobj hints (Nat.le_trans hlen (by subst hn2; decide)) hr (fun base hkb hnb => ?_) hb (fun H hO hS => ?_) fun H e s' h => h
  · exact fn_less (hF base (less_in hkb) hnb ⟨hx3 base (has_in KX hx1 hkb), ht⟩) (less_in hkb)
  · subst hn2
    refine ⟨a, ns, rfl, ?_, hlen, hbits, fun _ => rfl⟩
    rcases hS with h | ⟨ob, its, m, e, h1, h2, h3, h4, h5⟩
    · exact .inl h
    · rw [List.lookup_append] at e
      cases hk : K.lookup a with
      | some o2 => rw [hk] at e; cases e; exact .inr ⟨_, its, m, hk, h1, h2, h3, h4, h5⟩
      | none =>
        rw [hk] at e
        rcases hx2 (a, ob) (at_mem (show ext.lookup a = some ob from e)) with z | ⟨es, ep, z⟩
        · exact absurd h1 z
        · rw [show ob.data = .dict es ep from z] at h3
          cases h3
abbrev FnQ : Type := Option (Str × Str × Arguments × FuncBody × Scope × Addr × List Str × Value × Addr)
def fnQ (K : PySem.W.Frag) (a : Addr) : FnQ := match K.lookup a with
  | some ⟨_, _, .func fd, _⟩ => some (fd.name, fd.qualname, fd.params, fd.body, fd.scope, fd.globals, fd.closure.map (·.1), fd.defaults, fd.builtins)
  | _ => none
structure DefQ where
  at_ : PySem.W.Frag → Addr
  name : Str
  qual : Str
  st : Stmt
  cells : List Str := []
def DefQ.val (d : DefQ) : FnQ := some (d.name, d.qual, defArgs d.st, .stmts (defBody d.st), defScope d.st, mainGlobals, d.cells, .none, builtinsNs)
def codQ (K : PySem.W.Frag) (a : Addr) (q : Str) : Bool := match K.lookup a with
  | some ⟨_, _, .func fd, _⟩ => PySem.W.codeIn K fd.code q
  | _ => false
def tupQ (K : PySem.W.Frag) (a : Addr) (is : List Int) : Bool := match K.lookup a with
  | some ⟨.type c, _, .seq its _, _⟩ => decide (c = "tuple") && (decide (intsIn its.toList = some is) && decide (its.size ≤ sizeLine))
  | _ => false
theorem fnQ_l {K : PySem.W.Frag} {a : Addr} {d : DefQ} (e : fnQ K a = d.val) (hc : d.cells = []) : ∃ oc od osl kV doc pm an cdv ct, K.lookup a = some ⟨oc, od, .func (PySem.W.fnOf d.name d.qual (defArgs d.st) (defBody d.st) (defScope d.st) .none kV doc pm an cdv ct), osl⟩ := by
  unfold fnQ at e
  split at e
  · rename_i oc od fd osl q
    obtain ⟨n1, n2, n3, n4, n5, n6, n7, n8, n9, n10, n11, n12, n13, n14, n15⟩ := fd
    have e2 : (some (n1, n2, n3, n4, n5, n6, n7.map (·.1), n8, n15) : FnQ) = some (d.name, d.qual, defArgs d.st, .stmts (defBody d.st), defScope d.st, mainGlobals, d.cells, .none, builtinsNs) := e
    simp only [Option.some.injEq, Prod.mk.injEq] at e2
    obtain ⟨h1, h2, h3, h4, h5, h6, h7, h8, h9⟩ := e2
    rw [hc] at h7
    have h7 : n7 = [] := by simpa using h7
    subst h1 h2 h3 h4 h5 h6 h7 h8 h9
    exact ⟨oc, od, osl, n9, n10, n11, n12, n13, n14, q⟩
  · cases e
theorem cod_of {K : PySem.W.Frag} {a : Addr} {oc : Value} {od : Option Addr} {fd : FuncData} {sl : Array (Option Value)} {q : Str} (l : K.lookup a = some ⟨oc, od, .func fd, sl⟩) (c : codQ K a q = true) : PySem.W.codeIn K fd.code q = true := by
  unfold codQ at c
  rw [l] at c
  exact c
theorem tupQ_ok {K : PySem.W.Frag} {a : Addr} {is : List Int} (h : tupQ K a is = true) : ∃ (od : Option Addr) (its : Array Value) (n : Nat) (sl : Array (Option Value)), K.lookup a = some ⟨.type "tuple", od, .seq its n, sl⟩ ∧ intsIn its.toList = some is ∧ its.size ≤ sizeLine := by
  unfold tupQ at h
  split at h
  · rename_i c od its n sl q
    obtain ⟨h1, h2⟩ := He.ba h
    obtain ⟨h3, h4⟩ := He.ba h2
    have h1 : c = "tuple" := of_decide_eq_true h1
    subst h1
    exact ⟨od, its, n, sl, q, of_decide_eq_true h3, of_decide_eq_true h4⟩
  · cases h
abbrev AlQ : Type := Bool × List FnQ
def obsQ (cs : List (PySem.W.Frag → Bool)) (fn : List DefQ) (K : PySem.W.Frag) : AlQ := (cs.all fun c => c K, fn.map fun d => fnQ K (d.at_ K))
def valQ (fn : List DefQ) : AlQ := (true, fn.map DefQ.val)
/-- a list whose spine, addresses and objects are worked out -/
def frK {α : Type} : PySem.W.Frag → (PySem.W.Frag → α) → α
  | [], k => k []
  | (a, ⟨c, d, dt, sl⟩) :: r, k => HandSHeadRun.frNat a fun a => frK r fun r => k ((a, ⟨c, d, dt, sl⟩) :: r)
theorem frK_eq {α : Type} : ∀ (K : PySem.W.Frag) (k : PySem.W.Frag → α), frK K k = k K
  | [], k => rfl
  | (a, ⟨c, d, dt, sl⟩) :: r, k => by
    show (HandSHeadRun.frNat a fun a => frK r fun r => k ((a, ⟨c, d, dt, sl⟩) :: r)) = _
    rw [HandSHeadRun.frNat_eq, frK_eq r]
/-- addresses not met before -/
def colR : List Addr → Nat → List Addr → Nat × List Addr
  | [], seen, next => (seen, next)
  | b :: r, seen, next => match Nat.beq (Nat.land (Nat.shiftRight seen b) 1) 1 with
    | true => colR r seen next
    | false => HandSHeadRun.frNat (Nat.lor seen (Nat.shiftLeft 1 b)) fun seen => HandSHeadRun.frNat b fun b => colR r seen (b :: next)
def colT (g : Addr → Option Obj) : List Addr → Nat → List Addr → Nat × List Addr
  | [], seen, next => (seen, next)
  | a :: r, seen, next => match g a with
    | some o => (match colR (He.refsD o) seen next with
      | (seen, next) => colT g r seen next)
    | none => colT g r seen next
def col (g : Addr → Option Obj) : Nat → List Addr → Nat → List Addr
  | 0, todo, _ => todo
  | n + 1, todo, seen => match colT g todo seen [] with
    | (seen, next) => todo ++ col g n next seen
def frQ (n : Nat) (g : Addr → Option Obj) : PySem.W.Frag := He.frG g (col g n [mainGlobals] (Nat.shiftLeft 1 mainGlobals))
def obsQG (n : Nat) (cs : List (PySem.W.Frag → Bool)) (fn : List DefQ) (g : Addr → Option Obj) : AlQ := frK (frQ n g) fun K => obsQ cs fn K
def SaysQ (cs : List (PySem.W.Frag → Bool)) (fn : List DefQ) (K : PySem.W.Frag) : Prop := obsQ cs fn K = valQ fn
def hookQ (n : Nat) (cs : List (PySem.W.Frag → Bool)) (fn : List DefQ) : PySem.W.Hook where
  α := AlQ
  obs := fun s => obsQG n cs fn s.heap.get?
  val := fun _ => valQ fn
  says := fun _ h => ∃ K : PySem.W.Frag, K.In h ∧ SaysQ cs fn K
  of := fun _ s e => ⟨frQ n s.heap.get?, He.frG_in, by unfold obsQG at e; rw [frK_eq] at e; exact e⟩
  keeps := fun _ _ _ ⟨K, hK, c⟩ k => ⟨K, PySem.W.Frag.In.keeps hK k, c⟩
theorem obsQG_eq {n : Nat} {cs : List (PySem.W.Frag → Bool)} {fn : List DefQ} {g : Addr → Option Obj} {s : Shared} (h : ∀ a, g a = s.heap.get? a) : obsQG n cs fn g = (hookQ n cs fn).obs s := by
  have e : g = s.heap.get? := funext h
  rw [e] <;> rfl
theorem SaysQ.fact {cs : List (PySem.W.Frag → Bool)} {fn : List DefQ} {K : PySem.W.Frag} (c : SaysQ cs fn K) (i : Nat) {f : PySem.W.Frag → Bool} (h : cs[i]? = some f) : f K = true := by
  have c1 : (cs.all fun c => c K) = true := congrArg (fun z : AlQ => z.1) c
  exact List.all_eq_true.mp c1 f (List.mem_of_getElem? h)
theorem SaysQ.def_ {cs : List (PySem.W.Frag → Bool)} {fn : List DefQ} {K : PySem.W.Frag} (c : SaysQ cs fn K) (i : Nat) {d : DefQ} (h : fn[i]? = some d) : fnQ K (d.at_ K) = d.val := by
  have e : fn.map (fun d => fnQ K (d.at_ K)) = fn.map DefQ.val := congrArg (fun z : AlQ => z.2) c
  have e2 : (fn.map (fun d => fnQ K (d.at_ K)))[i]? = (fn.map DefQ.val)[i]? := by rw [e]
  rw [List.getElem?_map, List.getElem?_map, h] at e2
  exact Option.some.inj e2
open HandSHeadRun in
def impF (st : PySem.W.SharedT → Thread → Option (PySem.W.SharedT × Thread)) : Nat → PySem.W.SharedT → Thread → Option PySem.W.SharedT
  | 0, _, _ => none
  | m + 1, s, t => match t.atExitBegin with
    | some [] => some s
    | some (_ :: _) => none
    | none => match st s t with
      | some (s', t') => frS s' fun s' => impF st m s' t'
      | none => none
theorem impF_ok {tb : String → Option Builtin} {p : Program} {w : World} : ∀ {m : Nat} {s s' : PySem.W.SharedT} {t : Thread}, impF (PySem.W.stepT (denote tb) p w) m s t = some s' → importEnds tb p w m s.abs t = some s'.abs
  | 0, _, _, _, h => by cases h
  | m + 1, s, s', t, h => by
    have h1 : (match t.atExitBegin with
      | some [] => some s
      | some (_ :: _) => none
      | none => match PySem.W.stepT (denote tb) p w s t with
        | some (s', t') => HandSHeadRun.frS s' fun s' => impF (PySem.W.stepT (denote tb) p w) m s' t'
        | none => none) = some s' := h
    unfold importEnds
    cases ht : t.atExitBegin with
    | some l =>
      rw [ht] at h1
      cases l with
      | nil => cases h1; rfl
      | cons a l => cases h1
    | none =>
      rw [ht] at h1
      cases hs : PySem.W.stepT (denote tb) p w s t with
      | none =>
        rw [hs] at h1
        cases h1
      | some r =>
        obtain ⟨s2, t2⟩ := r
        rw [hs] at h1
        have h3 : (HandSHeadRun.frS s2 fun s' => impF (PySem.W.stepT (denote tb) p w) m s' t2) = some s' := h1
        rw [HandSHeadRun.frS_eq] at h3
        have q := impF_ok h3
        show (match step (denote tb) p w s.abs t with
          | .go s' t' => importEnds tb p w m s' t'
          | .halt _ _ => none) = some s'.abs
        rw [PySem.W.stepT_spec hs]
        exact q
def startT (p : Program) : PySem.W.SharedT := ⟨.nil, 0, (start p).1.heap.life, (start p).1.gens, (start p).1.drawn, (start p).1.toks, (start p).1.os⟩
theorem startT_abs (p : Program) : (startT p).abs = (start p).1 := rfl
def frO {α : Type} (v : Option Value) (k : Option Value → α) : α := match v with
  | none => k none
  | some v => k (some v)
theorem frO_eq {α : Type} (v : Option Value) (k : Option Value → α) : frO v k = k v := by cases v <;> rfl
def treeOf (s : Shared) : Option PySem.W.SharedT := match HandSHeadRun.putAll s.heap.objs.toList .nil 0 with
  | some (t, n) => some ⟨t, n, s.heap.life, s.gens, s.drawn, s.toks, s.os⟩
  | none => none
theorem treeOf_abs {s : Shared} {t : PySem.W.SharedT} (h : treeOf s = some t) : t.abs = s := by
  unfold treeOf at h
  split at h
  · rename_i t' n e
    cases h
    show (⟨PySem.W.absHeap t' n s.heap.life, s.gens, s.drawn, s.toks, s.os⟩ : Shared) = s
    rw [HandSHeadRun.putAll_heap e]
  · cases h
def endG (st : Program → PySem.W.SharedT → Thread → Option (PySem.W.SharedT × Thread)) (M0 M : Nat) (p : Program) : Option (PySem.W.SharedT × PySem.W.SharedT) :=
  match impF (st (PySem.W.opening p)) M0 (startT (PySem.W.opening p)) (start (PySem.W.opening p)).2 with
  | some s0 => (match fenceModules? p s0.abs with
    | some sh => (match treeOf sh with
      | some s0 => HandSHeadRun.frS s0 fun s0 => frO (s0.abs.heap.nsMap mainGlobals "__annotations__") fun ann => (match HandSHeadRun.goF (st p) s0.n ann M s0 (PySem.W.topStub p) with
        | some s1 => some (s0, s1)
        | none => none)
      | none => none)
    | none => none)
  | none => none
def looksG (p : Program) (r : PySem.W.SharedT × PySem.W.SharedT) : Bool := (r.1.abs.heap.isNs mainGlobals && r.1.abs.gens.size == 0) && (PySem.W.staticsOk (importedModules p.main.body) r.1.abs.heap r.2.abs.heap && PySem.W.namesBound p r.2.abs.heap && PySem.W.gensDone r.2.abs && PySem.W.laidKept r.1.abs.heap r.2.abs.heap)
theorem left_two {p q : Program} {loose : List Str} {Xt : Shared → Bool} {α : Type} {Yf : Shared → α} {Ya : World → α} {N M0 M : Nat}
    (h0 : Nat.ble M0 N = true) (le : Nat.ble M N = true)
    (run : ∀ w : World, (endG (fun p => PySem.W.stepT (denote treeTable) p w) M0 M p).map (fun r => (looksG p r, PySem.W.openSeen q loose (importedModules p.main.body) Xt true r.2.abs, Yf r.2.abs)) = some (true, PySem.W.openGood q loose, Ya w)) :
    PySem.W.LeftO p q loose Xt Yf Ya N true := fun w => by
  obtain ⟨⟨s0, s1⟩, hs, hv⟩ := Option.map_eq_some_iff.mp (run w)
  obtain ⟨l1, l2, l3⟩ : _ ∧ _ ∧ _ := by simpa only [Prod.mk.injEq] using hv
  unfold endG at hs
  cases e : impF (PySem.W.stepT (denote treeTable) (PySem.W.opening p) w) M0 (startT (PySem.W.opening p)) (start (PySem.W.opening p)).2 with
  | none =>
    rw [e] at hs
    cases hs
  | some si =>
    rw [e] at hs
    dsimp only at hs
    cases ef : fenceModules? p si.abs with
    | none =>
      rw [ef] at hs
      cases hs
    | some sh =>
      rw [ef] at hs
      dsimp only at hs
      cases et : treeOf sh with
      | none =>
        rw [et] at hs
        cases hs
      | some s0' =>
        rw [et] at hs
        dsimp only at hs
        rw [HandSHeadRun.frS_eq, frO_eq] at hs
        cases e2 : HandSHeadRun.goF (PySem.W.stepT (denote treeTable) p w) s0'.n (s0'.abs.heap.nsMap mainGlobals "__annotations__") M s0' (PySem.W.topStub p) with
        | none =>
          rw [e2] at hs
          cases hs
        | some s1' =>
          rw [e2] at hs
          cases hs
          have i1 := impF_ok e
          rw [startT_abs] at i1
          have i2 := PySem.W.importEnds_mono (N - M0) _ _ _ _ i1
          rw [show M0 + (N - M0) = N by have := Nat.le_of_ble_eq_true h0; omega] at i2
          have r := PySem.W.topRun_mono (N - M) _ _ _ _ (HandSHeadRun.goF_ok e2)
          rw [show M + (N - M) = N by have := Nat.le_of_ble_eq_true le; omega] at r
          obtain ⟨l4, l5⟩ := He.ba l1
          have en : s0.abs.heap.objs.size = s0.n := PySem.W.absHeap_size _ _ _
          have t : PySem.W.topFrom treeTable p w N s0.abs = some s1.abs := by
            unfold PySem.W.topFrom
            have l4' : (s0.abs.heap.isNs mainGlobals && s0.abs.gens.size == 0) = true := l4
            rw [l4']
            show (PySem.W.topRun treeTable p w s0.abs.heap.objs.size (s0.abs.heap.nsMap mainGlobals "__annotations__") N s0.abs (PySem.W.topStub p)).bind _ = _
            rw [en, r]
            have l5' : (PySem.W.staticsOk (importedModules p.main.body) s0.abs.heap s1.abs.heap && PySem.W.namesBound p s1.abs.heap && PySem.W.gensDone s1.abs && PySem.W.laidKept s0.abs.heap s1.abs.heap) = true := l5
            show (match PySem.W.staticsOk (importedModules p.main.body) s0.abs.heap s1.abs.heap && PySem.W.namesBound p s1.abs.heap && PySem.W.gensDone s1.abs && PySem.W.laidKept s0.abs.heap s1.abs.heap with | true => some s1.abs | false => none) = _
            rw [l5']
          unfold PySem.W.openEnds PySem.W.fencedOpening
          rw [i2]
          show ((fenceModules? p si.abs).bind _).map _ = _
          rw [ef]
          show (PySem.W.topFrom treeTable p w N sh).map _ = _
          rw [← treeOf_abs et, t]
          exact congrArg some (Prod.ext l2 l3)
def RunEq2 (r : PySem.W.OpenRow) (q : Program) (H : PySem.W.Hook) (ob : PySem.W.SharedT → H.α) (M0 M : Nat) (loose : List Str) (w : World) : Prop :=
  (endG (fun p => HandSHeadRun.stepQ (HandSHeadRun.denQ HandSHeadRun.tabQ) p w) M0 M r.prog).map (fun z => (looksG r.prog z, HandSHeadRun.seenQ q loose (importedModules r.prog.main.body) (fun s => PySem.W.xlAt q [] s && PySem.W.recOk r.toRowW.records s) z.2.abs, ob z.2)) = some (true, PySem.W.openGood q loose, H.val w)
theorem head_two {r : PySem.W.OpenRow} {q : Program} {H : PySem.W.Hook} {ob : PySem.W.SharedT → H.α} {M0 M : Nat} {loose : List PySem.Str} {d : DefRec} {kwd : List (PySem.Str × PySem.Expr)} (ho : ∀ s : PySem.W.SharedT, ob s = H.obs s.abs)
    (run : ∀ w, RunEq2 r q H ob M0 M loose w)
    (hdef : PySem.W.defOf q r.name = some (d, kwd)) (hp : r.prog.theDef r.name = some (d.params, d.body, d.scope)) (hk : PySem.W.kwWritten? d.params.kwonlyargs d.params.kw_defaults = some kwd)
    (hwr : (!r.writes || r.records.isEmpty) = true) (k1 : r.wellSaid = true) (ok : (PySem.W.chainsOk q && PySem.W.opensWell r.prog && (PySem.W.frees r.toRowW && r.within.isEmpty)) = true) (hb : r.prog.bare) (hw : r.toRowW.promised)
    (call : PySem.W.WalkO q loose (PySem.W.XL q []) H.says r.toRowW d kwd fun f vs => PySem.call f vs) : r.Holds := by
  have left : PySem.W.LeftO r.prog q loose (fun s => PySem.W.xlAt q [] s && PySem.W.recOk r.toRowW.records s) H.obs H.val (M0 + M) true :=
    left_two (M0 := M0) (M := M) (Nat.ble_eq_true_of_le (by omega)) (Nat.ble_eq_true_of_le (by omega)) fun w => by
      have z := run w
      have eo : ob = fun s => H.obs s.abs := funext ho
      unfold RunEq2 at z
      rw [eo, ← HandSHeadRun.stepQ_eq, ← HandSHeadRun.denQ_eq, ← HandSHeadRun.tabQ_eq] at z
      simp only [HandSHeadRun.seenQ_eq]
      exact z
  exact PySem.W.holds_open (r := r) (q := q) (loose := loose) (XP := PySem.W.XL q []) (YP := H.says) (d := d) (kwd := kwd) left H.of H.keeps (fun s z => PySem.W.xl_of s (Bool.and_eq_true_iff.mp z).1) PySem.W.XL.keeps hdef hp hk (fun s z => PySem.W.recFacts_of (Bool.and_eq_true_iff.mp z).2) hwr k1 ok hb hw call
end Q
set_option Elab.async false
set_option linter.all false
set_option maxRecDepth 100000
set_option maxHeartbeats 1000000
namespace Q
open PySem L2
theorem rwA_mem {rs : List Rat} {x : Nat} (h : x < rs.length) : rwA rs x ∈ rs := by
  unfold rwA
  rw [List.getElem?_eq_getElem h]
  exact List.getElem_mem h
theorem at_rw {rs : List Rat} {x : Nat} (h : x < rs.length) : atI (rs.map encQ) (x : Int) = some (encQ (rwA rs x)) := by
  rw [atI_nat' (by simpa using h), List.getElem?_map]
  unfold rwA
  rw [List.getElem?_eq_getElem h]; rfl
theorem at_row {rows : List (List (Nat × Rat))} {x : Nat} (h : x < rows.length) : atI (rows.map encR) (x : Int) = some (.tup ((rowA rows x).map encP)) := by
  rw [atI_nat' (by simpa using h), List.getElem?_map]
  unfold rowA
  rw [List.getElem?_eq_getElem h]; rfl
def prE (p : Nat × Nat) : D := .tup [.int (p.1 : Int), .int (p.2 : Int)]
theorem prE_inj : ∀ a b : Nat × Nat, prE a = prE b → a = b := fun a b h => by
  unfold prE at h
  injection h with h
  injection h with h1 h2
  injection h1 with h1
  injection h2 with h2 _
  injection h2 with h2
  exact Prod.ext (by omega) (by omega)
theorem prE_gd (a : Nat × Nat) : (prE a).gd = true := by simp -implicitDefEqProofs [prE, D.gd, D.gds]
theorem prE_dep (a : Nat × Nat) : (prE a).dep ≤ 60 := by simp -implicitDefEqProofs [prE, D.dep, D.deps]
def encPc (p : Plc) : D := .tup [encG p.rs p.rows, .int (p.s : Int)]
structure ScOk (ps : List Plc) : Prop where
  ok : ∀ p ∈ ps, PlOk p
  n3 : ∀ p ∈ ps, p.n ≤ 3
  sm : ∀ p ∈ ps, Smr p.rs
  len : 1 ≤ ps.length ∧ ps.length ≤ 3
theorem encPc_at {ps : List Plc} {p : Plc} {i : Nat} (h : ps[i]? = some p) : atI (ps.map encPc) (i : Int) = some (.tup [encG p.rs p.rows, .int (p.s : Int)]) := by
  obtain ⟨hi, _⟩ := List.getElem?_eq_some_iff.mp h
  rw [atI_nat' (by simpa using hi), List.getElem?_map, h]; rfl
def pairsT (ps : List Plc) : Nat → List (Nat × Nat)
  | 0 => []
  | k + 1 => pairsT ps k ++ (List.range (match ps[k]? with | some p => p.n | none => 0)).map fun s => (k, s)
theorem pairsT_succ {ps : List Plc} {p : Plc} {i : Nat} (h : ps[i]? = some p) : pairsT ps (i + 1) = pairsT ps i ++ (List.range p.n).map fun s => (i, s) := by
  show pairsT ps i ++ _ = _
  rw [h]
theorem pairsT_len {ps : List Plc} (h : ScOk ps) : ∀ i, i ≤ ps.length → (pairsT ps i).length ≤ 3 * i
  | 0, _ => by simp [pairsT]
  | i + 1, hi => by
    have hp := List.getElem?_eq_getElem (show i < ps.length by omega)
    rw [pairsT_succ hp, List.length_append, List.length_map, List.length_range]
    have := pairsT_len h i (by omega)
    have := h.n3 _ (List.mem_of_getElem? hp)
    omega
theorem pairsT_sum (ps : List Plc) : ∀ k, k ≤ ps.length → (pairsT ps k).length = ((ps.take k).map (·.n)).sum
  | 0, _ => by simp [pairsT]
  | k + 1, hk => by
    have hp := List.getElem?_eq_getElem (show k < ps.length by omega)
    rw [pairsT_succ hp, List.length_append, List.length_map, List.length_range, pairsT_sum ps k (by omega), List.take_add_one, hp, List.map_append, List.sum_append]
    simp
end Q
set_option Elab.async false
set_option linter.all false
set_option maxRecDepth 100000
set_option maxHeartbeats 1000000
namespace Q
open PySem L2 PyProof.Rows
def mTupX1 (m : EM O) : EM O := fun env => (m env).bind fun p => match p.1 with
  | .fz d => some (.fz (.xt [d]), p.2)
  | _ => none
@[simp] theorem e_mTupX1 {m : EM O} {env : En} : mTupX1 m env = (m env).bind fun p => match p.1 with
  | .fz d => some (.fz (.xt [d]), p.2)
  | _ => none := rfl
end Q
set_option Elab.async false
set_option linter.all false
set_option maxRecDepth 100000
set_option maxHeartbeats 1000000
namespace Q
open PySem L2 PyProof.Rows
section
variable {X : Cx} {e : Expr} {m : EM O}
/-- the items of a tuple whose object is known, read as tuples -/
def mUnKX (m : EM O) : EM O := fun env => (m env).bind fun p => match p.1 with
  | .fz (.xt ds) => some (.fz (.xt (ds.map D.unk)), p.2)
  | _ => none
@[simp] theorem e_mUnKX {env : En} : mUnKX m env = (m env).bind fun p => match p.1 with
  | .fz (.xt ds) => some (.fz (.xt (ds.map D.unk)), p.2)
  | _ => none := rfl
theorem qe_unkX (h : QE X e m) : QE X e (mUnKX m) := by
  obtain ⟨t, h1, h2⟩ := h
  refine ⟨t, h1, fun H0 B0 ln Γ B H σ env s o env' em Q q => ?_⟩
  obtain ⟨p, em1, em⟩ := bind_some em
  obtain ⟨o1, env1⟩ := p
  refine h2 H0 B0 ln Γ B H σ env s _ _ em1 _ fun v B1 H1 e1 e2 s1 => ?_
  split at em
  · rename_i ds ho
    cases em
    simp only at ho
    subst ho
    have r := s1.rp
    refine q _ B1 H1 e1 e2 (s1.pop.push ?_)
    rw [Rp] at r ⊢
    obtain ⟨a, vs, o, rfl, g1, g2, g3, g4, g5⟩ := r
    exact ⟨a, vs, o, rfl, g1, g2, g3, g4, rps_unk g5⟩
  · cases em
end
end Q
set_option Elab.async false
set_option linter.all false
set_option maxRecDepth 100000
set_option maxHeartbeats 4000000
namespace Lw
open PySem L2 Q
def top (i : Nat) : Stmt := PySem.Challenge.pw_anycompany_k57_order_visits.main.body.getD i (.Pass ⟨0, 0, 0, 0⟩)
abbrev s_common_divisor : Stmt := top 5
abbrev s_make_ratio : Stmt := top 6
abbrev s_add : Stmt := top 7
abbrev s_subtract : Stmt := top 8
abbrev s_multiply : Stmt := top 9
abbrev s_divide : Stmt := top 10
abbrev s_total : Stmt := top 11
abbrev s_without : Stmt := top 13
abbrev s_first_nonzero : Stmt := top 14
abbrev s_solve : Stmt := top 15
abbrev s_joint_states : Stmt := top 17
abbrev s_table_places : Stmt := top 18
abbrev s_pairs_of : Stmt := top 22
abbrev s_joint_visits : Stmt := top 23
abbrev s_choice_visits : Stmt := top 24
abbrev s_order_choices : Stmt := top 25
abbrev s_order_visits : Stmt := top 26
abbrev s_visits_gain : Stmt := top 27
abbrev s__law_cell : Stmt := top 29
abbrev s__law_draws : Stmt := top 30
abbrev s__law_head : Stmt := top 31
abbrev s__law_low : Stmt := top 32
abbrev s__law_is_integer : Stmt := top 33
abbrev s__law_is_ratio : Stmt := top 34
abbrev s__law_add : Stmt := top 35
abbrev s__law_mul : Stmt := top 36
abbrev s__law_fraction : Stmt := top 37
abbrev s__law_discount : Stmt := top 38
abbrev s__law_game : Stmt := top 39
abbrev s__law_are_ratios : Stmt := top 40
abbrev s__law_small_company : Stmt := top 41
abbrev s__law_joints : Stmt := top 42
abbrev s__law_pairs : Stmt := top 43
abbrev s__law_order : Stmt := top 44
abbrev s__law_dot : Stmt := top 45
abbrev s__law_followed : Stmt := top 46
abbrev s_law : Stmt := top 47
def ck0 (K : PySem.W.Frag) : Bool := decide (PySem.W.nsIn K mainGlobals "common_divisor" = some (some (.ref (He.ga K "common_divisor")))) && (codQ K (He.ga K "common_divisor") "common_divisor")
def ck1 (K : PySem.W.Frag) : Bool := decide (PySem.W.nsIn K mainGlobals "make_ratio" = some (some (.ref (He.ga K "make_ratio")))) && (codQ K (He.ga K "make_ratio") "make_ratio")
def ck2 (K : PySem.W.Frag) : Bool := decide (PySem.W.nsIn K mainGlobals "add" = some (some (.ref (He.ga K "add")))) && (codQ K (He.ga K "add") "add")
def ck3 (K : PySem.W.Frag) : Bool := decide (PySem.W.nsIn K mainGlobals "subtract" = some (some (.ref (He.ga K "subtract")))) && (codQ K (He.ga K "subtract") "subtract")
def ck4 (K : PySem.W.Frag) : Bool := decide (PySem.W.nsIn K mainGlobals "multiply" = some (some (.ref (He.ga K "multiply")))) && (codQ K (He.ga K "multiply") "multiply")
def ck5 (K : PySem.W.Frag) : Bool := decide (PySem.W.nsIn K mainGlobals "divide" = some (some (.ref (He.ga K "divide")))) && (codQ K (He.ga K "divide") "divide")
def ck6 (K : PySem.W.Frag) : Bool := decide (PySem.W.nsIn K mainGlobals "total" = some (some (.ref (He.ga K "total")))) && (codQ K (He.ga K "total") "total")
def ck7 (K : PySem.W.Frag) : Bool := decide (PySem.W.nsIn K mainGlobals "without" = some (some (.ref (He.ga K "without")))) && (codQ K (He.ga K "without") "without")
def ck8 (K : PySem.W.Frag) : Bool := decide (PySem.W.nsIn K mainGlobals "first_nonzero" = some (some (.ref (He.ga K "first_nonzero")))) && (codQ K (He.ga K "first_nonzero") "first_nonzero")
def ck9 (K : PySem.W.Frag) : Bool := decide (PySem.W.nsIn K mainGlobals "solve" = some (some (.ref (He.ga K "solve")))) && (codQ K (He.ga K "solve") "solve")
def ck10 (K : PySem.W.Frag) : Bool := decide (PySem.W.nsIn K mainGlobals "joint_states" = some (some (.ref (He.ga K "joint_states")))) && (codQ K (He.ga K "joint_states") "joint_states")
def ck11 (K : PySem.W.Frag) : Bool := decide (PySem.W.nsIn K mainGlobals "table_places" = some (some (.ref (He.ga K "table_places")))) && (codQ K (He.ga K "table_places") "table_places")
def ck12 (K : PySem.W.Frag) : Bool := decide (PySem.W.nsIn K mainGlobals "pairs_of" = some (some (.ref (He.ga K "pairs_of")))) && (codQ K (He.ga K "pairs_of") "pairs_of")
def ck13 (K : PySem.W.Frag) : Bool := decide (PySem.W.nsIn K mainGlobals "joint_visits" = some (some (.ref (He.ga K "joint_visits")))) && (codQ K (He.ga K "joint_visits") "joint_visits")
def ck14 (K : PySem.W.Frag) : Bool := decide (PySem.W.nsIn K mainGlobals "choice_visits" = some (some (.ref (He.ga K "choice_visits")))) && (codQ K (He.ga K "choice_visits") "choice_visits")
def ck15 (K : PySem.W.Frag) : Bool := decide (PySem.W.nsIn K mainGlobals "order_choices" = some (some (.ref (He.ga K "order_choices")))) && (codQ K (He.ga K "order_choices") "order_choices")
def ck16 (K : PySem.W.Frag) : Bool := decide (PySem.W.nsIn K mainGlobals "order_visits" = some (some (.ref (He.ga K "order_visits")))) && (codQ K (He.ga K "order_visits") "order_visits")
def ck17 (K : PySem.W.Frag) : Bool := decide (PySem.W.nsIn K mainGlobals "visits_gain" = some (some (.ref (He.ga K "visits_gain")))) && (codQ K (He.ga K "visits_gain") "visits_gain")
def ck18 (K : PySem.W.Frag) : Bool := decide (PySem.W.nsIn K mainGlobals "_law_cell" = some (some (.ref (He.ga K "_law_cell")))) && (codQ K (He.ga K "_law_cell") "_law_cell")
def ck19 (K : PySem.W.Frag) : Bool := decide (PySem.W.nsIn K mainGlobals "_law_draws" = some (some (.ref (He.ga K "_law_draws")))) && (codQ K (He.ga K "_law_draws") "_law_draws")
def ck20 (K : PySem.W.Frag) : Bool := decide (PySem.W.nsIn K mainGlobals "_law_head" = some (some (.ref (He.ga K "_law_head")))) && (codQ K (He.ga K "_law_head") "_law_head")
def ck21 (K : PySem.W.Frag) : Bool := decide (PySem.W.nsIn K mainGlobals "_law_low" = some (some (.ref (He.ga K "_law_low")))) && (codQ K (He.ga K "_law_low") "_law_low")
def ck22 (K : PySem.W.Frag) : Bool := decide (PySem.W.nsIn K mainGlobals "_law_is_integer" = some (some (.ref (He.ga K "_law_is_integer")))) && (codQ K (He.ga K "_law_is_integer") "_law_is_integer")
def ck23 (K : PySem.W.Frag) : Bool := decide (PySem.W.nsIn K mainGlobals "_law_is_ratio" = some (some (.ref (He.ga K "_law_is_ratio")))) && (codQ K (He.ga K "_law_is_ratio") "_law_is_ratio")
def ck24 (K : PySem.W.Frag) : Bool := decide (PySem.W.nsIn K mainGlobals "_law_add" = some (some (.ref (He.ga K "_law_add")))) && (codQ K (He.ga K "_law_add") "_law_add")
def ck25 (K : PySem.W.Frag) : Bool := decide (PySem.W.nsIn K mainGlobals "_law_mul" = some (some (.ref (He.ga K "_law_mul")))) && (codQ K (He.ga K "_law_mul") "_law_mul")
def ck26 (K : PySem.W.Frag) : Bool := decide (PySem.W.nsIn K mainGlobals "_law_fraction" = some (some (.ref (He.ga K "_law_fraction")))) && (codQ K (He.ga K "_law_fraction") "_law_fraction")
def ck27 (K : PySem.W.Frag) : Bool := decide (PySem.W.nsIn K mainGlobals "_law_discount" = some (some (.ref (He.ga K "_law_discount")))) && (codQ K (He.ga K "_law_discount") "_law_discount")
def ck28 (K : PySem.W.Frag) : Bool := decide (PySem.W.nsIn K mainGlobals "_law_game" = some (some (.ref (He.ga K "_law_game")))) && (codQ K (He.ga K "_law_game") "_law_game")
def ck29 (K : PySem.W.Frag) : Bool := decide (PySem.W.nsIn K mainGlobals "_law_are_ratios" = some (some (.ref (He.ga K "_law_are_ratios")))) && (codQ K (He.ga K "_law_are_ratios") "_law_are_ratios")
def ck30 (K : PySem.W.Frag) : Bool := decide (PySem.W.nsIn K mainGlobals "_law_small_company" = some (some (.ref (He.ga K "_law_small_company")))) && (codQ K (He.ga K "_law_small_company") "_law_small_company")
def ck31 (K : PySem.W.Frag) : Bool := decide (PySem.W.nsIn K mainGlobals "_law_joints" = some (some (.ref (He.ga K "_law_joints")))) && (codQ K (He.ga K "_law_joints") "_law_joints")
def ck32 (K : PySem.W.Frag) : Bool := decide (PySem.W.nsIn K mainGlobals "_law_pairs" = some (some (.ref (He.ga K "_law_pairs")))) && (codQ K (He.ga K "_law_pairs") "_law_pairs")
def ck33 (K : PySem.W.Frag) : Bool := decide (PySem.W.nsIn K mainGlobals "_law_order" = some (some (.ref (He.ga K "_law_order")))) && (codQ K (He.ga K "_law_order") "_law_order")
def ck34 (K : PySem.W.Frag) : Bool := decide (PySem.W.nsIn K mainGlobals "_law_dot" = some (some (.ref (He.ga K "_law_dot")))) && (codQ K (He.ga K "_law_dot") "_law_dot")
def ck35 (K : PySem.W.Frag) : Bool := decide (PySem.W.nsIn K mainGlobals "_law_followed" = some (some (.ref (He.ga K "_law_followed")))) && (codQ K (He.ga K "_law_followed") "_law_followed")
def ck36 (K : PySem.W.Frag) : Bool := decide (PySem.W.nsIn K mainGlobals "law" = some (some (.ref (He.ga K "law")))) && (codQ K (He.ga K "law") "law")
def ck37 (K : PySem.W.Frag) : Bool := decide (PySem.W.nsIn K mainGlobals "gcd" = some (some (.builtin "math.gcd")))
def ck38 (K : PySem.W.Frag) : Bool := decide (PySem.W.nsIn K mainGlobals "zip" = some (none))
def ck39 (K : PySem.W.Frag) : Bool := decide (PySem.W.nsIn K mainGlobals "range" = some (none))
def ck40 (K : PySem.W.Frag) : Bool := decide (PySem.W.nsIn K mainGlobals "len" = some (none))
def ck41 (K : PySem.W.Frag) : Bool := decide (PySem.W.nsIn K mainGlobals "list" = some (none))
def ck42 (K : PySem.W.Frag) : Bool := decide (PySem.W.nsIn K mainGlobals "int" = some (none))
def ck43 (K : PySem.W.Frag) : Bool := decide (PySem.W.nsIn K mainGlobals "tuple" = some (none))
def ck44 (K : PySem.W.Frag) : Bool := decide (PySem.W.nsIn K mainGlobals "abs" = some (none))
def ck45 (K : PySem.W.Frag) : Bool := decide (PySem.W.nsIn K mainGlobals "isinstance" = some (none))
def ck46 (K : PySem.W.Frag) : Bool := decide (PySem.W.nsIn K mainGlobals "bool" = some (none))
def ck47 (K : PySem.W.Frag) : Bool := decide (PySem.W.nsIn K mainGlobals "sum" = some (none))
def ck48 (K : PySem.W.Frag) : Bool := decide (PySem.W.nsIn K mainGlobals "min" = some (none))
def ck49 (K : PySem.W.Frag) : Bool := decide (PySem.W.nsIn K mainGlobals "ZERO" = some (some (.ref (He.ga K "ZERO")))) && (tupQ K (He.ga K "ZERO") [0, 1])
def ck50 (K : PySem.W.Frag) : Bool := decide (PySem.W.nsIn K mainGlobals "ONE" = some (some (.ref (He.ga K "ONE")))) && (tupQ K (He.ga K "ONE") [1, 1])
def dq0 : DefQ := ⟨fun K => (He.ga K "common_divisor"), "common_divisor", "common_divisor", s_common_divisor, []⟩
def dq1 : DefQ := ⟨fun K => (He.ga K "make_ratio"), "make_ratio", "make_ratio", s_make_ratio, []⟩
def dq2 : DefQ := ⟨fun K => (He.ga K "add"), "add", "add", s_add, []⟩
def dq3 : DefQ := ⟨fun K => (He.ga K "subtract"), "subtract", "subtract", s_subtract, []⟩
def dq4 : DefQ := ⟨fun K => (He.ga K "multiply"), "multiply", "multiply", s_multiply, []⟩
def dq5 : DefQ := ⟨fun K => (He.ga K "divide"), "divide", "divide", s_divide, []⟩
def dq6 : DefQ := ⟨fun K => (He.ga K "total"), "total", "total", s_total, []⟩
def dq7 : DefQ := ⟨fun K => (He.ga K "without"), "without", "without", s_without, []⟩
def dq8 : DefQ := ⟨fun K => (He.ga K "first_nonzero"), "first_nonzero", "first_nonzero", s_first_nonzero, []⟩
def dq9 : DefQ := ⟨fun K => (He.ga K "solve"), "solve", "solve", s_solve, []⟩
def dq10 : DefQ := ⟨fun K => (He.ga K "joint_states"), "joint_states", "joint_states", s_joint_states, []⟩
def dq11 : DefQ := ⟨fun K => (He.ga K "table_places"), "table_places", "table_places", s_table_places, []⟩
def dq12 : DefQ := ⟨fun K => (He.ga K "pairs_of"), "pairs_of", "pairs_of", s_pairs_of, []⟩
def dq13 : DefQ := ⟨fun K => (He.ga K "joint_visits"), "joint_visits", "joint_visits", s_joint_visits, []⟩
def dq14 : DefQ := ⟨fun K => (He.ga K "choice_visits"), "choice_visits", "choice_visits", s_choice_visits, []⟩
def dq15 : DefQ := ⟨fun K => (He.ga K "order_choices"), "order_choices", "order_choices", s_order_choices, []⟩
def dq16 : DefQ := ⟨fun K => (He.ga K "order_visits"), "order_visits", "order_visits", s_order_visits, []⟩
def dq17 : DefQ := ⟨fun K => (He.ga K "visits_gain"), "visits_gain", "visits_gain", s_visits_gain, []⟩
def dq18 : DefQ := ⟨fun K => (He.ga K "_law_cell"), "_law_cell", "_law_cell", s__law_cell, []⟩
def dq19 : DefQ := ⟨fun K => (He.ga K "_law_draws"), "_law_draws", "_law_draws", s__law_draws, []⟩
def dq20 : DefQ := ⟨fun K => (He.ga K "_law_head"), "_law_head", "_law_head", s__law_head, []⟩
def dq21 : DefQ := ⟨fun K => (He.ga K "_law_low"), "_law_low", "_law_low", s__law_low, []⟩
def dq22 : DefQ := ⟨fun K => (He.ga K "_law_is_integer"), "_law_is_integer", "_law_is_integer", s__law_is_integer, []⟩
def dq23 : DefQ := ⟨fun K => (He.ga K "_law_is_ratio"), "_law_is_ratio", "_law_is_ratio", s__law_is_ratio, []⟩
def dq24 : DefQ := ⟨fun K => (He.ga K "_law_add"), "_law_add", "_law_add", s__law_add, []⟩
def dq25 : DefQ := ⟨fun K => (He.ga K "_law_mul"), "_law_mul", "_law_mul", s__law_mul, []⟩
def dq26 : DefQ := ⟨fun K => (He.ga K "_law_fraction"), "_law_fraction", "_law_fraction", s__law_fraction, []⟩
def dq27 : DefQ := ⟨fun K => (He.ga K "_law_discount"), "_law_discount", "_law_discount", s__law_discount, []⟩
def dq28 : DefQ := ⟨fun K => (He.ga K "_law_game"), "_law_game", "_law_game", s__law_game, []⟩
def dq29 : DefQ := ⟨fun K => (He.ga K "_law_are_ratios"), "_law_are_ratios", "_law_are_ratios", s__law_are_ratios, []⟩
def dq30 : DefQ := ⟨fun K => (He.ga K "_law_small_company"), "_law_small_company", "_law_small_company", s__law_small_company, []⟩
def dq31 : DefQ := ⟨fun K => (He.ga K "_law_joints"), "_law_joints", "_law_joints", s__law_joints, []⟩
def dq32 : DefQ := ⟨fun K => (He.ga K "_law_pairs"), "_law_pairs", "_law_pairs", s__law_pairs, []⟩
def dq33 : DefQ := ⟨fun K => (He.ga K "_law_order"), "_law_order", "_law_order", s__law_order, []⟩
def dq34 : DefQ := ⟨fun K => (He.ga K "_law_dot"), "_law_dot", "_law_dot", s__law_dot, []⟩
def dq35 : DefQ := ⟨fun K => (He.ga K "_law_followed"), "_law_followed", "_law_followed", s__law_followed, []⟩
def dq36 : DefQ := ⟨fun K => (He.ga K "law"), "law", "law", s_law, []⟩
def cks_0 : List (PySem.W.Frag → Bool) := [ck0, ck1, ck2, ck3, ck4, ck5, ck6, ck7, ck8, ck9, ck10, ck11, ck12, ck13, ck14, ck15, ck16, ck17, ck18, ck19]
def cks_1 : List (PySem.W.Frag → Bool) := [ck20, ck21, ck22, ck23, ck24, ck25, ck26, ck27, ck28, ck29, ck30, ck31, ck32, ck33, ck34, ck35, ck36, ck37, ck38, ck39]
def cks_2 : List (PySem.W.Frag → Bool) := [ck40, ck41, ck42, ck43, ck44, ck45, ck46, ck47, ck48, ck49, ck50]
def cks : List (PySem.W.Frag → Bool) := cks_0 ++ (cks_1 ++ (cks_2))
def dqs_0 : List (DefQ) := [dq0, dq1, dq2, dq3, dq4, dq5, dq6, dq7, dq8, dq9, dq10, dq11, dq12, dq13, dq14, dq15, dq16, dq17, dq18, dq19]
def dqs_1 : List (DefQ) := [dq20, dq21, dq22, dq23, dq24, dq25, dq26, dq27, dq28, dq29, dq30, dq31, dq32, dq33, dq34, dq35, dq36]
def dqs : List (DefQ) := dqs_0 ++ (dqs_1)
def nms_0 : List Str := ["gcd", "__name__", "AnycompanyError", "ZeroDenominator", "__name__", "common_divisor", "make_ratio", "add", "subtract", "multiply", "divide", "total", "__name__", "without", "first_nonzero", "solve", "__name__", "joint_states", "table_places", "__name__"]
def nms_1 : List Str := ["ZERO", "ONE", "pairs_of", "joint_visits", "choice_visits", "order_choices", "order_visits", "visits_gain", "__name__", "_law_cell", "_law_draws", "_law_head", "_law_low", "_law_is_integer", "_law_is_ratio", "_law_add", "_law_mul", "_law_fraction", "_law_discount", "_law_game"]
def nms_2 : List Str := ["_law_are_ratios", "_law_small_company", "_law_joints", "_law_pairs", "_law_order", "_law_dot", "_law_followed"]
def nms : List Str := nms_0 ++ (nms_1 ++ (nms_2))
abbrev RX : PySem.W.OpenRow := PySem.W.OpenLaw.row PySem.Challenge.rw_anycompany_k57_order_visits
abbrev hkX : PySem.W.Hook := hookQ 5 cks dqs
def obX (s : PySem.W.SharedT) : AlQ := obsQG 5 cks dqs (HandSHeadRun.getT s)
theorem obX_eq (s : PySem.W.SharedT) : obX s = hkX.obs s.abs := obsQG_eq (HandSHeadRun.getT_eq s)
set_option maxHeartbeats 0 in
theorem runX (w : World) : RunEq2 RX (PySem.W.view RX.prog [47]) hkX obX 4000 60000 nms w := by
  show (endG _ _ _ _).map _ = _
  kernel_rfl
end Lw
set_option Elab.async false
set_option linter.all false
set_option maxRecDepth 100000
set_option maxHeartbeats 4000000
namespace Lw
open PySem L2 Q
abbrev d_ZERO : D := .tup [.int 0, .int 1]
abbrev d_ONE : D := .tup [.int 1, .int 1]
noncomputable def m_common_divisor : SM :=
  sRet (mL gGcd (mCons (mView 0) (mCons (mView 1) (mNil))))
noncomputable def f_common_divisor : List D → Option D := runD 2 2 m_common_divisor
noncomputable def m_make_ratio : SM :=
  sSeq (sIf (mTst (m2 oEq (mView 1) (mC (.int 0)))) (sNever) (sNext))
  (sSeq (sAsg 2 (mCall f_common_divisor (mCons (mName 0) (mCons (mName 1) (mNil)))))
  (sSeq (sIf (mTst (m2 oLt (mView 1) (mC (.int 0)))) (sAsg 2 (m1 oNeg (mView 2))) (sNext))
  (sRet (mTup (mCons (m2 oFdiv (mView 0) (mView 2)) (mCons (m2 oFdiv (mView 1) (mView 2)) (mNil)))))))
noncomputable def f_make_ratio : List D → Option D := runD 2 3 m_make_ratio
noncomputable def m_add : SM :=
  sRet (mCall f_make_ratio (mCons (m2 oAdd (m2 oMul (m2 oIx (mView 0) (mC (.int 0))) (m2 oIx (mView 1) (mC (.int 1)))) (m2 oMul (m2 oIx (mView 1) (mC (.int 0))) (m2 oIx (mView 0) (mC (.int 1))))) (mCons (m2 oMul (m2 oIx (mView 0) (mC (.int 1))) (m2 oIx (mView 1) (mC (.int 1)))) (mNil))))
noncomputable def f_add : List D → Option D := runD 2 2 m_add
noncomputable def m_subtract : SM :=
  sRet (mCall f_make_ratio (mCons (m2 oSub (m2 oMul (m2 oIx (mView 0) (mC (.int 0))) (m2 oIx (mView 1) (mC (.int 1)))) (m2 oMul (m2 oIx (mView 1) (mC (.int 0))) (m2 oIx (mView 0) (mC (.int 1))))) (mCons (m2 oMul (m2 oIx (mView 0) (mC (.int 1))) (m2 oIx (mView 1) (mC (.int 1)))) (mNil))))
noncomputable def f_subtract : List D → Option D := runD 2 2 m_subtract
noncomputable def m_multiply : SM :=
  sRet (mCall f_make_ratio (mCons (m2 oMul (m2 oIx (mView 0) (mC (.int 0))) (m2 oIx (mView 1) (mC (.int 0)))) (mCons (m2 oMul (m2 oIx (mView 0) (mC (.int 1))) (m2 oIx (mView 1) (mC (.int 1)))) (mNil))))
noncomputable def f_multiply : List D → Option D := runD 2 2 m_multiply
noncomputable def m_divide : SM :=
  sSeq (sIf (mTst (m2 oEq (m2 oIx (mView 1) (mC (.int 0))) (mC (.int 0)))) (sNever) (sNext))
  (sRet (mCall f_make_ratio (mCons (m2 oMul (m2 oIx (mView 0) (mC (.int 0))) (m2 oIx (mView 1) (mC (.int 1)))) (mCons (m2 oMul (m2 oIx (mView 0) (mC (.int 1))) (m2 oIx (mView 1) (mC (.int 0)))) (mNil)))))
noncomputable def f_divide : List D → Option D := runD 2 2 m_divide
noncomputable def b1_total : SM :=
  sAsg 1 (mCall f_add (mCons (mName 1) (mCons (mName 2) (mNil))))
noncomputable def m_total : SM :=
  sSeq (sAsg 1 (mTup (mCons (mC (.int 0)) (mCons (mC (.int 1)) (mNil)))))
  (sSeq (sFor (mItF (mName 0)) (gsName 2) (b1_total))
  (sRet (mName 1)))
noncomputable def f_total : List D → Option D := runD 1 3 m_total
noncomputable def e1_without : EM O :=
  mCall f_subtract (mCons (mName 4) (mCons (mCall f_multiply (mCons (mName 3) (mCons (mName 5) (mNil)))) (mNil)))
noncomputable def m_without : SM :=
  sSeq (sAsg 3 (mFz (m2 oIx (mView 0) (mView 2))))
  (sSeq (sIf (mTst (m2 oEq (mView 3) (mTup (mCons (mC (.int 0)) (mCons (mC (.int 1)) (mNil)))))) (sRet (mName 0)) (sNext))
  (sRet (mLc [4, 5] (mZipV (mCons (mView 0) (mCons (mView 1) (mNil)))) (gsTup 2 (gsCons (gsName 4) (gsCons (gsName 5) (gsNil)))) (mYes) (e1_without))))
noncomputable def f_without : List D → Option D := runD 3 6 m_without
noncomputable def b1_first_nonzero : SM :=
  sIf (mTst (m2 oNe (m2 oIx (mView 0) (mView 2)) (mTup (mCons (mC (.int 0)) (mCons (mC (.int 1)) (mNil)))))) (sRet (mName 2)) (sNext)
noncomputable def m_first_nonzero : SM :=
  sSeq (sFor (mR1 (mCons (mView 1) (mNil))) (gsName 2) (b1_first_nonzero))
  (sRet (mC .non))
noncomputable def f_first_nonzero : List D → Option D := runD 2 3 m_first_nonzero
noncomputable def e1_solve : EM O :=
  mTup (mCons (mL gInt (mCons (m2 oEq (mView 11) (mView 5)) (mNil))) (mCons (mC (.int 1)) (mNil)))
noncomputable def b1_solve : SM :=
  sAsg 6 (mCall f_without (mCons (mName 6) (mCons (mName 8) (mCons (mName 7) (mNil)))))
noncomputable def e2_solve : EM O :=
  mCall f_divide (mCons (mName 12) (mCons (mName 9) (mNil)))
noncomputable def e3_solve : EM O :=
  mCall f_without (mCons (mName 8) (mCons (mName 6) (mCons (mName 7) (mNil))))
noncomputable def r1_solve : SM :=
  sApp 4 (mName 7)
noncomputable def r2_solve : SM :=
  sSeq (sApp 3 (mName 6))
  (r1_solve)
noncomputable def r3_solve : SM :=
  sSeq (sAsg 3 (mLc [8] (mItV (mView 3)) (gsName 8) (mYes) (e3_solve)))
  (r2_solve)
noncomputable def r4_solve : SM :=
  sSeq (sAsg 6 (mLc [12] (mItV (mView 6)) (gsName 12) (mYes) (e2_solve)))
  (r3_solve)
noncomputable def r5_solve : SM :=
  sSeq (sAsg 9 (mFz (m2 oIx (mView 6) (mView 7))))
  (r4_solve)
noncomputable def r6_solve : SM :=
  sSeq (sIf (mTst (m2 oIs (mView 7) (mC .non))) (sRet (mTup (mCons (mC (.str "dependency")) (mCons (mL gTuple (mCons (mSlice (mView 6) (mOSome (m2 oSub (mL gLen (mCons (mView 6) (mNil))) (mView 2))) (mONone)) (mNil))) (mNil))))) (sNext))
  (r5_solve)
noncomputable def r7_solve : SM :=
  sSeq (sAsg 7 (mCall f_first_nonzero (mCons (mName 6) (mCons (mName 2) (mNil)))))
  (r6_solve)
noncomputable def r8_solve : SM :=
  sSeq (sForZ 4 3 (gsTup 2 (gsCons (gsName 7) (gsCons (gsName 8) (gsNil)))) (b1_solve))
  (r7_solve)
noncomputable def b2_solve : SM :=
  sSeq (sAsg 6 (m2 oAdd (m2 oAdd (mL gList (mCons (m2 oIx (mView 0) (mView 5)) (mNil))) (mL gList (mCons (m2 oIx (mView 1) (mView 5)) (mNil)))) (mLc [11] (mR1 (mCons (mView 2) (mNil))) (gsName 11) (mYes) (e1_solve))))
  (r8_solve)
noncomputable def b3_solve : SM :=
  sSetIx 10 (mL gTuple (mCons (mSlice (mView 6) (mOSome (mView 2)) (mOSome (m2 oSub (mL gLen (mCons (mView 6) (mNil))) (mView 2)))) (mNil))) (mView 7)
noncomputable def r9_solve : SM :=
  sRet (mTup (mCons (mC (.str "solution")) (mCons (mL gTuple (mCons (mView 10) (mNil))) (mNil))))
noncomputable def r10_solve : SM :=
  sSeq (sFor (mZipF (mCons (mName 4) (mCons (mName 3) (mNil)))) (gsTup 2 (gsCons (gsName 7) (gsCons (gsName 6) (gsNil)))) (b3_solve))
  (r9_solve)
noncomputable def r11_solve : SM :=
  sSeq (sAsg 10 (m2 oMul (mLst (mCons (mTup (mNil)) (mNil))) (mView 2)))
  (r10_solve)
noncomputable def r12_solve : SM :=
  sSeq (sFor (mR1 (mCons (mView 2) (mNil))) (gsName 5) (b2_solve))
  (r11_solve)
noncomputable def r13_solve : SM :=
  sSeq (sAsg 4 (mLst (mNil)))
  (r12_solve)
noncomputable def r14_solve : SM :=
  sSeq (sAsg 3 (mLst (mNil)))
  (r13_solve)
noncomputable def m_solve : SM :=
  sSeq (sAsg 2 (mL gLen (mCons (mView 0) (mNil))))
  (r14_solve)
noncomputable def f_solve : List D → Option D := runD 2 13 m_solve
noncomputable def e1_joint_states : EM O :=
  m2 oCatK (mView 3) (mTupK (mName 4))
noncomputable def b1_joint_states : SM :=
  sAsg 1 (mLc2 [3, 4] (mItV (mView 1)) (gsName 3) (mYes) [4] (mR1 (mCons (mL gLen (mCons (m2 oIx (mView 2) (mC (.int 0))) (mNil))) (mNil))) (gsName 4) (mYes) (e1_joint_states))
noncomputable def m_joint_states : SM :=
  sSeq (sAsg 1 (mLst (mCons (mTup (mNil)) (mNil))))
  (sSeq (sFor (mItF (mName 0)) (gsName 2) (b1_joint_states))
  (sRet (mL gTuple (mCons (mView 1) (mNil)))))
noncomputable def f_joint_states : List D → Option D := runD 1 5 m_joint_states
noncomputable def b1_table_places : SM :=
  sDSetT 1 (mL gLenT (mCons (mView 1) (mNil))) (mView 2)
noncomputable def m_table_places : SM :=
  sSeq (sAsg 1 (mDNewT))
  (sSeq (sFor (mItF (mCall f_joint_states (mCons (mName 0) (mNil)))) (gsName 2) (b1_table_places))
  (sRet (mName 1)))
noncomputable def f_table_places : List D → Option D := runD 1 3 m_table_places
noncomputable def b1_pairs_of : SM :=
  sApp 1 (mTup (mCons (mName 2) (mCons (mName 3) (mNil))))
noncomputable def b2_pairs_of : SM :=
  sFor (mR1 (mCons (mL gLen (mCons (m2 oIx (m2 oIx (m2 oIx (mView 0) (mView 2)) (mC (.int 0))) (mC (.int 0))) (mNil))) (mNil))) (gsName 3) (b1_pairs_of)
noncomputable def m_pairs_of : SM :=
  sSeq (sAsg 1 (mLst (mNil)))
  (sSeq (sFor (mR1 (mCons (mL gLen (mCons (mView 0) (mNil))) (mNil))) (gsName 2) (b2_pairs_of))
  (sRet (mL gTuple (mCons (mView 1) (mNil)))))
noncomputable def f_pairs_of : List D → Option D := runD 1 4 m_pairs_of
noncomputable def e1_joint_visits : EM O :=
  mC d_ZERO
noncomputable def e2_joint_visits : EM O :=
  mLc [15] (mItV (mView 4)) (gsName 15) (mYes) (e1_joint_visits)
noncomputable def b1_joint_visits : SM :=
  sSeq (sAsg 12 (mFz (m2 oDIxT (mView 5) (m2 oAdd (m2 oAdd (mSlice (mView 8) (mONone) (mOSome (mView 9))) (mTup (mCons (mName 10) (mNil)))) (mSlice (mView 8) (mOSome (m2 oAdd (mView 9) (mC (.int 1)))) (mONone))))))
  (sSetAt 6 (mCall f_subtract (mCons (mFz (m2 oIx (m2 oIx (mView 6) (mView 12)) (mView 7))) (mCons (mCall f_multiply (mCons (mName 3) (mCons (mName 11) (mNil)))) (mNil)))) (mView 12) (mView 7))
noncomputable def b2_joint_visits : SM :=
  sSeq (sAsg 8 (mFz (m2 oIx (mView 4) (mView 7))))
  (sSeq (sAsg 9 (mFz (m2 oIx (mView 1) (mView 7))))
  (sSeq (sSetAt 6 (mCall f_add (mCons (mFz (m2 oIx (m2 oIx (mView 6) (mView 7)) (mView 7))) (mCons (mC d_ONE) (mNil)))) (mView 7) (mView 7))
  (sFor (mItF (mFz (m2 oIx (m2 oIx (m2 oIx (mView 0) (mView 9)) (mC (.int 1))) (m2 oIx (mView 8) (mView 9))))) (gsTup 2 (gsCons (gsName 10) (gsCons (gsName 11) (gsNil)))) (b1_joint_visits))))
noncomputable def e3_joint_visits : EM O :=
  mIf (mTst (m2 oEq (mView 8) (mView 2))) (mTup (mCons (mC d_ONE) (mNil))) (mTup (mCons (mC d_ZERO) (mNil)))
noncomputable def e4_joint_visits : EM O :=
  mL gTuple (mCons (mView 16) (mNil))
noncomputable def e5_joint_visits : EM O :=
  mFz (m2 oIx (mView 17) (mC (.int 0)))
noncomputable def m_joint_visits : SM :=
  sSeq (sAsg 4 (mUnK (mCall f_joint_states (mCons (mName 0) (mNil)))))
  (sSeq (sAsg 5 (mCall f_table_places (mCons (mName 0) (mNil))))
  (sSeq (sAsg 6 (mLc [8] (mItV (mView 4)) (gsName 8) (mYes) (e2_joint_visits)))
  (sSeq (sFor (mR1 (mCons (mL gLen (mCons (mView 4) (mNil))) (mNil))) (gsName 7) (b2_joint_visits))
  (sSeq (sAsg 13 (mLc [8] (mItV (mView 4)) (gsName 8) (mYes) (e3_joint_visits)))
  (sSeq (sAsg 14 (mCall f_solve (mCons (mL gTuple (mCons (mLc [16] (mItF (mName 6)) (gsName 16) (mYes) (e4_joint_visits)) (mNil))) (mCons (mL gTuple (mCons (mView 13) (mNil))) (mNil)))))
  (sRet (mLc [17] (mItV (m2 oIx (mView 14) (mC (.int 1)))) (gsName 17) (mYes) (e5_joint_visits))))))))
noncomputable def f_joint_visits : List D → Option D := runD 4 18 m_joint_visits
noncomputable def e1_choice_visits : EM O :=
  mName 12
noncomputable def e2_choice_visits : EM O :=
  mName 9
noncomputable def b1_choice_visits : SM :=
  sIf (mAnd (mTst (m2 oEq (m2 oIx (mView 1) (mView 11)) (mView 8))) (mTst (m2 oEq (m2 oIx (m2 oIx (mView 6) (mView 11)) (mView 8)) (mView 9)))) (sApp 10 (mFz (m2 oIx (mView 5) (mView 11)))) (sNext)
noncomputable def b2_choice_visits : SM :=
  sSeq (sAsg 10 (mLst (mNil)))
  (sSeq (sFor (mR1 (mCons (mL gLen (mCons (mView 6) (mNil))) (mNil))) (gsName 11) (b1_choice_visits))
  (sApp 7 (mCall f_total (mCons (mName 10) (mNil)))))
noncomputable def m_choice_visits : SM :=
  sSeq (sAsg 3 (mL gTuple (mCons (mLc [12, 9] (mItV (mView 0)) (gsTup 2 (gsCons (gsName 12) (gsCons (gsName 9) (gsNil)))) (mYes) (e1_choice_visits)) (mNil))))
  (sSeq (sAsg 4 (mL gTuple (mCons (mLc [12, 9] (mItV (mView 0)) (gsTup 2 (gsCons (gsName 12) (gsCons (gsName 9) (gsNil)))) (mYes) (e2_choice_visits)) (mNil))))
  (sSeq (sAsg 5 (mCall f_joint_visits (mCons (mName 3) (mCons (mName 1) (mCons (mName 4) (mCons (mName 2) (mNil)))))))
  (sSeq (sAsg 6 (mUnK (mCall f_joint_states (mCons (mName 3) (mNil)))))
  (sSeq (sAsg 7 (mLst (mNil)))
  (sSeq (sFor (mItF (mCall f_pairs_of (mCons (mName 0) (mNil)))) (gsTup 2 (gsCons (gsName 8) (gsCons (gsName 9) (gsNil)))) (b2_choice_visits))
  (sRet (mL gTuple (mCons (mView 7) (mNil)))))))))
noncomputable def f_choice_visits : List D → Option D := runD 3 13 m_choice_visits
noncomputable def b1_order_choices : SM :=
  sDSetT 2 (mName 3) (m2 oIx (mView 1) (mView 3))
noncomputable def b2_order_choices : SM :=
  sIf (mTst (m2 oLt (m2 oDIxT (mView 2) (mTup (mCons (mName 7) (mCons (mFz (m2 oIx (mView 5) (mView 7))) (mNil))))) (m2 oDIxT (mView 2) (mTup (mCons (mName 6) (mCons (mFz (m2 oIx (mView 5) (mView 6))) (mNil))))))) (sAsg 6 (mName 7)) (sNext)
noncomputable def b3_order_choices : SM :=
  sSeq (sAsg 6 (mC (.int 0)))
  (sSeq (sFor (mR2 (mCons (mC (.int 1)) (mCons (mL gLen (mCons (mView 5) (mNil))) (mNil)))) (gsName 7) (b2_order_choices))
  (sApp 4 (mName 6)))
noncomputable def m_order_choices : SM :=
  sSeq (sAsg 2 (mDNewT))
  (sSeq (sFor (mR1 (mCons (mL gLen (mCons (mView 1) (mNil))) (mNil))) (gsName 3) (b1_order_choices))
  (sSeq (sAsg 4 (mLst (mNil)))
  (sSeq (sFor (mItF (mUnK (mCall f_joint_states (mCons (mName 0) (mNil))))) (gsName 5) (b3_order_choices))
  (sRet (mL gTuple (mCons (mView 4) (mNil)))))))
noncomputable def f_order_choices : List D → Option D := runD 2 8 m_order_choices
noncomputable def e1_order_visits : EM O :=
  mName 4
noncomputable def m_order_visits : SM :=
  sSeq (sAsg 3 (mL gTuple (mCons (mLc [4, 5] (mItV (mView 0)) (gsTup 2 (gsCons (gsName 4) (gsCons (gsName 5) (gsNil)))) (mYes) (e1_order_visits)) (mNil))))
  (sRet (mCall f_choice_visits (mCons (mName 0) (mCons (mCall f_order_choices (mCons (mName 3) (mCons (mName 1) (mNil)))) (mCons (mName 2) (mNil))))))
noncomputable def f_order_visits : List D → Option D := runD 3 6 m_order_visits
noncomputable def b1_visits_gain : SM :=
  sSeq (sAsgT (gsTup 2 (gsCons (gsName 5) (gsCons (gsName 6) (gsNil)))) (mFz (m2 oIx (mView 2) (mView 4))))
  (sApp 3 (mCall f_multiply (mCons (mFz (m2 oIx (mView 1) (mView 4))) (mCons (mFz (m2 oIx (m2 oIx (m2 oIx (m2 oIx (mView 0) (mView 5)) (mC (.int 0))) (mC (.int 0))) (mView 6))) (mNil)))))
noncomputable def m_visits_gain : SM :=
  sSeq (sAsg 2 (mCall f_pairs_of (mCons (mName 0) (mNil))))
  (sSeq (sAsg 3 (mLst (mNil)))
  (sSeq (sFor (mR1 (mCons (mL gLen (mCons (mView 2) (mNil))) (mNil))) (gsName 4) (b1_visits_gain))
  (sRet (mCall f_total (mCons (mName 3) (mNil))))))
noncomputable def f_visits_gain : List D → Option D := runD 2 7 m_visits_gain
noncomputable def m__law_cell : SM :=
  sSeq (sIf (mTst (m2 oLt (mView 1) (mL gLen (mCons (mView 0) (mNil))))) (sRet (mFz (m2 oIx (mView 0) (mView 1)))) (sNext))
  (sRet (m2 oAdd (m2 oMul (mC (.int 5)) (mView 1)) (mC (.int 3))))
noncomputable def f__law_cell : List D → Option D := runD 2 2 m__law_cell
noncomputable def b1__law_draws : SM :=
  sIf (mAnd (mTru oTru (mView 3)) (mTst (m2 oGt (mView 2) (mC (.int 0))))) (sSeq (sApp 5 (m2 oMod (mL gInt (mCons (mView 2) (mNil))) (mC (.int 5040))))
  (sAsg 2 (m2 oFdiv (mView 2) (mC (.int 5040))))) (sSeq (sAsg 7 (m2 oMod (mL gInt (mCons (m2 oAdd (m2 oAdd (m2 oMul (mView 4) (mC (.int 48271))) (m2 oMul (m2 oAdd (mView 6) (mC (.int 1))) (mC (.int 69621)))) (mC (.int 11))) (mNil))) (mC (.int 2147483647))))
  (sSeq (sAsg 7 (m2 oMod (mL gInt (mCons (m2 oAdd (m2 oMul (mView 7) (mView 7)) (m2 oMul (mC (.int 40692)) (m2 oAdd (mView 6) (mC (.int 3))))) (mNil))) (mC (.int 2147483399))))
  (sApp 5 (m2 oMod (mL gInt (mCons (m2 oFdiv (mView 7) (mC (.int 64))) (mNil))) (mC (.int 5040))))))
noncomputable def m__law_draws : SM :=
  sSeq (sAsg 2 (mL gAbs (mCons (mL gInt (mCons (mView 0) (mNil))) (mNil))))
  (sSeq (sAsg 3 (m2 oGe (mView 2) (m2 oPow (mC (.int 10)) (mC (.int 18)))))
  (sSeq (sAsg 4 (mName 2))
  (sSeq (sAsg 5 (mLst (mNil)))
  (sSeq (sFor (mR1 (mCons (mView 1) (mNil))) (gsName 6) (b1__law_draws))
  (sRet (mName 5))))))
noncomputable def f__law_draws : List D → Option D := runD 2 8 m__law_draws
noncomputable def m__law_head : SM :=
  sRet (mCall f__law_draws (mCons (mCall f__law_cell (mCons (mName 0) (mCons (mC (.int 0)) (mNil)))) (mCons (mC (.int 3)) (mNil))))
noncomputable def f__law_head : List D → Option D := runD 1 1 m__law_head
noncomputable def b1__law_low : SM :=
  sSeq (sAsg 4 (m2 oMod (mL gInt (mCons (mView 2) (mNil))) (mView 3)))
  (sSeq (sAsg 2 (mName 3))
  (sAsg 3 (mName 4)))
noncomputable def m__law_low : SM :=
  sSeq (sAsg 2 (mL gAbs (mCons (mView 0) (mNil))))
  (sSeq (sAsg 3 (mL gAbs (mCons (mView 1) (mNil))))
  (sSeq (sWhile (mTst (m2 oGt (mView 3) (mC (.int 0)))) (b1__law_low))
  (sSeq (sIf (mTst (m2 oLt (mView 1) (mC (.int 0)))) (sSeq (sAsg 0 (m2 oSub (mC (.int 0)) (mView 0)))
  (sAsg 1 (m2 oSub (mC (.int 0)) (mView 1)))) (sNext))
  (sRet (mTup (mCons (m2 oFdiv (mView 0) (mView 2)) (mCons (m2 oFdiv (mView 1) (mView 2)) (mNil))))))))
noncomputable def f__law_low : List D → Option D := runD 2 5 m__law_low
noncomputable def m__law_is_integer : SM :=
  sRet (mAndV (m1 (fun o => some (.fz (.bl (isiO .int o)))) (mView 0)) (mNotV (m1 (fun o => some (.fz (.bl (isiO .bool o)))) (mView 0))))
noncomputable def f__law_is_integer : List D → Option D := runD 1 1 m__law_is_integer
noncomputable def m__law_is_ratio : SM :=
  sSeq (sIf (mOr (mNot (mTru oTru (m1 (fun o => some (.fz (.bl (isiO .tup o)))) (mView 0)))) (mTst (m2 oNe (mL gLen (mCons (mView 0) (mNil))) (mC (.int 2))))) (sRet (mC (.bl false))) (sNext))
  (sSeq (sIf (mOr (mNot (mTru oTru (mCall f__law_is_integer (mCons (mFz (m2 oIx (mView 0) (mC (.int 0)))) (mNil))))) (mOr (mNot (mTru oTru (mCall f__law_is_integer (mCons (mFz (m2 oIx (mView 0) (mC (.int 1)))) (mNil))))) (mTst (m2 oLt (m2 oIx (mView 0) (mC (.int 1))) (mC (.int 1)))))) (sRet (mC (.bl false))) (sNext))
  (sRet (m2 oEq (mCall f__law_low (mCons (mFz (m2 oIx (mView 0) (mC (.int 0)))) (mCons (mFz (m2 oIx (mView 0) (mC (.int 1)))) (mNil)))) (mView 0))))
noncomputable def f__law_is_ratio : List D → Option D := runD 1 1 m__law_is_ratio
noncomputable def m__law_add : SM :=
  sRet (mCall f__law_low (mCons (m2 oAdd (m2 oMul (m2 oIx (mView 0) (mC (.int 0))) (m2 oIx (mView 1) (mC (.int 1)))) (m2 oMul (m2 oIx (mView 1) (mC (.int 0))) (m2 oIx (mView 0) (mC (.int 1))))) (mCons (m2 oMul (m2 oIx (mView 0) (mC (.int 1))) (m2 oIx (mView 1) (mC (.int 1)))) (mNil))))
noncomputable def f__law_add : List D → Option D := runD 2 2 m__law_add
noncomputable def m__law_mul : SM :=
  sRet (mCall f__law_low (mCons (m2 oMul (m2 oIx (mView 0) (mC (.int 0))) (m2 oIx (mView 1) (mC (.int 0)))) (mCons (m2 oMul (m2 oIx (mView 0) (mC (.int 1))) (m2 oIx (mView 1) (mC (.int 1)))) (mNil))))
noncomputable def f__law_mul : List D → Option D := runD 2 2 m__law_mul
noncomputable def m__law_fraction : SM :=
  sRet (mCall f__law_low (mCons (m2 oSub (m2 oMod (mL gInt (mCons (mView 0) (mNil))) (mC (.int 13))) (mC (.int 6))) (mCons (m2 oAdd (mC (.int 1)) (m2 oMod (m2 oFdiv (mL gInt (mCons (mView 0) (mNil))) (mC (.int 13))) (mC (.int 4)))) (mNil))))
noncomputable def f__law_fraction : List D → Option D := runD 1 1 m__law_fraction
noncomputable def m__law_discount : SM :=
  sSeq (sAsg 1 (m2 oAdd (mC (.int 2)) (m2 oMod (mL gInt (mCons (mView 0) (mNil))) (mC (.int 9)))))
  (sRet (mCall f__law_low (mCons (m2 oMod (m2 oFdiv (mL gInt (mCons (mView 0) (mNil))) (mC (.int 9))) (mView 1)) (mCons (mName 1) (mNil)))))
noncomputable def f__law_discount : List D → Option D := runD 1 2 m__law_discount
noncomputable def b1__law_game : SM :=
  sSeq (sAsg 7 (mCall f__law_fraction (mCons (mFz (m2 oIx (mView 3) (m2 oAdd (mC (.int 1)) (mView 6)))) (mNil))))
  (sSeq (sIf (mTru oTru (mView 2)) (sAsg 7 (mCall f__law_add (mCons (mTup (mCons (m2 oMul (m2 oIx (mView 7) (mC (.int 0))) (m2 oPow (mC (.int 10)) (mC (.int 30)))) (mCons (mFz (m2 oIx (mView 7) (mC (.int 1)))) (mNil)))) (mCons (mTup (mCons (m2 oMod (mL gInt (mCons (mView 0) (mNil))) (m2 oPow (mC (.int 10)) (mC (.int 30)))) (mCons (mC (.int 1)) (mNil)))) (mNil))))) (sNext))
  (sApp 5 (mName 7)))
noncomputable def e1__law_game : EM O :=
  m2 oMod (mL gInt (mCons (m2 oIx (mView 3) (m2 oAdd (m2 oAdd (m2 oAdd (mC (.int 1)) (mView 4)) (m2 oMul (mView 4) (mView 6))) (mView 10))) (mNil))) (mC (.int 4))
noncomputable def t1__law_game : EM Bool :=
  mTst (m2 oGt (m2 oIx (mView 9) (mView 10)) (mC (.int 0)))
noncomputable def e2__law_game : EM O :=
  mTup (mCons (mName 10) (mCons (mCall f__law_low (mCons (mFz (m2 oIx (mView 9) (mView 10))) (mCons (mL gSum (mCons (mView 9) (mNil))) (mNil)))) (mNil)))
noncomputable def b2__law_game : SM :=
  sSeq (sAsg 9 (mLc [10] (mR1 (mCons (mView 4) (mNil))) (gsName 10) (mYes) (e1__law_game)))
  (sSeq (sIf (mTst (m2 oEq (mL gSum (mCons (mView 9) (mNil))) (mC (.int 0)))) (sSetIx 9 (mC (.int 1)) (m2 oMod (mL gInt (mCons (m2 oAdd (mView 6) (mC (.int 1))) (mNil))) (mView 4))) (sNext))
  (sApp 8 (mL gTuple (mCons (mLc [10] (mR1 (mCons (mView 4) (mNil))) (gsName 10) (t1__law_game) (e2__law_game)) (mNil)))))
noncomputable def m__law_game : SM :=
  sSeq (sAsg 3 (mCall f__law_draws (mCons (mName 0) (mCons (m2 oAdd (m2 oAdd (mC (.int 1)) (mView 1)) (m2 oMul (mView 1) (mView 1))) (mNil)))))
  (sSeq (sAsg 4 (m2 oAdd (mC (.int 1)) (m2 oMod (mL gInt (mCons (m2 oIx (mView 3) (mC (.int 0))) (mNil))) (mView 1))))
  (sSeq (sAsg 5 (mLst (mNil)))
  (sSeq (sFor (mR1 (mCons (mView 4) (mNil))) (gsName 6) (b1__law_game))
  (sSeq (sAsg 8 (mLst (mNil)))
  (sSeq (sFor (mR1 (mCons (mView 4) (mNil))) (gsName 6) (b2__law_game))
  (sRet (mTup (mCons (mL gTuple (mCons (mView 5) (mNil))) (mCons (mL gTuple (mCons (mView 8) (mNil))) (mNil))))))))))
noncomputable def f__law_game : List D → Option D := runD 3 11 m__law_game
noncomputable def b1__law_are_ratios : SM :=
  sIf (mNot (mTru oTru (mCall f__law_is_ratio (mCons (mName 2) (mNil))))) (sRet (mC (.bl false))) (sNext)
noncomputable def m__law_are_ratios : SM :=
  sSeq (sIf (mOr (mNot (mTru oTru (m1 (fun o => some (.fz (.bl (isiO .tup o)))) (mView 0)))) (mTst (m2 oNe (mL gLen (mCons (mView 0) (mNil))) (mView 1)))) (sRet (mC (.bl false))) (sNext))
  (sSeq (sFor (mItF (mName 0)) (gsName 2) (b1__law_are_ratios))
  (sRet (mC (.bl true))))
noncomputable def f__law_are_ratios : List D → Option D := runD 2 3 m__law_are_ratios
noncomputable def b1__law_small_company : SM :=
  sSeq (sAsg 7 (mCall f__law_game (mCons (mCall f__law_cell (mCons (mName 0) (mCons (m2 oAdd (m2 oAdd (mView 1) (mC (.int 1))) (mView 6)) (mNil)))) (mCons (mFz (m2 oIx (mView 4) (mView 6))) (mCons (mC (.bl false)) (mNil))))))
  (sApp 5 (mTup (mCons (mName 7) (mCons (m2 oMod (mL gInt (mCons (m2 oIx (mView 2) (m2 oAdd (mC (.int 1)) (mView 6))) (mNil))) (mL gLen (mCons (m2 oIx (mView 7) (mC (.int 0))) (mNil)))) (mNil)))))
noncomputable def m__law_small_company : SM :=
  sSeq (sAsg 2 (mCall f__law_draws (mCons (mCall f__law_cell (mCons (mName 0) (mCons (mName 1) (mNil)))) (mCons (mC (.int 4)) (mNil)))))
  (sSeq (sAsg 3 (m2 oMod (mL gInt (mCons (m2 oIx (mView 2) (mC (.int 0))) (mNil))) (mC (.int 8))))
  (sSeq (sAsg 4 (mLst (mCons (mC (.int 2)) (mCons (mC (.int 2)) (mNil)))))
  (sSeq (sIf (mTst (m2 oEq (mView 3) (mC (.int 4)))) (sAsg 4 (mLst (mCons (mC (.int 2)) (mCons (mC (.int 3)) (mNil))))) (sNext))
  (sSeq (sIf (mTst (m2 oEq (mView 3) (mC (.int 5)))) (sAsg 4 (mLst (mCons (mC (.int 3)) (mNil)))) (sNext))
  (sSeq (sIf (mTst (m2 oEq (mView 3) (mC (.int 6)))) (sAsg 4 (mLst (mCons (mC (.int 3)) (mCons (mC (.int 2)) (mNil))))) (sNext))
  (sSeq (sIf (mTst (m2 oEq (mView 3) (mC (.int 7)))) (sAsg 4 (mLst (mCons (mC (.int 2)) (mCons (mC (.int 1)) (mCons (mC (.int 2)) (mNil)))))) (sNext))
  (sSeq (sAsg 5 (mLst (mNil)))
  (sSeq (sFor (mR1 (mCons (mL gLen (mCons (mView 4) (mNil))) (mNil))) (gsName 6) (b1__law_small_company))
  (sRet (mL gTuple (mCons (mView 5) (mNil))))))))))))
noncomputable def f__law_small_company : List D → Option D := runD 2 8 m__law_small_company
noncomputable def b1__law_joints : SM :=
  sApp 3 (m2 oAdd (mView 4) (mTup (mCons (mName 5) (mNil))))
noncomputable def b2__law_joints : SM :=
  sFor (mR1 (mCons (mL gLen (mCons (m2 oIx (mView 2) (mC (.int 0))) (mNil))) (mNil))) (gsName 5) (b1__law_joints)
noncomputable def b3__law_joints : SM :=
  sSeq (sAsg 3 (mLst (mNil)))
  (sSeq (sFor (mItF (mName 1)) (gsName 4) (b2__law_joints))
  (sAsg 1 (mL gList (mCons (mView 3) (mNil)))))
noncomputable def m__law_joints : SM :=
  sSeq (sAsg 1 (mLst (mCons (mTup (mNil)) (mNil))))
  (sSeq (sFor (mItF (mName 0)) (gsName 2) (b3__law_joints))
  (sRet (mName 1)))
noncomputable def f__law_joints : List D → Option D := runD 1 6 m__law_joints
noncomputable def b1__law_pairs : SM :=
  sApp 1 (mTupKs (mCons (mName 2) (mCons (mName 3) (mNil))))
noncomputable def b2__law_pairs : SM :=
  sFor (mR1 (mCons (mL gLen (mCons (m2 oIx (m2 oIx (m2 oIx (mView 0) (mView 2)) (mC (.int 0))) (mC (.int 0))) (mNil))) (mNil))) (gsName 3) (b1__law_pairs)
noncomputable def m__law_pairs : SM :=
  sSeq (sAsg 1 (mLst (mNil)))
  (sSeq (sFor (mR1 (mCons (mL gLen (mCons (mView 0) (mNil))) (mNil))) (gsName 2) (b2__law_pairs))
  (sRet (mName 1)))
noncomputable def f__law_pairs : List D → Option D := runD 1 4 m__law_pairs
noncomputable def b1__law_order : SM :=
  sApp 4 (mPopAt 3 (m2 oMod (mL gInt (mCons (m2 oIx (mView 2) (mView 5)) (mNil))) (mL gLen (mCons (mView 3) (mNil)))))
noncomputable def m__law_order : SM :=
  sSeq (sAsg 2 (mCall f__law_draws (mCons (mName 0) (mCons (mL gLen (mCons (mView 1) (mNil))) (mNil)))))
  (sSeq (sAsg 3 (mL gList (mCons (mView 1) (mNil))))
  (sSeq (sAsg 4 (mLst (mNil)))
  (sSeq (sFor (mR1 (mCons (mL gLen (mCons (mView 1) (mNil))) (mNil))) (gsName 5) (b1__law_order))
  (sRet (mL gTupX (mCons (mView 4) (mNil)))))))
noncomputable def f__law_order : List D → Option D := runD 2 6 m__law_order
noncomputable def b1__law_dot : SM :=
  sAsg 2 (mCall f__law_add (mCons (mName 2) (mCons (mCall f__law_mul (mCons (mFz (m2 oIx (mView 0) (mView 3))) (mCons (mFz (m2 oIx (mView 1) (mView 3))) (mNil)))) (mNil))))
noncomputable def m__law_dot : SM :=
  sSeq (sAsg 2 (mTup (mCons (mC (.int 0)) (mCons (mC (.int 1)) (mNil)))))
  (sSeq (sFor (mR1 (mCons (mL gLen (mCons (mView 1) (mNil))) (mNil))) (gsName 3) (b1__law_dot))
  (sRet (mName 2)))
noncomputable def f__law_dot : List D → Option D := runD 2 4 m__law_dot
noncomputable def e1__law_followed : EM O :=
  m2 oIdxT (mView 1) (mTup (mCons (mName 5) (mCons (mFz (m2 oIx (mView 3) (mView 5))) (mNil))))
noncomputable def b1__law_followed : SM :=
  sSeq (sAsg 4 (mLc [5] (mR1 (mCons (mL gLen (mCons (mView 0) (mNil))) (mNil))) (gsName 5) (mYes) (e1__law_followed)))
  (sApp 2 (m2 oIdx (mView 4) (mL gMinL (mCons (mView 4) (mNil)))))
noncomputable def m__law_followed : SM :=
  sSeq (sAsg 2 (mLst (mNil)))
  (sSeq (sFor (mItF (mCall f__law_joints (mCons (mName 0) (mNil)))) (gsName 3) (b1__law_followed))
  (sRet (mL gTuple (mCons (mView 2) (mNil)))))
noncomputable def f__law_followed : List D → Option D := runD 2 6 m__law_followed
noncomputable def e1_law : EM O :=
  mFz (m2 oIx (mView 13) (mC (.int 0)))
noncomputable def b1_law : SM :=
  sIf (mTst (m2 oEq (m2 oIx (mUnk1 (m2 oIx (mUnX (mView 6)) (mView 8))) (mC (.int 0))) (m2 oIx (mUnk1 (m2 oIx (mUnX (mView 6)) (m2 oAdd (mView 8) (mC (.int 1))))) (mC (.int 0))))) (sSeq (sAsg 9 (m2 oAdd (m2 oAdd (mSlice (mUnX (mView 6)) (mONone) (mOSome (mView 8))) (mTup (mCons (mFz (m2 oIx (mUnX (mView 6)) (m2 oAdd (mView 8) (mC (.int 1))))) (mCons (mFz (m2 oIx (mUnX (mView 6)) (mView 8))) (mNil))))) (mSlice (mUnX (mView 6)) (mOSome (m2 oAdd (mView 8) (mC (.int 2)))) (mONone))))
  (sSeq (sIf (mTst (m2 oNe (mCall f_order_visits (mCons (mName 1) (mCons (mName 9) (mCons (mName 2) (mNil))))) (mView 7))) (sRet (mC (.bl false))) (sNext))
  (sBreak))) (sNext)
noncomputable def b2_law : SM :=
  sSeq (sAsg 6 (mCall f__law_order (mCons (mCall f__law_cell (mCons (mName 0) (mCons (m2 oAdd (mC (.int 5)) (mView 5)) (mNil)))) (mCons (mName 4) (mNil)))))
  (sSeq (sAsg 7 (mCall f_order_visits (mCons (mName 1) (mCons (mUnX (mName 6)) (mCons (mName 2) (mNil))))))
  (sSeq (sIf (mNot (mTru oTru (mCall f__law_are_ratios (mCons (mName 7) (mCons (mL gLen (mCons (mView 4) (mNil))) (mNil)))))) (sRet (mC (.bl false))) (sNext))
  (sSeq (sIf (mTst (m2 oNe (mView 7) (mCall f_choice_visits (mCons (mName 1) (mCons (mCall f__law_followed (mCons (mName 3) (mCons (mUnKX (mName 6)) (mNil)))) (mCons (mName 2) (mNil))))))) (sRet (mC (.bl false))) (sNext))
  (sFor (mR1 (mCons (m2 oSub (mL gLen (mCons (mUnX (mView 6)) (mNil))) (mC (.int 1))) (mNil))) (gsName 8) (b1_law)))))
noncomputable def e2_law : EM O :=
  mCall f__law_fraction (mCons (mName 14) (mNil))
noncomputable def e3_law : EM O :=
  mFz (m2 oIx (m2 oIx (m2 oIx (m2 oIx (mView 1) (m2 oIx (mUnk1 (mView 15)) (mC (.int 0)))) (mC (.int 0))) (mC (.int 0))) (m2 oIx (mUnk1 (mView 15)) (mC (.int 1))))
noncomputable def u9_law : SM :=
  sRet (m2 oEq (mView 12) (mCall f__law_dot (mCons (mLc [15] (mItV (mView 4)) (gsName 15) (mYes) (e3_law)) (mCons (mName 11) (mNil)))))
noncomputable def u8_law : SM :=
  sSeq (sIf (mNot (mTru oTru (mCall f__law_is_ratio (mCons (mName 12) (mNil))))) (sRet (mC (.bl false))) (sNext))
  (u9_law)
noncomputable def u7_law : SM :=
  sSeq (sAsg 12 (mCall f_visits_gain (mCons (mName 1) (mCons (mName 11) (mNil)))))
  (u8_law)
noncomputable def u6_law : SM :=
  sSeq (sAsg 11 (mL gTuple (mCons (mLc [14] (mItV (mView 10)) (gsName 14) (mYes) (e2_law)) (mNil))))
  (u7_law)
noncomputable def u5_law : SM :=
  sSeq (sAsg 10 (mCall f__law_draws (mCons (mCall f__law_cell (mCons (mName 0) (mCons (mC (.int 7)) (mNil)))) (mCons (mL gLen (mCons (mView 4) (mNil))) (mNil)))))
  (u6_law)
noncomputable def u4_law : SM :=
  sSeq (sFor (mR1 (mCons (mC (.int 2)) (mNil))) (gsName 5) (b2_law))
  (u5_law)
noncomputable def u3_law : SM :=
  sSeq (sAsg 4 (mCall f__law_pairs (mCons (mName 1) (mNil))))
  (u4_law)
noncomputable def u2_law : SM :=
  sSeq (sAsg 3 (mL gTuple (mCons (mLc [13] (mItV (mView 1)) (gsName 13) (mYes) (e1_law)) (mNil))))
  (u3_law)
noncomputable def u1_law : SM :=
  sSeq (sAsg 2 (mCall f__law_discount (mCons (mFz (m2 oIx (mCall f__law_head (mCons (mName 0) (mNil))) (mC (.int 1)))) (mNil))))
  (u2_law)
noncomputable def m_law : SM :=
  sSeq (sAsg 1 (mCall f__law_small_company (mCons (mName 0) (mCons (mC (.int 1)) (mNil)))))
  (u1_law)
noncomputable def f_law : List D → Option D := runD 1 16 m_law
end Lw
set_option Elab.async false
set_option linter.all false
set_option maxRecDepth 100000
set_option maxHeartbeats 1000000
namespace Lw
open PySem L2 Q
theorem common_divisor_spec (a b : Int) : f_common_divisor [.int a, .int b] = some (.int ((Nat.gcd a.natAbs b.natAbs : Nat) : Int)) := by
  refine (run_eq (by rfl)).trans ?_
  simp -implicitDefEqProofs [m_common_divisor, startE]
theorem make_ratio_spec (n d : Int) (h : d ≠ 0) : f_make_ratio [.int n, .int d] = some (encQ (Rat.divInt n d)) := by
  have hg : (((Nat.gcd n.natAbs d.natAbs : Nat) : Int)) ≠ 0 := by
    have : Nat.gcd n.natAbs d.natAbs ≠ 0 := Nat.gcd_ne_zero_right (by omega)
    omega
  refine (run_eq (by rfl)).trans ?_
  by_cases hs : d < 0
  · obtain ⟨e1, e2⟩ := divInt_parts_neg n hs
    simp -implicitDefEqProofs [m_make_ratio, startE, common_divisor_spec, h, hs, encQ, e1, e2, hg]
  · obtain ⟨e1, e2⟩ := divInt_parts_pos n (d := d) (by omega)
    simp -implicitDefEqProofs [m_make_ratio, startE, common_divisor_spec, h, hs, encQ, e1, e2, hg]
theorem add_spec {a b : Rat} (h' : sz a + sz b ≤ 134217728 := by omega) : f_add [encQ a, encQ b] = some (encQ (a + b)) := by
  refine (run_eq (by rfl)).trans ?_
  obtain ⟨h1, h2, h3, h4, h5⟩ := oks h'
  have e := make_ratio_spec (a.num * b.den + b.num * a.den) (a.den * b.den) (Int.mul_ne_zero (den_ne a) (den_ne b))
  rw [add_divInt] at e
  skip
  simp -implicitDefEqProofs [m_add, startE, encQ, h1, h2, h3, h4, h5]
  simp -implicitDefEqProofs [encQ] at e
  simp -implicitDefEqProofs [e]
theorem subtract_spec {a b : Rat} (h' : sz a + sz b ≤ 134217728 := by omega) : f_subtract [encQ a, encQ b] = some (encQ (a - b)) := by
  refine (run_eq (by rfl)).trans ?_
  obtain ⟨h1, h2, h3, h4, h5⟩ := oks h'
  have e := make_ratio_spec (a.num * b.den - b.num * a.den) (a.den * b.den) (Int.mul_ne_zero (den_ne a) (den_ne b))
  rw [sub_divInt] at e
  skip
  simp -implicitDefEqProofs [m_subtract, startE, encQ, h1, h2, h3, h4, h5]
  simp -implicitDefEqProofs [encQ] at e
  simp -implicitDefEqProofs [e]
theorem multiply_spec {a b : Rat} (h' : sz a + sz b ≤ 134217728 := by omega) : f_multiply [encQ a, encQ b] = some (encQ (a * b)) := by
  refine (run_eq (by rfl)).trans ?_
  obtain ⟨h1, h2, h3, h4, h5⟩ := oks h'
  have e := make_ratio_spec (a.num * b.num) (a.den * b.den) (Int.mul_ne_zero (den_ne a) (den_ne b))
  rw [mul_divInt] at e
  skip
  simp -implicitDefEqProofs [m_multiply, startE, encQ, h1, h2, h3, h4, h5]
  simp -implicitDefEqProofs [encQ] at e
  simp -implicitDefEqProofs [e]
theorem divide_spec {a b : Rat} (h0 : b ≠ 0) (h' : sz a + sz b ≤ 134217728 := by omega) : f_divide [encQ a, encQ b] = some (encQ (a / b)) := by
  refine (run_eq (by rfl)).trans ?_
  obtain ⟨h1, h2, h3, h4, h5⟩ := oks h'
  have e := make_ratio_spec (a.num * b.den) (a.den * b.num) (Int.mul_ne_zero (den_ne a) (num_ne h0))
  rw [div_divInt] at e
  have h6 := num_ne h0
  simp -implicitDefEqProofs [m_divide, startE, encQ, h1, h2, h3, h4, h5, h6]
  simp -implicitDefEqProofs [encQ] at e
  simp -implicitDefEqProofs [e]
theorem total_spec (o : D) (qs : List Rat) (ho : o = .tup (qs.map encQ) ∨ o = .lst (qs.map encQ)) (h : 1 + szs qs ≤ 134217728) : f_total [o] = some (encQ (sumQ 0 qs)) := by
  obtain ⟨t', h1⟩ := for_fold (gs := gsName 2) (mb := b1_total) (fun (t : Sl) (r : Rat) => [.has (.fz o), .has (.fz (encQ r)), t]) encQ (fun r q => r + q) (fun r qs => sz r + szs qs ≤ 134217728)
    (fun r q qs t hI => by
      rw [szs_cons] at hI
      have e := add_spec (a := r) (b := q)
      have := sz_add r q
      refine ⟨_, .has (.fz (encQ q)), rfl, .inl ?_, by omega⟩
      simp -implicitDefEqProofs [b1_total, e]) qs 0 .un (by rw [sz_zero]; exact h)
  refine (run_eq (by rfl)).trans ?_
  rw [encQ_zero] at h1
  rcases ho with rfl | rfl
  · simp -implicitDefEqProofs [m_total, startE, h1, sumQ]
  · simp -implicitDefEqProofs [m_total, startE, h1, sumQ]
def encL (r : List Rat) : D := .lst (r.map encQ)
theorem zipV_lst (ds es : List D) (m : EM (List O)) (env env' : En) (h : m env = some ([.fz (.lst ds), .fz (.lst es)], env')) : mZipV m env = some (zipD ds es, env') := by
  unfold mZipV
  rw [h, Option.bind_some]
  show ((O.asL (.fz (.lst ds))).bind _) = _
  rw [show O.asL (.fz (.lst ds)) = some (ds.map O.fz) from rfl, show O.asL (.fz (.lst es)) = some (es.map O.fz) from rfl, Option.bind_some, Option.bind_some, mapM_fz, mapM_fz]
  rfl
theorem zipD_map {α β : Type} (f : α → D) (g : β → D) (xs : List α) (ys : List β) : zipD (xs.map f) (ys.map g) = (xs.zip ys).map fun p => D.tup [f p.1, g p.2] := by
  unfold zipD
  rw [List.zip_map, List.map_map]; rfl
theorem without_spec (row other : List Rat) (c : Nat) (hc : c < row.length) (hl : row.length = other.length) (hz : row.length ≤ 1000000) (h1 : ∀ q ∈ row, sz q ≤ 30000000) (h2 : ∀ q ∈ other, sz q ≤ 30000000) :
    f_without [encL row, encL other, .int (c : Int)] = some (encL (wo row other c)) := by
  have hat : atI (row.map encQ) (c : Int) = some (encQ (gz row c)) := by
    rw [atI_nat' (by simpa using hc), List.getElem?_map, List.getElem?_eq_getElem hc, gz_in hc]; rfl
  have hf : sz (gz row c) ≤ 30000000 := by rw [gz_in hc]; exact h1 _ (List.getElem_mem hc)
  have e0 := (eqQ (gz row c) 0).1
  rw [encQ_zero] at e0
  unfold wo encL
  generalize gz row c = f at *
  refine (run_eq (by rfl)).trans ?_
  by_cases h0 : f = 0
  · rw [decide_eq_true h0] at e0
    rw [if_pos h0]
    generalize row.map encQ = ds at *
    generalize other.map encQ = es at *
    simp -implicitDefEqProofs [m_without, startE, hat, e0]
  · rw [decide_eq_false h0] at e0
    rw [if_neg h0]
    have zv := zipV_lst (row.map encQ) (other.map encQ) (mCons (mView 0) (mCons (mView 1) mNil)) [.has (.fz (.lst (row.map encQ))), .has (.fz (.lst (other.map encQ))), .has (.fz (.int (c : Int))), .has (.fz (encQ f)), .un, .un] _ rfl
    rw [zipD_map] at zv
    have lp : lcLoop [4, 5] (gsTup 2 (gsCons (gsName 4) (gsCons (gsName 5) gsNil))) mYes e1_without ((row.zip other).map fun p => D.tup [encQ p.1, encQ p.2]) [] [.has (.fz (.lst (row.map encQ))), .has (.fz (.lst (other.map encQ))), .has (.fz (.int (c : Int))), .has (.fz (encQ f)), .un, .un] =
        some ([] ++ (row.zip other).map fun p => .fz (encQ (p.1 - f * p.2)), [.has (.fz (.lst (row.map encQ))), .has (.fz (.lst (other.map encQ))), .has (.fz (.int (c : Int))), .has (.fz (encQ f)), .un, .un]) := by
      generalize D.lst (row.map encQ) = A at *
      generalize D.lst (other.map encQ) = B at *
      rw [lc_mapx (fun p : Rat × Rat => D.tup [encQ p.1, encQ p.2]) (fun p => .fz (encQ (p.1 - f * p.2))) (row.zip other) [] (by rfl) (by show _ ≤ 16777216; simp; omega) (fun p hp => ?_)]
      have m1 := h1 p.1 (List.of_mem_zip hp).1
      have m2 := h2 p.2 (List.of_mem_zip hp).2
      have e1 := multiply_spec (a := f) (b := p.2) (by omega)
      have z1 := sz_mul f p.2
      have e2 := subtract_spec (a := p.1) (b := f * p.2) (by omega)
      refine ⟨[.has (.fz A), .has (.fz B), .has (.fz (.int (c : Int))), .has (.fz (encQ f)), .has (.fz (encQ p.1)), .has (.fz (encQ p.2))], [.has (.fz A), .has (.fz B), .has (.fz (.int (c : Int))), .has (.fz (encQ f)), .has (.fz (encQ p.1)), .has (.fz (encQ p.2))], ?_, ?_, ?_⟩
      · simp -implicitDefEqProofs [wipeE]
      · simp -implicitDefEqProofs [e1_without, e1, e2]
      · simp -implicitDefEqProofs [backE]
    rw [List.nil_append] at lp
    have ef : O.frzs ((row.zip other).map fun p => .fz (encQ (p.1 - f * p.2))) = ((row.zip other).map fun p => p.1 - f * p.2).map encQ := by
      rw [frzs_map, List.map_map, List.map_map]; exact List.map_congr_left fun p _ => by simp
    generalize (row.zip other).map (fun p => O.fz (encQ (p.1 - f * p.2))) = os at *
    generalize ((row.zip other).map fun p => p.1 - f * p.2).map encQ = ds' at *
    generalize (row.zip other).map (fun p => D.tup [encQ p.1, encQ p.2]) = zs at *
    generalize row.map encQ = ds at *
    generalize other.map encQ = es at *
    simp -implicitDefEqProofs [m_without, startE, hat, e0, zv, lp, ef]
theorem fnz_loop (row : List Rat) (n : D) : ∀ (xs : List Nat) (t : Sl), (∀ x ∈ xs, x < row.length) →
    match xs.find? (fun c => decide (gz row c ≠ 0)) with
    | none => ∃ t', forL (gsName 2) b1_first_nonzero (xs.map fun (i : Nat) => D.int (i : Int)) [.has (.fz (encL row)), .has (.fz n), t] = some (.nx [.has (.fz (encL row)), .has (.fz n), t'])
    | some c => forL (gsName 2) b1_first_nonzero (xs.map fun (i : Nat) => D.int (i : Int)) [.has (.fz (encL row)), .has (.fz n), t] = some (.rt (.int (c : Int)))
  | [], t, _ => ⟨t, rfl⟩
  | x :: xs, t, h => by
    have hx := h x (by simp)
    have hat : atI (row.map encQ) (x : Int) = some (encQ (gz row x)) := by
      rw [atI_nat' (by simpa using hx), List.getElem?_map, List.getElem?_eq_getElem hx, gz_in hx]; rfl
    have e0 := (eqQ (gz row x) 0).2
    rw [encQ_zero] at e0
    have hgs : gsName 2 (D.int (x : Int)) [.has (.fz (encL row)), .has (.fz n), t] = some [.has (.fz (encL row)), .has (.fz n), .has (.fz (.int (x : Int)))] := rfl
    rw [List.map_cons, forL, hgs, Option.bind_some]
    by_cases hz : gz row x = 0
    · rw [List.find?_cons_of_neg (by simpa using hz)]
      have hb : b1_first_nonzero [.has (.fz (encL row)), .has (.fz n), .has (.fz (.int (x : Int)))] = some (.nx [.has (.fz (encL row)), .has (.fz n), .has (.fz (.int (x : Int)))]) := by
        rw [decide_eq_true hz] at e0
        unfold encL
        generalize row.map encQ = ds at *
        simp -implicitDefEqProofs [b1_first_nonzero, hat, e0]
      rw [hb]
      exact fnz_loop row n xs _ fun y hy => h y (by simp [hy])
    · rw [List.find?_cons_of_pos (by simpa using hz)]
      have hb : b1_first_nonzero [.has (.fz (encL row)), .has (.fz n), .has (.fz (.int (x : Int)))] = some (.rt (.int (x : Int))) := by
        rw [decide_eq_false hz] at e0
        unfold encL
        generalize row.map encQ = ds at *
        simp -implicitDefEqProofs [b1_first_nonzero, hat, e0]
      rw [hb]
      rfl
def optI : Option Nat → D
  | none => .non
  | some c => .int (c : Int)
theorem first_nonzero_spec (row : List Rat) (n : Nat) (hn : n ≤ row.length) (hz : n ≤ 1000000) : f_first_nonzero [encL row, .int (n : Int)] = some (optI (fnz row n)) := by
  have h := fnz_loop row (.int (n : Int)) (List.range n) .un fun x hx => by have := List.mem_range.mp hx; omega
  have hr : (n : Int) < 4611686018427387904 := by omega
  refine (run_eq (by rfl)).trans ?_
  unfold fnz
  rw [← range0_map] at h
  cases hf : (List.range n).find? (fun c => decide (gz row c ≠ 0)) with
  | none =>
    rw [hf] at h
    obtain ⟨t, h⟩ := h
    simp -implicitDefEqProofs [m_first_nonzero, startE, mR1, hr, h, optI]
  | some c =>
    rw [hf] at h
    simp -implicitDefEqProofs [m_first_nonzero, startE, mR1, hr, h, optI]
def encTr (r : List Rat) : D := .tup (r.map encQ)
def encT (t : List (List Rat)) : D := .tup (t.map encTr)
def unitR (n k : Nat) : List Rat := (List.range n).map fun l => if l = k then 1 else 0
def givenG (A R : List (List Rat)) (n : Nat) (k : Nat) : List Rat := ((A[k]?).getD []) ++ ((R[k]?).getD []) ++ unitR n k
theorem gz_append {a b : List Rat} (j : Nat) : gz (a ++ b) j = if j < a.length then gz a j else gz b (j - a.length) := by
  unfold gz
  split
  · rename_i h; rw [List.getElem?_append_left h]
  · rename_i h; rw [List.getElem?_append_right (by omega)]
theorem gz_unit {n k l : Nat} (hl : l < n) : gz (unitR n k) l = if l = k then 1 else 0 := by
  unfold unitR
  rw [gz_in (by simpa using hl)]
  simp
structure Sys (A R : List (List Rat)) (n m : Nat) : Prop where
  la : A.length = n
  lr : R.length = n
  wa : ∀ a ∈ A, a.length = n
  wr : ∀ r ∈ R, r.length = m
theorem Sys.at {A R : List (List Rat)} {n m k : Nat} (s : Sys A R n m) (hk : k < n) : ∃ a r, A[k]? = some a ∧ R[k]? = some r ∧ a ∈ A ∧ r ∈ R ∧ a.length = n ∧ r.length = m ∧ givenG A R n k = a ++ r ++ unitR n k := by
  have h1 : k < A.length := by rw [s.la]; exact hk
  have h2 : k < R.length := by rw [s.lr]; exact hk
  refine ⟨A[k], R[k], List.getElem?_eq_getElem h1, List.getElem?_eq_getElem h2, List.getElem_mem h1, List.getElem_mem h2, s.wa _ (List.getElem_mem h1), s.wr _ (List.getElem_mem h2), ?_⟩
  unfold givenG
  rw [List.getElem?_eq_getElem h1, List.getElem?_eq_getElem h2]; rfl
theorem unit_len (n k : Nat) : (unitR n k).length = n := by simp [unitR]
theorem Sys.given {A R : List (List Rat)} {n m : Nat} (s : Sys A R n m) : Given (givenG A R n) (n + m) n (n + m + n) where
  hL := rfl
  hq := Nat.le_add_right _ _
  len := fun k hk => by
    obtain ⟨a, r, _, _, _, _, h1, h2, e⟩ := s.at hk
    rw [e, List.length_append, List.length_append, h1, h2, unit_len]
  unit := fun k l hk hl => by
    obtain ⟨a, r, _, _, _, _, h1, h2, e⟩ := s.at hk
    rw [e, gz_append, List.length_append, h1, h2, if_neg (by omega), show n + m + l - (n + m) = l by omega, gz_unit hl]
def tz (T : List (List Rat)) (k j : Nat) : Rat := gz ((T[k]?).getD []) j
/-- a given row over one denominator -/
theorem bd_given {A R : List (List Rat)} {n m k : Nat} (s : Sys A R n m) (hk : k < n) {x : Nat × Nat} (d : Int) (hd : 0 < d) (h0 : d.natAbs < 2 ^ x.1) (h1 : ∀ j, j < n → ∃ z : Int, tz A k j * (d : Rat) = (z : Rat) ∧ z.natAbs < 2 ^ x.1) (h2 : ∀ j, j < m → ∃ z : Int, tz R k j * (d : Rat) = (z : Rat) ∧ z.natAbs < 2 ^ x.2) (hx : x.1 ≤ x.2) : Bd n x (givenG A R n k) := by
  obtain ⟨a, r, ea, er, ha, hr, l1, l2, e⟩ := s.at hk
  have hp : d.natAbs < 2 ^ x.2 := Nat.lt_of_lt_of_le h0 (pow2_le hx)
  have h00 : (0 : Int).natAbs < 2 ^ x.2 := by
    have : 0 < d.natAbs := by omega
    simp only [Int.natAbs_zero]
    omega
  refine ⟨d, hd, h0, fun j hj => ?_, fun j hj => ?_⟩
  · obtain ⟨z, z1, z2⟩ := h1 j hj
    refine ⟨z, ?_, z2⟩
    rw [e, gz_append, if_pos (by rw [List.length_append]; omega), gz_append, if_pos (by omega)]
    unfold tz at z1
    rw [ea] at z1
    exact z1
  · rw [e, gz_append]
    split
    · rename_i h
      rw [List.length_append] at h
      obtain ⟨z, z1, z2⟩ := h2 (j - n) (by omega)
      refine ⟨z, ?_, z2⟩
      rw [gz_append, if_neg (by omega), l1]
      unfold tz at z1
      rw [er] at z1
      exact z1
    · by_cases h : j - (a ++ r).length < n
      · rw [gz_unit h]
        split
        · exact ⟨d, by rw [Rat.one_mul], hp⟩
        · exact ⟨0, by rw [Rat.zero_mul]; rfl, h00⟩
      · rw [gz_out (by rw [unit_len]; omega)]
        exact ⟨0, by rw [Rat.zero_mul]; rfl, h00⟩
def rowO (b : Bool) (r : List Rat) : O := if b = true then .fz (encL r) else .ls ((r.map encQ).map .fz)
theorem solve_red (n : Nat) (hn : n ≤ 1000) (L t : Nat) (hL : n ≤ L) (hL2 : L ≤ 1000000) (x : Nat × Nat) (ok : ∀ k, k ≤ t → bOk (bRow (bSt x t) x k) = true) (ok2 : bOk (bSt x t) = true) (rows : List (List Rat)) (cols : List Nat) (hlr : rows.length = t) (hlc : cols.length = t)
    (len : ∀ r ∈ rows, r.length = L) (clt : ∀ c ∈ cols, c < n) (bd : ∀ r ∈ rows, Bd n (bSt x t) r) (row : List Rat) (hr : row.length = L) (hb : Bd n x row) (s0 s1 s2 s3 s4 s5 s9 s10 s11 s12 : Sl) (t7 t8 : Option D) :
    ∃ (b : Bool) (t7' t8' : Option D), forL (gsTup 2 (gsCons (gsName 7) (gsCons (gsName 8) gsNil))) b1_solve ((cols.zip rows).map fun p => D.tup [.int (p.1 : Int), encL p.2]) [s0, s1, s2, s3, s4, s5, .has (rowO false row), slD t7, slD t8, s9, s10, s11, s12] =
      some (.nx [s0, s1, s2, s3, s4, s5, .has (rowO b (gRow rows cols row)), slD t7', slD t8', s9, s10, s11, s12]) ∧ (gRow rows cols row).length = L ∧ Bd n (bRow (bSt x t) x t) (gRow rows cols row) := by
  have inv : ∀ (ps : List (Nat × List Rat)) (i : Nat) (b : Bool) (r : List Rat) (t7 t8 : Option D), i + ps.length = t → (∀ p ∈ ps, p.1 < n ∧ p.2.length = L ∧ Bd n (bSt x t) p.2) → r.length = L → Bd n (bRow (bSt x t) x i) r →
      ∃ (b' : Bool) (t7' t8' : Option D), forL (gsTup 2 (gsCons (gsName 7) (gsCons (gsName 8) gsNil))) b1_solve (ps.map fun p => D.tup [.int (p.1 : Int), encL p.2]) [s0, s1, s2, s3, s4, s5, .has (rowO b r), slD t7, slD t8, s9, s10, s11, s12] =
        some (.nx [s0, s1, s2, s3, s4, s5, .has (rowO b' (ps.foldl (fun r p => wo r p.2 p.1) r)), slD t7', slD t8', s9, s10, s11, s12]) ∧ (ps.foldl (fun r p => wo r p.2 p.1) r).length = L ∧ Bd n (bRow (bSt x t) x t) (ps.foldl (fun r p => wo r p.2 p.1) r) := by
    intro ps
    induction ps with
    | nil =>
      intro i b r t7 t8 hi _ hl hB
      have : i = t := by simpa using hi
      subst this
      exact ⟨b, t7, t8, rfl, hl, hB⟩
    | cons p ps ih =>
      intro i b r t7 t8 hi hp hl hB
      rw [List.length_cons] at hi
      obtain ⟨p1, p2, p3⟩ := hp p (by simp)
      have e := without_spec r p.2 p.1 (by omega) (by omega) (by omega) (hB.item (ok i (by omega))) (p3.item ok2)
      have hB' := hB.wo p3 (by omega) p1
      obtain ⟨b', t7', t8', g1, g2, g3⟩ := ih (i + 1) true (wo r p.2 p.1) (some (.int (p.1 : Int))) (some (encL p.2)) (by omega) (fun q hq => hp q (by simp [hq])) (by rw [wo_len (by omega), hl]) hB'
      refine ⟨b', t7', t8', ?_, g2, g3⟩
      have hgs : gsTup 2 (gsCons (gsName 7) (gsCons (gsName 8) gsNil)) (D.tup [.int (p.1 : Int), encL p.2]) [s0, s1, s2, s3, s4, s5, .has (rowO b r), slD t7, slD t8, s9, s10, s11, s12] = some [s0, s1, s2, s3, s4, s5, .has (rowO b r), .has (.fz (.int (p.1 : Int))), .has (.fz (encL p.2)), s9, s10, s11, s12] := rfl
      have hb1 : b1_solve [s0, s1, s2, s3, s4, s5, .has (rowO b r), .has (.fz (.int (p.1 : Int))), .has (.fz (encL p.2)), s9, s10, s11, s12] = some (.nx [s0, s1, s2, s3, s4, s5, .has (rowO true (wo r p.2 p.1)), .has (.fz (.int (p.1 : Int))), .has (.fz (encL p.2)), s9, s10, s11, s12]) := by
        cases b with
        | true =>
          unfold rowO
          rw [if_pos rfl, if_pos rfl]
          simp -implicitDefEqProofs [b1_solve, e]
        | false =>
          unfold rowO
          rw [if_neg Bool.false_ne_true, if_pos rfl]
          have ef := e_frzsfz (r.map encQ)
          have e' : f_without [.lst (r.map encQ), encL p.2, .int (p.1 : Int)] = some (encL (wo r p.2 p.1)) := e
          generalize (r.map encQ).map O.fz = os at *
          generalize r.map encQ = ds at *
          simp -implicitDefEqProofs [b1_solve, ef, e']
      rw [List.map_cons, forL, hgs, Option.bind_some, hb1]
      exact g1
  exact inv (cols.zip rows) 0 false row t7 t8 (by simp [hlr, hlc]) (fun p hp => by
    obtain ⟨h1, h2⟩ := List.of_mem_zip hp
    exact ⟨clt _ h1, len _ h2, bd _ h2⟩) hr hb
theorem solve_divs (L : Nat) (hL2 : L ≤ 1000000) (row : List Rat) (hr : row.length = L) (p : Rat) (hp : p ≠ 0) (h1 : ∀ q ∈ row, sz q ≤ 30000000) (h2 : sz p ≤ 30000000) (s0 s1 s2 s3 s4 s5 s6 s7 s8 s10 s11 : Sl) :
    lcLoop [12] (gsName 12) mYes e2_solve (row.map encQ) [] [s0, s1, s2, s3, s4, s5, s6, s7, s8, .has (.fz (encQ p)), s10, s11, .un] = some (((sc row p).map encQ).map .fz, [s0, s1, s2, s3, s4, s5, s6, s7, s8, .has (.fz (encQ p)), s10, s11, .un]) := by
  rw [lc_mapx encQ (fun q => .fz (encQ (q / p))) row [] (by rfl) (by show _ ≤ 16777216; simp; omega) (fun q hq => ?_)]
  · rw [List.nil_append]; simp [sc, List.map_map]
  have h3 := h1 q hq
  have e := divide_spec (a := q) (b := p) hp (by omega)
  refine ⟨[s0, s1, s2, s3, s4, s5, s6, s7, s8, .has (.fz (encQ p)), s10, s11, .has (.fz (encQ q))], [s0, s1, s2, s3, s4, s5, s6, s7, s8, .has (.fz (encQ p)), s10, s11, .has (.fz (encQ q))], ?_, ?_, ?_⟩
  · simp -implicitDefEqProofs [wipeE]
  · simp -implicitDefEqProofs [e2_solve, e]
  · simp -implicitDefEqProofs [backE]
theorem solve_rows (n L : Nat) (hL : n ≤ L) (hL2 : L ≤ 1000000) (rows : List (List Rat)) (hz : rows.length ≤ 1000) (len : ∀ r ∈ rows, r.length = L) (h1 : ∀ r ∈ rows, ∀ q ∈ r, sz q ≤ 30000000) (row : List Rat) (hr : row.length = L) (h2 : ∀ q ∈ row, sz q ≤ 30000000) (c : Nat) (hc : c < n) (s0 s1 s2 s3 s4 s5 s9 s10 s11 s12 : Sl) (t8 : Option D) :
    ∃ b : Bool, lcLoop [8] (gsName 8) mYes e3_solve (rows.map encL) [] [s0, s1, s2, s3, s4, s5, .has (rowO false row), .has (.fz (.int (c : Int))), slD t8, s9, s10, s11, s12] =
      some (((rows.map fun o => wo o row c).map encL).map .fz, [s0, s1, s2, s3, s4, s5, .has (rowO b row), .has (.fz (.int (c : Int))), slD t8, s9, s10, s11, s12]) := by
  have e : ∀ o ∈ rows, f_without [encL o, encL row, .int (c : Int)] = some (encL (wo o row c)) := fun o ho => without_spec o row c (by rw [len o ho]; omega) (by rw [len o ho, hr]) (by rw [len o ho]; omega) (h1 o ho) h2
  have hm : ((rows.map fun o => wo o row c).map encL).map O.fz = rows.map fun o => .fz (encL (wo o row c)) := by rw [List.map_map, List.map_map]; rfl
  by_cases hne : rows = []
  · subst hne
    exact ⟨false, rfl⟩
  · refine ⟨true, ?_⟩
    rw [hm, lc_chg (env' := [s0, s1, s2, s3, s4, s5, .has (rowO true row), .has (.fz (.int (c : Int))), slD t8, s9, s10, s11, s12]) encL (fun o => .fz (encL (wo o row c))) hne [] (by cases t8 <;> rfl) (by cases t8 <;> rfl) (by show _ ≤ 16777216; simp; omega) (fun o ho => ?_) (fun o ho => ?_)]
    · rfl
    · have e' : f_without [encL o, .lst (row.map encQ), .int (c : Int)] = some (encL (wo o row c)) := e o ho
      refine ⟨[s0, s1, s2, s3, s4, s5, .has (rowO false row), .has (.fz (.int (c : Int))), .has (.fz (encL o)), s9, s10, s11, s12], [s0, s1, s2, s3, s4, s5, .has (rowO true row), .has (.fz (.int (c : Int))), .has (.fz (encL o)), s9, s10, s11, s12], ?_, ?_, ?_⟩
      · simp -implicitDefEqProofs [wipeE]
      · unfold rowO
        rw [if_neg Bool.false_ne_true, if_pos rfl]
        have ef := e_frzsfz (row.map encQ)
        unfold encL at e' ⊢
        generalize (row.map encQ).map O.fz = os at *
        generalize row.map encQ = ds at *
        simp -implicitDefEqProofs [e3_solve, ef, e']
      · simp -implicitDefEqProofs [backE]
    · have e' := e o ho
      refine ⟨[s0, s1, s2, s3, s4, s5, .has (rowO true row), .has (.fz (.int (c : Int))), .has (.fz (encL o)), s9, s10, s11, s12], [s0, s1, s2, s3, s4, s5, .has (rowO true row), .has (.fz (.int (c : Int))), .has (.fz (encL o)), s9, s10, s11, s12], ?_, ?_, ?_⟩
      · simp -implicitDefEqProofs [wipeE]
      · unfold rowO
        rw [if_pos rfl]
        simp -implicitDefEqProofs [e3_solve, e']
      · simp -implicitDefEqProofs [backE]
theorem natsO_fz (xs : List Nat) : natsO xs = (xs.map fun (i : Nat) => D.int (i : Int)).map O.fz := by unfold natsO; rw [List.map_map]; rfl
theorem frz_natsO (xs : List Nat) : O.frzs (natsO xs) = xs.map fun (i : Nat) => D.int (i : Int) := by rw [natsO_fz, e_frzsfz]
theorem solve_init (A R : List (List Rat)) (n m : Nat) (sy : Sys A R n m) (hn : n ≤ 1000) (hm : m ≤ 1000) (t : Nat) (ht : t < n) (s3 s4 s6 s7 s8 s9 : Sl) :
    b2_solve [.has (.fz (encT A)), .has (.fz (encT R)), .has (.fz (.int (n : Int))), s3, s4, .has (.fz (.int (t : Int))), s6, s7, s8, s9, .un, .un, .un] =
      r8_solve [.has (.fz (encT A)), .has (.fz (encT R)), .has (.fz (.int (n : Int))), s3, s4, .has (.fz (.int (t : Int))), .has (rowO false (givenG A R n t)), s7, s8, s9, .un, .un, .un] := by
  obtain ⟨a, r, h1, h2, _, _, l1, l2, e⟩ := sy.at ht
  have a1 : atI (A.map encTr) (t : Int) = some (.tup (a.map encQ)) := by
    rw [atI_nat' (by rw [List.length_map, sy.la]; exact ht), List.getElem?_map, h1]; rfl
  have a2 : atI (R.map encTr) (t : Int) = some (.tup (r.map encQ)) := by
    rw [atI_nat' (by rw [List.length_map, sy.lr]; exact ht), List.getElem?_map, h2]; rfl
  have g1 := e_gLstT (ds := a.map encQ)
  have g2 := e_gLstT (ds := r.map encQ)
  have b1 : oAdd (.ls ((a.map encQ).map .fz)) (.ls ((r.map encQ).map .fz)) = some (.ls (((a ++ r).map encQ).map .fz)) := by
    have h := e_addL (a := .ls ((a.map encQ).map .fz)) (b := .ls ((r.map encQ).map .fz)) (xs := a.map encQ) (ys := r.map encQ) rfl rfl (by show _ ≤ 16777216; simp; omega)
    rw [h, ← List.map_append]
  have b2 : oAdd (.ls (((a ++ r).map encQ).map .fz)) (.ls (((unitR n t).map encQ).map .fz)) = some (.ls (((givenG A R n t).map encQ).map .fz)) := by
    have h := e_addL (a := .ls (((a ++ r).map encQ).map .fz)) (b := .ls (((unitR n t).map encQ).map .fz)) (xs := (a ++ r).map encQ) (ys := (unitR n t).map encQ) rfl rfl (by show _ ≤ 16777216; simp [unit_len]; omega)
    rw [h, ← List.map_append, e]
  have lp : lcLoop [11] (gsName 11) mYes e1_solve (rangeD 0 n) [] [.has (.fz (encT A)), .has (.fz (encT R)), .has (.fz (.int (n : Int))), s3, s4, .has (.fz (.int (t : Int))), s6, s7, s8, s9, .un, .un, .un] =
      some (((unitR n t).map encQ).map .fz, [.has (.fz (encT A)), .has (.fz (encT R)), .has (.fz (.int (n : Int))), s3, s4, .has (.fz (.int (t : Int))), s6, s7, s8, s9, .un, .un, .un]) := by
    generalize encT A = M
    generalize encT R = N
    rw [range0_map, lc_mapx (fun (i : Nat) => D.int (i : Int)) (fun l => .fz (encQ (if l = t then 1 else 0))) (List.range n) [] (by rfl) (by show _ ≤ 16777216; simp; omega) (fun l hl => ?_)]
    · rw [List.nil_append]; simp [unitR, List.map_map]
    refine ⟨[.has (.fz M), .has (.fz N), .has (.fz (.int (n : Int))), s3, s4, .has (.fz (.int (t : Int))), s6, s7, s8, s9, .un, .has (.fz (.int (l : Int))), .un], [.has (.fz M), .has (.fz N), .has (.fz (.int (n : Int))), s3, s4, .has (.fz (.int (t : Int))), s6, s7, s8, s9, .un, .has (.fz (.int (l : Int))), .un], ?_, ?_, ?_⟩
    · simp -implicitDefEqProofs [wipeE]
    · by_cases h : l = t
      · subst h
        rw [if_pos rfl, encQ_one]
        simp -implicitDefEqProofs [e1_solve]
      · have h' : ¬ (l : Int) = (t : Int) := by omega
        rw [if_neg h, encQ_zero]
        simp -implicitDefEqProofs [e1_solve, h, h']
    · simp -implicitDefEqProofs [backE]
  have hr : (n : Int) < 4611686018427387904 := by omega
  unfold rowO
  rw [if_neg Bool.false_ne_true]
  unfold encT at lp ⊢
  generalize (a.map encQ).map O.fz = o1 at *
  generalize (r.map encQ).map O.fz = o2 at *
  generalize ((a ++ r).map encQ).map O.fz = o3 at *
  generalize ((unitR n t).map encQ).map O.fz = o4 at *
  generalize ((givenG A R n t).map encQ).map O.fz = o5 at *
  generalize A.map encTr = M at *
  generalize R.map encTr = N at *
  simp -implicitDefEqProofs [b2_solve, a1, a2, g1, g2, b1, b2, mR1, hr, lp]
theorem solve_z (n : Nat) (hn : n ≤ 1000) (L t : Nat) (hL : n ≤ L) (hL2 : L ≤ 1000000) (x : Nat × Nat) (ok : ∀ k, k ≤ t → bOk (bRow (bSt x t) x k) = true) (ok2 : bOk (bSt x t) = true) (rows : List (List Rat)) (cols : List Nat) (hlr : rows.length = t) (hlc : cols.length = t)
    (len : ∀ r ∈ rows, r.length = L) (clt : ∀ c ∈ cols, c < n) (bd : ∀ r ∈ rows, Bd n (bSt x t) r) (row : List Rat) (hr : row.length = L) (hb : Bd n x row) (s0 s1 s2 s5 s9 : Sl) (t7 t8 : Option D) :
    ∃ (b : Bool) (t7' t8' : Option D), r8_solve [s0, s1, s2, .has (.ls ((rows.map encL).map .fz)), .has (.ls (natsO cols)), s5, .has (rowO false row), slD t7, slD t8, s9, .un, .un, .un] =
      r7_solve [s0, s1, s2, .has (.ls ((rows.map encL).map .fz)), .has (.ls (natsO cols)), s5, .has (rowO b (gRow rows cols row)), slD t7', slD t8', s9, .un, .un, .un] ∧ (gRow rows cols row).length = L ∧ Bd n (bRow (bSt x t) x t) (gRow rows cols row) := by
  obtain ⟨b, t7', t8', h1, h2, h3⟩ := solve_red n hn L t hL hL2 x ok ok2 rows cols hlr hlc len clt bd row hr hb s0 s1 s2 .lent .lent s5 s9 .un .un .un t7 t8
  refine ⟨b, t7', t8', ?_, h2, h3⟩
  have hz : sForZ 4 3 (gsTup 2 (gsCons (gsName 7) (gsCons (gsName 8) gsNil))) b1_solve [s0, s1, s2, .has (.ls ((rows.map encL).map .fz)), .has (.ls (natsO cols)), s5, .has (rowO false row), slD t7, slD t8, s9, .un, .un, .un] =
      ((natsO cols).mapM O.d?).bind fun ds => (((rows.map encL).map O.fz).mapM O.d?).bind fun es => (forL (gsTup 2 (gsCons (gsName 7) (gsCons (gsName 8) gsNil))) b1_solve (zipD ds es) [s0, s1, s2, .lent, .lent, s5, .has (rowO false row), slD t7, slD t8, s9, .un, .un, .un]).bind (endZ 4 3 (natsO cols) ((rows.map encL).map .fz)) := rfl
  have hd : (natsO cols).mapM O.d? = some (cols.map fun (i : Nat) => D.int (i : Int)) := by rw [natsO_fz, mapM_fz]
  rw [hd, Option.bind_some, mapM_fz, Option.bind_some, zipD_map, h1, Option.bind_some] at hz
  have he : endZ 4 3 (natsO cols) ((rows.map encL).map .fz) (.nx [s0, s1, s2, .lent, .lent, s5, .has (rowO b (gRow rows cols row)), slD t7', slD t8', s9, .un, .un, .un]) = some (.nx [s0, s1, s2, .has (.ls ((rows.map encL).map .fz)), .has (.ls (natsO cols)), s5, .has (rowO b (gRow rows cols row)), slD t7', slD t8', s9, .un, .un, .un]) := rfl
  rw [he] at hz
  generalize (rows.map encL).map O.fz = o3 at *
  generalize natsO cols = o4 at *
  show (sForZ 4 3 _ b1_solve _).bind _ = _
  rw [hz]
  rfl
def depD (y : List Rat) : D := .tup [.str "dependency", encTr y]
theorem solve_none (n L : Nat) (hL : n ≤ L) (hL2 : L ≤ 1000000) (hn : n ≤ 1000) (row : List Rat) (hr : row.length = L) (hf : fnz row n = none) (b : Bool) (s0 s1 s3 s4 s5 s7 s8 s9 s10 s11 s12 : Sl) :
    r7_solve [s0, s1, .has (.fz (.int (n : Int))), s3, s4, s5, .has (rowO b row), s7, s8, s9, s10, s11, s12] = some (.rt (depD (row.drop (row.length - n)))) := by
  have e := first_nonzero_spec row n (by omega) (by omega)
  rw [hf] at e
  have e' : f_first_nonzero [.lst (row.map encQ), .int (n : Int)] = some .non := e
  have hl : ((row.map encQ).length : Int) = (L : Int) := by simp [hr]
  have hk : (L : Int) - (n : Int) = ((L - n : Nat) : Int) := by omega
  have hc : cut (row.map encQ) (some ((L - n : Nat) : Int)) none = (row.drop (row.length - n)).map encQ := by rw [cut_from, hr, List.map_drop]
  have eg := e_gTupO (ds := (row.drop (row.length - n)).map encQ)
  have ef := e_frzsfz (row.map encQ)
  unfold depD encTr
  generalize ((row.drop (row.length - n)).map encQ).map O.fz = o1 at *
  generalize (row.drop (row.length - n)).map encQ = d1 at *
  cases b with
  | true =>
    unfold rowO encL
    rw [if_pos rfl]
    generalize (row.map encQ).map O.fz = o2 at *
    generalize row.map encQ = d2 at *
    simp -implicitDefEqProofs [r7_solve, r6_solve, e', mSlice, mOSome, mONone, hl, hk, hc, eg]
  | false =>
    unfold rowO
    rw [if_neg Bool.false_ne_true]
    generalize (row.map encQ).map O.fz = o2 at *
    generalize row.map encQ = d2 at *
    simp -implicitDefEqProofs [r7_solve, r6_solve, ef, e', mSlice, mOSome, mONone, hl, hk, hc, eg]
theorem solve_some (n L : Nat) (hL : n ≤ L) (hL2 : L ≤ 1000000) (hn : n ≤ 1000) (rows : List (List Rat)) (cols : List Nat) (hz : rows.length ≤ 1000) (hz2 : cols.length ≤ 1000) (len : ∀ r ∈ rows, r.length = L) (h1 : ∀ r ∈ rows, ∀ q ∈ r, sz q ≤ 30000000) (row : List Rat) (hr : row.length = L) (h2 : ∀ q ∈ row, sz q ≤ 30000000)
    (c : Nat) (hf : fnz row n = some c) (h3 : ∀ q ∈ sc row (gz row c), sz q ≤ 30000000) (b : Bool) (s0 s1 s5 s7 s9 : Sl) (t8 : Option D) :
    ∃ (t6 t9 : Sl), r7_solve [s0, s1, .has (.fz (.int (n : Int))), .has (.ls ((rows.map encL).map .fz)), .has (.ls (natsO cols)), s5, .has (rowO b row), s7, slD t8, s9, .un, .un, .un] =
      some (.nx [s0, s1, .has (.fz (.int (n : Int))), .has (.ls (((rows.map (fun o => wo o (sc row (gz row c)) c) ++ [sc row (gz row c)]).map encL).map .fz)), .has (.ls (natsO (cols ++ [c]))), s5, t6, .has (.fz (.int (c : Int))), slD t8, t9, .un, .un, .un]) := by
  obtain ⟨hc, h0⟩ := fnz_some hf
  have e := first_nonzero_spec row n (by omega) (by omega)
  rw [hf] at e
  have e' : f_first_nonzero [.lst (row.map encQ), .int (n : Int)] = some (.int (c : Int)) := e
  have hat : atI (row.map encQ) (c : Int) = some (encQ (gz row c)) := by
    rw [atI_nat' (by rw [List.length_map]; omega), List.getElem?_map, List.getElem?_eq_getElem (by omega), gz_in (by omega)]; rfl
  have hp : sz (gz row c) ≤ 30000000 := by rw [gz_in (by omega)]; exact h2 _ (List.getElem_mem _)
  have ld := solve_divs L hL2 row hr (gz row c) h0 h2 hp s0 s1 (.has (.fz (.int (n : Int)))) (.has (.ls ((rows.map encL).map .fz))) (.has (.ls (natsO cols))) s5 (.has (.fz (.lst (row.map encQ)))) (.has (.fz (.int (c : Int)))) (slD t8) .un .un
  obtain ⟨b2, lr⟩ := solve_rows n L hL hL2 rows hz len h1 (sc row (gz row c)) (by rw [sc_len, hr]) h3 c hc s0 s1 (.has (.fz (.int (n : Int)))) (.has (.ls ((rows.map encL).map .fz))) (.has (.ls (natsO cols))) s5 (.has (.fz (encQ (gz row c)))) .un .un .un t8
  generalize sc row (gz row c) = row2 at *
  generalize gz row c = p at *
  have hit : ((rows.map encL).map O.fz).mapM O.d? = some (rows.map encL) := mapM_fz _
  have ef := e_frzsfz (row.map encQ)
  have ef2 := e_frzsfz (row2.map encQ)
  have x3 : ((rows.map fun o => wo o row2 c).map encL).map O.fz ++ [.fz (encL row2)] = ((rows.map (fun o => wo o row2 c) ++ [row2]).map encL).map .fz := by simp
  have x4 := natsO_snoc cols c
  have l3 : (((rows.map fun o => wo o row2 c).map encL).map O.fz).length < 16777216 := by simp; omega
  have l4 : (natsO cols).length < 16777216 := by rw [natsO_len]; omega
  have R0 : rowO false row2 = .ls ((row2.map encQ).map .fz) := rfl
  rw [R0] at lr
  refine ⟨.has (.fz (encL row2)), .has (.fz (encQ p)), ?_⟩
  have go : ∀ s6 : Sl, r4_solve [s0, s1, .has (.fz (.int (n : Int))), .has (.ls ((rows.map encL).map .fz)), .has (.ls (natsO cols)), s5, .has (.fz (.lst (row.map encQ))), .has (.fz (.int (c : Int))), slD t8, .has (.fz (encQ p)), .un, .un, .un] = some (.nx [s0, s1, .has (.fz (.int (n : Int))), .has (.ls (((rows.map (fun o => wo o row2 c) ++ [row2]).map encL).map .fz)), .has (.ls (natsO (cols ++ [c]))), s5, .has (.fz (encL row2)), .has (.fz (.int (c : Int))), slD t8, .has (.fz (encQ p)), .un, .un, .un]) := fun s6 => by
    rw [← x3, ← x4]
    unfold rowO at lr
    cases b2 with
    | true =>
      rw [if_pos rfl] at lr
      generalize (row2.map encQ).map O.fz = o1 at *
      generalize (rows.map encL).map O.fz = o2 at *
      generalize ((rows.map fun o => wo o row2 c).map encL).map O.fz = o3 at *
      generalize rows.map encL = d2 at *
      generalize row.map encQ = d1 at *
      generalize natsO cols = o4 at *
      simp -implicitDefEqProofs [r4_solve, r3_solve, r2_solve, r1_solve, O.items, D.items, ld, hit, lr, l3, l4]
    | false =>
      rw [if_neg Bool.false_ne_true] at lr
      unfold encL at ld lr hit ⊢ x3 l3
      generalize (row2.map encQ).map O.fz = o1 at *
      generalize row2.map encQ = d3 at *
      generalize (rows.map fun r => D.lst (r.map encQ)).map O.fz = o2 at *
      generalize ((rows.map fun o => wo o row2 c).map fun r => D.lst (r.map encQ)).map O.fz = o3 at *
      generalize rows.map (fun r => D.lst (r.map encQ)) = d2 at *
      generalize row.map encQ = d1 at *
      generalize natsO cols = o4 at *
      simp -implicitDefEqProofs [r4_solve, r3_solve, r2_solve, r1_solve, O.items, D.items, ld, hit, lr, l3, l4, ef2]
  have go := go .un
  generalize (rows.map encL).map O.fz = o2 at *
  generalize natsO cols = o4 at *
  generalize ((rows.map (fun o => wo o row2 c) ++ [row2]).map encL).map O.fz = o5 at *
  generalize natsO (cols ++ [c]) = o6 at *
  cases b with
  | true =>
    unfold rowO encL
    rw [if_pos rfl]
    unfold encL at go
    generalize row.map encQ = d1 at *
    simp -implicitDefEqProofs [r7_solve, r6_solve, r5_solve, e', hat, go]
  | false =>
    unfold rowO
    rw [if_neg Bool.false_ne_true]
    generalize (row.map encQ).map O.fz = o7 at *
    generalize row.map encQ = d1 at *
    simp -implicitDefEqProofs [r7_solve, r6_solve, r5_solve, ef, e', hat, go]
theorem range'_succ' (t k : Nat) : List.range' t (k + 1) = t :: List.range' (t + 1) k := List.range'_succ
def JnkE (A R : List (List Rat)) (n : Nat) (rows : List (List Rat)) (cols : List Nat) (t5 t6 : Sl) (t7 t8 : Option D) (t9 : Sl) : En :=
  [.has (.fz (encT A)), .has (.fz (encT R)), .has (.fz (.int (n : Int))), .has (.ls ((rows.map encL).map .fz)), .has (.ls (natsO cols)), t5, t6, slD t7, slD t8, t9, .un, .un, .un]
def BdMax (x : Nat × Nat) (n M : Nat) : Prop := max (bSt x n).1 (bSt x n).2 ≤ M ∧ ∀ t, t < n → max (bRow (bSt x t) x t).1 (bRow (bSt x t) x t).2 ≤ M
theorem solve_loop (A R : List (List Rat)) (n m : Nat) (sy : Sys A R n m) (hn : n ≤ 1000) (hm : m ≤ 1000) (x : Nat × Nat) (hB : ∀ k, k < n → Bd n x (givenG A R n k)) (ok : gOk x n = true) (M : Nat) (hM : BdMax x n M) :
    ∀ (k t : Nat) (rows : List (List Rat)) (cols : List Nat) (t5 t6 : Sl) (t7 t8 : Option D) (t9 : Sl), k + t = n → GI (givenG A R n) (n + m) n (n + m + n) t rows cols → (∀ r ∈ rows, Bd n (bSt x t) r) →
      match gRun (givenG A R n) n k t rows cols with
      | .dep y => forL (gsName 5) b2_solve ((List.range' t k).map fun (i : Nat) => D.int (i : Int)) (JnkE A R n rows cols t5 t6 t7 t8 t9) = some (.rt (depD y)) ∧ ∀ q ∈ y, sz q ≤ M
      | .sol rows' cols' => (∃ (u5 u6 : Sl) (u7 u8 : Option D) (u9 : Sl), forL (gsName 5) b2_solve ((List.range' t k).map fun (i : Nat) => D.int (i : Int)) (JnkE A R n rows cols t5 t6 t7 t8 t9) = some (.nx (JnkE A R n rows' cols' u5 u6 u7 u8 u9))) ∧ ∀ r ∈ rows', Bd n (bSt x n) r := by
  intro k
  induction k with
  | zero =>
    intro t rows cols t5 t6 t7 t8 t9 h I bd
    have : t = n := by omega
    subst this
    exact ⟨⟨t5, t6, t7, t8, t9, rfl⟩, bd⟩
  | succ k ih =>
    intro t rows cols t5 t6 t7 t8 t9 h I bd
    have ht : t < n := by omega
    obtain ⟨ok1, ok2, ok3⟩ := gOk_at ok ht
    have g := sy.given
    have hgl := g.len t ht
    have Rw := GI.row g I ht
    have hin := solve_init A R n m sy hn hm t ht (.has (.ls ((rows.map encL).map .fz))) (.has (.ls (natsO cols))) t6 (slD t7) (slD t8) t9
    obtain ⟨b, u7, u8, hz, z1, z2⟩ := solve_z n hn (n + m + n) t (by omega) (by omega) x ok3 ok1 rows cols I.lr I.lc I.len I.clt bd (givenG A R n t) hgl (hB t ht) (.has (.fz (encT A))) (.has (.fz (encT R))) (.has (.fz (.int (n : Int)))) (.has (.fz (.int (t : Int)))) t9 t7 t8
    rw [hz] at hin
    have hgs : gsName 5 (D.int (t : Int)) (JnkE A R n rows cols t5 t6 t7 t8 t9) = some (JnkE A R n rows cols (.has (.fz (.int (t : Int)))) t6 t7 t8 t9) := rfl
    have hin : b2_solve (JnkE A R n rows cols (.has (.fz (.int (t : Int)))) t6 t7 t8 t9) = _ := hin
    rw [gRun, range'_succ', List.map_cons]
    cases hf : fnz (gRow rows cols (givenG A R n t)) n with
    | none =>
      have hd := solve_none n (n + m + n) (by omega) (by omega) hn _ z1 hf b (.has (.fz (encT A))) (.has (.fz (encT R))) (.has (.ls ((rows.map encL).map .fz))) (.has (.ls (natsO cols))) (.has (.fz (.int (t : Int)))) (slD u7) (slD u8) t9 .un .un .un
      rw [hd] at hin
      refine ⟨?_, fun q hq => ?_⟩
      · rw [forL, hgs, Option.bind_some, hin]; rfl
      · have hq' := List.mem_of_mem_drop hq
        obtain ⟨j, hj⟩ := List.mem_iff_getElem?.mp hq
        rw [List.getElem?_drop] at hj
        have hj2 := z2.at ((gRow rows cols (givenG A R n t)).length - n + j)
        have e : gz (gRow rows cols (givenG A R n t)) ((gRow rows cols (givenG A R n t)).length - n + j) = q := by unfold gz; rw [hj]; rfl
        rw [e] at hj2
        exact Nat.le_trans hj2 (hM.2 t ht)
    | some c =>
      obtain ⟨hc, h0⟩ := fnz_some hf
      have bds := z2.sc hc
      obtain ⟨v6, v9, hs⟩ := solve_some n (n + m + n) (by omega) (by omega) hn rows cols (by rw [I.lr]; omega) (by rw [I.lc]; omega) I.len (fun r hr => (bd r hr).item ok1) _ z1 (z2.item (ok3 t (Nat.le_refl _))) c hf (bds.item ok2) b (.has (.fz (encT A))) (.has (.fz (encT R))) (.has (.fz (.int (t : Int)))) (slD u7) t9 u8
      rw [hs] at hin
      have I' := GI.next g I ht hc h0
      have bd' : ∀ r ∈ rows.map (fun o => wo o (sc (gRow rows cols (givenG A R n t)) (gz (gRow rows cols (givenG A R n t)) c)) c) ++ [sc (gRow rows cols (givenG A R n t)) (gz (gRow rows cols (givenG A R n t)) c)], Bd n (bSt x (t + 1)) r := fun r hr => by
        rcases List.mem_append.mp hr with h | h
        · obtain ⟨o, ho, rfl⟩ := List.mem_map.mp h
          exact (bd o ho).wo bds (by rw [sc_len, z1, I.len o ho]) hc
        · rw [List.mem_singleton.mp h]
          refine bds.mono ?_ ?_
          · show _ ≤ _ + _ + 1
            omega
          · show _ ≤ max _ _ + 1
            omega
      have step : ∀ rest, forL (gsName 5) b2_solve (D.int (t : Int) :: rest) (JnkE A R n rows cols t5 t6 t7 t8 t9) = forL (gsName 5) b2_solve rest (JnkE A R n (rows.map (fun o => wo o (sc (gRow rows cols (givenG A R n t)) (gz (gRow rows cols (givenG A R n t)) c)) c) ++ [sc (gRow rows cols (givenG A R n t)) (gz (gRow rows cols (givenG A R n t)) c)]) (cols ++ [c]) (.has (.fz (.int (t : Int)))) v6 (some (.int (c : Int))) u8 v9) := fun rest => by
        rw [forL, hgs, Option.bind_some, hin]; rfl
      rw [step]
      exact ih (t + 1) _ _ _ _ _ _ _ (by omega) I' bd'
def solX (rows : List (List Rat)) (cols : List Nat) (n m c : Nat) : List Rat := ((pick rows cols c).drop n).take m
def tabO (n : Nat) (F : Nat → List Rat) : List O := (List.range n).map fun i => .fz (encTr (F i))
theorem tabO_fz (n : Nat) (F : Nat → List Rat) : tabO n F = ((List.range n).map fun i => encTr (F i)).map .fz := by unfold tabO; rw [List.map_map]; rfl
theorem solve_end (A R : List (List Rat)) (n m : Nat) (hn : n ≤ 1000) (hm : m ≤ 1000) (G : Nat → List Rat) (rows : List (List Rat)) (cols : List Nat) (I : GI G (n + m) n (n + m + n) n rows cols) (t5 t6 : Sl) (t7 t8 : Option D) (t9 : Sl) :
    r11_solve (JnkE A R n rows cols t5 t6 t7 t8 t9) = some (.rt (.tup [.str "solution", encT ((List.range n).map (solX rows cols n m))])) := by
  have e0 := e_mulL (d := .tup []) (xs := [.tup []]) (n := n) (by omega)
  have hrep : (List.replicate n (D.tup [])).map O.fz = tabO n fun _ => [] := by
    unfold tabO
    rw [List.map_replicate, List.map_const', List.length_range]; rfl
  rw [hrep] at e0
  have e0 : oMul (.ls [.fz (.tup [])]) (.fz (.int (n : Int))) = some (.ls (tabO n fun _ => [])) := e0
  obtain ⟨⟨t6', t7'⟩, h1⟩ := for_fold (T := Sl × Sl) (gs := gsTup 2 (gsCons (gsName 7) (gsCons (gsName 6) gsNil))) (mb := b3_solve)
    (fun t (F : Nat → List Rat) => [.has (.fz (encT A)), .has (.fz (encT R)), .has (.fz (.int (n : Int))), .has (.fz (.lst (rows.map encL))), .has (.fz (.lst (cols.map fun (i : Nat) => D.int (i : Int)))), t5, t.1, t.2, slD t8, t9, .has (.ls (tabO n F)), .un, .un]) (fun p : Nat × List Rat => D.tup [.int (p.1 : Int), encL p.2])
    (fun F p => fun i => if i = p.1 then (p.2.drop n).take m else F i) (fun _ ps => ∀ p ∈ ps, p.1 < n ∧ p.2.length = n + m + n)
    (fun F p ps t hI => by
      obtain ⟨p1, p2⟩ := hI p (by simp)
      have hl : ((p.2.map encQ).length : Int) = ((n + m + n : Nat) : Int) := by simp [p2]
      have hk : ((n + m + n : Nat) : Int) - (n : Int) = ((n + m : Nat) : Int) := by omega
      have hc : cut (p.2.map encQ) (some (n : Int)) (some ((n + m : Nat) : Int)) = ((p.2.drop n).take m).map encQ := by
        rw [cut_mid (by rw [List.length_map, p2]; omega) (by omega), show n + m - n = m by omega, List.map_take, List.map_drop]
      have eg := e_gTupO (ds := ((p.2.drop n).take m).map encQ)
      have hix : ixN (tabO n F).length (p.1 : Int) = some p.1 := ixN_nat (by unfold tabO; simpa using p1)
      have hset : (tabO n F).set p.1 (.fz (.tup (((p.2.drop n).take m).map encQ))) = tabO n (fun i => if i = p.1 then (p.2.drop n).take m else F i) := by
        unfold tabO
        rw [range_set]
        refine List.map_congr_left fun i _ => ?_
        show _ = O.fz (encTr (if i = p.1 then (p.2.drop n).take m else F i))
        by_cases h : i = p.1
        · rw [if_pos h, if_pos h]; rfl
        · rw [if_neg h, if_neg h]
      refine ⟨[.has (.fz (encT A)), .has (.fz (encT R)), .has (.fz (.int (n : Int))), .has (.fz (.lst (rows.map encL))), .has (.fz (.lst (cols.map fun (i : Nat) => D.int (i : Int)))), t5, .has (.fz (encL p.2)), .has (.fz (.int (p.1 : Int))), slD t8, t9, .has (.ls (tabO n F)), .un, .un], (.has (.fz (encL p.2)), .has (.fz (.int (p.1 : Int)))), rfl, .inl ?_, fun q hq => hI q (by simp [hq])⟩
      unfold encL
      generalize (((p.2.drop n).take m).map encQ).map O.fz = o1 at *
      generalize ((p.2.drop n).take m).map encQ = d1 at *
      generalize p.2.map encQ = d2 at *
      generalize tabO n (fun i => if i = p.1 then (p.2.drop n).take m else F i) = o3 at *
      generalize tabO n F = o2 at *
      generalize encT A = DA at *
      generalize encT R = DR at *
      generalize rows.map (fun r => D.lst (r.map encQ)) = d4 at *
      generalize cols.map (fun (i : Nat) => D.int (i : Int)) = d5 at *
      generalize ((n + m + n : Nat) : Int) = LL at *
      generalize ((n + m : Nat) : Int) = LM at *
      simp -implicitDefEqProofs [b3_solve, sSetIx, lsAt, mSlice, mOSome, iOf, hl, hk, hc, eg, hix, hset]) (cols.zip rows) (fun _ => []) (t6, slD t7) (fun p hp => by
        obtain ⟨h1, h2⟩ := List.of_mem_zip hp
        exact ⟨I.clt _ h1, I.len _ h2⟩)
  have key : ∀ c, c < n → ((cols.zip rows).foldl (fun F p => fun i => if i = p.1 then (p.2.drop n).take m else F i) fun _ => []) c = solX rows cols n m c := fun c hc => by
    obtain ⟨i, h2, h3, _⟩ := I.pick hc
    have hm' : (c, pick rows cols c) ∈ cols.zip rows := by
      rw [List.mem_iff_getElem?]
      exact ⟨i, by rw [List.getElem?_zip_eq_some]; exact ⟨h2, h3⟩⟩
    have nd : ((cols.zip rows).map (·.1)).Nodup := by
      rw [List.map_fst_zip (by rw [I.lr, I.lc]; exact Nat.le_refl _)]; exact I.nodup
    exact fold_upd (fun r : List Rat => (r.drop n).take m) (cols.zip rows) (fun _ => []) nd _ hm'
  generalize (cols.zip rows).foldl (fun F p => fun i => if i = p.1 then (p.2.drop n).take m else F i) (fun _ => []) = FF at key h1
  have hF : tabO n FF = (((List.range n).map (solX rows cols n m)).map encTr).map .fz := by
    have hFl : (List.range n).map (fun i => encTr (FF i)) = ((List.range n).map (solX rows cols n m)).map encTr := by
      rw [List.map_map]
      refine List.map_congr_left fun c hc => ?_
      show encTr (FF c) = encTr (solX rows cols n m c)
      rw [key c (List.mem_range.mp hc)]
    rw [tabO_fz, hFl]
  rw [hF] at h1
  have hzf : mZipF (mCons (mName 4) (mCons (mName 3) mNil)) [.has (.fz (encT A)), .has (.fz (encT R)), .has (.fz (.int (n : Int))), .has (.ls ((rows.map encL).map .fz)), .has (.ls (natsO cols)), t5, t6, slD t7, slD t8, t9, .has (.ls (tabO n fun _ => [])), .un, .un] =
      some ((cols.zip rows).map fun p : Nat × List Rat => D.tup [.int (p.1 : Int), encL p.2], [.has (.fz (encT A)), .has (.fz (encT R)), .has (.fz (.int (n : Int))), .has (.fz (.lst (rows.map encL))), .has (.fz (.lst (cols.map fun (i : Nat) => D.int (i : Int)))), t5, t6, slD t7, slD t8, t9, .has (.ls (tabO n fun _ => [])), .un, .un]) := by
    have f1 := frz_natsO cols
    have f2 := e_frzsfz (rows.map encL)
    have hz := zipD_map (fun (i : Nat) => D.int (i : Int)) encL cols rows
    generalize (cols.zip rows).map (fun p : Nat × List Rat => D.tup [.int (p.1 : Int), encL p.2]) = zs at *
    generalize (rows.map encL).map O.fz = o1 at *
    generalize natsO cols = o2 at *
    generalize rows.map encL = d1 at *
    generalize cols.map (fun (i : Nat) => D.int (i : Int)) = d2 at *
    generalize tabO n (fun _ => []) = o3 at *
    simp -implicitDefEqProofs [mZipF, f1, f2, hz]
  have eg := e_gTupO (ds := ((List.range n).map (solX rows cols n m)).map encTr)
  unfold JnkE
  unfold encT at h1 hzf ⊢
  generalize (((List.range n).map (solX rows cols n m)).map encTr).map O.fz = o1 at *
  generalize ((List.range n).map (solX rows cols n m)).map encTr = d1 at *
  generalize (rows.map encL).map O.fz = o2 at *
  generalize natsO cols = o3 at *
  generalize tabO n (fun _ => []) = o4 at *
  generalize (cols.zip rows).map (fun p : Nat × List Rat => D.tup [.int (p.1 : Int), encL p.2]) = zs at *
  generalize A.map encTr = DA at *
  generalize R.map encTr = DR at *
  simp -implicitDefEqProofs [r11_solve, r10_solve, r9_solve, e0, hzf, h1, eg]
theorem sm_ext {f g : Nat → Rat} {n : Nat} (h : ∀ k, k < n → f k = g k) : sm f (List.range n) = sm g (List.range n) := sm_congr fun k hk => h k (List.mem_range.mp hk)
theorem given_a {A R : List (List Rat)} {n m k j : Nat} (sy : Sys A R n m) (hk : k < n) (hj : j < n) : gz (givenG A R n k) j = gz ((A[k]?).getD []) j := by
  obtain ⟨a, r, h1, h2, _, _, l1, l2, e⟩ := sy.at hk
  rw [e, gz_append, if_pos (by rw [List.length_append]; omega), gz_append, if_pos (by omega), h1]; rfl
theorem given_r {A R : List (List Rat)} {n m k j : Nat} (sy : Sys A R n m) (hk : k < n) (hj : j < m) : gz (givenG A R n k) (n + j) = gz ((R[k]?).getD []) j := by
  obtain ⟨a, r, h1, h2, _, _, l1, l2, e⟩ := sy.at hk
  rw [e, gz_append, if_pos (by rw [List.length_append]; omega), gz_append, if_neg (by omega), h2, show n + j - a.length = j by omega]; rfl
/-- an entry of a table -/
def bmx (x : Nat × Nat) (n M : Nat) : Bool := gOk x n && decide (max (bSt x n).1 (bSt x n).2 ≤ M) && (List.range n).all fun t => decide (max (bRow (bSt x t) x t).1 (bRow (bSt x t) x t).2 ≤ M)
theorem bmx_ok {x : Nat × Nat} {n M : Nat} (h : bmx x n M = true) : gOk x n = true ∧ BdMax x n M := by
  unfold bmx at h
  rw [Bool.and_eq_true, Bool.and_eq_true, decide_eq_true_eq, List.all_eq_true] at h
  exact ⟨h.1.1, h.1.2, fun t ht => of_decide_eq_true (h.2 t (List.mem_range.mpr ht))⟩
/-- solve's answer -/
theorem solve_told (A R : List (List Rat)) (n m : Nat) (sy : Sys A R n m) (hn : n ≤ 1000) (hm : m ≤ 1000) (x : Nat × Nat) (hB : ∀ k, k < n → Bd n x (givenG A R n k)) (ok : gOk x n = true) (M : Nat) (hM : BdMax x n M) :
    (∃ y : List Rat, f_solve [encT A, encT R] = some (depD y) ∧ y.length = n ∧ (∃ k, k < n ∧ gz y k ≠ 0) ∧ (∀ j, j < n → sm (fun k => gz y k * tz A k j) (List.range n) = 0) ∧ ∀ q ∈ y, sz q ≤ M) ∨
    (∃ X : List (List Rat), f_solve [encT A, encT R] = some (.tup [.str "solution", encT X]) ∧ X.length = n ∧ (∀ r ∈ X, r.length = m) ∧ (∀ r ∈ X, ∀ q ∈ r, sz q ≤ M) ∧
      (∀ k j, k < n → j < m → sm (fun c => tz A k c * tz X c j) (List.range n) = tz R k j) ∧ ∃ Y : Nat → Nat → Rat, ∀ k l, k < n → l < n → sm (fun c => tz A k c * Y c l) (List.range n) = if l = k then 1 else 0) := by
  have g := sy.given
  have hloop := solve_loop A R n m sy hn hm x hB ok M hM n 0 [] [] .un .un none none .un (Nat.add_zero n) GI.start (by simp)
  have hrun := gRun_spec g n 0 [] [] (Nat.add_zero n) GI.start
  have hlen : ((A.map encTr).length : Int) = (n : Int) := by simp [sy.la]
  have hr : (n : Int) < 4611686018427387904 := by omega
  rw [← List.range_eq_range', ← range0_map] at hloop
  rcases hrun with ⟨y, h1, h2, h3, h4⟩ | ⟨rows, cols, h1, I⟩
  · rw [h1] at hloop
    obtain ⟨hl, hz⟩ := hloop
    refine .inl ⟨y, ?_, h2, h3, fun j hj => ?_, hz⟩
    · refine (run_eq (by rfl)).trans ?_
      unfold JnkE encT at hl
      unfold encT
      generalize A.map encTr = DA at *
      generalize R.map encTr = DR at *
      have slN : slD none = Sl.un := rfl
      simp only [List.map_nil, natsO, slN] at hl
      simp -implicitDefEqProofs [m_solve, r14_solve, r13_solve, r12_solve, startE, hlen, mR1, hr, hl]
    · rw [← h4 j hj]
      exact sm_ext fun k hk => by rw [given_a sy hk hj]; rfl
  · rw [h1] at hloop
    obtain ⟨⟨u5, u6, u7, u8, u9, hl⟩, hbd⟩ := hloop
    have he := solve_end A R n m hn hm _ rows cols I u5 u6 u7 u8 u9
    have hX : ∀ c, c < n → (((List.range n).map (solX rows cols n m))[c]?).getD [] = solX rows cols n m c := fun c hc => by
      rw [List.getElem?_map, List.getElem?_range hc]; rfl
    have hpl : ∀ c, c < n → (pick rows cols c).length = n + m + n := fun c hc => by
      obtain ⟨_, _, _, h⟩ := I.pick hc
      exact I.len _ h
    have hsx : ∀ c j, c < n → j < m → gz (solX rows cols n m c) j = gz (pick rows cols c) (n + j) := fun c j hc hj => by
      unfold solX gz
      rw [List.getElem?_take, if_pos hj, List.getElem?_drop]
    refine .inr ⟨(List.range n).map (solX rows cols n m), ?_, by simp, fun r hr' => ?_, fun r hr' q hq => ?_, fun k j hk hj => ?_, fun c l => gz (pick rows cols c) (n + m + l), fun k l hk hl' => ?_⟩
    · refine (run_eq (by rfl)).trans ?_
      generalize D.tup [.str "solution", encT ((List.range n).map (solX rows cols n m))] = ans at *
      unfold JnkE encT at hl he
      unfold encT
      generalize A.map encTr = DA at *
      generalize R.map encTr = DR at *
      have slN : slD none = Sl.un := rfl
      simp only [List.map_nil, natsO, slN] at hl
      simp only [natsO] at he
      generalize List.map O.fz (List.map encL rows) = o1 at *
      generalize List.map (fun i : Nat => O.fz (D.int (i : Int))) cols = o2 at *
      simp -implicitDefEqProofs [m_solve, r14_solve, r13_solve, r12_solve, startE, hlen, mR1, hr, hl, he]
    · obtain ⟨c, hc, rfl⟩ := List.mem_map.mp hr'
      have := hpl c (List.mem_range.mp hc)
      unfold solX
      rw [List.length_take, List.length_drop, this]; omega
    · obtain ⟨c, hc, rfl⟩ := List.mem_map.mp hr'
      have hc := List.mem_range.mp hc
      obtain ⟨_, _, _, hm'⟩ := I.pick hc
      obtain ⟨j, hj⟩ := List.mem_iff_getElem?.mp hq
      have hjl := (List.getElem?_eq_some_iff.mp hj).1
      have hjm : j < m := by
        unfold solX at hjl
        rw [List.length_take] at hjl; omega
      have e : gz (solX rows cols n m c) j = q := by unfold gz; rw [hj]; rfl
      rw [← e, hsx c j hc hjm]
      exact Nat.le_trans ((hbd _ hm').at _) hM.1
    · have := GI.solved g I hk (j := n + j) (by omega) (by omega)
      rw [given_r sy hk hj] at this
      show _ = gz ((R[k]?).getD []) j
      rw [← this]
      exact sm_ext fun c hc => by
        show tz A k c * gz ((((List.range n).map (solX rows cols n m))[c]?).getD []) j = _
        rw [hX c hc, hsx c j hc hj, given_a sy hk hc]; rfl
    · have := GI.solved g I hk (j := n + m + l) (by omega) (by omega)
      rw [g.unit k l hk hl'] at this
      rw [← this]
      exact sm_ext fun c hc => by rw [given_a sy hk hc]; rfl
def kJ (j : List Nat) : List Key := j.map fun (n : Nat) => (.inl (n : Int) : Key)
def rowD : List Nat → D
  | [] => .tup []
  | j => .kt (kJ j)
theorem rowD_ne {j : List Nat} (h : j ≠ []) : rowD j = .kt (kJ j) := by
  cases j with
  | nil => exact absurd rfl h
  | cons a j => rfl
theorem kJ_inj {a b : List Nat} (h : kJ a = kJ b) : a = b := by
  unfold kJ at h
  exact (List.map_inj_right (f := fun (n : Nat) => (.inl (n : Int) : Key)) (fun x y e => by
    have e : (Sum.inl (x : Int) : Key) = Sum.inl (y : Int) := e
    injection e with e
    omega)).mp h
theorem kJ_unk (j : List Nat) : D.unk (.kt (kJ j)) = encJ j := by
  unfold D.unk kJ encJ
  simp only
  rw [List.map_map]; rfl
theorem cat_row (r : List Nat) (s : Nat) (hr : r.length ≤ 100) : oCatK (.fz (rowD r)) (.fz (.kt [.inl (s : Int)])) = some (.fz (rowD (r ++ [s]))) := by
  have h1 : ([.inl (s : Int)] : List Key).length ≤ sizeLine := by rw [e_sizeLine]; simp
  cases r with
  | nil =>
    show (if ([.inl (s : Int)] : List Key).length ≤ sizeLine then some (O.fz (.kt [.inl (s : Int)])) else none) = _
    rw [if_pos h1]; rfl
  | cons a r =>
    show (if kJ (a :: r) ≠ [] ∧ ([.inl (s : Int)] : List Key) ≠ [] ∧ (kJ (a :: r)).length + 1 ≤ sizeLine then some (O.fz (.kt (kJ (a :: r) ++ [.inl (s : Int)]))) else none) = _
    rw [if_pos ⟨by unfold kJ; simp, by simp, by rw [e_sizeLine]; unfold kJ; rw [List.length_map]; omega⟩]
    rw [rowD_ne (by simp)]
    unfold kJ
    rw [List.map_append]; rfl
theorem joint_states_spec {ps : List Plc} (hn : ∀ p ∈ ps, p.rs.length = p.n ∧ p.n ≤ 5) (hl : ps.length ≤ 6) : f_joint_states [.tup (ps.map gmE)] = some (.tup ((jnt (nst ps)).map rowD)) := by
  have small := nst_small (fun p hp => (hn p hp).2) hl
  obtain ⟨env', hf, i2, rfl⟩ := for_inv (gs := gsName 2) (mb := b1_joint_states) (ds := ps.map gmE) (env := [.has (.fz (.tup (ps.map gmE))), .has (.ls (([[]] : List (List Nat)).map rowD |>.map .fz)), .un, .un, .un])
    (fun i env => ∃ (i2 : Sl), env = [.has (.fz (.tup (ps.map gmE))), .has (.ls (((jnt (nst (ps.take i))).map rowD).map .fz)), i2, .un, .un])
    ⟨.un, rfl⟩ (by
      rintro i d env hd ⟨i2, rfl⟩
      rw [List.getElem?_map] at hd
      obtain ⟨p, hp, rfl⟩ := Option.map_eq_some_iff.mp hd
      obtain ⟨hpn, hp5⟩ := hn p (List.mem_of_getElem? hp)
      have hsm := small (i + 1)
      have hsm0 := small i
      have hmem : ∀ r ∈ jnt (nst (ps.take i)), r.length ≤ 100 := fun r hr => by
        have := ((mem_jnt _ _).mp hr).len
        rw [this]; unfold nst; rw [List.length_map, List.length_take]; omega
      rw [nst_take hp] at hsm ⊢
      have ej : ((jnt (nst (ps.take i) ++ [p.n])).map rowD).map O.fz = [] ++ (jnt (nst (ps.take i))).flatMap fun r => (List.range p.n).map fun s => O.fz (rowD (r ++ [s])) := by
        rw [jnt_snoc, List.map_flatMap, List.map_flatMap, List.nil_append]
        refine congrArg (fun h => (jnt (nst (ps.take i))).flatMap h) (funext fun r => ?_)
        rw [List.map_map, List.map_map]; rfl
      have hz : ((jnt (nst (ps.take i))).flatMap fun r => (List.range p.n).map fun s => O.fz (rowD (r ++ [s]))).length ≤ 15625 := by
        have h : (((jnt (nst (ps.take i) ++ [p.n])).map rowD).map O.fz).length ≤ 15625 := by rw [List.length_map, List.length_map]; exact hsm
        rw [ej] at h
        exact h
      have hgl : (p.rs.map encQ).length = p.n := by rw [List.length_map, hpn]
      have hlt : (p.n : Int) < 4611686018427387904 := by omega
      have eg : gmE p = .tup [.tup (p.rs.map encQ), .tup (p.rows.map encR)] := rfl
      generalize jnt (nst (ps.take i)) = rows at *
      generalize hos : (rows.map rowD).map O.fz = os at *
      have lp : lcLoop2 [3, 4] (gsName 3) mYes [4] (mR1 (mCons (mL gLen (mCons (m2 oIx (mView 2) (mC (.int 0))) (mNil))) (mNil))) (gsName 4) mYes e1_joint_states (rows.map rowD) [] [.has (.fz (.tup (ps.map gmE))), .has (.ls os), .has (.fz (gmE p)), .un, .un] =
          some (((jnt (nst (ps.take i) ++ [p.n])).map rowD).map .fz, [.has (.fz (.tup (ps.map gmE))), .has (.ls os), .has (.fz (gmE p)), .un, .un]) := by
        rw [ej]
        clear hos ej
        generalize ps.map gmE = PG
        refine lc2_mapx rowD (fun r => (List.range p.n).map fun s => O.fz (rowD (r ++ [s]))) rows [] (by rfl) (by rw [e_sizeLine]; simp only [List.length_nil]; omega) fun r hr acc hacc => ?_
        refine ⟨[.has (.fz (.tup PG)), .has (.ls os), .has (.fz (gmE p)), .has (.fz (rowD r)), .un], (rangeD 0 p.n, [.has (.fz (.tup PG)), .has (.ls os), .has (.fz (gmE p)), .has (.fz (rowD r)), .un]), [.has (.fz (.tup PG)), .has (.ls os), .has (.fz (gmE p)), .has (.fz (rowD r)), .un], ?_, ?_, ?_, ?_⟩
        · simp -implicitDefEqProofs [wipeE]
        · rw [eg]
          generalize p.rs.map encQ = RS at *
          generalize p.rows.map encR = RR at *
          generalize rowD r = RD
          simp -implicitDefEqProofs [mR1, hgl, hlt]
        · have er : rangeD 0 p.n = (List.range p.n).map fun (k : Nat) => D.int (k : Int) := by
            unfold rangeD
            exact List.map_congr_left fun i _ => by rw [Int.zero_add]
          rw [er]
          generalize gmE p = GP
          refine lc_mapx (fun (s : Nat) => D.int (s : Int)) (fun s => O.fz (rowD (r ++ [s]))) (List.range p.n) acc (by rfl) (by simpa using hacc) fun s hs => ?_
          have hc := cat_row r s (hmem r hr)
          generalize rowD (r ++ [s]) = RS at *
          generalize rowD r = RD at *
          refine ⟨[.has (.fz (.tup PG)), .has (.ls os), .has (.fz GP), .has (.fz RD), .has (.fz (.int (s : Int)))], [.has (.fz (.tup PG)), .has (.ls os), .has (.fz GP), .has (.fz RD), .has (.fz (.int (s : Int)))], ?_, ?_, ?_⟩
          · simp -implicitDefEqProofs [wipeE]
          · simp -implicitDefEqProofs [e1_joint_states, hc]
          · simp -implicitDefEqProofs [backE]
        · simp -implicitDefEqProofs [backE]
      refine ⟨_, _, rfl, .inl ?_, .has (.fz (gmE p)), rfl⟩
      have eit : O.items (.ls os) = some (rows.map rowD) := by rw [← hos]; exact e_oitO
      generalize ((jnt (nst (ps.take i) ++ [p.n])).map rowD).map O.fz = os2 at *
      generalize rows.map rowD = RW at *
      generalize ps.map gmE = PG at *
      generalize gmE p = GP at *
      simp -implicitDefEqProofs [b1_joint_states, eit, lp])
  rw [List.length_map, List.take_length] at hf
  have htu : gTuple [.ls (((jnt (nst ps)).map rowD).map .fz)] = some (.fz (.tup ((jnt (nst ps)).map rowD))) := e_gTupO
  have eit : D.items (.tup (ps.map gmE)) = some (ps.map gmE) := rfl
  have e0 : (([[]] : List (List Nat)).map rowD |>.map O.fz) = [.fz (.tup [])] := rfl
  rw [e0] at hf
  refine (run_eq (by rfl)).trans ?_
  generalize ((jnt (nst ps)).map rowD).map O.fz = os at *
  generalize (jnt (nst ps)).map rowD = JJ at *
  generalize ps.map gmE = PG at *
  simp -implicitDefEqProofs [m_joint_states, startE, eit, hf, htu]
theorem joint_unk {ps : List Plc} (hne : ps ≠ []) : ((jnt (nst ps)).map rowD).map D.unk = (jnt (nst ps)).map encJ := by
  rw [List.map_map]
  refine List.map_congr_left fun j hj => ?_
  have hj := ((mem_jnt _ _).mp hj).len
  have : j ≠ [] := fun e => by
    subst e
    unfold nst at hj
    rw [List.length_map] at hj
    exact hne (List.length_eq_zero_iff.mp hj.symm)
  show D.unk (rowD j) = _
  rw [rowD_ne this, kJ_unk]
theorem look_kJ {j : List Nat} : ∀ (js : List (List Nat)) (c : Nat), j ∈ js → lookT (js.map kJ) ((List.range' c js.length).map fun (i : Nat) => D.int (i : Int)) (kJ j) = some (.int ((c + js.idxOf j : Nat) : Int))
  | [], c, h => by simp at h
  | a :: js, c, h => by
    rw [List.length_cons, List.range'_succ, List.map_cons, List.map_cons]
    show (if kJ a = kJ j then some (D.int (c : Int)) else lookT (js.map kJ) ((List.range' (c + 1) js.length).map fun (i : Nat) => D.int (i : Int)) (kJ j)) = _
    by_cases e : a = j
    · subst e
      rw [if_pos rfl]
      simp
    · rw [if_neg (fun h => e (kJ_inj h))]
      have hm : j ∈ js := by
        rcases List.mem_cons.mp h with q | q
        · exact absurd q.symm e
        · exact q
      rw [look_kJ js (c + 1) hm]
      have hb : (a == j) = false := by simpa using e
      rw [List.idxOf_cons, hb]
      simp only [cond_false]
      congr 3
      omega
def tabD (ns : List Nat) : D := .dt ((jnt ns).map kJ) ((List.range (jnt ns).length).map fun (i : Nat) => D.int (i : Int))
theorem look_tab {ns j : List Nat} (h : JOk ns j) : lookT ((jnt ns).map kJ) ((List.range (jnt ns).length).map fun (i : Nat) => D.int (i : Int)) (kJ j) = some (.int ((jnt ns).idxOf j : Nat)) := by
  have := look_kJ (jnt ns) 0 ((mem_jnt ns j).mpr h)
  rw [← List.range_eq_range', Nat.zero_add] at this
  exact this
theorem key_encJ (j : List Nat) : (O.fz (encJ j)).keyT = some (kJ j) := by
  show D.keys _ = _
  induction j with
  | nil => rfl
  | cons a j ih =>
    show D.keys (D.int (a : Int) :: _) = _
    rw [D.keys, ih]; rfl
theorem ix_tab {ns j : List Nat} (h : JOk ns j) : oDIxT (.fz (tabD ns)) (.fz (encJ j)) = some (.fz (.int ((jnt ns).idxOf j : Nat))) := by
  unfold oDIxT
  rw [key_encJ]
  show ((lookT ((jnt ns).map kJ) ((List.range (jnt ns).length).map fun (i : Nat) => D.int (i : Int)) (kJ j)).map O.fz) = _
  rw [look_tab h]; rfl
theorem table_places_spec {ps : List Plc} (hn : ∀ p ∈ ps, p.rs.length = p.n ∧ p.n ≤ 5) (hl : ps.length ≤ 6) (hne : ps ≠ []) : f_table_places [.tup (ps.map gmE)] = some (tabD (nst ps)) := by
  have hj := joint_states_spec hn hl
  have hsm := nst_small (fun p hp => (hn p hp).2) hl ps.length
  rw [List.take_length] at hsm
  have hnd := jnt_nodup (nst ps)
  have hjn : ∀ j ∈ jnt (nst ps), j ≠ [] := fun j hj e => by
    have := ((mem_jnt _ _).mp hj).len
    subst e
    unfold nst at this
    rw [List.length_map] at this
    exact hne (List.length_eq_zero_iff.mp this.symm)
  unfold tabD
  generalize jnt (nst ps) = js at *
  obtain ⟨env', hf, i2, rfl⟩ := for_inv (gs := gsName 2) (mb := b1_table_places) (ds := js.map rowD) (env := [.has (.fz (.tup (ps.map gmE))), .has (.ot [] []), .un])
    (fun k env => ∃ (i2 : Sl), env = [.has (.fz (.tup (ps.map gmE))), .has (.ot ((js.take k).map kJ) ((List.range k).map fun (i : Nat) => D.int (i : Int))), i2])
    ⟨.un, rfl⟩ (by
      rintro k d env hd ⟨i2, rfl⟩
      rw [List.getElem?_map] at hd
      obtain ⟨j, hj, rfl⟩ := Option.map_eq_some_iff.mp hd
      obtain ⟨hk, hjk⟩ := List.getElem?_eq_some_iff.mp hj
      have hjm := hjn j (List.mem_of_getElem? hj)
      have htk : js.take (k + 1) = js.take k ++ [j] := by rw [List.take_add_one, hj]; rfl
      have hnot : kJ j ∉ (js.take k).map kJ := fun h => by
        obtain ⟨i, hi, e⟩ := List.mem_map.mp h
        have e := kJ_inj e
        subst e
        have hd2 := hnd
        rw [← List.take_append_drop k js, List.nodup_append] at hd2
        have hm : i ∈ js.drop k := by
          rw [List.drop_eq_getElem_cons hk, hjk]; simp
        exact hd2.2.2 i hi i hm rfl
      have hlk := lookT_notin (ds := (List.range k).map fun (i : Nat) => D.int (i : Int)) hnot
      have hlen : ((js.take k).map kJ).length = k := by rw [List.length_map, List.length_take]; omega
      refine ⟨_, _, rfl, .inl ?_, .has (.fz (rowD j)), rfl⟩
      rw [rowD_ne hjm, htk, List.map_append, List.range_succ, List.map_append, List.map_cons, List.map_nil, List.map_cons, List.map_nil]
      generalize (List.range k).map (fun (i : Nat) => D.int (i : Int)) = vs at *
      generalize (js.take k).map kJ = kk at *
      generalize kJ j = kj at *
      generalize ps.map gmE = PG at *
      have hz : kk.length < sizeLine := by rw [e_sizeLine]; omega
      simp only [b1_table_places, e_sDSetT]
      simp -implicitDefEqProofs [dtAt, O.keyX, D.keyX, hz, hlk, hlen]
      omega)
  rw [List.length_map, List.take_length] at hf
  have eit : D.items (.tup (js.map rowD)) = some (js.map rowD) := rfl
  refine (run_eq (by rfl)).trans ?_
  generalize (List.range js.length).map (fun (i : Nat) => D.int (i : Int)) = vs at *
  generalize js.map kJ = kk at *
  generalize js.map rowD = JJ at *
  generalize ps.map gmE = PG at *
  have hfr : ∀ (kk : List (List Key)) (vs : List D), (O.ot kk vs).frz = D.dt kk vs := fun _ _ => by rw [O.frz]
  simp -implicitDefEqProofs [m_table_places, startE, hj, eit, hf, hfr]
theorem law_cell_spec (ns : List Int) (k : Nat) : f__law_cell [.lst (ns.map D.int), .int (k : Int)] = some (.int (cellZ ns k)) := by
  refine (run_eq (by rfl)).trans ?_
  have hm : mulOk 5 (k : Int) = true := mul_okL (by decide)
  by_cases h : k < ns.length
  · have e : atI (ns.map D.int) (k : Int) = some (.int ns[k]) := by
      rw [atI_nat' (by simpa using h), List.getElem?_map, List.getElem?_eq_getElem h]; rfl
    simp -implicitDefEqProofs [m__law_cell, startE, h, e, cellZ]
  · simp -implicitDefEqProofs [m__law_cell, startE, h, hm, cellZ]
theorem law_draws_spec (c : Int) (n : Nat) (hn : n ≤ 1000) : ∃ ds : List Int, f__law_draws [.int c, .int (n : Int)] = some (.lst (ds.map D.int)) ∧ ds.length = n ∧ ∀ d ∈ ds, 0 ≤ d ∧ d < 5040 := by
  generalize hz : (if c < 0 then -c else c) = z
  have key : ∃ env', forL (gsName 6) b1__law_draws (rangeD 0 n) [.has (.fz (.int c)), .has (.fz (.int n)), .has (.fz (.int z)), .has (.fz (.bl (decide (1000000000000000000 ≤ z)))), .has (.fz (.int z)), .has (.ls []), .un, .un] = some (.nx env') ∧
      ∃ (rest : Int) (ds : List Int) (k m : Sl), env' = [.has (.fz (.int c)), .has (.fz (.int n)), .has (.fz (.int rest)), .has (.fz (.bl (decide (1000000000000000000 ≤ z)))), .has (.fz (.int z)), .has (.ls (ds.map fun d => .fz (.int d))), k, m] ∧ ds.length = (rangeD 0 n).length ∧ ∀ d ∈ ds, 0 ≤ d ∧ d < 5040 := by
    refine for_inv (fun i env => ∃ (rest : Int) (ds : List Int) (k m : Sl), env = [.has (.fz (.int c)), .has (.fz (.int n)), .has (.fz (.int rest)), .has (.fz (.bl (decide (1000000000000000000 ≤ z)))), .has (.fz (.int z)), .has (.ls (ds.map fun d => .fz (.int d))), k, m] ∧ ds.length = i ∧ ∀ d ∈ ds, 0 ≤ d ∧ d < 5040)
      ⟨z, [], .un, .un, rfl, rfl, by simp⟩ ?_
    rintro i d env hd ⟨rest, ds, k, m, rfl, hl, hb⟩
    obtain ⟨hi, rfl⟩ := rangeD_get hd
    have hlz : ds.length < 16777216 := by omega
    have push : ∀ x : Int, 0 ≤ x ∧ x < 5040 → ((ds.map fun d => O.fz (.int d)) ++ [.fz (.int x)] = (ds ++ [x]).map (fun d => O.fz (.int d))) ∧ (ds ++ [x]).length = i + 1 ∧ ∀ d ∈ ds ++ [x], 0 ≤ d ∧ d < 5040 := fun x hx => by
      refine ⟨by simp, by simp [hl], fun d hd => ?_⟩
      rcases List.mem_append.mp hd with h | h
      · exact hb d h
      · rw [List.mem_singleton.mp h]; exact hx
    have m1 : mulOk z 48271 = true := mul_okR (by decide)
    have m2' : mulOk (0 + (i : Int) + 1) 69621 = true := mul_okR (by decide)
    by_cases hc : 1000000000000000000 ≤ z ∧ 0 < rest
    · obtain ⟨p1, p2, p3⟩ := push (rest.fmod 5040) ⟨Int.fmod_nonneg_of_pos _ (by decide), Int.fmod_lt_of_pos _ (by decide)⟩
      refine ⟨_, _, rfl, .inl ?_, rest.fdiv 5040, ds ++ [rest.fmod 5040], .has (.fz (.int (0 + (i : Int)))), m, rfl, p2, p3⟩
      simp -implicitDefEqProofs [b1__law_draws, hc.1, hc.2, hlz]
    · generalize hx : (z * 48271 + (0 + (i : Int) + 1) * 69621 + 11).fmod 2147483647 = x
      have hx0 : 0 ≤ x := by rw [← hx]; exact Int.fmod_nonneg_of_pos _ (by decide)
      have hx1 : x < 2147483647 := by rw [← hx]; exact Int.fmod_lt_of_pos _ (by decide)
      have m3 : mulOk x x = true := mul_okL (by omega)
      have m4 : mulOk 40692 (0 + (i : Int) + 3) = true := mul_okL (by decide)
      obtain ⟨p1, p2, p3⟩ := push ((((x * x + 40692 * (0 + (i : Int) + 3)).fmod 2147483399).fdiv 64).fmod 5040) ⟨Int.fmod_nonneg_of_pos _ (by decide), Int.fmod_lt_of_pos _ (by decide)⟩
      refine ⟨_, _, rfl, .inl ?_, rest, _, .has (.fz (.int (0 + (i : Int)))), .has (.fz (.int ((x * x + 40692 * (0 + (i : Int) + 3)).fmod 2147483399))), rfl, p2, p3⟩
      rw [Int.zero_add] at hx m2' m4 ⊢
      have hc' : 1000000000000000000 ≤ z → ¬ 0 < rest := fun h1 h2 => hc ⟨h1, h2⟩
      by_cases h1 : 1000000000000000000 ≤ z
      · simp -implicitDefEqProofs [b1__law_draws, h1, hc' h1, m1, m2', m3, m4, hx, hlz]
      · simp -implicitDefEqProofs [b1__law_draws, h1, m1, m2', m3, m4, hx, hlz]
  obtain ⟨env', h1, rest, ds, k, m, rfl, h2, h3⟩ := key
  refine ⟨ds, ?_, by rw [h2, rangeD_len], h3⟩
  refine (run_eq (by rfl)).trans ?_
  have hn2 : (n : Int) < 4611686018427387904 := by omega
  have e5 : O.frzs (ds.map fun d => O.fz (.int d)) = ds.map D.int := by rw [frzs_map, List.map_map]; exact List.map_congr_left fun d _ => by simp
  simp -implicitDefEqProofs [m__law_draws, startE, hz, mR1, hn2, h1, e5]
/-- the draws of a cell -/
noncomputable def drw (c : Int) (n : Nat) : List Int := open Classical in if h : n ≤ 1000 then Classical.choose (law_draws_spec c n h) else []
theorem drw_spec (c : Int) (n : Nat) (h : n ≤ 1000) : f__law_draws [.int c, .int (n : Int)] = some (.lst ((drw c n).map D.int)) ∧ (drw c n).length = n ∧ ∀ d ∈ drw c n, 0 ≤ d ∧ d < 5040 := by
  unfold drw
  rw [dif_pos h]
  exact Classical.choose_spec (law_draws_spec c n h)
noncomputable def drwAt (c : Int) (n i : Nat) : Int := (drw c n)[i]?.getD 0
theorem drw_at (c : Int) (n i : Nat) (h : n ≤ 1000) (hi : i < n) : atI ((drw c n).map D.int) (i : Int) = some (.int (drwAt c n i)) ∧ 0 ≤ drwAt c n i ∧ drwAt c n i < 5040 := by
  obtain ⟨_, h2, h3⟩ := drw_spec c n h
  have e : drwAt c n i = (drw c n)[i]'(by omega) := by
    unfold drwAt
    rw [List.getElem?_eq_getElem (by omega)]; rfl
  rw [e]
  refine ⟨?_, h3 _ (List.getElem_mem _)⟩
  rw [atI_nat' (by rw [List.length_map]; omega), List.getElem?_map, List.getElem?_eq_getElem (by omega)]; rfl
theorem low_loop : ∀ (k : Nat) (n d a b : Int) (x4 : Sl), b.toNat ≤ k → 0 ≤ a → 0 ≤ b → ∃ f x4', whileF (mTst (m2 oGt (mView 3) (mC (.int 0)))) b1__law_low f [.has (.fz (.int n)), .has (.fz (.int d)), .has (.fz (.int a)), .has (.fz (.int b)), x4] = some (.nx [.has (.fz (.int n)), .has (.fz (.int d)), .has (.fz (.int ((Nat.gcd a.natAbs b.natAbs : Nat) : Int))), .has (.fz (.int 0)), x4'])
  | k, n, d, a, b, x2, hk, ha, hb => by
    by_cases h0 : b = 0
    · subst h0
      refine ⟨1, x2, ?_⟩
      have : ((a.natAbs : Nat) : Int) = a := by omega
      simp -implicitDefEqProofs [whileF, this]
    · have e : a.fmod b = a % b := Int.fmod_eq_emod_of_nonneg _ hb
      have h1 : 0 ≤ a % b := Int.emod_nonneg _ h0
      have h2 : a % b < b := Int.emod_lt_of_pos _ (by omega)
      match k, hk with
      | 0, hk => omega
      | k + 1, hk =>
        obtain ⟨f, x2', h⟩ := low_loop k n d b (a % b) (.has (.fz (.int (a % b)))) (by omega) hb h1
        refine ⟨f + 1, x2', ?_⟩
        have hb' : (0 : Int) < b := by omega
        have e2 : Nat.gcd a.natAbs b.natAbs = Nat.gcd b.natAbs (a % b).natAbs := by
          rw [gcd_step, Int.natAbs_emod_of_nonneg ha]
        rw [whileF]
        simp -implicitDefEqProofs [hb', h0, e, b1__law_low]
        rw [e2]
        exact h
theorem law_low_spec (n d : Int) (h : d ≠ 0) : f__law_low [.int n, .int d] = some (encQ (Rat.divInt n d)) := by
  have hg : (((Nat.gcd n.natAbs d.natAbs : Nat) : Int)) ≠ 0 := by
    have : Nat.gcd n.natAbs d.natAbs ≠ 0 := Nat.gcd_ne_zero_right (by omega)
    omega
  refine (run_eq (by rfl)).trans ?_
  obtain ⟨f, x2', h'⟩ := low_loop _ n d (if n < 0 then -n else n) (if d < 0 then -d else d) .un (Nat.le_refl _) (by split <;> omega) (by split <;> omega)
  have h' := sWhile_of h'
  have e1 : (if n < 0 then -n else n).natAbs = n.natAbs := by split <;> omega
  have e2 : (if d < 0 then -d else d).natAbs = d.natAbs := by split <;> omega
  rw [e1, e2] at h'
  by_cases hs : d < 0
  · obtain ⟨q1, q2⟩ := divInt_parts_pos (-n) (d := -d) (by omega)
    rw [Rat.neg_divInt_neg, Int.natAbs_neg, Int.natAbs_neg] at q1 q2
    simp -implicitDefEqProofs only [hs, if_true] at h'
    simp -implicitDefEqProofs [m__law_low, startE, h', hs, encQ, q1, q2, hg, h]
  · obtain ⟨q1, q2⟩ := divInt_parts_pos n (d := d) (by omega)
    simp -implicitDefEqProofs only [hs, if_false] at h'
    simp -implicitDefEqProofs [m__law_low, startE, h', hs, encQ, q1, q2, hg, h]
theorem law_is_integer_spec (i : Int) : f__law_is_integer [.int i] = some (.bl true) := by
  refine (run_eq (by rfl)).trans ?_
  simp -implicitDefEqProofs [m__law_is_integer, startE, isiO]
theorem law_is_ratio_spec (q : Rat) : f__law_is_ratio [encQ q] = some (.bl true) := by
  refine (run_eq (by rfl)).trans ?_
  have h1 : ¬ ((q.den : Int) < 1) := by have := den_pos' q; omega
  have h2 := law_low_spec q.num q.den (den_ne q)
  rw [Rat.num_divInt_den] at h2
  have h3 := (eqQ q q).1
  simp -implicitDefEqProofs only [encQ] at h2 h3
  have h4 := q.den_nz
  simp -implicitDefEqProofs [m__law_is_ratio, startE, isiO, encQ, law_is_integer_spec, h1, h2, h3, h4]
theorem law_add_spec {a b : Rat} (h' : sz a + sz b ≤ 134217728 := by omega) : f__law_add [encQ a, encQ b] = some (encQ (a + b)) := by
  refine (run_eq (by rfl)).trans ?_
  obtain ⟨h1, h2, h3, h4, h5⟩ := oks h'
  have e := law_low_spec (a.num * b.den + b.num * a.den) (a.den * b.den) (Int.mul_ne_zero (den_ne a) (den_ne b))
  rw [add_divInt] at e
  skip
  simp -implicitDefEqProofs [m__law_add, startE, encQ, h1, h2, h3, h4, h5]
  simp -implicitDefEqProofs [encQ] at e
  simp -implicitDefEqProofs [e]
theorem law_mul_spec {a b : Rat} (h' : sz a + sz b ≤ 134217728 := by omega) : f__law_mul [encQ a, encQ b] = some (encQ (a * b)) := by
  refine (run_eq (by rfl)).trans ?_
  obtain ⟨h1, h2, h3, h4, h5⟩ := oks h'
  have e := law_low_spec (a.num * b.num) (a.den * b.den) (Int.mul_ne_zero (den_ne a) (den_ne b))
  rw [mul_divInt] at e
  skip
  simp -implicitDefEqProofs [m__law_mul, startE, encQ, h1, h2, h3, h4, h5]
  simp -implicitDefEqProofs [encQ] at e
  simp -implicitDefEqProofs [e]
theorem law_fraction_spec (d : Int) : ∃ q : Rat, f__law_fraction [.int d] = some (encQ q) ∧ sz q ≤ 4 := by
  obtain ⟨p, hp, p0, p1⟩ : ∃ x, d.fmod 13 - 6 = x ∧ -6 ≤ x ∧ x ≤ 6 := ⟨_, rfl, by have := Int.fmod_nonneg_of_pos d (b := 13) (by decide); omega, by have := Int.fmod_lt_of_pos d (b := 13) (by decide); omega⟩
  obtain ⟨w, hw, w0, w1⟩ : ∃ x, 1 + (d.fdiv 13).fmod 4 = x ∧ 1 ≤ x ∧ x ≤ 4 := ⟨_, rfl, by have := Int.fmod_nonneg_of_pos (d.fdiv 13) (b := 4) (by decide); omega, by have := Int.fmod_lt_of_pos (d.fdiv 13) (b := 4) (by decide); omega⟩
  refine ⟨Rat.divInt p w, ?_, sz_divInt (by omega) (by omega) (by decide)⟩
  have e := law_low_spec p w (by omega)
  refine (run_eq (by rfl)).trans ?_
  simp -implicitDefEqProofs [m__law_fraction, startE, hp, hw, e]
theorem law_discount_spec (d : Int) : ∃ q : Rat, f__law_discount [.int d] = some (encQ q) ∧ sz q ≤ 8 ∧ 0 ≤ q ∧ q < 1 := by
  obtain ⟨w, hw, w0, w1⟩ : ∃ x, 2 + d.fmod 9 = x ∧ 2 ≤ x ∧ x ≤ 10 := ⟨_, rfl, by have := Int.fmod_nonneg_of_pos d (b := 9) (by decide); omega, by have := Int.fmod_lt_of_pos d (b := 9) (by decide); omega⟩
  obtain ⟨p, hp, p0, p1⟩ : ∃ x, (d.fdiv 9).fmod w = x ∧ 0 ≤ x ∧ x < w := ⟨_, rfl, Int.fmod_nonneg_of_pos _ (by omega), Int.fmod_lt_of_pos _ (by omega)⟩
  have e := law_low_spec p w (by omega)
  have hw0 : w ≠ 0 := by omega
  refine ⟨Rat.divInt p w, (run_eq (by rfl)).trans ?_, sz_divInt (by omega) (by omega) (by decide), divInt_nonneg p0 (by omega), divInt_lt_one (by omega) p1⟩
  simp -implicitDefEqProofs [m__law_discount, startE, hw, hp, hw0, e]
def wO (w : Nat → Int) (n : Nat) : List O := (List.range n).map fun t => O.fz (.int (w t))
def wSum (w : Nat → Int) (n : Nat) : Int := ((List.range n).map w).sum
theorem e_sumW (w : Nat → Int) (n : Nat) : gSum [.ls (wO w n)] = some (.fz (.int (wSum w n))) := by
  have := e_sum (is := (List.range n).map w)
  rw [List.map_map] at this
  exact this
theorem wSum_nn {w : Nat → Int} (h : ∀ t, 0 ≤ w t) : ∀ n, 0 ≤ wSum w n := fun n => by
  unfold wSum
  induction n with
  | zero => simp
  | succ n ih => rw [List.range_succ, List.map_append, List.sum_append, List.map_singleton, List.sum_singleton]; have := h n; omega
theorem wSum_up {w : Nat → Int} (h : ∀ t, w t ≤ 3) : ∀ n : Nat, wSum w n ≤ 3 * n := fun n => by
  unfold wSum
  induction n with
  | zero => simp
  | succ n ih => rw [List.range_succ, List.map_append, List.sum_append, List.map_singleton, List.sum_singleton]; have := h n; omega
theorem wSum_ge {w : Nat → Int} (h : ∀ t, 0 ≤ w t) (t : Nat) : ∀ n, t < n → w t ≤ wSum w n := fun n ht => by
  unfold wSum
  induction n with
  | zero => omega
  | succ n ih =>
    rw [List.range_succ, List.map_append, List.sum_append, List.map_singleton, List.sum_singleton]
    by_cases e : t = n
    · subst e
      have := wSum_nn h t
      unfold wSum at this
      omega
    · have := ih (by omega)
      have := h n
      omega
def gRowW (w : Nat → Int) (n : Nat) : List (Nat × Rat) := ((List.range n).filter fun t => decide (0 < w t)).map fun t => (t, Rat.divInt (w t) (wSum w n))
theorem gRowW_d {n : Nat} {w : Nat → Int} (hn : n ≤ 24) (hw : ∀ t, 0 ≤ w t ∧ w t ≤ 3) (h1 : 1 ≤ wSum w n) : RowD (gRowW w n) := by
  have up := wSum_up (fun t => (hw t).2) n
  refine ⟨wSum w n, by omega, by omega, fun p hp => ?_⟩
  obtain ⟨t, ht, rfl⟩ := List.mem_map.mp hp
  have ht := List.mem_range.mp (List.mem_filter.mp ht).1
  refine ⟨w t, ?_, (hw t).1, wSum_ge (fun t => (hw t).1) t n ht⟩
  show Rat.divInt (w t) (wSum w n) * _ = _
  have h0 : ((wSum w n : Int) : Rat) ≠ 0 := fun z => by have := Rat.intCast_inj.mp (z.trans Rat.intCast_zero.symm); omega
  rw [divInt_div]
  grind
theorem gRowW_ok {n : Nat} {w : Nat → Int} (hn : n ≤ 24) (hw : ∀ t, 0 ≤ w t ∧ w t ≤ 3) (h1 : 1 ≤ wSum w n) : RowOk n (gRowW w n) ∧ Canon (gRowW w n) ∧ (gRowW w n).length ≤ 24 ∧ ∀ p ∈ gRowW w n, sz p.2 ≤ 7 := by
  have up := wSum_up (fun t => (hw t).2) n
  have hz : ∀ p ∈ gRowW w n, sz p.2 ≤ 7 := fun p hp => by
    obtain ⟨t, ht, rfl⟩ := List.mem_map.mp hp
    have := hw t
    exact sz_divInt (k := 7) (by omega) (by omega) (by decide)
  have hl : (gRowW w n).length ≤ 24 := by
    unfold gRowW
    rw [List.length_map]
    have := List.length_filter_le (fun t => decide (0 < w t)) (List.range n)
    rw [List.length_range] at this
    omega
  refine ⟨⟨fun p hp => ?_, fun p hp => ?_, ?_, ?_⟩, ⟨?_, fun p hp => ?_⟩, hl, hz⟩
  · obtain ⟨t, ht, rfl⟩ := List.mem_map.mp hp
    exact List.mem_range.mp (List.mem_filter.mp ht).1
  · obtain ⟨t, ht, rfl⟩ := List.mem_map.mp hp
    exact Rat.divInt_nonneg (hw t).1 (by omega)
  · unfold gRowW
    rw [List.map_map]
    show sumQ 0 (((List.range n).filter fun t => decide (0 < w t)).map fun t => Rat.divInt (w t) (wSum w n)) = 1
    rw [sumQ0_sm, sm_filter, sm_congr (g := fun t => Rat.divInt (w t) (wSum w n)) fun t _ => by
      by_cases h : 0 < w t
      · rw [if_pos (by simpa using h)]
      · have h0 : w t = 0 := by have := hw t; omega
        rw [if_neg (by simpa using h), h0, Rat.zero_divInt], ← sumQ0_sm]
    have := sumQ_div (wSum w n) ((List.range n).map w) 0
    rw [Rat.zero_divInt, List.map_map, Int.zero_add] at this
    refine Eq.trans this ?_
    show Rat.divInt (wSum w n) (wSum w n) = 1
    exact divInt_self' (by omega)
  · have := szs_le (qs := (gRowW w n).map (·.2)) (k := 7) fun q hq => by
      obtain ⟨p, hp, rfl⟩ := List.mem_map.mp hq
      exact hz p hp
    rw [List.length_map] at this
    omega
  · unfold gRowW
    rw [List.map_map]
    have e : (List.map ((fun x : Nat × Rat => x.1) ∘ fun t => (t, Rat.divInt (w t) (wSum w n))) ((List.range n).filter fun t => decide (0 < w t))) = (List.range n).filter fun t => decide (0 < w t) := by
      conv => rhs; rw [← List.map_id ((List.range n).filter fun t => decide (0 < w t))]
      exact List.map_congr_left fun k _ => rfl
    rw [e]
    exact List.Pairwise.filter _ List.pairwise_lt_range
  · obtain ⟨t, ht, rfl⟩ := List.mem_map.mp hp
    have := of_decide_eq_true (List.mem_filter.mp ht).2
    exact divInt_ne (by omega) (by omega)
theorem gRowW_all {n : Nat} {w : Nat → Int} (hn : n ≤ 24) (hw : ∀ t, 0 ≤ w t ∧ w t ≤ 3) (h1 : 1 ≤ wSum w n) : RowOk n (gRowW w n) ∧ Canon (gRowW w n) ∧ (gRowW w n).length ≤ 24 ∧ (∀ p ∈ gRowW w n, sz p.2 ≤ 7) ∧ RowD (gRowW w n) := by
  obtain ⟨a, b, c, d⟩ := gRowW_ok hn hw h1
  exact ⟨a, b, c, d, gRowW_d hn hw h1⟩
theorem law_game_turn (gr : Bool) (C : D) (mo n i : Nat) (ds : List D) (a : Nat → Int) (hn : 1 ≤ n) (hm : n ≤ mo) (hmo : mo ≤ 24) (hi : i < n) (ha : ∀ j : Nat, j < 1 + mo + mo * mo → atI ds (j : Int) = some (.int (a j))) (os rew : List O) (hos : os.length ≤ 24) (j6 s8 : Sl) :
    ∃ r s8', (RowOk n r ∧ Canon r ∧ r.length ≤ 24 ∧ (∀ p ∈ r, sz p.2 ≤ 7) ∧ RowD r) ∧ b2__law_game [.has (.fz C), .has (.fz (.int (mo : Int))), .has (.fz (.bl gr)), .has (.fz (.lst ds)), .has (.fz (.int (n : Int))), .has (.ls rew), .has (.fz (.int (i : Int))), j6, .has (.ls os), s8, .un] =
      some (.nx [.has (.fz C), .has (.fz (.int (mo : Int))), .has (.fz (.bl gr)), .has (.fz (.lst ds)), .has (.fz (.int (n : Int))), .has (.ls rew), .has (.fz (.int (i : Int))), j6, .has (.ls (os ++ [.fz (encR r)])), s8', .un]) := by
  have hn2 : (n : Int) < 4611686018427387904 := by omega
  have mni : mulOk (n : Int) (i : Int) = true := mul_okL (by omega)
  let w0 : Nat → Int := fun t => (a (1 + n + n * i + t)).fmod 4
  have hw0 : ∀ t, 0 ≤ w0 t ∧ w0 t ≤ 3 := fun t => by
    have q1 := Int.fmod_nonneg_of_pos (a (1 + n + n * i + t)) (b := 4) (by decide)
    have q2 := Int.fmod_lt_of_pos (a (1 + n + n * i + t)) (b := 4) (by decide)
    show 0 ≤ (a (1 + n + n * i + t)).fmod 4 ∧ (a (1 + n + n * i + t)).fmod 4 ≤ 3
    omega
  have lp1 : lcLoop [10] (gsName 10) mYes e1__law_game (rangeD 0 n) [] [.has (.fz C), .has (.fz (.int (mo : Int))), .has (.fz (.bl gr)), .has (.fz (.lst ds)), .has (.fz (.int (n : Int))), .has (.ls rew), .has (.fz (.int (i : Int))), j6, .has (.ls os), s8, .un] =
      some (wO w0 n, [.has (.fz C), .has (.fz (.int (mo : Int))), .has (.fz (.bl gr)), .has (.fz (.lst ds)), .has (.fz (.int (n : Int))), .has (.ls rew), .has (.fz (.int (i : Int))), j6, .has (.ls os), s8, .un]) := by
    rw [range0_map]
    refine lc_mapx (fun (i : Nat) => D.int (i : Int)) (fun t => O.fz (.int (w0 t))) (List.range n) [] rfl (by rw [e_sizeLine]; simp; omega) fun t ht => ?_
    have ht := List.mem_range.mp ht
    have hb : 1 + n + n * i + t < 1 + mo + mo * mo := by
      have h1 : n * i + n ≤ n * n := by
        have : n * (i + 1) ≤ n * n := Nat.mul_le_mul_left _ (by omega)
        rwa [Nat.mul_succ] at this
      have h2 : n * n ≤ mo * mo := Nat.mul_le_mul hm hm
      omega
    have e := ha (1 + n + n * i + t) hb
    rw [Int.natCast_add, Int.natCast_add, Int.natCast_add, Int.natCast_mul] at e
    have c1 : ((1 : Nat) : Int) = 1 := rfl
    rw [c1] at e
    refine ⟨[.has (.fz C), .has (.fz (.int (mo : Int))), .has (.fz (.bl gr)), .has (.fz (.lst ds)), .has (.fz (.int (n : Int))), .has (.ls rew), .has (.fz (.int (i : Int))), j6, .has (.ls os), s8, .has (.fz (.int (t : Int)))], [.has (.fz C), .has (.fz (.int (mo : Int))), .has (.fz (.bl gr)), .has (.fz (.lst ds)), .has (.fz (.int (n : Int))), .has (.ls rew), .has (.fz (.int (i : Int))), j6, .has (.ls os), s8, .has (.fz (.int (t : Int)))], ?_, ?_, ?_⟩
    · simp -implicitDefEqProofs [wipeE]
    · show e1__law_game _ = some (O.fz (.int ((a (1 + n + n * i + t)).fmod 4)), _)
      generalize a (1 + n + n * i + t) = at' at *
      simp -implicitDefEqProofs [e1__law_game, mni, e]
    · simp -implicitDefEqProofs [backE]
  have hol : os.length < 16777216 := by omega
  have key : ∀ (w : Nat → Int), (∀ t, 0 ≤ w t ∧ w t ≤ 3) → 1 ≤ wSum w n →
      sApp 8 (mL gTuple (mCons (mLc [10] (mR1 (mCons (mView 4) (mNil))) (gsName 10) (t1__law_game) (e2__law_game)) (mNil)))
        [.has (.fz C), .has (.fz (.int (mo : Int))), .has (.fz (.bl gr)), .has (.fz (.lst ds)), .has (.fz (.int (n : Int))), .has (.ls rew), .has (.fz (.int (i : Int))), j6, .has (.ls os), .has (.ls (wO w n)), .un] =
        some (.nx [.has (.fz C), .has (.fz (.int (mo : Int))), .has (.fz (.bl gr)), .has (.fz (.lst ds)), .has (.fz (.int (n : Int))), .has (.ls rew), .has (.fz (.int (i : Int))), j6, .has (.ls (os ++ [.fz (encR (gRowW w n))])), .has (.ls (wO w n)), .un]) := fun w hw h1 => by
    have lp2 : lcLoop [10] (gsName 10) t1__law_game e2__law_game (rangeD 0 n) [] [.has (.fz C), .has (.fz (.int (mo : Int))), .has (.fz (.bl gr)), .has (.fz (.lst ds)), .has (.fz (.int (n : Int))), .has (.ls rew), .has (.fz (.int (i : Int))), j6, .has (.ls os), .has (.ls (wO w n)), .un] =
        some (((gRowW w n).map encP).map .fz, [.has (.fz C), .has (.fz (.int (mo : Int))), .has (.fz (.bl gr)), .has (.fz (.lst ds)), .has (.fz (.int (n : Int))), .has (.ls rew), .has (.fz (.int (i : Int))), j6, .has (.ls os), .has (.ls (wO w n)), .un]) := by
      rw [range0_map]
      have := lc_filterx (vs := [10]) (gs := gsName 10) (mt := t1__law_game) (me := e2__law_game) (env := [.has (.fz C), .has (.fz (.int (mo : Int))), .has (.fz (.bl gr)), .has (.fz (.lst ds)), .has (.fz (.int (n : Int))), .has (.ls rew), .has (.fz (.int (i : Int))), j6, .has (.ls os), .has (.ls (wO w n)), .un])
        (fun (i : Nat) => D.int (i : Int)) (fun t => decide (0 < w t)) (fun t => O.fz (encP (t, Rat.divInt (w t) (wSum w n)))) (List.range n) [] rfl (by rw [e_sizeLine]; simp; omega) fun t ht => by
        have e := range_at (g := fun t => O.fz (.int (w t))) (List.mem_range.mp ht)
        have f := law_low_spec (w t) (wSum w n) (by omega)
        have es := e_sumW w n
        generalize wSum w n = W at *
        unfold wO at *
        generalize (List.range n).map (fun t => O.fz (.int (w t))) = wos at *
        unfold encP
        generalize w t = wt at *
        refine ⟨[.has (.fz C), .has (.fz (.int (mo : Int))), .has (.fz (.bl gr)), .has (.fz (.lst ds)), .has (.fz (.int (n : Int))), .has (.ls rew), .has (.fz (.int (i : Int))), j6, .has (.ls os), .has (.ls wos), .has (.fz (.int (t : Int)))], [.has (.fz C), .has (.fz (.int (mo : Int))), .has (.fz (.bl gr)), .has (.fz (.lst ds)), .has (.fz (.int (n : Int))), .has (.ls rew), .has (.fz (.int (i : Int))), j6, .has (.ls os), .has (.ls wos), .has (.fz (.int (t : Int)))], ?_, ?_, fun _ => ⟨[.has (.fz C), .has (.fz (.int (mo : Int))), .has (.fz (.bl gr)), .has (.fz (.lst ds)), .has (.fz (.int (n : Int))), .has (.ls rew), .has (.fz (.int (i : Int))), j6, .has (.ls os), .has (.ls wos), .has (.fz (.int (t : Int)))], ?_, ?_⟩, fun _ => ?_⟩
        · simp -implicitDefEqProofs [wipeE]
        · simp -implicitDefEqProofs [t1__law_game, e]
        · simp -implicitDefEqProofs [e2__law_game, e, es, f]
        · simp -implicitDefEqProofs [backE]
        · simp -implicitDefEqProofs [backE]
      rw [this, List.nil_append]
      unfold gRowW
      rw [List.map_map, List.map_map]; rfl
    have es := e_sumW w n
    unfold encR
    generalize (gRowW w n).map encP = L at *
    generalize wO w n = wos at *
    generalize wSum w n = W at *
    simp -implicitDefEqProofs [es, mR1, hn2, lp2, hol]
  have es0 := e_sumW w0 n
  have nn0 := wSum_nn (fun t => (hw0 t).1) n
  by_cases h0 : wSum w0 n = 0
  · obtain ⟨t, ht, t1⟩ : ∃ t : Nat, ((i : Int) + 1).fmod (n : Int) = (t : Int) ∧ t < n := by
      have q1 := Int.fmod_nonneg_of_pos ((i : Int) + 1) (b := (n : Int)) (by omega)
      have q2 := Int.fmod_lt_of_pos ((i : Int) + 1) (b := (n : Int)) (by omega)
      exact ⟨(((i : Int) + 1).fmod (n : Int)).toNat, by omega, by omega⟩
    have hw2 : ∀ x, 0 ≤ (if x = t then 1 else w0 x) ∧ (if x = t then 1 else w0 x) ≤ 3 := fun x => by
      split
      · omega
      · exact hw0 x
    have hge : 1 ≤ wSum (fun x => if x = t then 1 else w0 x) n := by
      have := wSum_ge (w := fun x => if x = t then 1 else w0 x) (fun x => (hw2 x).1) t n t1
      simp only [if_true] at this
      exact this
    have k := key (fun x => if x = t then 1 else w0 x) hw2 hge
    have hix : ixN (wO w0 n).length (t : Int) = some t := ixN_nat (by unfold wO; simpa using t1)
    have hset : (wO w0 n).set t (.fz (.int 1)) = wO (fun x => if x = t then 1 else w0 x) n := by
      unfold wO
      rw [range_set]
      refine List.map_congr_left fun x _ => ?_
      show _ = O.fz (.int (if x = t then 1 else w0 x))
      split <;> rfl
    have n0 : (n : Int) ≠ 0 := by omega
    have n0' : ¬ n = 0 := by omega
    refine ⟨gRowW (fun x => if x = t then 1 else w0 x) n, .has (.ls (wO (fun x => if x = t then 1 else w0 x) n)), gRowW_all (by omega) hw2 hge, ?_⟩
    rw [h0] at es0
    generalize encR (gRowW (fun x => if x = t then 1 else w0 x) n) = R at *
    generalize wSum (fun x => if x = t then 1 else w0 x) n = W at *
    generalize wO (fun x => if x = t then 1 else w0 x) n = wos2 at *
    generalize wO w0 n = wos at *
    unfold b2__law_game
    generalize htl : sApp 8 (mL gTuple (mCons (mLc [10] (mR1 (mCons (mView 4) (mNil))) (gsName 10) (t1__law_game) (e2__law_game)) (mNil))) = tl at *
    simp -implicitDefEqProofs [mR1, hn2, lp1, es0, n0, n0', ht, sSetIx, lsAt, hix, hset, k]
  · have k := key w0 hw0 (by omega)
    refine ⟨gRowW w0 n, .has (.ls (wO w0 n)), gRowW_all (by omega) hw0 (by omega), ?_⟩
    generalize encR (gRowW w0 n) = R at *
    generalize wSum w0 n = W at *
    generalize wO w0 n = wos at *
    unfold b2__law_game
    generalize htl : sApp 8 (mL gTuple (mCons (mLc [10] (mR1 (mCons (mView 4) (mNil))) (gsName 10) (t1__law_game) (e2__law_game)) (mNil))) = tl at *
    simp -implicitDefEqProofs [mR1, hn2, lp1, es0, h0, k]
noncomputable def frQ (d : Int) : Rat := Classical.choose (law_fraction_spec d)
theorem frQ_spec (d : Int) : f__law_fraction [.int d] = some (encQ (frQ d)) ∧ sz (frQ d) ≤ 4 := Classical.choose_spec (law_fraction_spec d)
theorem law_add_raw {a b c d : Int} (hb : b ≠ 0) (hd : d ≠ 0) (h1 : mulOk a d = true) (h2 : mulOk c b = true) (h3 : mulOk b d = true) : f__law_add [.tup [.int a, .int b], .tup [.int c, .int d]] = some (encQ (Rat.divInt (a * d + c * b) (b * d))) := by
  have e := law_low_spec (a * d + c * b) (b * d) (Int.mul_ne_zero hb hd)
  refine (run_eq (by rfl)).trans ?_
  generalize encQ (Rat.divInt (a * d + c * b) (b * d)) = E at *
  simp -implicitDefEqProofs [m__law_add, startE, h1, h2, h3, e]
theorem law_game_rew (gr : Bool) (c : Int) (mo n i : Nat) (ds : List D) (a : Nat → Int) (hn : 1 ≤ n) (hm : n ≤ mo) (hmo : mo ≤ 24) (hi : i < n) (ha : ∀ j : Nat, j < 1 + mo + mo * mo → atI ds (j : Int) = some (.int (a j))) (rew : List O) (hr : rew.length ≤ 24) (j6 : Sl) :
    ∃ (q : Rat), Sq 110 4 q ∧ b1__law_game [.has (.fz (.int c)), .has (.fz (.int (mo : Int))), .has (.fz (.bl gr)), .has (.fz (.lst ds)), .has (.fz (.int (n : Int))), .has (.ls rew), .has (.fz (.int (i : Int))), j6, .un, .un, .un] =
      some (.nx [.has (.fz (.int c)), .has (.fz (.int (mo : Int))), .has (.fz (.bl gr)), .has (.fz (.lst ds)), .has (.fz (.int (n : Int))), .has (.ls (rew ++ [.fz (encQ q)])), .has (.fz (.int (i : Int))), .has (.fz (encQ q)), .un, .un, .un]) := by
  have e := ha (1 + i) (by omega)
  have c2 : ((1 : Nat) : Int) = 1 := rfl
  rw [Int.natCast_add, c2] at e
  obtain ⟨f, z⟩ := frQ_spec (a (1 + i))
  generalize a (1 + i) = x at *
  have hl : rew.length < 16777216 := by omega
  cases gr
  case true =>
    have z1 : (frQ x).num.natAbs < 2 ^ 4 := num_sz z
    have z2 : ((frQ x).den : Int).natAbs < 2 ^ 4 := den_sz z
    have w1 := Int.fmod_nonneg_of_pos c (b := 1000000000000000000000000000000) (by decide)
    have w2 := Int.fmod_lt_of_pos c (b := 1000000000000000000000000000000) (by decide)
    have m1' : mulOk (frQ x).num 1000000000000000000000000000000 = true := mul_okL (Nat.lt_of_lt_of_le z1 (by decide))
    have m2' : mulOk (c.fmod 1000000000000000000000000000000) (frQ x).den = true := mul_okR (Nat.lt_of_lt_of_le z2 (by decide))
    have m3' : mulOk ((frQ x).num * 1000000000000000000000000000000) 1 = true := mul_okR (by decide)
    have m4' : mulOk ((frQ x).den : Int) 1 = true := mul_okR (by decide)
    have g := law_add_raw (a := (frQ x).num * 1000000000000000000000000000000) (b := (frQ x).den) (c := c.fmod 1000000000000000000000000000000) (d := 1) (den_ne _) (by decide) m3' m2' m4'
    have pd : (0 : Int) ≤ (frQ x).den := by omega
    have pm : 0 ≤ c.fmod 1000000000000000000000000000000 * ((frQ x).den : Int) ∧ c.fmod 1000000000000000000000000000000 * ((frQ x).den : Int) ≤ 1000000000000000000000000000000 * 16 := by
      constructor
      · exact Int.mul_nonneg w1 pd
      · exact Int.mul_le_mul (by omega) (by omega) pd (by decide)
    refine ⟨Rat.divInt ((frQ x).num * 1000000000000000000000000000000 * 1 + c.fmod 1000000000000000000000000000000 * (frQ x).den) ((frQ x).den * 1), sq_divInt (by omega) (by omega) (by have := den_ne (frQ x); omega), ?_⟩
    · unfold encQ at f
      generalize hcc : c.fmod 1000000000000000000000000000000 = c' at *
      generalize encQ (Rat.divInt ((frQ x).num * 1000000000000000000000000000000 * 1 + c' * (frQ x).den) ((frQ x).den * 1)) = E at *
      generalize (frQ x).num = u at *
      generalize ((frQ x).den : Int) = v at *
      simp -implicitDefEqProofs [b1__law_game, e, f, m1', hcc, g, hl]
  case false =>
    refine ⟨frQ x, ((sq_sz (frQ x)).mono z z).mono (by decide) (by decide), ?_⟩
    generalize encQ (frQ x) = E at *
    simp -implicitDefEqProofs [b1__law_game, e, f, hl]
theorem law_game_specS (gr : Bool) (c : Int) (mo : Nat) (h1 : 1 ≤ mo) (h24 : mo ≤ 24) : ∃ (rs : List Rat) (rows : List (List (Nat × Rat))) (n : Nat), f__law_game [.int c, .int (mo : Int), .bl gr] = some (encG rs rows) ∧ GameSz rs rows n ∧ n ≤ mo ∧ Smr rs := by
  have hmm : mo * mo ≤ 24 * 24 := Nat.mul_le_mul h24 h24
  have dr := (drw_spec c (1 + mo + mo * mo) (by omega)).1
  have dat := fun j (hj : j < 1 + mo + mo * mo) => (drw_at c (1 + mo + mo * mo) j (by omega) hj).1
  rw [Int.natCast_add, Int.natCast_add, Int.natCast_mul] at dr
  have c1 : ((1 : Nat) : Int) = 1 := rfl
  rw [c1] at dr
  generalize drwAt c (1 + mo + mo * mo) = a at *
  generalize (drw c (1 + mo + mo * mo)).map D.int = ds at *
  have e0 : atI ds 0 = some (.int (a 0)) := dat 0 (by omega)
  have mm : mulOk (mo : Int) (mo : Int) = true := mul_okL (by omega)
  have mo0 : (mo : Int) ≠ 0 := by omega
  have mo0' : ¬ mo = 0 := by omega
  obtain ⟨n, hn, n1, n2⟩ : ∃ n : Nat, 1 + (a 0).fmod (mo : Int) = (n : Int) ∧ 1 ≤ n ∧ n ≤ mo := by
    have q1 := Int.fmod_nonneg_of_pos (a 0) (b := (mo : Int)) (by omega)
    have q2 := Int.fmod_lt_of_pos (a 0) (b := (mo : Int)) (by omega)
    exact ⟨(1 + (a 0).fmod (mo : Int)).toNat, by omega, by omega, by omega⟩
  have hn2 : (n : Int) < 4611686018427387904 := by omega
  obtain ⟨env', h2, rs, k, j6, rfl, lrs, srs⟩ := for_inv (gs := gsName 6) (mb := b1__law_game) (ds := rangeD 0 n) (env := [.has (.fz (.int c)), .has (.fz (.int (mo : Int))), .has (.fz (.bl gr)), .has (.fz (.lst ds)), .has (.fz (.int (n : Int))), .has (.ls []), .un, .un, .un, .un, .un])
    (fun i env => ∃ (rs : List Rat) (k j6 : Sl), env = [.has (.fz (.int c)), .has (.fz (.int (mo : Int))), .has (.fz (.bl gr)), .has (.fz (.lst ds)), .has (.fz (.int (n : Int))), .has (.ls ((rs.map encQ).map .fz)), k, j6, .un, .un, .un] ∧ rs.length = i ∧ ∀ q ∈ rs, Sq 110 4 q)
    ⟨[], .un, .un, rfl, rfl, by simp⟩ (by
      rintro i d env hd ⟨rs, k, j6, rfl, hr, pr⟩
      obtain ⟨hi, rfl⟩ := rangeD0_get hd
      obtain ⟨q, hq, e⟩ := law_game_rew gr c mo n i ds a n1 n2 h24 hi dat ((rs.map encQ).map .fz) (by simp; omega) j6
      refine ⟨_, _, rfl, .inl e, rs ++ [q], _, _, by simp; exact ⟨rfl, rfl⟩, by simp [hr], fun x hx => ?_⟩
      rcases List.mem_append.mp hx with hx | hx
      · exact pr x hx
      · rw [List.mem_singleton.mp hx]; exact hq)
  rw [rangeD_len] at lrs
  obtain ⟨env', h3, rows, k, s8, rfl, l2, p2⟩ := for_inv (gs := gsName 6) (mb := b2__law_game) (ds := rangeD 0 n) (env := [.has (.fz (.int c)), .has (.fz (.int (mo : Int))), .has (.fz (.bl gr)), .has (.fz (.lst ds)), .has (.fz (.int (n : Int))), .has (.ls ((rs.map encQ).map .fz)), k, j6, .has (.ls []), .un, .un])
    (fun i env => ∃ (rows : List (List (Nat × Rat))) (k s8 : Sl), env = [.has (.fz (.int c)), .has (.fz (.int (mo : Int))), .has (.fz (.bl gr)), .has (.fz (.lst ds)), .has (.fz (.int (n : Int))), .has (.ls ((rs.map encQ).map .fz)), k, j6, .has (.ls ((rows.map encR).map .fz)), s8, .un] ∧ rows.length = i ∧ ∀ r ∈ rows, RowOk n r ∧ Canon r ∧ r.length ≤ 24 ∧ (∀ p ∈ r, sz p.2 ≤ 7) ∧ RowD r)
    ⟨[], k, .un, rfl, rfl, by simp⟩ (by
      rintro i d env hd ⟨rows, k, s8, rfl, hr, pr⟩
      obtain ⟨hi, rfl⟩ := rangeD0_get hd
      obtain ⟨r, s8', q, e⟩ := law_game_turn gr (.int c) mo n i ds a n1 n2 h24 hi dat ((rows.map encR).map .fz) ((rs.map encQ).map .fz) (by simp; omega) j6 s8
      refine ⟨_, _, rfl, .inl e, rows ++ [r], .has (.fz (.int (i : Int))), s8', by simp, by simp [hr], fun x hx => ?_⟩
      rcases List.mem_append.mp hx with hx | hx
      · exact pr x hx
      · rw [List.mem_singleton.mp hx]; exact q)
  rw [rangeD_len] at l2
  refine ⟨rs, rows, n, ?_, ⟨⟨lrs, l2, by omega, by omega, fun r hr => (p2 r hr).1, fun r hr => (p2 r hr).2.1, fun r hr => by have := (p2 r hr).2.2.1; omega⟩, fun q hq => .inl (srs q hq), fun r hr => (p2 r hr).2.2.1, fun r hr => (p2 r hr).2.2.2.1, fun r hr => (p2 r hr).2.2.2.2⟩, n2, srs⟩
  refine (run_eq (by rfl)).trans ?_
  have eg1 := e_gTupO (ds := rs.map encQ)
  have eg2 := e_gTupO (ds := rows.map encR)
  unfold encG
  generalize (rs.map encQ).map O.fz = O1 at *
  generalize (rows.map encR).map O.fz = O2 at *
  generalize rs.map encQ = R1 at *
  generalize rows.map encR = R2 at *
  simp -implicitDefEqProofs [m__law_game, startE, mm, dr, e0, mo0, mo0', hn, mR1, hn2, h2, h3, eg1, eg2]
theorem law_are_ratios_spec (qs : List Rat) (n : Nat) (h : qs.length = n) : f__law_are_ratios [.tup (qs.map encQ), .int (n : Int)] = some (.bl true) := by
  obtain ⟨⟨t⟩, hf⟩ : ∃ t : Sl × Unit, forL (gsName 2) b1__law_are_ratios (qs.map encQ) [.has (.fz (.tup (qs.map encQ))), .has (.fz (.int (n : Int))), .un] = some (.nx [.has (.fz (.tup (qs.map encQ))), .has (.fz (.int (n : Int))), t.1]) := by
    obtain ⟨t, h⟩ := for_fold (T := Sl) (S := Unit) (gs := gsName 2) (mb := b1__law_are_ratios) (fun t _ => [.has (.fz (.tup (qs.map encQ))), .has (.fz (.int (n : Int))), t]) encQ (fun _ _ => ()) (fun _ _ => True) (fun _ q ps t _ => by
      have e := law_is_ratio_spec q
      generalize encQ q = Q at *
      generalize qs.map encQ = QS
      refine ⟨_, .has (.fz Q), rfl, .inl ?_, trivial⟩
      simp -implicitDefEqProofs [b1__law_are_ratios, e]) qs () .un trivial
    exact ⟨(t, ()), h⟩
  have hl : ((qs.map encQ).length : Int) = (n : Int) := by simp [h]
  refine (run_eq (by rfl)).trans ?_
  generalize qs.map encQ = QS at *
  simp -implicitDefEqProofs [m__law_are_ratios, startE, isiO, hl, hf]
theorem law_joints_spec {ps : List Plc} (hn : ∀ p ∈ ps, p.rs.length = p.n ∧ p.n ≤ 5) (hl : ps.length ≤ 6) : f__law_joints [.tup (ps.map gmE)] = some (.lst ((jnt (nst ps)).map encJ)) := by
  have small := nst_small (fun p hp => (hn p hp).2) hl
  obtain ⟨env', hf, i2, i3, i4, i5, rfl⟩ := for_inv (gs := gsName 2) (mb := b3__law_joints) (ds := ps.map gmE) (env := [.has (.fz (.tup (ps.map gmE))), .has (.ls (([[]] : List (List Nat)).map encJ |>.map .fz)), .un, .un, .un, .un])
    (fun i env => ∃ (i2 i3 i4 i5 : Sl), env = [.has (.fz (.tup (ps.map gmE))), .has (.ls (((jnt (nst (ps.take i))).map encJ).map .fz)), i2, i3, i4, i5])
    ⟨.un, .un, .un, .un, rfl⟩ (by
      rintro i d env hd ⟨i2, i3, i4, i5, rfl⟩
      rw [List.getElem?_map] at hd
      obtain ⟨p, hp, rfl⟩ := Option.map_eq_some_iff.mp hd
      obtain ⟨hpn, hp5⟩ := hn p (List.mem_of_getElem? hp)
      have hrow := small i
      have e1 := nst_take hp
      generalize hR : jnt (nst (ps.take i)) = rows at *
      have hnew : jnt (nst (ps.take (i + 1))) = rows.flatMap fun r => (List.range p.n).map fun s => r ++ [s] := by rw [e1, jnt_snoc, hR]
      have bd : ∀ k, ((rows.take k).flatMap fun r => (List.range p.n).map fun s => r ++ [s]).length ≤ 78125 := fun k => by
        refine Nat.le_trans (flat_len (n := 5) fun r _ => by simp; omega) ?_
        rw [List.length_take]; omega
      obtain ⟨env2, hf2, j4, j5, rfl⟩ := for_inv (gs := gsName 4) (mb := b2__law_joints) (ds := rows.map encJ) (env := [.has (.fz (.tup (ps.map gmE))), .has (.fz (.lst (rows.map encJ))), .has (.fz (gmE p)), .has (.ls []), i4, i5])
        (fun k env => ∃ (i4 i5 : Sl), env = [.has (.fz (.tup (ps.map gmE))), .has (.fz (.lst (rows.map encJ))), .has (.fz (gmE p)), .has (.ls ((((rows.take k).flatMap fun r => (List.range p.n).map fun s => r ++ [s]).map encJ).map .fz)), i4, i5])
        ⟨i4, i5, rfl⟩ (by
          rintro k d env hd ⟨i4, i5, rfl⟩
          rw [List.getElem?_map] at hd
          obtain ⟨r, hr, rfl⟩ := Option.map_eq_some_iff.mp hd
          have htk : rows.take (k + 1) = rows.take k ++ [r] := by rw [List.take_add_one, hr]; rfl
          have hb := bd k
          generalize hA : ((rows.take k).flatMap fun r => (List.range p.n).map fun s => r ++ [s]) = A at *
          obtain ⟨env3, hf3, k5, rfl⟩ := for_inv (gs := gsName 5) (mb := b1__law_joints) (ds := rangeD 0 p.n) (env := [.has (.fz (.tup (ps.map gmE))), .has (.fz (.lst (rows.map encJ))), .has (.fz (gmE p)), .has (.ls ((A.map encJ).map .fz)), .has (.fz (encJ r)), i5])
            (fun s env => ∃ (i5 : Sl), env = [.has (.fz (.tup (ps.map gmE))), .has (.fz (.lst (rows.map encJ))), .has (.fz (gmE p)), .has (.ls (((A ++ (List.range s).map fun s => r ++ [s]).map encJ).map .fz)), .has (.fz (encJ r)), i5])
            ⟨i5, by simp⟩ (by
              rintro s d env hd ⟨i5, rfl⟩
              obtain ⟨hs, rfl⟩ := rangeD0_get hd
              have hsl : (((A ++ (List.range s).map fun s => r ++ [s]).map encJ).map O.fz).length < 16777216 := by simp; omega
              have ec : D.tup (r.map (fun (n : Nat) => D.int (n : Int)) ++ [.int (s : Int)]) = encJ (r ++ [s]) := by unfold encJ; rw [List.map_append]; rfl
              have el : (((A ++ (List.range (s + 1)).map fun s => r ++ [s]).map encJ).map O.fz) = (((A ++ (List.range s).map fun s => r ++ [s]).map encJ).map O.fz) ++ [.fz (encJ (r ++ [s]))] := by simp [List.range_succ]
              have hrl : r.length ≤ 6 := by
                have hm : r ∈ jnt (nst (ps.take i)) := by rw [hR]; exact List.mem_of_getElem? hr
                have := ((mem_jnt _ _).mp hm).len
                rw [this]; unfold nst; rw [List.length_map, List.length_take]; omega
              have hcat : (r.map (fun (n : Nat) => D.int (n : Int))).length + 1 ≤ 16777216 := by rw [List.length_map]; omega
              refine ⟨_, _, rfl, .inl ?_, .has (.fz (.int (s : Int))), rfl⟩
              rw [el]
              generalize (((A ++ (List.range s).map fun s => r ++ [s]).map encJ).map O.fz) = os at *
              have er : encJ r = .tup (r.map (fun (n : Nat) => D.int (n : Int))) := rfl
              rw [er]
              generalize r.map (fun (n : Nat) => D.int (n : Int)) = rd at *
              generalize rows.map encJ = RW
              generalize ps.map gmE = PG
              generalize encJ (r ++ [s]) = ej at *
              generalize gmE p = GP
              simp -implicitDefEqProofs [b1__law_joints, e_sizeLine, hsl, hcat, ec])
          rw [rangeD_len] at hf3
          have e2 : ((rows.take (k + 1)).flatMap fun r => (List.range p.n).map fun s => r ++ [s]) = A ++ (List.range p.n).map fun s => r ++ [s] := by rw [htk, List.flatMap_append, hA]; simp
          rw [e2]
          refine ⟨_, _, rfl, .inl ?_, .has (.fz (encJ r)), k5, rfl⟩
          · have hgl : (p.rs.map encQ).length = p.n := by rw [List.length_map, hpn]
            have hlt : (p.n : Int) < 4611686018427387904 := by omega
            have eg : gmE p = .tup [.tup (p.rs.map encQ), .tup (p.rows.map encR)] := rfl
            rw [eg] at hf3 ⊢
            generalize (((A ++ (List.range p.n).map fun s => r ++ [s]).map encJ).map O.fz) = os2 at *
            generalize (A.map encJ).map O.fz = os at *
            generalize p.rs.map encQ = RS at *
            generalize p.rows.map encR = RR at *
            generalize rows.map encJ = RW at *
            generalize ps.map gmE = PG at *
            generalize encJ r = er at *
            simp -implicitDefEqProofs [b2__law_joints, mR1, hgl, hlt, hf3])
      rw [List.length_map, List.take_length] at hf2
      refine ⟨_, _, rfl, .inl ?_, .has (.fz (gmE p)), .has (.ls (((rows.flatMap fun r => (List.range p.n).map fun s => r ++ [s]).map encJ).map .fz)), j4, j5, rfl⟩
      rw [hnew]
      have hfr := frz_ls (rows.map encJ)
      generalize ((rows.flatMap fun r => (List.range p.n).map fun s => r ++ [s]).map encJ) = NR at *
      have hls : gList [.ls (NR.map .fz)] = some (.ls (NR.map .fz)) := e_gLstO
      generalize NR.map O.fz = os2 at *
      generalize (rows.map encJ).map O.fz = os at *
      have eit : D.items (.lst (rows.map encJ)) = some (rows.map encJ) := rfl
      generalize rows.map encJ = RW at *
      generalize ps.map gmE = PG at *
      generalize gmE p = GP at *
      simp -implicitDefEqProofs [b3__law_joints, hfr, eit, hf2, hls])
  rw [List.length_map, List.take_length] at hf
  have hfr := frz_ls ((jnt (nst ps)).map encJ)
  have eit : D.items (.tup (ps.map gmE)) = some (ps.map gmE) := rfl
  refine (run_eq (by rfl)).trans ?_
  have e0 : (([[]] : List (List Nat)).map encJ |>.map O.fz) = [.fz (.tup [])] := rfl
  rw [e0] at hf
  generalize ((jnt (nst ps)).map encJ).map O.fz = os at *
  generalize (jnt (nst ps)).map encJ = JJ at *
  generalize ps.map gmE = PG at *
  simp -implicitDefEqProofs [m__law_joints, startE, eit, hf, hfr]
end Lw
set_option Elab.async false
set_option linter.all false
set_option maxRecDepth 100000
set_option maxHeartbeats 1000000
namespace Lw
open PySem L2 Q
def jratO (g : Nat → Rat) (m : Nat) : List O := (List.range m).map fun l => O.fz (encQ (g l))
theorem jtz_range {m k : Nat} {f : Nat → List Rat} (h : k < m) (j : Nat) : tz ((List.range m).map f) k j = gz (f k) j := by
  unfold tz
  rw [List.getElem?_map, List.getElem?_range h]; rfl
theorem jgz_range {m l : Nat} {f : Nat → Rat} (h : l < m) : gz ((List.range m).map f) l = f l := by
  unfold gz
  rw [List.getElem?_map, List.getElem?_range h]; rfl
theorem idx_range {m k : Nat} (h : k < m) : (List.range m).idxOf k = k := by
  have := (List.nodup_range (n := m)).idxOf_getElem k (by simpa using h)
  rwa [List.getElem_range] at this
def jvP (rows : List (List (Nat × Rat))) (n k l : Nat) : Rat := sm (fun p => if p.1 ∈ List.range n ∧ (List.range n).idxOf p.1 = l then p.2 else 0) (rowA rows k)
theorem jvP_sum {rows : List (List (Nat × Rat))} {n : Nat} (Y : Nat → Rat) {k : Nat} (h : ∀ p ∈ rowA rows k, p.1 < n) : sm (fun l => jvP rows n k l * Y l) (List.range n) = sm (fun p => p.2 * Y p.1) (rowA rows k) := by
  have e := sm_split (List.nodup_range (n := n)) Y (rowA rows k)
  rw [List.length_range] at e
  refine e.trans (sm_congr fun p hp => ?_)
  rw [if_pos (List.mem_range.mpr (h p hp)), idx_range (h p hp)]
theorem jratO_set (g : Nat → Rat) (m t : Nat) (q : Rat) : (jratO g m).set t (.fz (encQ q)) = jratO (fun l => if l = t then q else g l) m := by
  unfold jratO
  rw [range_set]
  refine List.map_congr_left fun l _ => ?_
  show (if l = t then O.fz (encQ q) else O.fz (encQ (g l))) = O.fz (encQ (if l = t then q else g l))
  split <;> rfl
def chD (ps : List Plc) (ch : List Nat → Nat) : D := .tup ((jnt (nst ps)).map fun j => D.int (ch j : Int))
theorem rowA_map {α : Type} {f : α → List (Nat × Rat)} {g : α → Rat} {xs : List α} {k : Nat} {x : α} (h : xs[k]? = some x) : rowA (xs.map f) k = f x ∧ rwA (xs.map g) k = g x := by
  unfold rowA rwA
  rw [List.getElem?_map, List.getElem?_map, h]; exact ⟨rfl, rfl⟩
end Lw
set_option Elab.async false
set_option linter.all false
set_option maxRecDepth 100000
set_option maxHeartbeats 1000000
namespace Lw
open PySem L2 Q
def kE (p : Nat × Nat) : D := .kt [.inl (p.1 : Int), .inl (p.2 : Int)]
theorem law_pairs_spec {ps : List Plc} (hs : ScOk ps) : f__law_pairs [.tup (ps.map encPc)] = some (.lst ((pairsT ps ps.length).map kE)) := by
  have h3 := hs.len
  have hnn : (ps.length : Int) < 4611686018427387904 := by omega
  obtain ⟨env', hf, t2, t3, rfl⟩ := for_inv (gs := gsName 2) (mb := b2__law_pairs) (ds := rangeD 0 ps.length) (env := [.has (.fz (.tup (ps.map encPc))), .has (.ls []), .un, .un])
    (fun i env => ∃ t2 t3, env = [.has (.fz (.tup (ps.map encPc))), .has (.ls (((pairsT ps i).map kE).map .fz)), t2, t3])
    ⟨.un, .un, rfl⟩ (by
      rintro i d env hd ⟨t2, t3, rfl⟩
      obtain ⟨hi, rfl⟩ := rangeD0_get hd
      have hp := List.getElem?_eq_getElem hi
      generalize ps[i] = p at hp
      have pk := hs.ok p (List.mem_of_getElem? hp)
      have hn := pk.hn
      have hn3 := hs.n3 p (List.mem_of_getElem? hp)
      have hpn : (p.n : Int) < 4611686018427387904 := by omega
      have l1 := pk.g.ok.l1
      have e1 := encPc_at hp
      have hpl := pairsT_len hs i (by omega)
      obtain ⟨env2, hf2, t3', rfl⟩ := for_inv (gs := gsName 3) (mb := b1__law_pairs) (ds := rangeD 0 p.n) (env := [.has (.fz (.tup (ps.map encPc))), .has (.ls (((pairsT ps i).map kE).map .fz)), .has (.fz (.int (i : Int))), t3])
        (fun j env => ∃ t3, env = [.has (.fz (.tup (ps.map encPc))), .has (.ls (((pairsT ps i ++ (List.range j).map fun s => (i, s)).map kE).map .fz)), .has (.fz (.int (i : Int))), t3])
        ⟨t3, by rw [List.range_zero, List.map_nil, List.append_nil]⟩ (by
          rintro j d env hd ⟨t3, rfl⟩
          obtain ⟨hj, rfl⟩ := rangeD0_get hd
          have el : ((pairsT ps i ++ (List.range (j + 1)).map fun s => (i, s)).map kE).map O.fz = ((pairsT ps i ++ (List.range j).map fun s => (i, s)).map kE).map O.fz ++ [.fz (kE (i, j))] := by
            rw [List.range_succ]; simp
          have hlen : (((pairsT ps i ++ (List.range j).map fun s => (i, s)).map kE).map O.fz).length < 16777216 := by simp; omega
          refine ⟨_, _, rfl, .inl ?_, .has (.fz (.int (j : Int))), rfl⟩
          rw [el]
          have ep : kE (i, j) = .kt [.inl (i : Int), .inl (j : Int)] := rfl
          rw [ep]
          generalize ((pairsT ps i ++ (List.range j).map fun s => (i, s)).map kE).map O.fz = os at *
          generalize ps.map encPc = PS at *
          simp -implicitDefEqProofs [b1__law_pairs, hlen])
      have hl : (rangeD 0 p.n).length = p.n := by simp [rangeD]
      rw [hl, ← pairsT_succ hp] at hf2
      refine ⟨_, _, rfl, .inl ?_, .has (.fz (.int (i : Int))), t3', rfl⟩
      have hlg : (p.rs.map encQ).length = p.n := by rw [List.length_map, l1]
      have eG : encG p.rs p.rows = .tup [.tup (p.rs.map encQ), .tup (p.rows.map encR)] := rfl
      rw [eG] at e1
      generalize ((pairsT ps i).map kE).map O.fz = os at *
      generalize ((pairsT ps (i + 1)).map kE).map O.fz = os' at *
      generalize p.rs.map encQ = RS at *
      generalize p.rows.map encR = RW at *
      generalize ps.map encPc = PS at *
      simp -implicitDefEqProofs [b2__law_pairs, e1, hlg, mR1, hpn, hf2])
  have hl : (rangeD 0 ps.length).length = ps.length := by simp [rangeD]
  rw [hl] at hf
  refine (run_eq (by rfl)).trans ?_
  have hlp : (ps.map encPc).length = ps.length := by rw [List.length_map]
  generalize (pairsT ps ps.length).map kE = R at *
  generalize ps.map encPc = PS at *
  simp -implicitDefEqProofs [m__law_pairs, startE, hlp, mR1, hnn, hf]
theorem small_company_spec (ns : List Int) (first : Nat) : ∃ ps : List Plc, f__law_small_company [.lst (ns.map D.int), .int (first : Int)] = some (.tup (ps.map encPc)) ∧ ScOk ps ∧ (pairsT ps ps.length).length ≤ 5 := by
  have c1 := law_cell_spec ns first
  generalize cellZ ns first = z at *
  have dr : f__law_draws [.int z, .int 4] = some (.lst ((drw z 4).map D.int)) := (drw_spec z 4 (by decide)).1
  have hat : ∀ i : Nat, i < 4 → atI ((drw z 4).map D.int) (i : Int) = some (.int (drwAt z 4 i)) := fun j (hj : j < 4) => (drw_at z 4 j (by decide) hj).1
  generalize drwAt z 4 = a at *
  generalize (drw z 4).map D.int = dd at *
  have e0 : atI dd 0 = some (.int (a 0)) := hat 0 (by decide)
  have loop : ∀ (sz : List Nat) (s3 : O), 1 ≤ sz.length → sz.length ≤ 3 → (∀ m ∈ sz, 1 ≤ m ∧ m ≤ 3) → sz.sum ≤ 5 → ∃ (ps : List Plc) (t6 t7 : Sl), forL (gsName 6) b1__law_small_company (rangeD 0 sz.length) [.has (.fz (.lst (ns.map D.int))), .has (.fz (.int (first : Int))), .has (.fz (.lst dd)), .has s3, .has (.ls ((sz.map natD).map .fz)), .has (.ls []), .un, .un] =
      some (.nx [.has (.fz (.lst (ns.map D.int))), .has (.fz (.int (first : Int))), .has (.fz (.lst dd)), .has s3, .has (.ls ((sz.map natD).map .fz)), .has (.ls ((ps.map encPc).map .fz)), t6, t7]) ∧ ScOk ps ∧ (pairsT ps ps.length).length ≤ 5 := fun sz s3 z1 z3 zm zs => by
    obtain ⟨env', hf, ps, t6, t7, rfl, hl, hg, hsum⟩ := for_inv (gs := gsName 6) (mb := b1__law_small_company) (ds := rangeD 0 sz.length) (env := [.has (.fz (.lst (ns.map D.int))), .has (.fz (.int (first : Int))), .has (.fz (.lst dd)), .has s3, .has (.ls ((sz.map natD).map .fz)), .has (.ls []), .un, .un])
      (fun k env => ∃ (ps : List Plc) (t6 t7 : Sl), env = [.has (.fz (.lst (ns.map D.int))), .has (.fz (.int (first : Int))), .has (.fz (.lst dd)), .has s3, .has (.ls ((sz.map natD).map .fz)), .has (.ls ((ps.map encPc).map .fz)), t6, t7] ∧ ps.length = k ∧ (∀ p ∈ ps, PlOk p ∧ p.n ≤ 3 ∧ Smr p.rs) ∧ (ps.map (·.n)).sum ≤ (sz.take k).sum)
      ⟨[], .un, .un, rfl, rfl, by simp, by simp⟩ (by
        rintro k d env hd ⟨ps, t6, t7, rfl, hl, hg, hsum⟩
        obtain ⟨hk, rfl⟩ := rangeD0_get hd
        have ck := law_cell_spec ns (first + 1 + k)
        generalize cellZ ns (first + 1 + k) = y at *
        have hm := zm _ (List.getElem_mem hk)
        obtain ⟨rs, rows, n, g1, g2, g3, g4⟩ := law_game_specS false y sz[k] hm.1 (by omega)
        have hsm : ∀ q ∈ rs, Sq 110 4 q := g4
        have e3 := hat (1 + k) (by omega)
        have n0 := g2.ok.n0
        have l1 := g2.ok.l1
        have asz : atI ((sz.map natD).map O.fz) (k : Int) = some (.fz (.int ((sz[k] : Nat) : Int))) := by
          rw [atI_nat' (by simpa using hk), List.getElem?_map, List.getElem?_map, List.getElem?_eq_getElem hk]; rfl
        obtain ⟨st, hst, hstn⟩ : ∃ st : Nat, (a (1 + k)).fmod (n : Int) = (st : Int) ∧ st < n := by
          have b1 := Int.fmod_nonneg_of_pos (a (1 + k)) (b := (n : Int)) (by omega)
          have b2 := Int.fmod_lt_of_pos (a (1 + k)) (b := (n : Int)) (by omega)
          exact ⟨((a (1 + k)).fmod (n : Int)).toNat, by omega, by omega⟩
        refine ⟨_, _, rfl, .inl ?_, ps ++ [⟨rs, rows, n, st⟩], .has (.fz (.int (k : Int))), .has (.fz (encG rs rows)), rfl, by simp [hl], fun p hp => ?_, ?_⟩
        · rw [Int.natCast_add] at e3 ck
          rw [Int.natCast_add] at ck
          have c1' : ((1 : Nat) : Int) = 1 := rfl
          rw [c1'] at e3 ck
          have el : ((ps ++ [(⟨rs, rows, n, st⟩ : Plc)]).map encPc).map O.fz = (ps.map encPc).map O.fz ++ [.fz (.tup [.tup [.tup (rs.map encQ), .tup (rows.map encR)], .int (st : Int)])] := by simp [encPc, encG]
          have hlen : ((ps.map encPc).map O.fz).length < 16777216 := by simp; omega
          rw [el]
          have hln : (rs.map encQ).length = n := by rw [List.length_map, l1]
          have nz : ¬ ((n : Int) = 0) := by omega
          have nz' : ¬ (n = 0) := by omega
          unfold encG at *
          generalize a (1 + k) = A at *
          generalize rs.map encQ = RS at *
          generalize rows.map encR = RW at *
          generalize (ps.map encPc).map O.fz = os at *
          generalize (sz.map natD).map O.fz = zz at *
          generalize (ns.map D.int) = S at *
          simp -implicitDefEqProofs [b1__law_small_company, ck, asz, g1, e3, hln, nz, nz', hst, hlen]
        · rcases List.mem_append.mp hp with hp | hp
          · exact hg p hp
          · rw [List.mem_singleton.mp hp]
            exact ⟨⟨g2, hstn, by show n ≤ 4; omega⟩, by show n ≤ 3; omega, hsm⟩
        · rw [List.map_append, List.sum_append, List.take_add_one, List.getElem?_eq_getElem hk, List.sum_append]
          simp
          omega)
    have hr : (rangeD 0 sz.length).length = sz.length := by simp [rangeD]
    rw [hr] at hl hsum
    rw [List.take_length] at hsum
    refine ⟨ps, t6, t7, hf, ⟨fun p hp => (hg p hp).1, fun p hp => (hg p hp).2.1, fun p hp => (hg p hp).2.2, by omega⟩, ?_⟩
    rw [pairsT_sum ps _ (Nat.le_refl _), List.take_length]
    omega
  have b1 := Int.fmod_nonneg_of_pos (a 0) (b := 8) (by decide)
  have b2 := Int.fmod_lt_of_pos (a 0) (b := 8) (by decide)
  have key : ∀ (sz : List Nat), 1 ≤ sz.length → sz.length ≤ 3 → (∀ m ∈ sz, 1 ≤ m ∧ m ≤ 3) → sz.sum ≤ 5 → (∀ (ps : List Plc) (t6 t7 : Sl), forL (gsName 6) b1__law_small_company (rangeD 0 sz.length) [.has (.fz (.lst (ns.map D.int))), .has (.fz (.int (first : Int))), .has (.fz (.lst dd)), .has (.fz (.int ((a 0).fmod 8))), .has (.ls ((sz.map natD).map .fz)), .has (.ls []), .un, .un] =
      some (.nx [.has (.fz (.lst (ns.map D.int))), .has (.fz (.int (first : Int))), .has (.fz (.lst dd)), .has (.fz (.int ((a 0).fmod 8))), .has (.ls ((sz.map natD).map .fz)), .has (.ls ((ps.map encPc).map .fz)), t6, t7]) → f__law_small_company [.lst (ns.map D.int), .int (first : Int)] = some (.tup (ps.map encPc))) → ∃ ps : List Plc, f__law_small_company [.lst (ns.map D.int), .int (first : Int)] = some (.tup (ps.map encPc)) ∧ ScOk ps ∧ (pairsT ps ps.length).length ≤ 5 := fun sz z1 z3 zm zs h => by
    obtain ⟨ps, t6, t7, h1, h2, h3⟩ := loop sz (.fz (.int ((a 0).fmod 8))) z1 z3 zm zs
    exact ⟨ps, h ps t6 t7 h1, h2, h3⟩
  have fin : ∀ (w : Int) (sz : List Nat), (a 0).fmod 8 = w → (w = 4 ∧ sz = [2, 3] ∨ w = 5 ∧ sz = [3] ∨ w = 6 ∧ sz = [3, 2] ∨ w = 7 ∧ sz = [2, 1, 2] ∨ (w ≠ 4 ∧ w ≠ 5 ∧ w ≠ 6 ∧ w ≠ 7) ∧ sz = [2, 2]) → ∃ ps : List Plc, f__law_small_company [.lst (ns.map D.int), .int (first : Int)] = some (.tup (ps.map encPc)) ∧ ScOk ps ∧ (pairsT ps ps.length).length ≤ 5 := fun w sz hw hc => by
    rw [hw] at key
    refine key sz ?_ ?_ ?_ ?_ fun ps t6 t7 hf => ?_
    · rcases hc with ⟨_, rfl⟩ | ⟨_, rfl⟩ | ⟨_, rfl⟩ | ⟨_, rfl⟩ | ⟨_, rfl⟩ <;> decide
    · rcases hc with ⟨_, rfl⟩ | ⟨_, rfl⟩ | ⟨_, rfl⟩ | ⟨_, rfl⟩ | ⟨_, rfl⟩ <;> decide
    · rcases hc with ⟨_, rfl⟩ | ⟨_, rfl⟩ | ⟨_, rfl⟩ | ⟨_, rfl⟩ | ⟨_, rfl⟩ <;> decide
    · rcases hc with ⟨_, rfl⟩ | ⟨_, rfl⟩ | ⟨_, rfl⟩ | ⟨_, rfl⟩ | ⟨_, rfl⟩ <;> decide
    · refine (run_eq (by rfl)).trans ?_
      have eg := e_gTupO (ds := ps.map encPc)
      generalize (ps.map encPc) = PS at *
      generalize ns.map D.int = S at *
      rcases hc with ⟨h, rfl⟩ | ⟨h, rfl⟩ | ⟨h, rfl⟩ | ⟨h, rfl⟩ | ⟨⟨h4, h5, h6, h7⟩, rfl⟩
      · subst h
        have hf : forL (gsName 6) b1__law_small_company (rangeD 0 2) [.has (.fz (.lst S)), .has (.fz (.int (first : Int))), .has (.fz (.lst dd)), .has (.fz (.int 4)), .has (.ls [.fz (.int 2), .fz (.int 3)]), .has (.ls []), .un, .un] = _ := hf
        simp -implicitDefEqProofs [m__law_small_company, startE, c1, dr, e0, hw, mR1, hf, eg]
      · subst h
        have hf : forL (gsName 6) b1__law_small_company (rangeD 0 1) [.has (.fz (.lst S)), .has (.fz (.int (first : Int))), .has (.fz (.lst dd)), .has (.fz (.int 5)), .has (.ls [.fz (.int 3)]), .has (.ls []), .un, .un] = _ := hf
        simp -implicitDefEqProofs [m__law_small_company, startE, c1, dr, e0, hw, mR1, hf, eg]
      · subst h
        have hf : forL (gsName 6) b1__law_small_company (rangeD 0 2) [.has (.fz (.lst S)), .has (.fz (.int (first : Int))), .has (.fz (.lst dd)), .has (.fz (.int 6)), .has (.ls [.fz (.int 3), .fz (.int 2)]), .has (.ls []), .un, .un] = _ := hf
        simp -implicitDefEqProofs [m__law_small_company, startE, c1, dr, e0, hw, mR1, hf, eg]
      · subst h
        have hf : forL (gsName 6) b1__law_small_company (rangeD 0 3) [.has (.fz (.lst S)), .has (.fz (.int (first : Int))), .has (.fz (.lst dd)), .has (.fz (.int 7)), .has (.ls [.fz (.int 2), .fz (.int 1), .fz (.int 2)]), .has (.ls []), .un, .un] = _ := hf
        simp -implicitDefEqProofs [m__law_small_company, startE, c1, dr, e0, hw, mR1, hf, eg]
      · have hf : forL (gsName 6) b1__law_small_company (rangeD 0 2) [.has (.fz (.lst S)), .has (.fz (.int (first : Int))), .has (.fz (.lst dd)), .has (.fz (.int w)), .has (.ls [.fz (.int 2), .fz (.int 2)]), .has (.ls []), .un, .un] = _ := hf
        simp -implicitDefEqProofs [m__law_small_company, startE, c1, dr, e0, hw, h4, h5, h6, h7, mR1, hf, eg]
  generalize hw : (a 0).fmod 8 = w at *
  by_cases h4 : w = 4
  · exact fin w [2, 3] rfl (.inl ⟨h4, rfl⟩)
  by_cases h5 : w = 5
  · exact fin w [3] rfl (.inr (.inl ⟨h5, rfl⟩))
  by_cases h6 : w = 6
  · exact fin w [3, 2] rfl (.inr (.inr (.inl ⟨h6, rfl⟩)))
  by_cases h7 : w = 7
  · exact fin w [2, 1, 2] rfl (.inr (.inr (.inr (.inl ⟨h7, rfl⟩))))
  exact fin w [2, 2] rfl (.inr (.inr (.inr (.inr ⟨⟨h4, h5, h6, h7⟩, rfl⟩))))
theorem pairs_of_spec {ps : List Plc} (hs : ScOk ps) : f_pairs_of [.tup (ps.map encPc)] = some (.tup ((pairsT ps ps.length).map prE)) := by
  have h3 := hs.len
  have hnn : (ps.length : Int) < 4611686018427387904 := by omega
  obtain ⟨env', hf, t2, t3, rfl⟩ := for_inv (gs := gsName 2) (mb := b2_pairs_of) (ds := rangeD 0 ps.length) (env := [.has (.fz (.tup (ps.map encPc))), .has (.ls []), .un, .un])
    (fun i env => ∃ t2 t3, env = [.has (.fz (.tup (ps.map encPc))), .has (.ls (((pairsT ps i).map prE).map .fz)), t2, t3])
    ⟨.un, .un, rfl⟩ (by
      rintro i d env hd ⟨t2, t3, rfl⟩
      obtain ⟨hi, rfl⟩ := rangeD0_get hd
      have hp := List.getElem?_eq_getElem hi
      generalize ps[i] = p at hp
      have pk := hs.ok p (List.mem_of_getElem? hp)
      have hn := pk.hn
      have hn3 := hs.n3 p (List.mem_of_getElem? hp)
      have hpn : (p.n : Int) < 4611686018427387904 := by omega
      have l1 := pk.g.ok.l1
      have e1 := encPc_at hp
      have hpl := pairsT_len hs i (by omega)
      obtain ⟨env2, hf2, t3', rfl⟩ := for_inv (gs := gsName 3) (mb := b1_pairs_of) (ds := rangeD 0 p.n) (env := [.has (.fz (.tup (ps.map encPc))), .has (.ls (((pairsT ps i).map prE).map .fz)), .has (.fz (.int (i : Int))), t3])
        (fun j env => ∃ t3, env = [.has (.fz (.tup (ps.map encPc))), .has (.ls (((pairsT ps i ++ (List.range j).map fun s => (i, s)).map prE).map .fz)), .has (.fz (.int (i : Int))), t3])
        ⟨t3, by rw [List.range_zero, List.map_nil, List.append_nil]⟩ (by
          rintro j d env hd ⟨t3, rfl⟩
          obtain ⟨hj, rfl⟩ := rangeD0_get hd
          have el : ((pairsT ps i ++ (List.range (j + 1)).map fun s => (i, s)).map prE).map O.fz = ((pairsT ps i ++ (List.range j).map fun s => (i, s)).map prE).map O.fz ++ [.fz (prE (i, j))] := by
            rw [List.range_succ]; simp
          have hlen : (((pairsT ps i ++ (List.range j).map fun s => (i, s)).map prE).map O.fz).length < 16777216 := by simp; omega
          refine ⟨_, _, rfl, .inl ?_, .has (.fz (.int (j : Int))), rfl⟩
          rw [el]
          have ep : prE (i, j) = .tup [.int (i : Int), .int (j : Int)] := rfl
          rw [ep]
          generalize ((pairsT ps i ++ (List.range j).map fun s => (i, s)).map prE).map O.fz = os at *
          generalize ps.map encPc = PS at *
          simp -implicitDefEqProofs [b1_pairs_of, hlen])
      have hl : (rangeD 0 p.n).length = p.n := by simp [rangeD]
      rw [hl, ← pairsT_succ hp] at hf2
      refine ⟨_, _, rfl, .inl ?_, .has (.fz (.int (i : Int))), t3', rfl⟩
      have hlg : (p.rs.map encQ).length = p.n := by rw [List.length_map, l1]
      have eG : encG p.rs p.rows = .tup [.tup (p.rs.map encQ), .tup (p.rows.map encR)] := rfl
      rw [eG] at e1
      generalize ((pairsT ps i).map prE).map O.fz = os at *
      generalize ((pairsT ps (i + 1)).map prE).map O.fz = os' at *
      generalize p.rs.map encQ = RS at *
      generalize p.rows.map encR = RW at *
      generalize ps.map encPc = PS at *
      simp -implicitDefEqProofs [b2_pairs_of, e1, hlg, mR1, hpn, hf2])
  have hl : (rangeD 0 ps.length).length = ps.length := by simp [rangeD]
  rw [hl] at hf
  refine (run_eq (by rfl)).trans ?_
  have hlp : (ps.map encPc).length = ps.length := by rw [List.length_map]
  have eg := e_gTupO (ds := (pairsT ps ps.length).map prE)
  generalize (pairsT ps ps.length).map prE = R at *
  generalize ps.map encPc = PS at *
  simp -implicitDefEqProofs [m_pairs_of, startE, hlp, mR1, hnn, hf, eg]
end Lw
set_option Elab.async false
set_option linter.all false
set_option maxRecDepth 100000
set_option maxHeartbeats 1000000
namespace Lw
open PySem L2 Q
def jtA (rows : List (List (Nat × Rat))) (b : Rat) (m : Nat) : List (List Rat) := (List.range m).map fun l => (List.range m).map fun k => (lvRow b (List.range m) k (rowA rows k)).1 l
def jtR (st m : Nat) : List (List Rat) := (List.range m).map fun l => [if l = st then (1 : Rat) else 0]
theorem jtA_at {rows : List (List (Nat × Rat))} {b : Rat} {m l k : Nat} (hl : l < m) (hk : k < m) : tz (jtA rows b m) l k = (lvRow b (List.range m) k (rowA rows k)).1 l := by
  unfold jtA
  rw [jtz_range hl, jgz_range hk]
theorem jtR_at {st m l : Nat} (hl : l < m) : tz (jtR st m) l 0 = if l = st then (1 : Rat) else 0 := by
  unfold jtR
  rw [jtz_range hl]; rfl
theorem jt_sys (rows : List (List (Nat × Rat))) (b : Rat) (st m : Nat) : Sys (jtA rows b m) (jtR st m) m 1 := by
  refine ⟨by simp [jtA], by simp [jtR], fun a ha => ?_, fun r hr => ?_⟩
  · obtain ⟨k, _, rfl⟩ := List.mem_map.mp ha
    simp
  · obtain ⟨k, _, rfl⟩ := List.mem_map.mp hr
    rfl
theorem com_den {rows : List (List (Nat × Rat))} (hr : ∀ r ∈ rows, RowD r) : ∀ m, m ≤ rows.length → ∃ D : Int, 0 < D ∧ D.natAbs < 2 ^ (7 * m + 1) ∧ ∀ k, k < m → ∃ W c : Int, 0 < W ∧ D = W * c ∧ ∀ p ∈ rowA rows k, ∃ z : Int, p.2 * (W : Rat) = (z : Rat) ∧ 0 ≤ z ∧ z ≤ W
  | 0, _ => ⟨1, by decide, by decide, fun k hk => by omega⟩
  | m + 1, hm => by
    obtain ⟨D, D0, D1, hD⟩ := com_den hr m (by omega)
    obtain ⟨W, W0, W1, hW⟩ := hr _ (rowsA_mem (rows := rows) (x := m) (by omega))
    refine ⟨D * W, Int.mul_pos D0 W0, bd_abs D1 W1 (by omega), fun k hk => ?_⟩
    by_cases c : k = m
    · subst c
      exact ⟨W, D, W0, Int.mul_comm _ _, hW⟩
    · obtain ⟨V, c, V0, e, hV⟩ := hD k (by omega)
      exact ⟨V, c * W, V0, by rw [e, Int.mul_assoc], hV⟩
theorem jt_bd {rs : List Rat} {rows : List (List (Nat × Rat))} {n : Nat} (g : GameSz rs rows n) {b : Rat} (hb : Disc b) (hn : n ≤ 6) (st : Nat) {l : Nat} (hl : l < n) : Bd n (60, 60) (givenG (jtA rows b n) (jtR st n) n l) := by
  obtain ⟨D, D0, D1, hD⟩ := com_den g.rd n (by rw [g.ok.l2]; exact Nat.le_refl _)
  have hd0 : 0 < (b.den : Int) := den_pos' b
  have hbd : ((b.den : Int)).natAbs < 2 ^ 8 := den_sz hb.sz
  have hD2 : D.natAbs < 2 ^ 43 := Nat.lt_of_lt_of_le D1 (Nat.pow_le_pow_right (by decide) (by omega))
  have hdd : ((b.den : Int) * D).natAbs < 2 ^ 51 := bd_abs hbd hD2 (by decide)
  refine bd_given (jt_sys rows b st n) hl ((b.den : Int) * D) (Int.mul_pos hd0 D0) (Nat.lt_of_lt_of_le hdd (by decide)) (fun k hk => ?_) (fun j hj => ?_) (by decide)
  · rw [jtA_at hl hk]
    obtain ⟨W, c, W0, e, hW⟩ := hD k hk
    have hlen := g.rl _ (rowsA_mem (rows := rows) (x := k) (by rw [g.ok.l2]; exact hk))
    obtain ⟨ha, _⟩ := lv_den hb (List.range n) W W0 (rowA rows k) (unitF k, 0) 1 hW (fun l => by
      show ∃ z : Int, unitF k l * _ = _ ∧ _
      unfold unitF
      split
      · exact ⟨(b.den : Int) * W, by rw [Rat.one_mul], by omega⟩
      · exact ⟨0, by rw [Rat.zero_mul]; rfl, by simp⟩) ⟨0, by show (0 : Rat) * _ = _; rw [Rat.zero_mul]; rfl, by simp⟩
    obtain ⟨z, z1, z2⟩ := ha l
    refine ⟨z * c, ?_, ?_⟩
    · have e2 : (b.den : Int) * D = (b.den : Int) * W * c := by rw [e, Int.mul_assoc]
      rw [e2, Rat.intCast_mul _ c, Rat.intCast_mul z c, ← z1, Rat.mul_assoc]; rfl
    · have h1 : (1 + (rowA rows k).length) * ((b.den : Int) * W).natAbs ≤ 25 * ((b.den : Int) * W).natAbs := Nat.mul_le_mul_right _ (by omega)
      have h2 : z.natAbs * c.natAbs ≤ 25 * ((b.den : Int) * W).natAbs * c.natAbs := Nat.mul_le_mul_right _ (Nat.le_trans z2 h1)
      have e3 : ((b.den : Int) * W).natAbs * c.natAbs = ((b.den : Int) * D).natAbs := by rw [← Int.natAbs_mul, e, Int.mul_assoc]
      rw [Nat.mul_assoc 25, e3] at h2
      rw [Int.natAbs_mul]
      have h3 : z.natAbs * c.natAbs < 2 ^ 56 := by
        generalize z.natAbs * c.natAbs = u at *
        generalize ((b.den : Int) * D).natAbs = v at *
        omega
      exact Nat.lt_of_lt_of_le h3 (by decide)
  · have hj : j = 0 := by omega
    subst hj
    rw [jtR_at hl]
    split
    · exact ⟨(b.den : Int) * D, by rw [Rat.one_mul], Nat.lt_of_lt_of_le hdd (by decide)⟩
    · exact ⟨0, by rw [Rat.zero_mul]; rfl, by simp⟩
theorem jt_row {rows : List (List (Nat × Rat))} {b : Rat} {n k : Nat} (hk : k < n) (h : ∀ p ∈ rowA rows k, p.1 < n) (V : Nat → Rat) : sm (fun l => (lvRow b (List.range n) k (rowA rows k)).1 l * V l) (List.range n) = V k - b * sm (fun p => p.2 * V p.1) (rowA rows k) := by
  have e : ∀ l, (lvRow b (List.range n) k (rowA rows k)).1 l = unitF k l - b * jvP rows n k l := fun l => lv_fst b _ l _ _
  rw [sm_congr (g := fun l => V l * unitF k l - b * (jvP rows n k l * V l)) fun l _ => by rw [e]; grind, sm_sub, sm_mul, jvP_sum V h]
  rw [sm_one hk fun c hc => by unfold unitF; rw [if_neg hc, Rat.mul_zero]]
  unfold unitF
  rw [if_pos rfl, Rat.mul_one]
theorem jt_solved {rs : List Rat} {rows : List (List (Nat × Rat))} {n : Nat} (g : GameSz rs rows n) {b : Rat} (hb : Disc b) (hn : n ≤ 6) {M : Nat} (hM1 : 1 ≤ M) (hmx : bmx (60, 60) n M = true) {st : Nat} (hst : st < n) :
    ∃ X : Nat → Rat, (∀ V c : Nat → Rat, (∀ k, k < n → V k = c k + b * sm (fun p => p.2 * V p.1) (rowA rows k)) → V st = sm (fun k => X k * c k) (List.range n)) ∧ (∀ t, sz (X t) ≤ M) ∧ f_solve [encT (jtA rows b n), encT (jtR st n)] = some (.tup [.str "solution", .tup ((List.range n).map fun k => .tup [encQ (X k)])]) := by
  obtain ⟨ok, mx⟩ := bmx_ok hmx
  have row : ∀ k, k < n → rowA rows k ∈ rows := fun k hk => rowsA_mem (by rw [g.ok.l2]; exact hk)
  have lt : ∀ k, k < n → ∀ p ∈ rowA rows k, p.1 < n := fun k hk => (g.ok.ok _ (row k hk)).lt
  rcases solve_told (jtA rows b n) (jtR st n) n 1 (jt_sys rows b st n) (by omega) (by omega) (60, 60) (fun k hk => jt_bd g hb hn st hk) ok M mx with ⟨y, _, _, ⟨k, hk, h0⟩, hz, _⟩ | ⟨X, h1, h2, h3, h4, h5, _⟩
  · refine absurd ?_ h0
    have key : ∀ j, j < n → gz y j = b * sm (fun p => p.2 * gz y p.1) (rowA rows j) := fun j hj => by
      have e := hz j hj
      rw [sm_congr (g := fun l => (lvRow b (List.range n) j (rowA rows j)).1 l * gz y l) fun l hl => by rw [jtA_at (List.mem_range.mp hl) hj]; grind, jt_row hj (lt j hj)] at e
      grind
    have one : ∀ (f : Nat → Rat), (∀ j, j < n → f j = b * sm (fun p => p.2 * f p.1) (rowA rows j)) → ∀ j, j < n → f j ≤ 0 := fun f hf j hj => by
      have := max_prin g.ch hb (xs := List.range n) (fun x hx => List.mem_range.mp hx) (g := fun t => if t < n then f t else 0) (fun x hx => by
        have hx := List.mem_range.mp hx
        show (if x < n then f x else 0) ≤ _
        rw [if_pos hx, hf x hx, sm_congr (g := fun p => p.2 * (if p.1 < n then f p.1 else 0)) fun p hp => by rw [if_pos (lt x hx p hp)]]
        exact Rat.le_refl) (fun x hx => by
        show (if x < n then f x else 0) ≤ _
        rw [if_neg (fun h => hx (List.mem_range.mpr h))]
        exact Rat.le_refl) j
      have e : (if j < n then f j else 0) ≤ 0 := this
      rwa [if_pos hj] at e
    have a1 := one (gz y) key k hk
    have a2 := one (fun t => - gz y t) (fun j hj => by
      show - gz y j = _
      rw [key j hj]
      show _ = b * sm (fun p : Nat × Rat => p.2 * -gz y p.1) (rowA rows j)
      rw [sm_congr (g := fun p : Nat × Rat => (-1) * (p.2 * gz y p.1)) (f := fun p : Nat × Rat => p.2 * -gz y p.1) fun p _ => by grind, sm_mul]
      grind) k hk
    have a2 : - gz y k ≤ 0 := a2
    grind
  · have szX : ∀ k j, sz (tz X k j) ≤ M := fun k j => by
      unfold tz
      cases e : X[k]? with
      | none => show sz (gz [] j) ≤ _; rw [gz_out (by simp), sz_zero]; exact hM1
      | some r =>
        have hr := List.mem_of_getElem? e
        by_cases hj : j < r.length
        · show sz (gz r j) ≤ _
          rw [gz_in hj]
          exact h4 r hr _ (List.getElem_mem hj)
        · show sz (gz r j) ≤ _
          rw [gz_out (by omega), sz_zero]; exact hM1
    refine ⟨fun t => tz X t 0, fun V c hV => ?_, fun t => szX t 0, ?_⟩
    · have e1 : V st = sm (fun k => (if k = st then (1 : Rat) else 0) * V k) (List.range n) := by
        rw [sm_one hst fun k hk => by rw [if_neg hk, Rat.zero_mul], if_pos rfl, Rat.one_mul]
      rw [e1, sm_congr (g := fun k => sm (fun c => tz X c 0 * ((lvRow b (List.range n) c (rowA rows c)).1 k * V k)) (List.range n)) fun k hk => by
        have hk := List.mem_range.mp hk
        have e := h5 k 0 hk (by decide)
        rw [jtR_at hk] at e
        rw [← e, Rat.mul_comm, ← sm_mul]
        exact sm_congr fun c hc => by rw [jtA_at hk (List.mem_range.mp hc)]; grind, sm_swap]
      refine sm_congr fun j hj => ?_
      have hj := List.mem_range.mp hj
      rw [sm_mul, jt_row hj (lt j hj), hV j hj]
      grind
    rw [h1]
    have e : X.map encTr = (List.range n).map fun k => D.tup [encQ (tz X k 0)] := by
      apply List.ext_getElem (by simp [h2])
      intro i i1 i2
      have hi2 : i < X.length := by simpa using i1
      rw [List.getElem_map, List.getElem_map, List.getElem_range]
      have hl := h3 X[i] (List.getElem_mem hi2)
      unfold tz
      rw [List.getElem?_eq_getElem hi2]
      show encTr X[i] = D.tup [encQ (gz X[i] 0)]
      generalize X[i] = r at *
      match r, hl with
      | [u], _ => rfl
    unfold encT
    rw [e]
end Lw
set_option Elab.async false
set_option linter.all false
set_option maxRecDepth 100000
set_option maxHeartbeats 1000000
namespace Lw
open PySem L2 Q
def rowsO (G : Nat → Nat → Rat) (m : Nat) : List O := (List.range m).map fun l => O.ls (jratO (G l) m)
theorem rowsO_at {G : Nat → Nat → Rat} {m l : Nat} (hl : l < m) : (rowsO G m)[l]? = some (.ls (jratO (G l) m)) := by
  unfold rowsO
  rw [List.getElem?_map, List.getElem?_range hl]; rfl
theorem rowsO_len (G : Nat → Nat → Rat) (m : Nat) : (rowsO G m).length = m := by simp [rowsO]
theorem jratO_len (g : Nat → Rat) (m : Nat) : (jratO g m).length = m := by simp [jratO]
theorem rowsO_set (G : Nat → Nat → Rat) {m l : Nat} (k : Nat) (q : Rat) (hl : l < m) : (rowsO G m).set l (.ls ((jratO (G l) m).set k (.fz (encQ q)))) = rowsO (fun a c => if a = l ∧ c = k then q else G a c) m := by
  rw [jratO_set]
  unfold rowsO
  rw [range_set]
  refine List.map_congr_left fun a _ => ?_
  by_cases h : a = l
  · subst h
    rw [if_pos rfl]
    refine congrArg O.ls (congrArg (fun f => jratO f m) ?_)
    funext c
    dsimp only
    by_cases h2 : c = k
    · rw [if_pos h2, if_pos ⟨rfl, h2⟩]
    · rw [if_neg h2, if_neg (fun e => h2 e.2)]
  · rw [if_neg h]
    refine congrArg O.ls (congrArg (fun f => jratO f m) ?_)
    funext c
    dsimp only
    rw [if_neg (fun e => h e.1)]
theorem frz_rows (G : Nat → Nat → Rat) (m : Nat) : O.frz (.ls (rowsO G m)) = .lst ((List.range m).map fun l => D.lst ((List.range m).map fun k => encQ (G l k))) := by
  show D.lst (O.frzs _) = _
  rw [frzs_map]
  unfold rowsO
  rw [List.map_map]
  refine congrArg D.lst (List.map_congr_left fun l _ => ?_)
  show D.lst (O.frzs _) = _
  rw [frzs_map]
  unfold jratO
  rw [List.map_map]
  rfl
/-- the table when the columns below `at` are done and column `at` is S -/
def colG (rows : List (List (Nat × Rat))) (b : Rat) (m at_ : Nat) (S : Nat → Rat) : Nat → Nat → Rat := fun l k => if k = at_ then S l else if k < at_ then (lvRow b (List.range m) k (rowA rows k)).1 l else 0
theorem colG_set (rows : List (List (Nat × Rat))) (b : Rat) (m at_ l : Nat) (S : Nat → Rat) (q : Rat) : (fun a c => if a = l ∧ c = at_ then q else colG rows b m at_ S a c) = colG rows b m at_ (fun a => if a = l then q else S a) := by
  funext a c
  unfold colG
  by_cases h : c = at_
  · subst h
    dsimp only
    by_cases h2 : a = l
    · rw [if_pos ⟨h2, rfl⟩, if_pos rfl, if_pos h2]
    · rw [if_neg (fun e => h2 e.1), if_pos rfl, if_pos rfl, if_neg h2]
  · rw [if_neg (fun e => h e.2), if_neg h, if_neg h]
theorem colG_next (rows : List (List (Nat × Rat))) (b : Rat) (m at_ : Nat) : colG rows b m at_ (lvRow b (List.range m) at_ (rowA rows at_)).1 = colG rows b m (at_ + 1) (fun _ => 0) := by
  funext a c
  unfold colG
  by_cases h : c = at_
  · subst h
    rw [if_pos rfl, if_neg (by omega), if_pos (by omega)]
  · rw [if_neg h]
    by_cases h2 : c < at_
    · rw [if_pos h2, if_neg (by omega), if_pos (by omega)]
    · rw [if_neg h2]
      by_cases h3 : c = at_ + 1
      · rw [if_pos h3]
      · rw [if_neg h3, if_neg (by omega)]
theorem colG_start (rows : List (List (Nat × Rat))) (b : Rat) (m : Nat) : colG rows b m 0 (fun _ => 0) = fun _ _ => 0 := by
  funext a c
  unfold colG
  split
  · rfl
  · rw [if_neg (by omega)]
theorem colG_end {rows : List (List (Nat × Rat))} {b : Rat} {m l k : Nat} (hk : k < m) : colG rows b m m (fun _ => 0) l k = (lvRow b (List.range m) k (rowA rows k)).1 l := by
  unfold colG
  rw [if_neg (by omega), if_pos hk]
theorem jv_inner {ps : List Plc} (hg : GmsOk ps) {b : Rat} (hb : Disc b) (rows : List (List (Nat × Rat))) {j : List Nat} (hj : JOk (nst ps) j) {k : Nat} (hk : (jnt (nst ps))[k]? = some j) {i s : Nat} {p : Plc} (hp : ps[i]? = some p) (hs : j[i]? = some s)
    (G CS ST JT : D) (j10 j11 j12 : Sl) :
    ∃ (i10 i11 i12 : Sl), forL (gsTup 2 (gsCons (gsName 10) (gsCons (gsName 11) (gsNil)))) b1_joint_visits ((rowA p.rows s).map encP) [.has (.fz G), .has (.fz CS), .has (.fz ST), .has (.fz (encQ b)), .has (.fz JT), .has (.fz (tabD (nst ps))), .has (.ls (rowsO (colG rows b (jnt (nst ps)).length k (unitF k)) (jnt (nst ps)).length)), .has (.fz (.int (k : Int))), .has (.fz (encJ j)), .has (.fz (.int (i : Int))), j10, j11, j12, .un, .un, .un, .un, .un] =
      some (.nx [.has (.fz G), .has (.fz CS), .has (.fz ST), .has (.fz (encQ b)), .has (.fz JT), .has (.fz (tabD (nst ps))), .has (.ls (rowsO (colG rows b (jnt (nst ps)).length k (lvRow b (List.range (jnt (nst ps)).length) k (jrow ps j i)).1) (jnt (nst ps)).length)), .has (.fz (.int (k : Int))), .has (.fz (encJ j)), .has (.fz (.int (i : Int))), i10, i11, i12, .un, .un, .un, .un, .un]) := by
  have hpm := List.mem_of_getElem? hp
  have g := hg.g p hpm
  obtain ⟨s', hs', hsn⟩ := hj.at (nst_get hp)
  rw [hs] at hs'
  cases hs'
  have hr := rowsA_mem (rows := p.rows) (x := s) (by rw [g.ok.l2]; exact hsn)
  have hlt := (g.ok.ok _ hr).lt
  have hln := g.rl _ hr
  have hpr := g.rp _ hr
  have hne := hg.ne
  have hjl : j.length = ps.length := by have := hj.len; unfold nst at this; rw [List.length_map] at this; exact this
  have hl5 := hg.l5
  have hi : i < j.length := (List.getElem?_eq_some_iff.mp hs).1
  have hkm := (List.getElem?_eq_some_iff.mp hk).1
  have ejr := (jrow_eq hp hs).2
  have eset : ∀ t : Nat, D.tup ((j.map fun (n : Nat) => D.int (n : Int)).take i ++ .int (t : Int) :: (j.map fun (n : Nat) => D.int (n : Int)).drop (i + 1)) = encJ (j.set i t) := fun t => by
    unfold encJ
    rw [← cut_set (by omega : i < j.length), List.map_append, List.map_append, List.map_take, List.map_drop, List.append_assoc]; rfl
  have hc1 : cut (j.map fun (n : Nat) => D.int (n : Int)) none (some (i : Int)) = (j.map fun (n : Nat) => D.int (n : Int)).take i := cut_to
  have hc2 : cut (j.map fun (n : Nat) => D.int (n : Int)) (some ((i : Int) + 1)) none = (j.map fun (n : Nat) => D.int (n : Int)).drop (i + 1) := by
    have e : (i : Int) + 1 = ((i + 1 : Nat) : Int) := by omega
    rw [e, cut_from]
  have l1 : ((j.map fun (n : Nat) => D.int (n : Int)).take i).length + 1 ≤ 16777216 := by rw [List.length_take, List.length_map]; omega
  have l2 : ((j.map fun (n : Nat) => D.int (n : Int)).take i).length + 1 + ((j.map fun (n : Nat) => D.int (n : Int)).drop (i + 1)).length ≤ 16777216 := by rw [List.length_take, List.length_drop, List.length_map]; omega
  obtain ⟨env', hf, i10, i11, i12, rfl⟩ := for_inv (gs := gsTup 2 (gsCons (gsName 10) (gsCons (gsName 11) gsNil))) (mb := b1_joint_visits) (ds := (rowA p.rows s).map encP) (env := [.has (.fz G), .has (.fz CS), .has (.fz ST), .has (.fz (encQ b)), .has (.fz JT), .has (.fz (tabD (nst ps))), .has (.ls (rowsO (colG rows b (jnt (nst ps)).length k (unitF k)) (jnt (nst ps)).length)), .has (.fz (.int (k : Int))), .has (.fz (encJ j)), .has (.fz (.int (i : Int))), j10, j11, j12, .un, .un, .un, .un, .un])
    (fun n env => ∃ (i10 i11 i12 : Sl), env = [.has (.fz G), .has (.fz CS), .has (.fz ST), .has (.fz (encQ b)), .has (.fz JT), .has (.fz (tabD (nst ps))), .has (.ls (rowsO (colG rows b (jnt (nst ps)).length k (((jrow ps j i).take n).foldl (lvStep b (List.range (jnt (nst ps)).length)) (unitF k, 0)).1) (jnt (nst ps)).length)), .has (.fz (.int (k : Int))), .has (.fz (encJ j)), .has (.fz (.int (i : Int))), i10, i11, i12, .un, .un, .un, .un, .un])
    ⟨j10, j11, j12, rfl⟩ (by
      rintro n d env hd ⟨i10, i11, i12, rfl⟩
      rw [List.getElem?_map] at hd
      obtain ⟨w, hw', rfl⟩ := Option.map_eq_some_iff.mp hd
      obtain ⟨hm, _⟩ := List.getElem?_eq_some_iff.mp hw'
      have hwm := List.mem_of_getElem? hw'
      have hwn := hlt w hwm
      have hwp := hpr w hwm
      have jset := hj.set (nst_get hp) hwn
      have hnl := num_lt jset
      have ix := ix_tab jset
      rw [idx_num jset] at ix
      have es := eset w.1
      have htake : (jrow ps j i).take (n + 1) = (jrow ps j i).take n ++ [(num (nst ps) (j.set i w.1), w.2)] := by
        rw [ejr, List.take_add_one, List.getElem?_map, hw']; rfl
      have hsz := (lv_sz hb.sz (List.range (jnt (nst ps)).length) ((jrow ps j i).take n) (unitF k, 0) 4 (fun q hq => by
        have hq := List.mem_of_mem_take hq
        rw [ejr] at hq
        obtain ⟨w', hw', rfl⟩ := List.mem_map.mp hq
        exact hpr w' hw') (fun l => by
          show sz (unitF k l) ≤ _
          unfold unitF
          split
          · rw [sz_one]; omega
          · rw [sz_zero]; omega) (by rw [sz_zero]; omega)).1
      have htl : ((jrow ps j i).take n).length ≤ 24 := by
        rw [List.length_take, ejr, List.length_map]; omega
      rw [htake, List.foldl_append]
      generalize ((jrow ps j i).take n).foldl (lvStep b (List.range (jnt (nst ps)).length)) (unitF k, 0) = S at *
      have hS := hsz (num (nst ps) (j.set i w.1))
      have e4 : ([(num (nst ps) (j.set i w.1), w.2)].foldl (lvStep b (List.range (jnt (nst ps)).length)) S).1 = fun l => if l = num (nst ps) (j.set i w.1) then S.1 (num (nst ps) (j.set i w.1)) - b * w.2 else S.1 l := by
        show (lvStep b _ S (num (nst ps) (j.set i w.1), w.2)).1 = _
        unfold lvStep
        rw [if_pos (List.mem_range.mpr hnl)]
        funext l
        show (if l = (List.range (jnt (nst ps)).length).idxOf (num (nst ps) (j.set i w.1)) then S.1 l - b * w.2 else S.1 l) = _
        rw [idx_range hnl]
        by_cases h : l = num (nst ps) (j.set i w.1)
        · rw [if_pos h, if_pos h, h]
        · rw [if_neg h, if_neg h]
      have hb8 := hb.sz
      have m1' := sz_mul b w.2
      have k1 := multiply_spec (a := b) (b := w.2) (by omega)
      have k2 := subtract_spec (a := S.1 (num (nst ps) (j.set i w.1))) (b := b * w.2) (by omega)
      rw [e4, ← colG_set]
      have e5 := rowsO_set (colG rows b (jnt (nst ps)).length k S.1) k (S.1 (num (nst ps) (j.set i w.1)) - b * w.2) hnl
      have e6 : ixN (rowsO (colG rows b (jnt (nst ps)).length k S.1) (jnt (nst ps)).length).length (num (nst ps) (j.set i w.1) : Int) = some (num (nst ps) (j.set i w.1)) := ixN_nat (by rw [rowsO_len]; exact hnl)
      have e7 : atI (rowsO (colG rows b (jnt (nst ps)).length k S.1) (jnt (nst ps)).length) (num (nst ps) (j.set i w.1) : Int) = some (.ls (jratO (colG rows b (jnt (nst ps)).length k S.1 (num (nst ps) (j.set i w.1))) (jnt (nst ps)).length)) := by
        rw [atI_nat' (by rw [rowsO_len]; exact hnl), rowsO_at hnl]
      have e8 : inL (rowsO (colG rows b (jnt (nst ps)).length k S.1) (jnt (nst ps)).length) (num (nst ps) (j.set i w.1)) = some (jratO (colG rows b (jnt (nst ps)).length k S.1 (num (nst ps) (j.set i w.1))) (jnt (nst ps)).length) := by
        unfold inL
        rw [rowsO_at hnl]
      have e9 : ixN (jratO (colG rows b (jnt (nst ps)).length k S.1 (num (nst ps) (j.set i w.1))) (jnt (nst ps)).length).length (k : Int) = some k := ixN_nat (by rw [jratO_len]; exact hkm)
      have e10 : atI (jratO (colG rows b (jnt (nst ps)).length k S.1 (num (nst ps) (j.set i w.1))) (jnt (nst ps)).length) (k : Int) = some (.fz (encQ (S.1 (num (nst ps) (j.set i w.1))))) := by
        rw [atI_nat' (by rw [jratO_len]; exact hkm)]
        unfold jratO
        rw [List.getElem?_map, List.getElem?_range hkm]
        show some (O.fz (encQ (colG rows b _ k S.1 _ k))) = _
        unfold colG
        rw [if_pos rfl]
      refine ⟨_, _, rfl, .inl ?_, .has (.fz (.int (w.1 : Int))), .has (.fz (encQ w.2)), .has (.fz (.int (num (nst ps) (j.set i w.1) : Nat))), rfl⟩
      clear e4
      have ej : encJ j = .tup (j.map fun (n : Nat) => D.int (n : Int)) := rfl
      rw [ej]
      generalize rowsO (fun a c => if a = num (nst ps) (j.set i w.1) ∧ c = k then S.1 (num (nst ps) (j.set i w.1)) - b * w.2 else colG rows b (jnt (nst ps)).length k S.1 a c) (jnt (nst ps)).length = o2 at *
      generalize rowsO (colG rows b (jnt (nst ps)).length k S.1) (jnt (nst ps)).length = o1 at *
      generalize jratO (colG rows b (jnt (nst ps)).length k S.1 (num (nst ps) (j.set i w.1))) (jnt (nst ps)).length = o3 at *
      generalize tabD (nst ps) = TD at *
      generalize encQ (S.1 (num (nst ps) (j.set i w.1)) - b * w.2) = v1 at *
      generalize encQ (S.1 (num (nst ps) (j.set i w.1))) = v2 at *
      generalize num (nst ps) (j.set i w.1) = x at *
      generalize encQ (b * w.2) = v3 at *
      generalize encQ b = v4 at *
      generalize encQ w.2 = v5 at *
      generalize encJ (j.set i w.1) = js at *
      generalize (j.map fun (n : Nat) => D.int (n : Int)) = jd at *
      generalize jd.drop (i + 1) = jd2 at *
      generalize jd.take i = jd1 at *
      simp -implicitDefEqProofs [b1_joint_visits, hc1, hc2, l1, l2, es, ix, k1, k2, e5, e6, e7, e8, e9, e10, lsAt])
  rw [List.length_map] at hf
  have hfl : (jrow ps j i).take (rowA p.rows s).length = jrow ps j i := by
    rw [ejr]; exact List.take_of_length_le (by rw [List.length_map]; exact Nat.le_refl _)
  rw [hfl] at hf
  exact ⟨i10, i11, i12, hf⟩
end Lw
set_option Elab.async false
set_option linter.all false
set_option maxRecDepth 100000
set_option maxHeartbeats 1000000
namespace Lw
open PySem L2 Q
theorem jv2_turn {ps : List Plc} (hg : GmsOk ps) {b : Rat} (hb : Disc b) {ch : List Nat → Nat} (hc : ∀ j, JOk (nst ps) j → ch j < ps.length) (rows : List (List (Nat × Rat))) (hrows : rows = (jnt (nst ps)).map fun j => jrow ps j (ch j))
    {k : Nat} {j : List Nat} (hk : (jnt (nst ps))[k]? = some j) (ST : D) (j8 j9 j10 j11 j12 : Sl) :
    ∃ (i10 i11 i12 : Sl), b2_joint_visits [.has (.fz (.tup (ps.map gmE))), .has (.fz (chD ps ch)), .has (.fz ST), .has (.fz (encQ b)), .has (.fz (.tup ((jnt (nst ps)).map encJ))), .has (.fz (tabD (nst ps))), .has (.ls (rowsO (colG rows b (jnt (nst ps)).length k (fun _ => 0)) (jnt (nst ps)).length)), .has (.fz (.int (k : Int))), j8, j9, j10, j11, j12, .un, .un, .un, .un, .un] =
      some (.nx [.has (.fz (.tup (ps.map gmE))), .has (.fz (chD ps ch)), .has (.fz ST), .has (.fz (encQ b)), .has (.fz (.tup ((jnt (nst ps)).map encJ))), .has (.fz (tabD (nst ps))), .has (.ls (rowsO (colG rows b (jnt (nst ps)).length (k + 1) (fun _ => 0)) (jnt (nst ps)).length)), .has (.fz (.int (k : Int))), .has (.fz (encJ j)), .has (.fz (.int (ch j : Int))), i10, i11, i12, .un, .un, .un, .un, .un]) := by
  have hj := (mem_jnt _ j).mp (List.mem_of_getElem? hk)
  have hkN := (List.getElem?_eq_some_iff.mp hk).1
  have hi := hc j hj
  have hp := List.getElem?_eq_getElem hi
  obtain ⟨s, hs, hsn⟩ := hj.at (nst_get hp)
  have hpm := List.getElem_mem hi
  have g := hg.g _ hpm
  have hjl : j.length = ps.length := by have := hj.len; unfold nst at this; rw [List.length_map] at this; exact this
  generalize hpe : ps[ch j] = p at *
  have eG : atI (ps.map gmE) (ch j : Int) = some (.tup [.tup (p.rs.map encQ), .tup (p.rows.map encR)]) := by
    rw [atI_nat' (by simpa using hi), List.getElem?_map, hp]; rfl
  have eC : atI ((jnt (nst ps)).map fun j => D.int (ch j : Int)) (k : Int) = some (.int (ch j : Int)) := by
    rw [atI_nat' (by simpa using hkN), List.getElem?_map, hk]; rfl
  have ea : atI ((jnt (nst ps)).map encJ) (k : Int) = some (encJ j) := by
    rw [atI_nat' (by simpa using hkN), List.getElem?_map, hk]; rfl
  have ej : atI (j.map fun (n : Nat) => D.int (n : Int)) (ch j : Int) = some (.int (s : Int)) := by
    rw [atI_nat' (by rw [List.length_map]; omega), List.getElem?_map, hs]; rfl
  have e_row := at_row (rows := p.rows) (x := s) (by rw [g.ok.l2]; exact hsn)
  obtain ⟨i10, i11, i12, hin⟩ := jv_inner hg hb rows hj hk hp hs (.tup (ps.map gmE)) (chD ps ch) ST (.tup ((jnt (nst ps)).map encJ)) j10 j11 j12
  obtain ⟨r1, _⟩ := rowA_map (f := fun j => jrow ps j (ch j)) (g := fun j => jrwA ps j (ch j)) hk
  rw [← hrows] at r1
  rw [← r1, colG_next] at hin
  have e5 := rowsO_set (colG rows b (jnt (nst ps)).length k (fun _ => 0)) k (0 + 1) hkN
  rw [colG_set] at e5
  have hu : (fun a => if a = k then (0 + 1 : Rat) else 0) = unitF k := by
    funext a
    unfold unitF
    split
    · exact Rat.zero_add 1
    · rfl
  have hu2 : (fun a => if a = k then (0 + 1 : Rat) else (fun _ => (0 : Rat)) a) = unitF k := hu
  rw [hu2] at e5
  have e6 : ixN (rowsO (colG rows b (jnt (nst ps)).length k (fun _ => 0)) (jnt (nst ps)).length).length (k : Int) = some k := ixN_nat (by rw [rowsO_len]; exact hkN)
  have e7 : atI (rowsO (colG rows b (jnt (nst ps)).length k (fun _ => 0)) (jnt (nst ps)).length) (k : Int) = some (.ls (jratO (colG rows b (jnt (nst ps)).length k (fun _ => 0) k) (jnt (nst ps)).length)) := by
    rw [atI_nat' (by rw [rowsO_len]; exact hkN), rowsO_at hkN]
  have e8 : inL (rowsO (colG rows b (jnt (nst ps)).length k (fun _ => 0)) (jnt (nst ps)).length) k = some (jratO (colG rows b (jnt (nst ps)).length k (fun _ => 0) k) (jnt (nst ps)).length) := by
    unfold inL
    rw [rowsO_at hkN]
  have e9 : ixN (jratO (colG rows b (jnt (nst ps)).length k (fun _ => 0) k) (jnt (nst ps)).length).length (k : Int) = some k := ixN_nat (by rw [jratO_len]; exact hkN)
  have e10 : atI (jratO (colG rows b (jnt (nst ps)).length k (fun _ => 0) k) (jnt (nst ps)).length) (k : Int) = some (.fz (encQ 0)) := by
    rw [atI_nat' (by rw [jratO_len]; exact hkN)]
    unfold jratO
    rw [List.getElem?_map, List.getElem?_range hkN]
    show some (O.fz (encQ (colG rows b _ k (fun _ => 0) k k))) = _
    unfold colG
    rw [if_pos rfl]
  have k1 := add_spec (a := (0 : Rat)) (b := 1) (by rw [sz_zero, sz_one]; omega)
  have z1 : d_ONE = encQ 1 := encQ_one.symm
  have eir : D.items (.tup ((rowA p.rows s).map encP)) = some ((rowA p.rows s).map encP) := rfl
  refine ⟨i10, i11, i12, ?_⟩
  clear r1 hrows hu hu2
  unfold chD at *
  have eju : encJ j = .tup (j.map fun (n : Nat) => D.int (n : Int)) := rfl
  rw [eju] at ea hin ⊢
  generalize rowsO (colG rows b (jnt (nst ps)).length (k + 1) (fun _ => 0)) (jnt (nst ps)).length = o4 at *
  generalize rowsO (colG rows b (jnt (nst ps)).length k (unitF k)) (jnt (nst ps)).length = o2 at *
  generalize rowsO (colG rows b (jnt (nst ps)).length k (fun _ => 0)) (jnt (nst ps)).length = o1 at *
  generalize jratO (colG rows b (jnt (nst ps)).length k (fun _ => 0) k) (jnt (nst ps)).length = o3 at *
  generalize (jnt (nst ps)).map (fun j => D.int (ch j : Int)) = CL at *
  generalize (jnt (nst ps)).map encJ = JJ at *
  generalize (j.map fun (n : Nat) => D.int (n : Int)) = jd at *
  generalize tabD (nst ps) = TD at *
  generalize ps.map gmE = PG at *
  generalize (rowA p.rows s).map encP = PP at *
  generalize p.rs.map encQ = RS at *
  generalize p.rows.map encR = RW at *
  generalize ch j = c at *
  simp only [b2_joint_visits, z1]
  generalize encQ b = B at *
  generalize encQ (0 + 1) = Z2 at *
  generalize encQ 0 = Z0 at *
  generalize encQ 1 = Z1 at *
  simp -implicitDefEqProofs [eG, eC, ea, ej, e5, e6, e7, e8, e9, e10, lsAt, k1, e_row, eir, hin]
end Lw
set_option Elab.async false
set_option linter.all false
set_option maxRecDepth 100000
set_option maxHeartbeats 1000000
namespace Lw
open PySem L2 Q
theorem eqJ (a c : List Nat) : oEq (.fz (encJ a)) (.fz (encJ c)) = some (.fz (.bl (decide (a = c)))) := by
  haveI : Decidable (encJ a = encJ c) := if h : a = c then isTrue (h ▸ rfl) else isFalse fun e => h (encJ_inj e)
  have h := (eq_gd (encJ_gd a) (encJ_gd c) (by have := encJ_dep a; omega) (by have := encJ_dep c; omega)).1
  rw [h]
  by_cases e : a = c
  · subst e; rw [decide_eq_true rfl, decide_eq_true rfl]
  · rw [decide_eq_false e, decide_eq_false (fun h => e (encJ_inj h))]
theorem joint_visits_spec {ps : List Plc} (hg : GmsOk ps) (hS : ∀ p ∈ ps, Smr p.rs) {b : Rat} (hb : Disc b) (hN6 : (jnt (nst ps)).length ≤ 6) (hN0 : (jnt (nst ps)).length ≠ 0) {M : Nat} (hM1 : 1 ≤ M) (hmx : bmx (60, 60) (jnt (nst ps)).length M = true) {ch : List Nat → Nat} (hc : ∀ j, JOk (nst ps) j → ch j < ps.length) {j0 : List Nat} (hj0 : JOk (nst ps) j0) :
    ∃ X : Nat → Rat, (∀ V c : Nat → Rat, (∀ k, k < (jnt (nst ps)).length → V k = c k + b * sm (fun p => p.2 * V p.1) (rowA ((jnt (nst ps)).map fun j => jrow ps j (ch j)) k)) → V (num (nst ps) j0) = sm (fun k => X k * c k) (List.range (jnt (nst ps)).length)) ∧ (∀ t, sz (X t) ≤ M) ∧ f_joint_visits [.tup (ps.map gmE), chD ps ch, encJ j0, encQ b] = some (.lst ((List.range (jnt (nst ps)).length).map fun k => encQ (X k))) := by
  obtain ⟨X, h1, h2, h3⟩ := jt_solved (jg_sz hg hS hc hN0) hb hN6 hM1 hmx (num_lt hj0)
  refine ⟨X, h1, h2, ?_⟩
  have hjs := joint_states_spec (fun p hp => ⟨(hg.g p hp).ok.l1, hg.n5 p hp⟩) hg.l5
  have htp := table_places_spec (fun p hp => ⟨(hg.g p hp).ok.l1, hg.n5 p hp⟩) hg.l5 hg.ne
  have hun := joint_unk hg.ne
  have hr : ((jnt (nst ps)).length : Int) < 4611686018427387904 := by omega
  have hlen : ((jnt (nst ps)).map encJ).length = (jnt (nst ps)).length := by simp
  have eit : D.items (.tup ((jnt (nst ps)).map encJ)) = some ((jnt (nst ps)).map encJ) := rfl
  have z0 : d_ZERO = encQ 0 := encQ_zero.symm
  have z1 : d_ONE = encQ 1 := encQ_one.symm
  have lp0 : ∀ d : D, lcLoop [15] (gsName 15) mYes e1_joint_visits ((jnt (nst ps)).map encJ) [] [.has (.fz (.tup (ps.map gmE))), .has (.fz (chD ps ch)), .has (.fz (encJ j0)), .has (.fz (encQ b)), .has (.fz (.tup ((jnt (nst ps)).map encJ))), .has (.fz (tabD (nst ps))), .un, .un, .has (.fz d), .un, .un, .un, .un, .un, .un, .un, .un, .un] =
      some (jratO (fun _ => 0) (jnt (nst ps)).length, [.has (.fz (.tup (ps.map gmE))), .has (.fz (chD ps ch)), .has (.fz (encJ j0)), .has (.fz (encQ b)), .has (.fz (.tup ((jnt (nst ps)).map encJ))), .has (.fz (tabD (nst ps))), .un, .un, .has (.fz d), .un, .un, .un, .un, .un, .un, .un, .un, .un]) := fun d => by
    have er : jratO (fun _ => (0 : Rat)) (jnt (nst ps)).length = (jnt (nst ps)).map fun _ => O.fz (encQ 0) := by
      unfold jratO
      rw [List.map_const', List.map_const', List.length_range]
    rw [er, lc_mapx encJ (fun _ => O.fz (encQ 0)) (jnt (nst ps)) [] (by rfl) (by rw [e_sizeLine]; simp; omega) fun a _ => ?_]
    · rfl
    generalize chD ps ch = CS
    generalize (jnt (nst ps)).map encJ = JJ
    generalize tabD (nst ps) = TD
    generalize ps.map gmE = PG
    generalize encJ j0 = ST
    generalize encQ b = B
    generalize encJ a = A
    refine ⟨[.has (.fz (.tup PG)), .has (.fz CS), .has (.fz ST), .has (.fz B), .has (.fz (.tup JJ)), .has (.fz TD), .un, .un, .has (.fz d), .un, .un, .un, .un, .un, .un, .has (.fz A), .un, .un], [.has (.fz (.tup PG)), .has (.fz CS), .has (.fz ST), .has (.fz B), .has (.fz (.tup JJ)), .has (.fz TD), .un, .un, .has (.fz d), .un, .un, .un, .un, .un, .un, .has (.fz A), .un, .un], ?_, ?_, ?_⟩
    · simp -implicitDefEqProofs [wipeE]
    · simp only [e1_joint_visits, z0]
      generalize encQ 0 = Z
      simp -implicitDefEqProofs
    · simp -implicitDefEqProofs [backE]
  have lp1 : lcLoop [8] (gsName 8) mYes e2_joint_visits ((jnt (nst ps)).map encJ) [] [.has (.fz (.tup (ps.map gmE))), .has (.fz (chD ps ch)), .has (.fz (encJ j0)), .has (.fz (encQ b)), .has (.fz (.tup ((jnt (nst ps)).map encJ))), .has (.fz (tabD (nst ps))), .un, .un, .un, .un, .un, .un, .un, .un, .un, .un, .un, .un] =
      some (rowsO (fun _ _ => 0) (jnt (nst ps)).length, [.has (.fz (.tup (ps.map gmE))), .has (.fz (chD ps ch)), .has (.fz (encJ j0)), .has (.fz (encQ b)), .has (.fz (.tup ((jnt (nst ps)).map encJ))), .has (.fz (tabD (nst ps))), .un, .un, .un, .un, .un, .un, .un, .un, .un, .un, .un, .un]) := by
    have er : rowsO (fun _ _ => (0 : Rat)) (jnt (nst ps)).length = (jnt (nst ps)).map fun _ => O.ls (jratO (fun _ => 0) (jnt (nst ps)).length) := by
      unfold rowsO
      rw [List.map_const', List.map_const', List.length_range]
    rw [er, lc_mapx encJ (fun _ => O.ls (jratO (fun _ => 0) (jnt (nst ps)).length)) (jnt (nst ps)) [] (by rfl) (by rw [e_sizeLine]; simp; omega) fun a _ => ?_]
    · rfl
    have l0 := lp0 (encJ a)
    generalize jratO (fun _ => 0) (jnt (nst ps)).length = o1 at *
    generalize chD ps ch = CS at *
    generalize (jnt (nst ps)).map encJ = JJ at *
    generalize tabD (nst ps) = TD at *
    generalize ps.map gmE = PG at *
    generalize encJ j0 = ST at *
    generalize encQ b = B at *
    generalize encJ a = A at *
    refine ⟨[.has (.fz (.tup PG)), .has (.fz CS), .has (.fz ST), .has (.fz B), .has (.fz (.tup JJ)), .has (.fz TD), .un, .un, .has (.fz A), .un, .un, .un, .un, .un, .un, .un, .un, .un], [.has (.fz (.tup PG)), .has (.fz CS), .has (.fz ST), .has (.fz B), .has (.fz (.tup JJ)), .has (.fz TD), .un, .un, .has (.fz A), .un, .un, .un, .un, .un, .un, .un, .un, .un], ?_, ?_, ?_⟩
    · simp -implicitDefEqProofs [wipeE]
    · have eit : D.items (.tup JJ) = some JJ := rfl
      simp -implicitDefEqProofs [e2_joint_visits, eit, l0]
    · simp -implicitDefEqProofs [backE]
  generalize hrows : ((jnt (nst ps)).map fun j => jrow ps j (ch j)) = rows at *
  obtain ⟨env', hf, i7, i8, i9, i10, i11, i12, rfl, h8⟩ := for_inv (gs := gsName 7) (mb := b2_joint_visits) (ds := rangeD 0 (jnt (nst ps)).length) (env := [.has (.fz (.tup (ps.map gmE))), .has (.fz (chD ps ch)), .has (.fz (encJ j0)), .has (.fz (encQ b)), .has (.fz (.tup ((jnt (nst ps)).map encJ))), .has (.fz (tabD (nst ps))), .has (.ls (rowsO (fun _ _ => 0) (jnt (nst ps)).length)), .un, .un, .un, .un, .un, .un, .un, .un, .un, .un, .un])
    (fun i env => ∃ (i7 i8 i9 i10 i11 i12 : Sl), env = [.has (.fz (.tup (ps.map gmE))), .has (.fz (chD ps ch)), .has (.fz (encJ j0)), .has (.fz (encQ b)), .has (.fz (.tup ((jnt (nst ps)).map encJ))), .has (.fz (tabD (nst ps))), .has (.ls (rowsO (colG rows b (jnt (nst ps)).length i (fun _ => 0)) (jnt (nst ps)).length)), i7, i8, i9, i10, i11, i12, .un, .un, .un, .un, .un] ∧ (i8 = .un ∨ ∃ d, i8 = .has (.fz d))) ⟨.un, .un, .un, .un, .un, .un, by rw [colG_start], .inl rfl⟩ (by
      rintro i d env hd ⟨i7, i8, i9, i10, i11, i12, rfl, _⟩
      obtain ⟨hi, rfl⟩ := rangeD0_get hd
      obtain ⟨a10, a11, a12, h⟩ := jv2_turn hg hb hc rows hrows.symm (List.getElem?_eq_getElem hi) (encJ j0) i8 i9 i10 i11 i12
      exact ⟨_, _, rfl, .inl h, _, _, _, a10, a11, a12, rfl, .inr ⟨_, rfl⟩⟩)
  have hl : (rangeD 0 (jnt (nst ps)).length).length = (jnt (nst ps)).length := by simp [rangeD]
  rw [hl] at hf
  have lp2 : ∀ t8 : Sl, (t8 = .un ∨ ∃ d, t8 = .has (.fz d)) → lcLoop [8] (gsName 8) mYes e3_joint_visits ((jnt (nst ps)).map encJ) [] [.has (.fz (.tup (ps.map gmE))), .has (.fz (chD ps ch)), .has (.fz (encJ j0)), .has (.fz (encQ b)), .has (.fz (.tup ((jnt (nst ps)).map encJ))), .has (.fz (tabD (nst ps))), .has (.ls (rowsO (colG rows b (jnt (nst ps)).length (jnt (nst ps)).length (fun _ => 0)) (jnt (nst ps)).length)), i7, t8, i9, i10, i11, i12, .un, .un, .un, .un, .un] =
      some (((jtR (num (nst ps) j0) (jnt (nst ps)).length).map encTr).map O.fz, [.has (.fz (.tup (ps.map gmE))), .has (.fz (chD ps ch)), .has (.fz (encJ j0)), .has (.fz (encQ b)), .has (.fz (.tup ((jnt (nst ps)).map encJ))), .has (.fz (tabD (nst ps))), .has (.ls (rowsO (colG rows b (jnt (nst ps)).length (jnt (nst ps)).length (fun _ => 0)) (jnt (nst ps)).length)), i7, t8, i9, i10, i11, i12, .un, .un, .un, .un, .un]) := fun t8 h8 => by
    have er : ((jtR (num (nst ps) j0) (jnt (nst ps)).length).map encTr).map O.fz = (jnt (nst ps)).map fun j => O.fz (.tup [encQ (if j = j0 then (1 : Rat) else 0)]) := by
      unfold jtR
      rw [List.map_map, List.map_map]
      apply List.ext_getElem (by simp)
      intro k k1 k2
      have hk : k < (jnt (nst ps)).length := by simpa using k2
      rw [List.getElem_map, List.getElem_map, List.getElem_range]
      show O.fz (encTr [if k = num (nst ps) j0 then (1 : Rat) else 0]) = _
      have e : (k = num (nst ps) j0) ↔ ((jnt (nst ps))[k] = j0) := by
        constructor
        · intro h
          have := jnt_num (nst ps) j0 hj0
          rw [← h, List.getElem?_eq_getElem hk] at this
          exact Option.some.inj this
        · intro h
          have := num_of (List.getElem?_eq_getElem hk)
          rw [h] at this
          exact this.symm
      by_cases h : k = num (nst ps) j0
      · rw [if_pos h, if_pos (e.mp h)]; rfl
      · rw [if_neg h, if_neg (fun q => h (e.mpr q))]; rfl
    rw [er, lc_mapx encJ (fun j => O.fz (.tup [encQ (if j = j0 then (1 : Rat) else 0)])) (jnt (nst ps)) [] (by rcases h8 with rfl | ⟨d, rfl⟩ <;> rfl) (by rw [e_sizeLine]; simp; omega) fun a _ => ?_]
    · rfl
    have eq := eqJ a j0
    generalize rowsO (colG rows b (jnt (nst ps)).length (jnt (nst ps)).length (fun _ => 0)) (jnt (nst ps)).length = o1 at *
    generalize chD ps ch = CS at *
    generalize (jnt (nst ps)).map encJ = JJ at *
    generalize tabD (nst ps) = TD at *
    generalize ps.map gmE = PG at *
    generalize encJ j0 = ST at *
    generalize encQ b = B at *
    generalize encJ a = A at *
    refine ⟨[.has (.fz (.tup PG)), .has (.fz CS), .has (.fz ST), .has (.fz B), .has (.fz (.tup JJ)), .has (.fz TD), .has (.ls o1), i7, .has (.fz A), i9, i10, i11, i12, .un, .un, .un, .un, .un], [.has (.fz (.tup PG)), .has (.fz CS), .has (.fz ST), .has (.fz B), .has (.fz (.tup JJ)), .has (.fz TD), .has (.ls o1), i7, .has (.fz A), i9, i10, i11, i12, .un, .un, .un, .un, .un], ?_, ?_, ?_⟩
    · simp -implicitDefEqProofs [wipeE]
    · by_cases h : a = j0
      · rw [decide_eq_true h] at eq
        rw [if_pos h]
        simp only [e3_joint_visits, z0, z1]
        generalize encQ 0 = Z0
        generalize encQ 1 = Z1
        simp -implicitDefEqProofs [eq]
      · rw [decide_eq_false h] at eq
        rw [if_neg h]
        simp only [e3_joint_visits, z0, z1]
        generalize encQ 0 = Z0
        generalize encQ 1 = Z1
        simp -implicitDefEqProofs [eq]
    · rcases h8 with rfl | ⟨d, rfl⟩ <;> simp -implicitDefEqProofs [backE]
  have frz := frz_rows (colG rows b (jnt (nst ps)).length (jnt (nst ps)).length (fun _ => 0)) (jnt (nst ps)).length
  have efz : (List.range (jnt (nst ps)).length).map (fun l => D.lst ((List.range (jnt (nst ps)).length).map fun k => encQ (colG rows b (jnt (nst ps)).length (jnt (nst ps)).length (fun _ => 0) l k))) = (jtA rows b (jnt (nst ps)).length).map fun r => D.lst (r.map encQ) := by
    unfold jtA
    rw [List.map_map]
    refine List.map_congr_left fun l _ => ?_
    show D.lst _ = D.lst (List.map encQ (List.map _ _))
    rw [List.map_map]
    refine congrArg D.lst (List.map_congr_left fun k hk => ?_)
    rw [colG_end (List.mem_range.mp hk)]; rfl
  rw [efz] at frz
  have hjl : (jtA rows b (jnt (nst ps)).length).length = (jnt (nst ps)).length := by simp [jtA]
  have hjl2 : (jtR (num (nst ps) j0) (jnt (nst ps)).length).length = (jnt (nst ps)).length := by simp [jtR]
  have eit3 : ∀ ds : List D, D.items (.lst ds) = some ds := fun _ => rfl
  have eit4 : ∀ ds : List D, D.items (.tup ds) = some ds := fun _ => rfl
  have h3s : f_solve [.tup ((jtA rows b (jnt (nst ps)).length).map encTr), .tup ((jtR (num (nst ps) j0) (jnt (nst ps)).length).map encTr)] = some (.tup [.str "solution", .tup ((List.range (jnt (nst ps)).length).map fun k => .tup [encQ (X k)])]) := h3
  have lp3 : ∀ (t8 : Sl) (d : D) (o13 : List O), (t8 = .un ∨ ∃ d, t8 = .has (.fz d)) → lcLoop [16] (gsName 16) mYes e4_joint_visits ((jtA rows b (jnt (nst ps)).length).map fun r => D.lst (r.map encQ)) [] [.has (.fz (.tup (ps.map gmE))), .has (.fz (chD ps ch)), .has (.fz (encJ j0)), .has (.fz (encQ b)), .has (.fz (.tup ((jnt (nst ps)).map encJ))), .has (.fz (tabD (nst ps))), .has (.fz d), i7, t8, i9, i10, i11, i12, .has (.ls o13), .un, .un, .un, .un] =
      some (((jtA rows b (jnt (nst ps)).length).map encTr).map O.fz, [.has (.fz (.tup (ps.map gmE))), .has (.fz (chD ps ch)), .has (.fz (encJ j0)), .has (.fz (encQ b)), .has (.fz (.tup ((jnt (nst ps)).map encJ))), .has (.fz (tabD (nst ps))), .has (.fz d), i7, t8, i9, i10, i11, i12, .has (.ls o13), .un, .un, .un, .un]) := fun t8 d o13 h8 => by
    rw [lc_mapx (fun r : List Rat => D.lst (r.map encQ)) (fun r => O.fz (encTr r)) (jtA rows b (jnt (nst ps)).length) [] (by rfl) (by rw [e_sizeLine]; simp only [List.length_nil]; omega) fun r _ => ?_]
    · rw [List.nil_append, List.map_map]; rfl
    have eT : encTr r = .tup (r.map encQ) := rfl
    rw [eT]
    generalize r.map encQ = rq at *
    generalize chD ps ch = CS at *
    generalize (jnt (nst ps)).map encJ = JJ at *
    generalize tabD (nst ps) = TD at *
    generalize ps.map gmE = PG at *
    generalize encJ j0 = ST at *
    generalize encQ b = B at *
    refine ⟨[.has (.fz (.tup PG)), .has (.fz CS), .has (.fz ST), .has (.fz B), .has (.fz (.tup JJ)), .has (.fz TD), .has (.fz d), i7, t8, i9, i10, i11, i12, .has (.ls o13), .un, .un, .has (.fz (.lst rq)), .un], [.has (.fz (.tup PG)), .has (.fz CS), .has (.fz ST), .has (.fz B), .has (.fz (.tup JJ)), .has (.fz TD), .has (.fz d), i7, t8, i9, i10, i11, i12, .has (.ls o13), .un, .un, .has (.fz (.lst rq)), .un], ?_, ?_, ?_⟩
    · simp -implicitDefEqProofs [wipeE]
    · simp -implicitDefEqProofs [e4_joint_visits]
    · simp -implicitDefEqProofs [backE]
  have lp4 : ∀ (t8 : Sl) (d d14 : D) (o13 : List O), (t8 = .un ∨ ∃ d, t8 = .has (.fz d)) → lcLoop [17] (gsName 17) mYes e5_joint_visits ((List.range (jnt (nst ps)).length).map fun k => .tup [encQ (X k)]) [] [.has (.fz (.tup (ps.map gmE))), .has (.fz (chD ps ch)), .has (.fz (encJ j0)), .has (.fz (encQ b)), .has (.fz (.tup ((jnt (nst ps)).map encJ))), .has (.fz (tabD (nst ps))), .has (.fz d), i7, t8, i9, i10, i11, i12, .has (.ls o13), .has (.fz d14), .un, .un, .un] =
      some (((List.range (jnt (nst ps)).length).map fun k => encQ (X k)).map O.fz, [.has (.fz (.tup (ps.map gmE))), .has (.fz (chD ps ch)), .has (.fz (encJ j0)), .has (.fz (encQ b)), .has (.fz (.tup ((jnt (nst ps)).map encJ))), .has (.fz (tabD (nst ps))), .has (.fz d), i7, t8, i9, i10, i11, i12, .has (.ls o13), .has (.fz d14), .un, .un, .un]) := fun t8 d d14 o13 h8 => by
    rw [lc_mapx (fun k : Nat => D.tup [encQ (X k)]) (fun k => O.fz (encQ (X k))) (List.range (jnt (nst ps)).length) [] (by rfl) (by rw [e_sizeLine]; simp only [List.length_nil, List.length_range]; omega) fun k _ => ?_]
    · rw [List.nil_append, List.map_map]; rfl
    generalize encQ (X k) = v at *
    generalize chD ps ch = CS at *
    generalize (jnt (nst ps)).map encJ = JJ at *
    generalize tabD (nst ps) = TD at *
    generalize ps.map gmE = PG at *
    generalize encJ j0 = ST at *
    generalize encQ b = B at *
    refine ⟨[.has (.fz (.tup PG)), .has (.fz CS), .has (.fz ST), .has (.fz B), .has (.fz (.tup JJ)), .has (.fz TD), .has (.fz d), i7, t8, i9, i10, i11, i12, .has (.ls o13), .has (.fz d14), .un, .un, .has (.fz (.tup [v]))], [.has (.fz (.tup PG)), .has (.fz CS), .has (.fz ST), .has (.fz B), .has (.fz (.tup JJ)), .has (.fz TD), .has (.fz d), i7, t8, i9, i10, i11, i12, .has (.ls o13), .has (.fz d14), .un, .un, .has (.fz (.tup [v]))], ?_, ?_, ?_⟩
    · simp -implicitDefEqProofs [wipeE]
    · simp -implicitDefEqProofs [e5_joint_visits]
    · simp -implicitDefEqProofs [backE]
  have eg1 := e_gTupO (ds := (jtA rows b (jnt (nst ps)).length).map encTr)
  have eg2 := e_gTupO (ds := (jtR (num (nst ps) j0) (jnt (nst ps)).length).map encTr)
  have hfr := frz_ls ((List.range (jnt (nst ps)).length).map fun k => encQ (X k))
  have lp2' := lp2 i8 h8
  have lp3' := fun d o13 => lp3 i8 d o13 h8
  have lp4' := fun d d14 o13 => lp4 i8 d d14 o13 h8
  refine (run_eq (by rfl)).trans ?_
  clear lp2 lp3 lp4 lp0 efz h3 h1 hrows eit3 eit4
  generalize (((jtA rows b (jnt (nst ps)).length).map encTr).map O.fz) = oA at *
  generalize (((jtR (num (nst ps) j0) (jnt (nst ps)).length).map encTr).map O.fz) = oR at *
  generalize (jtA rows b (jnt (nst ps)).length).map encTr = A1 at *
  generalize ((jtR (num (nst ps) j0) (jnt (nst ps)).length).map encTr) = R1 at *
  generalize ((jtA rows b (jnt (nst ps)).length).map fun r => D.lst (r.map encQ)) = RW at *
  generalize (((List.range (jnt (nst ps)).length).map fun k => encQ (X k)).map O.fz) = oX at *
  generalize ((List.range (jnt (nst ps)).length).map fun k => encQ (X k)) = XX at *
  generalize ((List.range (jnt (nst ps)).length).map fun k => D.tup [encQ (X k)]) = XT at *
  generalize rowsO (colG rows b (jnt (nst ps)).length (jnt (nst ps)).length (fun _ => 0)) (jnt (nst ps)).length = o1 at *
  generalize rowsO (fun _ _ => 0) (jnt (nst ps)).length = o0 at *
  generalize (jnt (nst ps)).map rowD = RD at *
  generalize chD ps ch = CS at *
  generalize (jnt (nst ps)).map encJ = JJ at *
  generalize (jnt (nst ps)).length = m at *
  generalize tabD (nst ps) = TD at *
  generalize ps.map gmE = PG at *
  generalize encJ j0 = ST at *
  generalize encQ b = B at *
  have eit1 : D.items (.lst RW) = some RW := rfl
  have eit2 : D.items (.tup XT) = some XT := rfl
  simp -implicitDefEqProofs [m_joint_visits, startE, mR1, hjs, hun, htp, hlen, hr, eit, lp1, hf, lp2', frz, eit1, lp3', eg1, eg2, h3s, eit2, lp4', hfr]
end Lw
set_option Elab.async false
set_option linter.all false
set_option maxRecDepth 100000
set_option maxHeartbeats 1000000
namespace Lw
open PySem L2 Q
/-- the pair that is played in the joint state number k -/
def qOf (ps : List Plc) (ch : List Nat → Nat) (k : Nat) : Nat × Nat := match (jnt (nst ps))[k]? with
  | some j => (ch j, (j[ch j]?).getD 0)
  | none => (0, 0)
theorem qOf_at {ps : List Plc} {ch : List Nat → Nat} {k : Nat} {j : List Nat} (h : (jnt (nst ps))[k]? = some j) : qOf ps ch k = (ch j, (j[ch j]?).getD 0) := by
  unfold qOf; rw [h]
def visL (ps : List Plc) (ch : List Nat → Nat) (q : Nat × Nat) (k : Nat) : List Nat := (List.range k).filter fun n => decide (qOf ps ch n = q)
def visQ (ps : List Plc) (ch : List Nat → Nat) (X : Nat → Rat) (q : Nat × Nat) : Rat := sumQ 0 ((visL ps ch q (jnt (nst ps)).length).map X)
theorem visL_succ (ps : List Plc) (ch : List Nat → Nat) (q : Nat × Nat) (k : Nat) : visL ps ch q (k + 1) = if qOf ps ch k = q then visL ps ch q k ++ [k] else visL ps ch q k := by
  unfold visL
  rw [List.range_succ, List.filter_append]
  by_cases h : qOf ps ch k = q
  · simp [h]
  · simp [h]
theorem visL_len (ps : List Plc) (ch : List Nat → Nat) (q : Nat × Nat) (k : Nat) : (visL ps ch q k).length ≤ k := by
  have := List.length_filter_le (fun n => decide (qOf ps ch n = q)) (List.range k)
  rw [List.length_range] at this
  exact this
theorem visQ_sz {ps : List Plc} {ch : List Nat → Nat} {X : Nat → Rat} {q : Nat × Nat} {M : Nat} (h : ∀ t, sz (X t) ≤ M) : szs ((visL ps ch q (jnt (nst ps)).length).map X) ≤ (jnt (nst ps)).length * (M + 1) := by
  refine Nat.le_trans (szs_le (k := M) fun x hx => ?_) (Nat.mul_le_mul_right _ ?_)
  · obtain ⟨t, _, rfl⟩ := List.mem_map.mp hx
    exact h t
  · rw [List.length_map]; exact visL_len _ _ _ _
def stJ (ps : List Plc) : List Nat := ps.map (·.s)
theorem stJ_ok {ps : List Plc} (h : ∀ p ∈ ps, PlOk p) : JOk (nst ps) (stJ ps) := by
  refine ⟨by simp [nst, stJ], fun i x n h1 h2 => ?_⟩
  unfold stJ at h1
  unfold nst at h2
  rw [List.getElem?_map] at h1 h2
  obtain ⟨p, hp, rfl⟩ := Option.map_eq_some_iff.mp h1
  rw [hp] at h2
  cases h2
  exact (h p (List.mem_of_getElem? hp)).hs
theorem sc_gms {ps : List Plc} (hs : ScOk ps) : GmsOk ps := ⟨fun p hp => (hs.ok p hp).g, fun p hp => by have := hs.n3 p hp; omega, by have := hs.len; omega, fun e => by have := hs.len; rw [e] at this; simp at this⟩
theorem chD_at' {ps : List Plc} {ch : List Nat → Nat} {k : Nat} {j : List Nat} (h : (jnt (nst ps))[k]? = some j) : atI ((jnt (nst ps)).map fun j => D.int (ch j : Int)) (k : Int) = some (.int (ch j : Int)) := by
  have hk := (List.getElem?_eq_some_iff.mp h).1
  rw [atI_nat' (by simpa using hk), List.getElem?_map, h]; rfl
theorem cv_body {ps : List Plc} (hs : ScOk ps) {ch : List Nat → Nat} (hc : ∀ j, JOk (nst ps) j → ch j < ps.length) (X : Nat → Rat) (hN6 : (jnt (nst ps)).length ≤ 6) (q : Nat × Nat) (hq : q.1 < ps.length) (s0 s2 s3 s4 t12 t11 : Sl) (o7 : O) :
    ∃ i11, forL (gsName 11) b1_choice_visits (rangeD 0 (jnt (nst ps)).length) [s0, .has (.fz (chD ps ch)), s2, s3, s4, .has (.fz (.lst ((List.range (jnt (nst ps)).length).map fun k => encQ (X k)))), .has (.fz (.tup ((jnt (nst ps)).map encJ))), .has o7, .has (.fz (.int (q.1 : Int))), .has (.fz (.int (q.2 : Int))), .has (.ls []), t11, t12] =
      some (.nx [s0, .has (.fz (chD ps ch)), s2, s3, s4, .has (.fz (.lst ((List.range (jnt (nst ps)).length).map fun k => encQ (X k)))), .has (.fz (.tup ((jnt (nst ps)).map encJ))), .has o7, .has (.fz (.int (q.1 : Int))), .has (.fz (.int (q.2 : Int))), .has (.ls ((((visL ps ch q (jnt (nst ps)).length).map X).map encQ).map .fz)), i11, t12]) := by
  obtain ⟨env', hf, i11, rfl⟩ := for_inv (gs := gsName 11) (mb := b1_choice_visits) (ds := rangeD 0 (jnt (nst ps)).length) (env := [s0, .has (.fz (chD ps ch)), s2, s3, s4, .has (.fz (.lst ((List.range (jnt (nst ps)).length).map fun k => encQ (X k)))), .has (.fz (.tup ((jnt (nst ps)).map encJ))), .has o7, .has (.fz (.int (q.1 : Int))), .has (.fz (.int (q.2 : Int))), .has (.ls []), t11, t12])
    (fun i env => ∃ i11, env = [s0, .has (.fz (chD ps ch)), s2, s3, s4, .has (.fz (.lst ((List.range (jnt (nst ps)).length).map fun k => encQ (X k)))), .has (.fz (.tup ((jnt (nst ps)).map encJ))), .has o7, .has (.fz (.int (q.1 : Int))), .has (.fz (.int (q.2 : Int))), .has (.ls ((((visL ps ch q i).map X).map encQ).map .fz)), i11, t12])
    ⟨t11, rfl⟩ (by
      rintro k d env hd ⟨i11, rfl⟩
      obtain ⟨hk, rfl⟩ := rangeD0_get hd
      have hkj := List.getElem?_eq_getElem hk
      generalize (jnt (nst ps))[k] = j at hkj
      have hj := (mem_jnt _ j).mp (List.mem_of_getElem? hkj)
      have hi := hc j hj
      have hp := List.getElem?_eq_getElem hi
      obtain ⟨s, hsj, hsn⟩ := hj.at (nst_get hp)
      have hjl : j.length = ps.length := by have := hj.len; unfold nst at this; rw [List.length_map] at this; exact this
      have eqk := qOf_at (ch := ch) hkj
      rw [hsj] at eqk
      have eqk : qOf ps ch k = (ch j, s) := eqk
      have eC : atI ((jnt (nst ps)).map fun j => D.int (ch j : Int)) (k : Int) = some (.int (ch j : Int)) := chD_at' hkj
      have ea : atI ((jnt (nst ps)).map encJ) (k : Int) = some (.tup (j.map fun (n : Nat) => D.int (n : Int))) := by
        rw [atI_nat' (by simpa using hk), List.getElem?_map, hkj]; rfl
      have ej : atI (j.map fun (n : Nat) => D.int (n : Int)) (ch j : Int) = some (.int (s : Int)) := by
        rw [atI_nat' (by rw [List.length_map]; omega), List.getElem?_map, hsj]; rfl
      have eX : atI ((List.range (jnt (nst ps)).length).map fun k => encQ (X k)) (k : Int) = some (encQ (X k)) := by
        rw [atI_nat' (by simpa using hk), List.getElem?_map, List.getElem?_range hk]; rfl
      have hvl := visL_len ps ch q k
      rw [visL_succ, eqk]
      refine ⟨_, _, rfl, .inl ?_, .has (.fz (.int (k : Int))), rfl⟩
      have hlen : ((((visL ps ch q k).map X).map encQ).map O.fz).length < 16777216 := by simp; omega
      have hap : (((((visL ps ch q k) ++ [k]).map X).map encQ).map O.fz) = ((((visL ps ch q k).map X).map encQ).map O.fz) ++ [.fz (encQ (X k))] := by simp
      unfold chD
      obtain ⟨q1, q2⟩ := q
      generalize hos : ((((visL ps ch (q1, q2) k).map X).map encQ).map O.fz) = os at *
      generalize (jnt (nst ps)).map (fun j => D.int (ch j : Int)) = CL at *
      generalize (jnt (nst ps)).map encJ = JJ at *
      generalize (j.map fun (n : Nat) => D.int (n : Int)) = jd at *
      generalize ((List.range (jnt (nst ps)).length).map fun k => encQ (X k)) = XX at *
      have hq1 : ((ch j : Int) = (q1 : Int)) ↔ ch j = q1 := by omega
      have hq2 : ((s : Int) = (q2 : Int)) ↔ s = q2 := by omega
      by_cases c1 : ch j = q1
      · by_cases c2 : s = q2
        · subst c1
          subst c2
          rw [if_pos rfl, hap]
          generalize encQ (X k) = v at *
          generalize ch j = cc at *
          simp -implicitDefEqProofs [b1_choice_visits, eC, ea, ej, eX, hlen]
        · rw [if_neg (fun e => c2 (Prod.mk.inj e).2), hos]
          subst c1
          clear hos
          have n2 : ¬ ((s : Int) = (q2 : Int)) := by omega
          generalize ch j = cc at *
          simp -implicitDefEqProofs [b1_choice_visits, eC, ea, ej, n2, c2]
      · rw [if_neg (fun e => c1 (Prod.mk.inj e).1), hos]
        clear hos
        have n1 : ¬ ((ch j : Int) = (q1 : Int)) := by omega
        generalize ch j = cc at *
        simp -implicitDefEqProofs [b1_choice_visits, eC, n1, c1])
  have hl : (rangeD 0 (jnt (nst ps)).length).length = (jnt (nst ps)).length := by simp [rangeD]
  rw [hl] at hf
  exact ⟨i11, hf⟩
theorem pairsT_mem {ps : List Plc} {i s : Nat} {p : Plc} : ∀ k, ps[i]? = some p → i < k → k ≤ ps.length → s < p.n → (i, s) ∈ pairsT ps k
  | 0, _, h, _, _ => by omega
  | k + 1, hp, hi, hk, hs => by
    have hq := List.getElem?_eq_getElem (show k < ps.length by omega)
    rw [pairsT_succ hq, List.mem_append]
    by_cases c : i = k
    · subst c
      obtain rfl : p = ps[i] := by
        rw [hp] at hq
        exact Option.some.inj hq
      exact .inr (List.mem_map.mpr ⟨s, List.mem_range.mpr hs, rfl⟩)
    · exact .inl (pairsT_mem k hp (by omega) (by omega) hs)
theorem pairsT_of {ps : List Plc} : ∀ k, k ≤ ps.length → ∀ q ∈ pairsT ps k, ∃ p, ps[q.1]? = some p ∧ q.2 < p.n ∧ q.1 < k
  | 0, _, q, h => by simp [pairsT] at h
  | k + 1, hk, q, h => by
    have hq := List.getElem?_eq_getElem (show k < ps.length by omega)
    rw [pairsT_succ hq, List.mem_append] at h
    rcases h with h | h
    · obtain ⟨p, h1, h2, h3⟩ := pairsT_of k (by omega) q h
      exact ⟨p, h1, h2, by omega⟩
    · obtain ⟨s, hs, rfl⟩ := List.mem_map.mp h
      exact ⟨_, hq, List.mem_range.mp hs, by dsimp only; omega⟩
theorem choice_visits_spec {ps : List Plc} (hs : ScOk ps) {b : Rat} (hb : Disc b) (hN6 : (jnt (nst ps)).length ≤ 6) (hN0 : (jnt (nst ps)).length ≠ 0) {M : Nat} (hM1 : 1 ≤ M) (hM2 : M ≤ 20000000) (hmx : bmx (60, 60) (jnt (nst ps)).length M = true) {ch : List Nat → Nat} (hc : ∀ j, JOk (nst ps) j → ch j < ps.length) :
    ∃ X : Nat → Rat, (∀ V c : Nat → Rat, (∀ k, k < (jnt (nst ps)).length → V k = c k + b * sm (fun p => p.2 * V p.1) (rowA ((jnt (nst ps)).map fun j => jrow ps j (ch j)) k)) → V (num (nst ps) (stJ ps)) = sm (fun k => X k * c k) (List.range (jnt (nst ps)).length)) ∧ (∀ t, sz (X t) ≤ M) ∧ f_choice_visits [.tup (ps.map encPc), chD ps ch, encQ b] = some (.tup (((pairsT ps ps.length).map (visQ ps ch X)).map encQ)) := by
  have hg := sc_gms hs
  obtain ⟨X, h1, h2, h3⟩ := joint_visits_spec hg hs.sm hb hN6 hN0 hM1 hmx hc (stJ_ok hs.ok)
  refine ⟨X, h1, h2, ?_⟩
  have hjs := joint_states_spec (fun p hp => ⟨(hg.g p hp).ok.l1, hg.n5 p hp⟩) hg.l5
  have hun := joint_unk hg.ne
  have hpr := pairs_of_spec hs
  have hpl := pairsT_len hs ps.length (Nat.le_refl _)
  have hl3 := hs.len
  have hlen : ((jnt (nst ps)).map encJ).length = (jnt (nst ps)).length := by simp
  have hnn : ((jnt (nst ps)).length : Int) < 4611686018427387904 := by omega
  have lp1 : lcLoop [12, 9] (gsTup 2 (gsCons (gsName 12) (gsCons (gsName 9) gsNil))) mYes e1_choice_visits (ps.map encPc) [] [.has (.fz (.tup (ps.map encPc))), .has (.fz (chD ps ch)), .has (.fz (encQ b)), .un, .un, .un, .un, .un, .un, .un, .un, .un, .un] =
      some ((ps.map gmE).map O.fz, [.has (.fz (.tup (ps.map encPc))), .has (.fz (chD ps ch)), .has (.fz (encQ b)), .un, .un, .un, .un, .un, .un, .un, .un, .un, .un]) := by
    rw [lc_mapx encPc (fun p => O.fz (gmE p)) ps [] (by rfl) (by rw [e_sizeLine]; simp only [List.length_nil]; omega) fun p _ => ?_]
    · rw [List.nil_append, List.map_map]; rfl
    have e : encPc p = .tup [gmE p, .int (p.s : Int)] := rfl
    rw [e]
    generalize gmE p = g
    generalize ps.map encPc = PS
    generalize chD ps ch = CS
    generalize encQ b = B
    refine ⟨[.has (.fz (.tup PS)), .has (.fz CS), .has (.fz B), .un, .un, .un, .un, .un, .un, .has (.fz (.int (p.s : Int))), .un, .un, .has (.fz g)], [.has (.fz (.tup PS)), .has (.fz CS), .has (.fz B), .un, .un, .un, .un, .un, .un, .has (.fz (.int (p.s : Int))), .un, .un, .has (.fz g)], ?_, ?_, ?_⟩
    · simp -implicitDefEqProofs [wipeE]
    · simp -implicitDefEqProofs [e1_choice_visits]
    · simp -implicitDefEqProofs [backE]
  have lp2 : ∀ G : D, lcLoop [12, 9] (gsTup 2 (gsCons (gsName 12) (gsCons (gsName 9) gsNil))) mYes e2_choice_visits (ps.map encPc) [] [.has (.fz (.tup (ps.map encPc))), .has (.fz (chD ps ch)), .has (.fz (encQ b)), .has (.fz G), .un, .un, .un, .un, .un, .un, .un, .un, .un] =
      some (((stJ ps).map fun (n : Nat) => D.int (n : Int)).map O.fz, [.has (.fz (.tup (ps.map encPc))), .has (.fz (chD ps ch)), .has (.fz (encQ b)), .has (.fz G), .un, .un, .un, .un, .un, .un, .un, .un, .un]) := fun G => by
    rw [lc_mapx encPc (fun p => O.fz (.int (p.s : Int))) ps [] (by rfl) (by rw [e_sizeLine]; simp only [List.length_nil]; omega) fun p _ => ?_]
    · unfold stJ
      rw [List.nil_append, List.map_map, List.map_map]; rfl
    have e : encPc p = .tup [gmE p, .int (p.s : Int)] := rfl
    rw [e]
    generalize gmE p = g
    generalize ps.map encPc = PS
    generalize chD ps ch = CS
    generalize encQ b = B
    refine ⟨[.has (.fz (.tup PS)), .has (.fz CS), .has (.fz B), .has (.fz G), .un, .un, .un, .un, .un, .has (.fz (.int (p.s : Int))), .un, .un, .has (.fz g)], [.has (.fz (.tup PS)), .has (.fz CS), .has (.fz B), .has (.fz G), .un, .un, .un, .un, .un, .has (.fz (.int (p.s : Int))), .un, .un, .has (.fz g)], ?_, ?_, ?_⟩
    · simp -implicitDefEqProofs [wipeE]
    · simp -implicitDefEqProofs [e2_choice_visits]
    · simp -implicitDefEqProofs [backE]
  have hmem : ∀ q ∈ pairsT ps ps.length, q.1 < ps.length := fun q hq => (pairsT_of ps.length (Nat.le_refl _) q hq).choose_spec.2.2
  generalize pairsT ps ps.length = js at *
  obtain ⟨env', hf, i8, i9, i10, i11, rfl⟩ := for_inv (gs := gsTup 2 (gsCons (gsName 8) (gsCons (gsName 9) gsNil))) (mb := b2_choice_visits) (ds := js.map prE) (env := [.has (.fz (.tup (ps.map encPc))), .has (.fz (chD ps ch)), .has (.fz (encQ b)), .has (.fz (.tup (ps.map gmE))), .has (.fz (encJ (stJ ps))), .has (.fz (.lst ((List.range (jnt (nst ps)).length).map fun k => encQ (X k)))), .has (.fz (.tup ((jnt (nst ps)).map encJ))), .has (.ls []), .un, .un, .un, .un, .un])
    (fun i env => ∃ (i8 i9 i10 i11 : Sl), env = [.has (.fz (.tup (ps.map encPc))), .has (.fz (chD ps ch)), .has (.fz (encQ b)), .has (.fz (.tup (ps.map gmE))), .has (.fz (encJ (stJ ps))), .has (.fz (.lst ((List.range (jnt (nst ps)).length).map fun k => encQ (X k)))), .has (.fz (.tup ((jnt (nst ps)).map encJ))), .has (.ls ((((js.take i).map (visQ ps ch X)).map encQ).map .fz)), i8, i9, i10, i11, .un])
    ⟨.un, .un, .un, .un, rfl⟩ (by
      rintro i d env hd ⟨i8, i9, i10, i11, rfl⟩
      rw [List.getElem?_map] at hd
      obtain ⟨q, hq, rfl⟩ := Option.map_eq_some_iff.mp hd
      obtain ⟨hi, _⟩ := List.getElem?_eq_some_iff.mp hq
      obtain ⟨a11, hin⟩ := cv_body hs hc X hN6 q (hmem q (List.mem_of_getElem? hq)) (.has (.fz (.tup (ps.map encPc)))) (.has (.fz (encQ b))) (.has (.fz (.tup (ps.map gmE)))) (.has (.fz (encJ (stJ ps)))) .un i11 (.ls ((((js.take i).map (visQ ps ch X)).map encQ).map .fz))
      have vz := visQ_sz (ps := ps) (ch := ch) (q := q) h2
      have hm : (jnt (nst ps)).length * (M + 1) ≤ 6 * (M + 1) := Nat.mul_le_mul_right _ hN6
      have kt := total_spec (.lst (((visL ps ch q (jnt (nst ps)).length).map X).map encQ)) ((visL ps ch q (jnt (nst ps)).length).map X) (.inr rfl) (by omega)
      have kt2 : f_total [.lst (((visL ps ch q (jnt (nst ps)).length).map X).map encQ)] = some (encQ (visQ ps ch X q)) := kt
      clear kt
      have htk : js.take (i + 1) = js.take i ++ [q] := by rw [List.take_add_one, hq]; rfl
      have hlen2 : ((((js.take i).map (visQ ps ch X)).map encQ).map O.fz).length < 16777216 := by simp; omega
      have hap : ((((js.take i ++ [q]).map (visQ ps ch X)).map encQ).map O.fz) = ((((js.take i).map (visQ ps ch X)).map encQ).map O.fz) ++ [.fz (encQ (visQ ps ch X q))] := by simp
      have hfr := frz_ls (((visL ps ch q (jnt (nst ps)).length).map X).map encQ)
      refine ⟨_, _, rfl, .inl ?_, .has (.fz (.int (q.1 : Int))), .has (.fz (.int (q.2 : Int))), .has (.fz (.lst (((visL ps ch q (jnt (nst ps)).length).map X).map encQ))), a11, rfl⟩
      rw [htk, hap]
      clear vz hap htk h1
      generalize ((((js.take i).map (visQ ps ch X)).map encQ).map O.fz) = os at *
      generalize ((((visL ps ch q (jnt (nst ps)).length).map X).map encQ).map O.fz) = op at *
      generalize (((visL ps ch q (jnt (nst ps)).length).map X).map encQ) = pp at *
      generalize encQ (visQ ps ch X q) = v at *
      generalize chD ps ch = CS at *
      generalize ((List.range (jnt (nst ps)).length).map fun k => encQ (X k)) = XX at *
      generalize (jnt (nst ps)).map encJ = JJ at *
      generalize (jnt (nst ps)).length = m at *
      generalize ps.map encPc = PS at *
      generalize ps.map gmE = PG at *
      generalize encJ (stJ ps) = SJ at *
      generalize encQ b = B at *
      simp -implicitDefEqProofs [b2_choice_visits, mR1, hlen, hnn, hin, hfr, kt2, hlen2])
  rw [List.length_map, List.take_length] at hf
  have eg1 := e_gTupO (ds := ps.map gmE)
  have eg2 := e_gTupO (ds := (stJ ps).map fun (n : Nat) => D.int (n : Int))
  have eg3 := e_gTupO (ds := (js.map (visQ ps ch X)).map encQ)
  have eit : D.items (.tup (ps.map encPc)) = some (ps.map encPc) := rfl
  have eit2 : D.items (.tup (js.map prE)) = some (js.map prE) := rfl
  have ej : encJ (stJ ps) = .tup ((stJ ps).map fun (n : Nat) => D.int (n : Int)) := rfl
  rw [ej] at hf h3
  refine (run_eq (by rfl)).trans ?_
  clear h1
  generalize ((js.map (visQ ps ch X)).map encQ).map O.fz = oV at *
  generalize (js.map (visQ ps ch X)).map encQ = VV at *
  generalize js.map prE = JS at *
  generalize ((stJ ps).map fun (n : Nat) => D.int (n : Int)).map O.fz = oS at *
  generalize ((stJ ps).map fun (n : Nat) => D.int (n : Int)) = SS at *
  generalize ((List.range (jnt (nst ps)).length).map fun k => encQ (X k)) = XX at *
  generalize (jnt (nst ps)).map rowD = RD at *
  generalize (jnt (nst ps)).map encJ = JJ at *
  generalize chD ps ch = CS at *
  generalize (ps.map gmE).map O.fz = oG at *
  generalize ps.map gmE = PG at *
  generalize ps.map encPc = PS at *
  generalize encQ b = B at *
  simp -implicitDefEqProofs [m_choice_visits, startE, eit, lp1, eg1, lp2, eg2, h3, hjs, hun, hpr, eit2, hf, eg3]
end Lw
set_option Elab.async false
set_option linter.all false
set_option maxRecDepth 100000
set_option maxHeartbeats 1000000
namespace Lw
open PySem L2 Q
theorem smq_append {α : Type} (f : α → Rat) : ∀ xs ys : List α, sm f (xs ++ ys) = sm f xs + sm f ys
  | [], ys => by show sm f ys = 0 + sm f ys; rw [Rat.zero_add]
  | x :: xs, ys => by
    show f x + sm f (xs ++ ys) = f x + sm f xs + sm f ys
    rw [smq_append f xs ys]; grind
def rwP (ps : List Plc) (q : Nat × Nat) : Rat := match ps[q.1]? with
  | some p => rwA p.rs q.2
  | none => 0
theorem rwP_at {ps : List Plc} {p : Plc} {i : Nat} (h : ps[i]? = some p) (s : Nat) : rwP ps (i, s) = rwA p.rs s := by
  unfold rwP; dsimp only; rw [h]
theorem visits_gain_spec {ps : List Plc} (hs : ScOk ps) (v : Nat × Nat → Rat) {K : Nat} (hK : K ≤ 10000000) (hv : ∀ q, sz (v q) ≤ K) :
    f_visits_gain [.tup (ps.map encPc), .tup (((pairsT ps ps.length).map v).map encQ)] = some (encQ (sumQ 0 ((pairsT ps ps.length).map fun q => v q * rwP ps q))) ∧ szs ((pairsT ps ps.length).map fun q => v q * rwP ps q) ≤ 9 * (K + 200) := by
  have hpr := pairs_of_spec hs
  have hpl := pairsT_len hs ps.length (Nat.le_refl _)
  have hl3 := hs.len
  have hmem := pairsT_of ps.length (Nat.le_refl _)
  generalize pairsT ps ps.length = js at *
  have hrz : ∀ q ∈ js, sz (rwP ps q) ≤ 110 := fun q hq => by
    obtain ⟨p, hp, hn, _⟩ := hmem q hq
    have pk := hs.ok p (List.mem_of_getElem? hp)
    have hsm := hs.sm p (List.mem_of_getElem? hp)
    have e := rwP_at hp q.2
    have e : rwP ps q = rwA p.rs q.2 := e
    rw [e]
    exact sz_le ((hsm _ (rwA_mem (by rw [pk.g.ok.l1]; exact hn))).mono (by decide) (by decide))
  have hmz : ∀ q ∈ js, sz (v q * rwP ps q) ≤ K + 150 := fun q hq => by
    have h1 := sz_mul (v q) (rwP ps q)
    have h2 := hrz q hq
    have h3 := hv q
    omega
  have hszs : szs (js.map fun q => v q * rwP ps q) ≤ 9 * (K + 200) := by
    have h1 := szs_le (qs := js.map fun q => v q * rwP ps q) (k := K + 150) (fun x hx => by
      obtain ⟨q, hq, rfl⟩ := List.mem_map.mp hx
      exact hmz q hq)
    rw [List.length_map] at h1
    have h2 : js.length * (K + 150 + 1) ≤ 9 * (K + 150 + 1) := Nat.mul_le_mul_right _ (by omega)
    omega
  refine ⟨?_, hszs⟩
  have hnn : (js.length : Int) < 4611686018427387904 := by omega
  obtain ⟨env', hf, i4, i5, i6, rfl⟩ := for_inv (gs := gsName 4) (mb := b1_visits_gain) (ds := rangeD 0 js.length) (env := [.has (.fz (.tup (ps.map encPc))), .has (.fz (.tup ((js.map v).map encQ))), .has (.fz (.tup (js.map prE))), .has (.ls []), .un, .un, .un])
    (fun i env => ∃ (i4 i5 i6 : Sl), env = [.has (.fz (.tup (ps.map encPc))), .has (.fz (.tup ((js.map v).map encQ))), .has (.fz (.tup (js.map prE))), .has (.ls ((((js.take i).map fun q => v q * rwP ps q).map encQ).map .fz)), i4, i5, i6])
    ⟨.un, .un, .un, rfl⟩ (by
      rintro i d env hd ⟨i4, i5, i6, rfl⟩
      obtain ⟨hi, rfl⟩ := rangeD0_get hd
      have hq := List.getElem?_eq_getElem hi
      generalize js[i] = q at hq
      have hqm := List.mem_of_getElem? hq
      obtain ⟨p, hp, hn, hlt⟩ := hmem q hqm
      have pk := hs.ok p (List.mem_of_getElem? hp)
      have e1 := encPc_at hp
      have eG : encG p.rs p.rows = .tup [.tup (p.rs.map encQ), .tup (p.rows.map encR)] := rfl
      rw [eG] at e1
      have e2 : atI (js.map prE) (i : Int) = some (.tup [.int (q.1 : Int), .int (q.2 : Int)]) := by
        rw [atI_nat' (by simpa using hi), List.getElem?_map, hq]; rfl
      have e3 : atI ((js.map v).map encQ) (i : Int) = some (encQ (v q)) := by
        rw [atI_nat' (by simpa using hi), List.getElem?_map, List.getElem?_map, hq]; rfl
      have e4 := at_rw (rs := p.rs) (x := q.2) (by rw [pk.g.ok.l1]; exact hn)
      have er : rwP ps q = rwA p.rs q.2 := rwP_at hp q.2
      have hz := hrz q hqm
      have hv' := hv q
      rw [er] at hz
      have k1 := multiply_spec (a := v q) (b := rwA p.rs q.2) (by omega)
      have htk : js.take (i + 1) = js.take i ++ [q] := by rw [List.take_add_one, hq]; rfl
      have hap : ((((js.take i ++ [q]).map fun q => v q * rwP ps q).map encQ).map O.fz) = ((((js.take i).map fun q => v q * rwP ps q).map encQ).map O.fz) ++ [.fz (encQ (v q * rwA p.rs q.2))] := by simp [er]
      have hlen : ((((js.take i).map fun q => v q * rwP ps q).map encQ).map O.fz).length < 16777216 := by simp; omega
      refine ⟨_, _, rfl, .inl ?_, .has (.fz (.int (i : Int))), .has (.fz (.int (q.1 : Int))), .has (.fz (.int (q.2 : Int))), rfl⟩
      rw [htk, hap]
      clear hap htk
      generalize ((((js.take i).map fun q => v q * rwP ps q).map encQ).map O.fz) = os at *
      generalize encQ (v q * rwA p.rs q.2) = w at *
      generalize encQ (v q) = w1 at *
      generalize encQ (rwA p.rs q.2) = w2 at *
      generalize ((js.map v).map encQ) = VV at *
      generalize js.map prE = JS at *
      generalize p.rs.map encQ = RS at *
      generalize p.rows.map encR = RW at *
      generalize ps.map encPc = PS at *
      simp -implicitDefEqProofs [b1_visits_gain, e1, e2, e3, e4, k1, hlen])
  have hl : (rangeD 0 js.length).length = js.length := by simp [rangeD]
  rw [hl, List.take_length] at hf
  have hjl : (js.map prE).length = js.length := by simp
  have kt := total_spec (.lst ((js.map fun q => v q * rwP ps q).map encQ)) (js.map fun q => v q * rwP ps q) (.inr rfl) (by omega)
  have hfr := frz_ls ((js.map fun q => v q * rwP ps q).map encQ)
  refine (run_eq (by rfl)).trans ?_
  generalize (((js.map fun q => v q * rwP ps q).map encQ).map O.fz) = os at *
  generalize ((js.map fun q => v q * rwP ps q).map encQ) = oo at *
  generalize sumQ 0 (js.map fun q => v q * rwP ps q) = S at *
  generalize ((js.map v).map encQ) = VV at *
  generalize js.map prE = JS at *
  generalize ps.map encPc = PS at *
  simp -implicitDefEqProofs [m_visits_gain, startE, hpr, mR1, hjl, hnn, hf, hfr, kt]
theorem law_dot_spec (js : List (Nat × Nat)) (f g : Nat × Nat → Rat) {K : Nat} (hK : K ≤ 5000000) (hj : js.length ≤ 9) (hf : ∀ q ∈ js, sz (f q) ≤ K) (hg : ∀ q ∈ js, sz (g q) ≤ K) :
    f__law_dot [.lst ((js.map f).map encQ), .tup ((js.map g).map encQ)] = some (encQ (sm (fun q => f q * g q) js)) := by
  have hnn : (js.length : Int) < 4611686018427387904 := by omega
  obtain ⟨env', hfo, i3, A, rfl, eA, zA⟩ := for_inv (gs := gsName 3) (mb := b1__law_dot) (ds := rangeD 0 js.length) (env := [.has (.fz (.lst ((js.map f).map encQ))), .has (.fz (.tup ((js.map g).map encQ))), .has (.fz (encQ 0)), .un])
    (fun i env => ∃ (i3 : Sl) (A : Rat), env = [.has (.fz (.lst ((js.map f).map encQ))), .has (.fz (.tup ((js.map g).map encQ))), .has (.fz (encQ A)), i3] ∧ A = sm (fun q => f q * g q) (js.take i) ∧ sz A ≤ 1 + (2 * K + 5) * i)
    ⟨.un, 0, rfl, rfl, by rw [sz_zero]; omega⟩ (by
      rintro i d env hd ⟨i3, A, rfl, eA, zA⟩
      obtain ⟨hi, rfl⟩ := rangeD0_get hd
      have hq := List.getElem?_eq_getElem hi
      generalize js[i] = q at hq
      have hqm := List.mem_of_getElem? hq
      have e1 : atI ((js.map f).map encQ) (i : Int) = some (encQ (f q)) := by
        rw [atI_nat' (by simpa using hi), List.getElem?_map, List.getElem?_map, hq]; rfl
      have e2 : atI ((js.map g).map encQ) (i : Int) = some (encQ (g q)) := by
        rw [atI_nat' (by simpa using hi), List.getElem?_map, List.getElem?_map, hq]; rfl
      have z1 := hf q hqm
      have z2 := hg q hqm
      have m1 := sz_mul (f q) (g q)
      have a1 := sz_add A (f q * g q)
      have hAz : (2 * K + 5) * i ≤ (2 * K + 5) * 9 := Nat.mul_le_mul_left _ (by omega)
      have k1 := law_mul_spec (a := f q) (b := g q) (by omega)
      have k2 := law_add_spec (a := A) (b := f q * g q) (by omega)
      have htk : js.take (i + 1) = js.take i ++ [q] := by rw [List.take_add_one, hq]; rfl
      refine ⟨_, _, rfl, .inl ?_, .has (.fz (.int (i : Int))), A + f q * g q, rfl, ?_, ?_⟩
      · generalize encQ (A + f q * g q) = v1 at *
        generalize encQ (f q * g q) = v2 at *
        generalize encQ (f q) = v3 at *
        generalize encQ (g q) = v4 at *
        generalize encQ A = v5 at *
        generalize ((js.map f).map encQ) = FF at *
        generalize ((js.map g).map encQ) = GG at *
        simp -implicitDefEqProofs [b1__law_dot, e1, e2, k1, k2]
      · rw [htk, smq_append, ← eA]
        show _ = A + (f q * g q + 0)
        grind
      · have : (2 * K + 5) * (i + 1) = (2 * K + 5) * i + (2 * K + 5) := by rw [Nat.mul_add, Nat.mul_one]
        omega)
  have hl : (rangeD 0 js.length).length = js.length := by simp [rangeD]
  rw [hl] at eA
  rw [List.take_length] at eA
  have z0 : D.tup [.int 0, .int 1] = encQ 0 := encQ_zero.symm
  have hgl : ((js.map g).map encQ).length = js.length := by simp
  rw [← eA]
  refine (run_eq (by rfl)).trans ?_
  generalize ((js.map f).map encQ) = FF at *
  generalize ((js.map g).map encQ) = GG at *
  generalize encQ A = v5 at *
  simp -implicitDefEqProofs [m__law_dot, startE, z0, mR1, hgl, hnn, hfo]
end Lw
set_option Elab.async false
set_option linter.all false
set_option maxRecDepth 100000
set_option maxHeartbeats 1000000
namespace Lw
open PySem L2 Q
def am (r : Nat → Nat) : Nat → Nat
  | 0 => 0
  | 1 => 0
  | k + 2 => if r (k + 1) < r (am r (k + 1)) then k + 1 else am r (k + 1)
theorem am_succ (r : Nat → Nat) {k : Nat} (h : 1 ≤ k) : am r (k + 1) = if r k < r (am r k) then k else am r k := by
  obtain ⟨m, rfl⟩ : ∃ m, k = m + 1 := ⟨k - 1, by omega⟩
  rfl
theorem am_lt (r : Nat → Nat) : ∀ k, 1 ≤ k → am r k < k
  | 0, h => by omega
  | 1, _ => Nat.zero_lt_one
  | k + 2, _ => by
    rw [am_succ r (by omega)]
    split
    · omega
    · have := am_lt r (k + 1) (by omega); omega
theorem am_le (r : Nat → Nat) : ∀ k, 1 ≤ k → ∀ i, i < k → r (am r k) ≤ r i ∧ (i < am r k → r (am r k) < r i)
  | 0, h => by omega
  | 1, _ => fun i hi => by
    have : i = 0 := by omega
    subst this
    exact ⟨Nat.le_refl _, fun h => absurd h (Nat.lt_irrefl _)⟩
  | k + 2, _ => fun i hi => by
    have ih := am_le r (k + 1) (by omega)
    have hl := am_lt r (k + 1) (by omega)
    rw [am_succ r (by omega)]
    split
    · rename_i c
      by_cases e : i = k + 1
      · subst e
        exact ⟨Nat.le_refl _, fun h => absurd h (Nat.lt_irrefl _)⟩
      · have := (ih i (by omega)).1
        exact ⟨by omega, fun _ => by omega⟩
    · rename_i c
      by_cases e : i = k + 1
      · subst e
        exact ⟨by omega, fun h => by omega⟩
      · exact ih i (by omega)
theorem am_congr {r r' : Nat → Nat} : ∀ k, (∀ i l, i < k → l < k → i ≠ l → (r i < r l ↔ r' i < r' l)) → am r k = am r' k
  | 0, _ => rfl
  | 1, _ => rfl
  | k + 2, h => by
    have ih := am_congr (r := r) (r' := r') (k + 1) fun i l hi hl => h i l (by omega) (by omega)
    have hl := am_lt r (k + 1) (by omega)
    rw [am_succ r (by omega), am_succ r' (by omega), ← ih]
    have := h (k + 1) (am r (k + 1)) (by omega) (by omega) (by omega)
    by_cases c : r (k + 1) < r (am r (k + 1))
    · rw [if_pos c, if_pos (this.mp c)]
    · rw [if_neg c, if_neg (fun q => c (this.mpr q))]
/-- the position that an order plays -/
def rkO (os : List (Nat × Nat)) (j : List Nat) (i : Nat) : Nat := os.idxOf (i, (j[i]?).getD 0)
def fol (os : List (Nat × Nat)) (j : List Nat) : Nat := am (rkO os j) j.length
theorem fol_lt {os : List (Nat × Nat)} {j : List Nat} (h : 1 ≤ j.length) : fol os j < j.length := am_lt _ _ h
def kP (p : Nat × Nat) : List Key := [.inl (p.1 : Int), .inl (p.2 : Int)]
theorem kP_inj {a b : Nat × Nat} (h : kP a = kP b) : a = b := by
  unfold kP at h
  injection h with h1 h2
  injection h2 with h2 _
  injection h1 with h1
  injection h2 with h2
  exact Prod.ext (by omega) (by omega)
theorem look_pr : ∀ (os : List (Nat × Nat)) (s : Nat) {p : Nat × Nat}, p ∈ os → lookT (os.map kP) ((List.range' s os.length).map fun (i : Nat) => D.int (i : Int)) (kP p) = some (.int ((s + os.idxOf p : Nat) : Int))
  | [], _, p, h => by simp at h
  | a :: os, s, p, h => by
    rw [List.length_cons, List.range'_succ, List.map_cons, List.map_cons]
    show (if kP a = kP p then some (D.int (s : Int)) else lookT (os.map kP) _ (kP p)) = _
    by_cases e : a = p
    · subst e
      rw [if_pos rfl, List.idxOf_cons_self]; rfl
    · rw [if_neg (fun h => e (kP_inj h)), look_pr os (s + 1) (by
        rcases List.mem_cons.mp h with q | q
        · exact absurd q.symm e
        · exact q), List.idxOf_cons, show (a == p) = false from by simpa using e]
      show some (D.int ((s + 1 + os.idxOf p : Nat) : Int)) = some (D.int ((s + (os.idxOf p + 1) : Nat) : Int))
      rw [show s + 1 + os.idxOf p = s + (os.idxOf p + 1) by omega]
theorem ix_rank {os : List (Nat × Nat)} {a c : Nat} (h : (a, c) ∈ os) : oDIxT (.ot (os.map kP) ((List.range os.length).map fun (i : Nat) => D.int (i : Int))) (.fz (.tup [.int (a : Int), .int (c : Int)])) = some (.fz (.int (os.idxOf (a, c) : Nat))) := by
  have e := look_pr os 0 h
  rw [← List.range_eq_range', Nat.zero_add] at e
  unfold oDIxT
  show ((lookT (os.map kP) _ (kP (a, c))).map O.fz) = _
  rw [e]; rfl
theorem order_choices_spec {ps : List Plc} (hg : GmsOk ps) {os : List (Nat × Nat)} (nd : os.Nodup) (hall : ∀ i p s, ps[i]? = some p → s < p.n → (i, s) ∈ os) (hlen : os.length ≤ 100) :
    f_order_choices [.tup (ps.map gmE), .tup (os.map kE)] = some (chD ps (fol os)) := by
  have hjs := joint_states_spec (fun p hp => ⟨(hg.g p hp).ok.l1, hg.n5 p hp⟩) hg.l5
  have hun := joint_unk hg.ne
  have hN : (jnt (nst ps)).length ≤ 15625 := by
    have := nst_small hg.n5 hg.l5 ps.length
    rwa [List.take_length] at this
  obtain ⟨env1, hf1, t3, rfl⟩ := for_inv (gs := gsName 3) (mb := b1_order_choices) (ds := rangeD 0 os.length) (env := [.has (.fz (.tup (ps.map gmE))), .has (.fz (.tup (os.map kE))), .has (.ot [] []), .un, .un, .un, .un, .un])
    (fun k env => ∃ t3, env = [.has (.fz (.tup (ps.map gmE))), .has (.fz (.tup (os.map kE))), .has (.ot ((os.take k).map kP) ((List.range k).map fun (i : Nat) => D.int (i : Int))), t3, .un, .un, .un, .un])
    ⟨.un, rfl⟩ (by
      rintro k d env hd ⟨t3, rfl⟩
      obtain ⟨hk, rfl⟩ := rangeD0_get hd
      have hq := List.getElem?_eq_getElem hk
      generalize hqe : os[k] = q at hq
      have htk : os.take (k + 1) = os.take k ++ [q] := by rw [List.take_add_one, hq]; rfl
      have e1 : atI (os.map kE) (k : Int) = some (.kt (kP q)) := by
        rw [atI_nat' (by simpa using hk), List.getElem?_map, hq]; rfl
      have hnot : kP q ∉ (os.take k).map kP := fun h => by
        obtain ⟨i, hi, e⟩ := List.mem_map.mp h
        have e := kP_inj e
        subst e
        have hd2 := nd
        rw [← List.take_append_drop k os, List.nodup_append] at hd2
        have hm : i ∈ os.drop k := by
          rw [List.drop_eq_getElem_cons hk, hqe]; simp
        exact hd2.2.2 i hi i hm rfl
      have hlk := lookT_notin (ds := (List.range k).map fun (i : Nat) => D.int (i : Int)) hnot
      have hl2 : ((os.take k).map kP).length = k := by rw [List.length_map, List.length_take]; omega
      refine ⟨_, _, rfl, .inl ?_, .has (.fz (.int (k : Int))), rfl⟩
      rw [htk, List.map_append, List.range_succ, List.map_append, List.map_cons, List.map_nil, List.map_cons, List.map_nil]
      generalize (List.range k).map (fun (i : Nat) => D.int (i : Int)) = vs at *
      generalize (os.take k).map kP = kk at *
      generalize kP q = kj at *
      generalize os.map kE = OS at *
      generalize ps.map gmE = PG at *
      have hz : kk.length < sizeLine := by rw [e_sizeLine]; omega
      simp only [b1_order_choices, e_sDSetT]
      have hz2 : kk.length < 16777216 := by omega
      simp -implicitDefEqProofs [dtAt, e1, O.keyX, D.keyX, hz, hz2, hlk])
  have hl : (rangeD 0 os.length).length = os.length := by simp [rangeD]
  rw [hl, List.take_length] at hf1
  have inner : ∀ (j : List Nat) (hj : JOk (nst ps) j) (s3 s4 t7 : Sl), ∃ u7, forL (gsName 7) b2_order_choices (rangeD 1 (j.length - 1)) [.has (.fz (.tup (ps.map gmE))), .has (.fz (.tup (os.map kE))), .has (.ot (os.map kP) ((List.range os.length).map fun (i : Nat) => D.int (i : Int))), s3, s4, .has (.fz (encJ j)), .has (.fz (.int 0)), t7] =
      some (.nx [.has (.fz (.tup (ps.map gmE))), .has (.fz (.tup (os.map kE))), .has (.ot (os.map kP) ((List.range os.length).map fun (i : Nat) => D.int (i : Int))), s3, s4, .has (.fz (encJ j)), .has (.fz (.int (fol os j : Nat))), u7]) := fun j hj s3 s4 t7 => by
    have hjl : j.length = ps.length := by have := hj.len; unfold nst at this; rw [List.length_map] at this; exact this
    have h1 : 1 ≤ j.length := by rw [hjl]; exact List.length_pos_iff.mpr hg.ne
    have hmem : ∀ i, i < j.length → ∃ s, j[i]? = some s ∧ (i, s) ∈ os := fun i hi => by
      have hp := List.getElem?_eq_getElem (show i < ps.length by omega)
      obtain ⟨s, hs, hsn⟩ := hj.at (nst_get hp)
      exact ⟨s, hs, hall i _ s hp hsn⟩
    obtain ⟨env', hf, u7, rfl⟩ := for_inv (gs := gsName 7) (mb := b2_order_choices) (ds := rangeD 1 (j.length - 1)) (env := [.has (.fz (.tup (ps.map gmE))), .has (.fz (.tup (os.map kE))), .has (.ot (os.map kP) ((List.range os.length).map fun (i : Nat) => D.int (i : Int))), s3, s4, .has (.fz (encJ j)), .has (.fz (.int 0)), t7])
      (fun k env => ∃ u7, env = [.has (.fz (.tup (ps.map gmE))), .has (.fz (.tup (os.map kE))), .has (.ot (os.map kP) ((List.range os.length).map fun (i : Nat) => D.int (i : Int))), s3, s4, .has (.fz (encJ j)), .has (.fz (.int (am (rkO os j) (k + 1) : Nat))), u7])
      ⟨t7, rfl⟩ (by
        rintro k d env hd ⟨u7, rfl⟩
        obtain ⟨hk, rfl⟩ : k + 1 < j.length ∧ d = .int ((k + 1 : Nat) : Int) := by
          unfold rangeD at hd
          rw [List.getElem?_map] at hd
          obtain ⟨z, hz, rfl⟩ := Option.map_eq_some_iff.mp hd
          obtain ⟨h2, h3⟩ := List.getElem?_eq_some_iff.mp hz
          rw [List.getElem_range] at h3
          have h2 : k < j.length - 1 := by simpa using h2
          exact ⟨by omega, congrArg D.int (by omega)⟩
        obtain ⟨s, hs, hm1⟩ := hmem (k + 1) hk
        have hal := am_lt (rkO os j) (k + 1) (by omega)
        obtain ⟨s2, hs2, hm2⟩ := hmem (am (rkO os j) (k + 1)) (by omega)
        have a1 : atI (j.map fun (n : Nat) => D.int (n : Int)) ((k + 1 : Nat) : Int) = some (.int (s : Int)) := by
          rw [atI_nat' (by rw [List.length_map]; omega), List.getElem?_map, hs]; rfl
        have a2 : atI (j.map fun (n : Nat) => D.int (n : Int)) (am (rkO os j) (k + 1) : Int) = some (.int (s2 : Int)) := by
          rw [atI_nat' (by rw [List.length_map]; omega), List.getElem?_map, hs2]; rfl
        have i1 := ix_rank hm1
        have i2 := ix_rank hm2
        have r1 : rkO os j (k + 1) = os.idxOf (k + 1, s) := by unfold rkO; rw [hs]; rfl
        have r2 : rkO os j (am (rkO os j) (k + 1)) = os.idxOf (am (rkO os j) (k + 1), s2) := by
          show os.idxOf (am (rkO os j) (k + 1), (j[am (rkO os j) (k + 1)]?).getD 0) = _
          rw [hs2]; rfl
        have ea := am_succ (rkO os j) (k := k + 1) (by omega)
        rw [r1, r2] at ea
        refine ⟨_, _, rfl, .inl ?_, .has (.fz (.int ((k + 1 : Nat) : Int))), rfl⟩
        rw [ea]
        clear r1 r2 ea
        have eju : encJ j = .tup (j.map fun (n : Nat) => D.int (n : Int)) := rfl
        rw [eju]
        generalize am (rkO os j) (k + 1) = A at *
        generalize ((List.range os.length).map fun (i : Nat) => D.int (i : Int)) = VS at *
        generalize os.map kP = KS at *
        generalize os.map kE = OS at *
        generalize ps.map gmE = PG at *
        generalize (j.map fun (n : Nat) => D.int (n : Int)) = jd at *
        generalize os.idxOf (k + 1, s) = x1 at *
        generalize os.idxOf (A, s2) = x2 at *
        generalize k + 1 = k1 at *
        by_cases c : x1 < x2
        · have ci : (x1 : Int) < (x2 : Int) := by omega
          rw [if_pos c]
          simp -implicitDefEqProofs [b2_order_choices, a1, a2, i1, i2, c, ci]
        · have ci : ¬ (x1 : Int) < (x2 : Int) := by omega
          rw [if_neg c]
          simp -implicitDefEqProofs [b2_order_choices, a1, a2, i1, i2, c, ci])
    have hl : (rangeD 1 (j.length - 1)).length + 1 = j.length := by
      have : (rangeD 1 (j.length - 1)).length = j.length - 1 := by simp [rangeD]
      omega
    rw [hl] at hf
    exact ⟨u7, hf⟩
  obtain ⟨env2, hf2, t5, t6, t7, rfl⟩ := for_inv (gs := gsName 5) (mb := b3_order_choices) (ds := (jnt (nst ps)).map encJ) (env := [.has (.fz (.tup (ps.map gmE))), .has (.fz (.tup (os.map kE))), .has (.ot (os.map kP) ((List.range os.length).map fun (i : Nat) => D.int (i : Int))), t3, .has (.ls []), .un, .un, .un])
    (fun k env => ∃ t5 t6 t7, env = [.has (.fz (.tup (ps.map gmE))), .has (.fz (.tup (os.map kE))), .has (.ot (os.map kP) ((List.range os.length).map fun (i : Nat) => D.int (i : Int))), t3, .has (.ls ((((jnt (nst ps)).take k).map fun j => D.int (fol os j : Int)).map .fz)), t5, t6, t7])
    ⟨.un, .un, .un, rfl⟩ (by
      rintro k d env hd ⟨t5, t6, t7, rfl⟩
      rw [List.getElem?_map] at hd
      obtain ⟨j, hj, rfl⟩ := Option.map_eq_some_iff.mp hd
      have hjo := (mem_jnt _ j).mp (List.mem_of_getElem? hj)
      have hkl := (List.getElem?_eq_some_iff.mp hj).1
      have hjl : j.length = ps.length := by have := hjo.len; unfold nst at this; rw [List.length_map] at this; exact this
      have hl5 := hg.l5
      obtain ⟨u7, hin⟩ := inner j hjo t3 (.has (.ls ((((jnt (nst ps)).take k).map fun j => D.int (fol os j : Int)).map .fz))) t7
      have htk : (jnt (nst ps)).take (k + 1) = (jnt (nst ps)).take k ++ [j] := by rw [List.take_add_one, hj]; rfl
      have hap : ((((jnt (nst ps)).take k ++ [j]).map fun j => D.int (fol os j : Int)).map O.fz) = ((((jnt (nst ps)).take k).map fun j => D.int (fol os j : Int)).map O.fz) ++ [.fz (.int (fol os j : Int))] := by simp
      have hlen2 : ((((jnt (nst ps)).take k).map fun j => D.int (fol os j : Int)).map O.fz).length < 16777216 := by simp; omega
      refine ⟨_, _, rfl, .inl ?_, .has (.fz (encJ j)), .has (.fz (.int (fol os j : Int))), u7, rfl⟩
      rw [htk, hap]
      clear inner hap htk
      have hjn : (j.map fun (n : Nat) => D.int (n : Int)).length = j.length := by simp
      have hnn : (j.length : Int) < 4611686018427387904 := by omega
      have eju : encJ j = .tup (j.map fun (n : Nat) => D.int (n : Int)) := rfl
      rw [eju] at hin ⊢
      generalize ((((jnt (nst ps)).take k).map fun j => D.int (fol os j : Int)).map O.fz) = oo at *
      generalize ((List.range os.length).map fun (i : Nat) => D.int (i : Int)) = VS at *
      generalize os.map kP = KS at *
      generalize os.map kE = OS at *
      generalize ps.map gmE = PG at *
      generalize fol os j = fj at *
      generalize (j.map fun (n : Nat) => D.int (n : Int)) = jd at *
      simp -implicitDefEqProofs [b3_order_choices, mR2, hjn, hnn, hin, hlen2])
  rw [List.length_map, List.take_length] at hf2
  have hol : (os.map kE).length = os.length := by simp
  have hnn : (os.length : Int) < 4611686018427387904 := by omega
  have eg := e_gTupO (ds := (jnt (nst ps)).map fun j => D.int (fol os j : Int))
  have eit : D.items (.tup ((jnt (nst ps)).map encJ)) = some ((jnt (nst ps)).map encJ) := rfl
  refine (run_eq (by rfl)).trans ?_
  clear inner
  unfold chD
  generalize ((jnt (nst ps)).map fun j => D.int (fol os j : Int)).map O.fz = oo at *
  generalize ((jnt (nst ps)).map fun j => D.int (fol os j : Int)) = RR at *
  generalize (jnt (nst ps)).map rowD = RD at *
  generalize (jnt (nst ps)).map encJ = JJ at *
  generalize ((List.range os.length).map fun (i : Nat) => D.int (i : Int)) = VS at *
  generalize os.map kP = KS at *
  generalize os.map kE = OS at *
  generalize ps.map gmE = PG at *
  simp -implicitDefEqProofs [m_order_choices, startE, mR1, hol, hnn, hf1, hjs, hun, eit, hf2, eg]
end Lw
set_option Elab.async false
set_option linter.all false
set_option maxRecDepth 100000
set_option maxHeartbeats 1000000
namespace Lw
open PySem L2 Q
theorem order_visits_spec {ps : List Plc} (hs : ScOk ps) {b : Rat} {os : List (Nat × Nat)} (nd : os.Nodup) (hall : ∀ i p s, ps[i]? = some p → s < p.n → (i, s) ∈ os) (hlen : os.length ≤ 100) {R : D} (hR : f_choice_visits [.tup (ps.map encPc), chD ps (fol os), encQ b] = some R) :
    f_order_visits [.tup (ps.map encPc), .tup (os.map kE), encQ b] = some R := by
  have hl3 := hs.len
  have hoc := order_choices_spec (sc_gms hs) nd hall hlen
  have lp1 : lcLoop [4, 5] (gsTup 2 (gsCons (gsName 4) (gsCons (gsName 5) gsNil))) mYes e1_order_visits (ps.map encPc) [] [.has (.fz (.tup (ps.map encPc))), .has (.fz (.tup (os.map kE))), .has (.fz (encQ b)), .un, .un, .un] =
      some ((ps.map gmE).map O.fz, [.has (.fz (.tup (ps.map encPc))), .has (.fz (.tup (os.map kE))), .has (.fz (encQ b)), .un, .un, .un]) := by
    rw [lc_mapx encPc (fun p => O.fz (gmE p)) ps [] (by rfl) (by rw [e_sizeLine]; simp only [List.length_nil]; omega) fun p _ => ?_]
    · rw [List.nil_append, List.map_map]; rfl
    have e : encPc p = .tup [gmE p, .int (p.s : Int)] := rfl
    rw [e]
    generalize gmE p = g
    generalize ps.map encPc = PS
    generalize os.map kE = OS
    generalize encQ b = B
    refine ⟨[.has (.fz (.tup PS)), .has (.fz (.tup OS)), .has (.fz B), .un, .has (.fz g), .has (.fz (.int (p.s : Int)))], [.has (.fz (.tup PS)), .has (.fz (.tup OS)), .has (.fz B), .un, .has (.fz g), .has (.fz (.int (p.s : Int)))], ?_, ?_, ?_⟩
    · simp -implicitDefEqProofs [wipeE]
    · simp -implicitDefEqProofs [e1_order_visits]
    · simp -implicitDefEqProofs [backE]
  have eg1 := e_gTupO (ds := ps.map gmE)
  have eit : D.items (.tup (ps.map encPc)) = some (ps.map encPc) := rfl
  refine (run_eq (by rfl)).trans ?_
  generalize chD ps (fol os) = CS at *
  generalize (ps.map gmE).map O.fz = oG at *
  generalize ps.map gmE = PG at *
  generalize ps.map encPc = PS at *
  generalize os.map kE = OS at *
  generalize encQ b = B at *
  simp -implicitDefEqProofs [m_order_visits, startE, eit, lp1, eg1, hoc, hR]
theorem perm_erase {α : Type} : ∀ (xs : List α) (i : Nat) (x : α), xs[i]? = some x → List.Perm (x :: xs.eraseIdx i) xs
  | [], i, x, h => by simp at h
  | a :: xs, 0, x, h => by
    have h : a = x := by simpa using h
    subst h
    exact List.Perm.refl _
  | a :: xs, i + 1, x, h => by
    have h : xs[i]? = some x := by simpa using h
    have := perm_erase xs i x h
    exact (List.Perm.swap a x _).trans (this.cons a)
theorem erase_map {α β : Type} (f : α → β) : ∀ (xs : List α) (i : Nat), (xs.map f).eraseIdx i = (xs.eraseIdx i).map f
  | [], i => rfl
  | a :: xs, 0 => rfl
  | a :: xs, i + 1 => congrArg (f a :: ·) (erase_map f xs i)
theorem law_order_spec (js : List (Nat × Nat)) (hj : js.length ≤ 100) (z : Int) : ∃ os : List (Nat × Nat), f__law_order [.int z, .lst (js.map kE)] = some (.xt (os.map kE)) ∧ List.Perm os js := by
  obtain ⟨ds, h1, h2, h3⟩ := law_draws_spec z js.length (by omega)
  have hnn : (js.length : Int) < 4611686018427387904 := by omega
  obtain ⟨env', hf, t5, done, rest, rfl, hd1, hd2, hp⟩ := for_inv (gs := gsName 5) (mb := b1__law_order) (ds := rangeD 0 js.length) (env := [.has (.fz (.int z)), .has (.fz (.lst (js.map kE))), .has (.fz (.lst (ds.map D.int))), .has (.ls ((js.map kE).map .fz)), .has (.ls []), .un])
    (fun k env => ∃ (t5 : Sl) (done rest : List (Nat × Nat)), env = [.has (.fz (.int z)), .has (.fz (.lst (js.map kE))), .has (.fz (.lst (ds.map D.int))), .has (.ls ((rest.map kE).map .fz)), .has (.ls ((done.map kE).map .fz)), t5] ∧ done.length = k ∧ rest.length = js.length - k ∧ List.Perm (done ++ rest) js)
    ⟨.un, [], js, rfl, rfl, by simp, List.Perm.refl _⟩ (by
      rintro k d env hd ⟨t5, done, rest, rfl, hd1, hd2, hp⟩
      obtain ⟨hk, rfl⟩ := rangeD0_get hd
      have hdk : k < ds.length := by omega
      have a1 : atI (ds.map D.int) (k : Int) = some (.int ds[k]) := by
        rw [atI_nat' (by simpa using hdk), List.getElem?_map, List.getElem?_eq_getElem hdk]; rfl
      generalize ds[k] = w at a1
      have b1 := Int.fmod_nonneg_of_pos w (b := (rest.length : Int)) (by omega)
      have b2 := Int.fmod_lt_of_pos w (b := (rest.length : Int)) (by omega)
      obtain ⟨r, hr⟩ : ∃ r : Nat, w.fmod (rest.length : Int) = (r : Int) := ⟨(w.fmod (rest.length : Int)).toNat, by omega⟩
      have hrl : r < rest.length := by omega
      have hq := List.getElem?_eq_getElem hrl
      generalize rest[r] = q at hq
      have a2 : (((rest.map kE).map O.fz))[r]? = some (.fz (kE q)) := by
        rw [List.getElem?_map, List.getElem?_map, hq]; rfl
      have a3 : ((rest.map kE).map O.fz).eraseIdx r = ((rest.eraseIdx r).map kE).map O.fz := by
        rw [erase_map, erase_map]
      have a4 : (((done ++ [q]).map kE).map O.fz) = ((done.map kE).map O.fz) ++ [.fz (kE q)] := by simp
      have a5 : ((rest.map kE).map O.fz).length = rest.length := by simp
      have a6 : ((done.map kE).map O.fz).length < 16777216 := by simp; omega
      have hpe : List.Perm (done ++ [q] ++ rest.eraseIdx r) js := by
        refine List.Perm.trans ?_ hp
        rw [List.append_assoc]
        exact List.Perm.append_left done (perm_erase rest r q hq)
      refine ⟨_, _, rfl, .inl ?_, .has (.fz (.int (k : Int))), done ++ [q], rest.eraseIdx r, rfl, by simp [hd1], by rw [List.length_eraseIdx, if_pos hrl]; omega, hpe⟩
      rw [a4, ← a3]
      have hr0 : (0 : Int) ≤ (r : Int) := by omega
      have hr1 : (r : Int) < 9223372036854775808 := by omega
      have hni : ¬ ((rest.length : Int) = 0) := by omega
      have hnn' : ¬ (rest.length = 0) := by omega
      have hnl : ¬ rest = [] := fun e => hnn' (by rw [e]; rfl)
      clear hpe hp a3 a4
      generalize ((rest.map kE).map O.fz) = oR at *
      generalize ((done.map kE).map O.fz) = oD at *
      have hnn2 : ¬ (oR.length = 0) := by omega
      have hnl2 : ¬ oR = [] := fun e => hnn2 (by rw [e]; rfl)
      generalize js.map kE = JS at *
      generalize ds.map D.int = DS at *
      generalize kE q = kq at *
      simp -implicitDefEqProofs [b1__law_order, lsAt, a1, a5, hni, hnn', hnl, hnn2, hnl2, hr, hr0, hr1, a2, a6])
  have hl : (rangeD 0 js.length).length = js.length := by simp [rangeD]
  rw [hl] at hd1 hd2
  have hre : rest = [] := List.length_eq_zero_iff.mp (by omega)
  subst hre
  rw [List.append_nil] at hp
  refine ⟨done, ?_, hp⟩
  have hjl : (js.map kE).length = js.length := by simp
  have eg := e_gTupX (ds := done.map kE)
  have egl : gList [.fz (.lst (js.map kE))] = some (.ls ((js.map kE).map .fz)) := by simp
  refine (run_eq (by rfl)).trans ?_
  generalize (done.map kE).map O.fz = oD at *
  generalize done.map kE = DD at *
  generalize (js.map kE).map O.fz = oJ at *
  generalize js.map kE = JS at *
  generalize ds.map D.int = DS at *
  simp -implicitDefEqProofs [m__law_order, startE, hjl, h1, egl, mR1, hnn, hf, eg]
theorem natD_inj : ∀ a b : Nat, natD a = natD b → a = b := fun a b h => by
  unfold natD at h
  injection h with h
  omega
theorem natD_gd (a : Nat) : (natD a).gd = true := by simp -implicitDefEqProofs [natD, D.gd]
theorem natD_dep (a : Nat) : (natD a).dep ≤ 60 := by simp -implicitDefEqProofs [natD, D.dep]
theorem shapedT_map {α : Type} {f : α → D} (hg : ∀ a, (f a).gd = true) (hd : ∀ a, (f a).dep ≤ 60) (js : List α) {ps : List PyData} (h : D.pys (js.map f) = some ps) : SeqAt.shaped (.tuple ps) = true := by
  obtain ⟨p, h1, h2, h3⟩ := gd_py (.tup (js.map f)) (by rw [D.gd]; exact gds_mapF f hg js)
  rw [D.py, h] at h1
  cases h1
  have := deps_mapF f hd js
  rw [D.dep] at h3
  unfold SeqAt.shaped
  rw [h2]
  simp only [Bool.true_and, decide_eq_true_eq]
  omega
theorem idxT_map {α : Type} [DecidableEq α] [BEq α] [LawfulBEq α] {f : α → D} (inj : ∀ a b, f a = f b → a = b) (hg : ∀ a, (f a).gd = true) (hd : ∀ a, (f a).dep ≤ 60) {js : List α} {j : α} (h : j ∈ js) : oIdxT (.fz (.xt (js.map f))) (.fz (f j)) = some (.fz (.int (js.idxOf j : Nat))) := by
  obtain ⟨p, h1, h2⟩ := shaped_one hg hd j
  obtain ⟨ps, h3, h4⟩ := pys_map f hg js
  obtain ⟨i1, i2⟩ := find_map inj hg h1 js ps h3
  have hs := shapedT_map hg hd js h3
  have e1 : (O.fz (f j)).frz.py = some p := h1
  have e2 : (D.tup (js.map f)).py = some (.tuple ps) := by rw [D.py, h3]; rfl
  show ((O.fz (f j)).frz.py).bind _ = _
  rw [e1, Option.bind_some, e2]
  simp only
  rw [if_pos ⟨h2, hs, by rw [i1, h4]; exact List.idxOf_lt_length_iff.mpr h⟩, i1]
theorem idxOf_first : ∀ (L : List Nat) (k m : Nat), L[k]? = some m → (∀ i, i < k → L[i]? ≠ some m) → L.idxOf m = k
  | [], k, m, h, _ => by simp at h
  | a :: L, 0, m, h, _ => by
    have h : a = m := by simpa using h
    subst h
    exact List.idxOf_cons_self
  | a :: L, k + 1, m, h, h2 => by
    have h : L[k]? = some m := by simpa using h
    have ha : a ≠ m := fun e => h2 0 (by omega) (by simp [e])
    rw [List.idxOf_cons, show (a == m) = false from by simpa using ha]
    show L.idxOf m + 1 = k + 1
    rw [idxOf_first L k m h fun i hi => by
      have := h2 (i + 1) (by omega)
      simpa using this]
theorem min_spec (L : List Nat) (m : Nat) (hm : m ∈ L) (hle : ∀ x ∈ L, m ≤ x) : gMinL [.ls ((L.map natD).map O.fz)] = some (.fz (natD m)) ∧ oIdx (.ls ((L.map natD).map O.fz)) (.fz (natD m)) = some (.fz (.int (L.idxOf m : Nat))) := by
  have em : (L.map natD).mapM D.i? = some (L.map fun (n : Nat) => (n : Int)) := by
    clear hm hle
    induction L with
    | nil => rfl
    | cons a L ih =>
      rw [List.map_cons, List.mapM_cons, ih]; rfl
  have e1 : gMinL [.ls ((L.map natD).map O.fz)] = (lMin (L.map fun (n : Nat) => (n : Int))).map fun m => .fz (.int m) := by
    unfold gMinL gLI
    simp only [O.asL, Option.bind_some, mapM_fz, em]
  have hne : L ≠ [] := fun e => by rw [e] at hm; simp at hm
  obtain ⟨w, hw⟩ : ∃ w, lMin (L.map fun (n : Nat) => (n : Int)) = some w := by
    cases L with
    | nil => exact absurd rfl hne
    | cons a L => exact ⟨_, rfl⟩
  obtain ⟨w1, w2⟩ := lMin_ok hw
  obtain ⟨x, hx, ex⟩ := List.mem_map.mp w1
  have h1 := w2 (m : Int) (List.mem_map.mpr ⟨m, hm, rfl⟩)
  have h2 := hle x hx
  have hwm : w = (m : Int) := by omega
  refine ⟨by rw [e1, hw, hwm]; rfl, ?_⟩
  have e2 : oIdx (.ls ((L.map natD).map O.fz)) (.fz (natD m)) = oIdx (.fz (.lst (L.map natD))) (.fz (natD m)) := by
    unfold oIdx
    rw [frz_ls]; rfl
  rw [e2]
  exact idx_map natD_inj natD_gd natD_dep hm
theorem followed_spec {ps : List Plc} (hs : ScOk ps) {os : List (Nat × Nat)} (hall : ∀ i p s, ps[i]? = some p → s < p.n → (i, s) ∈ os) :
    f__law_followed [.tup (ps.map gmE), .xt (os.map prE)] = some (chD ps (fol os)) := by
  have hg := sc_gms hs
  have hl3 := hs.len
  have hjs := law_joints_spec (fun p hp => ⟨(hg.g p hp).ok.l1, hg.n5 p hp⟩) hg.l5
  have hN : (jnt (nst ps)).length ≤ 15625 := by
    have := nst_small hg.n5 hg.l5 ps.length
    rwa [List.take_length] at this
  obtain ⟨env2, hf2, t3, t4, rfl, h4⟩ := for_inv (gs := gsName 3) (mb := b1__law_followed) (ds := (jnt (nst ps)).map encJ) (env := [.has (.fz (.tup (ps.map gmE))), .has (.fz (.xt (os.map prE))), .has (.ls []), .un, .un, .un])
    (fun k env => ∃ t3 t4, env = [.has (.fz (.tup (ps.map gmE))), .has (.fz (.xt (os.map prE))), .has (.ls ((((jnt (nst ps)).take k).map fun j => D.int (fol os j : Int)).map .fz)), t3, t4, .un] ∧ True)
    ⟨.un, .un, rfl, trivial⟩ (by
      rintro k d env hd ⟨t3, t4, rfl, _⟩
      rw [List.getElem?_map] at hd
      obtain ⟨j, hj, rfl⟩ := Option.map_eq_some_iff.mp hd
      have hjo := (mem_jnt _ j).mp (List.mem_of_getElem? hj)
      have hkl := (List.getElem?_eq_some_iff.mp hj).1
      have hjl : j.length = ps.length := by have := hjo.len; unfold nst at this; rw [List.length_map] at this; exact this
      have hmem : ∀ i, i < ps.length → ∃ s, j[i]? = some s ∧ (i, s) ∈ os := fun i hi => by
        have hp := List.getElem?_eq_getElem hi
        obtain ⟨s, hs, hsn⟩ := hjo.at (nst_get hp)
        exact ⟨s, hs, hall i _ s hp hsn⟩
      have lp : lcLoop [5] (gsName 5) mYes e1__law_followed (rangeD 0 ps.length) [] [.has (.fz (.tup (ps.map gmE))), .has (.fz (.xt (os.map prE))), .has (.ls ((((jnt (nst ps)).take k).map fun j => D.int (fol os j : Int)).map .fz)), .has (.fz (encJ j)), t4, .un] =
          some ((((List.range ps.length).map (rkO os j)).map natD).map .fz, [.has (.fz (.tup (ps.map gmE))), .has (.fz (.xt (os.map prE))), .has (.ls ((((jnt (nst ps)).take k).map fun j => D.int (fol os j : Int)).map .fz)), .has (.fz (encJ j)), t4, .un]) := by
        have emm : (((List.range ps.length).map (rkO os j)).map natD).map O.fz = (List.range ps.length).map (fun i => O.fz (natD (rkO os j i))) := by rw [List.map_map, List.map_map]; rfl
        rw [emm, range0_map, lc_mapx (fun (k : Nat) => D.int (k : Int)) (fun i => O.fz (natD (rkO os j i))) (List.range ps.length) [] (by rfl) (by rw [e_sizeLine]; simp only [List.length_nil, List.length_range]; omega) fun i hi => ?_]
        · rw [List.nil_append]
        have hi := List.mem_range.mp hi
        obtain ⟨s, hs', hm⟩ := hmem i hi
        have a1 : atI (j.map fun (n : Nat) => D.int (n : Int)) (i : Int) = some (.int (s : Int)) := by
          rw [atI_nat' (by rw [List.length_map]; omega), List.getElem?_map, hs']; rfl
        have ix : oIdxT (.fz (.xt (os.map prE))) (.fz (.tup [.int (i : Int), .int (s : Int)])) = some (.fz (.int (os.idxOf (i, s) : Nat))) := idxT_map prE_inj prE_gd prE_dep hm
        have er : natD (rkO os j i) = .int (os.idxOf (i, s) : Nat) := by unfold rkO natD; rw [hs']; rfl
        rw [er]
        have eju : encJ j = .tup (j.map fun (n : Nat) => D.int (n : Int)) := rfl
        rw [eju]
        generalize ((((jnt (nst ps)).take k).map fun j => D.int (fol os j : Int)).map O.fz) = oo at *
        generalize os.idxOf (i, s) = x at *
        generalize os.map prE = OS at *
        generalize ps.map gmE = PG at *
        generalize (j.map fun (n : Nat) => D.int (n : Int)) = jd at *
        refine ⟨[.has (.fz (.tup PG)), .has (.fz (.xt OS)), .has (.ls oo), .has (.fz (.tup jd)), t4, .has (.fz (.int (i : Int)))], [.has (.fz (.tup PG)), .has (.fz (.xt OS)), .has (.ls oo), .has (.fz (.tup jd)), t4, .has (.fz (.int (i : Int)))], ?_, ?_, ?_⟩
        · simp -implicitDefEqProofs [wipeE]
        · simp -implicitDefEqProofs [e1__law_followed, a1, ix]
        · simp -implicitDefEqProofs [backE]
      have hal := am_lt (rkO os j) ps.length (by omega)
      have hle := am_le (rkO os j) ps.length (by omega)
      have gL : ∀ i, i < ps.length → ((List.range ps.length).map (rkO os j))[i]? = some (rkO os j i) := fun i hi => by
        rw [List.getElem?_map, List.getElem?_range hi]; rfl
      obtain ⟨g1, g2⟩ := min_spec ((List.range ps.length).map (rkO os j)) (rkO os j (am (rkO os j) ps.length)) (List.mem_of_getElem? (gL _ hal)) (fun x hx => by
        obtain ⟨i, hi, rfl⟩ := List.mem_map.mp hx
        exact (hle i (List.mem_range.mp hi)).1)
      rw [idxOf_first _ (am (rkO os j) ps.length) _ (gL _ hal) (fun i hi => by
        rw [gL i (by omega)]
        have := (hle i (by omega)).2 hi
        intro e
        have e := Option.some.inj e
        omega)] at g2
      have ef : fol os j = am (rkO os j) ps.length := by unfold fol; rw [hjl]
      have g2' : oIdx (.ls ((((List.range ps.length).map (rkO os j)).map natD).map O.fz)) (.fz (natD (rkO os j (am (rkO os j) ps.length)))) = some (.fz (.int (fol os j : Nat))) := by rw [ef]; exact g2
      clear g2
      have htk : (jnt (nst ps)).take (k + 1) = (jnt (nst ps)).take k ++ [j] := by rw [List.take_add_one, hj]; rfl
      have hap : ((((jnt (nst ps)).take k ++ [j]).map fun j => D.int (fol os j : Int)).map O.fz) = ((((jnt (nst ps)).take k).map fun j => D.int (fol os j : Int)).map O.fz) ++ [.fz (.int (fol os j : Int))] := by simp
      have hlen2 : ((((jnt (nst ps)).take k).map fun j => D.int (fol os j : Int)).map O.fz).length < 16777216 := by simp; omega
      refine ⟨_, _, rfl, .inl ?_, .has (.fz (encJ j)), .has (.ls ((((List.range ps.length).map (rkO os j)).map natD).map .fz)), rfl, trivial⟩
      rw [htk, hap]
      have hPl : (ps.map gmE).length = ps.length := by simp
      have hnn : (ps.length : Int) < 4611686018427387904 := by omega
      clear hap htk hle gL hmem ef
      generalize ((((jnt (nst ps)).take k).map fun j => D.int (fol os j : Int)).map O.fz) = oo at *
      generalize ((((List.range ps.length).map (rkO os j)).map natD).map O.fz) = oK at *
      generalize natD (rkO os j (am (rkO os j) ps.length)) = md at *
      generalize os.map prE = OS at *
      generalize ps.map gmE = PG at *
      generalize fol os j = fj at *
      generalize encJ j = ej at *
      simp -implicitDefEqProofs [b1__law_followed, hPl, mR1, hnn, lp, g1, g2', hlen2])
  rw [List.length_map, List.take_length] at hf2
  have eg := e_gTupO (ds := (jnt (nst ps)).map fun j => D.int (fol os j : Int))
  have eit : D.items (.lst ((jnt (nst ps)).map encJ)) = some ((jnt (nst ps)).map encJ) := rfl
  refine (run_eq (by rfl)).trans ?_
  unfold chD
  generalize ((jnt (nst ps)).map fun j => D.int (fol os j : Int)).map O.fz = oo at *
  generalize ((jnt (nst ps)).map fun j => D.int (fol os j : Int)) = RR at *
  generalize (jnt (nst ps)).map encJ = JJ at *
  generalize os.map prE = OS at *
  generalize ps.map gmE = PG at *
  simp -implicitDefEqProofs [m__law_followed, startE, hjs, eit, hf2, eg]
end Lw
set_option Elab.async false
set_option linter.all false
set_option maxRecDepth 100000
set_option maxHeartbeats 4000000
namespace Lw
open PySem L2 Q
structure Txt (K : PySem.W.Frag) (mg : Str → Option Value) : Prop where
  b_gcd : mg "gcd" = some (.builtin "math.gcd")
  b_zip : mg "zip" = none
  b_range : mg "range" = none
  b_len : mg "len" = none
  b_list : mg "list" = none
  b_int : mg "int" = none
  b_tuple : mg "tuple" = none
  b_abs : mg "abs" = none
  b_isinstance : mg "isinstance" = none
  b_bool : mg "bool" = none
  b_sum : mg "sum" = none
  b_min : mg "min" = none
  k_ZERO : CstOk K mg "ZERO" d_ZERO
  k_ONE : CstOk K mg "ONE" d_ONE
section
variable {P : Program} {w : World} {K : PySem.W.Frag} {mg : Str → Option Value} {base : Heap}
theorem sc_common_divisor : FnScope ["a", "b"] ["a", "b"] (defScope s_common_divisor) := ⟨rfl, rfl, rfl, by decide +kernel, rfl, by decide +kernel, by decide +kernel⟩
theorem ok_common_divisor {f : Addr} {fd : FuncData} (GR : Grd base P) (T : Txt K mg) (F : Fun K "common_divisor" "common_divisor" s_common_divisor f fd) (hm : mg "common_divisor" = some (.ref f)) (hb : Binds K fd ["a", "b"] []) : DefOk P w K mg base 41 "common_divisor" 2 f_common_divisor := by
  refine def_ok F sc_common_divisor hm hb (fun cdv A outer s H E hr => ?_)
  have nd := (sc_common_divisor).nd
  have hu64 := hr.units
  have sr := sr_def (outer := outer) GR hr (by first | decide | omega) rfl rfl
  exact qss_one (qs_ret (qe_callBfun c_gcd rfl T.b_gcd (qva_cons (qv_name 0) (qva_cons (qv_name 1) (qva_nil)))))
theorem sc_make_ratio : FnScope ["n", "d", "divisor"] ["n", "d"] (defScope s_make_ratio) := ⟨rfl, rfl, rfl, by decide +kernel, rfl, by decide +kernel, by decide +kernel⟩
theorem ok_make_ratio {f : Addr} {fd : FuncData} (GR : Grd base P) (T : Txt K mg) (F : Fun K "make_ratio" "make_ratio" s_make_ratio f fd) (hm : mg "make_ratio" = some (.ref f)) (hb : Binds K fd ["n", "d"] []) (G_common_divisor : DefOk P w K mg base 41 "common_divisor" 2 f_common_divisor) : DefOk P w K mg base 42 "make_ratio" 2 f_make_ratio := by
  refine def_ok F sc_make_ratio hm hb (fun cdv A outer s H E hr => ?_)
  have nd := (sc_make_ratio).nd
  have hu64 := hr.units
  have sr := sr_def (outer := outer) GR hr (by first | decide | omega) rfl rfl
  exact qss_cons (qs_if (qt_cmp (q_eq hu64) (qv_name 1) (qv_of_qe (qe_int)) (nomark _)) (qss_one (qs_never)) (qss_nil))
    (qss_cons (qs_set (i := 2) nd rfl (qe_call G_common_divisor (hr.mono (by decide)) (qa_cons (qe_name 0) (qa_cons (qe_name 1) (qa_nil)))))
    (qss_cons (qs_if (qt_cmp q_lt (qv_name 1) (qv_of_qe (qe_int)) (nomark _)) (qss_one (qs_set (i := 2) nd rfl (qe_neg (qv_name 2)))) (qss_nil))
    (qss_one (qs_ret (qe_tup (qa_cons (qe_bin (q_fdiv sr) (qv_name 0) (qv_name 2)) (qa_cons (qe_bin (q_fdiv sr) (qv_name 1) (qv_name 2)) (qa_nil))))))))
theorem sc_add : FnScope ["a", "b"] ["a", "b"] (defScope s_add) := ⟨rfl, rfl, rfl, by decide +kernel, rfl, by decide +kernel, by decide +kernel⟩
theorem ok_add {f : Addr} {fd : FuncData} (GR : Grd base P) (T : Txt K mg) (F : Fun K "add" "add" s_add f fd) (hm : mg "add" = some (.ref f)) (hb : Binds K fd ["a", "b"] []) (G_make_ratio : DefOk P w K mg base 42 "make_ratio" 2 f_make_ratio) : DefOk P w K mg base 43 "add" 2 f_add := by
  refine def_ok F sc_add hm hb (fun cdv A outer s H E hr => ?_)
  have nd := (sc_add).nd
  have hu64 := hr.units
  have sr := sr_def (outer := outer) GR hr (by first | decide | omega) rfl rfl
  exact qss_one (qs_ret (qe_call G_make_ratio (hr.mono (by decide)) (qa_cons (qe_bin q_add (qv_of_qe (qe_bin q_mul (qv_ix (qv_name 0) (qv_of_qe (qe_int))) (qv_ix (qv_name 1) (qv_of_qe (qe_int))))) (qv_of_qe (qe_bin q_mul (qv_ix (qv_name 1) (qv_of_qe (qe_int))) (qv_ix (qv_name 0) (qv_of_qe (qe_int)))))) (qa_cons (qe_bin q_mul (qv_ix (qv_name 0) (qv_of_qe (qe_int))) (qv_ix (qv_name 1) (qv_of_qe (qe_int)))) (qa_nil)))))
theorem sc_subtract : FnScope ["a", "b"] ["a", "b"] (defScope s_subtract) := ⟨rfl, rfl, rfl, by decide +kernel, rfl, by decide +kernel, by decide +kernel⟩
theorem ok_subtract {f : Addr} {fd : FuncData} (GR : Grd base P) (T : Txt K mg) (F : Fun K "subtract" "subtract" s_subtract f fd) (hm : mg "subtract" = some (.ref f)) (hb : Binds K fd ["a", "b"] []) (G_make_ratio : DefOk P w K mg base 42 "make_ratio" 2 f_make_ratio) : DefOk P w K mg base 43 "subtract" 2 f_subtract := by
  refine def_ok F sc_subtract hm hb (fun cdv A outer s H E hr => ?_)
  have nd := (sc_subtract).nd
  have hu64 := hr.units
  have sr := sr_def (outer := outer) GR hr (by first | decide | omega) rfl rfl
  exact qss_one (qs_ret (qe_call G_make_ratio (hr.mono (by decide)) (qa_cons (qe_bin q_sub (qv_of_qe (qe_bin q_mul (qv_ix (qv_name 0) (qv_of_qe (qe_int))) (qv_ix (qv_name 1) (qv_of_qe (qe_int))))) (qv_of_qe (qe_bin q_mul (qv_ix (qv_name 1) (qv_of_qe (qe_int))) (qv_ix (qv_name 0) (qv_of_qe (qe_int)))))) (qa_cons (qe_bin q_mul (qv_ix (qv_name 0) (qv_of_qe (qe_int))) (qv_ix (qv_name 1) (qv_of_qe (qe_int)))) (qa_nil)))))
theorem sc_multiply : FnScope ["a", "b"] ["a", "b"] (defScope s_multiply) := ⟨rfl, rfl, rfl, by decide +kernel, rfl, by decide +kernel, by decide +kernel⟩
theorem ok_multiply {f : Addr} {fd : FuncData} (GR : Grd base P) (T : Txt K mg) (F : Fun K "multiply" "multiply" s_multiply f fd) (hm : mg "multiply" = some (.ref f)) (hb : Binds K fd ["a", "b"] []) (G_make_ratio : DefOk P w K mg base 42 "make_ratio" 2 f_make_ratio) : DefOk P w K mg base 43 "multiply" 2 f_multiply := by
  refine def_ok F sc_multiply hm hb (fun cdv A outer s H E hr => ?_)
  have nd := (sc_multiply).nd
  have hu64 := hr.units
  have sr := sr_def (outer := outer) GR hr (by first | decide | omega) rfl rfl
  exact qss_one (qs_ret (qe_call G_make_ratio (hr.mono (by decide)) (qa_cons (qe_bin q_mul (qv_ix (qv_name 0) (qv_of_qe (qe_int))) (qv_ix (qv_name 1) (qv_of_qe (qe_int)))) (qa_cons (qe_bin q_mul (qv_ix (qv_name 0) (qv_of_qe (qe_int))) (qv_ix (qv_name 1) (qv_of_qe (qe_int)))) (qa_nil)))))
theorem sc_divide : FnScope ["a", "b"] ["a", "b"] (defScope s_divide) := ⟨rfl, rfl, rfl, by decide +kernel, rfl, by decide +kernel, by decide +kernel⟩
theorem ok_divide {f : Addr} {fd : FuncData} (GR : Grd base P) (T : Txt K mg) (F : Fun K "divide" "divide" s_divide f fd) (hm : mg "divide" = some (.ref f)) (hb : Binds K fd ["a", "b"] []) (G_make_ratio : DefOk P w K mg base 42 "make_ratio" 2 f_make_ratio) : DefOk P w K mg base 43 "divide" 2 f_divide := by
  refine def_ok F sc_divide hm hb (fun cdv A outer s H E hr => ?_)
  have nd := (sc_divide).nd
  have hu64 := hr.units
  have sr := sr_def (outer := outer) GR hr (by first | decide | omega) rfl rfl
  exact qss_cons (qs_if (qt_cmp (q_eq hu64) (qv_ix (qv_name 1) (qv_of_qe (qe_int))) (qv_of_qe (qe_int)) (nomark _)) (qss_one (qs_never)) (qss_nil))
    (qss_one (qs_ret (qe_call G_make_ratio (hr.mono (by decide)) (qa_cons (qe_bin q_mul (qv_ix (qv_name 0) (qv_of_qe (qe_int))) (qv_ix (qv_name 1) (qv_of_qe (qe_int)))) (qa_cons (qe_bin q_mul (qv_ix (qv_name 0) (qv_of_qe (qe_int))) (qv_ix (qv_name 1) (qv_of_qe (qe_int)))) (qa_nil))))))
theorem sc_total : FnScope ["values", "result", "value"] ["values"] (defScope s_total) := ⟨rfl, rfl, rfl, by decide +kernel, rfl, by decide +kernel, by decide +kernel⟩
theorem ok_total {f : Addr} {fd : FuncData} (GR : Grd base P) (T : Txt K mg) (F : Fun K "total" "total" s_total f fd) (hm : mg "total" = some (.ref f)) (hb : Binds K fd ["values"] []) (G_add : DefOk P w K mg base 43 "add" 2 f_add) : DefOk P w K mg base 44 "total" 1 f_total := by
  refine def_ok F sc_total hm hb (fun cdv A outer s H E hr => ?_)
  have nd := (sc_total).nd
  have hu64 := hr.units
  have sr := sr_def (outer := outer) GR hr (by first | decide | omega) rfl rfl
  exact qss_cons (qs_set (i := 1) nd rfl (qe_tup (qa_cons (qe_int) (qa_cons (qe_int) (qa_nil)))))
    (qss_cons (qs_for PassesOwn.never rfl (qi_frz (qe_name 0)) (qg_name (i := 2) nd rfl) (qss_one (qs_set (i := 1) nd rfl (qe_call G_add (hr.mono (by decide)) (qa_cons (qe_name 1) (qa_cons (qe_name 2) (qa_nil)))))))
    (qss_one (qs_ret (qe_name 1))))
theorem sc_without : FnScope ["row", "other", "column", "factor", "a", "b"] ["row", "other", "column"] (defScope s_without) := ⟨rfl, rfl, rfl, by decide +kernel, rfl, by decide +kernel, by decide +kernel⟩
theorem ok_without {f : Addr} {fd : FuncData} (GR : Grd base P) (T : Txt K mg) (F : Fun K "without" "without" s_without f fd) (hm : mg "without" = some (.ref f)) (hb : Binds K fd ["row", "other", "column"] []) (G_subtract : DefOk P w K mg base 43 "subtract" 2 f_subtract) (G_multiply : DefOk P w K mg base 43 "multiply" 2 f_multiply) : DefOk P w K mg base 44 "without" 3 f_without := by
  refine def_ok F sc_without hm hb (fun cdv A outer s H E hr => ?_)
  have nd := (sc_without).nd
  have hu64 := hr.units
  have sr := sr_def (outer := outer) GR hr (by first | decide | omega) rfl rfl
  exact qss_cons (qs_set (i := 3) nd rfl (qe_fz (qv_ix (qv_name 0) (qv_name 2))))
    (qss_cons (qs_if (qt_cmp (q_eq hu64) (qv_name 3) (qv_of_qe (qe_tup (qa_cons (qe_int) (qa_cons (qe_int) (qa_nil))))) (nomark _)) (qss_one (qs_ret (qe_name 0))) (qss_nil))
    (qss_one (qs_ret (qe_lc [("a", 4), ("b", 5)] rfl nd (qi_zipV rfl T.b_zip (qva_cons (qv_name 0) (qva_cons (qv_name 1) (qva_nil)))) (by kernel_rfl) (fun _ _ _ _ _ => qg_tup rfl (qgs_cons (qg_name (i := 4) nd rfl) (qgs_cons (qg_name (i := 5) nd rfl) (qgs_nil)))) (fun _ _ _ _ _ => qts_nil) (fun _ _ _ _ _ => qe_call G_subtract (hr.mono (by decide)) (qa_cons (qe_name 4) (qa_cons (qe_call G_multiply (hr.mono (by decide)) (qa_cons (qe_name 3) (qa_cons (qe_name 5) (qa_nil)))) (qa_nil))))))))
theorem sc_first_nonzero : FnScope ["row", "size", "column"] ["row", "size"] (defScope s_first_nonzero) := ⟨rfl, rfl, rfl, by decide +kernel, rfl, by decide +kernel, by decide +kernel⟩
theorem ok_first_nonzero {f : Addr} {fd : FuncData} (GR : Grd base P) (T : Txt K mg) (F : Fun K "first_nonzero" "first_nonzero" s_first_nonzero f fd) (hm : mg "first_nonzero" = some (.ref f)) (hb : Binds K fd ["row", "size"] []) : DefOk P w K mg base 41 "first_nonzero" 2 f_first_nonzero := by
  refine def_ok F sc_first_nonzero hm hb (fun cdv A outer s H E hr => ?_)
  have nd := (sc_first_nonzero).nd
  have hu64 := hr.units
  have sr := sr_def (outer := outer) GR hr (by first | decide | omega) rfl rfl
  exact qss_cons (qs_for PassesOwn.never rfl (qi_range1 rfl T.b_range (qva_cons (qv_name 1) (qva_nil))) (qg_name (i := 2) nd rfl) (qss_one (qs_if (qt_cmp (q_ne hu64) (qv_ix (qv_name 0) (qv_name 2)) (qv_of_qe (qe_tup (qa_cons (qe_int) (qa_cons (qe_int) (qa_nil))))) (nomark _)) (qss_one (qs_ret (qe_name 2))) (qss_nil))))
    (qss_one (qs_ret (qe_non)))
theorem sc_solve : FnScope ["matrix", "right", "size", "rows", "columns", "at", "row", "column", "other", "pivot", "solution", "k", "entry"] ["matrix", "right"] (defScope s_solve) := ⟨rfl, rfl, rfl, by decide +kernel, rfl, by decide +kernel, by decide +kernel⟩
theorem ok_solve {f : Addr} {fd : FuncData} (GR : Grd base P) (T : Txt K mg) (F : Fun K "solve" "solve" s_solve f fd) (hm : mg "solve" = some (.ref f)) (hb : Binds K fd ["matrix", "right"] []) (G_without : DefOk P w K mg base 44 "without" 3 f_without) (G_first_nonzero : DefOk P w K mg base 41 "first_nonzero" 2 f_first_nonzero) (G_divide : DefOk P w K mg base 43 "divide" 2 f_divide) : DefOk P w K mg base 45 "solve" 2 f_solve := by
  refine def_ok F sc_solve hm hb (fun cdv A outer s H E hr => ?_)
  have nd := (sc_solve).nd
  have hu64 := hr.units
  have sr := sr_def (outer := outer) GR hr (by first | decide | omega) rfl rfl
  exact qss_cons (qs_set (i := 2) nd rfl (qe_callB c_len rfl T.b_len (by decide +kernel) (qva_cons (qv_name 0) (qva_nil))))
    (qss_cons (qs_set (i := 3) nd rfl (qe_lst (qa_nil)))
    (qss_cons (qs_set (i := 4) nd rfl (qe_lst (qa_nil)))
    (qss_cons (qs_for PassesOwn.never rfl (qi_range1 rfl T.b_range (qva_cons (qv_name 2) (qva_nil))) (qg_name (i := 5) nd rfl) (qss_cons (qs_set (i := 6) nd rfl (qe_bin q_add (qv_of_qe (qe_bin q_add (qv_of_qe (qe_callTy c_list rfl T.b_list (by decide +kernel) (qva_cons (qv_ix (qv_name 0) (qv_name 5)) (qva_nil)))) (qv_of_qe (qe_callTy c_list rfl T.b_list (by decide +kernel) (qva_cons (qv_ix (qv_name 1) (qv_name 5)) (qva_nil)))))) (qv_of_qe (qe_lc [("k", 11)] rfl nd (qi_range1 rfl T.b_range (qva_cons (qv_name 2) (qva_nil))) (by kernel_rfl) (fun _ _ _ _ _ => qg_name (i := 11) nd rfl) (fun _ _ _ _ _ => qts_nil) (fun _ _ _ _ _ => qe_tup (qa_cons (qe_callTy c_int rfl T.b_int (by decide +kernel) (qva_cons (qv_of_qe (qe_cmp (q_eq hu64) (qv_name 11) (qv_name 5) (nomark _))) (qva_nil))) (qa_cons (qe_int) (qa_nil))))))))
    (qss_cons (qs_forZ (c := 4) (r := 3) PassesOwn.never rfl rfl T.b_zip rfl rfl (qg_tup rfl (qgs_cons (qg_name (i := 7) nd rfl) (qgs_cons (qg_name (i := 8) nd rfl) (qgs_nil)))) (qss_one (qs_set (i := 6) nd rfl (qe_call G_without (hr.mono (by decide)) (qa_cons (qe_name 6) (qa_cons (qe_name 8) (qa_cons (qe_name 7) (qa_nil))))))))
    (qss_cons (qs_set (i := 7) nd rfl (qe_call G_first_nonzero (hr.mono (by decide)) (qa_cons (qe_name 6) (qa_cons (qe_name 2) (qa_nil)))))
    (qss_cons (qs_if (qt_cmp q_is (qv_name 7) (qv_of_qe (qe_non)) (nomark _)) (qss_one (qs_ret (qe_tup (qa_cons (qe_str) (qa_cons (qe_callTy c_tuple rfl T.b_tuple (by decide +kernel) (qva_cons (qv_of_qe (qe_slice (qv_name 6) (qo_some (qv_of_qe (qe_bin q_sub (qv_of_qe (qe_callB c_len rfl T.b_len (by decide +kernel) (qva_cons (qv_name 6) (qva_nil)))) (qv_name 2)))) (qo_none))) (qva_nil))) (qa_nil)))))) (qss_nil))
    (qss_cons (qs_set (i := 9) nd rfl (qe_fz (qv_ix (qv_name 6) (qv_name 7))))
    (qss_cons (qs_set (i := 6) nd rfl (qe_lc [("entry", 12)] rfl nd (qi_vw (qv_name 6)) (by kernel_rfl) (fun _ _ _ _ _ => qg_name (i := 12) nd rfl) (fun _ _ _ _ _ => qts_nil) (fun _ _ _ _ _ => qe_call G_divide (hr.mono (by decide)) (qa_cons (qe_name 12) (qa_cons (qe_name 9) (qa_nil))))))
    (qss_cons (qs_setLc (i := 3) [("other", 8)] rfl nd rfl rfl (sw_true rfl rfl rfl (by decide +kernel)) (qi_vw (qv_name 3)) (by kernel_rfl) (fun _ _ _ _ _ => qg_name (i := 8) nd rfl) (fun _ _ _ _ _ => qts_nil) (fun _ _ _ _ _ => qe_call G_without (hr.mono (by decide)) (qa_cons (qe_name 8) (qa_cons (qe_name 6) (qa_cons (qe_name 7) (qa_nil))))))
    (qss_cons (qs_append (i := 3) rfl (qe_name 6))
    (qss_one (qs_append (i := 4) rfl (qe_name 7))))))))))))
    (qss_cons (qs_set (i := 10) nd rfl (qe_bin q_mul (qv_of_qe (qe_lst (qa_cons (qe_tup (qa_nil)) (qa_nil)))) (qv_name 2)))
    (qss_cons (qs_for PassesOwn.never rfl (qi_zipF rfl T.b_zip (qa_cons (qe_name 4) (qa_cons (qe_name 3) (qa_nil)))) (qg_tup rfl (qgs_cons (qg_name (i := 7) nd rfl) (qgs_cons (qg_name (i := 6) nd rfl) (qgs_nil)))) (qss_one (qs_setIx (i := 10) rfl (qe_callTy c_tuple rfl T.b_tuple (by decide +kernel) (qva_cons (qv_of_qe (qe_slice (qv_name 6) (qo_some (qv_name 2)) (qo_some (qv_of_qe (qe_bin q_sub (qv_of_qe (qe_callB c_len rfl T.b_len (by decide +kernel) (qva_cons (qv_name 6) (qva_nil)))) (qv_name 2)))))) (qva_nil))) (qv_name 7))))
    (qss_one (qs_ret (qe_tup (qa_cons (qe_str) (qa_cons (qe_callTy c_tuple rfl T.b_tuple (by decide +kernel) (qva_cons (qv_name 10) (qva_nil))) (qa_nil)))))))))))
theorem sc_joint_states : FnScope ["games", "rows", "game", "row", "state"] ["games"] (defScope s_joint_states) := ⟨rfl, rfl, rfl, by decide +kernel, rfl, by decide +kernel, by decide +kernel⟩
theorem ok_joint_states {f : Addr} {fd : FuncData} (GR : Grd base P) (T : Txt K mg) (F : Fun K "joint_states" "joint_states" s_joint_states f fd) (hm : mg "joint_states" = some (.ref f)) (hb : Binds K fd ["games"] []) : DefOk P w K mg base 41 "joint_states" 1 f_joint_states := by
  refine def_ok F sc_joint_states hm hb (fun cdv A outer s H E hr => ?_)
  have nd := (sc_joint_states).nd
  have hu64 := hr.units
  have sr := sr_def (outer := outer) GR hr (by first | decide | omega) rfl rfl
  exact qss_cons (qs_set (i := 1) nd rfl (qe_lst (qa_cons (qe_tup (qa_nil)) (qa_nil))))
    (qss_cons (qs_for PassesOwn.never rfl (qi_frz (qe_name 0)) (qg_name (i := 2) nd rfl) (qss_one (qs_setLc2 (i := 1) [("row", 3), ("state", 4)] [4] rfl nd rfl rfl (sw_true rfl rfl rfl (by decide +kernel)) (qi_vw (qv_name 1)) (by kernel_rfl) (fun _ _ _ _ _ => qg_name (i := 3) nd rfl) (fun _ _ _ _ _ => qts_nil) (fun _ _ _ _ _ => qi_range1 rfl T.b_range (qva_cons (qv_of_qe (qe_callB c_len rfl T.b_len (by decide +kernel) (qva_cons (qv_ix (qv_name 2) (qv_of_qe (qe_int))) (qva_nil)))) (qva_nil))) (fun _ _ _ _ _ => qg_name (i := 4) nd rfl) (fun _ _ _ _ _ => qts_nil) (fun _ _ _ _ _ => qe_bin q_catK (qv_name 3) (qv_of_qe (qe_tupK (qe_name 4)))))))
    (qss_one (qs_ret (qe_callTy c_tuple rfl T.b_tuple (by decide +kernel) (qva_cons (qv_name 1) (qva_nil))))))
theorem sc_table_places : FnScope ["games", "places", "joint"] ["games"] (defScope s_table_places) := ⟨rfl, rfl, rfl, by decide +kernel, rfl, by decide +kernel, by decide +kernel⟩
theorem ok_table_places {f : Addr} {fd : FuncData} (GR : Grd base P) (T : Txt K mg) (F : Fun K "table_places" "table_places" s_table_places f fd) (hm : mg "table_places" = some (.ref f)) (hb : Binds K fd ["games"] []) (G_joint_states : DefOk P w K mg base 41 "joint_states" 1 f_joint_states) : DefOk P w K mg base 42 "table_places" 1 f_table_places := by
  refine def_ok F sc_table_places hm hb (fun cdv A outer s H E hr => ?_)
  have nd := (sc_table_places).nd
  have hu64 := hr.units
  have sr := sr_def (outer := outer) GR hr (by first | decide | omega) rfl rfl
  exact qss_cons (qs_set (i := 1) nd rfl (qe_dnewT))
    (qss_cons (qs_for PassesOwn.never rfl (qi_frz (qe_call G_joint_states (hr.mono (by decide)) (qa_cons (qe_name 0) (qa_nil)))) (qg_name (i := 2) nd rfl) (qss_one (qs_dsetT (i := 1) hu64 rfl (qe_callB c_lenT rfl T.b_len (by decide +kernel) (qva_cons (qv_name 1) (qva_nil))) (qv_name 2))))
    (qss_one (qs_ret (qe_name 1))))
theorem sc_pairs_of : FnScope ["company", "pairs", "position", "state"] ["company"] (defScope s_pairs_of) := ⟨rfl, rfl, rfl, by decide +kernel, rfl, by decide +kernel, by decide +kernel⟩
theorem ok_pairs_of {f : Addr} {fd : FuncData} (GR : Grd base P) (T : Txt K mg) (F : Fun K "pairs_of" "pairs_of" s_pairs_of f fd) (hm : mg "pairs_of" = some (.ref f)) (hb : Binds K fd ["company"] []) : DefOk P w K mg base 41 "pairs_of" 1 f_pairs_of := by
  refine def_ok F sc_pairs_of hm hb (fun cdv A outer s H E hr => ?_)
  have nd := (sc_pairs_of).nd
  have hu64 := hr.units
  have sr := sr_def (outer := outer) GR hr (by first | decide | omega) rfl rfl
  exact qss_cons (qs_set (i := 1) nd rfl (qe_lst (qa_nil)))
    (qss_cons (qs_for PassesOwn.never rfl (qi_range1 rfl T.b_range (qva_cons (qv_of_qe (qe_callB c_len rfl T.b_len (by decide +kernel) (qva_cons (qv_name 0) (qva_nil)))) (qva_nil))) (qg_name (i := 2) nd rfl) (qss_one (qs_for PassesOwn.never rfl (qi_range1 rfl T.b_range (qva_cons (qv_of_qe (qe_callB c_len rfl T.b_len (by decide +kernel) (qva_cons (qv_ix (qv_ix (qv_ix (qv_name 0) (qv_name 2)) (qv_of_qe (qe_int))) (qv_of_qe (qe_int))) (qva_nil)))) (qva_nil))) (qg_name (i := 3) nd rfl) (qss_one (qs_append (i := 1) rfl (qe_tup (qa_cons (qe_name 2) (qa_cons (qe_name 3) (qa_nil)))))))))
    (qss_one (qs_ret (qe_callTy c_tuple rfl T.b_tuple (by decide +kernel) (qva_cons (qv_name 1) (qva_nil))))))
theorem sc_joint_visits : FnScope ["games", "choices", "start", "discount", "joints", "places", "rows", "at", "joint", "position", "target", "probability", "after", "right", "answer", "other", "row", "entry"] ["games", "choices", "start", "discount"] (defScope s_joint_visits) := ⟨rfl, rfl, rfl, by decide +kernel, rfl, by decide +kernel, by decide +kernel⟩
theorem ok_joint_visits {f : Addr} {fd : FuncData} (GR : Grd base P) (T : Txt K mg) (F : Fun K "joint_visits" "joint_visits" s_joint_visits f fd) (hm : mg "joint_visits" = some (.ref f)) (hb : Binds K fd ["games", "choices", "start", "discount"] []) (G_joint_states : DefOk P w K mg base 41 "joint_states" 1 f_joint_states) (G_table_places : DefOk P w K mg base 42 "table_places" 1 f_table_places) (G_add : DefOk P w K mg base 43 "add" 2 f_add) (G_subtract : DefOk P w K mg base 43 "subtract" 2 f_subtract) (G_multiply : DefOk P w K mg base 43 "multiply" 2 f_multiply) (G_solve : DefOk P w K mg base 45 "solve" 2 f_solve) : DefOk P w K mg base 46 "joint_visits" 4 f_joint_visits := by
  refine def_ok F sc_joint_visits hm hb (fun cdv A outer s H E hr => ?_)
  have nd := (sc_joint_visits).nd
  have hu64 := hr.units
  have sr := sr_def (outer := outer) GR hr (by first | decide | omega) rfl rfl
  exact qss_cons (qs_set (i := 4) nd rfl (qe_unk (qe_call G_joint_states (hr.mono (by decide)) (qa_cons (qe_name 0) (qa_nil)))))
    (qss_cons (qs_set (i := 5) nd rfl (qe_call G_table_places (hr.mono (by decide)) (qa_cons (qe_name 0) (qa_nil))))
    (qss_cons (qs_setLc (i := 6) [("joint", 8)] rfl nd rfl rfl (sw_true rfl rfl rfl (by decide +kernel)) (qi_vw (qv_name 4)) (by kernel_rfl) (fun _ _ _ _ _ => qg_name (i := 8) nd rfl) (fun _ _ _ _ _ => qts_nil) (fun _ _ _ _ _ => qe_lc [("other", 15)] rfl nd (qi_vw (qv_name 4)) (by kernel_rfl) (fun _ _ _ _ _ => qg_name (i := 15) nd rfl) (fun _ _ _ _ _ => qts_nil) (fun _ _ _ _ _ => qe_cst rfl T.k_ZERO)))
    (qss_cons (qs_for PassesOwn.never rfl (qi_range1 rfl T.b_range (qva_cons (qv_of_qe (qe_callB c_len rfl T.b_len (by decide +kernel) (qva_cons (qv_name 4) (qva_nil)))) (qva_nil))) (qg_name (i := 7) nd rfl) (qss_cons (qs_set (i := 8) nd rfl (qe_fz (qv_ix (qv_name 4) (qv_name 7))))
    (qss_cons (qs_set (i := 9) nd rfl (qe_fz (qv_ix (qv_name 1) (qv_name 7))))
    (qss_cons (qs_setAt (i := 6) rfl (qe_call G_add (hr.mono (by decide)) (qa_cons (qe_fz (qv_ix (qv_ix (qv_name 6) (qv_name 7)) (qv_name 7))) (qa_cons (qe_cst rfl T.k_ONE) (qa_nil)))) (qv_name 7) (qv_name 7))
    (qss_one (qs_for PassesOwn.never rfl (qi_frz (qe_fz (qv_ix (qv_ix (qv_ix (qv_name 0) (qv_name 9)) (qv_of_qe (qe_int))) (qv_ix (qv_name 8) (qv_name 9))))) (qg_tup rfl (qgs_cons (qg_name (i := 10) nd rfl) (qgs_cons (qg_name (i := 11) nd rfl) (qgs_nil)))) (qss_cons (qs_set (i := 12) nd rfl (qe_fz (qv_dixT hu64 (qv_name 5) (qv_of_qe (qe_bin q_add (qv_of_qe (qe_bin q_add (qv_of_qe (qe_slice (qv_name 8) (qo_none) (qo_some (qv_name 9)))) (qv_of_qe (qe_tup (qa_cons (qe_name 10) (qa_nil)))))) (qv_of_qe (qe_slice (qv_name 8) (qo_some (qv_of_qe (qe_bin q_add (qv_name 9) (qv_of_qe (qe_int))))) (qo_none))))))))
    (qss_one (qs_setAt (i := 6) rfl (qe_call G_subtract (hr.mono (by decide)) (qa_cons (qe_fz (qv_ix (qv_ix (qv_name 6) (qv_name 12)) (qv_name 7))) (qa_cons (qe_call G_multiply (hr.mono (by decide)) (qa_cons (qe_name 3) (qa_cons (qe_name 11) (qa_nil)))) (qa_nil)))) (qv_name 12) (qv_name 7))))))))))
    (qss_cons (qs_setLc (i := 13) [("joint", 8)] rfl nd rfl rfl (sw_true rfl rfl rfl (by decide +kernel)) (qi_vw (qv_name 4)) (by kernel_rfl) (fun _ _ _ _ _ => qg_name (i := 8) nd rfl) (fun _ _ _ _ _ => qts_nil) (fun _ _ _ _ _ => qe_ifExp (qt_cmp (q_eq hu64) (qv_name 8) (qv_name 2) (nomark _)) (qe_tup (qa_cons (qe_cst rfl T.k_ONE) (qa_nil))) (qe_tup (qa_cons (qe_cst rfl T.k_ZERO) (qa_nil)))))
    (qss_cons (qs_set (i := 14) nd rfl (qe_call G_solve (hr.mono (by decide)) (qa_cons (qe_callTy c_tuple rfl T.b_tuple (by decide +kernel) (qva_cons (qv_of_qe (qe_lc [("row", 16)] rfl nd (qi_weak (qi_frz (qe_name 6))) (by kernel_rfl) (fun _ _ _ _ _ => qg_name (i := 16) nd rfl) (fun _ _ _ _ _ => qts_nil) (fun _ _ _ _ _ => qe_callTy c_tuple rfl T.b_tuple (by decide +kernel) (qva_cons (qv_name 16) (qva_nil))))) (qva_nil))) (qa_cons (qe_callTy c_tuple rfl T.b_tuple (by decide +kernel) (qva_cons (qv_name 13) (qva_nil))) (qa_nil)))))
    (qss_one (qs_ret (qe_lc [("entry", 17)] rfl nd (qi_vw (qv_ix (qv_name 14) (qv_of_qe (qe_int)))) (by kernel_rfl) (fun _ _ _ _ _ => qg_name (i := 17) nd rfl) (fun _ _ _ _ _ => qts_nil) (fun _ _ _ _ _ => qe_fz (qv_ix (qv_name 17) (qv_of_qe (qe_int))))))))))))
theorem sc_choice_visits : FnScope ["company", "choices", "discount", "games", "start", "counts", "joints", "visits", "position", "state", "parts", "at", "game"] ["company", "choices", "discount"] (defScope s_choice_visits) := ⟨rfl, rfl, rfl, by decide +kernel, rfl, by decide +kernel, by decide +kernel⟩
theorem ok_choice_visits {f : Addr} {fd : FuncData} (GR : Grd base P) (T : Txt K mg) (F : Fun K "choice_visits" "choice_visits" s_choice_visits f fd) (hm : mg "choice_visits" = some (.ref f)) (hb : Binds K fd ["company", "choices", "discount"] []) (G_joint_visits : DefOk P w K mg base 46 "joint_visits" 4 f_joint_visits) (G_joint_states : DefOk P w K mg base 41 "joint_states" 1 f_joint_states) (G_pairs_of : DefOk P w K mg base 41 "pairs_of" 1 f_pairs_of) (G_total : DefOk P w K mg base 44 "total" 1 f_total) : DefOk P w K mg base 47 "choice_visits" 3 f_choice_visits := by
  refine def_ok F sc_choice_visits hm hb (fun cdv A outer s H E hr => ?_)
  have nd := (sc_choice_visits).nd
  have hu64 := hr.units
  have sr := sr_def (outer := outer) GR hr (by first | decide | omega) rfl rfl
  exact qss_cons (qs_set (i := 3) nd rfl (qe_callTy c_tuple rfl T.b_tuple (by decide +kernel) (qva_cons (qv_of_qe (qe_lc [("game", 12), ("state", 9)] rfl nd (qi_vw (qv_name 0)) (by kernel_rfl) (fun _ _ _ _ _ => qg_tup rfl (qgs_cons (qg_name (i := 12) nd rfl) (qgs_cons (qg_name (i := 9) nd rfl) (qgs_nil)))) (fun _ _ _ _ _ => qts_nil) (fun _ _ _ _ _ => qe_name 12))) (qva_nil))))
    (qss_cons (qs_set (i := 4) nd rfl (qe_callTy c_tuple rfl T.b_tuple (by decide +kernel) (qva_cons (qv_of_qe (qe_lc [("game", 12), ("state", 9)] rfl nd (qi_vw (qv_name 0)) (by kernel_rfl) (fun _ _ _ _ _ => qg_tup rfl (qgs_cons (qg_name (i := 12) nd rfl) (qgs_cons (qg_name (i := 9) nd rfl) (qgs_nil)))) (fun _ _ _ _ _ => qts_nil) (fun _ _ _ _ _ => qe_name 9))) (qva_nil))))
    (qss_cons (qs_set (i := 5) nd rfl (qe_call G_joint_visits (hr.mono (by decide)) (qa_cons (qe_name 3) (qa_cons (qe_name 1) (qa_cons (qe_name 4) (qa_cons (qe_name 2) (qa_nil)))))))
    (qss_cons (qs_set (i := 6) nd rfl (qe_unk (qe_call G_joint_states (hr.mono (by decide)) (qa_cons (qe_name 3) (qa_nil)))))
    (qss_cons (qs_set (i := 7) nd rfl (qe_lst (qa_nil)))
    (qss_cons (qs_for PassesOwn.never rfl (qi_frz (qe_call G_pairs_of (hr.mono (by decide)) (qa_cons (qe_name 0) (qa_nil)))) (qg_tup rfl (qgs_cons (qg_name (i := 8) nd rfl) (qgs_cons (qg_name (i := 9) nd rfl) (qgs_nil)))) (qss_cons (qs_set (i := 10) nd rfl (qe_lst (qa_nil)))
    (qss_cons (qs_for PassesOwn.never rfl (qi_range1 rfl T.b_range (qva_cons (qv_of_qe (qe_callB c_len rfl T.b_len (by decide +kernel) (qva_cons (qv_name 6) (qva_nil)))) (qva_nil))) (qg_name (i := 11) nd rfl) (qss_one (qs_if (qt_w (qw_and (qt_cmp (q_eq hu64) (qv_ix (qv_name 1) (qv_name 11)) (qv_name 8) (nomark _)) (qw_and1 (qt_cmp (q_eq hu64) (qv_ix (qv_ix (qv_name 6) (qv_name 11)) (qv_name 8)) (qv_name 9) (nomark _))))) (qss_one (qs_append (i := 10) rfl (qe_fz (qv_ix (qv_name 5) (qv_name 11))))) (qss_nil))))
    (qss_one (qs_append (i := 7) rfl (qe_call G_total (hr.mono (by decide)) (qa_cons (qe_name 10) (qa_nil))))))))
    (qss_one (qs_ret (qe_callTy c_tuple rfl T.b_tuple (by decide +kernel) (qva_cons (qv_name 7) (qva_nil))))))))))
theorem sc_order_choices : FnScope ["games", "order", "rank", "at", "choices", "joint", "best", "position"] ["games", "order"] (defScope s_order_choices) := ⟨rfl, rfl, rfl, by decide +kernel, rfl, by decide +kernel, by decide +kernel⟩
theorem ok_order_choices {f : Addr} {fd : FuncData} (GR : Grd base P) (T : Txt K mg) (F : Fun K "order_choices" "order_choices" s_order_choices f fd) (hm : mg "order_choices" = some (.ref f)) (hb : Binds K fd ["games", "order"] []) (G_joint_states : DefOk P w K mg base 41 "joint_states" 1 f_joint_states) : DefOk P w K mg base 42 "order_choices" 2 f_order_choices := by
  refine def_ok F sc_order_choices hm hb (fun cdv A outer s H E hr => ?_)
  have nd := (sc_order_choices).nd
  have hu64 := hr.units
  have sr := sr_def (outer := outer) GR hr (by first | decide | omega) rfl rfl
  exact qss_cons (qs_set (i := 2) nd rfl (qe_dnewT))
    (qss_cons (qs_for PassesOwn.never rfl (qi_range1 rfl T.b_range (qva_cons (qv_of_qe (qe_callB c_len rfl T.b_len (by decide +kernel) (qva_cons (qv_name 1) (qva_nil)))) (qva_nil))) (qg_name (i := 3) nd rfl) (qss_one (qs_dsetT (i := 2) hu64 rfl (qe_name 3) (qv_ix (qv_name 1) (qv_name 3)))))
    (qss_cons (qs_set (i := 4) nd rfl (qe_lst (qa_nil)))
    (qss_cons (qs_for PassesOwn.never rfl (qi_frz (qe_unk (qe_call G_joint_states (hr.mono (by decide)) (qa_cons (qe_name 0) (qa_nil))))) (qg_name (i := 5) nd rfl) (qss_cons (qs_set (i := 6) nd rfl (qe_int))
    (qss_cons (qs_for PassesOwn.never rfl (qi_range2 rfl T.b_range (qva_cons (qv_of_qe (qe_int)) (qva_cons (qv_of_qe (qe_callB c_len rfl T.b_len (by decide +kernel) (qva_cons (qv_name 5) (qva_nil)))) (qva_nil)))) (qg_name (i := 7) nd rfl) (qss_one (qs_if (qt_cmp q_lt (qv_dixT hu64 (qv_name 2) (qv_of_qe (qe_tup (qa_cons (qe_name 7) (qa_cons (qe_fz (qv_ix (qv_name 5) (qv_name 7))) (qa_nil)))))) (qv_dixT hu64 (qv_name 2) (qv_of_qe (qe_tup (qa_cons (qe_name 6) (qa_cons (qe_fz (qv_ix (qv_name 5) (qv_name 6))) (qa_nil)))))) (nomark _)) (qss_one (qs_set (i := 6) nd rfl (qe_name 7))) (qss_nil))))
    (qss_one (qs_append (i := 4) rfl (qe_name 6))))))
    (qss_one (qs_ret (qe_callTy c_tuple rfl T.b_tuple (by decide +kernel) (qva_cons (qv_name 4) (qva_nil))))))))
theorem sc_order_visits : FnScope ["company", "order", "discount", "games", "game", "state"] ["company", "order", "discount"] (defScope s_order_visits) := ⟨rfl, rfl, rfl, by decide +kernel, rfl, by decide +kernel, by decide +kernel⟩
theorem ok_order_visits {f : Addr} {fd : FuncData} (GR : Grd base P) (T : Txt K mg) (F : Fun K "order_visits" "order_visits" s_order_visits f fd) (hm : mg "order_visits" = some (.ref f)) (hb : Binds K fd ["company", "order", "discount"] []) (G_choice_visits : DefOk P w K mg base 47 "choice_visits" 3 f_choice_visits) (G_order_choices : DefOk P w K mg base 42 "order_choices" 2 f_order_choices) : DefOk P w K mg base 48 "order_visits" 3 f_order_visits := by
  refine def_ok F sc_order_visits hm hb (fun cdv A outer s H E hr => ?_)
  have nd := (sc_order_visits).nd
  have hu64 := hr.units
  have sr := sr_def (outer := outer) GR hr (by first | decide | omega) rfl rfl
  exact qss_cons (qs_set (i := 3) nd rfl (qe_callTy c_tuple rfl T.b_tuple (by decide +kernel) (qva_cons (qv_of_qe (qe_lc [("game", 4), ("state", 5)] rfl nd (qi_vw (qv_name 0)) (by kernel_rfl) (fun _ _ _ _ _ => qg_tup rfl (qgs_cons (qg_name (i := 4) nd rfl) (qgs_cons (qg_name (i := 5) nd rfl) (qgs_nil)))) (fun _ _ _ _ _ => qts_nil) (fun _ _ _ _ _ => qe_name 4))) (qva_nil))))
    (qss_one (qs_ret (qe_call G_choice_visits (hr.mono (by decide)) (qa_cons (qe_name 0) (qa_cons (qe_call G_order_choices (hr.mono (by decide)) (qa_cons (qe_name 3) (qa_cons (qe_name 1) (qa_nil)))) (qa_cons (qe_name 2) (qa_nil)))))))
theorem sc_visits_gain : FnScope ["company", "visits", "pairs", "parts", "at", "position", "state"] ["company", "visits"] (defScope s_visits_gain) := ⟨rfl, rfl, rfl, by decide +kernel, rfl, by decide +kernel, by decide +kernel⟩
theorem ok_visits_gain {f : Addr} {fd : FuncData} (GR : Grd base P) (T : Txt K mg) (F : Fun K "visits_gain" "visits_gain" s_visits_gain f fd) (hm : mg "visits_gain" = some (.ref f)) (hb : Binds K fd ["company", "visits"] []) (G_pairs_of : DefOk P w K mg base 41 "pairs_of" 1 f_pairs_of) (G_multiply : DefOk P w K mg base 43 "multiply" 2 f_multiply) (G_total : DefOk P w K mg base 44 "total" 1 f_total) : DefOk P w K mg base 45 "visits_gain" 2 f_visits_gain := by
  refine def_ok F sc_visits_gain hm hb (fun cdv A outer s H E hr => ?_)
  have nd := (sc_visits_gain).nd
  have hu64 := hr.units
  have sr := sr_def (outer := outer) GR hr (by first | decide | omega) rfl rfl
  exact qss_cons (qs_set (i := 2) nd rfl (qe_call G_pairs_of (hr.mono (by decide)) (qa_cons (qe_name 0) (qa_nil))))
    (qss_cons (qs_set (i := 3) nd rfl (qe_lst (qa_nil)))
    (qss_cons (qs_for PassesOwn.never rfl (qi_range1 rfl T.b_range (qva_cons (qv_of_qe (qe_callB c_len rfl T.b_len (by decide +kernel) (qva_cons (qv_name 2) (qva_nil)))) (qva_nil))) (qg_name (i := 4) nd rfl) (qss_cons (qs_asgT (qe_fz (qv_ix (qv_name 2) (qv_name 4))) (qg_tup rfl (qgs_cons (qg_name (i := 5) nd rfl) (qgs_cons (qg_name (i := 6) nd rfl) (qgs_nil)))))
    (qss_one (qs_append (i := 3) rfl (qe_call G_multiply (hr.mono (by decide)) (qa_cons (qe_fz (qv_ix (qv_name 1) (qv_name 4))) (qa_cons (qe_fz (qv_ix (qv_ix (qv_ix (qv_ix (qv_name 0) (qv_name 5)) (qv_of_qe (qe_int))) (qv_of_qe (qe_int))) (qv_name 6))) (qa_nil))))))))
    (qss_one (qs_ret (qe_call G_total (hr.mono (by decide)) (qa_cons (qe_name 3) (qa_nil)))))))
theorem sc__law_cell : FnScope ["_law_script", "_law_k"] ["_law_script", "_law_k"] (defScope s__law_cell) := ⟨rfl, rfl, rfl, by decide +kernel, rfl, by decide +kernel, by decide +kernel⟩
theorem ok__law_cell {f : Addr} {fd : FuncData} (GR : Grd base P) (T : Txt K mg) (F : Fun K "_law_cell" "_law_cell" s__law_cell f fd) (hm : mg "_law_cell" = some (.ref f)) (hb : Binds K fd ["_law_script", "_law_k"] []) : DefOk P w K mg base 41 "_law_cell" 2 f__law_cell := by
  refine def_ok F sc__law_cell hm hb (fun cdv A outer s H E hr => ?_)
  have nd := (sc__law_cell).nd
  have hu64 := hr.units
  have sr := sr_def (outer := outer) GR hr (by first | decide | omega) rfl rfl
  exact qss_cons (qs_if (qt_cmp q_lt (qv_name 1) (qv_of_qe (qe_callB c_len rfl T.b_len (by decide +kernel) (qva_cons (qv_name 0) (qva_nil)))) (nomark _)) (qss_one (qs_ret (qe_fz (qv_ix (qv_name 0) (qv_name 1))))) (qss_nil))
    (qss_one (qs_ret (qe_bin q_add (qv_of_qe (qe_bin q_mul (qv_of_qe (qe_int)) (qv_name 1))) (qv_of_qe (qe_int)))))
theorem sc__law_draws : FnScope ["_law_cell_here", "_law_count", "_law_rest", "_law_digits", "_law_seed", "_law_draws_here", "_law_k", "_law_mixed"] ["_law_cell_here", "_law_count"] (defScope s__law_draws) := ⟨rfl, rfl, rfl, by decide +kernel, rfl, by decide +kernel, by decide +kernel⟩
theorem ok__law_draws {f : Addr} {fd : FuncData} (GR : Grd base P) (T : Txt K mg) (F : Fun K "_law_draws" "_law_draws" s__law_draws f fd) (hm : mg "_law_draws" = some (.ref f)) (hb : Binds K fd ["_law_cell_here", "_law_count"] []) : DefOk P w K mg base 41 "_law_draws" 2 f__law_draws := by
  refine def_ok F sc__law_draws hm hb (fun cdv A outer s H E hr => ?_)
  have nd := (sc__law_draws).nd
  have hu64 := hr.units
  have sr := sr_def (outer := outer) GR hr (by first | decide | omega) rfl rfl
  exact qss_cons (qs_set (i := 2) nd rfl (qe_callB c_abs rfl T.b_abs (by decide +kernel) (qva_cons (qv_of_qe (qe_callTy c_int rfl T.b_int (by decide +kernel) (qva_cons (qv_name 0) (qva_nil)))) (qva_nil))))
    (qss_cons (qs_set (i := 3) nd rfl (qe_cmp q_ge (qv_name 2) (qv_of_qe (qe_bin q_pow (qv_of_qe (qe_int)) (qv_of_qe (qe_int)))) (nomark _)))
    (qss_cons (qs_set (i := 4) nd rfl (qe_name 2))
    (qss_cons (qs_set (i := 5) nd rfl (qe_lst (qa_nil)))
    (qss_cons (qs_for PassesOwn.never rfl (qi_range1 rfl T.b_range (qva_cons (qv_name 1) (qva_nil))) (qg_name (i := 6) nd rfl) (qss_one (qs_if (qt_w (qw_and (qt_val (qv_name 3)) (qw_and1 (qt_cmp q_gt (qv_name 2) (qv_of_qe (qe_int)) (nomark _))))) (qss_cons (qs_append (i := 5) rfl (qe_bin q_mod (qv_of_qe (qe_callTy c_int rfl T.b_int (by decide +kernel) (qva_cons (qv_name 2) (qva_nil)))) (qv_of_qe (qe_int))))
    (qss_one (qs_set (i := 2) nd rfl (qe_bin (q_fdiv sr) (qv_name 2) (qv_of_qe (qe_int)))))) (qss_cons (qs_set (i := 7) nd rfl (qe_bin q_mod (qv_of_qe (qe_callTy c_int rfl T.b_int (by decide +kernel) (qva_cons (qv_of_qe (qe_bin q_add (qv_of_qe (qe_bin q_add (qv_of_qe (qe_bin q_mul (qv_name 4) (qv_of_qe (qe_int)))) (qv_of_qe (qe_bin q_mul (qv_of_qe (qe_bin q_add (qv_name 6) (qv_of_qe (qe_int)))) (qv_of_qe (qe_int)))))) (qv_of_qe (qe_int)))) (qva_nil)))) (qv_of_qe (qe_int))))
    (qss_cons (qs_set (i := 7) nd rfl (qe_bin q_mod (qv_of_qe (qe_callTy c_int rfl T.b_int (by decide +kernel) (qva_cons (qv_of_qe (qe_bin q_add (qv_of_qe (qe_bin q_mul (qv_name 7) (qv_name 7))) (qv_of_qe (qe_bin q_mul (qv_of_qe (qe_int)) (qv_of_qe (qe_bin q_add (qv_name 6) (qv_of_qe (qe_int)))))))) (qva_nil)))) (qv_of_qe (qe_int))))
    (qss_one (qs_append (i := 5) rfl (qe_bin q_mod (qv_of_qe (qe_callTy c_int rfl T.b_int (by decide +kernel) (qva_cons (qv_of_qe (qe_bin (q_fdiv sr) (qv_name 7) (qv_of_qe (qe_int)))) (qva_nil)))) (qv_of_qe (qe_int))))))))))
    (qss_one (qs_ret (qe_name 5)))))))
theorem sc__law_head : FnScope ["_law_script"] ["_law_script"] (defScope s__law_head) := ⟨rfl, rfl, rfl, by decide +kernel, rfl, by decide +kernel, by decide +kernel⟩
theorem ok__law_head {f : Addr} {fd : FuncData} (GR : Grd base P) (T : Txt K mg) (F : Fun K "_law_head" "_law_head" s__law_head f fd) (hm : mg "_law_head" = some (.ref f)) (hb : Binds K fd ["_law_script"] []) (G__law_draws : DefOk P w K mg base 41 "_law_draws" 2 f__law_draws) (G__law_cell : DefOk P w K mg base 41 "_law_cell" 2 f__law_cell) : DefOk P w K mg base 42 "_law_head" 1 f__law_head := by
  refine def_ok F sc__law_head hm hb (fun cdv A outer s H E hr => ?_)
  have nd := (sc__law_head).nd
  have hu64 := hr.units
  have sr := sr_def (outer := outer) GR hr (by first | decide | omega) rfl rfl
  exact qss_one (qs_ret (qe_call G__law_draws (hr.mono (by decide)) (qa_cons (qe_call G__law_cell (hr.mono (by decide)) (qa_cons (qe_name 0) (qa_cons (qe_int) (qa_nil)))) (qa_cons (qe_int) (qa_nil)))))
theorem sc__law_low : FnScope ["_law_n", "_law_d", "_law_a", "_law_b", "_law_c"] ["_law_n", "_law_d"] (defScope s__law_low) := ⟨rfl, rfl, rfl, by decide +kernel, rfl, by decide +kernel, by decide +kernel⟩
theorem ok__law_low {f : Addr} {fd : FuncData} (GR : Grd base P) (T : Txt K mg) (F : Fun K "_law_low" "_law_low" s__law_low f fd) (hm : mg "_law_low" = some (.ref f)) (hb : Binds K fd ["_law_n", "_law_d"] []) : DefOk P w K mg base 41 "_law_low" 2 f__law_low := by
  refine def_ok F sc__law_low hm hb (fun cdv A outer s H E hr => ?_)
  have nd := (sc__law_low).nd
  have hu64 := hr.units
  have sr := sr_def (outer := outer) GR hr (by first | decide | omega) rfl rfl
  exact qss_cons (qs_set (i := 2) nd rfl (qe_callB c_abs rfl T.b_abs (by decide +kernel) (qva_cons (qv_name 0) (qva_nil))))
    (qss_cons (qs_set (i := 3) nd rfl (qe_callB c_abs rfl T.b_abs (by decide +kernel) (qva_cons (qv_name 1) (qva_nil))))
    (qss_cons (qs_while PassesOwn.never (qt_cmp q_gt (qv_name 3) (qv_of_qe (qe_int)) (nomark _)) (qss_cons (qs_set (i := 4) nd rfl (qe_bin q_mod (qv_of_qe (qe_callTy c_int rfl T.b_int (by decide +kernel) (qva_cons (qv_name 2) (qva_nil)))) (qv_name 3)))
    (qss_cons (qs_set (i := 2) nd rfl (qe_name 3))
    (qss_one (qs_set (i := 3) nd rfl (qe_name 4))))))
    (qss_cons (qs_if (qt_cmp q_lt (qv_name 1) (qv_of_qe (qe_int)) (nomark _)) (qss_cons (qs_set (i := 0) nd rfl (qe_bin q_sub (qv_of_qe (qe_int)) (qv_name 0)))
    (qss_one (qs_set (i := 1) nd rfl (qe_bin q_sub (qv_of_qe (qe_int)) (qv_name 1))))) (qss_nil))
    (qss_one (qs_ret (qe_tup (qa_cons (qe_bin (q_fdiv sr) (qv_name 0) (qv_name 2)) (qa_cons (qe_bin (q_fdiv sr) (qv_name 1) (qv_name 2)) (qa_nil)))))))))
theorem sc__law_is_integer : FnScope ["_law_value"] ["_law_value"] (defScope s__law_is_integer) := ⟨rfl, rfl, rfl, by decide +kernel, rfl, by decide +kernel, by decide +kernel⟩
theorem ok__law_is_integer {f : Addr} {fd : FuncData} (GR : Grd base P) (T : Txt K mg) (F : Fun K "_law_is_integer" "_law_is_integer" s__law_is_integer f fd) (hm : mg "_law_is_integer" = some (.ref f)) (hb : Binds K fd ["_law_value"] []) : DefOk P w K mg base 41 "_law_is_integer" 1 f__law_is_integer := by
  refine def_ok F sc__law_is_integer hm hb (fun cdv A outer s H E hr => ?_)
  have nd := (sc__law_is_integer).nd
  have hu64 := hr.units
  have sr := sr_def (outer := outer) GR hr (by first | decide | omega) rfl rfl
  exact qss_one (qs_ret (qe_and (qe_isi .int rfl T.b_isinstance (qv_name 0) rfl T.b_int (by decide +kernel)) (qe_one (qe_not (qe_isi .bool rfl T.b_isinstance (qv_name 0) rfl T.b_bool (by decide +kernel))))))
theorem sc__law_is_ratio : FnScope ["_law_value"] ["_law_value"] (defScope s__law_is_ratio) := ⟨rfl, rfl, rfl, by decide +kernel, rfl, by decide +kernel, by decide +kernel⟩
theorem ok__law_is_ratio {f : Addr} {fd : FuncData} (GR : Grd base P) (T : Txt K mg) (F : Fun K "_law_is_ratio" "_law_is_ratio" s__law_is_ratio f fd) (hm : mg "_law_is_ratio" = some (.ref f)) (hb : Binds K fd ["_law_value"] []) (G__law_is_integer : DefOk P w K mg base 41 "_law_is_integer" 1 f__law_is_integer) (G__law_low : DefOk P w K mg base 41 "_law_low" 2 f__law_low) : DefOk P w K mg base 42 "_law_is_ratio" 1 f__law_is_ratio := by
  refine def_ok F sc__law_is_ratio hm hb (fun cdv A outer s H E hr => ?_)
  have nd := (sc__law_is_ratio).nd
  have hu64 := hr.units
  have sr := sr_def (outer := outer) GR hr (by first | decide | omega) rfl rfl
  exact qss_cons (qs_if (qt_w (qw_or (qt_not (qt_val (qv_of_qe (qe_isi .tup rfl T.b_isinstance (qv_name 0) rfl T.b_tuple (by decide +kernel))))) (qw_or1 (qt_cmp (q_ne hu64) (qv_of_qe (qe_callB c_len rfl T.b_len (by decide +kernel) (qva_cons (qv_name 0) (qva_nil)))) (qv_of_qe (qe_int)) (nomark _))))) (qss_one (qs_ret (qe_bl))) (qss_nil))
    (qss_cons (qs_if (qt_w (qw_or (qt_not (qt_val (qv_of_qe (qe_call G__law_is_integer (hr.mono (by decide)) (qa_cons (qe_fz (qv_ix (qv_name 0) (qv_of_qe (qe_int)))) (qa_nil)))))) (qw_or (qt_not (qt_val (qv_of_qe (qe_call G__law_is_integer (hr.mono (by decide)) (qa_cons (qe_fz (qv_ix (qv_name 0) (qv_of_qe (qe_int)))) (qa_nil)))))) (qw_or1 (qt_cmp q_lt (qv_ix (qv_name 0) (qv_of_qe (qe_int))) (qv_of_qe (qe_int)) (nomark _)))))) (qss_one (qs_ret (qe_bl))) (qss_nil))
    (qss_one (qs_ret (qe_cmp (q_eq hu64) (qv_of_qe (qe_call G__law_low (hr.mono (by decide)) (qa_cons (qe_fz (qv_ix (qv_name 0) (qv_of_qe (qe_int)))) (qa_cons (qe_fz (qv_ix (qv_name 0) (qv_of_qe (qe_int)))) (qa_nil))))) (qv_name 0) (nomark _)))))
theorem sc__law_add : FnScope ["_law_a", "_law_b"] ["_law_a", "_law_b"] (defScope s__law_add) := ⟨rfl, rfl, rfl, by decide +kernel, rfl, by decide +kernel, by decide +kernel⟩
theorem ok__law_add {f : Addr} {fd : FuncData} (GR : Grd base P) (T : Txt K mg) (F : Fun K "_law_add" "_law_add" s__law_add f fd) (hm : mg "_law_add" = some (.ref f)) (hb : Binds K fd ["_law_a", "_law_b"] []) (G__law_low : DefOk P w K mg base 41 "_law_low" 2 f__law_low) : DefOk P w K mg base 42 "_law_add" 2 f__law_add := by
  refine def_ok F sc__law_add hm hb (fun cdv A outer s H E hr => ?_)
  have nd := (sc__law_add).nd
  have hu64 := hr.units
  have sr := sr_def (outer := outer) GR hr (by first | decide | omega) rfl rfl
  exact qss_one (qs_ret (qe_call G__law_low (hr.mono (by decide)) (qa_cons (qe_bin q_add (qv_of_qe (qe_bin q_mul (qv_ix (qv_name 0) (qv_of_qe (qe_int))) (qv_ix (qv_name 1) (qv_of_qe (qe_int))))) (qv_of_qe (qe_bin q_mul (qv_ix (qv_name 1) (qv_of_qe (qe_int))) (qv_ix (qv_name 0) (qv_of_qe (qe_int)))))) (qa_cons (qe_bin q_mul (qv_ix (qv_name 0) (qv_of_qe (qe_int))) (qv_ix (qv_name 1) (qv_of_qe (qe_int)))) (qa_nil)))))
theorem sc__law_mul : FnScope ["_law_a", "_law_b"] ["_law_a", "_law_b"] (defScope s__law_mul) := ⟨rfl, rfl, rfl, by decide +kernel, rfl, by decide +kernel, by decide +kernel⟩
theorem ok__law_mul {f : Addr} {fd : FuncData} (GR : Grd base P) (T : Txt K mg) (F : Fun K "_law_mul" "_law_mul" s__law_mul f fd) (hm : mg "_law_mul" = some (.ref f)) (hb : Binds K fd ["_law_a", "_law_b"] []) (G__law_low : DefOk P w K mg base 41 "_law_low" 2 f__law_low) : DefOk P w K mg base 42 "_law_mul" 2 f__law_mul := by
  refine def_ok F sc__law_mul hm hb (fun cdv A outer s H E hr => ?_)
  have nd := (sc__law_mul).nd
  have hu64 := hr.units
  have sr := sr_def (outer := outer) GR hr (by first | decide | omega) rfl rfl
  exact qss_one (qs_ret (qe_call G__law_low (hr.mono (by decide)) (qa_cons (qe_bin q_mul (qv_ix (qv_name 0) (qv_of_qe (qe_int))) (qv_ix (qv_name 1) (qv_of_qe (qe_int)))) (qa_cons (qe_bin q_mul (qv_ix (qv_name 0) (qv_of_qe (qe_int))) (qv_ix (qv_name 1) (qv_of_qe (qe_int)))) (qa_nil)))))
theorem sc__law_fraction : FnScope ["_law_draw"] ["_law_draw"] (defScope s__law_fraction) := ⟨rfl, rfl, rfl, by decide +kernel, rfl, by decide +kernel, by decide +kernel⟩
theorem ok__law_fraction {f : Addr} {fd : FuncData} (GR : Grd base P) (T : Txt K mg) (F : Fun K "_law_fraction" "_law_fraction" s__law_fraction f fd) (hm : mg "_law_fraction" = some (.ref f)) (hb : Binds K fd ["_law_draw"] []) (G__law_low : DefOk P w K mg base 41 "_law_low" 2 f__law_low) : DefOk P w K mg base 42 "_law_fraction" 1 f__law_fraction := by
  refine def_ok F sc__law_fraction hm hb (fun cdv A outer s H E hr => ?_)
  have nd := (sc__law_fraction).nd
  have hu64 := hr.units
  have sr := sr_def (outer := outer) GR hr (by first | decide | omega) rfl rfl
  exact qss_one (qs_ret (qe_call G__law_low (hr.mono (by decide)) (qa_cons (qe_bin q_sub (qv_of_qe (qe_bin q_mod (qv_of_qe (qe_callTy c_int rfl T.b_int (by decide +kernel) (qva_cons (qv_name 0) (qva_nil)))) (qv_of_qe (qe_int)))) (qv_of_qe (qe_int))) (qa_cons (qe_bin q_add (qv_of_qe (qe_int)) (qv_of_qe (qe_bin q_mod (qv_of_qe (qe_bin (q_fdiv sr) (qv_of_qe (qe_callTy c_int rfl T.b_int (by decide +kernel) (qva_cons (qv_name 0) (qva_nil)))) (qv_of_qe (qe_int)))) (qv_of_qe (qe_int))))) (qa_nil)))))
theorem sc__law_discount : FnScope ["_law_draw", "_law_q"] ["_law_draw"] (defScope s__law_discount) := ⟨rfl, rfl, rfl, by decide +kernel, rfl, by decide +kernel, by decide +kernel⟩
theorem ok__law_discount {f : Addr} {fd : FuncData} (GR : Grd base P) (T : Txt K mg) (F : Fun K "_law_discount" "_law_discount" s__law_discount f fd) (hm : mg "_law_discount" = some (.ref f)) (hb : Binds K fd ["_law_draw"] []) (G__law_low : DefOk P w K mg base 41 "_law_low" 2 f__law_low) : DefOk P w K mg base 42 "_law_discount" 1 f__law_discount := by
  refine def_ok F sc__law_discount hm hb (fun cdv A outer s H E hr => ?_)
  have nd := (sc__law_discount).nd
  have hu64 := hr.units
  have sr := sr_def (outer := outer) GR hr (by first | decide | omega) rfl rfl
  exact qss_cons (qs_set (i := 1) nd rfl (qe_bin q_add (qv_of_qe (qe_int)) (qv_of_qe (qe_bin q_mod (qv_of_qe (qe_callTy c_int rfl T.b_int (by decide +kernel) (qva_cons (qv_name 0) (qva_nil)))) (qv_of_qe (qe_int))))))
    (qss_one (qs_ret (qe_call G__law_low (hr.mono (by decide)) (qa_cons (qe_bin q_mod (qv_of_qe (qe_bin (q_fdiv sr) (qv_of_qe (qe_callTy c_int rfl T.b_int (by decide +kernel) (qva_cons (qv_name 0) (qva_nil)))) (qv_of_qe (qe_int)))) (qv_name 1)) (qa_cons (qe_name 1) (qa_nil))))))
theorem sc__law_game : FnScope ["_law_cell_here", "_law_most", "_law_great", "_law_draws_here", "_law_n", "_law_rewards", "_law_s", "_law_reward", "_law_moves", "_law_weights", "_law_t"] ["_law_cell_here", "_law_most", "_law_great"] (defScope s__law_game) := ⟨rfl, rfl, rfl, by decide +kernel, rfl, by decide +kernel, by decide +kernel⟩
theorem ok__law_game {f : Addr} {fd : FuncData} (GR : Grd base P) (T : Txt K mg) (F : Fun K "_law_game" "_law_game" s__law_game f fd) (hm : mg "_law_game" = some (.ref f)) (hb : Binds K fd ["_law_cell_here", "_law_most", "_law_great"] []) (G__law_draws : DefOk P w K mg base 41 "_law_draws" 2 f__law_draws) (G__law_fraction : DefOk P w K mg base 42 "_law_fraction" 1 f__law_fraction) (G__law_add : DefOk P w K mg base 42 "_law_add" 2 f__law_add) (G__law_low : DefOk P w K mg base 41 "_law_low" 2 f__law_low) : DefOk P w K mg base 43 "_law_game" 3 f__law_game := by
  refine def_ok F sc__law_game hm hb (fun cdv A outer s H E hr => ?_)
  have nd := (sc__law_game).nd
  have hu64 := hr.units
  have sr := sr_def (outer := outer) GR hr (by first | decide | omega) rfl rfl
  exact qss_cons (qs_set (i := 3) nd rfl (qe_call G__law_draws (hr.mono (by decide)) (qa_cons (qe_name 0) (qa_cons (qe_bin q_add (qv_of_qe (qe_bin q_add (qv_of_qe (qe_int)) (qv_name 1))) (qv_of_qe (qe_bin q_mul (qv_name 1) (qv_name 1)))) (qa_nil)))))
    (qss_cons (qs_set (i := 4) nd rfl (qe_bin q_add (qv_of_qe (qe_int)) (qv_of_qe (qe_bin q_mod (qv_of_qe (qe_callTy c_int rfl T.b_int (by decide +kernel) (qva_cons (qv_ix (qv_name 3) (qv_of_qe (qe_int))) (qva_nil)))) (qv_name 1)))))
    (qss_cons (qs_set (i := 5) nd rfl (qe_lst (qa_nil)))
    (qss_cons (qs_for PassesOwn.never rfl (qi_range1 rfl T.b_range (qva_cons (qv_name 4) (qva_nil))) (qg_name (i := 6) nd rfl) (qss_cons (qs_set (i := 7) nd rfl (qe_call G__law_fraction (hr.mono (by decide)) (qa_cons (qe_fz (qv_ix (qv_name 3) (qv_of_qe (qe_bin q_add (qv_of_qe (qe_int)) (qv_name 6))))) (qa_nil))))
    (qss_cons (qs_if (qt_val (qv_name 2)) (qss_one (qs_set (i := 7) nd rfl (qe_call G__law_add (hr.mono (by decide)) (qa_cons (qe_tup (qa_cons (qe_bin q_mul (qv_ix (qv_name 7) (qv_of_qe (qe_int))) (qv_of_qe (qe_bin q_pow (qv_of_qe (qe_int)) (qv_of_qe (qe_int))))) (qa_cons (qe_fz (qv_ix (qv_name 7) (qv_of_qe (qe_int)))) (qa_nil)))) (qa_cons (qe_tup (qa_cons (qe_bin q_mod (qv_of_qe (qe_callTy c_int rfl T.b_int (by decide +kernel) (qva_cons (qv_name 0) (qva_nil)))) (qv_of_qe (qe_bin q_pow (qv_of_qe (qe_int)) (qv_of_qe (qe_int))))) (qa_cons (qe_int) (qa_nil)))) (qa_nil)))))) (qss_nil))
    (qss_one (qs_append (i := 5) rfl (qe_name 7))))))
    (qss_cons (qs_set (i := 8) nd rfl (qe_lst (qa_nil)))
    (qss_cons (qs_for PassesOwn.never rfl (qi_range1 rfl T.b_range (qva_cons (qv_name 4) (qva_nil))) (qg_name (i := 6) nd rfl) (qss_cons (qs_set (i := 9) nd rfl (qe_lc [("_law_t", 10)] rfl nd (qi_range1 rfl T.b_range (qva_cons (qv_name 4) (qva_nil))) (by kernel_rfl) (fun _ _ _ _ _ => qg_name (i := 10) nd rfl) (fun _ _ _ _ _ => qts_nil) (fun _ _ _ _ _ => qe_bin q_mod (qv_of_qe (qe_callTy c_int rfl T.b_int (by decide +kernel) (qva_cons (qv_ix (qv_name 3) (qv_of_qe (qe_bin q_add (qv_of_qe (qe_bin q_add (qv_of_qe (qe_bin q_add (qv_of_qe (qe_int)) (qv_name 4))) (qv_of_qe (qe_bin q_mul (qv_name 4) (qv_name 6))))) (qv_name 10)))) (qva_nil)))) (qv_of_qe (qe_int)))))
    (qss_cons (qs_if (qt_cmp (q_eq hu64) (qv_of_qe (qe_callB (c_sum rfl) rfl T.b_sum (by decide +kernel) (qva_cons (qv_name 9) (qva_nil)))) (qv_of_qe (qe_int)) (nomark _)) (qss_one (qs_setIx (i := 9) rfl (qe_int) (qv_of_qe (qe_bin q_mod (qv_of_qe (qe_callTy c_int rfl T.b_int (by decide +kernel) (qva_cons (qv_of_qe (qe_bin q_add (qv_name 6) (qv_of_qe (qe_int)))) (qva_nil)))) (qv_name 4))))) (qss_nil))
    (qss_one (qs_append (i := 8) rfl (qe_callTy c_tuple rfl T.b_tuple (by decide +kernel) (qva_cons (qv_of_qe (qe_lc [("_law_t", 10)] rfl nd (qi_range1 rfl T.b_range (qva_cons (qv_name 4) (qva_nil))) (by kernel_rfl) (fun _ _ _ _ _ => qg_name (i := 10) nd rfl) (fun _ _ _ _ _ => qts_one (qt_cmp q_gt (qv_ix (qv_name 9) (qv_name 10)) (qv_of_qe (qe_int)) (nomark _))) (fun _ _ _ _ _ => qe_tup (qa_cons (qe_name 10) (qa_cons (qe_call G__law_low (hr.mono (by decide)) (qa_cons (qe_fz (qv_ix (qv_name 9) (qv_name 10))) (qa_cons (qe_callB (c_sum rfl) rfl T.b_sum (by decide +kernel) (qva_cons (qv_name 9) (qva_nil))) (qa_nil)))) (qa_nil)))))) (qva_nil))))))))
    (qss_one (qs_ret (qe_tup (qa_cons (qe_callTy c_tuple rfl T.b_tuple (by decide +kernel) (qva_cons (qv_name 5) (qva_nil))) (qa_cons (qe_callTy c_tuple rfl T.b_tuple (by decide +kernel) (qva_cons (qv_name 8) (qva_nil))) (qa_nil)))))))))))
theorem sc__law_are_ratios : FnScope ["_law_values", "_law_count", "_law_value"] ["_law_values", "_law_count"] (defScope s__law_are_ratios) := ⟨rfl, rfl, rfl, by decide +kernel, rfl, by decide +kernel, by decide +kernel⟩
theorem ok__law_are_ratios {f : Addr} {fd : FuncData} (GR : Grd base P) (T : Txt K mg) (F : Fun K "_law_are_ratios" "_law_are_ratios" s__law_are_ratios f fd) (hm : mg "_law_are_ratios" = some (.ref f)) (hb : Binds K fd ["_law_values", "_law_count"] []) (G__law_is_ratio : DefOk P w K mg base 42 "_law_is_ratio" 1 f__law_is_ratio) : DefOk P w K mg base 43 "_law_are_ratios" 2 f__law_are_ratios := by
  refine def_ok F sc__law_are_ratios hm hb (fun cdv A outer s H E hr => ?_)
  have nd := (sc__law_are_ratios).nd
  have hu64 := hr.units
  have sr := sr_def (outer := outer) GR hr (by first | decide | omega) rfl rfl
  exact qss_cons (qs_if (qt_w (qw_or (qt_not (qt_val (qv_of_qe (qe_isi .tup rfl T.b_isinstance (qv_name 0) rfl T.b_tuple (by decide +kernel))))) (qw_or1 (qt_cmp (q_ne hu64) (qv_of_qe (qe_callB c_len rfl T.b_len (by decide +kernel) (qva_cons (qv_name 0) (qva_nil)))) (qv_name 1) (nomark _))))) (qss_one (qs_ret (qe_bl))) (qss_nil))
    (qss_cons (qs_for PassesOwn.never rfl (qi_frz (qe_name 0)) (qg_name (i := 2) nd rfl) (qss_one (qs_if (qt_not (qt_val (qv_of_qe (qe_call G__law_is_ratio (hr.mono (by decide)) (qa_cons (qe_name 2) (qa_nil)))))) (qss_one (qs_ret (qe_bl))) (qss_nil))))
    (qss_one (qs_ret (qe_bl))))
theorem sc__law_small_company : FnScope ["_law_script", "_law_first", "_law_row", "_law_shape", "_law_sizes", "_law_places", "_law_k", "_law_game_here"] ["_law_script", "_law_first"] (defScope s__law_small_company) := ⟨rfl, rfl, rfl, by decide +kernel, rfl, by decide +kernel, by decide +kernel⟩
theorem ok__law_small_company {f : Addr} {fd : FuncData} (GR : Grd base P) (T : Txt K mg) (F : Fun K "_law_small_company" "_law_small_company" s__law_small_company f fd) (hm : mg "_law_small_company" = some (.ref f)) (hb : Binds K fd ["_law_script", "_law_first"] []) (G__law_draws : DefOk P w K mg base 41 "_law_draws" 2 f__law_draws) (G__law_cell : DefOk P w K mg base 41 "_law_cell" 2 f__law_cell) (G__law_game : DefOk P w K mg base 43 "_law_game" 3 f__law_game) : DefOk P w K mg base 44 "_law_small_company" 2 f__law_small_company := by
  refine def_ok F sc__law_small_company hm hb (fun cdv A outer s H E hr => ?_)
  have nd := (sc__law_small_company).nd
  have hu64 := hr.units
  have sr := sr_def (outer := outer) GR hr (by first | decide | omega) rfl rfl
  exact qss_cons (qs_set (i := 2) nd rfl (qe_call G__law_draws (hr.mono (by decide)) (qa_cons (qe_call G__law_cell (hr.mono (by decide)) (qa_cons (qe_name 0) (qa_cons (qe_name 1) (qa_nil)))) (qa_cons (qe_int) (qa_nil)))))
    (qss_cons (qs_set (i := 3) nd rfl (qe_bin q_mod (qv_of_qe (qe_callTy c_int rfl T.b_int (by decide +kernel) (qva_cons (qv_ix (qv_name 2) (qv_of_qe (qe_int))) (qva_nil)))) (qv_of_qe (qe_int))))
    (qss_cons (qs_set (i := 4) nd rfl (qe_lst (qa_cons (qe_int) (qa_cons (qe_int) (qa_nil)))))
    (qss_cons (qs_if (qt_cmp (q_eq hu64) (qv_name 3) (qv_of_qe (qe_int)) (nomark _)) (qss_one (qs_set (i := 4) nd rfl (qe_lst (qa_cons (qe_int) (qa_cons (qe_int) (qa_nil)))))) (qss_nil))
    (qss_cons (qs_if (qt_cmp (q_eq hu64) (qv_name 3) (qv_of_qe (qe_int)) (nomark _)) (qss_one (qs_set (i := 4) nd rfl (qe_lst (qa_cons (qe_int) (qa_nil))))) (qss_nil))
    (qss_cons (qs_if (qt_cmp (q_eq hu64) (qv_name 3) (qv_of_qe (qe_int)) (nomark _)) (qss_one (qs_set (i := 4) nd rfl (qe_lst (qa_cons (qe_int) (qa_cons (qe_int) (qa_nil)))))) (qss_nil))
    (qss_cons (qs_if (qt_cmp (q_eq hu64) (qv_name 3) (qv_of_qe (qe_int)) (nomark _)) (qss_one (qs_set (i := 4) nd rfl (qe_lst (qa_cons (qe_int) (qa_cons (qe_int) (qa_cons (qe_int) (qa_nil))))))) (qss_nil))
    (qss_cons (qs_set (i := 5) nd rfl (qe_lst (qa_nil)))
    (qss_cons (qs_for PassesOwn.never rfl (qi_range1 rfl T.b_range (qva_cons (qv_of_qe (qe_callB c_len rfl T.b_len (by decide +kernel) (qva_cons (qv_name 4) (qva_nil)))) (qva_nil))) (qg_name (i := 6) nd rfl) (qss_cons (qs_set (i := 7) nd rfl (qe_call G__law_game (hr.mono (by decide)) (qa_cons (qe_call G__law_cell (hr.mono (by decide)) (qa_cons (qe_name 0) (qa_cons (qe_bin q_add (qv_of_qe (qe_bin q_add (qv_name 1) (qv_of_qe (qe_int)))) (qv_name 6)) (qa_nil)))) (qa_cons (qe_fz (qv_ix (qv_name 4) (qv_name 6))) (qa_cons (qe_bl) (qa_nil))))))
    (qss_one (qs_append (i := 5) rfl (qe_tup (qa_cons (qe_name 7) (qa_cons (qe_bin q_mod (qv_of_qe (qe_callTy c_int rfl T.b_int (by decide +kernel) (qva_cons (qv_ix (qv_name 2) (qv_of_qe (qe_bin q_add (qv_of_qe (qe_int)) (qv_name 6)))) (qva_nil)))) (qv_of_qe (qe_callB c_len rfl T.b_len (by decide +kernel) (qva_cons (qv_ix (qv_name 7) (qv_of_qe (qe_int))) (qva_nil))))) (qa_nil))))))))
    (qss_one (qs_ret (qe_callTy c_tuple rfl T.b_tuple (by decide +kernel) (qva_cons (qv_name 5) (qva_nil)))))))))))))
theorem sc__law_joints : FnScope ["_law_games", "_law_rows", "_law_game_here", "_law_longer", "_law_row", "_law_state"] ["_law_games"] (defScope s__law_joints) := ⟨rfl, rfl, rfl, by decide +kernel, rfl, by decide +kernel, by decide +kernel⟩
theorem ok__law_joints {f : Addr} {fd : FuncData} (GR : Grd base P) (T : Txt K mg) (F : Fun K "_law_joints" "_law_joints" s__law_joints f fd) (hm : mg "_law_joints" = some (.ref f)) (hb : Binds K fd ["_law_games"] []) : DefOk P w K mg base 41 "_law_joints" 1 f__law_joints := by
  refine def_ok F sc__law_joints hm hb (fun cdv A outer s H E hr => ?_)
  have nd := (sc__law_joints).nd
  have hu64 := hr.units
  have sr := sr_def (outer := outer) GR hr (by first | decide | omega) rfl rfl
  exact qss_cons (qs_set (i := 1) nd rfl (qe_lst (qa_cons (qe_tup (qa_nil)) (qa_nil))))
    (qss_cons (qs_for PassesOwn.never rfl (qi_frz (qe_name 0)) (qg_name (i := 2) nd rfl) (qss_cons (qs_set (i := 3) nd rfl (qe_lst (qa_nil)))
    (qss_cons (qs_for PassesOwn.never rfl (qi_frz (qe_name 1)) (qg_name (i := 4) nd rfl) (qss_one (qs_for PassesOwn.never rfl (qi_range1 rfl T.b_range (qva_cons (qv_of_qe (qe_callB c_len rfl T.b_len (by decide +kernel) (qva_cons (qv_ix (qv_name 2) (qv_of_qe (qe_int))) (qva_nil)))) (qva_nil))) (qg_name (i := 5) nd rfl) (qss_one (qs_append (i := 3) rfl (qe_bin q_add (qv_name 4) (qv_of_qe (qe_tup (qa_cons (qe_name 5) (qa_nil))))))))))
    (qss_one (qs_set (i := 1) nd rfl (qe_callTy c_list rfl T.b_list (by decide +kernel) (qva_cons (qv_name 3) (qva_nil))))))))
    (qss_one (qs_ret (qe_name 1))))
theorem sc__law_pairs : FnScope ["_law_company", "_law_pairs_here", "_law_position", "_law_state"] ["_law_company"] (defScope s__law_pairs) := ⟨rfl, rfl, rfl, by decide +kernel, rfl, by decide +kernel, by decide +kernel⟩
theorem ok__law_pairs {f : Addr} {fd : FuncData} (GR : Grd base P) (T : Txt K mg) (F : Fun K "_law_pairs" "_law_pairs" s__law_pairs f fd) (hm : mg "_law_pairs" = some (.ref f)) (hb : Binds K fd ["_law_company"] []) : DefOk P w K mg base 41 "_law_pairs" 1 f__law_pairs := by
  refine def_ok F sc__law_pairs hm hb (fun cdv A outer s H E hr => ?_)
  have nd := (sc__law_pairs).nd
  have hu64 := hr.units
  have sr := sr_def (outer := outer) GR hr (by first | decide | omega) rfl rfl
  exact qss_cons (qs_set (i := 1) nd rfl (qe_lst (qa_nil)))
    (qss_cons (qs_for PassesOwn.never rfl (qi_range1 rfl T.b_range (qva_cons (qv_of_qe (qe_callB c_len rfl T.b_len (by decide +kernel) (qva_cons (qv_name 0) (qva_nil)))) (qva_nil))) (qg_name (i := 2) nd rfl) (qss_one (qs_for PassesOwn.never rfl (qi_range1 rfl T.b_range (qva_cons (qv_of_qe (qe_callB c_len rfl T.b_len (by decide +kernel) (qva_cons (qv_ix (qv_ix (qv_ix (qv_name 0) (qv_name 2)) (qv_of_qe (qe_int))) (qv_of_qe (qe_int))) (qva_nil)))) (qva_nil))) (qg_name (i := 3) nd rfl) (qss_one (qs_append (i := 1) rfl (qe_tupKs (qa_cons (qe_name 2) (qa_cons (qe_name 3) (qa_nil)))))))))
    (qss_one (qs_ret (qe_name 1))))
theorem sc__law_order : FnScope ["_law_cell_here", "_law_pairs_here", "_law_draws_here", "_law_rest", "_law_order_here", "_law_k"] ["_law_cell_here", "_law_pairs_here"] (defScope s__law_order) := ⟨rfl, rfl, rfl, by decide +kernel, rfl, by decide +kernel, by decide +kernel⟩
theorem ok__law_order {f : Addr} {fd : FuncData} (GR : Grd base P) (T : Txt K mg) (F : Fun K "_law_order" "_law_order" s__law_order f fd) (hm : mg "_law_order" = some (.ref f)) (hb : Binds K fd ["_law_cell_here", "_law_pairs_here"] []) (G__law_draws : DefOk P w K mg base 41 "_law_draws" 2 f__law_draws) : DefOk P w K mg base 42 "_law_order" 2 f__law_order := by
  refine def_ok F sc__law_order hm hb (fun cdv A outer s H E hr => ?_)
  have nd := (sc__law_order).nd
  have hu64 := hr.units
  have sr := sr_def (outer := outer) GR hr (by first | decide | omega) rfl rfl
  exact qss_cons (qs_set (i := 2) nd rfl (qe_call G__law_draws (hr.mono (by decide)) (qa_cons (qe_name 0) (qa_cons (qe_callB c_len rfl T.b_len (by decide +kernel) (qva_cons (qv_name 1) (qva_nil))) (qa_nil)))))
    (qss_cons (qs_set (i := 3) nd rfl (qe_callTy c_list rfl T.b_list (by decide +kernel) (qva_cons (qv_name 1) (qva_nil))))
    (qss_cons (qs_set (i := 4) nd rfl (qe_lst (qa_nil)))
    (qss_cons (qs_for PassesOwn.never rfl (qi_range1 rfl T.b_range (qva_cons (qv_of_qe (qe_callB c_len rfl T.b_len (by decide +kernel) (qva_cons (qv_name 1) (qva_nil)))) (qva_nil))) (qg_name (i := 5) nd rfl) (qss_one (qs_appendW (j := 4) rfl (qew_popAt (i := 3) rfl (qv_of_qe (qe_bin q_mod (qv_of_qe (qe_callTy c_int rfl T.b_int (by decide +kernel) (qva_cons (qv_ix (qv_name 2) (qv_name 5)) (qva_nil)))) (qv_of_qe (qe_callB c_len rfl T.b_len (by decide +kernel) (qva_cons (qv_name 3) (qva_nil))))))))))
    (qss_one (qs_ret (qe_callTy c_tupX rfl T.b_tuple (by decide +kernel) (qva_cons (qv_name 4) (qva_nil))))))))
theorem sc__law_dot : FnScope ["_law_rows", "_law_values", "_law_result", "_law_k"] ["_law_rows", "_law_values"] (defScope s__law_dot) := ⟨rfl, rfl, rfl, by decide +kernel, rfl, by decide +kernel, by decide +kernel⟩
theorem ok__law_dot {f : Addr} {fd : FuncData} (GR : Grd base P) (T : Txt K mg) (F : Fun K "_law_dot" "_law_dot" s__law_dot f fd) (hm : mg "_law_dot" = some (.ref f)) (hb : Binds K fd ["_law_rows", "_law_values"] []) (G__law_add : DefOk P w K mg base 42 "_law_add" 2 f__law_add) (G__law_mul : DefOk P w K mg base 42 "_law_mul" 2 f__law_mul) : DefOk P w K mg base 43 "_law_dot" 2 f__law_dot := by
  refine def_ok F sc__law_dot hm hb (fun cdv A outer s H E hr => ?_)
  have nd := (sc__law_dot).nd
  have hu64 := hr.units
  have sr := sr_def (outer := outer) GR hr (by first | decide | omega) rfl rfl
  exact qss_cons (qs_set (i := 2) nd rfl (qe_tup (qa_cons (qe_int) (qa_cons (qe_int) (qa_nil)))))
    (qss_cons (qs_for PassesOwn.never rfl (qi_range1 rfl T.b_range (qva_cons (qv_of_qe (qe_callB c_len rfl T.b_len (by decide +kernel) (qva_cons (qv_name 1) (qva_nil)))) (qva_nil))) (qg_name (i := 3) nd rfl) (qss_one (qs_set (i := 2) nd rfl (qe_call G__law_add (hr.mono (by decide)) (qa_cons (qe_name 2) (qa_cons (qe_call G__law_mul (hr.mono (by decide)) (qa_cons (qe_fz (qv_ix (qv_name 0) (qv_name 3))) (qa_cons (qe_fz (qv_ix (qv_name 1) (qv_name 3))) (qa_nil)))) (qa_nil)))))))
    (qss_one (qs_ret (qe_name 2))))
theorem sc__law_followed : FnScope ["_law_games", "_law_order_here", "_law_choices", "_law_joint", "_law_ranks", "_law_position"] ["_law_games", "_law_order_here"] (defScope s__law_followed) := ⟨rfl, rfl, rfl, by decide +kernel, rfl, by decide +kernel, by decide +kernel⟩
theorem ok__law_followed {f : Addr} {fd : FuncData} (GR : Grd base P) (T : Txt K mg) (F : Fun K "_law_followed" "_law_followed" s__law_followed f fd) (hm : mg "_law_followed" = some (.ref f)) (hb : Binds K fd ["_law_games", "_law_order_here"] []) (G__law_joints : DefOk P w K mg base 41 "_law_joints" 1 f__law_joints) : DefOk P w K mg base 42 "_law_followed" 2 f__law_followed := by
  refine def_ok F sc__law_followed hm hb (fun cdv A outer s H E hr => ?_)
  have nd := (sc__law_followed).nd
  have hu64 := hr.units
  have sr := sr_def (outer := outer) GR hr (by first | decide | omega) rfl rfl
  exact qss_cons (qs_set (i := 2) nd rfl (qe_lst (qa_nil)))
    (qss_cons (qs_for PassesOwn.never rfl (qi_frz (qe_call G__law_joints (hr.mono (by decide)) (qa_cons (qe_name 0) (qa_nil)))) (qg_name (i := 3) nd rfl) (qss_cons (qs_setLc (i := 4) [("_law_position", 5)] rfl nd rfl rfl (sw_true rfl rfl rfl (by decide +kernel)) (qi_range1 rfl T.b_range (qva_cons (qv_of_qe (qe_callB c_len rfl T.b_len (by decide +kernel) (qva_cons (qv_name 0) (qva_nil)))) (qva_nil))) (by kernel_rfl) (fun _ _ _ _ _ => qg_name (i := 5) nd rfl) (fun _ _ _ _ _ => qts_nil) (fun _ _ _ _ _ => qe_indexT (roomU65 hr) (qv_name 1) (qv_of_qe (qe_tup (qa_cons (qe_name 5) (qa_cons (qe_fz (qv_ix (qv_name 3) (qv_name 5))) (qa_nil)))))))
    (qss_one (qs_append (i := 2) rfl (qe_index (roomU65 hr) (qv_name 4) (qv_of_qe (qe_callB (c_minL rfl) rfl T.b_min (by decide +kernel) (qva_cons (qv_name 4) (qva_nil)))))))))
    (qss_one (qs_ret (qe_callTy c_tuple rfl T.b_tuple (by decide +kernel) (qva_cons (qv_name 2) (qva_nil))))))
theorem sc_law : FnScope ["_law_script", "_law_company", "_law_discount_here", "_law_games", "_law_pairs_here", "_law_k", "_law_order_here", "_law_visits", "_law_at", "_law_turned", "_law_draws_here", "_law_row", "_law_gain", "_law_place", "_law_draw", "_law_pair"] ["_law_script"] (defScope s_law) := ⟨rfl, rfl, rfl, by decide +kernel, rfl, by decide +kernel, by decide +kernel⟩
theorem ok_law {f : Addr} {fd : FuncData} (GR : Grd base P) (T : Txt K mg) (F : Fun K "law" "law" s_law f fd) (G__law_small_company : DefOk P w K mg base 44 "_law_small_company" 2 f__law_small_company) (G__law_discount : DefOk P w K mg base 42 "_law_discount" 1 f__law_discount) (G__law_head : DefOk P w K mg base 42 "_law_head" 1 f__law_head) (G__law_pairs : DefOk P w K mg base 41 "_law_pairs" 1 f__law_pairs) (G__law_order : DefOk P w K mg base 42 "_law_order" 2 f__law_order) (G__law_cell : DefOk P w K mg base 41 "_law_cell" 2 f__law_cell) (G_order_visits : DefOk P w K mg base 48 "order_visits" 3 f_order_visits) (G__law_are_ratios : DefOk P w K mg base 43 "_law_are_ratios" 2 f__law_are_ratios) (G_choice_visits : DefOk P w K mg base 47 "choice_visits" 3 f_choice_visits) (G__law_followed : DefOk P w K mg base 42 "_law_followed" 2 f__law_followed) (G__law_draws : DefOk P w K mg base 41 "_law_draws" 2 f__law_draws) (G__law_fraction : DefOk P w K mg base 42 "_law_fraction" 1 f__law_fraction) (G_visits_gain : DefOk P w K mg base 45 "visits_gain" 2 f_visits_gain) (G__law_is_ratio : DefOk P w K mg base 42 "_law_is_ratio" 1 f__law_is_ratio) (G__law_dot : DefOk P w K mg base 43 "_law_dot" 2 f__law_dot) : FnOk P w K mg base CX0 49 f fd ["_law_script"] (spM K 1 f_law) := by
  refine fn_okM F sc_law (fun cdv A outer s H E hr => ?_)
  have nd := (sc_law).nd
  have hu64 := hr.units
  have sr := sr_def (outer := outer) GR hr (by first | decide | omega) rfl rfl
  exact qss_cons (qs_set (i := 1) nd rfl (qe_call G__law_small_company (hr.mono (by decide)) (qa_cons (qe_name 0) (qa_cons (qe_int) (qa_nil)))))
    (qss_cons (qs_set (i := 2) nd rfl (qe_call G__law_discount (hr.mono (by decide)) (qa_cons (qe_fz (qv_ix (qv_of_qe (qe_call G__law_head (hr.mono (by decide)) (qa_cons (qe_name 0) (qa_nil)))) (qv_of_qe (qe_int)))) (qa_nil))))
    (qss_cons (qs_set (i := 3) nd rfl (qe_callTy c_tuple rfl T.b_tuple (by decide +kernel) (qva_cons (qv_of_qe (qe_lc [("_law_place", 13)] rfl nd (qi_vw (qv_name 1)) (by kernel_rfl) (fun _ _ _ _ _ => qg_name (i := 13) nd rfl) (fun _ _ _ _ _ => qts_nil) (fun _ _ _ _ _ => qe_fz (qv_ix (qv_name 13) (qv_of_qe (qe_int)))))) (qva_nil))))
    (qss_cons (qs_set (i := 4) nd rfl (qe_call G__law_pairs (hr.mono (by decide)) (qa_cons (qe_name 1) (qa_nil))))
    (qss_cons (qs_for PassesOwn.never rfl (qi_range1 rfl T.b_range (qva_cons (qv_of_qe (qe_int)) (qva_nil))) (qg_name (i := 5) nd rfl) (qss_cons (qs_set (i := 6) nd rfl (qe_call G__law_order (hr.mono (by decide)) (qa_cons (qe_call G__law_cell (hr.mono (by decide)) (qa_cons (qe_name 0) (qa_cons (qe_bin q_add (qv_of_qe (qe_int)) (qv_name 5)) (qa_nil)))) (qa_cons (qe_name 4) (qa_nil)))))
    (qss_cons (qs_set (i := 7) nd rfl (qe_call G_order_visits (hr.mono (by decide)) (qa_cons (qe_name 1) (qa_cons (qe_unx (qe_name 6)) (qa_cons (qe_name 2) (qa_nil))))))
    (qss_cons (qs_if (qt_not (qt_val (qv_of_qe (qe_call G__law_are_ratios (hr.mono (by decide)) (qa_cons (qe_name 7) (qa_cons (qe_callB c_len rfl T.b_len (by decide +kernel) (qva_cons (qv_name 4) (qva_nil))) (qa_nil))))))) (qss_one (qs_ret (qe_bl))) (qss_nil))
    (qss_cons (qs_if (qt_cmp (q_ne hu64) (qv_name 7) (qv_of_qe (qe_call G_choice_visits (hr.mono (by decide)) (qa_cons (qe_name 1) (qa_cons (qe_call G__law_followed (hr.mono (by decide)) (qa_cons (qe_name 3) (qa_cons (qe_unkX (qe_name 6)) (qa_nil)))) (qa_cons (qe_name 2) (qa_nil)))))) (nomark _)) (qss_one (qs_ret (qe_bl))) (qss_nil))
    (qss_one (qs_for PassesOwn.never rfl (qi_range1 rfl T.b_range (qva_cons (qv_of_qe (qe_bin q_sub (qv_of_qe (qe_callB c_len rfl T.b_len (by decide +kernel) (qva_cons (qv_unx (qv_name 6)) (qva_nil)))) (qv_of_qe (qe_int)))) (qva_nil))) (qg_name (i := 8) nd rfl) (qss_one (qs_if (qt_cmp (q_eq hu64) (qv_ix (qv_unk1 (qv_ix (qv_unx (qv_name 6)) (qv_name 8))) (qv_of_qe (qe_int))) (qv_ix (qv_unk1 (qv_ix (qv_unx (qv_name 6)) (qv_of_qe (qe_bin q_add (qv_name 8) (qv_of_qe (qe_int)))))) (qv_of_qe (qe_int))) (nomark _)) (qss_cons (qs_set (i := 9) nd rfl (qe_bin q_add (qv_of_qe (qe_bin q_add (qv_of_qe (qe_slice (qv_unx (qv_name 6)) (qo_none) (qo_some (qv_name 8)))) (qv_of_qe (qe_tup (qa_cons (qe_fz (qv_ix (qv_unx (qv_name 6)) (qv_of_qe (qe_bin q_add (qv_name 8) (qv_of_qe (qe_int)))))) (qa_cons (qe_fz (qv_ix (qv_unx (qv_name 6)) (qv_name 8))) (qa_nil))))))) (qv_of_qe (qe_slice (qv_unx (qv_name 6)) (qo_some (qv_of_qe (qe_bin q_add (qv_name 8) (qv_of_qe (qe_int))))) (qo_none)))))
    (qss_cons (qs_if (qt_cmp (q_ne hu64) (qv_of_qe (qe_call G_order_visits (hr.mono (by decide)) (qa_cons (qe_name 1) (qa_cons (qe_name 9) (qa_cons (qe_name 2) (qa_nil)))))) (qv_name 7) (nomark _)) (qss_one (qs_ret (qe_bl))) (qss_nil))
    (qss_one (qs_break)))) (qss_nil))))))))))
    (qss_cons (qs_set (i := 10) nd rfl (qe_call G__law_draws (hr.mono (by decide)) (qa_cons (qe_call G__law_cell (hr.mono (by decide)) (qa_cons (qe_name 0) (qa_cons (qe_int) (qa_nil)))) (qa_cons (qe_callB c_len rfl T.b_len (by decide +kernel) (qva_cons (qv_name 4) (qva_nil))) (qa_nil)))))
    (qss_cons (qs_set (i := 11) nd rfl (qe_callTy c_tuple rfl T.b_tuple (by decide +kernel) (qva_cons (qv_of_qe (qe_lc [("_law_draw", 14)] rfl nd (qi_vw (qv_name 10)) (by kernel_rfl) (fun _ _ _ _ _ => qg_name (i := 14) nd rfl) (fun _ _ _ _ _ => qts_nil) (fun _ _ _ _ _ => qe_call G__law_fraction (hr.mono (by decide)) (qa_cons (qe_name 14) (qa_nil))))) (qva_nil))))
    (qss_cons (qs_set (i := 12) nd rfl (qe_call G_visits_gain (hr.mono (by decide)) (qa_cons (qe_name 1) (qa_cons (qe_name 11) (qa_nil)))))
    (qss_cons (qs_if (qt_not (qt_val (qv_of_qe (qe_call G__law_is_ratio (hr.mono (by decide)) (qa_cons (qe_name 12) (qa_nil)))))) (qss_one (qs_ret (qe_bl))) (qss_nil))
    (qss_one (qs_ret (qe_cmp (q_eq hu64) (qv_name 12) (qv_of_qe (qe_call G__law_dot (hr.mono (by decide)) (qa_cons (qe_lc [("_law_pair", 15)] rfl nd (qi_vw (qv_name 4)) (by kernel_rfl) (fun _ _ _ _ _ => qg_name (i := 15) nd rfl) (fun _ _ _ _ _ => qts_nil) (fun _ _ _ _ _ => qe_fz (qv_ix (qv_ix (qv_ix (qv_ix (qv_name 1) (qv_ix (qv_unk1 (qv_name 15)) (qv_of_qe (qe_int)))) (qv_of_qe (qe_int))) (qv_of_qe (qe_int))) (qv_ix (qv_unk1 (qv_name 15)) (qv_of_qe (qe_int)))))) (qa_cons (qe_name 11) (qa_nil))))) (nomark _))))))))))))
end
end Lw
set_option Elab.async false
set_option linter.all false
set_option maxRecDepth 100000
set_option maxHeartbeats 1000000
namespace Lw
open PySem L2 Q
theorem jnt_len_snoc (ns : List Nat) (n : Nat) : (jnt (ns ++ [n])).length = (jnt ns).length * n := by
  rw [jnt_snoc]
  generalize jnt ns = rows
  induction rows with
  | nil => simp
  | cons r rows ih =>
    rw [List.flatMap_cons, List.length_append, ih, List.length_map, List.length_range, List.length_cons, Nat.add_mul]
    omega
theorem bmx60 : ∀ m, m ≤ 6 → bmx (60, 60) m 200000 = true := by
  intro m hm
  match m, hm with
  | 0, _ => decide +kernel
  | 1, _ => decide +kernel
  | 2, _ => decide +kernel
  | 3, _ => decide +kernel
  | 4, _ => decide +kernel
  | 5, _ => decide +kernel
  | 6, _ => decide +kernel
theorem jnt6 {ps : List Plc} (hs : ScOk ps) (h5 : (pairsT ps ps.length).length ≤ 5) : (jnt (nst ps)).length ≤ 6 ∧ (jnt (nst ps)).length ≠ 0 := by
  rw [pairsT_sum ps _ (Nat.le_refl _), List.take_length] at h5
  have hl := hs.len
  have hn : ∀ p ∈ ps, 1 ≤ p.n ∧ p.n ≤ 3 := fun p hp => by
    have := (hs.ok p hp).g.ok.n0
    have := hs.n3 p hp
    omega
  match ps, hl, hn, h5 with
  | [a], _, hn, h5 =>
    have h1 := hn a (by simp)
    have e : (jnt (nst [a])).length = 1 * a.n := jnt_len_snoc [] a.n
    rw [e]; omega
  | [a, c], _, hn, h5 =>
    have h1 := hn a (by simp)
    have h2 := hn c (by simp)
    have h5 : a.n + (c.n + 0) ≤ 5 := h5
    have e : (jnt (nst [a, c])).length = (1 * a.n) * c.n := (jnt_len_snoc [a.n] c.n).trans (by rw [show (jnt [a.n]).length = 1 * a.n from jnt_len_snoc [] a.n])
    rw [e]
    have q1 : a.n = 1 ∨ a.n = 2 ∨ a.n = 3 := by omega
    rcases q1 with q | q | q <;> rw [q] at h5 ⊢ <;> omega
  | [a, c, d], _, hn, h5 =>
    have h1 := hn a (by simp)
    have h2 := hn c (by simp)
    have h3 := hn d (by simp)
    have h5 : a.n + (c.n + (d.n + 0)) ≤ 5 := h5
    have e : (jnt (nst [a, c, d])).length = ((1 * a.n) * c.n) * d.n := (jnt_len_snoc [a.n, c.n] d.n).trans (by rw [show (jnt [a.n, c.n]).length = 1 * a.n * c.n from (jnt_len_snoc [a.n] c.n).trans (by rw [show (jnt [a.n]).length = 1 * a.n from jnt_len_snoc [] a.n])])
    rw [e]
    have q1 : a.n = 1 ∨ a.n = 2 ∨ a.n = 3 := by omega
    have q2 : c.n = 1 ∨ c.n = 2 ∨ c.n = 3 := by omega
    rcases q1 with q | q | q <;> rcases q2 with q' | q' | q' <;> rw [q, q'] at h5 ⊢ <;> omega
theorem pairsT_nodup (ps : List Plc) : ∀ k, k ≤ ps.length → (pairsT ps k).Nodup
  | 0, _ => List.nodup_nil
  | k + 1, hk => by
    have hp := List.getElem?_eq_getElem (show k < ps.length by omega)
    rw [pairsT_succ hp, List.nodup_append]
    refine ⟨pairsT_nodup ps k (by omega), ?_, fun a ha c hc e => ?_⟩
    · rw [List.Nodup, List.pairwise_map]
      exact (List.nodup_range (n := (ps[k]).n)).imp fun {x y} h e => h (Prod.mk.inj e).2
    · obtain ⟨_, _, _, h3⟩ := pairsT_of k (by omega) a ha
      obtain ⟨s, _, rfl⟩ := List.mem_map.mp hc
      rw [e] at h3
      exact absurd h3 (Nat.lt_irrefl k)
theorem swap_lt {a c x y : Nat × Nat} (hac : a ≠ c) (h1 : ¬ (x = a ∧ y = c)) (h2 : ¬ (x = c ∧ y = a)) (B : List (Nat × Nat)) : ∀ A : List (Nat × Nat), ((A ++ a :: c :: B).idxOf x < (A ++ a :: c :: B).idxOf y ↔ (A ++ c :: a :: B).idxOf x < (A ++ c :: a :: B).idxOf y)
  | [] => by
    simp only [List.nil_append, List.idxOf_cons]
    by_cases x1 : a = x
    · by_cases y1 : a = y
      · subst x1; subst y1; simp
      · have y2 : c ≠ y := fun e => h1 ⟨x1.symm, e.symm⟩
        have x2 : c ≠ x := fun e => hac (x1.trans e.symm)
        have b1 : (a == x) = true := by simpa using x1
        have b2 : (a == y) = false := by simpa using y1
        have b3 : (c == y) = false := by simpa using y2
        have b4 : (c == x) = false := by simpa using x2
        simp only [b1, b2, b3, b4, cond_true, cond_false]
        omega
    · have b1 : (a == x) = false := by simpa using x1
      by_cases x2 : c = x
      · have b4 : (c == x) = true := by simpa using x2
        have y1 : a ≠ y := fun e => h2 ⟨x2.symm, e.symm⟩
        have b2 : (a == y) = false := by simpa using y1
        by_cases y2 : c = y
        · have b3 : (c == y) = true := by simpa using y2
          simp only [b1, b2, b3, b4, cond_true, cond_false]
          omega
        · have b3 : (c == y) = false := by simpa using y2
          simp only [b1, b2, b3, b4, cond_true, cond_false]
          omega
      · have b4 : (c == x) = false := by simpa using x2
        by_cases y1 : a = y
        · have b2 : (a == y) = true := by simpa using y1
          have b3 : (c == y) = false := by
            have : c ≠ y := fun e => hac (y1.trans e.symm)
            simpa using this
          simp only [b1, b2, b3, b4, cond_true, cond_false]
          omega
        · have b2 : (a == y) = false := by simpa using y1
          by_cases y2 : c = y
          · have b3 : (c == y) = true := by simpa using y2
            simp only [b1, b2, b3, b4, cond_true, cond_false]
            omega
          · have b3 : (c == y) = false := by simpa using y2
            simp only [b1, b2, b3, b4, cond_true, cond_false]
  | h :: A => by
    have ih := swap_lt hac h1 h2 B A
    simp only [List.cons_append, List.idxOf_cons]
    cases hx : (h == x) <;> cases hy : (h == y) <;> simp only [cond_true, cond_false] <;> omega
theorem fol_swap {os A B : List (Nat × Nat)} {a c : Nat × Nat} (e : os = A ++ a :: c :: B) (hac : a ≠ c) (h1 : a.1 = c.1) (j : List Nat) : fol (A ++ c :: a :: B) j = fol os j := by
  subst e
  refine (am_congr _ fun i l hi hl hil => ?_).symm
  refine swap_lt hac (fun h => ?_) (fun h => ?_) B A
  · exact hil (by rw [← h.1, ← h.2] at h1; exact h1)
  · exact hil (by rw [← h.1, ← h.2] at h1; exact h1.symm)
theorem eq_qs (qs : List Rat) : oNe (.fz (.tup (qs.map encQ))) (.fz (.tup (qs.map encQ))) = some (.fz (.bl false)) := by
  refine (eq_self ?_ ?_).2
  · rw [D.gd]; exact gds_mapF encQ (fun q => by simp [encQ, D.gd, D.gds]) qs
  · have := deps_mapF (k := 2) encQ (fun q => by simp [encQ, D.dep, D.deps]) qs
    rw [D.dep]; omega
theorem split_two {α : Type} {os : List α} {i : Nat} {a c : α} (h1 : os[i]? = some a) (h2 : os[i + 1]? = some c) : os = os.take i ++ a :: c :: os.drop (i + 2) := by
  have l1 := (List.getElem?_eq_some_iff.mp h1)
  have l2 := (List.getElem?_eq_some_iff.mp h2)
  obtain ⟨k1, e1⟩ := l1
  obtain ⟨k2, e2⟩ := l2
  have d1 := List.drop_eq_getElem_cons k1
  have d2 := List.drop_eq_getElem_cons k2
  rw [e1] at d1
  rw [e2] at d2
  rw [← d2, ← d1, List.take_append_drop]
section
variable {ps : List Plc} (hs : ScOk ps) {b : Rat} {os : List (Nat × Nat)} (nd : os.Nodup) (hall : ∀ i p s, ps[i]? = some p → s < p.n → (i, s) ∈ os) (hlen : os.length ≤ 100)
include hs nd hall hlen
theorem turn_loop {qs : List Rat} (hR : f_choice_visits [.tup (ps.map encPc), chD ps (fol os), encQ b] = some (.tup (qs.map encQ))) (s0 s3 s4 s5 s10 s11 s12 : Sl) : ∀ (n k : Nat), k + n + 1 = os.length → ∀ t8 t9 : Sl, ∃ u8 u9, forL (gsName 8) b1_law ((List.range' k n).map fun (i : Nat) => D.int (i : Int)) [s0, .has (.fz (.tup (ps.map encPc))), .has (.fz (encQ b)), s3, s4, s5, .has (.fz (.xt (os.map kE))), .has (.fz (.tup (qs.map encQ))), t8, t9, s10, s11, s12, .un, .un, .un] =
    some (.nx [s0, .has (.fz (.tup (ps.map encPc))), .has (.fz (encQ b)), s3, s4, s5, .has (.fz (.xt (os.map kE))), .has (.fz (.tup (qs.map encQ))), u8, u9, s10, s11, s12, .un, .un, .un])
  | 0, k, _, t8, t9 => ⟨t8, t9, rfl⟩
  | n + 1, k, hk, t8, t9 => by
    rw [List.range'_succ, List.map_cons]
    have k1 : k < os.length := by omega
    have k2 : k + 1 < os.length := by omega
    have q1 := List.getElem?_eq_getElem k1
    have q2 := List.getElem?_eq_getElem k2
    generalize os[k] = a at q1
    generalize os[k + 1] = c at q2
    have a1 : atI (os.map kE) (k : Int) = some (.kt [.inl (a.1 : Int), .inl (a.2 : Int)]) := by
      rw [atI_nat' (by simpa using k1), List.getElem?_map, q1]; rfl
    have a2 : atI (os.map kE) ((k : Int) + 1) = some (.kt [.inl (c.1 : Int), .inl (c.2 : Int)]) := by
      have e : (k : Int) + 1 = ((k + 1 : Nat) : Int) := by omega
      rw [e, atI_nat' (by simpa using k2), List.getElem?_map, q2]; rfl
    have u1 : ∀ x y : Int, D.unk (.kt [.inl x, .inl y]) = .tup [.int x, .int y] := fun _ _ => rfl
    by_cases h1 : a.1 = c.1
    · obtain ⟨x, y⟩ := a
      obtain ⟨z, w⟩ := c
      have h1 : x = z := h1
      subst h1
      have h1 : ((x, y) : Nat × Nat).1 = ((x, w) : Nat × Nat).1 := rfl
      generalize ha : ((x, y) : Nat × Nat) = a at *
      generalize hc : ((x, w) : Nat × Nat) = c at *
      have es := split_two q1 q2
      have hac : a ≠ c := fun e => by
        rw [e] at q1
        exact absurd ((List.getElem?_inj k1 nd).mp (q1.trans q2.symm)) (by omega)
      have hf := fol_swap es hac h1
      have hcc : chD ps (fol (os.take k ++ c :: a :: os.drop (k + 2))) = chD ps (fol os) := by
        unfold chD
        exact congrArg D.tup (List.map_congr_left fun j _ => by rw [hf j])
      have hperm : List.Perm (os.take k ++ c :: a :: os.drop (k + 2)) os := by
        have h := List.Perm.append_left (os.take k) (List.Perm.swap a c (os.drop (k + 2)))
        rwa [← es] at h
      have ov := order_visits_spec hs (b := b) (os := os.take k ++ c :: a :: os.drop (k + 2)) (hperm.nodup_iff.mpr nd) (fun i p s hp hsn => hperm.mem_iff.mpr (hall i p s hp hsn)) (by rw [hperm.length_eq]; exact hlen) (by rw [hcc]; exact hR)
      have c1 : cut (os.map kE) none (some (k : Int)) = (os.map kE).take k := cut_to
      have c2 : cut (os.map kE) (some ((k : Int) + 2)) none = (os.map kE).drop (k + 2) := by
        have e : (k : Int) + 2 = ((k + 2 : Nat) : Int) := by omega
        rw [e, cut_from]
      have em : (os.take k ++ c :: a :: os.drop (k + 2)).map kE = (os.map kE).take k ++ D.kt [.inl (c.1 : Int), .inl (c.2 : Int)] :: D.kt [.inl (a.1 : Int), .inl (a.2 : Int)] :: (os.map kE).drop (k + 2) := by
        rw [List.map_append, List.map_cons, List.map_cons, List.map_take, List.map_drop]; rfl
      rw [em] at ov
      have l1 : ((os.map kE).take k).length + 2 ≤ 16777216 := by rw [List.length_take, List.length_map]; omega
      have l2 : ((os.map kE).take k).length + 2 + ((os.map kE).drop (k + 2)).length ≤ 16777216 := by rw [List.length_take, List.length_drop, List.length_map]; omega
      have eq := eq_qs qs
      subst ha
      subst hc
      dsimp only at a1 a2 ov ⊢
      refine ⟨.has (.fz (.int (k : Int))), .has (.fz (.tup ((os.map kE).take k ++ D.kt [.inl (x : Int), .inl (w : Int)] :: D.kt [.inl (x : Int), .inl (y : Int)] :: (os.map kE).drop (k + 2)))), ?_⟩
      clear hR hcc em hperm es
      generalize (os.map kE).take k = O1 at *
      generalize (os.map kE).drop (k + 2) = O2 at *
      generalize os.map kE = OS at *
      generalize qs.map encQ = QS at *
      generalize ps.map encPc = PS at *
      generalize encQ b = B at *
      simp -implicitDefEqProofs [forL, b1_law, a1, a2, u1, c1, c2, l1, l2, ov, eq]
    · have hi1 : ¬ (a.1 : Int) = (c.1 : Int) := by omega
      obtain ⟨u8, u9, ih⟩ := turn_loop hR s0 s3 s4 s5 s10 s11 s12 n (k + 1) (by omega) (.has (.fz (.int (k : Int)))) t9
      refine ⟨u8, u9, ?_⟩
      generalize ((List.range' (k + 1) n).map fun (i : Nat) => D.int (i : Int)) = RS at *
      generalize os.map kE = OS at *
      generalize qs.map encQ = QS at *
      generalize ps.map encPc = PS at *
      generalize encQ b = B at *
      have hb : b1_law [s0, .has (.fz (.tup PS)), .has (.fz B), s3, s4, s5, .has (.fz (.xt OS)), .has (.fz (.tup QS)), .has (.fz (.int (k : Int))), t9, s10, s11, s12, .un, .un, .un] = some (.nx [s0, .has (.fz (.tup PS)), .has (.fz B), s3, s4, s5, .has (.fz (.xt OS)), .has (.fz (.tup QS)), .has (.fz (.int (k : Int))), t9, s10, s11, s12, .un, .un, .un]) := by
        simp -implicitDefEqProofs [b1_law, a1, a2, u1, h1, hi1]
      simp -implicitDefEqProofs [forL, hb, ih]
end
theorem law_true (ns : List Int) (hl : ns.length ≤ 63) (hbits : ∀ z ∈ ns, Builtin.Int.intBits z ≤ 1048576) : f_law [.lst (ns.map D.int)] = some (.bl true) := by
  obtain ⟨ps, hcomp, hs, h5⟩ := small_company_spec ns 1
  have hcomp : f__law_small_company [.lst (ns.map D.int), .int 1] = some (.tup (ps.map encPc)) := hcomp
  have c0 : f__law_cell [.lst (ns.map D.int), .int 0] = some (.int (cellZ ns 0)) := law_cell_spec ns 0
  have c5 : ∀ k : Nat, f__law_cell [.lst (ns.map D.int), .int (5 + (k : Int))] = some (.int (cellZ ns (5 + k))) := fun k => by
    have := law_cell_spec ns (5 + k)
    rwa [Int.natCast_add] at this
  have c7 : f__law_cell [.lst (ns.map D.int), .int 7] = some (.int (cellZ ns 7)) := law_cell_spec ns 7
  generalize cellZ ns 7 = z7 at *
  generalize cellZ ns 0 = z0 at *
  have hd : ∃ dd : List D, f__law_head [.lst (ns.map D.int)] = some (.lst dd) ∧ ∃ d1 : Int, atI dd 1 = some (.int d1) := by
    have dr : f__law_draws [.int z0, .int 3] = some (.lst ((drw z0 3).map D.int)) := (drw_spec z0 3 (by decide)).1
    have h1 := (drw_at z0 3 1 (by decide) (by decide)).1
    refine ⟨(drw z0 3).map D.int, (run_eq (by rfl)).trans ?_, drwAt z0 3 1, h1⟩
    generalize (drw z0 3).map D.int = dd at *
    generalize ns.map D.int = S at *
    simp -implicitDefEqProofs [m__law_head, startE, c0, dr]
  obtain ⟨dd, hh, d1, hd1⟩ := hd
  obtain ⟨b, hdisc, hb⟩ : ∃ b, f__law_discount [.int d1] = some (encQ b) ∧ Disc b := by
    obtain ⟨q, h1, h2, h3, h4⟩ := law_discount_spec d1
    exact ⟨q, h1, ⟨h3, h4, h2⟩⟩
  obtain ⟨hN6, hN0⟩ := jnt6 hs h5
  have hg := sc_gms hs
  have hpairs := law_pairs_spec hs
  have hmem := pairsT_of (ps := ps) ps.length (Nat.le_refl _)
  have hall0 : ∀ i p s, ps[i]? = some p → s < p.n → (i, s) ∈ pairsT ps ps.length := fun i p s hp hsn => pairsT_mem ps.length hp (List.getElem?_eq_some_iff.mp hp).1 (Nat.le_refl _) hsn
  have hnd := pairsT_nodup ps ps.length (Nat.le_refl _)
  have hrz : ∀ q ∈ pairsT ps ps.length, sz (rwP ps q) ≤ 110 := fun q hq => by
    obtain ⟨p, hp, hn, _⟩ := hmem q hq
    have pk := hs.ok p (List.mem_of_getElem? hp)
    have e : rwP ps q = rwA p.rs q.2 := rwP_at hp q.2
    rw [e]
    exact sz_le ((hs.sm p (List.mem_of_getElem? hp) _ (rwA_mem (by rw [pk.g.ok.l1]; exact hn))).mono (by decide) (by decide))
  have hl3 := hs.len
  have hpos : 1 ≤ (pairsT ps ps.length).length := by
    have hp := List.getElem?_eq_getElem (show 0 < ps.length by omega)
    have pk := hs.ok _ (List.mem_of_getElem? hp)
    exact List.length_pos_of_mem (hall0 0 _ _ hp pk.hs)
  have lp1 : ∀ (t2 : D), lcLoop [13] (gsName 13) mYes e1_law (ps.map encPc) [] [.has (.fz (.lst (ns.map D.int))), .has (.fz (.tup (ps.map encPc))), .has (.fz t2), .un, .un, .un, .un, .un, .un, .un, .un, .un, .un, .un, .un, .un] =
      some ((ps.map gmE).map O.fz, [.has (.fz (.lst (ns.map D.int))), .has (.fz (.tup (ps.map encPc))), .has (.fz t2), .un, .un, .un, .un, .un, .un, .un, .un, .un, .un, .un, .un, .un]) := fun t2 => by
    rw [lc_mapx encPc (fun p => O.fz (gmE p)) ps [] (by rfl) (by rw [e_sizeLine]; simp only [List.length_nil]; omega) fun p _ => ?_]
    · rw [List.nil_append, List.map_map]; rfl
    have e : encPc p = .tup [gmE p, .int (p.s : Int)] := rfl
    rw [e]
    generalize gmE p = g at *
    generalize ps.map encPc = PS at *
    generalize ns.map D.int = SC at *
    refine ⟨[.has (.fz (.lst SC)), .has (.fz (.tup PS)), .has (.fz t2), .un, .un, .un, .un, .un, .un, .un, .un, .un, .un, .has (.fz (.tup [g, .int (p.s : Int)])), .un, .un], [.has (.fz (.lst SC)), .has (.fz (.tup PS)), .has (.fz t2), .un, .un, .un, .un, .un, .un, .un, .un, .un, .un, .has (.fz (.tup [g, .int (p.s : Int)])), .un, .un], ?_, ?_, ?_⟩
    · simp -implicitDefEqProofs [wipeE]
    · simp -implicitDefEqProofs [e1_law]
    · simp -implicitDefEqProofs [backE]
  have turn : ∀ (k : Nat) (t6 t7 t8 t9 : Sl), ∃ u6 u7 u8 u9, b2_law [.has (.fz (.lst (ns.map D.int))), .has (.fz (.tup (ps.map encPc))), .has (.fz (encQ b)), .has (.fz (.tup (ps.map gmE))), .has (.fz (.lst ((pairsT ps ps.length).map kE))), .has (.fz (.int (k : Int))), t6, t7, t8, t9, .un, .un, .un, .un, .un, .un] =
      some (.nx [.has (.fz (.lst (ns.map D.int))), .has (.fz (.tup (ps.map encPc))), .has (.fz (encQ b)), .has (.fz (.tup (ps.map gmE))), .has (.fz (.lst ((pairsT ps ps.length).map kE))), .has (.fz (.int (k : Int))), u6, u7, u8, u9, .un, .un, .un, .un, .un, .un]) := fun k t6 t7 t8 t9 => by
    obtain ⟨os, ho, hperm⟩ := law_order_spec (pairsT ps ps.length) (by omega) (cellZ ns (5 + k))
    have nd := hperm.nodup_iff.mpr hnd
    have hall : ∀ i p s, ps[i]? = some p → s < p.n → (i, s) ∈ os := fun i p s hp hsn => hperm.mem_iff.mpr (hall0 i p s hp hsn)
    have hol := hperm.length_eq
    obtain ⟨X, _, _, hvis⟩ := choice_visits_spec hs hb hN6 hN0 (M := 200000) (by decide) (by decide) (bmx60 _ hN6) (ch := fol os) (fun j hj => by
      have hjl : j.length = ps.length := by have := hj.len; unfold nst at this; rw [List.length_map] at this; exact this
      have := fol_lt (os := os) (j := j) (by omega)
      omega)
    have ov := order_visits_spec hs (b := b) nd hall (by omega) hvis
    have fo := followed_spec hs hall
    have har := law_are_ratios_spec ((pairsT ps ps.length).map (visQ ps (fol os) X)) (pairsT ps ps.length).length (by simp)
    have eq := eq_qs ((pairsT ps ps.length).map (visQ ps (fol os) X))
    obtain ⟨u8, u9, tl⟩ := turn_loop hs nd hall (by omega) hvis (.has (.fz (.lst (ns.map D.int)))) (.has (.fz (.tup (ps.map gmE)))) (.has (.fz (.lst ((pairsT ps ps.length).map kE)))) (.has (.fz (.int (k : Int)))) .un .un .un (os.length - 1) 0 (by omega) t8 t9
    rw [← List.range_eq_range', ← range0_map] at tl
    have ck := c5 k
    have hun : (os.map kE).map D.unk = os.map prE := by rw [List.map_map]; rfl
    have hkl : (os.map kE).length = os.length := by simp
    have hjl : ((pairsT ps ps.length).map kE).length = (pairsT ps ps.length).length := by simp
    have ht : ((os.length : Int) - 1).toNat = os.length - 1 := by omega
    have hn1 : (os.length : Int) - 1 < 4611686018427387904 := by omega
    have hn2 : -4611686018427387904 ≤ (os.length : Int) - 1 := by omega
    refine ⟨.has (.fz (.xt (os.map kE))), .has (.fz (.tup (((pairsT ps ps.length).map (visQ ps (fol os) X)).map encQ))), u8, u9, ?_⟩
    clear c5 hall hall0 hmem hrz lp1 hperm
    generalize ((pairsT ps ps.length).map (visQ ps (fol os) X)).map encQ = VV at *
    generalize (pairsT ps ps.length).length = N at *
    generalize (pairsT ps ps.length).map kE = JS at *
    generalize chD ps (fol os) = CS at *
    generalize os.map prE = OP at *
    generalize os.map kE = OS at *
    generalize os.length = L at *
    generalize cellZ ns (5 + k) = zk at *
    generalize ps.map gmE = PG at *
    generalize ps.map encPc = PS at *
    generalize ns.map D.int = SC at *
    generalize encQ b = B at *
    simp -implicitDefEqProofs [b2_law, ck, ho, ov, hjl, har, hun, fo, hvis, eq, hkl, mR1, ht, hn1, hn2, tl]
  obtain ⟨env', hf, t5, t6, t7, t8, t9, rfl⟩ := for_inv (gs := gsName 5) (mb := b2_law) (ds := rangeD 0 2) (env := [.has (.fz (.lst (ns.map D.int))), .has (.fz (.tup (ps.map encPc))), .has (.fz (encQ b)), .has (.fz (.tup (ps.map gmE))), .has (.fz (.lst ((pairsT ps ps.length).map kE))), .un, .un, .un, .un, .un, .un, .un, .un, .un, .un, .un])
    (fun k env => ∃ t5 t6 t7 t8 t9, env = [.has (.fz (.lst (ns.map D.int))), .has (.fz (.tup (ps.map encPc))), .has (.fz (encQ b)), .has (.fz (.tup (ps.map gmE))), .has (.fz (.lst ((pairsT ps ps.length).map kE))), t5, t6, t7, t8, t9, .un, .un, .un, .un, .un, .un])
    ⟨.un, .un, .un, .un, .un, rfl⟩ (by
      rintro k d env hd ⟨t5, t6, t7, t8, t9, rfl⟩
      obtain ⟨hk, rfl⟩ := rangeD0_get hd
      obtain ⟨u6, u7, u8, u9, h⟩ := turn k t6 t7 t8 t9
      exact ⟨_, _, rfl, .inl h, _, u6, u7, u8, u9, rfl⟩)
  obtain ⟨ds, hds, hdl, _⟩ := law_draws_spec z7 (pairsT ps ps.length).length (by omega)
  obtain ⟨fq, hfq⟩ : ∃ fq : Int → Rat, ∀ d, f__law_fraction [.int d] = some (encQ (fq d)) ∧ sz (fq d) ≤ 4 := ⟨fun d => (law_fraction_spec d).choose, fun d => (law_fraction_spec d).choose_spec⟩
  let v : Nat × Nat → Rat := fun q => match ds[(pairsT ps ps.length).idxOf q]? with | some d => fq d | none => 0
  have hv : ∀ q, sz (v q) ≤ 110 := fun q => by
    show sz (match ds[(pairsT ps ps.length).idxOf q]? with | some d => fq d | none => 0) ≤ 110
    split
    · exact Nat.le_trans (hfq _).2 (by decide)
    · rw [sz_zero]; omega
  have hrow : (pairsT ps ps.length).map v = ds.map fq := by
    apply List.ext_getElem (by simp [hdl])
    intro k k1 k2
    have hk : k < (pairsT ps ps.length).length := by simpa using k1
    have hk2 : k < ds.length := by simpa using k2
    rw [List.getElem_map, List.getElem_map]
    show (match ds[(pairsT ps ps.length).idxOf (pairsT ps ps.length)[k]]? with | some d => fq d | none => 0) = _
    rw [hnd.idxOf_getElem k hk, List.getElem?_eq_getElem hk2]
  have vg := visits_gain_spec hs v (K := 110) (by decide) hv
  have vg := vg.1
  have dot := law_dot_spec (pairsT ps ps.length) (rwP ps) v (K := 110) (by decide) (by omega) hrz (fun q _ => hv q)
  generalize hS : sumQ 0 ((pairsT ps ps.length).map fun q => v q * rwP ps q) = S at *
  have edot : sm (fun q => rwP ps q * v q) (pairsT ps ps.length) = S := by
    rw [← hS, sumQ0_sm]
    exact sm_congr fun q _ => Rat.mul_comm _ _
  rw [edot] at dot
  rw [hrow] at vg dot
  have kir := law_is_ratio_spec S
  have n3 := (eqQ S S).1
  rw [decide_eq_true rfl] at n3
  have lp2 : ∀ (t2 t3 t4 t10 : D), lcLoop [14] (gsName 14) mYes e2_law (ds.map D.int) [] [.has (.fz (.lst (ns.map D.int))), .has (.fz (.tup (ps.map encPc))), .has (.fz t2), .has (.fz t3), .has (.fz t4), t5, t6, t7, t8, t9, .has (.fz t10), .un, .un, .un, .un, .un] =
      some (((ds.map fq).map encQ).map O.fz, [.has (.fz (.lst (ns.map D.int))), .has (.fz (.tup (ps.map encPc))), .has (.fz t2), .has (.fz t3), .has (.fz t4), t5, t6, t7, t8, t9, .has (.fz t10), .un, .un, .un, .un, .un]) := fun t2 t3 t4 t10 => by
    rw [lc_mapx (fun d : Int => D.int d) (fun d => O.fz (encQ (fq d))) ds [] (by rfl) (by rw [e_sizeLine]; simp only [List.length_nil]; omega) fun d _ => ?_]
    · rw [List.nil_append, List.map_map, List.map_map]; rfl
    have h1 := (hfq d).1
    clear turn hf
    generalize encQ (fq d) = w at *
    generalize ps.map encPc = PS at *
    generalize ns.map D.int = SC at *
    refine ⟨[.has (.fz (.lst SC)), .has (.fz (.tup PS)), .has (.fz t2), .has (.fz t3), .has (.fz t4), t5, t6, t7, t8, t9, .has (.fz t10), .un, .un, .un, .has (.fz (.int d)), .un], [.has (.fz (.lst SC)), .has (.fz (.tup PS)), .has (.fz t2), .has (.fz t3), .has (.fz t4), t5, t6, t7, t8, t9, .has (.fz t10), .un, .un, .un, .has (.fz (.int d)), .un], ?_, ?_, ?_⟩
    · simp -implicitDefEqProofs [wipeE]
    · simp -implicitDefEqProofs [e2_law, h1]
    · simp -implicitDefEqProofs [backE]
  have lp3 : ∀ (t2 t3 t4 t10 t11 t12 : D), lcLoop [15] (gsName 15) mYes e3_law ((pairsT ps ps.length).map kE) [] [.has (.fz (.lst (ns.map D.int))), .has (.fz (.tup (ps.map encPc))), .has (.fz t2), .has (.fz t3), .has (.fz t4), t5, t6, t7, t8, t9, .has (.fz t10), .has (.fz t11), .has (.fz t12), .un, .un, .un] =
      some ((((pairsT ps ps.length).map (rwP ps)).map encQ).map O.fz, [.has (.fz (.lst (ns.map D.int))), .has (.fz (.tup (ps.map encPc))), .has (.fz t2), .has (.fz t3), .has (.fz t4), t5, t6, t7, t8, t9, .has (.fz t10), .has (.fz t11), .has (.fz t12), .un, .un, .un]) := fun t2 t3 t4 t10 t11 t12 => by
    rw [lc_mapx kE (fun q => O.fz (encQ (rwP ps q))) (pairsT ps ps.length) [] (by rfl) (by rw [e_sizeLine]; simp only [List.length_nil]; omega) fun q hq => ?_]
    · rw [List.nil_append, List.map_map, List.map_map]; rfl
    obtain ⟨p, hp, hn, _⟩ := hmem q hq
    have pk := hs.ok p (List.mem_of_getElem? hp)
    have er : rwP ps q = rwA p.rs q.2 := rwP_at hp q.2
    have e1 := encPc_at hp
    have eG : encG p.rs p.rows = .tup [.tup (p.rs.map encQ), .tup (p.rows.map encR)] := rfl
    rw [eG] at e1
    have e4 := at_rw (rs := p.rs) (x := q.2) (by rw [pk.g.ok.l1]; exact hn)
    have ek : kE q = .kt [.inl (q.1 : Int), .inl (q.2 : Int)] := rfl
    have u1 : ∀ x y : Int, D.unk (.kt [.inl x, .inl y]) = .tup [.int x, .int y] := fun _ _ => rfl
    rw [er, ek]
    clear turn hf lp1 lp2 hcomp
    generalize encQ (rwA p.rs q.2) = w at *
    generalize p.rs.map encQ = RS at *
    generalize p.rows.map encR = RW at *
    generalize ps.map encPc = PS at *
    generalize ns.map D.int = SC at *
    refine ⟨[.has (.fz (.lst SC)), .has (.fz (.tup PS)), .has (.fz t2), .has (.fz t3), .has (.fz t4), t5, t6, t7, t8, t9, .has (.fz t10), .has (.fz t11), .has (.fz t12), .un, .un, .has (.fz (.kt [.inl (q.1 : Int), .inl (q.2 : Int)]))], [.has (.fz (.lst SC)), .has (.fz (.tup PS)), .has (.fz t2), .has (.fz t3), .has (.fz t4), t5, t6, t7, t8, t9, .has (.fz t10), .has (.fz t11), .has (.fz t12), .un, .un, .has (.fz (.kt [.inl (q.1 : Int), .inl (q.2 : Int)]))], ?_, ?_, ?_⟩
    · simp -implicitDefEqProofs [wipeE]
    · simp -implicitDefEqProofs [e3_law, u1, e1, e4]
    · simp -implicitDefEqProofs [backE]
  have hjl : ((pairsT ps ps.length).map kE).length = (pairsT ps ps.length).length := by simp
  have eg1 := e_gTupO (ds := ps.map gmE)
  have eg2 := e_gTupO (ds := (ds.map fq).map encQ)
  have hfr := frz_ls (((pairsT ps ps.length).map (rwP ps)).map encQ)
  have eitP : D.items (.tup (ps.map encPc)) = some (ps.map encPc) := rfl
  have eitJ : D.items (.lst ((pairsT ps ps.length).map kE)) = some ((pairsT ps ps.length).map kE) := rfl
  have eitD : D.items (.lst (ds.map D.int)) = some (ds.map D.int) := rfl
  refine (run_eq (by rfl)).trans ?_
  clear turn hS hrz hmem hall0 c5
  clear_value v
  generalize (((pairsT ps ps.length).map (rwP ps)).map encQ).map O.fz = oR at *
  generalize ((pairsT ps ps.length).map (rwP ps)).map encQ = RR at *
  generalize (pairsT ps ps.length).length = N at *
  generalize (pairsT ps ps.length).map kE = JS at *
  generalize ((ds.map fq).map encQ).map O.fz = oQ at *
  generalize (ds.map fq).map encQ = QQ at *
  generalize ds.map D.int = DS at *
  generalize (ps.map gmE).map O.fz = oG at *
  generalize ps.map gmE = PG at *
  generalize ps.map encPc = PS at *
  generalize ns.map D.int = SC at *
  generalize encQ S = v3 at *
  generalize encQ b = B at *
  simp -implicitDefEqProofs [m_law, startE, u1_law, u2_law, u3_law, u4_law, u5_law, u6_law, u7_law, u8_law, u9_law, hcomp, hh, hd1, hdisc, eitP, lp1, eg1, hpairs, mR1, hf, c7, hjl, hds, eitD, lp2, eg2, vg, kir, eitJ, lp3, hfr, dot, n3]
end Lw
set_option Elab.async false
set_option linter.all false
set_option maxRecDepth 100000
set_option maxHeartbeats 4000000
namespace Lw
open PySem L2 Q
theorem keep_of {K : PySem.W.Frag} {f : Addr} {oc : Value} {od : Option Addr} {fd : FuncData} {sl : Array (Option Value)} (l : K.lookup f = some ⟨oc, od, .func fd, sl⟩) : PySem.W.keepIn K (.ref f) = true := by
  unfold PySem.W.keepIn; dsimp only; rw [l]
theorem all_mk {l : PySem.W.OpenLaw} {w : World} {K : PySem.W.Frag} {h : Heap} {mg : Str → Option Value} {fa f1 f2 f3 f4 f5 f6 f7 f8 f9 f10 f11 f12 f13 f14 f15 f16 f17 f18 f19 f20 f21 f22 f23 f24 f25 f26 f27 f28 f29 f30 f31 f32 f33 f34 f35 f36 f37 : Addr} (X : K.In h) (G : h.Ns mainGlobals mg) (hfa : mg "law" = some (.ref fa))
    {od1 an1 od2 an2 od3 an3 od4 an4 od5 an5 od6 an6 od7 an7 od8 an8 od9 an9 od10 an10 od11 an11 od12 an12 od13 an13 od14 an14 od15 an15 od16 an16 od17 an17 od18 an18 od19 an19 od20 an20 od21 an21 od22 an22 od23 an23 od24 an24 od25 an25 od26 an26 od27 an27 od28 an28 od29 an29 od30 an30 od31 an31 od32 an32 od33 an33 od34 an34 od35 an35 od36 an36 od37 an37 : Option Addr} {sl1 sl2 sl3 sl4 sl5 sl6 sl7 sl8 sl9 sl10 sl11 sl12 sl13 sl14 sl15 sl16 sl17 sl18 sl19 sl20 sl21 sl22 sl23 sl24 sl25 sl26 sl27 sl28 sl29 sl30 sl31 sl32 sl33 sl34 sl35 sl36 sl37 : Array (Option Value)} {oc1 kV1 dc1 pm1 cd1 ct1 oc2 kV2 dc2 pm2 cd2 ct2 oc3 kV3 dc3 pm3 cd3 ct3 oc4 kV4 dc4 pm4 cd4 ct4 oc5 kV5 dc5 pm5 cd5 ct5 oc6 kV6 dc6 pm6 cd6 ct6 oc7 kV7 dc7 pm7 cd7 ct7 oc8 kV8 dc8 pm8 cd8 ct8 oc9 kV9 dc9 pm9 cd9 ct9 oc10 kV10 dc10 pm10 cd10 ct10 oc11 kV11 dc11 pm11 cd11 ct11 oc12 kV12 dc12 pm12 cd12 ct12 oc13 kV13 dc13 pm13 cd13 ct13 oc14 kV14 dc14 pm14 cd14 ct14 oc15 kV15 dc15 pm15 cd15 ct15 oc16 kV16 dc16 pm16 cd16 ct16 oc17 kV17 dc17 pm17 cd17 ct17 oc18 kV18 dc18 pm18 cd18 ct18 oc19 kV19 dc19 pm19 cd19 ct19 oc20 kV20 dc20 pm20 cd20 ct20 oc21 kV21 dc21 pm21 cd21 ct21 oc22 kV22 dc22 pm22 cd22 ct22 oc23 kV23 dc23 pm23 cd23 ct23 oc24 kV24 dc24 pm24 cd24 ct24 oc25 kV25 dc25 pm25 cd25 ct25 oc26 kV26 dc26 pm26 cd26 ct26 oc27 kV27 dc27 pm27 cd27 ct27 oc28 kV28 dc28 pm28 cd28 ct28 oc29 kV29 dc29 pm29 cd29 ct29 oc30 kV30 dc30 pm30 cd30 ct30 oc31 kV31 dc31 pm31 cd31 ct31 oc32 kV32 dc32 pm32 cd32 ct32 oc33 kV33 dc33 pm33 cd33 ct33 oc34 kV34 dc34 pm34 cd34 ct34 oc35 kV35 dc35 pm35 cd35 ct35 oc36 kV36 dc36 pm36 cd36 ct36 oc37 kV37 dc37 pm37 cd37 ct37 : Value}
    (a1 : PySem.W.nsIn K mainGlobals "common_divisor" = some (some (.ref f1))) (l1 : K.lookup f1 = some ⟨oc1, od1, .func (PySem.W.fnOf "common_divisor" "common_divisor" (defArgs s_common_divisor) (defBody s_common_divisor) (defScope s_common_divisor) .none kV1 dc1 pm1 an1 cd1 ct1), sl1⟩) (c1 : PySem.W.codeIn K cd1 "common_divisor" = true)
    (a2 : PySem.W.nsIn K mainGlobals "make_ratio" = some (some (.ref f2))) (l2 : K.lookup f2 = some ⟨oc2, od2, .func (PySem.W.fnOf "make_ratio" "make_ratio" (defArgs s_make_ratio) (defBody s_make_ratio) (defScope s_make_ratio) .none kV2 dc2 pm2 an2 cd2 ct2), sl2⟩) (c2 : PySem.W.codeIn K cd2 "make_ratio" = true)
    (a3 : PySem.W.nsIn K mainGlobals "add" = some (some (.ref f3))) (l3 : K.lookup f3 = some ⟨oc3, od3, .func (PySem.W.fnOf "add" "add" (defArgs s_add) (defBody s_add) (defScope s_add) .none kV3 dc3 pm3 an3 cd3 ct3), sl3⟩) (c3 : PySem.W.codeIn K cd3 "add" = true)
    (a4 : PySem.W.nsIn K mainGlobals "subtract" = some (some (.ref f4))) (l4 : K.lookup f4 = some ⟨oc4, od4, .func (PySem.W.fnOf "subtract" "subtract" (defArgs s_subtract) (defBody s_subtract) (defScope s_subtract) .none kV4 dc4 pm4 an4 cd4 ct4), sl4⟩) (c4 : PySem.W.codeIn K cd4 "subtract" = true)
    (a5 : PySem.W.nsIn K mainGlobals "multiply" = some (some (.ref f5))) (l5 : K.lookup f5 = some ⟨oc5, od5, .func (PySem.W.fnOf "multiply" "multiply" (defArgs s_multiply) (defBody s_multiply) (defScope s_multiply) .none kV5 dc5 pm5 an5 cd5 ct5), sl5⟩) (c5 : PySem.W.codeIn K cd5 "multiply" = true)
    (a6 : PySem.W.nsIn K mainGlobals "divide" = some (some (.ref f6))) (l6 : K.lookup f6 = some ⟨oc6, od6, .func (PySem.W.fnOf "divide" "divide" (defArgs s_divide) (defBody s_divide) (defScope s_divide) .none kV6 dc6 pm6 an6 cd6 ct6), sl6⟩) (c6 : PySem.W.codeIn K cd6 "divide" = true)
    (a7 : PySem.W.nsIn K mainGlobals "total" = some (some (.ref f7))) (l7 : K.lookup f7 = some ⟨oc7, od7, .func (PySem.W.fnOf "total" "total" (defArgs s_total) (defBody s_total) (defScope s_total) .none kV7 dc7 pm7 an7 cd7 ct7), sl7⟩) (c7 : PySem.W.codeIn K cd7 "total" = true)
    (a8 : PySem.W.nsIn K mainGlobals "without" = some (some (.ref f8))) (l8 : K.lookup f8 = some ⟨oc8, od8, .func (PySem.W.fnOf "without" "without" (defArgs s_without) (defBody s_without) (defScope s_without) .none kV8 dc8 pm8 an8 cd8 ct8), sl8⟩) (c8 : PySem.W.codeIn K cd8 "without" = true)
    (a9 : PySem.W.nsIn K mainGlobals "first_nonzero" = some (some (.ref f9))) (l9 : K.lookup f9 = some ⟨oc9, od9, .func (PySem.W.fnOf "first_nonzero" "first_nonzero" (defArgs s_first_nonzero) (defBody s_first_nonzero) (defScope s_first_nonzero) .none kV9 dc9 pm9 an9 cd9 ct9), sl9⟩) (c9 : PySem.W.codeIn K cd9 "first_nonzero" = true)
    (a10 : PySem.W.nsIn K mainGlobals "solve" = some (some (.ref f10))) (l10 : K.lookup f10 = some ⟨oc10, od10, .func (PySem.W.fnOf "solve" "solve" (defArgs s_solve) (defBody s_solve) (defScope s_solve) .none kV10 dc10 pm10 an10 cd10 ct10), sl10⟩) (c10 : PySem.W.codeIn K cd10 "solve" = true)
    (a11 : PySem.W.nsIn K mainGlobals "joint_states" = some (some (.ref f11))) (l11 : K.lookup f11 = some ⟨oc11, od11, .func (PySem.W.fnOf "joint_states" "joint_states" (defArgs s_joint_states) (defBody s_joint_states) (defScope s_joint_states) .none kV11 dc11 pm11 an11 cd11 ct11), sl11⟩) (c11 : PySem.W.codeIn K cd11 "joint_states" = true)
    (a12 : PySem.W.nsIn K mainGlobals "table_places" = some (some (.ref f12))) (l12 : K.lookup f12 = some ⟨oc12, od12, .func (PySem.W.fnOf "table_places" "table_places" (defArgs s_table_places) (defBody s_table_places) (defScope s_table_places) .none kV12 dc12 pm12 an12 cd12 ct12), sl12⟩) (c12 : PySem.W.codeIn K cd12 "table_places" = true)
    (a13 : PySem.W.nsIn K mainGlobals "pairs_of" = some (some (.ref f13))) (l13 : K.lookup f13 = some ⟨oc13, od13, .func (PySem.W.fnOf "pairs_of" "pairs_of" (defArgs s_pairs_of) (defBody s_pairs_of) (defScope s_pairs_of) .none kV13 dc13 pm13 an13 cd13 ct13), sl13⟩) (c13 : PySem.W.codeIn K cd13 "pairs_of" = true)
    (a14 : PySem.W.nsIn K mainGlobals "joint_visits" = some (some (.ref f14))) (l14 : K.lookup f14 = some ⟨oc14, od14, .func (PySem.W.fnOf "joint_visits" "joint_visits" (defArgs s_joint_visits) (defBody s_joint_visits) (defScope s_joint_visits) .none kV14 dc14 pm14 an14 cd14 ct14), sl14⟩) (c14 : PySem.W.codeIn K cd14 "joint_visits" = true)
    (a15 : PySem.W.nsIn K mainGlobals "choice_visits" = some (some (.ref f15))) (l15 : K.lookup f15 = some ⟨oc15, od15, .func (PySem.W.fnOf "choice_visits" "choice_visits" (defArgs s_choice_visits) (defBody s_choice_visits) (defScope s_choice_visits) .none kV15 dc15 pm15 an15 cd15 ct15), sl15⟩) (c15 : PySem.W.codeIn K cd15 "choice_visits" = true)
    (a16 : PySem.W.nsIn K mainGlobals "order_choices" = some (some (.ref f16))) (l16 : K.lookup f16 = some ⟨oc16, od16, .func (PySem.W.fnOf "order_choices" "order_choices" (defArgs s_order_choices) (defBody s_order_choices) (defScope s_order_choices) .none kV16 dc16 pm16 an16 cd16 ct16), sl16⟩) (c16 : PySem.W.codeIn K cd16 "order_choices" = true)
    (a17 : PySem.W.nsIn K mainGlobals "order_visits" = some (some (.ref f17))) (l17 : K.lookup f17 = some ⟨oc17, od17, .func (PySem.W.fnOf "order_visits" "order_visits" (defArgs s_order_visits) (defBody s_order_visits) (defScope s_order_visits) .none kV17 dc17 pm17 an17 cd17 ct17), sl17⟩) (c17 : PySem.W.codeIn K cd17 "order_visits" = true)
    (a18 : PySem.W.nsIn K mainGlobals "visits_gain" = some (some (.ref f18))) (l18 : K.lookup f18 = some ⟨oc18, od18, .func (PySem.W.fnOf "visits_gain" "visits_gain" (defArgs s_visits_gain) (defBody s_visits_gain) (defScope s_visits_gain) .none kV18 dc18 pm18 an18 cd18 ct18), sl18⟩) (c18 : PySem.W.codeIn K cd18 "visits_gain" = true)
    (a19 : PySem.W.nsIn K mainGlobals "_law_cell" = some (some (.ref f19))) (l19 : K.lookup f19 = some ⟨oc19, od19, .func (PySem.W.fnOf "_law_cell" "_law_cell" (defArgs s__law_cell) (defBody s__law_cell) (defScope s__law_cell) .none kV19 dc19 pm19 an19 cd19 ct19), sl19⟩) (c19 : PySem.W.codeIn K cd19 "_law_cell" = true)
    (a20 : PySem.W.nsIn K mainGlobals "_law_draws" = some (some (.ref f20))) (l20 : K.lookup f20 = some ⟨oc20, od20, .func (PySem.W.fnOf "_law_draws" "_law_draws" (defArgs s__law_draws) (defBody s__law_draws) (defScope s__law_draws) .none kV20 dc20 pm20 an20 cd20 ct20), sl20⟩) (c20 : PySem.W.codeIn K cd20 "_law_draws" = true)
    (a21 : PySem.W.nsIn K mainGlobals "_law_head" = some (some (.ref f21))) (l21 : K.lookup f21 = some ⟨oc21, od21, .func (PySem.W.fnOf "_law_head" "_law_head" (defArgs s__law_head) (defBody s__law_head) (defScope s__law_head) .none kV21 dc21 pm21 an21 cd21 ct21), sl21⟩) (c21 : PySem.W.codeIn K cd21 "_law_head" = true)
    (a22 : PySem.W.nsIn K mainGlobals "_law_low" = some (some (.ref f22))) (l22 : K.lookup f22 = some ⟨oc22, od22, .func (PySem.W.fnOf "_law_low" "_law_low" (defArgs s__law_low) (defBody s__law_low) (defScope s__law_low) .none kV22 dc22 pm22 an22 cd22 ct22), sl22⟩) (c22 : PySem.W.codeIn K cd22 "_law_low" = true)
    (a23 : PySem.W.nsIn K mainGlobals "_law_is_integer" = some (some (.ref f23))) (l23 : K.lookup f23 = some ⟨oc23, od23, .func (PySem.W.fnOf "_law_is_integer" "_law_is_integer" (defArgs s__law_is_integer) (defBody s__law_is_integer) (defScope s__law_is_integer) .none kV23 dc23 pm23 an23 cd23 ct23), sl23⟩) (c23 : PySem.W.codeIn K cd23 "_law_is_integer" = true)
    (a24 : PySem.W.nsIn K mainGlobals "_law_is_ratio" = some (some (.ref f24))) (l24 : K.lookup f24 = some ⟨oc24, od24, .func (PySem.W.fnOf "_law_is_ratio" "_law_is_ratio" (defArgs s__law_is_ratio) (defBody s__law_is_ratio) (defScope s__law_is_ratio) .none kV24 dc24 pm24 an24 cd24 ct24), sl24⟩) (c24 : PySem.W.codeIn K cd24 "_law_is_ratio" = true)
    (a25 : PySem.W.nsIn K mainGlobals "_law_add" = some (some (.ref f25))) (l25 : K.lookup f25 = some ⟨oc25, od25, .func (PySem.W.fnOf "_law_add" "_law_add" (defArgs s__law_add) (defBody s__law_add) (defScope s__law_add) .none kV25 dc25 pm25 an25 cd25 ct25), sl25⟩) (c25 : PySem.W.codeIn K cd25 "_law_add" = true)
    (a26 : PySem.W.nsIn K mainGlobals "_law_mul" = some (some (.ref f26))) (l26 : K.lookup f26 = some ⟨oc26, od26, .func (PySem.W.fnOf "_law_mul" "_law_mul" (defArgs s__law_mul) (defBody s__law_mul) (defScope s__law_mul) .none kV26 dc26 pm26 an26 cd26 ct26), sl26⟩) (c26 : PySem.W.codeIn K cd26 "_law_mul" = true)
    (a27 : PySem.W.nsIn K mainGlobals "_law_fraction" = some (some (.ref f27))) (l27 : K.lookup f27 = some ⟨oc27, od27, .func (PySem.W.fnOf "_law_fraction" "_law_fraction" (defArgs s__law_fraction) (defBody s__law_fraction) (defScope s__law_fraction) .none kV27 dc27 pm27 an27 cd27 ct27), sl27⟩) (c27 : PySem.W.codeIn K cd27 "_law_fraction" = true)
    (a28 : PySem.W.nsIn K mainGlobals "_law_discount" = some (some (.ref f28))) (l28 : K.lookup f28 = some ⟨oc28, od28, .func (PySem.W.fnOf "_law_discount" "_law_discount" (defArgs s__law_discount) (defBody s__law_discount) (defScope s__law_discount) .none kV28 dc28 pm28 an28 cd28 ct28), sl28⟩) (c28 : PySem.W.codeIn K cd28 "_law_discount" = true)
    (a29 : PySem.W.nsIn K mainGlobals "_law_game" = some (some (.ref f29))) (l29 : K.lookup f29 = some ⟨oc29, od29, .func (PySem.W.fnOf "_law_game" "_law_game" (defArgs s__law_game) (defBody s__law_game) (defScope s__law_game) .none kV29 dc29 pm29 an29 cd29 ct29), sl29⟩) (c29 : PySem.W.codeIn K cd29 "_law_game" = true)
    (a30 : PySem.W.nsIn K mainGlobals "_law_are_ratios" = some (some (.ref f30))) (l30 : K.lookup f30 = some ⟨oc30, od30, .func (PySem.W.fnOf "_law_are_ratios" "_law_are_ratios" (defArgs s__law_are_ratios) (defBody s__law_are_ratios) (defScope s__law_are_ratios) .none kV30 dc30 pm30 an30 cd30 ct30), sl30⟩) (c30 : PySem.W.codeIn K cd30 "_law_are_ratios" = true)
    (a31 : PySem.W.nsIn K mainGlobals "_law_small_company" = some (some (.ref f31))) (l31 : K.lookup f31 = some ⟨oc31, od31, .func (PySem.W.fnOf "_law_small_company" "_law_small_company" (defArgs s__law_small_company) (defBody s__law_small_company) (defScope s__law_small_company) .none kV31 dc31 pm31 an31 cd31 ct31), sl31⟩) (c31 : PySem.W.codeIn K cd31 "_law_small_company" = true)
    (a32 : PySem.W.nsIn K mainGlobals "_law_joints" = some (some (.ref f32))) (l32 : K.lookup f32 = some ⟨oc32, od32, .func (PySem.W.fnOf "_law_joints" "_law_joints" (defArgs s__law_joints) (defBody s__law_joints) (defScope s__law_joints) .none kV32 dc32 pm32 an32 cd32 ct32), sl32⟩) (c32 : PySem.W.codeIn K cd32 "_law_joints" = true)
    (a33 : PySem.W.nsIn K mainGlobals "_law_pairs" = some (some (.ref f33))) (l33 : K.lookup f33 = some ⟨oc33, od33, .func (PySem.W.fnOf "_law_pairs" "_law_pairs" (defArgs s__law_pairs) (defBody s__law_pairs) (defScope s__law_pairs) .none kV33 dc33 pm33 an33 cd33 ct33), sl33⟩) (c33 : PySem.W.codeIn K cd33 "_law_pairs" = true)
    (a34 : PySem.W.nsIn K mainGlobals "_law_order" = some (some (.ref f34))) (l34 : K.lookup f34 = some ⟨oc34, od34, .func (PySem.W.fnOf "_law_order" "_law_order" (defArgs s__law_order) (defBody s__law_order) (defScope s__law_order) .none kV34 dc34 pm34 an34 cd34 ct34), sl34⟩) (c34 : PySem.W.codeIn K cd34 "_law_order" = true)
    (a35 : PySem.W.nsIn K mainGlobals "_law_dot" = some (some (.ref f35))) (l35 : K.lookup f35 = some ⟨oc35, od35, .func (PySem.W.fnOf "_law_dot" "_law_dot" (defArgs s__law_dot) (defBody s__law_dot) (defScope s__law_dot) .none kV35 dc35 pm35 an35 cd35 ct35), sl35⟩) (c35 : PySem.W.codeIn K cd35 "_law_dot" = true)
    (a36 : PySem.W.nsIn K mainGlobals "_law_followed" = some (some (.ref f36))) (l36 : K.lookup f36 = some ⟨oc36, od36, .func (PySem.W.fnOf "_law_followed" "_law_followed" (defArgs s__law_followed) (defBody s__law_followed) (defScope s__law_followed) .none kV36 dc36 pm36 an36 cd36 ct36), sl36⟩) (c36 : PySem.W.codeIn K cd36 "_law_followed" = true)
    (a37 : PySem.W.nsIn K mainGlobals "law" = some (some (.ref f37))) (l37 : K.lookup f37 = some ⟨oc37, od37, .func (PySem.W.fnOf "law" "law" (defArgs s_law) (defBody s_law) (defScope s_law) .none kV37 dc37 pm37 an37 cd37 ct37), sl37⟩) (c37 : PySem.W.codeIn K cd37 "law" = true)
    (z0 : PySem.W.nsIn K mainGlobals "gcd" = some (some (.builtin "math.gcd")))
    (z1 : PySem.W.nsIn K mainGlobals "zip" = some (none))
    (z2 : PySem.W.nsIn K mainGlobals "range" = some (none))
    (z3 : PySem.W.nsIn K mainGlobals "len" = some (none))
    (z4 : PySem.W.nsIn K mainGlobals "list" = some (none))
    (z5 : PySem.W.nsIn K mainGlobals "int" = some (none))
    (z6 : PySem.W.nsIn K mainGlobals "tuple" = some (none))
    (z7 : PySem.W.nsIn K mainGlobals "abs" = some (none))
    (z8 : PySem.W.nsIn K mainGlobals "isinstance" = some (none))
    (z9 : PySem.W.nsIn K mainGlobals "bool" = some (none))
    (z10 : PySem.W.nsIn K mainGlobals "sum" = some (none))
    (z11 : PySem.W.nsIn K mainGlobals "min" = some (none))
    {ay0 : Addr} {oy0 : Option Addr} {iy0 : Array Value} {ny0 : Nat} {sy0 : Array (Option Value)} (y0 : PySem.W.nsIn K mainGlobals "ZERO" = some (some (.ref ay0))) (ly0 : K.lookup ay0 = some ⟨.type "tuple", oy0, .seq iy0 ny0, sy0⟩) (ry0 : intsIn iy0.toList = some [0, 1]) (zy0 : iy0.size ≤ sizeLine)
    {ay1 : Addr} {oy1 : Option Addr} {iy1 : Array Value} {ny1 : Nat} {sy1 : Array (Option Value)} (y1 : PySem.W.nsIn K mainGlobals "ONE" = some (some (.ref ay1))) (ly1 : K.lookup ay1 = some ⟨.type "tuple", oy1, .seq iy1 ny1, sy1⟩) (ry1 : intsIn iy1.toList = some [1, 1]) (zy1 : iy1.size ≤ sizeLine)
    : ∃ fd : FuncData, (∀ (s : Shared) (v : Value), BindsTo s fd ⟨[v], []⟩ [("_law_script", v)]) ∧ ∀ base : Heap, K.In base → base.Ns mainGlobals mg → Grd base l.prog → FnOk l.prog w K mg base CX0 49 fa fd ["_law_script"] (spLaw K) := by
  have e := hfa.symm.trans (PySem.W.mg_of X G a37)
  cases e
  have T : Txt K mg := ⟨PySem.W.mg_of X G z0, PySem.W.mg_none_of X G z1, PySem.W.mg_none_of X G z2, PySem.W.mg_none_of X G z3, PySem.W.mg_none_of X G z4, PySem.W.mg_none_of X G z5, PySem.W.mg_none_of X G z6, PySem.W.mg_none_of X G z7, PySem.W.mg_none_of X G z8, PySem.W.mg_none_of X G z9, PySem.W.mg_none_of X G z10, PySem.W.mg_none_of X G z11, cst_tup (PySem.W.mg_of X G y0) ly0 ry0 zy0, cst_tup (PySem.W.mg_of X G y1) ly1 ry1 zy1⟩
  have F1 := fun_mk (st := s_common_divisor) l1 c1 (keep_of l1)
  have b1 := F1.binds (ps := ["a", "b"]) fun _ _ _ _ _ _ us hl => match us, hl with | [_, _], _ => rfl
  have F2 := fun_mk (st := s_make_ratio) l2 c2 (keep_of l2)
  have b2 := F2.binds (ps := ["n", "d"]) fun _ _ _ _ _ _ us hl => match us, hl with | [_, _], _ => rfl
  have F3 := fun_mk (st := s_add) l3 c3 (keep_of l3)
  have b3 := F3.binds (ps := ["a", "b"]) fun _ _ _ _ _ _ us hl => match us, hl with | [_, _], _ => rfl
  have F4 := fun_mk (st := s_subtract) l4 c4 (keep_of l4)
  have b4 := F4.binds (ps := ["a", "b"]) fun _ _ _ _ _ _ us hl => match us, hl with | [_, _], _ => rfl
  have F5 := fun_mk (st := s_multiply) l5 c5 (keep_of l5)
  have b5 := F5.binds (ps := ["a", "b"]) fun _ _ _ _ _ _ us hl => match us, hl with | [_, _], _ => rfl
  have F6 := fun_mk (st := s_divide) l6 c6 (keep_of l6)
  have b6 := F6.binds (ps := ["a", "b"]) fun _ _ _ _ _ _ us hl => match us, hl with | [_, _], _ => rfl
  have F7 := fun_mk (st := s_total) l7 c7 (keep_of l7)
  have b7 := F7.binds (ps := ["values"]) fun _ _ _ _ _ _ us hl => match us, hl with | [_], _ => rfl
  have F8 := fun_mk (st := s_without) l8 c8 (keep_of l8)
  have b8 := F8.binds (ps := ["row", "other", "column"]) fun _ _ _ _ _ _ us hl => match us, hl with | [_, _, _], _ => rfl
  have F9 := fun_mk (st := s_first_nonzero) l9 c9 (keep_of l9)
  have b9 := F9.binds (ps := ["row", "size"]) fun _ _ _ _ _ _ us hl => match us, hl with | [_, _], _ => rfl
  have F10 := fun_mk (st := s_solve) l10 c10 (keep_of l10)
  have b10 := F10.binds (ps := ["matrix", "right"]) fun _ _ _ _ _ _ us hl => match us, hl with | [_, _], _ => rfl
  have F11 := fun_mk (st := s_joint_states) l11 c11 (keep_of l11)
  have b11 := F11.binds (ps := ["games"]) fun _ _ _ _ _ _ us hl => match us, hl with | [_], _ => rfl
  have F12 := fun_mk (st := s_table_places) l12 c12 (keep_of l12)
  have b12 := F12.binds (ps := ["games"]) fun _ _ _ _ _ _ us hl => match us, hl with | [_], _ => rfl
  have F13 := fun_mk (st := s_pairs_of) l13 c13 (keep_of l13)
  have b13 := F13.binds (ps := ["company"]) fun _ _ _ _ _ _ us hl => match us, hl with | [_], _ => rfl
  have F14 := fun_mk (st := s_joint_visits) l14 c14 (keep_of l14)
  have b14 := F14.binds (ps := ["games", "choices", "start", "discount"]) fun _ _ _ _ _ _ us hl => match us, hl with | [_, _, _, _], _ => rfl
  have F15 := fun_mk (st := s_choice_visits) l15 c15 (keep_of l15)
  have b15 := F15.binds (ps := ["company", "choices", "discount"]) fun _ _ _ _ _ _ us hl => match us, hl with | [_, _, _], _ => rfl
  have F16 := fun_mk (st := s_order_choices) l16 c16 (keep_of l16)
  have b16 := F16.binds (ps := ["games", "order"]) fun _ _ _ _ _ _ us hl => match us, hl with | [_, _], _ => rfl
  have F17 := fun_mk (st := s_order_visits) l17 c17 (keep_of l17)
  have b17 := F17.binds (ps := ["company", "order", "discount"]) fun _ _ _ _ _ _ us hl => match us, hl with | [_, _, _], _ => rfl
  have F18 := fun_mk (st := s_visits_gain) l18 c18 (keep_of l18)
  have b18 := F18.binds (ps := ["company", "visits"]) fun _ _ _ _ _ _ us hl => match us, hl with | [_, _], _ => rfl
  have F19 := fun_mk (st := s__law_cell) l19 c19 (keep_of l19)
  have b19 := F19.binds (ps := ["_law_script", "_law_k"]) fun _ _ _ _ _ _ us hl => match us, hl with | [_, _], _ => rfl
  have F20 := fun_mk (st := s__law_draws) l20 c20 (keep_of l20)
  have b20 := F20.binds (ps := ["_law_cell_here", "_law_count"]) fun _ _ _ _ _ _ us hl => match us, hl with | [_, _], _ => rfl
  have F21 := fun_mk (st := s__law_head) l21 c21 (keep_of l21)
  have b21 := F21.binds (ps := ["_law_script"]) fun _ _ _ _ _ _ us hl => match us, hl with | [_], _ => rfl
  have F22 := fun_mk (st := s__law_low) l22 c22 (keep_of l22)
  have b22 := F22.binds (ps := ["_law_n", "_law_d"]) fun _ _ _ _ _ _ us hl => match us, hl with | [_, _], _ => rfl
  have F23 := fun_mk (st := s__law_is_integer) l23 c23 (keep_of l23)
  have b23 := F23.binds (ps := ["_law_value"]) fun _ _ _ _ _ _ us hl => match us, hl with | [_], _ => rfl
  have F24 := fun_mk (st := s__law_is_ratio) l24 c24 (keep_of l24)
  have b24 := F24.binds (ps := ["_law_value"]) fun _ _ _ _ _ _ us hl => match us, hl with | [_], _ => rfl
  have F25 := fun_mk (st := s__law_add) l25 c25 (keep_of l25)
  have b25 := F25.binds (ps := ["_law_a", "_law_b"]) fun _ _ _ _ _ _ us hl => match us, hl with | [_, _], _ => rfl
  have F26 := fun_mk (st := s__law_mul) l26 c26 (keep_of l26)
  have b26 := F26.binds (ps := ["_law_a", "_law_b"]) fun _ _ _ _ _ _ us hl => match us, hl with | [_, _], _ => rfl
  have F27 := fun_mk (st := s__law_fraction) l27 c27 (keep_of l27)
  have b27 := F27.binds (ps := ["_law_draw"]) fun _ _ _ _ _ _ us hl => match us, hl with | [_], _ => rfl
  have F28 := fun_mk (st := s__law_discount) l28 c28 (keep_of l28)
  have b28 := F28.binds (ps := ["_law_draw"]) fun _ _ _ _ _ _ us hl => match us, hl with | [_], _ => rfl
  have F29 := fun_mk (st := s__law_game) l29 c29 (keep_of l29)
  have b29 := F29.binds (ps := ["_law_cell_here", "_law_most", "_law_great"]) fun _ _ _ _ _ _ us hl => match us, hl with | [_, _, _], _ => rfl
  have F30 := fun_mk (st := s__law_are_ratios) l30 c30 (keep_of l30)
  have b30 := F30.binds (ps := ["_law_values", "_law_count"]) fun _ _ _ _ _ _ us hl => match us, hl with | [_, _], _ => rfl
  have F31 := fun_mk (st := s__law_small_company) l31 c31 (keep_of l31)
  have b31 := F31.binds (ps := ["_law_script", "_law_first"]) fun _ _ _ _ _ _ us hl => match us, hl with | [_, _], _ => rfl
  have F32 := fun_mk (st := s__law_joints) l32 c32 (keep_of l32)
  have b32 := F32.binds (ps := ["_law_games"]) fun _ _ _ _ _ _ us hl => match us, hl with | [_], _ => rfl
  have F33 := fun_mk (st := s__law_pairs) l33 c33 (keep_of l33)
  have b33 := F33.binds (ps := ["_law_company"]) fun _ _ _ _ _ _ us hl => match us, hl with | [_], _ => rfl
  have F34 := fun_mk (st := s__law_order) l34 c34 (keep_of l34)
  have b34 := F34.binds (ps := ["_law_cell_here", "_law_pairs_here"]) fun _ _ _ _ _ _ us hl => match us, hl with | [_, _], _ => rfl
  have F35 := fun_mk (st := s__law_dot) l35 c35 (keep_of l35)
  have b35 := F35.binds (ps := ["_law_rows", "_law_values"]) fun _ _ _ _ _ _ us hl => match us, hl with | [_, _], _ => rfl
  have F36 := fun_mk (st := s__law_followed) l36 c36 (keep_of l36)
  have b36 := F36.binds (ps := ["_law_games", "_law_order_here"]) fun _ _ _ _ _ _ us hl => match us, hl with | [_, _], _ => rfl
  have F37 := fun_mk (st := s_law) l37 c37 (keep_of l37)
  refine ⟨PySem.W.fnOf "law" "law" (defArgs s_law) (defBody s_law) (defScope s_law) .none kV37 dc37 pm37 an37 cd37 ct37, fun s v => .of_eq rfl, fun base _ _ GR => ?_⟩
  have G1 := ok_common_divisor (P := l.prog) (w := w) (base := base) GR T F1 (PySem.W.mg_of X G a1) b1
  have G2 := ok_make_ratio (P := l.prog) (w := w) (base := base) GR T F2 (PySem.W.mg_of X G a2) b2 G1
  have G3 := ok_add (P := l.prog) (w := w) (base := base) GR T F3 (PySem.W.mg_of X G a3) b3 G2
  have G4 := ok_subtract (P := l.prog) (w := w) (base := base) GR T F4 (PySem.W.mg_of X G a4) b4 G2
  have G5 := ok_multiply (P := l.prog) (w := w) (base := base) GR T F5 (PySem.W.mg_of X G a5) b5 G2
  have G6 := ok_divide (P := l.prog) (w := w) (base := base) GR T F6 (PySem.W.mg_of X G a6) b6 G2
  have G7 := ok_total (P := l.prog) (w := w) (base := base) GR T F7 (PySem.W.mg_of X G a7) b7 G3
  have G8 := ok_without (P := l.prog) (w := w) (base := base) GR T F8 (PySem.W.mg_of X G a8) b8 G4 G5
  have G9 := ok_first_nonzero (P := l.prog) (w := w) (base := base) GR T F9 (PySem.W.mg_of X G a9) b9
  have G10 := ok_solve (P := l.prog) (w := w) (base := base) GR T F10 (PySem.W.mg_of X G a10) b10 G8 G9 G6
  have G11 := ok_joint_states (P := l.prog) (w := w) (base := base) GR T F11 (PySem.W.mg_of X G a11) b11
  have G12 := ok_table_places (P := l.prog) (w := w) (base := base) GR T F12 (PySem.W.mg_of X G a12) b12 G11
  have G13 := ok_pairs_of (P := l.prog) (w := w) (base := base) GR T F13 (PySem.W.mg_of X G a13) b13
  have G14 := ok_joint_visits (P := l.prog) (w := w) (base := base) GR T F14 (PySem.W.mg_of X G a14) b14 G11 G12 G3 G4 G5 G10
  have G15 := ok_choice_visits (P := l.prog) (w := w) (base := base) GR T F15 (PySem.W.mg_of X G a15) b15 G14 G11 G13 G7
  have G16 := ok_order_choices (P := l.prog) (w := w) (base := base) GR T F16 (PySem.W.mg_of X G a16) b16 G11
  have G17 := ok_order_visits (P := l.prog) (w := w) (base := base) GR T F17 (PySem.W.mg_of X G a17) b17 G15 G16
  have G18 := ok_visits_gain (P := l.prog) (w := w) (base := base) GR T F18 (PySem.W.mg_of X G a18) b18 G13 G5 G7
  have G19 := ok__law_cell (P := l.prog) (w := w) (base := base) GR T F19 (PySem.W.mg_of X G a19) b19
  have G20 := ok__law_draws (P := l.prog) (w := w) (base := base) GR T F20 (PySem.W.mg_of X G a20) b20
  have G21 := ok__law_head (P := l.prog) (w := w) (base := base) GR T F21 (PySem.W.mg_of X G a21) b21 G20 G19
  have G22 := ok__law_low (P := l.prog) (w := w) (base := base) GR T F22 (PySem.W.mg_of X G a22) b22
  have G23 := ok__law_is_integer (P := l.prog) (w := w) (base := base) GR T F23 (PySem.W.mg_of X G a23) b23
  have G24 := ok__law_is_ratio (P := l.prog) (w := w) (base := base) GR T F24 (PySem.W.mg_of X G a24) b24 G23 G22
  have G25 := ok__law_add (P := l.prog) (w := w) (base := base) GR T F25 (PySem.W.mg_of X G a25) b25 G22
  have G26 := ok__law_mul (P := l.prog) (w := w) (base := base) GR T F26 (PySem.W.mg_of X G a26) b26 G22
  have G27 := ok__law_fraction (P := l.prog) (w := w) (base := base) GR T F27 (PySem.W.mg_of X G a27) b27 G22
  have G28 := ok__law_discount (P := l.prog) (w := w) (base := base) GR T F28 (PySem.W.mg_of X G a28) b28 G22
  have G29 := ok__law_game (P := l.prog) (w := w) (base := base) GR T F29 (PySem.W.mg_of X G a29) b29 G20 G27 G25 G22
  have G30 := ok__law_are_ratios (P := l.prog) (w := w) (base := base) GR T F30 (PySem.W.mg_of X G a30) b30 G24
  have G31 := ok__law_small_company (P := l.prog) (w := w) (base := base) GR T F31 (PySem.W.mg_of X G a31) b31 G20 G19 G29
  have G32 := ok__law_joints (P := l.prog) (w := w) (base := base) GR T F32 (PySem.W.mg_of X G a32) b32
  have G33 := ok__law_pairs (P := l.prog) (w := w) (base := base) GR T F33 (PySem.W.mg_of X G a33) b33
  have G34 := ok__law_order (P := l.prog) (w := w) (base := base) GR T F34 (PySem.W.mg_of X G a34) b34 G20
  have G35 := ok__law_dot (P := l.prog) (w := w) (base := base) GR T F35 (PySem.W.mg_of X G a35) b35 G25 G26
  have G36 := ok__law_followed (P := l.prog) (w := w) (base := base) GR T F36 (PySem.W.mg_of X G a36) b36 G32
  exact law_imp (ok_law (P := l.prog) (w := w) (base := base) GR T F37 G31 G28 G21 G33 G34 G19 G17 G30 G15 G36 G20 G27 G18 G24 G35) law_true
theorem facts {w : World} {K : PySem.W.Frag} {h : Heap} {mg : Str → Option Value} {fa : Addr} (X : K.In h) (G : h.Ns mainGlobals mg) (hfa : mg "law" = some (.ref fa)) (c : SaysQ cks dqs K) :
    ∃ fd : FuncData, (∀ (s : Shared) (v : Value), BindsTo s fd ⟨[v], []⟩ [("_law_script", v)]) ∧ ∀ base : Heap, K.In base → base.Ns mainGlobals mg → Grd base PySem.Challenge.rw_anycompany_k57_order_visits.prog → FnOk PySem.Challenge.rw_anycompany_k57_order_visits.prog w K mg base CX0 49 fa fd ["_law_script"] (spLaw K) := by
  have q := c.fact 0 (f := ck0) rfl
  obtain ⟨e_a1, q⟩ := He.ba q
  have e_c1 : (codQ K (He.ga K "common_divisor") "common_divisor") = true := q
  clear q
  have q := c.fact 1 (f := ck1) rfl
  obtain ⟨e_a2, q⟩ := He.ba q
  have e_c2 : (codQ K (He.ga K "make_ratio") "make_ratio") = true := q
  clear q
  have q := c.fact 2 (f := ck2) rfl
  obtain ⟨e_a3, q⟩ := He.ba q
  have e_c3 : (codQ K (He.ga K "add") "add") = true := q
  clear q
  have q := c.fact 3 (f := ck3) rfl
  obtain ⟨e_a4, q⟩ := He.ba q
  have e_c4 : (codQ K (He.ga K "subtract") "subtract") = true := q
  clear q
  have q := c.fact 4 (f := ck4) rfl
  obtain ⟨e_a5, q⟩ := He.ba q
  have e_c5 : (codQ K (He.ga K "multiply") "multiply") = true := q
  clear q
  have q := c.fact 5 (f := ck5) rfl
  obtain ⟨e_a6, q⟩ := He.ba q
  have e_c6 : (codQ K (He.ga K "divide") "divide") = true := q
  clear q
  have q := c.fact 6 (f := ck6) rfl
  obtain ⟨e_a7, q⟩ := He.ba q
  have e_c7 : (codQ K (He.ga K "total") "total") = true := q
  clear q
  have q := c.fact 7 (f := ck7) rfl
  obtain ⟨e_a8, q⟩ := He.ba q
  have e_c8 : (codQ K (He.ga K "without") "without") = true := q
  clear q
  have q := c.fact 8 (f := ck8) rfl
  obtain ⟨e_a9, q⟩ := He.ba q
  have e_c9 : (codQ K (He.ga K "first_nonzero") "first_nonzero") = true := q
  clear q
  have q := c.fact 9 (f := ck9) rfl
  obtain ⟨e_a10, q⟩ := He.ba q
  have e_c10 : (codQ K (He.ga K "solve") "solve") = true := q
  clear q
  have q := c.fact 10 (f := ck10) rfl
  obtain ⟨e_a11, q⟩ := He.ba q
  have e_c11 : (codQ K (He.ga K "joint_states") "joint_states") = true := q
  clear q
  have q := c.fact 11 (f := ck11) rfl
  obtain ⟨e_a12, q⟩ := He.ba q
  have e_c12 : (codQ K (He.ga K "table_places") "table_places") = true := q
  clear q
  have q := c.fact 12 (f := ck12) rfl
  obtain ⟨e_a13, q⟩ := He.ba q
  have e_c13 : (codQ K (He.ga K "pairs_of") "pairs_of") = true := q
  clear q
  have q := c.fact 13 (f := ck13) rfl
  obtain ⟨e_a14, q⟩ := He.ba q
  have e_c14 : (codQ K (He.ga K "joint_visits") "joint_visits") = true := q
  clear q
  have q := c.fact 14 (f := ck14) rfl
  obtain ⟨e_a15, q⟩ := He.ba q
  have e_c15 : (codQ K (He.ga K "choice_visits") "choice_visits") = true := q
  clear q
  have q := c.fact 15 (f := ck15) rfl
  obtain ⟨e_a16, q⟩ := He.ba q
  have e_c16 : (codQ K (He.ga K "order_choices") "order_choices") = true := q
  clear q
  have q := c.fact 16 (f := ck16) rfl
  obtain ⟨e_a17, q⟩ := He.ba q
  have e_c17 : (codQ K (He.ga K "order_visits") "order_visits") = true := q
  clear q
  have q := c.fact 17 (f := ck17) rfl
  obtain ⟨e_a18, q⟩ := He.ba q
  have e_c18 : (codQ K (He.ga K "visits_gain") "visits_gain") = true := q
  clear q
  have q := c.fact 18 (f := ck18) rfl
  obtain ⟨e_a19, q⟩ := He.ba q
  have e_c19 : (codQ K (He.ga K "_law_cell") "_law_cell") = true := q
  clear q
  have q := c.fact 19 (f := ck19) rfl
  obtain ⟨e_a20, q⟩ := He.ba q
  have e_c20 : (codQ K (He.ga K "_law_draws") "_law_draws") = true := q
  clear q
  have q := c.fact 20 (f := ck20) rfl
  obtain ⟨e_a21, q⟩ := He.ba q
  have e_c21 : (codQ K (He.ga K "_law_head") "_law_head") = true := q
  clear q
  have q := c.fact 21 (f := ck21) rfl
  obtain ⟨e_a22, q⟩ := He.ba q
  have e_c22 : (codQ K (He.ga K "_law_low") "_law_low") = true := q
  clear q
  have q := c.fact 22 (f := ck22) rfl
  obtain ⟨e_a23, q⟩ := He.ba q
  have e_c23 : (codQ K (He.ga K "_law_is_integer") "_law_is_integer") = true := q
  clear q
  have q := c.fact 23 (f := ck23) rfl
  obtain ⟨e_a24, q⟩ := He.ba q
  have e_c24 : (codQ K (He.ga K "_law_is_ratio") "_law_is_ratio") = true := q
  clear q
  have q := c.fact 24 (f := ck24) rfl
  obtain ⟨e_a25, q⟩ := He.ba q
  have e_c25 : (codQ K (He.ga K "_law_add") "_law_add") = true := q
  clear q
  have q := c.fact 25 (f := ck25) rfl
  obtain ⟨e_a26, q⟩ := He.ba q
  have e_c26 : (codQ K (He.ga K "_law_mul") "_law_mul") = true := q
  clear q
  have q := c.fact 26 (f := ck26) rfl
  obtain ⟨e_a27, q⟩ := He.ba q
  have e_c27 : (codQ K (He.ga K "_law_fraction") "_law_fraction") = true := q
  clear q
  have q := c.fact 27 (f := ck27) rfl
  obtain ⟨e_a28, q⟩ := He.ba q
  have e_c28 : (codQ K (He.ga K "_law_discount") "_law_discount") = true := q
  clear q
  have q := c.fact 28 (f := ck28) rfl
  obtain ⟨e_a29, q⟩ := He.ba q
  have e_c29 : (codQ K (He.ga K "_law_game") "_law_game") = true := q
  clear q
  have q := c.fact 29 (f := ck29) rfl
  obtain ⟨e_a30, q⟩ := He.ba q
  have e_c30 : (codQ K (He.ga K "_law_are_ratios") "_law_are_ratios") = true := q
  clear q
  have q := c.fact 30 (f := ck30) rfl
  obtain ⟨e_a31, q⟩ := He.ba q
  have e_c31 : (codQ K (He.ga K "_law_small_company") "_law_small_company") = true := q
  clear q
  have q := c.fact 31 (f := ck31) rfl
  obtain ⟨e_a32, q⟩ := He.ba q
  have e_c32 : (codQ K (He.ga K "_law_joints") "_law_joints") = true := q
  clear q
  have q := c.fact 32 (f := ck32) rfl
  obtain ⟨e_a33, q⟩ := He.ba q
  have e_c33 : (codQ K (He.ga K "_law_pairs") "_law_pairs") = true := q
  clear q
  have q := c.fact 33 (f := ck33) rfl
  obtain ⟨e_a34, q⟩ := He.ba q
  have e_c34 : (codQ K (He.ga K "_law_order") "_law_order") = true := q
  clear q
  have q := c.fact 34 (f := ck34) rfl
  obtain ⟨e_a35, q⟩ := He.ba q
  have e_c35 : (codQ K (He.ga K "_law_dot") "_law_dot") = true := q
  clear q
  have q := c.fact 35 (f := ck35) rfl
  obtain ⟨e_a36, q⟩ := He.ba q
  have e_c36 : (codQ K (He.ga K "_law_followed") "_law_followed") = true := q
  clear q
  have q := c.fact 36 (f := ck36) rfl
  obtain ⟨e_a37, q⟩ := He.ba q
  have e_c37 : (codQ K (He.ga K "law") "law") = true := q
  clear q
  have q := c.fact 37 (f := ck37) rfl
  have e_z0 : (decide (PySem.W.nsIn K mainGlobals "gcd" = some (some (.builtin "math.gcd")))) = true := q
  clear q
  have q := c.fact 38 (f := ck38) rfl
  have e_z1 : (decide (PySem.W.nsIn K mainGlobals "zip" = some (none))) = true := q
  clear q
  have q := c.fact 39 (f := ck39) rfl
  have e_z2 : (decide (PySem.W.nsIn K mainGlobals "range" = some (none))) = true := q
  clear q
  have q := c.fact 40 (f := ck40) rfl
  have e_z3 : (decide (PySem.W.nsIn K mainGlobals "len" = some (none))) = true := q
  clear q
  have q := c.fact 41 (f := ck41) rfl
  have e_z4 : (decide (PySem.W.nsIn K mainGlobals "list" = some (none))) = true := q
  clear q
  have q := c.fact 42 (f := ck42) rfl
  have e_z5 : (decide (PySem.W.nsIn K mainGlobals "int" = some (none))) = true := q
  clear q
  have q := c.fact 43 (f := ck43) rfl
  have e_z6 : (decide (PySem.W.nsIn K mainGlobals "tuple" = some (none))) = true := q
  clear q
  have q := c.fact 44 (f := ck44) rfl
  have e_z7 : (decide (PySem.W.nsIn K mainGlobals "abs" = some (none))) = true := q
  clear q
  have q := c.fact 45 (f := ck45) rfl
  have e_z8 : (decide (PySem.W.nsIn K mainGlobals "isinstance" = some (none))) = true := q
  clear q
  have q := c.fact 46 (f := ck46) rfl
  have e_z9 : (decide (PySem.W.nsIn K mainGlobals "bool" = some (none))) = true := q
  clear q
  have q := c.fact 47 (f := ck47) rfl
  have e_z10 : (decide (PySem.W.nsIn K mainGlobals "sum" = some (none))) = true := q
  clear q
  have q := c.fact 48 (f := ck48) rfl
  have e_z11 : (decide (PySem.W.nsIn K mainGlobals "min" = some (none))) = true := q
  clear q
  have q := c.fact 49 (f := ck49) rfl
  obtain ⟨e_y0, q⟩ := He.ba q
  have e_yt0 : (tupQ K (He.ga K "ZERO") [0, 1]) = true := q
  clear q
  have q := c.fact 50 (f := ck50) rfl
  obtain ⟨e_y1, q⟩ := He.ba q
  have e_yt1 : (tupQ K (He.ga K "ONE") [1, 1]) = true := q
  clear q
  obtain ⟨oc1, od1, sl1, kV1, dc1, pm1, an1, cd1, ct1, l1⟩ := fnQ_l (c.def_ 0 (d := dq0) rfl) rfl
  have l1 : K.lookup (He.ga K "common_divisor") = some ⟨oc1, od1, .func (PySem.W.fnOf "common_divisor" "common_divisor" (defArgs s_common_divisor) (defBody s_common_divisor) (defScope s_common_divisor) .none kV1 dc1 pm1 an1 cd1 ct1), sl1⟩ := l1
  have c1 : PySem.W.codeIn K cd1 "common_divisor" = true := cod_of l1 e_c1
  obtain ⟨oc2, od2, sl2, kV2, dc2, pm2, an2, cd2, ct2, l2⟩ := fnQ_l (c.def_ 1 (d := dq1) rfl) rfl
  have l2 : K.lookup (He.ga K "make_ratio") = some ⟨oc2, od2, .func (PySem.W.fnOf "make_ratio" "make_ratio" (defArgs s_make_ratio) (defBody s_make_ratio) (defScope s_make_ratio) .none kV2 dc2 pm2 an2 cd2 ct2), sl2⟩ := l2
  have c2 : PySem.W.codeIn K cd2 "make_ratio" = true := cod_of l2 e_c2
  obtain ⟨oc3, od3, sl3, kV3, dc3, pm3, an3, cd3, ct3, l3⟩ := fnQ_l (c.def_ 2 (d := dq2) rfl) rfl
  have l3 : K.lookup (He.ga K "add") = some ⟨oc3, od3, .func (PySem.W.fnOf "add" "add" (defArgs s_add) (defBody s_add) (defScope s_add) .none kV3 dc3 pm3 an3 cd3 ct3), sl3⟩ := l3
  have c3 : PySem.W.codeIn K cd3 "add" = true := cod_of l3 e_c3
  obtain ⟨oc4, od4, sl4, kV4, dc4, pm4, an4, cd4, ct4, l4⟩ := fnQ_l (c.def_ 3 (d := dq3) rfl) rfl
  have l4 : K.lookup (He.ga K "subtract") = some ⟨oc4, od4, .func (PySem.W.fnOf "subtract" "subtract" (defArgs s_subtract) (defBody s_subtract) (defScope s_subtract) .none kV4 dc4 pm4 an4 cd4 ct4), sl4⟩ := l4
  have c4 : PySem.W.codeIn K cd4 "subtract" = true := cod_of l4 e_c4
  obtain ⟨oc5, od5, sl5, kV5, dc5, pm5, an5, cd5, ct5, l5⟩ := fnQ_l (c.def_ 4 (d := dq4) rfl) rfl
  have l5 : K.lookup (He.ga K "multiply") = some ⟨oc5, od5, .func (PySem.W.fnOf "multiply" "multiply" (defArgs s_multiply) (defBody s_multiply) (defScope s_multiply) .none kV5 dc5 pm5 an5 cd5 ct5), sl5⟩ := l5
  have c5 : PySem.W.codeIn K cd5 "multiply" = true := cod_of l5 e_c5
  obtain ⟨oc6, od6, sl6, kV6, dc6, pm6, an6, cd6, ct6, l6⟩ := fnQ_l (c.def_ 5 (d := dq5) rfl) rfl
  have l6 : K.lookup (He.ga K "divide") = some ⟨oc6, od6, .func (PySem.W.fnOf "divide" "divide" (defArgs s_divide) (defBody s_divide) (defScope s_divide) .none kV6 dc6 pm6 an6 cd6 ct6), sl6⟩ := l6
  have c6 : PySem.W.codeIn K cd6 "divide" = true := cod_of l6 e_c6
  obtain ⟨oc7, od7, sl7, kV7, dc7, pm7, an7, cd7, ct7, l7⟩ := fnQ_l (c.def_ 6 (d := dq6) rfl) rfl
  have l7 : K.lookup (He.ga K "total") = some ⟨oc7, od7, .func (PySem.W.fnOf "total" "total" (defArgs s_total) (defBody s_total) (defScope s_total) .none kV7 dc7 pm7 an7 cd7 ct7), sl7⟩ := l7
  have c7 : PySem.W.codeIn K cd7 "total" = true := cod_of l7 e_c7
  obtain ⟨oc8, od8, sl8, kV8, dc8, pm8, an8, cd8, ct8, l8⟩ := fnQ_l (c.def_ 7 (d := dq7) rfl) rfl
  have l8 : K.lookup (He.ga K "without") = some ⟨oc8, od8, .func (PySem.W.fnOf "without" "without" (defArgs s_without) (defBody s_without) (defScope s_without) .none kV8 dc8 pm8 an8 cd8 ct8), sl8⟩ := l8
  have c8 : PySem.W.codeIn K cd8 "without" = true := cod_of l8 e_c8
  obtain ⟨oc9, od9, sl9, kV9, dc9, pm9, an9, cd9, ct9, l9⟩ := fnQ_l (c.def_ 8 (d := dq8) rfl) rfl
  have l9 : K.lookup (He.ga K "first_nonzero") = some ⟨oc9, od9, .func (PySem.W.fnOf "first_nonzero" "first_nonzero" (defArgs s_first_nonzero) (defBody s_first_nonzero) (defScope s_first_nonzero) .none kV9 dc9 pm9 an9 cd9 ct9), sl9⟩ := l9
  have c9 : PySem.W.codeIn K cd9 "first_nonzero" = true := cod_of l9 e_c9
  obtain ⟨oc10, od10, sl10, kV10, dc10, pm10, an10, cd10, ct10, l10⟩ := fnQ_l (c.def_ 9 (d := dq9) rfl) rfl
  have l10 : K.lookup (He.ga K "solve") = some ⟨oc10, od10, .func (PySem.W.fnOf "solve" "solve" (defArgs s_solve) (defBody s_solve) (defScope s_solve) .none kV10 dc10 pm10 an10 cd10 ct10), sl10⟩ := l10
  have c10 : PySem.W.codeIn K cd10 "solve" = true := cod_of l10 e_c10
  obtain ⟨oc11, od11, sl11, kV11, dc11, pm11, an11, cd11, ct11, l11⟩ := fnQ_l (c.def_ 10 (d := dq10) rfl) rfl
  have l11 : K.lookup (He.ga K "joint_states") = some ⟨oc11, od11, .func (PySem.W.fnOf "joint_states" "joint_states" (defArgs s_joint_states) (defBody s_joint_states) (defScope s_joint_states) .none kV11 dc11 pm11 an11 cd11 ct11), sl11⟩ := l11
  have c11 : PySem.W.codeIn K cd11 "joint_states" = true := cod_of l11 e_c11
  obtain ⟨oc12, od12, sl12, kV12, dc12, pm12, an12, cd12, ct12, l12⟩ := fnQ_l (c.def_ 11 (d := dq11) rfl) rfl
  have l12 : K.lookup (He.ga K "table_places") = some ⟨oc12, od12, .func (PySem.W.fnOf "table_places" "table_places" (defArgs s_table_places) (defBody s_table_places) (defScope s_table_places) .none kV12 dc12 pm12 an12 cd12 ct12), sl12⟩ := l12
  have c12 : PySem.W.codeIn K cd12 "table_places" = true := cod_of l12 e_c12
  obtain ⟨oc13, od13, sl13, kV13, dc13, pm13, an13, cd13, ct13, l13⟩ := fnQ_l (c.def_ 12 (d := dq12) rfl) rfl
  have l13 : K.lookup (He.ga K "pairs_of") = some ⟨oc13, od13, .func (PySem.W.fnOf "pairs_of" "pairs_of" (defArgs s_pairs_of) (defBody s_pairs_of) (defScope s_pairs_of) .none kV13 dc13 pm13 an13 cd13 ct13), sl13⟩ := l13
  have c13 : PySem.W.codeIn K cd13 "pairs_of" = true := cod_of l13 e_c13
  obtain ⟨oc14, od14, sl14, kV14, dc14, pm14, an14, cd14, ct14, l14⟩ := fnQ_l (c.def_ 13 (d := dq13) rfl) rfl
  have l14 : K.lookup (He.ga K "joint_visits") = some ⟨oc14, od14, .func (PySem.W.fnOf "joint_visits" "joint_visits" (defArgs s_joint_visits) (defBody s_joint_visits) (defScope s_joint_visits) .none kV14 dc14 pm14 an14 cd14 ct14), sl14⟩ := l14
  have c14 : PySem.W.codeIn K cd14 "joint_visits" = true := cod_of l14 e_c14
  obtain ⟨oc15, od15, sl15, kV15, dc15, pm15, an15, cd15, ct15, l15⟩ := fnQ_l (c.def_ 14 (d := dq14) rfl) rfl
  have l15 : K.lookup (He.ga K "choice_visits") = some ⟨oc15, od15, .func (PySem.W.fnOf "choice_visits" "choice_visits" (defArgs s_choice_visits) (defBody s_choice_visits) (defScope s_choice_visits) .none kV15 dc15 pm15 an15 cd15 ct15), sl15⟩ := l15
  have c15 : PySem.W.codeIn K cd15 "choice_visits" = true := cod_of l15 e_c15
  obtain ⟨oc16, od16, sl16, kV16, dc16, pm16, an16, cd16, ct16, l16⟩ := fnQ_l (c.def_ 15 (d := dq15) rfl) rfl
  have l16 : K.lookup (He.ga K "order_choices") = some ⟨oc16, od16, .func (PySem.W.fnOf "order_choices" "order_choices" (defArgs s_order_choices) (defBody s_order_choices) (defScope s_order_choices) .none kV16 dc16 pm16 an16 cd16 ct16), sl16⟩ := l16
  have c16 : PySem.W.codeIn K cd16 "order_choices" = true := cod_of l16 e_c16
  obtain ⟨oc17, od17, sl17, kV17, dc17, pm17, an17, cd17, ct17, l17⟩ := fnQ_l (c.def_ 16 (d := dq16) rfl) rfl
  have l17 : K.lookup (He.ga K "order_visits") = some ⟨oc17, od17, .func (PySem.W.fnOf "order_visits" "order_visits" (defArgs s_order_visits) (defBody s_order_visits) (defScope s_order_visits) .none kV17 dc17 pm17 an17 cd17 ct17), sl17⟩ := l17
  have c17 : PySem.W.codeIn K cd17 "order_visits" = true := cod_of l17 e_c17
  obtain ⟨oc18, od18, sl18, kV18, dc18, pm18, an18, cd18, ct18, l18⟩ := fnQ_l (c.def_ 17 (d := dq17) rfl) rfl
  have l18 : K.lookup (He.ga K "visits_gain") = some ⟨oc18, od18, .func (PySem.W.fnOf "visits_gain" "visits_gain" (defArgs s_visits_gain) (defBody s_visits_gain) (defScope s_visits_gain) .none kV18 dc18 pm18 an18 cd18 ct18), sl18⟩ := l18
  have c18 : PySem.W.codeIn K cd18 "visits_gain" = true := cod_of l18 e_c18
  obtain ⟨oc19, od19, sl19, kV19, dc19, pm19, an19, cd19, ct19, l19⟩ := fnQ_l (c.def_ 18 (d := dq18) rfl) rfl
  have l19 : K.lookup (He.ga K "_law_cell") = some ⟨oc19, od19, .func (PySem.W.fnOf "_law_cell" "_law_cell" (defArgs s__law_cell) (defBody s__law_cell) (defScope s__law_cell) .none kV19 dc19 pm19 an19 cd19 ct19), sl19⟩ := l19
  have c19 : PySem.W.codeIn K cd19 "_law_cell" = true := cod_of l19 e_c19
  obtain ⟨oc20, od20, sl20, kV20, dc20, pm20, an20, cd20, ct20, l20⟩ := fnQ_l (c.def_ 19 (d := dq19) rfl) rfl
  have l20 : K.lookup (He.ga K "_law_draws") = some ⟨oc20, od20, .func (PySem.W.fnOf "_law_draws" "_law_draws" (defArgs s__law_draws) (defBody s__law_draws) (defScope s__law_draws) .none kV20 dc20 pm20 an20 cd20 ct20), sl20⟩ := l20
  have c20 : PySem.W.codeIn K cd20 "_law_draws" = true := cod_of l20 e_c20
  obtain ⟨oc21, od21, sl21, kV21, dc21, pm21, an21, cd21, ct21, l21⟩ := fnQ_l (c.def_ 20 (d := dq20) rfl) rfl
  have l21 : K.lookup (He.ga K "_law_head") = some ⟨oc21, od21, .func (PySem.W.fnOf "_law_head" "_law_head" (defArgs s__law_head) (defBody s__law_head) (defScope s__law_head) .none kV21 dc21 pm21 an21 cd21 ct21), sl21⟩ := l21
  have c21 : PySem.W.codeIn K cd21 "_law_head" = true := cod_of l21 e_c21
  obtain ⟨oc22, od22, sl22, kV22, dc22, pm22, an22, cd22, ct22, l22⟩ := fnQ_l (c.def_ 21 (d := dq21) rfl) rfl
  have l22 : K.lookup (He.ga K "_law_low") = some ⟨oc22, od22, .func (PySem.W.fnOf "_law_low" "_law_low" (defArgs s__law_low) (defBody s__law_low) (defScope s__law_low) .none kV22 dc22 pm22 an22 cd22 ct22), sl22⟩ := l22
  have c22 : PySem.W.codeIn K cd22 "_law_low" = true := cod_of l22 e_c22
  obtain ⟨oc23, od23, sl23, kV23, dc23, pm23, an23, cd23, ct23, l23⟩ := fnQ_l (c.def_ 22 (d := dq22) rfl) rfl
  have l23 : K.lookup (He.ga K "_law_is_integer") = some ⟨oc23, od23, .func (PySem.W.fnOf "_law_is_integer" "_law_is_integer" (defArgs s__law_is_integer) (defBody s__law_is_integer) (defScope s__law_is_integer) .none kV23 dc23 pm23 an23 cd23 ct23), sl23⟩ := l23
  have c23 : PySem.W.codeIn K cd23 "_law_is_integer" = true := cod_of l23 e_c23
  obtain ⟨oc24, od24, sl24, kV24, dc24, pm24, an24, cd24, ct24, l24⟩ := fnQ_l (c.def_ 23 (d := dq23) rfl) rfl
  have l24 : K.lookup (He.ga K "_law_is_ratio") = some ⟨oc24, od24, .func (PySem.W.fnOf "_law_is_ratio" "_law_is_ratio" (defArgs s__law_is_ratio) (defBody s__law_is_ratio) (defScope s__law_is_ratio) .none kV24 dc24 pm24 an24 cd24 ct24), sl24⟩ := l24
  have c24 : PySem.W.codeIn K cd24 "_law_is_ratio" = true := cod_of l24 e_c24
  obtain ⟨oc25, od25, sl25, kV25, dc25, pm25, an25, cd25, ct25, l25⟩ := fnQ_l (c.def_ 24 (d := dq24) rfl) rfl
  have l25 : K.lookup (He.ga K "_law_add") = some ⟨oc25, od25, .func (PySem.W.fnOf "_law_add" "_law_add" (defArgs s__law_add) (defBody s__law_add) (defScope s__law_add) .none kV25 dc25 pm25 an25 cd25 ct25), sl25⟩ := l25
  have c25 : PySem.W.codeIn K cd25 "_law_add" = true := cod_of l25 e_c25
  obtain ⟨oc26, od26, sl26, kV26, dc26, pm26, an26, cd26, ct26, l26⟩ := fnQ_l (c.def_ 25 (d := dq25) rfl) rfl
  have l26 : K.lookup (He.ga K "_law_mul") = some ⟨oc26, od26, .func (PySem.W.fnOf "_law_mul" "_law_mul" (defArgs s__law_mul) (defBody s__law_mul) (defScope s__law_mul) .none kV26 dc26 pm26 an26 cd26 ct26), sl26⟩ := l26
  have c26 : PySem.W.codeIn K cd26 "_law_mul" = true := cod_of l26 e_c26
  obtain ⟨oc27, od27, sl27, kV27, dc27, pm27, an27, cd27, ct27, l27⟩ := fnQ_l (c.def_ 26 (d := dq26) rfl) rfl
  have l27 : K.lookup (He.ga K "_law_fraction") = some ⟨oc27, od27, .func (PySem.W.fnOf "_law_fraction" "_law_fraction" (defArgs s__law_fraction) (defBody s__law_fraction) (defScope s__law_fraction) .none kV27 dc27 pm27 an27 cd27 ct27), sl27⟩ := l27
  have c27 : PySem.W.codeIn K cd27 "_law_fraction" = true := cod_of l27 e_c27
  obtain ⟨oc28, od28, sl28, kV28, dc28, pm28, an28, cd28, ct28, l28⟩ := fnQ_l (c.def_ 27 (d := dq27) rfl) rfl
  have l28 : K.lookup (He.ga K "_law_discount") = some ⟨oc28, od28, .func (PySem.W.fnOf "_law_discount" "_law_discount" (defArgs s__law_discount) (defBody s__law_discount) (defScope s__law_discount) .none kV28 dc28 pm28 an28 cd28 ct28), sl28⟩ := l28
  have c28 : PySem.W.codeIn K cd28 "_law_discount" = true := cod_of l28 e_c28
  obtain ⟨oc29, od29, sl29, kV29, dc29, pm29, an29, cd29, ct29, l29⟩ := fnQ_l (c.def_ 28 (d := dq28) rfl) rfl
  have l29 : K.lookup (He.ga K "_law_game") = some ⟨oc29, od29, .func (PySem.W.fnOf "_law_game" "_law_game" (defArgs s__law_game) (defBody s__law_game) (defScope s__law_game) .none kV29 dc29 pm29 an29 cd29 ct29), sl29⟩ := l29
  have c29 : PySem.W.codeIn K cd29 "_law_game" = true := cod_of l29 e_c29
  obtain ⟨oc30, od30, sl30, kV30, dc30, pm30, an30, cd30, ct30, l30⟩ := fnQ_l (c.def_ 29 (d := dq29) rfl) rfl
  have l30 : K.lookup (He.ga K "_law_are_ratios") = some ⟨oc30, od30, .func (PySem.W.fnOf "_law_are_ratios" "_law_are_ratios" (defArgs s__law_are_ratios) (defBody s__law_are_ratios) (defScope s__law_are_ratios) .none kV30 dc30 pm30 an30 cd30 ct30), sl30⟩ := l30
  have c30 : PySem.W.codeIn K cd30 "_law_are_ratios" = true := cod_of l30 e_c30
  obtain ⟨oc31, od31, sl31, kV31, dc31, pm31, an31, cd31, ct31, l31⟩ := fnQ_l (c.def_ 30 (d := dq30) rfl) rfl
  have l31 : K.lookup (He.ga K "_law_small_company") = some ⟨oc31, od31, .func (PySem.W.fnOf "_law_small_company" "_law_small_company" (defArgs s__law_small_company) (defBody s__law_small_company) (defScope s__law_small_company) .none kV31 dc31 pm31 an31 cd31 ct31), sl31⟩ := l31
  have c31 : PySem.W.codeIn K cd31 "_law_small_company" = true := cod_of l31 e_c31
  obtain ⟨oc32, od32, sl32, kV32, dc32, pm32, an32, cd32, ct32, l32⟩ := fnQ_l (c.def_ 31 (d := dq31) rfl) rfl
  have l32 : K.lookup (He.ga K "_law_joints") = some ⟨oc32, od32, .func (PySem.W.fnOf "_law_joints" "_law_joints" (defArgs s__law_joints) (defBody s__law_joints) (defScope s__law_joints) .none kV32 dc32 pm32 an32 cd32 ct32), sl32⟩ := l32
  have c32 : PySem.W.codeIn K cd32 "_law_joints" = true := cod_of l32 e_c32
  obtain ⟨oc33, od33, sl33, kV33, dc33, pm33, an33, cd33, ct33, l33⟩ := fnQ_l (c.def_ 32 (d := dq32) rfl) rfl
  have l33 : K.lookup (He.ga K "_law_pairs") = some ⟨oc33, od33, .func (PySem.W.fnOf "_law_pairs" "_law_pairs" (defArgs s__law_pairs) (defBody s__law_pairs) (defScope s__law_pairs) .none kV33 dc33 pm33 an33 cd33 ct33), sl33⟩ := l33
  have c33 : PySem.W.codeIn K cd33 "_law_pairs" = true := cod_of l33 e_c33
  obtain ⟨oc34, od34, sl34, kV34, dc34, pm34, an34, cd34, ct34, l34⟩ := fnQ_l (c.def_ 33 (d := dq33) rfl) rfl
  have l34 : K.lookup (He.ga K "_law_order") = some ⟨oc34, od34, .func (PySem.W.fnOf "_law_order" "_law_order" (defArgs s__law_order) (defBody s__law_order) (defScope s__law_order) .none kV34 dc34 pm34 an34 cd34 ct34), sl34⟩ := l34
  have c34 : PySem.W.codeIn K cd34 "_law_order" = true := cod_of l34 e_c34
  obtain ⟨oc35, od35, sl35, kV35, dc35, pm35, an35, cd35, ct35, l35⟩ := fnQ_l (c.def_ 34 (d := dq34) rfl) rfl
  have l35 : K.lookup (He.ga K "_law_dot") = some ⟨oc35, od35, .func (PySem.W.fnOf "_law_dot" "_law_dot" (defArgs s__law_dot) (defBody s__law_dot) (defScope s__law_dot) .none kV35 dc35 pm35 an35 cd35 ct35), sl35⟩ := l35
  have c35 : PySem.W.codeIn K cd35 "_law_dot" = true := cod_of l35 e_c35
  obtain ⟨oc36, od36, sl36, kV36, dc36, pm36, an36, cd36, ct36, l36⟩ := fnQ_l (c.def_ 35 (d := dq35) rfl) rfl
  have l36 : K.lookup (He.ga K "_law_followed") = some ⟨oc36, od36, .func (PySem.W.fnOf "_law_followed" "_law_followed" (defArgs s__law_followed) (defBody s__law_followed) (defScope s__law_followed) .none kV36 dc36 pm36 an36 cd36 ct36), sl36⟩ := l36
  have c36 : PySem.W.codeIn K cd36 "_law_followed" = true := cod_of l36 e_c36
  obtain ⟨oc37, od37, sl37, kV37, dc37, pm37, an37, cd37, ct37, l37⟩ := fnQ_l (c.def_ 36 (d := dq36) rfl) rfl
  have l37 : K.lookup (He.ga K "law") = some ⟨oc37, od37, .func (PySem.W.fnOf "law" "law" (defArgs s_law) (defBody s_law) (defScope s_law) .none kV37 dc37 pm37 an37 cd37 ct37), sl37⟩ := l37
  have c37 : PySem.W.codeIn K cd37 "law" = true := cod_of l37 e_c37
  obtain ⟨oy0, iy0, ny0, sy0, ly0, ry0, zy0⟩ := tupQ_ok e_yt0
  obtain ⟨oy1, iy1, ny1, sy1, ly1, ry1, zy1⟩ := tupQ_ok e_yt1
  exact all_mk (l := PySem.Challenge.rw_anycompany_k57_order_visits) X G hfa (of_decide_eq_true e_a1) l1 c1 (of_decide_eq_true e_a2) l2 c2 (of_decide_eq_true e_a3) l3 c3 (of_decide_eq_true e_a4) l4 c4 (of_decide_eq_true e_a5) l5 c5 (of_decide_eq_true e_a6) l6 c6 (of_decide_eq_true e_a7) l7 c7 (of_decide_eq_true e_a8) l8 c8 (of_decide_eq_true e_a9) l9 c9 (of_decide_eq_true e_a10) l10 c10 (of_decide_eq_true e_a11) l11 c11 (of_decide_eq_true e_a12) l12 c12 (of_decide_eq_true e_a13) l13 c13 (of_decide_eq_true e_a14) l14 c14 (of_decide_eq_true e_a15) l15 c15 (of_decide_eq_true e_a16) l16 c16 (of_decide_eq_true e_a17) l17 c17 (of_decide_eq_true e_a18) l18 c18 (of_decide_eq_true e_a19) l19 c19 (of_decide_eq_true e_a20) l20 c20 (of_decide_eq_true e_a21) l21 c21 (of_decide_eq_true e_a22) l22 c22 (of_decide_eq_true e_a23) l23 c23 (of_decide_eq_true e_a24) l24 c24 (of_decide_eq_true e_a25) l25 c25 (of_decide_eq_true e_a26) l26 c26 (of_decide_eq_true e_a27) l27 c27 (of_decide_eq_true e_a28) l28 c28 (of_decide_eq_true e_a29) l29 c29 (of_decide_eq_true e_a30) l30 c30 (of_decide_eq_true e_a31) l31 c31 (of_decide_eq_true e_a32) l32 c32 (of_decide_eq_true e_a33) l33 c33 (of_decide_eq_true e_a34) l34 c34 (of_decide_eq_true e_a35) l35 c35 (of_decide_eq_true e_a36) l36 c36 (of_decide_eq_true e_a37) l37 c37 (of_decide_eq_true e_z0) (of_decide_eq_true e_z1) (of_decide_eq_true e_z2) (of_decide_eq_true e_z3) (of_decide_eq_true e_z4) (of_decide_eq_true e_z5) (of_decide_eq_true e_z6) (of_decide_eq_true e_z7) (of_decide_eq_true e_z8) (of_decide_eq_true e_z9) (of_decide_eq_true e_z10) (of_decide_eq_true e_z11) (of_decide_eq_true e_y0) ly0 ry0 zy0 (of_decide_eq_true e_y1) ly1 ry1 zy1
end Lw
open PySem PySem.W PyProof.Rows
set_option maxHeartbeats 0 in
theorem PySem.Challenge.cw_anycompany_k57_order_visits_holds : PySem.Challenge.rw_anycompany_k57_order_visits.Holds := by
  w_on; o_law
  refine Q.head_two (r := OpenLaw.row PySem.Challenge.rw_anycompany_k57_order_visits) (q := view (OpenLaw.row PySem.Challenge.rw_anycompany_k57_order_visits).prog [47]) (H := Lw.hkX) (ob := Lw.obX) (M0 := 4000) (M := 60000) (loose := Lw.nms) (d := HandSHeadRun.topDef (OpenLaw.row PySem.Challenge.rw_anycompany_k57_order_visits).prog 47) (kwd := []) Lw.obX_eq
    Lw.runX (by kernel_rfl) (by kernel_rfl) (by kernel_rfl) (by rfl) (by first | assumption | decide +kernel) (by decide +kernel) ⟨rfl, rfl, rfl, rfl, rfl, by decide +kernel⟩ ?hw ?hc
  case hw => w_witness2
  case hc =>
    refine Q.walk_ofT (l := PySem.Challenge.rw_anycompany_k57_order_visits) (n := 63) (k := 49) (x := "_law_script") rfl rfl (by kernel_rfl) ⟨rfl, by decide, by decide⟩ (by decide +kernel) rfl ?F
    intro w mg fa h Y G hmg0
    obtain ⟨K, KX, c⟩ := Y
    have hmg : mg ("law" : PySem.Str) = some (.ref fa) := by
      have e : (HandSHeadRun.topDef (OpenLaw.row PySem.Challenge.rw_anycompany_k57_order_visits).prog 47).name = ("law" : PySem.Str) := by kernel_rfl
      rw [← e]
      exact hmg0
    obtain ⟨fd, hb, hF⟩ := Lw.facts (w := w) KX G hmg c
    exact ⟨K, fd, KX, hb, hF⟩
