import PyProof.Rows.All
import PySem.Challenge.RW_fewcolours_k68_what_a_change_costs
import HandS.ForMost
import HandS.Wide
import HandS.IsInst
import HandS.Zip
import HandS.Style
import KE.SortData
import KE.DataMinMax
import KE.GoesNew
import HandS.Conv
import HandS.TupAny
import HandS.DictTup
import HandS.More
import HandS.Deep
import HandS.Small
import HandS.NoneIn
import HandS.Rev
import KE.DatumOrd
set_option Elab.async false
set_option linter.all false
set_option maxRecDepth 100000
set_option maxHeartbeats 4000000
/-! The data layer: values as plain data, what stands in the heap told by footprints. -/
namespace DL
open PySem PySem.Spec PyProof.Rows L2

/-! ### data -/
/-- shr d: d, whose lists are not the holder's own, and stay as they are -/
inductive D where
  | non | bl (b : Bool) | int (i : Int) | str (x : Str) | tup (ds : List D) | lst (ds : List D) | ty (n : String) | scr (ns : List Int) | gen
  | dct (t : Bool) (kk : List (List Key)) (ds : List D) | mt (ds : List D) | obj (C : Addr) (ns : List Str) (ds : List D) | shr (d : D)

mutual
def noL : D → Bool
  | .tup ds => noLs ds
  | .lst _ => false
  | .dct _ _ _ => false
  | .mt ds => noLs ds
  | .obj _ _ _ => false
  | .shr _ => false
  | .non => true
  | .bl _ => true
  | .int _ => true
  | .str _ => true
  | .ty _ => true
  | .scr _ => true
  | .gen => true
def noLs : List D → Bool
  | [] => true
  | d :: ds => noL d && noLs ds
end
/-! nothing shared within -/
mutual
def nsD : D → Bool
  | .tup ds => nsDs ds
  | .lst ds => nsDs ds
  | .dct _ _ ds => nsDs ds
  | .mt ds => nsDs ds
  | .obj _ _ ds => nsDs ds
  | .shr _ => false
  | .non => true
  | .bl _ => true
  | .int _ => true
  | .str _ => true
  | .ty _ => true
  | .scr _ => true
  | .gen => true
def nsDs : List D → Bool
  | [] => true
  | d :: ds => nsD d && nsDs ds
end
mutual
theorem nsD_of : ∀ {d : D}, noL d = true → nsD d = true
  | .non, _ => rfl
  | .bl _, _ => rfl
  | .int _, _ => rfl
  | .str _, _ => rfl
  | .ty _, _ => rfl
  | .scr _, _ => rfl
  | .gen, _ => rfl
  | .tup ds, h => nsDs_of (ds := ds) h
  | .lst _, h => nomatch h
  | .dct _ _ _, h => nomatch h
  | .mt ds, h => nsDs_of (ds := ds) h
  | .obj _ _ _, h => nomatch h
  | .shr _, h => nomatch h
theorem nsDs_of : ∀ {ds : List D}, noLs ds = true → nsDs ds = true
  | [], _ => rfl
  | d :: ds, h => by
    have h' : (noL d && noLs ds) = true := h
    rw [Bool.and_eq_true] at h'
    show (nsD d && nsDs ds) = true
    rw [nsD_of h'.1, nsDs_of h'.2]; rfl
end
/-- things that are changed in their place -/
def isMut : HO → Bool
  | .lst _ => true
  | .dK _ => true
  | .dT _ => true
  | .ins _ _ _ => true
  | .own _ => true
  | _ => false
/-- keys as data: one key, or a tuple of keys -/
def eK : Key → D
  | .inl i => .int i
  | .inr x => .str x
def eKs (k : List Key) : D := .tup (k.map eK)
def keyD (t : Bool) (k : List Key) : D := if t = true then eKs k else eK (k.headD (.inl 0))
/-- the dict at a: its keys kk (t: tuples; else one key each), its values us -/
def DcAt (H : Hp) (a : Addr) (t : Bool) (kk : List (List Key)) (us : List V) : Prop :=
  (t = true ∧ H a = some (.dT (kk.zip us))) ∨ (t = false ∧ ∃ k1 : List Key, kk = k1.map (fun k => [k]) ∧ H a = some (.dK (k1.zip us)))
theorem DcAt.mut {H : Hp} {a : Addr} {t : Bool} {kk : List (List Key)} {us : List V} (h : DcAt H a t kk us) : ∃ o, H a = some o ∧ isMut o = true := by
  rcases h with ⟨_, e⟩ | ⟨_, _, _, e⟩
  · exact ⟨_, e, rfl⟩
  · exact ⟨_, e, rfl⟩
theorem DcAt.at {H H' : Hp} {a : Addr} {t : Bool} {kk : List (List Key)} {us : List V} (h : DcAt H a t kk us) (k : ∀ o, H a = some o → H' a = some o) : DcAt H' a t kk us := by
  rcases h with ⟨e1, e⟩ | ⟨e1, kk, e2, e⟩
  · exact .inl ⟨e1, k _ e⟩
  · exact .inr ⟨e1, kk, e2, k _ e⟩

/-- a list that is only read: frozen, or of the module -/
def SqF (K : PySem.W.Frag) (H : Hp) (a : Addr) (xs : List V) : Prop :=
  (∃ o, H a = some (.frz o (.lst xs))) ∨ ∃ (o : Obj) (its : Array Value) (n : Nat), K.lookup a = some o ∧ o.cls = .type "list" ∧ o.dict = none ∧ o.data = .seq its n ∧ its.size ≤ sizeLine ∧ Vals xs its.toList
/-- a tuple that is tracked -/
def SqU (_K : PySem.W.Frag) (H : Hp) (a : Addr) (xs : List V) : Prop := H a = some (.tup xs)
/-- a tuple: tracked, or of the module -/
def SqM (K : PySem.W.Frag) (H : Hp) (a : Addr) (xs : List V) : Prop :=
  H a = some (.tup xs) ∨ ∃ (o : Obj) (its : Array Value) (n : Nat), K.lookup a = some o ∧ o.cls = .type "tuple" ∧ o.data = .seq its n ∧ its.size ≤ sizeLine ∧ Vals xs its.toList
theorem SqU.t {K : PySem.W.Frag} {H : Hp} {a : Addr} {xs : List V} (h : SqU K H a xs) : SqT K H a xs := .inl (.inl h)
theorem SqM.t {K : PySem.W.Frag} {H : Hp} {a : Addr} {xs : List V} (h : SqM K H a xs) : SqT K H a xs := h.elim (fun e => .inl (.inl e)) .inr
theorem SqF.l {K : PySem.W.Frag} {H : Hp} {a : Addr} {xs : List V} (h : SqF K H a xs) : SqL K H a xs := h.elim (fun ⟨o, e⟩ => .inl (.inr ⟨o, e⟩)) .inr
mutual
/-- the value v stands for d in H, by the things at fp; what is shared lies in F -/
def Rp (K : PySem.W.Frag) (F : Addr → Prop) (H : Hp) : D → V → List Addr → Prop
  | .non, v, fp => v = .non ∧ fp = []
  | .bl b, v, fp => v = .bl b ∧ fp = []
  | .int i, v, fp => v = .int i ∧ fp = []
  | .str x, v, fp => v = .str x ∧ fp = []
  | .ty n, v, fp => v = .ty n ∧ fp = []
  | .scr ns, v, fp => fp = [] ∧ ∃ a, v = .ref a ∧ SqF K H a (ns.map V.int)
  | .gen, _, _ => False
  | .tup ds, v, fp => ∃ a vs, v = .ref a ∧ SqU K H a vs ∧ Rps K F H ds vs fp
  | .lst ds, v, fp => ∃ a vs f, v = .ref a ∧ H a = some (.lst vs) ∧ fp = a :: f ∧ Rps K F H ds vs f
  | .dct t kk ds, v, fp => ∃ a us f, v = .ref a ∧ DcAt H a t kk us ∧ fp = a :: f ∧ (kk.length = us.length ∧ kk.Nodup) ∧ Rps K F H ds us f
  | .mt ds, v, fp => fp = [] ∧ ∃ a vs, v = .ref a ∧ SqM K H a vs ∧ Rps K F H ds vs []
  | .obj C ns ds, v, fp => ∃ a dx us f, v = .ref a ∧ H a = some (.ins C dx (ns.zip us)) ∧ H dx = some (.own a) ∧ fp = a :: dx :: f ∧ ns.length = us.length ∧ Rps K F H ds us f
  | .shr d, v, fp => fp = [] ∧ ∃ g, Rp K F H d v g ∧ ∀ a ∈ g, F a
def Rps (K : PySem.W.Frag) (F : Addr → Prop) (H : Hp) : List D → List V → List Addr → Prop
  | [], vs, fp => vs = [] ∧ fp = []
  | d :: ds, vs, fp => ∃ v vr f g, vs = v :: vr ∧ fp = f ++ g ∧ Rp K F H d v f ∧ Rps K F H ds vr g
end

/-- all that was tracked is as it was but at the addresses of G -/
def Ext (G : Addr → Prop) (H H' : Hp) : Prop := ∀ b o, H b = some o → ¬ G b → H' b = some o
theorem Ext.refl {G : Addr → Prop} (H : Hp) : Ext G H H := fun _ _ e _ => e
theorem Ext.trans {G : Addr → Prop} {H H1 H2 : Hp} (a : Ext G H H1) (b : Ext G H1 H2) : Ext G H H2 := fun c o e n => b c o (a c o e n) n
theorem Ext.same {G : Addr → Prop} {H H' : Hp} (s : Same H H') : Ext G H H' := fun b o e _ => s b o e
theorem Ext.mono {G G' : Addr → Prop} {H H' : Hp} (a : Ext G H H') (h : ∀ x, G x → G' x) : Ext G' H H' := fun b o e n => a b o e fun g => n (h b g)
theorem same_upd {H : Hp} {p : Addr} {o : HO} (h : H p = none) : Same H (upd H p o) := fun b x e => by
  rw [upd_ne (ne_of_none e h)]; exact e
theorem ext_upd {H : Hp} {p : Addr} {o : HO} : Ext (fun b => b = p) H (upd H p o) := fun b x e n => by
  rw [upd_ne n]; exact e
/-- the addresses of G hold what changes in its place -/
def Lsts (G : Addr → Prop) (H : Hp) : Prop := ∀ a, G a → ∃ o, H a = some o ∧ isMut o = true

section
variable {K : PySem.W.Frag} {F G : Addr → Prop} {H H' : Hp}
theorem sqT_ext {a : Addr} {xs : List V} (hl : Lsts G H) (h : Ext G H H') (r : SqU K H a xs) : SqU K H' a xs := h a _ r fun g => by
  have r : H a = some (.tup xs) := r
  obtain ⟨o, e2, m⟩ := hl a g
  rw [r] at e2; cases e2; cases m
theorem sqM_ext {a : Addr} {xs : List V} (hl : Lsts G H) (h : Ext G H H') (r : SqM K H a xs) : SqM K H' a xs := by
  rcases r with r | r
  · exact .inl (h a _ r fun g => by
      obtain ⟨o, e2, m⟩ := hl a g
      rw [r] at e2; cases e2; cases m)
  · exact .inr r
theorem sqF_ext {a : Addr} {xs : List V} (hl : Lsts G H) (h : Ext G H H') (r : SqF K H a xs) : SqF K H' a xs := by
  rcases r with ⟨o, r⟩ | r
  · exact .inl ⟨o, h a _ r fun g => by
      obtain ⟨o2, e2, m⟩ := hl a g
      rw [r] at e2; cases e2; cases m⟩
  · exact .inr r
mutual
theorem Rp.ext (hl : Lsts G H) (hF : ∀ a, F a → ¬ G a) (h : Ext G H H') : ∀ {d : D} {v : V} {fp : List Addr}, (∀ a ∈ fp, ¬ G a) → Rp K F H d v fp → Rp K F H' d v fp
  | .non, _, _, _, r => r
  | .bl _, _, _, _, r => r
  | .int _, _, _, _, r => r
  | .str _, _, _, _, r => r
  | .ty _, _, _, _, r => r
  | .scr _, _, _, _, ⟨e, a, ev, q⟩ => ⟨e, a, ev, sqF_ext hl h q⟩
  | .gen, _, _, _, r => r
  | .tup _, _, _, n, ⟨a, vs, e, q, r⟩ => ⟨a, vs, e, sqT_ext hl h q, Rps.ext hl hF h n r⟩
  | .lst _, _, _, n, ⟨a, vs, f, e, q, ef, r⟩ => by
    subst ef
    exact ⟨a, vs, f, e, h a _ q (n a List.mem_cons_self), rfl, Rps.ext hl hF h (fun b hb => n b (List.mem_cons_of_mem _ hb)) r⟩
  | .mt _, _, _, n, ⟨e, a, vs, ev, q, r⟩ => ⟨e, a, vs, ev, sqM_ext hl h q, Rps.ext hl hF h (fun _ z => nomatch z) r⟩
  | .dct _ _ _, _, _, n, ⟨a, vs, f, e, q, ef, hn, r⟩ => by
    subst ef
    exact ⟨a, vs, f, e, q.at fun o z => h a _ z (n a List.mem_cons_self), rfl, hn, Rps.ext hl hF h (fun b hb => n b (List.mem_cons_of_mem _ hb)) r⟩
  | .obj _ _ _, _, _, n, ⟨a, dx, vs, f, e, q, q2, ef, hn, r⟩ => by
    subst ef
    exact ⟨a, dx, vs, f, e, h a _ q (n a List.mem_cons_self), h dx _ q2 (n dx (List.mem_cons_of_mem _ List.mem_cons_self)), rfl, hn, Rps.ext hl hF h (fun b hb => n b (List.mem_cons_of_mem _ (List.mem_cons_of_mem _ hb))) r⟩
  | .shr _, _, _, _, ⟨e, g, r, hg⟩ => ⟨e, g, Rp.ext hl hF h (fun a ha => hF a (hg a ha)) r, hg⟩
theorem Rps.ext (hl : Lsts G H) (hF : ∀ a, F a → ¬ G a) (h : Ext G H H') : ∀ {ds : List D} {vs : List V} {fp : List Addr}, (∀ a ∈ fp, ¬ G a) → Rps K F H ds vs fp → Rps K F H' ds vs fp
  | [], _, _, _, r => r
  | _ :: _, _, _, n, ⟨v, vr, f, g, e, ef, r, rs⟩ => by
    subst ef
    exact ⟨v, vr, f, g, e, rfl, Rp.ext hl hF h (fun b hb => n b (List.mem_append_left _ hb)) r, Rps.ext hl hF h (fun b hb => n b (List.mem_append_right _ hb)) rs⟩
end
mutual
theorem Rp.monoF {F' : Addr → Prop} (hF : ∀ a, F a → F' a) : ∀ {d : D} {v : V} {fp : List Addr}, Rp K F H d v fp → Rp K F' H d v fp
  | .non, _, _, r => r
  | .bl _, _, _, r => r
  | .int _, _, _, r => r
  | .str _, _, _, r => r
  | .ty _, _, _, r => r
  | .scr _, _, _, r => r
  | .gen, _, _, r => r
  | .tup _, _, _, ⟨a, vs, e, q, r⟩ => ⟨a, vs, e, q, Rps.monoF hF r⟩
  | .lst _, _, _, ⟨a, vs, f, e, q, ef, r⟩ => ⟨a, vs, f, e, q, ef, Rps.monoF hF r⟩
  | .mt _, _, _, ⟨e, a, vs, ev, q, r⟩ => ⟨e, a, vs, ev, q, Rps.monoF hF r⟩
  | .dct _ _ _, _, _, ⟨a, vs, f, e, q, ef, hn, r⟩ => ⟨a, vs, f, e, q, ef, hn, Rps.monoF hF r⟩
  | .obj _ _ _, _, _, ⟨a, dx, vs, f, e, q, q2, ef, hn, r⟩ => ⟨a, dx, vs, f, e, q, q2, ef, hn, Rps.monoF hF r⟩
  | .shr _, _, _, ⟨e, g, r, hg⟩ => ⟨e, g, Rp.monoF hF r, fun a ha => hF a (hg a ha)⟩
theorem Rps.monoF {F' : Addr → Prop} (hF : ∀ a, F a → F' a) : ∀ {ds : List D} {vs : List V} {fp : List Addr}, Rps K F H ds vs fp → Rps K F' H ds vs fp
  | [], _, _, r => r
  | _ :: _, _, _, ⟨v, vr, f, g, e, ef, r, rs⟩ => ⟨v, vr, f, g, e, ef, Rp.monoF hF r, Rps.monoF hF rs⟩
end
mutual
/-- where nothing is shared, F is no matter -/
theorem Rp.anyF {F' : Addr → Prop} : ∀ {d : D} {v : V} {fp : List Addr}, nsD d = true → Rp K F H d v fp → Rp K F' H d v fp
  | .non, _, _, _, r => r
  | .bl _, _, _, _, r => r
  | .int _, _, _, _, r => r
  | .str _, _, _, _, r => r
  | .ty _, _, _, _, r => r
  | .scr _, _, _, _, r => r
  | .gen, _, _, _, r => r
  | .tup _, _, _, n, ⟨a, vs, e, q, r⟩ => ⟨a, vs, e, q, Rps.anyF n r⟩
  | .lst _, _, _, n, ⟨a, vs, f, e, q, ef, r⟩ => ⟨a, vs, f, e, q, ef, Rps.anyF n r⟩
  | .mt _, _, _, n, ⟨e, a, vs, ev, q, r⟩ => ⟨e, a, vs, ev, q, Rps.anyF n r⟩
  | .dct _ _ _, _, _, n, ⟨a, vs, f, e, q, ef, hn, r⟩ => ⟨a, vs, f, e, q, ef, hn, Rps.anyF n r⟩
  | .obj _ _ _, _, _, n, ⟨a, dx, vs, f, e, q, q2, ef, hn, r⟩ => ⟨a, dx, vs, f, e, q, q2, ef, hn, Rps.anyF n r⟩
  | .shr _, _, _, n, _ => nomatch n
theorem Rps.anyF {F' : Addr → Prop} : ∀ {ds : List D} {vs : List V} {fp : List Addr}, nsDs ds = true → Rps K F H ds vs fp → Rps K F' H ds vs fp
  | [], _, _, _, r => r
  | d :: ds, _, _, n, ⟨v, vr, f, g, e, ef, r, rs⟩ => by
    have n' : (nsD d && nsDs ds) = true := n
    rw [Bool.and_eq_true] at n'
    exact ⟨v, vr, f, g, e, ef, Rp.anyF n'.1 r, Rps.anyF n'.2 rs⟩
end
mutual
/-- the things that a datum leans on stand in the heap -/
theorem Rp.at : ∀ {d : D} {v : V} {fp : List Addr}, Rp K F H d v fp → ∀ a ∈ fp, ∃ o, H a = some o ∧ isMut o = true
  | .non, _, _, ⟨_, e⟩ => fun _ h => by subst e; cases h
  | .bl _, _, _, ⟨_, e⟩ => fun _ h => by subst e; cases h
  | .int _, _, _, ⟨_, e⟩ => fun _ h => by subst e; cases h
  | .str _, _, _, ⟨_, e⟩ => fun _ h => by subst e; cases h
  | .ty _, _, _, ⟨_, e⟩ => fun _ h => by subst e; cases h
  | .scr _, _, _, ⟨e, _⟩ => fun _ h => by subst e; cases h
  | .gen, _, _, r => r.elim
  | .tup _, _, _, ⟨a, vs, e, q, r⟩ => Rps.at r
  | .lst _, _, _, ⟨a, vs, f, e, q, ef, r⟩ => fun b hb => by
    subst ef
    rcases List.mem_cons.mp hb with rfl | hb
    · exact ⟨_, q, rfl⟩
    · exact Rps.at r b hb
  | .mt _, _, _, ⟨e, _⟩ => fun _ h => by subst e; cases h
  | .dct _ _ _, _, _, ⟨a, vs, f, e, q, ef, hn, r⟩ => fun b hb => by
    subst ef
    rcases List.mem_cons.mp hb with rfl | hb
    · exact q.mut
    · exact Rps.at r b hb
  | .obj _ _ _, _, _, ⟨a, dx, vs, f, e, q, q2, ef, hn, r⟩ => fun b hb => by
    subst ef
    rcases List.mem_cons.mp hb with rfl | hb
    · exact ⟨_, q, rfl⟩
    · rcases List.mem_cons.mp hb with rfl | hb
      · exact ⟨_, q2, rfl⟩
      · exact Rps.at r b hb
  | .shr _, _, _, ⟨e, _⟩ => fun _ h => by subst e; cases h
theorem Rps.at : ∀ {ds : List D} {vs : List V} {fp : List Addr}, Rps K F H ds vs fp → ∀ a ∈ fp, ∃ o, H a = some o ∧ isMut o = true
  | [], _, _, ⟨_, e⟩ => fun _ h => by subst e; cases h
  | _ :: _, _, _, ⟨v, vr, f, g, e, ef, r, rs⟩ => fun b hb => by
    subst ef
    rcases List.mem_append.mp hb with hb | hb
    · exact Rp.at r b hb
    · exact Rps.at rs b hb
end
mutual
theorem Rp.nol : ∀ {d : D} {v : V} {fp : List Addr}, noL d = true → Rp K F H d v fp → fp = []
  | .non, _, _, _, ⟨_, e⟩ => e
  | .bl _, _, _, _, ⟨_, e⟩ => e
  | .int _, _, _, _, ⟨_, e⟩ => e
  | .str _, _, _, _, ⟨_, e⟩ => e
  | .ty _, _, _, _, ⟨_, e⟩ => e
  | .scr _, _, _, _, ⟨e, _⟩ => e
  | .gen, _, _, _, r => r.elim
  | .tup _, _, _, n, ⟨a, vs, e, q, r⟩ => Rps.nol n r
  | .lst _, _, _, n, _ => nomatch n
  | .mt _, _, _, _, ⟨e, _⟩ => e
  | .dct _ _ _, _, _, n, _ => nomatch n
  | .obj _ _ _, _, _, n, _ => nomatch n
  | .shr _, _, _, n, _ => nomatch n
theorem Rps.nol : ∀ {ds : List D} {vs : List V} {fp : List Addr}, noLs ds = true → Rps K F H ds vs fp → fp = []
  | [], _, _, _, ⟨_, e⟩ => e
  | d :: ds, _, _, n, ⟨v, vr, f, g, e, ef, r, rs⟩ => by
    have n' : (noL d && noLs ds) = true := n
    rw [Bool.and_eq_true] at n'
    rw [ef, Rp.nol n'.1 r, Rps.nol n'.2 rs]; rfl
end
theorem Rps.length : ∀ {ds : List D} {vs : List V} {fp : List Addr}, Rps K F H ds vs fp → vs.length = ds.length
  | [], _, _, ⟨e, _⟩ => by subst e; rfl
  | _ :: _, _, _, ⟨v, vr, f, g, e, ef, r, rs⟩ => by subst e; rw [List.length_cons, List.length_cons, Rps.length rs]
/-- the item at a place, with what of the footprint is its; the others' is left and right of it -/
theorem Rps.get3 : ∀ {ds : List D} {vs : List V} {fp : List Addr} {i : Nat} {d : D}, Rps K F H ds vs fp → ds[i]? = some d → ∃ v f1 f f2, vs[i]? = some v ∧ Rp K F H d v f ∧ fp = f1 ++ (f ++ f2) ∧
    ∀ (H' : Hp) (d' : D) (v' : V) (f' : List Addr), (∀ e u g, (∀ a ∈ g, a ∈ f1 ∨ a ∈ f2) → Rp K F H e u g → Rp K F H' e u g) → Rp K F H' d' v' f' → Rps K F H' (ds.set i d') (vs.set i v') (f1 ++ (f' ++ f2))
  | [], _, _, _, _, _, h => by simp at h
  | d0 :: dr, _, _, 0, _, ⟨v, vr, f, g, e, ef, r, rs⟩, h => by
    cases h; subst e; subst ef
    refine ⟨v, [], f, g, rfl, r, rfl, fun H' d' v' f' fr r' => ⟨v', vr, f', g, rfl, rfl, r', ?_⟩⟩
    have go : ∀ {ds : List D} {vs : List V} {g' : List Addr}, (∀ a ∈ g', a ∈ g) → Rps K F H ds vs g' → Rps K F H' ds vs g' := fun {ds} => by
      induction ds with
      | nil => exact fun _ h => h
      | cons d ds ih =>
        rintro vs g' hs ⟨v, vr, f, g2, rfl, rfl, r, rs⟩
        exact ⟨v, vr, f, g2, rfl, rfl, fr _ _ _ (fun a ha => .inr (hs a (List.mem_append_left _ ha))) r, ih (fun a ha => hs a (List.mem_append_right _ ha)) rs⟩
    exact go (fun _ h => h) rs
  | d0 :: dr, _, _, i + 1, _, ⟨v, vr, f, g, e, ef, r, rs⟩, h => by
    subst e; subst ef
    obtain ⟨v', f1, f', f2, h1, h2, h3, h4⟩ := Rps.get3 (i := i) rs h
    subst h3
    refine ⟨v', f ++ f1, f', f2, h1, h2, by simp, fun H' d' w f3 fr r' => ⟨v, _, f, f1 ++ (f3 ++ f2), rfl, by simp, fr _ _ _ (fun a ha => .inl (List.mem_append_left _ ha)) r, h4 H' d' w f3 (fun e u g hg => fr e u g fun a ha => (hg a ha).imp (fun z => List.mem_append_right _ z) id) r'⟩⟩
/-- the item at a place, with what of the footprint is its -/
theorem Rps.get : ∀ {ds : List D} {vs : List V} {fp : List Addr} {i : Nat} {d : D}, Rps K F H ds vs fp → ds[i]? = some d → ∃ v f, vs[i]? = some v ∧ Rp K F H d v f ∧ f.Sublist fp
  | [], _, _, _, _, _, h => by simp at h
  | _ :: _, _, _, 0, _, ⟨v, vr, f, g, e, ef, r, rs⟩, h => by
    cases h; subst e; subst ef
    exact ⟨v, f, rfl, r, List.sublist_append_left _ _⟩
  | _ :: _, _, _, i + 1, _, ⟨v, vr, f, g, e, ef, r, rs⟩, h => by
    subst e; subst ef
    obtain ⟨v', f', h1, h2, h3⟩ := Rps.get (i := i) rs h
    exact ⟨v', f', h1, h2, h3.trans (List.sublist_append_right _ _)⟩
theorem Rps.append : ∀ {ds es : List D} {vs us : List V} {f g : List Addr}, Rps K F H ds vs f → Rps K F H es us g → Rps K F H (ds ++ es) (vs ++ us) (f ++ g)
  | [], _, _, _, _, _, ⟨e, ef⟩, r => by subst e; subst ef; exact r
  | _ :: _, _, _, _, _, _, ⟨v, vr, f, g, e, ef, r, rs⟩, q => by
    subst e; subst ef
    exact ⟨v, vr ++ _, f, g ++ _, rfl, List.append_assoc .., r, Rps.append rs q⟩
theorem Rps.one {d : D} {v : V} {f : List Addr} (r : Rp K F H d v f) : Rps K F H [d] [v] f := ⟨v, [], f, [], rfl, by simp, r, rfl, rfl⟩
theorem Rps.split : ∀ {ds es : List D} {vs : List V} {f : List Addr}, Rps K F H (ds ++ es) vs f → ∃ v1 v2 f1 f2, vs = v1 ++ v2 ∧ f = f1 ++ f2 ∧ Rps K F H ds v1 f1 ∧ Rps K F H es v2 f2
  | [], _, vs, f, r => ⟨[], vs, [], f, rfl, rfl, ⟨rfl, rfl⟩, r⟩
  | _ :: _, _, _, _, ⟨v, vr, f, g, e, ef, r, rs⟩ => by
    subst e; subst ef
    obtain ⟨v1, v2, f1, f2, rfl, rfl, h1, h2⟩ := Rps.split rs
    exact ⟨v :: v1, v2, f ++ f1, f2, rfl, by simp, ⟨v, v1, f, f1, rfl, rfl, r, h1⟩, h2⟩
theorem Rps.take : ∀ {ds : List D} {vs : List V} {fp : List Addr} (n : Nat), Rps K F H ds vs fp → ∃ f, Rps K F H (ds.take n) (vs.take n) f ∧ f.Sublist fp
  | _, _, _, 0, _ => ⟨[], ⟨rfl, rfl⟩, List.nil_sublist _⟩
  | [], _, _, _ + 1, ⟨e, ef⟩ => by subst e; exact ⟨[], ⟨rfl, rfl⟩, List.nil_sublist _⟩
  | _ :: _, _, _, n + 1, ⟨v, vr, f, g, e, ef, r, rs⟩ => by
    subst e; subst ef
    obtain ⟨f', h1, h2⟩ := Rps.take n rs
    exact ⟨f ++ f', ⟨v, _, f, f', rfl, rfl, r, h1⟩, List.Sublist.append (List.Sublist.refl _) h2⟩
theorem Rps.drop : ∀ {ds : List D} {vs : List V} {fp : List Addr} (n : Nat), Rps K F H ds vs fp → ∃ f, Rps K F H (ds.drop n) (vs.drop n) f ∧ f.Sublist fp
  | _, _, _, 0, r => ⟨_, r, List.Sublist.refl _⟩
  | [], _, _, _ + 1, ⟨e, ef⟩ => by subst e; exact ⟨[], ⟨rfl, rfl⟩, List.nil_sublist _⟩
  | _ :: _, _, _, n + 1, ⟨v, vr, f, g, e, ef, r, rs⟩ => by
    subst e; subst ef
    obtain ⟨f', h1, h2⟩ := Rps.drop n rs
    exact ⟨f', h1, h2.trans (List.sublist_append_right _ _)⟩
end
end DL
namespace DL
open PySem PySem.Spec L2

/-! ### the drawers: lists of three numbers, their third one bounded -/
def GensOk (G : Addr → Prop) (H : Hp) (c : Nat) : Prop := ∀ a, G a → ∃ x y z : Int, H a = some (.lst [.int x, .int y, .int z]) ∧ 0 ≤ x ∧ 0 ≤ z ∧ z ≤ c
theorem GensOk.lsts {G : Addr → Prop} {H : Hp} {c : Nat} (g : GensOk G H c) : Lsts G H := fun a h => let ⟨_, _, _, e, _⟩ := g a h; ⟨_, e, rfl⟩
theorem GensOk.mono {G : Addr → Prop} {H : Hp} {c c' : Nat} (g : GensOk G H c) (h : c ≤ c') : GensOk G H c' := fun a ha => by
  obtain ⟨x, y, z, e, h1, h2, h3⟩ := g a ha
  exact ⟨x, y, z, e, h1, h2, by omega⟩
theorem GensOk.sub {G G' : Addr → Prop} {H : Hp} {c : Nat} (g : GensOk G H c) (h : ∀ a, G' a → G a) : GensOk G' H c := fun a ha => g a (h a ha)
theorem GensOk.same {G : Addr → Prop} {H H' : Hp} {c : Nat} (g : GensOk G H c) (s : Same H H') : GensOk G H' c := fun a ha => by
  obtain ⟨x, y, z, e, h⟩ := g a ha
  exact ⟨x, y, z, s _ _ e, h⟩

/-- how a result may be used: R is: it alone leans on its lists (but for the slots is, which it takes along); S: on lists that stay as they are; B: to be read now -/
inductive Kd | R (is : List Nat) | S | B
/-- a slot: without lists; with lists that stay; with lists of its own; a thing that was handed in, to be changed -/
inductive SK | nl | sh | own | byr
structure Sl where
  k : SK
  d : D
/-- the entry: the drawers, the heap, what may be changed of what was handed in, and in which slots its roots stand -/
structure En where
  F0 : Addr → Prop
  G0 : Addr → Prop
  H0 : Hp
  P : Addr → Prop
  rt : Nat → Option V
/-- F: the lists that stay; G: the drawers; O i: the lists of slot i alone; held: what loops walk -/
structure Bx where
  F : Addr → Prop
  G : Addr → Prop
  en : En
  O : Nat → Addr → Prop
  held : List (D × V × List Addr)
abbrev GE := List (Option Sl)
def gat : GE → Nat → Option Sl
  | [], _ => none
  | s :: _, 0 => s
  | _ :: r, i + 1 => gat r i
def gset : GE → Nat → Option Sl → GE
  | [], _, _ => []
  | _ :: r, 0, s => s :: r
  | x :: r, i + 1, s => x :: gset r i s
theorem gset_length : ∀ (Γ : GE) (i : Nat) (s : Option Sl), (gset Γ i s).length = Γ.length
  | [], _, _ => rfl
  | _ :: _, 0, _ => rfl
  | _ :: r, i + 1, s => by show (gset r i s).length + 1 = r.length + 1; rw [gset_length r i s]
theorem gat_gset_ne : ∀ {Γ : GE} {i j : Nat} {s : Option Sl}, j ≠ i → gat (gset Γ i s) j = gat Γ j
  | [], _, _, _, _ => rfl
  | _ :: _, 0, 0, _, h => absurd rfl h
  | _ :: _, 0, _ + 1, _, _ => rfl
  | _ :: _, _ + 1, 0, _, _ => rfl
  | _ :: r, i + 1, j + 1, s, h => gat_gset_ne (Γ := r) (fun e => h (by rw [e]))
theorem gat_gset_same : ∀ {Γ : GE} {i : Nat} {s : Option Sl}, i < Γ.length → gat (gset Γ i s) i = s
  | [], _, _, h => absurd h (Nat.not_lt_zero _)
  | _ :: _, 0, _, _ => rfl
  | _ :: r, i + 1, s, h => gat_gset_same (Γ := r) (Nat.lt_of_succ_lt_succ h)
theorem gat_lt : ∀ {Γ : GE} {i : Nat} {s : Sl}, gat Γ i = some s → i < Γ.length
  | [], _, _, h => nomatch h
  | _ :: _, 0, _, _ => Nat.succ_pos _
  | _ :: r, i + 1, s, h => Nat.succ_lt_succ (gat_lt (Γ := r) h)

def RpG (K : PySem.W.Frag) (F G : Addr → Prop) (H : Hp) (d : D) (v : V) (fp : List Addr) : Prop := Rp K F H d v fp ∨ (d = .gen ∧ fp = [] ∧ ∃ a, v = .ref a ∧ G a)
def SlOk (B : Bx) (i : Nat) (v : V) (fp : List Addr) : SK → Prop
  | .nl => fp = []
  | .sh => ∀ a ∈ fp, B.F a
  | .own => fp.Nodup ∧ ∀ a ∈ fp, B.O i a
  | .byr => (fp.Nodup ∧ ∀ a ∈ fp, B.O i a) ∧ B.en.rt i = some v
structure Env (K : PySem.W.Frag) (B : Bx) (Γ : GE) (c : Nat) (σ : St) (H : Hp) : Prop where
  len : σ.length = Γ.length
  gens : GensOk B.G H c
  ext0 : Ext (fun a => B.en.G0 a ∨ B.en.P a) B.en.H0 H
  gsub : ∀ a, B.en.G0 a → B.G a
  gnew : ∀ a, B.G a → B.en.G0 a ∨ B.en.H0 a = none ∨ B.en.P a
  fg : ∀ a, B.F a → ¬ B.G a
  fl : ∀ a, B.F a → ∃ o, H a = some o
  fn : ∀ a, B.F a → B.en.F0 a ∨ B.en.H0 a = none ∨ B.en.P a
  pl : ∀ a, B.en.P a → ∃ o, H a = some o
  ol : ∀ i a, B.O i a → (∃ o, H a = some o) ∧ ¬ B.F a ∧ ¬ B.G a ∧ (B.en.H0 a = none ∨ B.en.P a) ∧ ∀ j, B.O j a → j = i
  hl : ∀ p ∈ B.held, Rp K B.F H p.1 p.2.1 p.2.2 ∧ ∀ a ∈ p.2.2, B.F a
  slot : ∀ i s, gat Γ i = some s → ∃ v fp, σ[i]? = some (some v) ∧ RpG K B.F B.G H s.d v fp ∧ SlOk B i v fp s.k

section
variable {K : PySem.W.Frag} {B : Bx} {Γ : GE} {c c' : Nat} {σ : St} {H H' : Hp} {d : D} {v : V} {fp : List Addr} {F G : Addr → Prop}
theorem RpG.ext (hl : Lsts G H) (hF : ∀ a, F a → ¬ G a) (h : Ext G H H') (n : ∀ a ∈ fp, ¬ G a) (r : RpG K F G H d v fp) : RpG K F G H' d v fp := r.elim (fun r => .inl (r.ext hl hF h n)) .inr
theorem RpG.monoF {F' : Addr → Prop} (hF : ∀ a, F a → F' a) (r : RpG K F G H d v fp) : RpG K F' G H d v fp := r.elim (fun r => .inl (r.monoF hF)) .inr
theorem SlOk.ng (E : Env K B Γ c σ H) {k : SK} {i : Nat} (h : SlOk B i v fp k) : ∀ a ∈ fp, ¬ B.G a := fun a ha => by
  cases k with
  | nl => have e : fp = [] := h; rw [e] at ha; cases ha
  | sh => exact E.fg a (h a ha)
  | own => exact (E.ol i a (h.2 a ha)).2.2.1
  | byr => exact (E.ol i a (h.1.2 a ha)).2.2.1
theorem Env.ext (E : Env K B Γ c σ H) (h : Ext B.G H H') (g : GensOk B.G H' c') : Env K B Γ c' σ H' where
  len := E.len
  gens := g
  ext0 := fun b o e n => h b o (E.ext0 b o e n) fun gb => (E.gnew b gb).elim (fun z => n (.inl z)) fun z => z.elim (fun z => by rw [e] at z; cases z) fun z => n (.inr z)
  gsub := E.gsub
  gnew := E.gnew
  fg := E.fg
  fl := fun a ha => let ⟨o, e⟩ := E.fl a ha; ⟨o, h a o e (E.fg a ha)⟩
  fn := E.fn
  pl := fun a ha => by
    by_cases ga : B.G a
    · obtain ⟨o, e, _⟩ := g.lsts a ga; exact ⟨o, e⟩
    · obtain ⟨o, e⟩ := E.pl a ha; exact ⟨o, h a o e ga⟩
  ol := fun i a ha => by
    obtain ⟨⟨o, e⟩, h2, h3, h4⟩ := E.ol i a ha
    exact ⟨⟨o, h a o e h3⟩, h2, h3, h4⟩
  hl := fun p hp => by
    obtain ⟨r, n⟩ := E.hl p hp
    exact ⟨r.ext E.gens.lsts E.fg h fun a ha => E.fg a (n a ha), n⟩
  slot := fun i s e => by
    obtain ⟨v, fp, h1, h2, h3⟩ := E.slot i s e
    exact ⟨v, fp, h1, h2.ext E.gens.lsts E.fg h (h3.ng E), h3⟩
theorem Env.mono (E : Env K B Γ c σ H) (h : c ≤ c') : Env K B Γ c' σ H := E.ext (Ext.refl H) (E.gens.mono h)
end

def KOk (B : Bx) (H : Hp) (fp : List Addr) : Kd → Prop
  | .R is => fp.Nodup ∧ ∀ a ∈ fp, H a = none ∨ ∃ i ∈ is, B.O i a
  | .S => ∀ a ∈ fp, B.F a ∨ H a = none
  | .B => ∀ a ∈ fp, H a = none ∨ B.F a ∨ ∃ i, B.O i a
/-- a result: the value v at H' stands for d, reckoned from the heap H on -/
structure Res (K : PySem.W.Frag) (B : Bx) (H H' : Hp) (c' : Nat) (v : V) (d : D) (k : Kd) : Prop where
  ext : Ext B.G H H'
  gens : GensOk B.G H' c'
  rp : ∃ fp, RpG K B.F B.G H' d v fp ∧ (∀ a ∈ fp, ¬ B.G a) ∧ KOk B H fp k

/-- expressions, tests, arguments over plain data -/
abbrev RE := GE → Nat → (D → Kd → Nat → Prop) → Prop
abbrev RT := GE → Nat → (Bool → Nat → Prop) → Prop
abbrev RA := GE → Nat → (List (D × Kd) → Nat → Prop) → Prop
def ED (K : PySem.W.Frag) (t : TE) (r : RE) : Prop := ∀ B Γ c σ H Qd Q, Env K B Γ c σ H → r Γ c Qd → (∀ v H' d k c', Res K B H H' c' v d k → Qd d k c' → Q v H') → t σ H Q
def TD (K : PySem.W.Frag) (t : TT) (r : RT) : Prop := ∀ B Γ c σ H Qd Q, Env K B Γ c σ H → r Γ c Qd → (∀ b H' c', Ext B.G H H' → GensOk B.G H' c' → Qd b c' → Q b H') → t σ H Q

section
variable {K : PySem.W.Frag} {B : Bx} {Γ : GE} {c c' : Nat} {σ : St} {H H' H1 H2 : Hp} {d : D} {v : V} {fp : List Addr} {k : Kd}
theorem new_back (E : Env K B Γ c σ H) (h : Ext B.G H H1) (hl : Lsts B.G H1) {a : Addr} (e : H1 a = none) : H a = none := by
  cases q : H a with
  | none => rfl
  | some o =>
    by_cases g : B.G a
    · obtain ⟨vs, e2, _⟩ := hl a g
      rw [e] at e2; cases e2
    · rw [h a o q g] at e; cases e
/-- reckoned from an earlier heap -/
theorem KOk.back (E : Env K B Γ c σ H) (h : Ext B.G H H1) (hl : Lsts B.G H1) (ok : KOk B H1 fp k) : KOk B H fp k := by
  cases k with
  | R is => exact ⟨ok.1, fun a ha => (ok.2 a ha).imp (new_back E h hl) id⟩
  | S => exact fun a ha => (ok a ha).imp id (new_back E h hl)
  | B => exact fun a ha => (ok a ha).imp (new_back E h hl) id
theorem KOk.any (ok : KOk B H fp k) : ∀ a ∈ fp, H a = none ∨ B.F a ∨ ∃ i, B.O i a := fun a ha => by
  cases k with
  | R is => exact (ok.2 a ha).imp id fun ⟨i, _, z⟩ => .inr ⟨i, z⟩
  | S => exact (ok a ha).symm.imp id .inl
  | B => exact ok a ha
theorem Res.back (E : Env K B Γ c σ H) (x : Res K B H1 H2 c' v d k) (h : Ext B.G H H1) (hl : Lsts B.G H1) : Res K B H H2 c' v d k := by
  obtain ⟨fp, r, n, ok⟩ := x.rp
  exact ⟨h.trans x.ext, x.gens, fp, r, n, ok.back E h hl⟩
/-- carried over -/
theorem Res.on (x : Res K B H H1 c v d k) (hF : ∀ a, B.F a → ¬ B.G a) (h : Ext B.G H1 H2) (g : GensOk B.G H2 c') : Res K B H H2 c' v d k := by
  obtain ⟨fp, r, n, ok⟩ := x.rp
  exact ⟨x.ext.trans h, g, fp, r.ext x.gens.lsts hF h n, n, ok⟩
theorem Res.flat (E : Ext B.G H H') (g : GensOk B.G H' c) (r : Rp K B.F H' d v []) : Res K B H H' c v d (.R []) := ⟨E, g, [], .inl r, fun _ z => (nomatch z), List.nodup_nil, fun _ z => nomatch z⟩
end

/-! ### names and constants -/
def rVar (i : Nat) : RE := fun Γ c Q => match gat Γ i with
  | some ⟨.nl, d⟩ => Q d (.R []) c
  | some ⟨.sh, d⟩ => Q d .S c
  | some ⟨.own, d⟩ => Q d (.R [i]) c
  | some ⟨.byr, d⟩ => Q d .B c
  | none => False
def rC (d : D) : RE := fun _ c Q => Q d (.R []) c
section
variable {K : PySem.W.Frag}
theorem ed_var (i : Nat) : ED K (tVar i) (rVar i) := by
  intro B Γ c σ H Qd Q E h f
  unfold rVar at h
  cases e : gat Γ i with
  | none => rw [e] at h; exact h.elim
  | some s =>
    obtain ⟨v, fp, h1, h2, h3⟩ := E.slot i s e
    rw [e] at h
    obtain ⟨k, d⟩ := s
    have ng := h3.ng E
    cases k with
    | nl =>
      have e0 : fp = [] := h3
      exact ⟨v, h1, f v H d (.R []) c ⟨Ext.refl H, E.gens, fp, h2, ng, by rw [e0]; exact List.nodup_nil, fun a ha => by rw [e0] at ha; cases ha⟩ h⟩
    | sh => exact ⟨v, h1, f v H d .S c ⟨Ext.refl H, E.gens, fp, h2, ng, fun a ha => .inl (h3 a ha)⟩ h⟩
    | own => exact ⟨v, h1, f v H d (.R [i]) c ⟨Ext.refl H, E.gens, fp, h2, ng, h3.1, fun a ha => .inr ⟨i, by simp, h3.2 a ha⟩⟩ h⟩
    | byr => exact ⟨v, h1, f v H d .B c ⟨Ext.refl H, E.gens, fp, h2, ng, fun a ha => .inr (.inr ⟨i, h3.1.2 a ha⟩)⟩ h⟩
theorem ed_c {v : V} {d : D} (hr : ∀ F H, Rp K F H d v []) : ED K (tC v) (rC d) := fun _ _ _ _ H _ _ E h f => f _ H _ _ _ (Res.flat (Ext.refl H) E.gens (hr _ H)) h
theorem ed_int {i : Int} : ED K (tC (.int i)) (rC (.int i)) := ed_c fun F H => by rw [Rp]; exact ⟨rfl, rfl⟩
theorem ed_bl {i : Bool} : ED K (tC (.bl i)) (rC (.bl i)) := ed_c fun F H => by rw [Rp]; exact ⟨rfl, rfl⟩
theorem ed_str {i : Str} : ED K (tC (.str i)) (rC (.str i)) := ed_c fun F H => by rw [Rp]; exact ⟨rfl, rfl⟩
theorem ed_ty {i : String} : ED K (tC (.ty i)) (rC (.ty i)) := ed_c fun F H => by rw [Rp]; exact ⟨rfl, rfl⟩
theorem ed_non : ED K (tC .non) (rC .non) := ed_c fun F H => by rw [Rp]; exact ⟨rfl, rfl⟩
end

/-! ### arguments -/
/-- values in a row, reckoned from Hs on; fp: all their lists -/
inductive Args (K : PySem.W.Frag) (B : Bx) (Hs H : Hp) : List (D × Kd) → List V → List Addr → Prop
  | nil : Args K B Hs H [] [] []
  | cons {d : D} {k : Kd} {v : V} {fp : List Addr} {ds : List (D × Kd)} {vs : List V} {fr : List Addr} : RpG K B.F B.G H d v fp → (∀ a ∈ fp, ¬ B.G a) → KOk B Hs fp k → (∀ a ∈ fp, a ∈ fr → Hs a ≠ none) →
      Args K B Hs H ds vs fr → Args K B Hs H ((d, k) :: ds) (v :: vs) (fp ++ fr)
def AD (K : PySem.W.Frag) (t : TA) (r : RA) : Prop := ∀ B Γ c σ H Qd Q, Env K B Γ c σ H → r Γ c Qd →
  (∀ vs H' dks c' fp, Ext B.G H H' → GensOk B.G H' c' → Args K B H H' dks vs fp → Qd dks c' → Q vs H') → t σ H Q
def rNil : RA := fun _ c Q => Q [] c
def rCons (re : RE) (ra : RA) : RA := fun Γ c Q => re Γ c fun d k c1 => ra Γ c1 fun dks c2 => Q ((d, k) :: dks) c2
section
variable {K : PySem.W.Frag} {B : Bx} {Hs H H' : Hp} {dks : List (D × Kd)} {vs : List V} {fp : List Addr} {Γ : GE} {σ : St} {c : Nat}
theorem Args.ng (x : Args K B Hs H dks vs fp) : ∀ a ∈ fp, ¬ B.G a := by
  induction x with
  | nil => exact fun _ h => nomatch h
  | cons r n k d t ih => exact fun a ha => (List.mem_append.mp ha).elim (n a) (ih a)
theorem Args.ext (hl : Lsts B.G H) (hF : ∀ a, B.F a → ¬ B.G a) (h : Ext B.G H H') (x : Args K B Hs H dks vs fp) : Args K B Hs H' dks vs fp := by
  induction x with
  | nil => exact .nil
  | cons r n k d t ih => exact .cons (r.ext hl hF h n) n k d ih
theorem Args.length (x : Args K B Hs H dks vs fp) : vs.length = dks.length := by
  induction x with
  | nil => rfl
  | cons r n k d t ih => rw [List.length_cons, List.length_cons, ih]
theorem Args.any (x : Args K B Hs H dks vs fp) : ∀ a ∈ fp, Hs a = none ∨ B.F a ∨ ∃ i, B.O i a := by
  induction x with
  | nil => exact fun _ h => nomatch h
  | cons r n k d t ih => exact fun a ha => (List.mem_append.mp ha).elim (k.any a) (ih a)
theorem Env.tracked (E : Env K B Γ c σ H) {a : Addr} (h : B.F a ∨ ∃ i, B.O i a) : ∃ o, H a = some o := h.elim (E.fl a) fun ⟨i, z⟩ => (E.ol i a z).1
theorem Args.back {H1 : Hp} (E : Env K B Γ c σ Hs) (h : Ext B.G Hs H1) (hl : Lsts B.G H1) (x : Args K B H1 H dks vs fp) : Args K B Hs H dks vs fp := by
  induction x with
  | nil => exact .nil
  | @cons d k v fp ds vs fr r n ko ds' t ih =>
    refine .cons r n (ko.back E h hl) (fun a ha hb z => ?_) ih
    rcases ko.any a ha with q | q
    · exact ds' a ha hb q
    · obtain ⟨o, e⟩ := E.tracked q
      rw [z] at e; cases e
theorem ad_nil : AD K tNil rNil := fun _ _ _ _ H _ _ E h f => f _ H _ _ _ (Ext.refl H) E.gens .nil h
theorem ad_cons {te : TE} {re : RE} {ta : TA} {ra : RA} (he : ED K te re) (ha : AD K ta ra) : AD K (tCons te ta) (rCons re ra) := by
  intro B Γ c σ H Qd Q E h f
  refine he B Γ c σ H _ _ E h fun v H1 d k c1 x q => ?_
  have E1 := E.ext x.ext x.gens
  refine ha B Γ c1 σ H1 _ _ E1 q fun vs H2 dks c2 fr e2 g2 ar q2 => ?_
  obtain ⟨fp, r, n, ok⟩ := x.rp
  refine f _ H2 _ c2 _ (x.ext.trans e2) g2 (.cons (r.ext x.gens.lsts E.fg e2 n) n ok (fun a ha hb z => ?_) (ar.back E x.ext x.gens.lsts)) q2
  -- a of the first one's lists stands in H1, so it is not new at H1; were it new at H, it would be of neither kind
  obtain ⟨vs', e1, _⟩ : ∃ o, H1 a = some o ∧ isMut o = true := by
    rcases r with r | ⟨_, e0, _⟩
    · exact r.at a ha
    · rw [e0] at ha; cases ha
  rcases ar.any a hb with q | q
  · rw [e1] at q; cases q
  · obtain ⟨o, e⟩ := E.tracked q
    rw [z] at e; cases e
end
end DL
namespace DL
open PySem PySem.Spec L2

/-! ### rules by values -/
abbrev DK := D × Kd
/-- where values are handled: reckoned from Hs, at H -/
structure At (K : PySem.W.Frag) (B : Bx) (Hs H : Hp) (c : Nat) : Prop where
  env : ∃ Γ σ c0, Env K B Γ c0 σ Hs
  ext : Ext B.G Hs H
  gens : GensOk B.G H c
abbrev RN := List DK → (D → Kd → Prop) → Prop
abbrev RD2 := D → Kd → D → Kd → (D → Kd → Prop) → Prop
def VN (K : PySem.W.Frag) (r : List V → Hp → VK → Prop) (rd : RN) : Prop := ∀ B Hs H c vs dks fp Qd Q, At K B Hs H c → Args K B Hs H dks vs fp → rd dks Qd → (∀ w H' d k, Same H H' → Res K B Hs H' c w d k → Qd d k → Q w H') → r vs H Q
def V2 (K : PySem.W.Frag) (r : R2) (rd : RD2) : Prop := ∀ B Hs H c x y dx kx dy ky fp Qd Q, At K B Hs H c → Args K B Hs H [(dx, kx), (dy, ky)] [x, y] fp → rd dx kx dy ky Qd → (∀ w H' d k, Same H H' → Res K B Hs H' c w d k → Qd d k → Q w H') → r x y H Q
def V1 (K : PySem.W.Frag) (r : V → Hp → VK → Prop) (rd : D → Kd → (D → Kd → Prop) → Prop) : Prop := ∀ B Hs H c x dx kx fp Qd Q, At K B Hs H c → Args K B Hs H [(dx, kx)] [x] fp → rd dx kx Qd → (∀ w H' d k, Same H H' → Res K B Hs H' c w d k → Qd d k → Q w H') → r x H Q
def rOp (rd : RD2) (ra rb : RE) : RE := fun Γ c Q => ra Γ c fun dx kx c1 => rb Γ c1 fun dy ky c2 => rd dx kx dy ky fun d k => Q d k c2
def rUn (rd : D → Kd → (D → Kd → Prop) → Prop) (ra : RE) : RE := fun Γ c Q => ra Γ c fun dx kx c1 => rd dx kx fun d k => Q d k c1
def rCB (rd : RN) (ra : RA) : RE := fun Γ c Q => ra Γ c fun dks c1 => rd dks fun d k => Q d k c1

section
variable {K : PySem.W.Frag} {B : Bx} {Hs H H' : Hp} {c : Nat} {v w' : V} {d : D} {k : Kd} {fp : List Addr} {dks : List DK} {vs : List V}
theorem Args.inv0 (x : Args K B Hs H [] vs fp) : vs = [] := by cases x; rfl
theorem Args.inv (x : Args K B Hs H ((d, k) :: dks) vs fp) : ∃ v vr f g, vs = v :: vr ∧ fp = f ++ g ∧ RpG K B.F B.G H d v f ∧ (∀ a ∈ f, ¬ B.G a) ∧ KOk B Hs f k ∧ (∀ a ∈ f, a ∈ g → Hs a ≠ none) ∧ Args K B Hs H dks vr g := by
  cases x with
  | cons r n ko d t => exact ⟨_, _, _, _, rfl, rfl, r, n, ko, d, t⟩
theorem ed_op {r : R2} {rd : RD2} {ta tb : TE} {ra rb : RE} (hv : V2 K r rd) (ha : ED K ta ra) (hb : ED K tb rb) : ED K (tOp r ta tb) (rOp rd ra rb) := by
  intro B Γ c σ H Qd Q E h f
  exact ad_cons ha (ad_cons hb ad_nil) B Γ c σ H (fun dks c' => match dks with | [(dx, kx), (dy, ky)] => rd dx kx dy ky (fun d k => Qd d k c') | _ => False)
    (fun vs H2 => match vs with | [x, y] => r x y H2 Q | _ => False) E h fun vs H' dks c' fp e g ar q => by
      match dks, q with
      | [(dx, kx), (dy, ky)], q =>
        obtain ⟨x, vr, f1, g1, rfl, rfl, _, _, _, _, t⟩ := id ar.inv
        obtain ⟨y, vr2, f2, g2, rfl, rfl, _, _, _, _, t2⟩ := id t.inv
        obtain rfl := t2.inv0
        exact hv B H H' c' x y dx kx dy ky _ _ Q ⟨⟨Γ, σ, c, E⟩, e, g⟩ ar q fun w H2 d k _ x q => f w H2 d k c' x q
theorem ed_un {r : V → Hp → VK → Prop} {rd : D → Kd → (D → Kd → Prop) → Prop} {ta : TE} {ra : RE} (hv : V1 K r rd) (ha : ED K ta ra) : ED K (tUn r ta) (rUn rd ra) := by
  intro B Γ c σ H Qd Q E h f
  exact ad_cons ha ad_nil B Γ c σ H (fun dks c' => match dks with | [(dx, kx)] => rd dx kx (fun d k => Qd d k c') | _ => False)
    (fun vs H2 => match vs with | [x] => r x H2 Q | _ => False) E h fun vs H' dks c' fp e g ar q => by
      match dks, q with
      | [(dx, kx)], q =>
        obtain ⟨x, vr, f1, g1, rfl, rfl, _, _, _, _, t⟩ := id ar.inv
        obtain rfl := t.inv0
        exact hv B H H' c' x dx kx _ _ Q ⟨⟨Γ, σ, c, E⟩, e, g⟩ ar q fun w H2 d k _ x q => f w H2 d k c' x q
theorem ed_cb {r : List V → Hp → VK → Prop} {rd : RN} {ta : TA} {ra : RA} (hv : VN K r rd) (ha : AD K ta ra) : ED K (tCB r ta) (rCB rd ra) := by
  intro B Γ c σ H Qd Q E h f
  exact ha B Γ c σ H _ (fun vs H2 => r vs H2 Q) E h fun vs H' dks c' fp e g ar q =>
    hv B H H' c' vs dks fp _ Q ⟨⟨Γ, σ, c, E⟩, e, g⟩ ar q fun w H2 d k _ x q => f w H2 d k c' x q

/-- a value without lists comes back -/
theorem At.flat (A : At K B Hs H c) (r : Rp K B.F H d v []) : Res K B Hs H c v d (.R []) := Res.flat A.ext A.gens r
/-- values by their data -/
theorem rp_int {i : Int} : Rp K F H (.int i) (.int i) [] := by rw [Rp]; exact ⟨rfl, rfl⟩
theorem rp_bl {i : Bool} : Rp K F H (.bl i) (.bl i) [] := by rw [Rp]; exact ⟨rfl, rfl⟩
theorem rp_str {i : Str} : Rp K F H (.str i) (.str i) [] := by rw [Rp]; exact ⟨rfl, rfl⟩
theorem rp_ty {i : String} : Rp K F H (.ty i) (.ty i) [] := by rw [Rp]; exact ⟨rfl, rfl⟩
theorem rp_non : Rp K F H .non .non [] := by rw [Rp]; exact ⟨rfl, rfl⟩
theorem RpG.int {F G : Addr → Prop} {i : Int} (r : RpG K F G H (.int i) v fp) : v = .int i := by
  rcases r with r | ⟨e, _⟩
  · rw [Rp] at r; exact r.1
  · cases e
theorem RpG.bl {F G : Addr → Prop} {i : Bool} (r : RpG K F G H (.bl i) v fp) : v = .bl i := by
  rcases r with r | ⟨e, _⟩
  · rw [Rp] at r; exact r.1
  · cases e
theorem RpG.str {F G : Addr → Prop} {i : Str} (r : RpG K F G H (.str i) v fp) : v = .str i := by
  rcases r with r | ⟨e, _⟩
  · rw [Rp] at r; exact r.1
  · cases e
theorem RpG.ty {F G : Addr → Prop} {i : String} (r : RpG K F G H (.ty i) v fp) : v = .ty i := by
  rcases r with r | ⟨e, _⟩
  · rw [Rp] at r; exact r.1
  · cases e
theorem RpG.non {F G : Addr → Prop} (r : RpG K F G H .non v fp) : v = .non := by
  rcases r with r | ⟨e, _⟩
  · rw [Rp] at r; exact r.1
  · cases e
theorem RpG.tup {F G : Addr → Prop} {ds : List D} (r : RpG K F G H (.tup ds) v fp) : ∃ a vs, v = .ref a ∧ SqU K H a vs ∧ Rps K F H ds vs fp := by
  rcases r with r | ⟨e, _⟩
  · rw [Rp] at r; exact r
  · cases e
theorem RpG.lst {F G : Addr → Prop} {ds : List D} (r : RpG K F G H (.lst ds) v fp) : ∃ a vs f, v = .ref a ∧ H a = some (.lst vs) ∧ fp = a :: f ∧ Rps K F H ds vs f := by
  rcases r with r | ⟨e, _⟩
  · rw [Rp] at r; exact r
  · cases e
theorem RpG.scr {F G : Addr → Prop} {ns : List Int} (r : RpG K F G H (.scr ns) v fp) : fp = [] ∧ ∃ a, v = .ref a ∧ SqF K H a (ns.map V.int) := by
  rcases r with r | ⟨e, _⟩
  · rw [Rp] at r; exact r
  · cases e
theorem RpG.gen {F G : Addr → Prop} (r : RpG K F G H .gen v fp) : ∃ a, v = .ref a ∧ G a := by
  rcases r with r | ⟨_, _, e⟩
  · rw [Rp] at r; exact r.elim
  · exact e

theorem RpG.dct {F G : Addr → Prop} {t : Bool} {ks : List (List Key)} {ds : List D} (r : RpG K F G H (.dct t ks ds) v fp) : ∃ a us f, v = .ref a ∧ DcAt H a t ks us ∧ fp = a :: f ∧ (ks.length = us.length ∧ ks.Nodup) ∧ Rps K F H ds us f := by
  rcases r with r | ⟨e, _⟩
  · rw [Rp] at r; exact r
  · cases e
theorem RpG.mt {F G : Addr → Prop} {ds : List D} (r : RpG K F G H (.mt ds) v fp) : fp = [] ∧ ∃ a vs, v = .ref a ∧ SqM K H a vs ∧ Rps K F H ds vs [] := by
  rcases r with r | ⟨e, _⟩
  · rw [Rp] at r; exact r
  · cases e
theorem RpG.obj {F G : Addr → Prop} {C : Addr} {ns : List Str} {ds : List D} (r : RpG K F G H (.obj C ns ds) v fp) : ∃ a dx us f, v = .ref a ∧ H a = some (.ins C dx (ns.zip us)) ∧ H dx = some (.own a) ∧ fp = a :: dx :: f ∧ ns.length = us.length ∧ Rps K F H ds us f := by
  rcases r with r | ⟨e, _⟩
  · rw [Rp] at r; exact r
  · cases e
theorem RpG.shr {F G : Addr → Prop} (r : RpG K F G H (.shr d) v fp) : fp = [] ∧ ∃ g, Rp K F H d v g ∧ ∀ a ∈ g, F a := by
  rcases r with r | ⟨e, _⟩
  · rw [Rp] at r; exact r
  · cases e

/-! ### whole numbers -/
/-- two numbers -/
def dI (C : Int → Int → Prop) (g : Int → Int → D) : RD2 := fun x _ y _ Q => match x, y with
  | .int i, .int j => C i j ∧ Q (g i j) (.R [])
  | _, _ => False
def dI0 (g : Int → Int → D) : RD2 := fun x _ y _ Q => match x, y with
  | .int i, .int j => Q (g i j) (.R [])
  | _, _ => False
theorem dI_inv {C : Int → Int → Prop} {g : Int → Int → D} {x y : D} {kx ky : Kd} {Q : D → Kd → Prop} (h : dI C g x kx y ky Q) : ∃ i j, x = .int i ∧ y = .int j ∧ C i j ∧ Q (g i j) (.R []) := by
  unfold dI at h
  split at h
  · exact ⟨_, _, rfl, rfl, h⟩
  · exact h.elim
theorem dI0_inv {g : Int → Int → D} {x y : D} {kx ky : Kd} {Q : D → Kd → Prop} (h : dI0 g x kx y ky Q) : ∃ i j, x = .int i ∧ y = .int j ∧ Q (g i j) (.R []) := by
  unfold dI0 at h
  split at h
  · exact ⟨_, _, rfl, rfl, h⟩
  · exact h.elim
theorem Args.two {d1 d2 : D} {k1 k2 : Kd} {x y : V} (a : Args K B Hs H [(d1, k1), (d2, k2)] [x, y] fp) : (∃ f, RpG K B.F B.G H d1 x f) ∧ ∃ f, RpG K B.F B.G H d2 y f := by
  obtain ⟨_, vr, f1, g1, e, rfl, r, _, _, _, t⟩ := a.inv
  obtain ⟨_, vr2, f2, g2, e2, rfl, r2, _, _, _, t2⟩ := t.inv
  cases e; cases e2
  exact ⟨⟨_, r⟩, _, r2⟩
theorem Args.ints {i j : Int} {k1 k2 : Kd} {x y : V} (a : Args K B Hs H [(.int i, k1), (.int j, k2)] [x, y] fp) : x = .int i ∧ y = .int j := by
  obtain ⟨⟨_, r⟩, _, r2⟩ := a.two
  exact ⟨r.int, r2.int⟩
theorem v_rI {C : Int → Int → Prop} {g : Int → Int → Int} : V2 K (rI C fun i j => .int (g i j)) (dI C fun i j => .int (g i j)) := by
  intro B Hs H c x y dx kx dy ky fp Qd Q A ar h f
  obtain ⟨i, j, rfl, rfl, hc, q⟩ := dI_inv h
  obtain ⟨rfl, rfl⟩ := ar.ints
  exact ⟨i, j, rfl, rfl, hc, f _ H _ _ (Same.refl _) (A.flat rp_int) q⟩
theorem v_rI0 {g : Int → Int → Int} : V2 K (rI0 fun i j => .int (g i j)) (dI0 fun i j => .int (g i j)) := by
  intro B Hs H c x y dx kx dy ky fp Qd Q A ar h f
  obtain ⟨i, j, rfl, rfl, q⟩ := dI0_inv h
  obtain ⟨rfl, rfl⟩ := ar.ints
  exact ⟨i, j, rfl, rfl, f _ H _ _ (Same.refl _) (A.flat rp_int) q⟩
theorem v_rB0 {g : Int → Int → Bool} : V2 K (rI0 fun i j => .bl (g i j)) (dI0 fun i j => .bl (g i j)) := by
  intro B Hs H c x y dx kx dy ky fp Qd Q A ar h f
  obtain ⟨i, j, rfl, rfl, q⟩ := dI0_inv h
  obtain ⟨rfl, rfl⟩ := ar.ints
  exact ⟨i, j, rfl, rfl, f _ H _ _ (Same.refl _) (A.flat rp_bl) q⟩
def dU (g : Int → Int) : D → Kd → (D → Kd → Prop) → Prop := fun x _ Q => match x with
  | .int i => Q (.int (g i)) (.R [])
  | _ => False
theorem Args.int1 {i : Int} {k1 : Kd} {x : V} (a : Args K B Hs H [(.int i, k1)] [x] fp) : x = .int i := by
  obtain ⟨_, vr, f1, g1, e, rfl, r, _, _, _, t⟩ := a.inv
  cases e
  exact r.int
theorem v_rU {g : Int → Int} : V1 K (rU fun i => .int (g i)) (dU g) := by
  intro B Hs H c x dx kx fp Qd Q A ar h f
  unfold dU at h
  split at h
  · rw [ar.int1]; exact ⟨_, rfl, f _ H _ _ (Same.refl _) (A.flat rp_int) h⟩
  · exact h.elim
end

/-! ### tests -/
def rTest (r : RE) : RT := fun Γ c Q => r Γ c fun d _ c1 => match d with
  | .bl b => Q b c1
  | _ => False
def rtAnd (r s : RT) : RT := fun Γ c Q => r Γ c fun b c1 => if b = true then s Γ c1 Q else Q false c1
def rtOr (r s : RT) : RT := fun Γ c Q => r Γ c fun b c1 => if b = true then Q true c1 else s Γ c1 Q
def rtNot (r : RT) : RT := fun Γ c Q => r Γ c fun b c1 => Q (!b) c1
def rAndV (r s : RE) : RE := fun Γ c Q => r Γ c fun d _ c1 => match d with
  | .bl b => if b = true then s Γ c1 Q else Q (.bl false) (.R []) c1
  | _ => False
def rOrV (r s : RE) : RE := fun Γ c Q => r Γ c fun d _ c1 => match d with
  | .bl b => if b = true then Q (.bl true) (.R []) c1 else s Γ c1 Q
  | _ => False
def rNotV (r : RE) : RE := fun Γ c Q => r Γ c fun d _ c1 => match d with
  | .bl b => Q (.bl (!b)) (.R []) c1
  | _ => False
def rIf (t : RT) (r s : RE) : RE := fun Γ c Q => t Γ c fun b c1 => if b = true then r Γ c1 Q else s Γ c1 Q
section
variable {K : PySem.W.Frag} {t u : TE} {r s : RE} {tt tu : TT} {rt ru : RT}
theorem res_bl {B : Bx} {H H' : Hp} {c : Nat} {b : Bool} {v : V} {k : Kd} (x : Res K B H H' c v (.bl b) k) : v = .bl b := by
  obtain ⟨fp, r, _⟩ := x.rp
  exact r.bl
theorem td_test (h : ED K t r) : TD K (tTest t) (rTest r) := by
  intro B Γ c σ H Qd Q E q f
  refine h B Γ c σ H _ _ E q fun v H' d k c' x q => ?_
  split at q
  · rw [res_bl x]; exact ⟨_, rfl, f _ H' c' x.ext x.gens q⟩
  · exact q.elim
theorem td_B (h : ED K t r) : TD K (tB t) (rTest r) := td_test h
theorem td_and (h : TD K tt rt) (g : TD K tu ru) : TD K (tAnd tt tu) (rtAnd rt ru) := by
  intro B Γ c σ H Qd Q E q f
  refine h B Γ c σ H _ _ E q fun b H' c' e gn q => ?_
  cases b with
  | true =>
    rw [if_pos rfl] at q ⊢
    exact g B Γ c' σ H' _ _ (E.ext e gn) q fun b H2 c2 e2 g2 q2 => f b H2 c2 (e.trans e2) g2 q2
  | false =>
    rw [if_neg Bool.false_ne_true] at q ⊢
    exact f _ H' c' e gn q
theorem td_or (h : TD K tt rt) (g : TD K tu ru) : TD K (tOr tt tu) (rtOr rt ru) := by
  intro B Γ c σ H Qd Q E q f
  refine h B Γ c σ H _ _ E q fun b H' c' e gn q => ?_
  cases b with
  | true =>
    rw [if_pos rfl] at q ⊢
    exact f _ H' c' e gn q
  | false =>
    rw [if_neg Bool.false_ne_true] at q ⊢
    exact g B Γ c' σ H' _ _ (E.ext e gn) q fun b H2 c2 e2 g2 q2 => f b H2 c2 (e.trans e2) g2 q2
theorem td_not (h : TD K tt rt) : TD K (tNot tt) (rtNot rt) := by
  intro B Γ c σ H Qd Q E q f
  exact h B Γ c σ H _ _ E q fun b H' c' e gn q => f _ H' c' e gn q
theorem ed_andV (h : ED K t r) (g : ED K u s) : ED K (tAndV t u) (rAndV r s) := by
  intro B Γ c σ H Qd Q E q f
  refine h B Γ c σ H _ _ E q fun v H' d k c' x q => ?_
  split at q
  · rename_i b
    rw [res_bl x]
    refine ⟨_, rfl, ?_⟩
    cases b with
    | true =>
      rw [if_pos rfl] at q ⊢
      exact g B Γ c' σ H' _ _ (E.ext x.ext x.gens) q fun v H2 d k c2 y q2 => f v H2 d k c2 (y.back E x.ext x.gens.lsts) q2
    | false =>
      rw [if_neg Bool.false_ne_true] at q ⊢
      exact f _ H' _ _ c' (Res.flat x.ext x.gens rp_bl) q
  · exact q.elim
theorem ed_orV (h : ED K t r) (g : ED K u s) : ED K (tOrV t u) (rOrV r s) := by
  intro B Γ c σ H Qd Q E q f
  refine h B Γ c σ H _ _ E q fun v H' d k c' x q => ?_
  split at q
  · rename_i b
    rw [res_bl x]
    refine ⟨_, rfl, ?_⟩
    cases b with
    | true =>
      rw [if_pos rfl] at q ⊢
      exact f _ H' _ _ c' (Res.flat x.ext x.gens rp_bl) q
    | false =>
      rw [if_neg Bool.false_ne_true] at q ⊢
      exact g B Γ c' σ H' _ _ (E.ext x.ext x.gens) q fun v H2 d k c2 y q2 => f v H2 d k c2 (y.back E x.ext x.gens.lsts) q2
  · exact q.elim
theorem ed_notV (h : ED K t r) : ED K (tNotV t) (rNotV r) := by
  intro B Γ c σ H Qd Q E q f
  refine h B Γ c σ H _ _ E q fun v H' d k c' x q => ?_
  split at q
  · rename_i b
    rw [res_bl x]
    exact ⟨_, rfl, f _ H' _ _ c' (Res.flat x.ext x.gens rp_bl) q⟩
  · exact q.elim
theorem ed_if (h : TD K tt rt) (g : ED K t r) (g' : ED K u s) : ED K (tIf tt t u) (rIf rt r s) := by
  intro B Γ c σ H Qd Q E q f
  refine h B Γ c σ H _ _ E q fun b H' c' e gn q => ?_
  cases b with
  | true =>
    rw [if_pos rfl] at q ⊢
    exact g B Γ c' σ H' _ _ (E.ext e gn) q fun v H2 d k c2 y q2 => f v H2 d k c2 (y.back E e gn.lsts) q2
  | false =>
    rw [if_neg Bool.false_ne_true] at q ⊢
    exact g' B Γ c' σ H' _ _ (E.ext e gn) q fun v H2 d k c2 y q2 => f v H2 d k c2 (y.back E e gn.lsts) q2
end
end DL
namespace DL
open PySem PySem.Spec L2

/-! ### lists and tuples written out -/
def cmb : Kd → Kd → Kd
  | .R a, .R b => if a.all (fun i => !b.contains i) = true then .R (a ++ b) else .B
  | .R [], .S => .S
  | .S, .R [] => .S
  | .S, .S => .S
  | _, _ => .B
def cmbs : List DK → Kd
  | [] => .R []
  | p :: r => cmb p.2 (cmbs r)
def NG : List DK → Prop
  | [] => True
  | p :: r => p.1 ≠ .gen ∧ NG r
def rTup (ra : RA) : RE := fun Γ c Q => ra Γ c fun dks c1 => dks.length ≤ 1000 ∧ NG dks ∧ Q (.tup (dks.map (·.1))) (cmbs dks) c1
def rLst (ra : RA) : RE := fun Γ c Q => ra Γ c fun dks c1 => dks.length ≤ 1000 ∧ NG dks ∧ Q (.lst (dks.map (·.1))) (cmbs dks) c1
theorem line1000 {n : Nat} (h : n ≤ 1000) : n ≤ sizeLine := Nat.le_of_lt (small1000 h)
section
variable {K : PySem.W.Frag} {B : Bx} {Γ : GE} {σ : St} {Hs H H' : Hp} {c c' : Nat} {v : V} {d : D} {k : Kd} {fp : List Addr} {dks : List DK} {vs : List V}
theorem kok0 : KOk B Hs [] (.R []) := ⟨List.nodup_nil, fun _ h => nomatch h⟩
theorem RpG.rp {F G : Addr → Prop} (r : RpG K F G H d v fp) (n : d ≠ .gen) : Rp K F H d v fp := r.elim id fun ⟨e, _⟩ => absurd e n
theorem RpG.at {F G : Addr → Prop} (r : RpG K F G H d v fp) : ∀ a ∈ fp, ∃ o, H a = some o ∧ isMut o = true := by
  rcases r with r | ⟨_, e, _⟩
  · exact r.at
  · subst e; exact fun _ h => nomatch h
theorem Args.at (x : Args K B Hs H dks vs fp) : ∀ a ∈ fp, ∃ o, H a = some o ∧ isMut o = true := by
  induction x with
  | nil => exact fun _ h => nomatch h
  | cons r n k d t ih => exact fun a ha => (List.mem_append.mp ha).elim (r.at a) (ih a)
theorem Args.rps (x : Args K B Hs H dks vs fp) (n : NG dks) : Rps K B.F H (dks.map (·.1)) vs fp := by
  induction x with
  | nil => exact ⟨rfl, rfl⟩
  | cons r ng k d t ih => exact ⟨_, _, _, _, rfl, rfl, r.rp n.1, ih n.2⟩
theorem KOk.b (ok : KOk B H fp k) : KOk B H fp .B := ok.any
theorem cmb_ok {f g : List Addr} {k1 k2 : Kd} (h1 : KOk B Hs f k1) (h2 : KOk B Hs g k2) (hd : ∀ a ∈ f, a ∈ g → Hs a ≠ none) (E : Env K B Γ c σ Hs) : KOk B Hs (f ++ g) (cmb k1 k2) := by
  have hB : KOk B Hs (f ++ g) .B := fun a ha => (List.mem_append.mp ha).elim (h1.any a) (h2.any a)
  have hS : KOk B Hs f .S → KOk B Hs g .S → KOk B Hs (f ++ g) .S := fun p q a ha => (List.mem_append.mp ha).elim (p a) (q a)
  have h0 : ∀ {f}, KOk B Hs f (.R []) → KOk B Hs f .S := fun p a ha => .inr ((p.2 a ha).elim id fun ⟨_, z, _⟩ => nomatch z)
  unfold cmb
  split
  · rename_i a b
    split
    · rename_i hab
      refine ⟨List.nodup_append.mpr ⟨h1.1, h2.1, fun x hx y hy e => ?_⟩, fun x hx => ?_⟩
      · subst e
        have hn := hd x hx hy
        rcases h1.2 x hx with z | ⟨i, hi, oi⟩
        · exact hn z
        · rcases h2.2 x hy with z | ⟨j, hj, oj⟩
          · exact hn z
          · have e := (E.ol i x oi).2.2.2.2 j oj
            subst e
            have := List.all_eq_true.mp hab _ hi
            simp [hj] at this
      · rcases List.mem_append.mp hx with hx | hx
        · exact (h1.2 x hx).imp id fun ⟨i, z, o⟩ => ⟨i, List.mem_append_left _ z, o⟩
        · exact (h2.2 x hx).imp id fun ⟨i, z, o⟩ => ⟨i, List.mem_append_right _ z, o⟩
    · exact hB
  · exact hS (h0 h1) h2
  · exact hS h1 (h0 h2)
  · exact hS h1 h2
  · exact hB
theorem Args.kok (x : Args K B Hs H dks vs fp) (E : Env K B Γ c σ Hs) : KOk B Hs fp (cmbs dks) := by
  induction x with
  | nil => exact ⟨List.nodup_nil, fun _ h => nomatch h⟩
  | cons r n k d t ih => exact cmb_ok k ih d E
/-- a new list on top -/
theorem kok_top {l : Addr} (A : At K B Hs H c) (hn : H l = none) (at_ : ∀ a ∈ fp, ∃ o, H a = some o ∧ isMut o = true) (ok : KOk B Hs fp k) : KOk B Hs (l :: fp) k := by
  obtain ⟨Γ, σ, c0, E⟩ := A.env
  have nn : Hs l = none := new_back E A.ext A.gens.lsts hn
  have nf : l ∉ fp := fun h => by
    obtain ⟨vs, e, _⟩ := at_ l h
    rw [hn] at e; cases e
  cases k with
  | R is => exact ⟨List.nodup_cons.mpr ⟨nf, ok.1⟩, fun a ha => (List.mem_cons.mp ha).elim (fun e => .inl (e ▸ nn)) (ok.2 a)⟩
  | S => exact fun a ha => (List.mem_cons.mp ha).elim (fun e => .inr (e ▸ nn)) (ok a)
  | B => exact fun a ha => (List.mem_cons.mp ha).elim (fun e => .inl (e ▸ nn)) (ok a)
theorem At.ng (A : At K B Hs H c) {l : Addr} (hn : H l = none) : ¬ B.G l := fun g => by
  obtain ⟨vs, e, _⟩ := A.gens.lsts l g
  rw [hn] at e; cases e
theorem no_lsts : Lsts (fun _ => False) H := fun _ h => h.elim
theorem Rps.same (s : Same H H') {ds : List D} (r : Rps K F H ds vs fp) : Rps K F H' ds vs fp := r.ext (G := fun _ => False) no_lsts (fun _ _ h => h) (Ext.same s) fun _ _ h => h
theorem Rp.same (s : Same H H') (r : Rp K F H d v fp) : Rp K F H' d v fp := r.ext (G := fun _ => False) no_lsts (fun _ _ h => h) (Ext.same s) fun _ _ h => h
/-- a new list of values that stand for ds -/
theorem At.newL (A : At K B Hs H c) {ds : List D} {l : Addr} (hn : H l = none) (r : Rps K B.F H ds vs fp) (ng : ∀ a ∈ fp, ¬ B.G a) (ok : KOk B Hs fp k) : Res K B Hs (upd H l (.lst vs)) c (.ref l) (.lst ds) k :=
  ⟨A.ext.trans (Ext.same (same_upd hn)), A.gens.same (same_upd hn), l :: fp, .inl (by rw [Rp]; exact ⟨l, vs, fp, rfl, upd_same, rfl, r.same (same_upd hn)⟩),
    fun a ha => (List.mem_cons.mp ha).elim (fun e => e ▸ A.ng hn) (ng a), kok_top A hn r.at ok⟩
/-- a new tuple -/
theorem At.newT (A : At K B Hs H c) {ds : List D} {l : Addr} (hn : H l = none) (r : Rps K B.F H ds vs fp) (ng : ∀ a ∈ fp, ¬ B.G a) (ok : KOk B Hs fp k) : Res K B Hs (upd H l (.tup vs)) c (.ref l) (.tup ds) k :=
  ⟨A.ext.trans (Ext.same (same_upd hn)), A.gens.same (same_upd hn), fp, .inl (by rw [Rp]; exact ⟨l, vs, rfl, upd_same, r.same (same_upd hn)⟩), ng, ok⟩
theorem ed_tup {ta : TA} {ra : RA} (ha : AD K ta ra) : ED K (tTup ta) (rTup ra) := by
  intro B Γ c σ H Qd Q E h f
  refine ha B Γ c σ H _ _ E h fun vs H' dks c' fp e g ar q => ?_
  obtain ⟨h1, h2, q⟩ := q
  refine ⟨by rw [ar.length]; exact line1000 h1, fun p hp => ?_⟩
  exact f _ _ _ _ c' (At.newT ⟨⟨Γ, σ, c, E⟩, e, g⟩ hp (ar.rps h2) ar.ng (ar.kok E)) q
theorem ed_lst {ta : TA} {ra : RA} (ha : AD K ta ra) : ED K (tLst ta) (rLst ra) := by
  intro B Γ c σ H Qd Q E h f
  refine ha B Γ c σ H _ _ E h fun vs H' dks c' fp e g ar q => ?_
  obtain ⟨h1, h2, q⟩ := q
  refine ⟨by rw [ar.length]; exact line1000 h1, fun p hp => ?_⟩
  exact f _ _ _ _ c' (At.newL ⟨⟨Γ, σ, c, E⟩, e, g⟩ hp (ar.rps h2) ar.ng (ar.kok E)) q
end

/-! ### keys of dicts -/
def toK : D → Option Key
  | .int i => some (.inl i)
  | .str x => some (.inr x)
  | _ => none
def toKs : List D → Option (List Key)
  | [] => some []
  | d :: ds => match toK d, toKs ds with
    | some k, some r => some (k :: r)
    | _, _ => none
/-- what stands as a key, in a dict of tuples (t), of numbers and texts -/
def keyOf (t : Bool) (d : D) : Option (List Key) := match d with
  | .tup ds => if t = true then toKs ds else none
  | d => if t = true then none else (toK d).map fun k => [k]
/-- a key's place -/
def kix {κ : Type} [DecidableEq κ] : List κ → κ → Option Nat
  | [], _ => none
  | k :: r, y => if k = y then some 0 else (kix r y).map (· + 1)
def dval (kk : List (List Key)) (ds : List D) (k : List Key) : Option D := (kix kk k).bind fun j => ds[j]?
section
variable {K : PySem.W.Frag} {F G : Addr → Prop} {H : Hp}
theorem toK_rp {d : D} {v : V} {fp : List Addr} {k : Key} (h : toK d = some k) (r : Rp K F H d v fp) : v = kV k ∧ fp = [] ∧ d = eK k := by
  unfold toK at h
  split at h
  · cases h; rw [Rp] at r; exact ⟨r.1, r.2, rfl⟩
  · cases h; rw [Rp] at r; exact ⟨r.1, r.2, rfl⟩
  · cases h
theorem toKs_rps : ∀ {ds : List D} {vs : List V} {fp : List Addr} {ks : List Key}, toKs ds = some ks → Rps K F H ds vs fp → vs = ks.map kV ∧ fp = [] ∧ ds = ks.map eK
  | [], _, _, _, h, ⟨e, ef⟩ => by cases h; exact ⟨e, ef, rfl⟩
  | d :: ds, _, _, ks, h, ⟨v, vr, f, g, e, ef, r, rs⟩ => by
    unfold toKs at h
    split at h
    · rename_i k kr h1 h2
      cases h
      obtain ⟨a1, a2, a3⟩ := toK_rp h1 r
      obtain ⟨b1, b2, b3⟩ := toKs_rps h2 rs
      rw [e, ef, a1, a2, a3, b1, b2, b3]; exact ⟨rfl, rfl, rfl⟩
    · cases h
theorem kix_map {κ μ : Type} [DecidableEq κ] [DecidableEq μ] (f : κ → μ) (hf : ∀ a b, f a = f b → a = b) (y : κ) : ∀ kk : List κ, kix (kk.map f) (f y) = kix kk y
  | [] => rfl
  | k :: r => by
    show (if f k = f y then some 0 else (kix (r.map f) (f y)).map (· + 1)) = if k = y then some 0 else (kix r y).map (· + 1)
    rw [kix_map f hf y r]
    by_cases e : k = y
    · rw [if_pos e, if_pos (by rw [e])]
    · rw [if_neg e, if_neg fun z => e (hf _ _ z)]
theorem kix_val {κ : Type} [DecidableEq κ] (y : κ) : ∀ {kk : List κ} {us : List V}, kk.length = us.length → valV (kk.zip us) y = (kix kk y).bind fun j => us[j]?
  | [], [], _ => rfl
  | k :: kr, u :: ur, h => by
    show valV ((k, u) :: kr.zip ur) y = _
    unfold kix
    by_cases e : k = y
    · rw [valV_pos (p := (k, u)) e, if_pos e]; rfl
    · rw [valV_neg (p := (k, u)) e, if_neg e, kix_val y (Nat.succ.inj h)]
      cases kix kr y with
      | none => rfl
      | some j => rfl
theorem kix_lt {κ : Type} [DecidableEq κ] {y : κ} : ∀ {kk : List κ} {j : Nat}, kix kk y = some j → kk[j]? = some y
  | k :: kr, j, h => by
    unfold kix at h
    by_cases e : k = y
    · rw [if_pos e] at h; cases h; rw [e]; rfl
    · rw [if_neg e] at h
      obtain ⟨i, h1, rfl⟩ := Option.map_eq_some_iff.mp h
      exact kix_lt (kk := kr) h1
/-- what the dict holds at a key -/
theorem dct_get {a : Addr} {t : Bool} {kk : List (List Key)} {us : List V} {y : D} {w : V} {fy : List Addr} {k : List Key} (da : DcAt H a t kk us) (hl : kk.length = us.length) (ry : RpG K F G H y w fy) (hk : keyOf t y = some k) : DGet H a w ((kix kk k).bind fun j => us[j]?) := by
  rcases da with ⟨rfl, e⟩ | ⟨rfl, k1, ek, e⟩
  · unfold keyOf at hk
    split at hk
    · rename_i ds
      rw [if_pos rfl] at hk
      obtain ⟨b, vs, rfl, eb, rs⟩ := ry.tup
      obtain ⟨e1, _, _⟩ := toKs_rps hk rs
      subst e1
      have := DGet.t (k := k) e eb
      rw [kix_val k hl] at this
      exact this
    · cases hk
  · unfold keyOf at hk
    split at hk
    · cases hk
    · rw [if_neg (by decide)] at hk
      obtain ⟨k0, h0, rfl⟩ := Option.map_eq_some_iff.mp hk
      have ng : y ≠ .gen := fun z => by rw [z] at h0; cases h0
      obtain ⟨rfl, _, _⟩ := toK_rp h0 (ry.rp ng)
      have := DGet.k (k := k0) e
      subst ek
      rw [kix_val k0 (by rw [← hl, List.length_map])] at this
      rw [kix_map (fun k => [k]) (fun a b h => by injection h)]
      exact this
end
/-- an item of a list, a tuple, a text, a dict -/
def rIxA (K : PySem.W.Frag) : R2 := fun x y H Q => rIx K x y H Q ∨ ∃ a v, x = .ref a ∧ DGet H a y (some v) ∧ Q v H
theorem ix_any {X : Cx} (hu : X.A.units + 64 < cLine) : IxR X (rIxA X.K) := by
  refine ix_seq.or ?_
  intro value slice pins s σ H x y v u Q I rx ry h hs
  obtain ⟨a, z, rfl, g, q⟩ := h
  cases rx
  exact PyProof.Rows.tail_any (dict_typeIs I g) PySem.F.slot_dict_getitem.lookup (d_getItem (by omega) I g ry fun w' s' I' rw' => ⟨z, H, I', rw', q⟩) hs

/-! ### items -/
def dIx : RD2 := fun x kx y _ Q => match x, y with
  | .lst ds, .int i => ∃ d, atI ds i = some d ∧ Q d kx
  | .tup ds, .int i => ∃ d, atI ds i = some d ∧ Q d kx
  | .mt ds, .int i => ∃ d, atI ds i = some d ∧ Q d (.R [])
  | .scr ns, .int i => ∃ n, atI ns i = some n ∧ Q (.int n) (.R [])
  | .dct t kk ds, y => ∃ k d, keyOf t y = some k ∧ dval kk ds k = some d ∧ Q d kx
  | .str z, .int i => ∃ n, z.length ≤ sizeLine ∧ atI z.cps.toList i = some n ∧ Q (.str ⟨#[n]⟩) (.R [])
  | _, _ => False
section
variable {K : PySem.W.Frag} {B : Bx} {Γ : GE} {σ : St} {Hs H H' : Hp} {c c' : Nat} {v : V} {d : D} {k : Kd} {fp : List Addr} {dks : List DK} {vs : List V}
theorem atI_rps {ds : List D} {i : Int} (r : Rps K F H ds vs fp) (h : atI ds i = some d) : ∃ v f, atI vs i = some v ∧ Rp K F H d v f ∧ f.Sublist fp := by
  unfold atI at h ⊢
  rw [r.length]
  cases e : ixN ds.length i with
  | none => rw [e] at h; cases h
  | some j =>
    rw [e] at h
    obtain ⟨v, f, h1, h2, h3⟩ := r.get (i := j) h
    exact ⟨v, f, h1, h2, h3⟩
theorem KOk.sub {f g : List Addr} (h : f.Sublist g) (ok : KOk B H g k) : KOk B H f k := by
  cases k with
  | R is => exact ⟨h.nodup ok.1, fun a ha => ok.2 a (h.subset ha)⟩
  | S => exact fun a ha => ok a (h.subset ha)
  | B => exact fun a ha => ok a (h.subset ha)
theorem rp_ne_gen (r : Rp K F H d v fp) : d ≠ .gen := fun e => by subst e; rw [Rp] at r; exact r
theorem atI_map {α β : Type} (f : α → β) {xs : List α} {i : Int} {x : α} (h : atI xs i = some x) : atI (xs.map f) i = some (f x) := by
  unfold atI at h ⊢
  rw [List.length_map]
  cases e : ixN xs.length i with
  | none => rw [e] at h; cases h
  | some j =>
    rw [e] at h
    show (xs.map f)[j]? = some (f x)
    rw [List.getElem?_map, show xs[j]? = some x from h]; rfl
theorem Args.one2 {d1 d2 : D} {k1 k2 : Kd} {x y : V} (a : Args K B Hs H [(d1, k1), (d2, k2)] [x, y] fp) : ∃ f g, fp = f ++ g ∧ RpG K B.F B.G H d1 x f ∧ RpG K B.F B.G H d2 y g ∧ (∀ a ∈ f, ¬ B.G a) ∧ (∀ a ∈ g, ¬ B.G a) ∧ KOk B Hs f k1 ∧ KOk B Hs g k2 ∧ ∀ a ∈ f, a ∈ g → Hs a ≠ none := by
  obtain ⟨_, vr, f1, g1, e, rfl, r, n1, o1, cr, t⟩ := a.inv
  obtain ⟨_, vr2, f2, g2, e2, rfl, r2, n2, o2, _, t2⟩ := t.inv
  cases e; cases e2
  cases t2
  rw [List.append_nil] at cr ⊢
  exact ⟨f1, f2, rfl, r, r2, n1, n2, o1, o2, cr⟩
theorem v_ix : V2 K (rIxA K) dIx := by
  intro B Hs H c x y dx kx dy ky fp Qd Q A ar h f
  obtain ⟨f1, f2, rfl, r1, r2, n1, n2, o1, o2, _⟩ := ar.one2
  unfold dIx at h
  split at h
  · obtain ⟨d, ha, q⟩ := h
    obtain ⟨a, vs, g, rfl, e, rfl, rs⟩ := r1.lst
    obtain ⟨v, g', ha', rp, sl⟩ := atI_rps rs ha
    refine .inl <| .inl ⟨a, vs, _, v, rfl, r2.int, SqL.of e, ha', f v H d kx (Same.refl _) ⟨A.ext, A.gens, g', .inl rp, fun a ha => n1 a (List.mem_cons_of_mem _ (sl.subset ha)), o1.sub (sl.cons _)⟩ q⟩
  · obtain ⟨d, ha, q⟩ := h
    obtain ⟨a, vs, rfl, e, rs⟩ := r1.tup
    obtain ⟨v, g', ha', rp, sl⟩ := atI_rps rs ha
    refine .inl <| .inr (.inl ⟨a, vs, _, v, rfl, r2.int, e.t, ha', f v H d kx (Same.refl _) ⟨A.ext, A.gens, g', .inl rp, fun a ha => n1 a (sl.subset ha), o1.sub sl⟩ q⟩)
  · obtain ⟨d, ha, q⟩ := h
    obtain ⟨rfl, a, vs, rfl, e, rs⟩ := r1.mt
    obtain ⟨v, g', ha', rp, sl⟩ := atI_rps rs ha
    have e0 := List.sublist_nil.mp sl
    subst e0
    refine .inl <| .inr (.inl ⟨a, vs, _, v, rfl, r2.int, e.t, ha', f v H d _ (Same.refl _) (A.flat rp) q⟩)
  · obtain ⟨n, ha, q⟩ := h
    obtain ⟨_, a, rfl, e⟩ := r1.scr
    exact .inl (.inl ⟨a, _, _, _, rfl, r2.int, e.l, atI_map V.int ha, f _ H _ _ (Same.refl _) (A.flat rp_int) q⟩)
  · obtain ⟨k, d, hk, hd, q⟩ := h
    obtain ⟨a, us, g, rfl, da, rfl, hl, rs⟩ := r1.dct
    unfold dval at hd
    obtain ⟨j, hj, hd⟩ := Option.bind_eq_some_iff.mp hd
    obtain ⟨v, g', hv, rp, sl⟩ := rs.get hd
    have dg := dct_get da hl.1 r2 hk
    rw [hj] at dg
    have dg : DGet H a y (us[j]?) := dg
    rw [hv] at dg
    exact .inr ⟨a, v, rfl, dg, f v H d kx (Same.refl _) ⟨A.ext, A.gens, g', .inl rp, fun a ha => n1 a (List.mem_cons_of_mem _ (sl.subset ha)), o1.sub (sl.cons _)⟩ q⟩
  · obtain ⟨n, hz, ha, q⟩ := h
    exact .inl <| .inr (.inr ⟨_, _, n, r1.str, r2.int, hz, ha, f _ H _ _ (Same.refl _) (A.flat rp_str) q⟩)
  · exact h.elim
end

/-! ### slices -/
abbrev RO := GE → Nat → (Option Int → Nat → Prop) → Prop
def OD (K : PySem.W.Frag) (t : TO) (r : RO) : Prop := ∀ B Γ c σ H Qd Q, Env K B Γ c σ H → r Γ c Qd → (∀ o H' c', Ext B.G H H' → GensOk B.G H' c' → Qd o c' → Q o H') → t σ H Q
def roNone : RO := fun _ c Q => Q none c
def roSome (r : RE) : RO := fun Γ c Q => r Γ c fun d _ c1 => match d with
  | .int i => Q (some i) c1
  | _ => False
theorem k_or {b : Bool} {P : Kd → Prop} {k : Kd} (h : P (if b = true then .R [] else k)) : (b = true ∧ P (.R [])) ∨ P k := by
  cases b with
  | true => exact .inl ⟨rfl, h⟩
  | false => exact .inr h
def cutD {α : Type} (xs : List α) (lo hi : Option Int) : List α := (xs.drop (HT.sIx xs.length 0 lo)).take (HT.sIx xs.length xs.length hi - HT.sIx xs.length 0 lo)
def dSl : D → Kd → Option Int → Option Int → (D → Kd → Prop) → Prop := fun x kx lo hi Q => match x with
  | .lst ds => Q (.lst (cutD ds lo hi)) (if noLs ds = true then .R [] else kx)
  | .tup ds => Q (.tup (cutD ds lo hi)) kx
  | .scr ns => Q (.lst ((cutD ns lo hi).map .int)) (.R [])
  | .str z => z.length ≤ sizeLine ∧ Q (.str (cutS z lo hi)) (.R [])
  | _ => False
def rSl (re : RE) (rl rh : RO) : RE := fun Γ c Q => re Γ c fun x kx c1 => rl Γ c1 fun lo c2 => rh Γ c2 fun hi c3 => dSl x kx lo hi fun d k => Q d k c3
def rSlA (K : PySem.W.Frag) : V → Option Int → Option Int → Hp → VK → Prop := fun x lo hi H Q => rSlL K x lo hi H Q ∨ (L2.rSlA K x lo hi H Q ∨ rSlS x lo hi H Q)
theorem sl_seq {X : Cx} : SlR X (rSlA X.K) := sl_list.or (sl_tupA.or sl_str)
section
variable {K : PySem.W.Frag} {B : Bx} {Γ : GE} {σ : St} {Hs H H' : Hp} {c c' : Nat} {v : V} {d : D} {k : Kd} {fp : List Addr} {dks : List DK} {vs : List V}
theorem noLs_take {ds : List D} : ∀ (n : Nat), noLs ds = true → noLs (ds.take n) = true := by
  induction ds with
  | nil => intro n h; rw [List.take_nil]; rfl
  | cons d r ih =>
    intro n h
    have h' : (noL d && noLs r) = true := h
    rw [Bool.and_eq_true] at h'
    cases n with
    | zero => rfl
    | succ n => show (noL d && noLs (r.take n)) = true; rw [h'.1, ih n h'.2]; rfl
theorem noLs_drop {ds : List D} : ∀ (n : Nat), noLs ds = true → noLs (ds.drop n) = true := by
  induction ds with
  | nil => intro n h; rw [List.drop_nil]; rfl
  | cons d r ih =>
    intro n h
    have h' : (noL d && noLs r) = true := h
    rw [Bool.and_eq_true] at h'
    cases n with
    | zero => exact h
    | succ n => exact ih n h'.2
theorem od_none : OD K tNoPart roNone := fun _ _ _ _ H _ _ E h f => f _ H _ (Ext.refl H) E.gens h
theorem od_some {t : TE} {r : RE} (h : ED K t r) : OD K (tPart t) (roSome r) := by
  intro B Γ c σ H Qd Q E q f
  refine h B Γ c σ H _ _ E q fun v H' d k c' x q => ?_
  split at q
  · obtain ⟨fp, r, _⟩ := x.rp
    exact ⟨_, r.int, f _ H' c' x.ext x.gens q⟩
  · exact q.elim
theorem cutV_rps {ds : List D} (r : Rps K F H ds vs fp) (lo hi : Option Int) : ∃ f, Rps K F H (cutD ds lo hi) (cutV vs lo hi) f ∧ f.Sublist fp := by
  unfold cutD cutV
  rw [r.length]
  obtain ⟨f, h1, h2⟩ := r.drop (HT.sIx ds.length 0 lo)
  obtain ⟨g, h3, h4⟩ := h1.take (HT.sIx ds.length ds.length hi - HT.sIx ds.length 0 lo)
  exact ⟨g, h3, h4.trans h2⟩
theorem rps_ints : ∀ {ns : List Int} {vs : List V} {fp : List Addr}, Rps K F H (ns.map D.int) vs fp → vs = ns.map V.int ∧ fp = []
  | [], _, _, ⟨e, e'⟩ => ⟨e, e'⟩
  | n :: ns, _, _, ⟨v, vr, f, g, e, ef, r, rs⟩ => by
    obtain ⟨h1, h2⟩ := rps_ints rs
    rw [Rp] at r
    rw [e, ef, r.1, r.2, h1, h2]; exact ⟨rfl, rfl⟩
theorem rps_of_ints : ∀ {ns : List Int}, Rps K F H (ns.map D.int) (ns.map V.int) []
  | [] => ⟨rfl, rfl⟩
  | n :: ns => ⟨_, _, [], [], rfl, rfl, rp_int, rps_of_ints⟩
theorem cutD_whole {ds : List D} {lo hi : Option Int} (w : HT.sIx ds.length 0 lo = 0 ∧ HT.sIx ds.length ds.length hi = ds.length) : cutD ds lo hi = ds := by unfold cutD; rw [w.1, w.2, List.drop_zero, Nat.sub_zero, List.take_length]
theorem ed_sl {te : TE} {tl th : TO} {re : RE} {rl rh : RO} (he : ED K te re) (hl : OD K tl rl) (hh : OD K th rh) : ED K (tSl (rSlA K) te tl th) (rSl re rl rh) := by
  intro B Γ c σ H Qd Q E h f
  refine he B Γ c σ H _ _ E h fun v H1 x kx c1 r1 q => ?_
  have E1 := E.ext r1.ext r1.gens
  refine hl B Γ c1 σ H1 _ _ E1 q fun lo H2 c2 e2 g2 q => ?_
  have r2 := r1.on E.fg e2 g2
  refine hh B Γ c2 σ H2 _ _ (E1.ext e2 g2) q fun hi H3 c3 e3 g3 q => ?_
  have r3 := r2.on E.fg e3 g3
  have A : At K B H H3 c3 := ⟨⟨Γ, σ, c, E⟩, r3.ext, r3.gens⟩
  obtain ⟨fp, rp, ng, ok⟩ := r3.rp
  unfold dSl at q
  split at q
  · obtain ⟨a, vs, g, rfl, e, rfl, rs⟩ := rp.lst
    obtain ⟨g', hg, sub⟩ := cutV_rps rs lo hi
    refine .inl ⟨a, vs, rfl, SqL.of e, fun p hp => ?_⟩
    rcases k_or (P := fun k => Qd _ k c3) q with ⟨nl, q⟩ | q
    · have e0 : g' = [] := hg.nol (noLs_take _ (noLs_drop _ nl))
      subst e0
      exact f _ _ _ _ c3 (A.newL hp hg (fun _ h => nomatch h) kok0) q
    · exact f _ _ _ _ c3 (A.newL hp hg (fun a ha => ng a (List.mem_cons_of_mem _ (sub.subset ha))) (ok.sub (sub.cons _))) q
  · obtain ⟨a, vs, rfl, e, rs⟩ := rp.tup
    obtain ⟨g', hg, sub⟩ := cutV_rps rs lo hi
    refine .inr (.inl ⟨a, vs, rfl, e.t, fun w => ?_, fun _ p hp => ?_⟩)
    · rw [rs.length] at w
      rw [cutD_whole w] at q
      exact f _ _ _ _ c3 ⟨A.ext, A.gens, _, .inl (by rw [Rp]; exact ⟨a, vs, rfl, e, rs⟩), ng, ok⟩ q
    · exact f _ _ _ _ c3 (A.newT hp hg (fun a ha => ng a (sub.subset ha)) (ok.sub sub)) q
  · obtain ⟨_, a, rfl, e⟩ := rp.scr
    refine .inl ⟨a, _, rfl, e.l, fun p hp => ?_⟩
    have ec : ∀ ns : List Int, cutV (ns.map V.int) lo hi = (cutD ns lo hi).map V.int := fun ns => by
      unfold cutV cutD
      rw [List.length_map, List.map_take, List.map_drop]
    rw [ec]
    exact f _ _ _ _ c3 (A.newL hp rps_of_ints (fun _ h => nomatch h) kok0) q
  · exact .inr (.inr ⟨_, rp.str, q.1, f _ _ _ _ c3 (A.flat rp_str) q.2⟩)
  · exact q.elim
end
end DL
namespace L2
open PySem PySem.Spec
/-- a text of one sign, k times -/
def repS (z : Str) (k : Nat) : Str := ⟨(List.replicate k z.cps).foldl (· ++ ·) #[]⟩
def rRepS : R2 := fun x y H Q => ∃ z k, x = .str z ∧ y = .int k ∧ 1 ≤ k ∧ k ≤ 1000 ∧ z.length = 1 ∧ Q (.str (repS z k.toNat)) H
theorem op_rep_str {X : Cx} : OpR X (binaryOp .Mult) rRepS := by
  intro pins s σ H x y v u Q I rx ry h
  obtain ⟨z, k, rfl, rfl, h1, h2, hz, q⟩ := h
  obtain ⟨t, rfl⟩ := rx
  obtain ⟨t', rfl⟩ := ry
  have n1 : ¬ k < 1 := by omega
  have tl : Builtin.Str.tooLong (z.length * k.toNat) = false := by
    rw [hz]
    unfold Builtin.Str.tooLong
    have := sizeLine_eq
    exact decide_eq_false (by omega)
  refine PySem.P.mul_str (by
      rw [decide_eq_false (by omega), decide_eq_false (by omega)]; rfl) (fun _ _ h => ?_) (fun _ _ => tl) ?_
  · rw [hz] at h
    have : (1 : Int) ≤ (2 ^ 63 - 1) / k := (Int.le_ediv_iff_mul_le (by omega)).mpr (by omega)
    have h : ((1 : Nat) : Int) > (2 ^ 63 - 1) / k := h
    omega
  · rw [if_neg n1]
    by_cases e : k = 1
    · subst e
      have e1 : ((1 : Int) == 1 || z.length == 0) = true := rfl
      rw [if_pos e1]
      have e2 : repS z (1 : Int).toNat = z := by
        unfold repS
        show (⟨#[] ++ z.cps⟩ : Str) = z
        rw [Array.empty_append]
      rw [e2] at q
      exact ⟨.str z, H, I, ⟨_, rfl⟩, q⟩
    · have e1 : (k == 1 || z.length == 0) = false := by rw [hz]; simp [e]
      rw [e1, if_neg Bool.false_ne_true]
      exact ⟨fits_reps tl, .str _, H, I.tok _, ⟨_, rfl⟩, q⟩
end L2
namespace DL
open PySem PySem.Spec L2

/-! ### operators over any data -/
def MulB (i j : Int) : Prop := ((-(2 ^ 64) < i ∧ i < 2 ^ 64) ∨ (-(2 ^ 64) < j ∧ j < 2 ^ 64)) ∨ (i.natAbs < 2 ^ 4000 ∧ j.natAbs < 2 ^ 4000)
def DivOk (j : Int) : Prop := 0 < j ∧ (j < 1073741824 ∨ j.natAbs < 2 ^ 8000)
def rAddA (K : PySem.W.Frag) : R2 := fun x y H Q => rI0 (fun i j => .int (i + j)) x y H Q ∨ (rCat x y H Q ∨ (rCatA K x y H Q ∨ ∃ i j, x = .str i ∧ y = .str j ∧ i.length + j.length ≤ sizeLine ∧ Q (.str (i ++ j)) H))
theorem op_addA {X : Cx} : OpR X (binaryOp .Add) (rAddA X.K) := op_add.or (op_cat.or (op_catA.or op_add_str))
def rMulA : R2 := fun x y H Q => rI CMul (fun i j => .int (i * j)) x y H Q ∨ (rI CMulW (fun i j => .int (i * j)) x y H Q ∨ (rRep x y H Q ∨ rRepS x y H Q))
theorem op_mulA {X : Cx} : OpR X (binaryOp .Mult) rMulA := op_mul.or (op_mulW.or (op_rep.or op_rep_str))
def rDivA : R2 := fun x y H Q => rI CDiv (fun i j => .int (i / j)) x y H Q ∨ rI CDivW (fun i j => .int (i / j)) x y H Q
theorem op_divA {X : Cx} : OpR X (binaryOp .FloorDiv) rDivA := op_fdiv.or op_fdivW
def dAdd : RD2 := fun x kx y ky Q => match x, y with
  | .int i, .int j => Q (.int (i + j)) (.R [])
  | .lst xs, .lst ys => xs.length + ys.length ≤ 1000000 ∧ Q (.lst (xs ++ ys)) (if (noLs xs && noLs ys) = true then .R [] else cmb kx ky)
  | .tup xs, .tup ys => xs.length + ys.length ≤ 1000000 ∧ Q (.tup (xs ++ ys)) (cmb kx ky)
  | .str i, .str j => i.length + j.length ≤ sizeLine ∧ Q (.str (i ++ j)) (.R [])
  | _, _ => False
def dMul : RD2 := fun x kx y ky Q => match x, y with
  | .int i, .int j => MulB i j ∧ Q (.int (i * j)) (.R [])
  | .str z, .int k => 1 ≤ k ∧ k ≤ 1000 ∧ z.length = 1 ∧ Q (.str (repS z k.toNat)) (.R [])
  | .lst xs, .int k => noLs xs = true ∧ 0 ≤ k ∧ k ≤ 1000000 ∧ xs.length * k.toNat ≤ 1000000 ∧ Q (.lst (List.replicate k.toNat xs).flatten) (.R [])
  | _, _ => False
def dDiv : RD2 := dI (fun _ j => DivOk j) fun i j => .int (i / j)
def dMod : RD2 := dI (fun _ j => 0 < j) fun i j => .int (i % j)

theorem line1e6 {n : Nat} (h : n ≤ 1000000) : n ≤ sizeLine := by rw [sizeLine_eq]; omega
section
variable {K : PySem.W.Frag} {B : Bx} {Γ : GE} {σ : St} {Hs H H' : Hp} {c c' : Nat} {v : V} {d : D} {k : Kd} {fp : List Addr} {dks : List DK} {vs : List V}
theorem MulB.ok {i j : Int} (h : MulB i j) : CMul i j ∨ CMulW i j := by
  rcases h with h | ⟨h1, h2⟩
  · exact .inl h
  · exact .inr (wide_mul h1 h2 (by decide) (by decide) (by decide))
theorem DivOk.ok {i j : Int} (h : DivOk j) : CDiv i j ∨ CDivW i j := by
  obtain ⟨h0, h | h⟩ := h
  · exact .inl ⟨h0, h⟩
  · exact .inr (wide_div h0 h (by decide) (by decide))
theorem noLs_append : ∀ {xs ys : List D}, noLs xs = true → noLs ys = true → noLs (xs ++ ys) = true
  | [], _, _, h => h
  | d :: r, ys, h, h2 => by
    have h' : (noL d && noLs r) = true := h
    rw [Bool.and_eq_true] at h'
    show (noL d && noLs (r ++ ys)) = true
    rw [h'.1, noLs_append h'.2 h2]; rfl
theorem v_add : V2 K (rAddA K) dAdd := by
  intro B Hs H c x y dx kx dy ky fp Qd Q A ar h f
  obtain ⟨f1, f2, rfl, r1, r2, n1, n2, o1, o2, cr⟩ := ar.one2
  obtain ⟨Γ, σ, c0, E⟩ := A.env
  unfold dAdd at h
  split at h
  · exact .inl ⟨_, _, r1.int, r2.int, f _ H _ _ (Same.refl _) (A.flat rp_int) h⟩
  · obtain ⟨hl, q⟩ := h
    obtain ⟨a, vs, g, rfl, e, rfl, rs⟩ := r1.lst
    obtain ⟨b, us, g2, rfl, e2, rfl, rs2⟩ := r2.lst
    refine .inr (.inl ⟨a, b, vs, us, rfl, rfl, e, e2, by rw [rs.length, rs2.length]; exact line1e6 hl, fun p hp => ?_⟩)
    have rr := rs.append rs2
    rcases k_or (P := fun k => Qd _ k) q with ⟨z12, q⟩ | q
    · have e0 : g ++ g2 = [] := rr.nol (noLs_append (Bool.and_eq_true_iff.mp z12).1 (Bool.and_eq_true_iff.mp z12).2)
      rw [e0] at rr
      exact f _ _ _ _ (same_upd hp) (A.newL hp rr (fun _ h => nomatch h) kok0) q
    · have ok := cmb_ok o1 o2 cr E
      have sub : (g ++ g2).Sublist (a :: g ++ b :: g2) := ((List.Sublist.refl g).cons a).append ((List.Sublist.refl g2).cons b)
      exact f _ _ _ _ (same_upd hp) (A.newL hp rr (fun z hz => (List.mem_append.mp hz).elim (fun w => n1 z (List.mem_cons_of_mem _ w)) fun w => n2 z (List.mem_cons_of_mem _ w)) (ok.sub sub)) q
  · obtain ⟨hl, q⟩ := h
    obtain ⟨a, vs, rfl, e, rs⟩ := r1.tup
    obtain ⟨b, us, rfl, e2, rs2⟩ := r2.tup
    have ok := cmb_ok o1 o2 cr E
    have rr := rs.append rs2
    have nn : ∀ z ∈ f1 ++ f2, ¬ B.G z := fun z hz => (List.mem_append.mp hz).elim (n1 z) (n2 z)
    refine .inr (.inr (.inl ⟨a, b, vs, us, rfl, rfl, e.t, e2.t, by rw [rs.length, rs2.length]; exact line1e6 hl, fun z => ?_, fun _ z => ?_, fun _ z p hp => ?_⟩))
    · subst z
      rw [List.nil_append] at rr
      exact f _ H _ _ (Same.refl _) ⟨A.ext, A.gens, _, .inl (by rw [Rp]; exact ⟨b, us, rfl, e2, rr⟩), nn, ok⟩ q
    · subst z
      rw [List.append_nil] at rr
      exact f _ H _ _ (Same.refl _) ⟨A.ext, A.gens, _, .inl (by rw [Rp]; exact ⟨a, vs, rfl, e, rr⟩), nn, ok⟩ q
    · exact f _ _ _ _ (same_upd hp) (A.newT hp rr nn ok) q
  · exact .inr (.inr (.inr ⟨_, _, r1.str, r2.str, h.1, f _ H _ _ (Same.refl _) (A.flat rp_str) h.2⟩))
  · exact h.elim
theorem rep_rps {ds : List D} (r : Rps K F H ds vs []) : ∀ n : Nat, Rps K F H (List.replicate n ds).flatten (List.replicate n vs).flatten []
  | 0 => ⟨rfl, rfl⟩
  | n + 1 => by
    rw [List.replicate_succ, List.replicate_succ, List.flatten_cons, List.flatten_cons]
    exact r.append (rep_rps r n)
theorem v_mul : V2 K rMulA dMul := by
  intro B Hs H c x y dx kx dy ky fp Qd Q A ar h f
  obtain ⟨f1, f2, rfl, r1, r2, n1, n2, o1, o2, cr⟩ := ar.one2
  unfold dMul at h
  split at h
  · rcases h.1.ok with hm | hm
    · exact .inl ⟨_, _, r1.int, r2.int, hm, f _ H _ _ (Same.refl _) (A.flat rp_int) h.2⟩
    · exact .inr (.inl ⟨_, _, r1.int, r2.int, hm, f _ H _ _ (Same.refl _) (A.flat rp_int) h.2⟩)
  · obtain ⟨h1, h2, h3, q⟩ := h
    exact .inr (.inr (.inr ⟨_, _, r1.str, r2.int, h1, h2, h3, f _ H _ _ (Same.refl _) (A.flat rp_str) q⟩))
  · obtain ⟨nl, h0, h1, h2, q⟩ := h
    obtain ⟨a, vs, g, rfl, e, rfl, rs⟩ := r1.lst
    have e0 : g = [] := rs.nol nl
    subst e0
    refine .inr (.inr (.inl ⟨a, _, vs, rfl, r2.int, e, by omega, by omega, by rw [rs.length]; exact line1e6 h2, fun p hp => ?_⟩))
    exact f _ _ _ _ (same_upd hp) (A.newL hp (rep_rps rs _) (fun _ h => nomatch h) kok0) q
  · exact h.elim
theorem v_div : V2 K rDivA dDiv := by
  intro B Hs H c x y dx kx dy ky fp Qd Q A ar h f
  obtain ⟨i, j, rfl, rfl, hc, q⟩ := dI_inv h
  obtain ⟨rfl, rfl⟩ := ar.ints
  rcases hc.ok (i := i) with hc | hc
  · exact .inl ⟨i, j, rfl, rfl, hc, f _ H _ _ (Same.refl _) (A.flat rp_int) q⟩
  · exact .inr ⟨i, j, rfl, rfl, hc, f _ H _ _ (Same.refl _) (A.flat rp_int) q⟩
theorem v_mod : V2 K (rI (fun _ j => 0 < j) fun i j => .int (i % j)) dMod := v_rI
end

/-! ### == and != -/
mutual
def py : D → PyData
  | .non => .none
  | .bl b => .bool b
  | .int i => .int i
  | .str x => .str x
  | .tup ds => .tuple (pys ds)
  | .lst ds => .list (pys ds)
  | _ => .none
def pys : List D → List PyData
  | [] => []
  | d :: ds => py d :: pys ds
end
mutual
/-- data that == may be asked about -/
def isData : D → Bool
  | .non | .bl _ | .int _ | .str _ => true
  | .tup ds => isDatas ds
  | .lst ds => isDatas ds
  | _ => false
def isDatas : List D → Bool
  | [] => true
  | d :: ds => isData d && isDatas ds
end
def EqOk (d : D) : Prop := isData d = true ∧ SeqAt.shaped (py d) = true
def dEq : RD2 := fun x _ y _ Q => EqOk x ∧ EqOk y ∧ Q (.bl (PyData.eqv (py x) (py y))) (.R [])
def dNe : RD2 := fun x _ y _ Q => EqOk x ∧ EqOk y ∧ Q (.bl (!PyData.eqv (py x) (py y))) (.R [])
section
variable {K : PySem.W.Frag} {B : Bx} {Γ : GE} {σ : St} {Hs H H' : Hp} {c c' : Nat} {v : V} {k : Kd} {fp : List Addr} {dks : List DK} {vs : List V}
mutual
theorem dp_of : ∀ {d : D} {v : V} {fp : List Addr}, isData d = true → Rp K F H d v fp → Dp K H v (py d)
  | .non, _, _, _, r => by rw [Rp] at r; rw [r.1]; exact .non
  | .bl b, _, _, _, r => by rw [Rp] at r; rw [r.1]; exact .bl b
  | .int b, _, _, _, r => by rw [Rp] at r; rw [r.1]; exact .int b
  | .str b, _, _, _, r => by rw [Rp] at r; rw [r.1]; exact .str b
  | .tup ds, _, _, h, r => by
    rw [Rp] at r
    obtain ⟨a, vs, rfl, e, rs⟩ := r
    rw [py]
    exact .tup e.t (dps_of h rs)
  | .lst ds, _, _, h, r => by
    rw [Rp] at r
    obtain ⟨a, vs, f, rfl, e, _, rs⟩ := r
    rw [py]
    exact .lst (SqL.of e) (dps_of h rs)
  | .ty _, _, _, h, _ => nomatch h
  | .scr _, _, _, h, _ => nomatch h
  | .gen, _, _, h, _ => nomatch h
theorem dps_of : ∀ {ds : List D} {vs : List V} {fp : List Addr}, isDatas ds = true → Rps K F H ds vs fp → DpAll K H vs (pys ds)
  | [], _, _, _, ⟨e, _⟩ => by rw [e]; exact .nil
  | d :: ds, _, _, h, ⟨v, vr, f, g, e, ef, r, rs⟩ => by
    have h' : (isData d && isDatas ds) = true := h
    rw [Bool.and_eq_true] at h'
    rw [e]
    exact .cons (dp_of h'.1 r) (dps_of h'.2 rs)
end
theorem isData_ng {d : D} (h : isData d = true) : d ≠ .gen := fun e => by subst e; cases h
theorem v_eq : V2 K (rEqD K) dEq := by
  intro B Hs H c x y dx kx dy ky fp Qd Q A ar h f
  obtain ⟨f1, f2, rfl, r1, r2, n1, n2, o1, o2, cr⟩ := ar.one2
  obtain ⟨⟨a1, a2⟩, ⟨b1, b2⟩, q⟩ := h
  exact ⟨_, _, dp_of a1 (r1.rp (isData_ng a1)), dp_of b1 (r2.rp (isData_ng b1)), a2, b2, f _ H _ _ (Same.refl _) (A.flat rp_bl) q⟩
theorem v_ne : V2 K (rNeD K) dNe := by
  intro B Hs H c x y dx kx dy ky fp Qd Q A ar h f
  obtain ⟨f1, f2, rfl, r1, r2, n1, n2, o1, o2, cr⟩ := ar.one2
  obtain ⟨⟨a1, a2⟩, ⟨b1, b2⟩, q⟩ := h
  exact ⟨_, _, dp_of a1 (r1.rp (isData_ng a1)), dp_of b1 (r2.rp (isData_ng b1)), a2, b2, f _ H _ _ (Same.refl _) (A.flat rp_bl) q⟩
end
/-- is None -/
def isNon : D → Bool
  | .non => true
  | .shr d => isNon d
  | _ => false
def dIsN (neg : Bool) : RD2 := fun x _ y _ Q => match y with
  | .non => x ≠ .gen ∧ Q (.bl (if neg then !isNon x else isNon x)) (.R [])
  | _ => False
section
variable {K : PySem.W.Frag} {B : Bx} {Hs H : Hp} {c : Nat} {v : V} {fp : List Addr}
theorem rp_non_iff : ∀ {d : D} {v : V} {fp : List Addr} {F : Addr → Prop}, Rp K F H d v fp → decide (v = .non) = isNon d
  | .non, _, _, _, r => by rw [Rp] at r; rw [r.1]; rfl
  | .bl _, _, _, _, r => by rw [Rp] at r; rw [r.1]; rfl
  | .int _, _, _, _, r => by rw [Rp] at r; rw [r.1]; rfl
  | .str _, _, _, _, r => by rw [Rp] at r; rw [r.1]; rfl
  | .ty _, _, _, _, r => by rw [Rp] at r; rw [r.1]; rfl
  | .scr _, _, _, _, r => by rw [Rp] at r; obtain ⟨_, a, e, _⟩ := r; rw [e]; rfl
  | .gen, _, _, _, r => by rw [Rp] at r; exact r.elim
  | .tup _, _, _, _, r => by rw [Rp] at r; obtain ⟨a, _, e, _⟩ := r; rw [e]; rfl
  | .lst _, _, _, _, r => by rw [Rp] at r; obtain ⟨a, _, _, e, _⟩ := r; rw [e]; rfl
  | .dct _ _ _, _, _, _, r => by rw [Rp] at r; obtain ⟨a, _, _, e, _⟩ := r; rw [e]; rfl
  | .mt _, _, _, _, r => by rw [Rp] at r; obtain ⟨_, a, _, e, _⟩ := r; rw [e]; rfl
  | .obj _ _ _, _, _, _, r => by rw [Rp] at r; obtain ⟨a, _, _, _, e, _⟩ := r; rw [e]; rfl
  | .shr d, _, _, _, r => by
    rw [Rp] at r
    obtain ⟨_, g, r, _⟩ := r
    exact rp_non_iff (d := d) r
theorem v_isN : V2 K (fun x y H Q => y = .non ∧ Q (.bl (decide (x = .non))) H) (dIsN false) := by
  intro B Hs H c x y dx kx dy ky fp Qd Q A ar h f
  obtain ⟨f1, f2, rfl, r1, r2, _⟩ := ar.one2
  unfold dIsN at h
  split at h
  · refine ⟨r2.non, f _ H _ _ (Same.refl _) (A.flat ?_) h.2⟩
    rw [rp_non_iff (r1.rp h.1)]; exact rp_bl
  · exact h.elim
theorem v_notN : V2 K (fun x y H Q => y = .non ∧ Q (.bl (!decide (x = .non))) H) (dIsN true) := by
  intro B Hs H c x y dx kx dy ky fp Qd Q A ar h f
  obtain ⟨f1, f2, rfl, r1, r2, _⟩ := ar.one2
  unfold dIsN at h
  split at h
  · refine ⟨r2.non, f _ H _ _ (Same.refl _) (A.flat ?_) h.2⟩
    rw [rp_non_iff (r1.rp h.1)]; exact rp_bl
  · exact h.elim
end
/-- a chain of two comparisons -/
def rChain (rd rd' : RD2) (ra rb rc : RE) : RE := fun Γ c Q => ra Γ c fun dx kx c1 => rb Γ c1 fun dy ky c2 => rd dx kx dy ky fun z _ => match z with
  | .bl k => if k = true then rc Γ c2 fun dw kw c3 => rd' dy ky dw kw fun d k => Q d k c3 else Q (.bl false) (.R []) c2
  | _ => False
section
variable {K : PySem.W.Frag}
theorem ed_chain {r r' : R2} {rd rd' : RD2} {ta tb tc : TE} {ra rb rc : RE} (hv : V2 K r rd) (hv' : V2 K r' rd') (ha : ED K ta ra) (hb : ED K tb rb) (hc : ED K tc rc) : ED K (tChain r r' ta tb tc) (rChain rd rd' ra rb rc) := by
  intro B Γ c σ H Qd Q E h f
  refine ha B Γ c σ H _ _ E h fun x H1 dx kx c1 x1 q => ?_
  have E1 := E.ext x1.ext x1.gens
  refine hb B Γ c1 σ H1 _ _ E1 q fun y H2 dy ky c2 x2 q => ?_
  have E2 := E1.ext x2.ext x2.gens
  obtain ⟨fp1, rp1, ng1, ok1⟩ := x1.rp
  obtain ⟨fp2, rp2, ng2, ok2⟩ := x2.rp
  have rp1' := rp1.ext x1.gens.lsts E.fg x2.ext ng1
  have ar : Args K B H H2 [(dx, kx), (dy, ky)] [x, y] (fp1 ++ (fp2 ++ [])) := .cons rp1' ng1 ok1 (fun a ha hb z => by
    rw [List.append_nil] at hb
    obtain ⟨vs, e1, _⟩ := rp1.at a ha
    rcases ok2.any a hb with w | w
    · rw [e1] at w; cases w
    · obtain ⟨o, e⟩ := E.tracked w
      rw [z] at e; cases e) (.cons rp2 ng2 (ok2.back E x1.ext x1.gens.lsts) (fun _ _ h => nomatch h) .nil)
  refine hv B H H2 c2 x y dx kx dy ky _ _ _ ⟨⟨Γ, σ, c, E⟩, x1.ext.trans x2.ext, x2.gens⟩ ar q fun z H3 dz kz s3 x3 q => ?_
  split at q
  · rename_i k
    rw [res_bl x3]
    refine ⟨k, rfl, ?_⟩
    cases k with
    | true =>
      rw [if_pos rfl] at q ⊢
      have x2' := (x2.back E x1.ext x1.gens.lsts).on E.fg (Ext.same s3) (x2.gens.same s3)
      have E3 : Env K B Γ c2 σ H3 := E.ext x3.ext x3.gens
      refine hc B Γ c2 σ H3 _ _ E3 q fun w H4 dw kw c4 x4 q => ?_
      obtain ⟨fp2, rp2, ng2, ok2⟩ := x2'.rp
      obtain ⟨fp4, rp4, ng4, ok4⟩ := x4.rp
      have rp2' := rp2.ext x3.gens.lsts E.fg x4.ext ng2
      have ar2 : Args K B H H4 [(dy, ky), (dw, kw)] [y, w] (fp2 ++ (fp4 ++ [])) := .cons rp2' ng2 ok2 (fun a ha hb z => by
        rw [List.append_nil] at hb
        obtain ⟨vs, e1, _⟩ := rp2.at a ha
        rcases ok4.any a hb with w | w
        · rw [e1] at w; cases w
        · obtain ⟨o, e⟩ := E.tracked w
          rw [z] at e; cases e) (.cons rp4 ng4 (ok4.back E x3.ext x3.gens.lsts) (fun _ _ h => nomatch h) .nil)
      exact hv' B H H4 c4 y w dy ky dw kw _ _ _ ⟨⟨Γ, σ, c, E⟩, x3.ext.trans x4.ext, x4.gens⟩ ar2 q fun w H5 d k _ x q => f w H5 d k c4 x q
    | false =>
      rw [if_neg Bool.false_ne_true] at q ⊢
      exact f _ H3 _ _ c2 (Res.flat x3.ext x3.gens rp_bl) q
  · exact q.elim
end
end DL
namespace DL
open PySem PySem.Spec L2

/-! ### built-in functions -/
def dLen : RN := fun dks Q => match dks with
  | [(.lst ds, _)] => Q (.int ds.length) (.R [])
  | [(.tup ds, _)] => Q (.int ds.length) (.R [])
  | [(.scr ns, _)] => Q (.int ns.length) (.R [])
  | [(.str z, _)] => z.length ≤ sizeLine ∧ Q (.int z.length) (.R [])
  | _ => False
def dN1 (g : Int → D) : RN := fun dks Q => match dks with
  | [(.int i, _)] => Q (g i) (.R [])
  | _ => False
def dN2 (g : Int → Int → D) : RN := fun dks Q => match dks with
  | [(.int i, _), (.int j, _)] => Q (g i j) (.R [])
  | _ => False
def dInt : RN := fun dks Q => match dks with
  | [(.int i, _)] => Q (.int i) (.R [])
  | [(.bl b, _)] => Q (.int (if b then 1 else 0)) (.R [])
  | [(.str z, _)] => ∃ n, PySem.intText? z = some n ∧ z.length ≤ 640 ∧ Q (.int n) (.R [])
  | _ => False
def dSum : RN := fun dks Q => match dks with
  | [(.lst ds, _)] => ∃ ns : List Int, ds = ns.map D.int ∧ Q (.int ns.sum) (.R [])
  | _ => False
def dMaxL : RN := fun dks Q => match dks with
  | [(.lst ds, _)] => ∃ ns : List Int, ds = ns.map D.int ∧ ns ≠ [] ∧ ∀ m, m ∈ ns → (∀ y, y ∈ ns → y ≤ m) → Q (.int m) (.R [])
  | _ => False
def dMinL : RN := fun dks Q => match dks with
  | [(.lst ds, _)] => ∃ ns : List Int, ds = ns.map D.int ∧ ns ≠ [] ∧ ∀ m, m ∈ ns → (∀ y, y ∈ ns → m ≤ y) → Q (.int m) (.R [])
  | _ => False
def dAllA (g : List Bool → Bool) : RN := fun dks Q => match dks with
  | [(.lst ds, _)] => ∃ bs : List Bool, ds = bs.map D.bl ∧ Q (.bl (g bs)) (.R [])
  | _ => False
def dList : RN := fun dks Q => match dks with
  | [(.lst ds, k)] => Q (.lst ds) (if noLs ds = true then .R [] else k)
  | [(.tup ds, k)] => Q (.lst ds) (if noLs ds = true then .R [] else k)
  | [(.scr ns, _)] => Q (.lst (ns.map .int)) (.R [])
  | _ => False
def dTuple : RN := fun dks Q => match dks with
  | [(.lst ds, k)] => Q (.tup ds) (if noLs ds = true then .R [] else k)
  | [(.tup ds, k)] => Q (.tup ds) k
  | _ => False
section
variable {K : PySem.W.Frag} {B : Bx} {Γ : GE} {σ : St} {Hs H H' : Hp} {c c' : Nat} {v : V} {d : D} {k : Kd} {fp : List Addr} {dks : List DK} {vs : List V}
theorem Args.one (a : Args K B Hs H [(d, k)] vs fp) : ∃ x, vs = [x] ∧ RpG K B.F B.G H d x fp ∧ (∀ a ∈ fp, ¬ B.G a) ∧ KOk B Hs fp k := by
  obtain ⟨x, vr, f1, g1, rfl, rfl, r, n1, o1, cr, t⟩ := a.inv
  cases t
  rw [List.append_nil]
  exact ⟨x, rfl, r, n1, o1⟩
theorem Args.pair {d1 d2 : D} {k1 k2 : Kd} (a : Args K B Hs H [(d1, k1), (d2, k2)] vs fp) : ∃ x y, vs = [x, y] ∧ Args K B Hs H [(d1, k1), (d2, k2)] [x, y] fp := by
  obtain ⟨x, vr, f1, g1, rfl, rfl, r, n1, o1, cr, t⟩ := id a.inv
  obtain ⟨y, vr2, f2, g2, rfl, rfl, r2, n2, o2, cr2, t2⟩ := id t.inv
  cases t2
  exact ⟨x, y, rfl, a⟩
theorem v_len : VN K (fun xs H Q => ∃ x n, xs = [x] ∧ LenV K x H n ∧ Q (.int n) H) dLen := by
  intro B Hs H c vs dks fp Qd Q A ar h f
  unfold dLen at h
  split at h
  · obtain ⟨x, rfl, r, _⟩ := ar.one
    obtain ⟨a, us, g, rfl, e, _, rs⟩ := r.lst
    exact ⟨_, _, rfl, .inl ⟨us, SqL.of e, rfl⟩, by rw [rs.length]; exact f _ H _ _ (Same.refl _) (A.flat rp_int) h⟩
  · obtain ⟨x, rfl, r, _⟩ := ar.one
    obtain ⟨a, us, rfl, e, rs⟩ := r.tup
    exact ⟨_, _, rfl, .inr ⟨us, e.t, rfl⟩, by rw [rs.length]; exact f _ H _ _ (Same.refl _) (A.flat rp_int) h⟩
  · obtain ⟨x, rfl, r, _⟩ := ar.one
    obtain ⟨_, a, rfl, e⟩ := r.scr
    exact ⟨_, _, rfl, .inl ⟨_, e.l, rfl⟩, by rw [List.length_map]; exact f _ H _ _ (Same.refl _) (A.flat rp_int) h⟩
  · obtain ⟨x, rfl, r, _⟩ := ar.one
    exact ⟨_, _, rfl, by rw [r.str]; exact ⟨h.1, rfl⟩, f _ H _ _ (Same.refl _) (A.flat rp_int) h.2⟩
  · exact h.elim
theorem v_n1 {g : Int → Int} : VN K (fun xs H Q => ∃ i, xs = [.int i] ∧ Q (.int (g i)) H) (dN1 fun i => .int (g i)) := by
  intro B Hs H c vs dks fp Qd Q A ar h f
  unfold dN1 at h
  split at h
  · obtain ⟨x, rfl, r, _⟩ := ar.one
    exact ⟨_, by rw [r.int], f _ H _ _ (Same.refl _) (A.flat rp_int) h⟩
  · exact h.elim
theorem v_n2 {g : Int → Int → Int} : VN K (fun xs H Q => ∃ i j, xs = [.int i, .int j] ∧ Q (.int (g i j)) H) (dN2 fun i j => .int (g i j)) := by
  intro B Hs H c vs dks fp Qd Q A ar h f
  unfold dN2 at h
  split at h
  · obtain ⟨x, y, rfl, a2⟩ := ar.pair
    obtain ⟨rfl, rfl⟩ := a2.ints
    exact ⟨_, _, rfl, f _ H _ _ (Same.refl _) (A.flat rp_int) h⟩
  · exact h.elim
def rIntA : List V → Hp → VK → Prop := fun xs H Q => ((∃ i, xs = [.int i] ∧ Q (.int i) H) ∨ ∃ k, xs = [.bl k] ∧ Q (.int (if k then 1 else 0)) H) ∨ ∃ a n, xs = [.str a] ∧ PySem.intText? a = some n ∧ a.length ≤ 640 ∧ Q (.int n) H
theorem call_intA {X : Cx} : CallR X (.type "int") rIntA := call_int1.or call_int_str
theorem v_int : VN K rIntA dInt := by
  intro B Hs H c vs dks fp Qd Q A ar h f
  unfold dInt at h
  split at h
  · obtain ⟨x, rfl, r, _⟩ := ar.one
    exact .inl (.inl ⟨_, by rw [r.int], f _ H _ _ (Same.refl _) (A.flat rp_int) h⟩)
  · obtain ⟨x, rfl, r, _⟩ := ar.one
    exact .inl (.inr ⟨_, by rw [r.bl], f _ H _ _ (Same.refl _) (A.flat rp_int) h⟩)
  · obtain ⟨x, rfl, r, _⟩ := ar.one
    obtain ⟨n, h1, h2, q⟩ := h
    exact .inr ⟨_, n, by rw [r.str], h1, h2, f _ H _ _ (Same.refl _) (A.flat rp_int) q⟩
  · exact h.elim
theorem v_sum : VN K (rSum K) dSum := by
  intro B Hs H c vs dks fp Qd Q A ar h f
  unfold dSum at h
  split at h
  · obtain ⟨ns, rfl, q⟩ := h
    obtain ⟨x, rfl, r, _⟩ := ar.one
    obtain ⟨a, us, g, rfl, e, _, rs⟩ := r.lst
    obtain ⟨rfl, _⟩ := rps_ints rs
    exact ⟨a, ns, rfl, SqL.of e, f _ H _ _ (Same.refl _) (A.flat rp_int) q⟩
  · exact h.elim
theorem v_maxL : VN K (rMax K) dMaxL := by
  intro B Hs H c vs dks fp Qd Q A ar h f
  unfold dMaxL at h
  split at h
  · obtain ⟨ns, rfl, ne, q⟩ := h
    obtain ⟨x, rfl, r, _⟩ := ar.one
    obtain ⟨a, us, g, rfl, e, _, rs⟩ := r.lst
    obtain ⟨rfl, _⟩ := rps_ints rs
    exact ⟨a, ns, rfl, SqL.of e, List.length_pos_iff.mpr ne, fun m hm hle => f _ H _ _ (Same.refl _) (A.flat rp_int) (q m hm hle)⟩
  · exact h.elim
theorem v_minL : VN K (rMin K) dMinL := by
  intro B Hs H c vs dks fp Qd Q A ar h f
  unfold dMinL at h
  split at h
  · obtain ⟨ns, rfl, ne, q⟩ := h
    obtain ⟨x, rfl, r, _⟩ := ar.one
    obtain ⟨a, us, g, rfl, e, _, rs⟩ := r.lst
    obtain ⟨rfl, _⟩ := rps_ints rs
    exact ⟨a, ns, rfl, SqL.of e, List.length_pos_iff.mpr ne, fun m hm hle => f _ H _ _ (Same.refl _) (A.flat rp_int) (q m hm hle)⟩
  · exact h.elim
theorem rps_bls : ∀ {ns : List Bool} {vs : List V} {fp : List Addr}, Rps K F H (ns.map D.bl) vs fp → vs = ns.map V.bl ∧ fp = []
  | [], _, _, ⟨e, e'⟩ => ⟨e, e'⟩
  | n :: ns, _, _, ⟨v, vr, f, g, e, ef, r, rs⟩ => by
    obtain ⟨h1, h2⟩ := rps_bls rs
    rw [Rp] at r
    rw [e, ef, r.1, r.2, h1, h2]; exact ⟨rfl, rfl⟩
theorem v_allA {g : List Bool → Bool} : VN K (fun vs H Q => ∃ (a : Addr) (bs : List Bool), vs = [V.ref a] ∧ SqL K H a (bs.map V.bl) ∧ Q (.bl (g bs)) H) (dAllA g) := by
  intro B Hs H c vs dks fp Qd Q A ar h f
  unfold dAllA at h
  split at h
  · obtain ⟨ns, rfl, q⟩ := h
    obtain ⟨x, rfl, r, _⟩ := ar.one
    obtain ⟨a, us, g, rfl, e, _, rs⟩ := r.lst
    obtain ⟨rfl, _⟩ := rps_bls rs
    exact ⟨a, ns, rfl, SqL.of e, f _ H _ _ (Same.refl _) (A.flat rp_bl) q⟩
  · exact h.elim
theorem v_list : VN K (fun xs H Q => ∃ p ys, xs = [.ref p] ∧ (SqL K H p ys ∨ SqT K H p ys) ∧ ∀ l, H l = none → Q (.ref l) (upd H l (.lst ys))) dList := by
  intro B Hs H c vs dks fp Qd Q A ar h f
  unfold dList at h
  split at h
  · obtain ⟨x, rfl, r, ng, ok⟩ := ar.one
    obtain ⟨a, us, g, rfl, e, rfl, rs⟩ := r.lst
    refine ⟨a, us, rfl, .inl (SqL.of e), fun l hp => ?_⟩
    rcases k_or (P := fun k => Qd _ k) h with ⟨nl, q⟩ | q
    · have e0 : g = [] := rs.nol nl
      subst e0
      exact f _ _ _ _ (same_upd hp) (A.newL hp rs (fun _ h => nomatch h) kok0) q
    · exact f _ _ _ _ (same_upd hp) (A.newL hp rs (fun z hz => ng z (List.mem_cons_of_mem _ hz)) (ok.sub ((List.Sublist.refl g).cons a))) q
  · obtain ⟨x, rfl, r, ng, ok⟩ := ar.one
    obtain ⟨a, us, rfl, e, rs⟩ := r.tup
    refine ⟨a, us, rfl, .inr e.t, fun l hp => ?_⟩
    rcases k_or (P := fun k => Qd _ k) h with ⟨nl, q⟩ | q
    · have e0 : fp = [] := rs.nol nl
      subst e0
      exact f _ _ _ _ (same_upd hp) (A.newL hp rs (fun _ h => nomatch h) kok0) q
    · exact f _ _ _ _ (same_upd hp) (A.newL hp rs ng ok) q
  · obtain ⟨x, rfl, r, ng, ok⟩ := ar.one
    obtain ⟨_, a, rfl, e⟩ := r.scr
    exact ⟨a, _, rfl, .inl e.l, fun l hp => f _ _ _ _ (same_upd hp) (A.newL hp rps_of_ints (fun _ h => nomatch h) kok0) h⟩
  · exact h.elim
theorem v_tuple : VN K (fun xs H Q => ∃ p ys, xs = [.ref p] ∧ ((SqL K H p ys ∧ ∀ l, H l = none → Q (.ref l) (upd H l (.tup ys))) ∨ (SqT K H p ys ∧ Q (.ref p) H))) dTuple := by
  intro B Hs H c vs dks fp Qd Q A ar h f
  unfold dTuple at h
  split at h
  · obtain ⟨x, rfl, r, ng, ok⟩ := ar.one
    obtain ⟨a, us, g, rfl, e, rfl, rs⟩ := r.lst
    refine ⟨a, us, rfl, .inl ⟨SqL.of e, fun l hp => ?_⟩⟩
    rcases k_or (P := fun k => Qd _ k) h with ⟨nl, q⟩ | q
    · have e0 : g = [] := rs.nol nl
      subst e0
      exact f _ _ _ _ (same_upd hp) (A.newT hp rs (fun _ h => nomatch h) kok0) q
    · exact f _ _ _ _ (same_upd hp) (A.newT hp rs (fun z hz => ng z (List.mem_cons_of_mem _ hz)) (ok.sub ((List.Sublist.refl g).cons a))) q
  · obtain ⟨x, rfl, r, ng, ok⟩ := ar.one
    obtain ⟨a, us, rfl, e, rs⟩ := id r.tup
    exact ⟨a, us, rfl, .inr ⟨e.t, f _ H _ _ (Same.refl _) ⟨A.ext, A.gens, fp, r, ng, ok⟩ h⟩⟩
  · exact h.elim
end

/-! ### isinstance -/
def tyD : D → String
  | .non => "NoneType"
  | .bl _ => "bool"
  | .int _ => "int"
  | .str _ => "str"
  | .tup _ => "tuple"
  | .lst _ => "list"
  | _ => "?"
def isi (a b : String) : Bool := (a == b) || (a == "bool" && b == "int")
def okTy (b : String) : Bool := ["int", "bool", "str", "list", "tuple"].contains b
def dIsi : RN := fun dks Q => match dks with
  | [(d, _), (.ty n, _)] => isData d = true ∧ okTy n = true ∧ Q (.bl (isi (tyD d) n)) (.R [])
  | _ => False
section
variable {K : PySem.W.Frag} {B : Bx} {Γ : GE} {σ : St} {Hs H H' : Hp} {c c' : Nat} {v : V} {d : D} {k : Kd} {fp : List Addr} {dks : List DK} {vs : List V}
theorem kit_all {a b : String} (ha : ["NoneType", "bool", "int", "str", "tuple", "list"].contains a = true) (hb : okTy b = true) : kitB a b = some (isi a b) := by
  have key : (["NoneType", "bool", "int", "str", "tuple", "list"].all fun a => ["int", "bool", "str", "list", "tuple"].all fun b => decide (kitB a b = some (isi a b))) = true := by decide +kernel
  have h1 := List.all_eq_true.mp key a (List.contains_iff_mem.mp ha)
  exact of_decide_eq_true (List.all_eq_true.mp h1 b (List.contains_iff_mem.mp hb))
theorem tyX_of (hd : isData d = true) (r : Rp K F H d v fp) : TyX K H v (.type (tyD d)) ∧ ["NoneType", "bool", "int", "str", "tuple", "list"].contains (tyD d) = true := by
  cases d with
  | non => rw [Rp] at r; rw [r.1]; exact ⟨.base .non, rfl⟩
  | bl _ => rw [Rp] at r; rw [r.1]; exact ⟨.base (.bl _), rfl⟩
  | int _ => rw [Rp] at r; rw [r.1]; exact ⟨.base (.int _), rfl⟩
  | str _ => rw [Rp] at r; rw [r.1]; exact ⟨.base (.str _), rfl⟩
  | tup _ =>
    rw [Rp] at r
    obtain ⟨a, us, rfl, e, rs⟩ := r
    exact ⟨.base (.tup e), rfl⟩
  | lst _ =>
    rw [Rp] at r
    obtain ⟨a, us, f, rfl, e, _⟩ := r
    exact ⟨.base (.lst e), rfl⟩
  | ty _ => cases hd
  | scr _ => cases hd
  | gen => cases hd
  | dct _ _ _ => cases hd
  | mt _ => cases hd
  | obj _ _ _ => cases hd
  | shr _ => cases hd
theorem v_isi : VN K (rIsi K) dIsi := by
  intro B Hs H c vs dks fp Qd Q A ar h f
  unfold dIsi at h
  split at h
  · obtain ⟨h1, h2, q⟩ := h
    obtain ⟨x, y, rfl, a2⟩ := ar.pair
    obtain ⟨f1, f2, rfl, r1, r2, _⟩ := a2.one2
    obtain ⟨t1, t2⟩ := tyX_of h1 (r1.rp (isData_ng h1))
    rw [r2.ty]
    exact ⟨x, _, _, _, _, rfl, .ty _, t1, kit_ty (kit_all t2 h2), f _ H _ _ (Same.refl _) (A.flat rp_bl) q⟩
  · exact h.elim
def dIsiA : RN := fun dks Q => match dks with
  | [(d, _), (.ty n, _)] => isData d = true ∧ okTy n = true ∧ Q (.bl (isi (tyD d) n)) (.R [])
  | [(d, _), (.tup [.ty n, .ty m], _)] => isData d = true ∧ okTy n = true ∧ okTy m = true ∧ Q (.bl (isi (tyD d) n || isi (tyD d) m)) (.R [])
  | _ => False
def rIsiA (K : PySem.W.Frag) : List V → Hp → VK → Prop := fun xs H Q => rIsi K xs H Q ∨ (rIsiT K xs H Q ∨ rIsiK K xs H Q)
theorem call_isiA {X : Cx} : CallR X (.builtin "isinstance") (rIsiA X.K) := call_isi.or (call_isiT.or call_isiK)
theorem v_isiA : VN K (rIsiA K) dIsiA := by
  intro B Hs H c vs dks fp Qd Q A ar h f
  unfold dIsiA at h
  split at h
  · exact .inl (v_isi B Hs H c vs _ fp Qd Q A ar h f)
  · obtain ⟨h1, h2, h3, q⟩ := h
    obtain ⟨x, y, rfl, a2⟩ := ar.pair
    obtain ⟨f1, f2, rfl, r1, r2, _⟩ := a2.one2
    obtain ⟨t1, t2⟩ := tyX_of h1 (r1.rp (isData_ng h1))
    obtain ⟨a, us, rfl, e, rs⟩ := r2.tup
    obtain ⟨v1, vr1, g1, g2, rfl, rfl, q1, v2, vr2, g3, g4, rfl, rfl, q2, rfl, rfl⟩ := rs
    rw [Rp] at q1 q2
    obtain ⟨rfl, rfl⟩ := q1
    obtain ⟨rfl, rfl⟩ := q2
    have ka : ∀ {n m : String} {d : D}, okTy n = true → okTy m = true → ["NoneType", "bool", "int", "str", "tuple", "list"].contains (tyD d) = true → PySem.W.kitAny K (.type (tyD d)) [.type n, .type m] = some (isi (tyD d) n || isi (tyD d) m) := fun {n m d} h2 h3 t2 => by
      refine kitAny_cons (kit_ty (kit_all t2 h2)) (fun e1 => ?_) fun e1 => by rw [e1]; rfl
      rw [e1, Bool.false_or]
      exact kitAny_cons (kit_ty (kit_all t2 h3)) (fun e2 => by rw [e2]; rfl) fun e2 => e2
    exact .inr (.inl ⟨x, a, _, _, _, _, rfl, e, .cons (.ty _) (.cons (.ty _) .nil), t1, ka h2 h3 t2, f _ H _ _ (Same.refl _) (A.flat rp_bl) q⟩)
  · exact h.elim
end
end DL
namespace DL
open PySem PySem.Spec L2

/-! ### stores -/
/-- how a value may be stored, as the slots stand -/
def StK (B : Bx) (fp : List Addr) : Kd → Prop
  | .R is => fp.Nodup ∧ ∀ a ∈ fp, ¬ B.F a ∧ ¬ B.G a ∧ (B.en.H0 a = none ∨ B.en.P a) ∧ ∀ j, B.O j a → j ∈ is
  | .S => ∀ a ∈ fp, (¬ B.G a ∧ ∀ j, ¬ B.O j a) ∧ (B.en.F0 a ∨ B.en.H0 a = none ∨ B.en.P a)
  | .B => ∀ a ∈ fp, ¬ B.G a
/-- the same entry -/
structure Like (B B' : Bx) : Prop where
  G : B'.G = B.G
  en : B'.en = B.en
  held : B'.held = B.held
theorem Like.refl (B : Bx) : Like B B := ⟨rfl, rfl, rfl⟩
theorem Like.trans {B B1 B2 : Bx} (a : Like B B1) (b : Like B1 B2) : Like B B2 := ⟨b.G.trans a.G, b.en.trans a.en, b.held.trans a.held⟩
def kills : List Nat → GE → GE
  | [], Γ => Γ
  | i :: r, Γ => gset (kills r Γ) i none
def StoreOk (Γ : GE) (i : Nat) (d : D) (k : Kd) (P : GE → Prop) : Prop :=
  if noL d = true then P (gset Γ i (some ⟨.nl, d⟩)) else match k with
    | .R is => P (gset (kills is Γ) i (some ⟨.own, d⟩))
    | .S => P (gset Γ i (some ⟨.sh, d⟩))
    | .B => False
theorem StoreOk.or {Γ : GE} {i : Nat} {d : D} {k : Kd} {P : GE → Prop} (h : StoreOk Γ i d k P) :
    (noL d = true ∧ P (gset Γ i (some ⟨.nl, d⟩))) ∨ (((k = .S ∨ k = .R []) ∧ P (gset Γ i (some ⟨.sh, d⟩))) ∨ ∃ is, k = .R is ∧ P (gset (kills is Γ) i (some ⟨.own, d⟩))) := by
  unfold StoreOk at h
  split at h
  · rename_i n; exact .inl ⟨n, h⟩
  · split at h
    · exact .inr (.inr ⟨_, rfl, h⟩)
    · exact .inr (.inl ⟨.inl rfl, h⟩)
    · exact h.elim
section
variable {K : PySem.W.Frag} {B : Bx} {Γ : GE} {σ : L2.St} {Hs H H' : Hp} {c c' : Nat} {v : V} {d : D} {k : Kd} {fp : List Addr} {dks : List DK} {vs : List V} {i : Nat}
theorem Env.h0 (E : Env K B Γ c σ H) {a : Addr} (h : H a = none) : B.en.H0 a = none := by
  cases q : B.en.H0 a with
  | none => rfl
  | some o =>
    by_cases g : B.en.G0 a
    · obtain ⟨vs, e, _⟩ := E.gens.lsts a (E.gsub a g)
      rw [h] at e; cases e
    · by_cases p : B.en.P a
      · obtain ⟨o, e⟩ := E.pl a p
        rw [h] at e; cases e
      · rw [E.ext0 a o q (fun z => z.elim g p)] at h; cases h
theorem KOk.st (E : Env K B Γ c σ H) (ok : KOk B H fp k) (ng : ∀ a ∈ fp, ¬ B.G a) : StK B fp k := by
  cases k with
  | R is =>
    refine ⟨ok.1, fun a ha => ?_⟩
    rcases ok.2 a ha with h | ⟨i, hi, o⟩
    · have t1 : ∀ {o}, H a = some o → False := fun {o} e => by rw [h] at e; cases e
      exact ⟨fun z => (E.fl a z).elim fun _ e => t1 e, ng a ha, .inl (E.h0 h), fun j z => (E.ol j a z).1.elim fun _ e => (t1 e).elim⟩
    · obtain ⟨_, h2, h3, h4, h5⟩ := E.ol i a o
      exact ⟨h2, h3, h4, fun j z => by rw [h5 j z]; exact hi⟩
  | S =>
    refine fun a ha => ⟨⟨ng a ha, fun j z => ?_⟩, (ok a ha).elim (E.fn a) fun z => .inr (.inl (E.h0 z))⟩
    obtain ⟨⟨o, e⟩, h2, _⟩ := E.ol j a z
    rcases ok a ha with h | h
    · exact h2 h
    · rw [h] at e; cases e
  | B => exact ng
theorem kills_length : ∀ (is : List Nat) (Γ : GE), (kills is Γ).length = Γ.length
  | [], _ => rfl
  | i :: r, Γ => by show (gset (kills r Γ) i none).length = _; rw [gset_length, kills_length r Γ]
theorem gat_gset {j : Nat} {s : Option Sl} {t : Sl} (h : gat (gset Γ i s) j = some t) : (j = i ∧ s = some t) ∨ (j ≠ i ∧ gat Γ j = some t) := by
  by_cases e : j = i
  · subst e
    refine .inl ⟨rfl, ?_⟩
    have hl := gat_lt h
    rw [gset_length] at hl
    rw [gat_gset_same hl] at h; exact h
  · rw [gat_gset_ne e] at h; exact .inr ⟨e, h⟩
theorem gat_kills : ∀ {is : List Nat} {j : Nat} {t : Sl}, gat (kills is Γ) j = some t → j ∉ is ∧ gat Γ j = some t
  | [], _, _, h => ⟨fun z => (nomatch z), h⟩
  | i :: r, j, t, h => by
    rcases gat_gset h with ⟨_, z⟩ | ⟨z, h⟩
    · cases z
    · obtain ⟨h1, h2⟩ := gat_kills (is := r) h
      exact ⟨fun q => (List.mem_cons.mp q).elim z h1, h2⟩
theorem st_set {w : Option V} {j : Nat} (h : j ≠ i) : (σ.set i w)[j]? = σ[j]? := List.getElem?_set_ne (Ne.symm h)
theorem Env.lenS (E : Env K B Γ c σ H) : ∀ w : Option V, (σ.set i w).length = Γ.length := fun w => by rw [List.length_set]; exact E.len
theorem st_self {w : Option V} {s : Option Sl} {t : Sl} (E : Env K B Γ c σ H) (h : gat (gset Γ i s) i = some t) : (σ.set i w)[i]? = some w := by
  have hl := gat_lt h
  rw [gset_length, ← E.len] at hl
  exact List.getElem?_set_self hl
/-- more that stays -/
theorem Env.moreF (E : Env K B Γ c σ H) {F' : Addr → Prop} (h : ∀ a, F' a → (∃ o, H a = some o) ∧ ¬ B.G a ∧ ∀ j, ¬ B.O j a) (hn : ∀ a, F' a → B.en.F0 a ∨ B.en.H0 a = none ∨ B.en.P a) : Env K { B with F := fun a => B.F a ∨ F' a } Γ c σ H where
  len := E.len
  gens := E.gens
  ext0 := E.ext0
  gsub := E.gsub
  gnew := E.gnew
  fg := fun a z => z.elim (E.fg a) fun w => (h a w).2.1
  fl := fun a z => z.elim (E.fl a) fun w => (h a w).1
  fn := fun a z => z.elim (E.fn a) (hn a)
  pl := E.pl
  ol := fun i a z => by
    obtain ⟨g1, g2, g3⟩ := E.ol i a z
    exact ⟨g1, fun w => w.elim g2 fun w => (h a w).2.2 i z, g3⟩
  hl := fun p hp => ⟨(E.hl p hp).1.monoF fun _ => .inl, fun a ha => .inl ((E.hl p hp).2 a ha)⟩
  slot := fun i s e => by
    obtain ⟨v, fp, h1, h2, h3⟩ := E.slot i s e
    refine ⟨v, fp, h1, h2.monoF fun _ => .inl, ?_⟩
    obtain ⟨sk, sd⟩ := s
    cases sk with
    | nl => exact h3
    | sh => exact fun a ha => .inl (h3 a ha)
    | own => exact h3
    | byr => exact h3
/-- a store -/
theorem Env.store (E : Env K B Γ c σ H) (r : RpG K B.F B.G H d v fp) (st : StK B fp k) {P : GE → Prop} (h : StoreOk Γ i d k P) :
    ∃ B' Γ', Like B B' ∧ Env K B' Γ' c (σ.set i (some v)) H ∧ P Γ' ∧ (∀ g, StK B (fp ++ g) k → StK B' g k) ∧ (∀ a, B'.F a → B.F a ∨ a ∈ fp) ∧ ∀ a, B.F a → B'.F a := by
  have h' := h.or
  clear h
  rcases h' with ⟨nl, p⟩ | ⟨hk, p⟩ | ⟨is, hk, p⟩
  · have e0 : fp = [] := by
      rcases r with r | ⟨_, e, _⟩
      · exact r.nol nl
      · exact e
    subst e0
    refine ⟨B, _, Like.refl B, ⟨by rw [gset_length]; exact E.lenS _, E.gens, E.ext0, E.gsub, E.gnew, E.fg, E.fl, E.fn, E.pl, E.ol, E.hl, fun j s e => ?_⟩, p, fun g h => h, fun _ h => .inl h, fun _ h => h⟩
    rcases gat_gset e with ⟨rfl, q⟩ | ⟨q, e⟩
    · cases q
      exact ⟨v, [], st_self E e, r, rfl⟩
    · obtain ⟨u, f, h1, h2, h3⟩ := E.slot j s e
      exact ⟨u, f, by rw [st_set q]; exact h1, h2, h3⟩
  · have st' : ∀ a ∈ fp, (¬ B.G a ∧ ∀ j, ¬ B.O j a) ∧ (B.en.F0 a ∨ B.en.H0 a = none ∨ B.en.P a) := by
      rcases hk with rfl | rfl
      · exact st
      · exact fun a ha => ⟨⟨(st.2 a ha).2.1, fun j z => nomatch (st.2 a ha).2.2.2 j z⟩, .inr (st.2 a ha).2.2.1⟩
    have E' := E.moreF (F' := fun a => a ∈ fp) (fun a z => ⟨by obtain ⟨o, e, _⟩ := r.at a z; exact ⟨o, e⟩, (st' a z).1⟩) fun a z => (st' a z).2
    refine ⟨{ B with F := fun a => B.F a ∨ a ∈ fp }, _, ⟨rfl, rfl, rfl⟩, ⟨by rw [gset_length]; exact E.lenS _, E.gens, E.ext0, E.gsub, E.gnew, E'.fg, E'.fl, E'.fn, E.pl, E'.ol, E'.hl, fun j s e => ?_⟩, p, fun g h => ?_, fun _ h => h, fun _ h => .inl h⟩
    · rcases gat_gset e with ⟨rfl, q⟩ | ⟨q, e⟩
      · cases q
        exact ⟨v, fp, st_self E e, r.monoF fun _ => .inl, fun a ha => .inr ha⟩
      · obtain ⟨u, f, h1, h2, h3⟩ := E'.slot j s e
        exact ⟨u, f, by rw [st_set q]; exact h1, h2, h3⟩
    · rcases hk with rfl | rfl
      · exact fun a ha => h a (List.mem_append_right _ ha)
      · refine ⟨(List.nodup_append.mp h.1).2.1, fun a ha => ?_⟩
        obtain ⟨h1, h2, h3, h4⟩ := h.2 a (List.mem_append_right _ ha)
        exact ⟨fun z => z.elim h1 fun w => (List.nodup_append.mp h.1).2.2 a w a ha rfl, h2, h3, h4⟩
  · subst hk
    refine ⟨{ B with O := fun j a => (j = i ∧ a ∈ fp) ∨ (j ≠ i ∧ B.O j a ∧ a ∉ fp) }, _, ⟨rfl, rfl, rfl⟩, ⟨by rw [gset_length, kills_length]; exact E.lenS _, E.gens, E.ext0, E.gsub, E.gnew, E.fg, E.fl, E.fn, E.pl, fun j a h => ?_, E.hl, fun j s e => ?_⟩, p, fun g h => ?_, fun _ h => .inl h, fun _ h => h⟩
    · rcases h with ⟨rfl, h⟩ | ⟨hj, h, hn⟩
      · obtain ⟨vs, e, _⟩ := r.at a h
        obtain ⟨h1, h2, h3, h4⟩ := st.2 a h
        exact ⟨⟨_, e⟩, h1, h2, h3, fun m z => z.elim (fun w => w.1) fun w => absurd h w.2.2⟩
      · obtain ⟨h1, h2, h3, h4, h5⟩ := E.ol j a h
        exact ⟨h1, h2, h3, h4, fun m z => z.elim (fun w => absurd w.2 hn) fun w => h5 m w.2.1⟩
    · rcases gat_gset e with ⟨rfl, q⟩ | ⟨q, e⟩
      · cases q
        have hl := gat_lt e
        rw [gset_length, kills_length, ← E.len] at hl
        exact ⟨v, fp, List.getElem?_set_self hl, r, st.1, fun a ha => .inl ⟨rfl, ha⟩⟩
      · obtain ⟨nk, e⟩ := gat_kills e
        obtain ⟨u, f, h1, h2, h3⟩ := E.slot j s e
        refine ⟨u, f, by rw [st_set q]; exact h1, h2, ?_⟩
        obtain ⟨sk, sd⟩ := s
        cases sk with
        | nl => exact h3
        | sh => exact h3
        | own => exact ⟨h3.1, fun a ha => .inr ⟨q, h3.2 a ha, fun z => nk ((st.2 a z).2.2.2 j (h3.2 a ha))⟩⟩
        | byr => exact ⟨⟨h3.1.1, fun a ha => .inr ⟨q, h3.1.2 a ha, fun z => nk ((st.2 a z).2.2.2 j (h3.1.2 a ha))⟩⟩, h3.2⟩
    · refine ⟨(List.nodup_append.mp h.1).2.1, fun a ha => ?_⟩
      obtain ⟨h1, h2, h3, h4⟩ := h.2 a (List.mem_append_right _ ha)
      exact ⟨h1, h2, h3, fun j z => z.elim (fun w => absurd rfl ((List.nodup_append.mp h.1).2.2 a w.2 a ha)) fun w => h4 j w.2.1⟩
end

/-! ### targets -/
abbrev RG := D → Kd → GE → (GE → Prop) → Prop
abbrev RGs := List D → Kd → GE → (GE → Prop) → Prop
def StOn (B B' : Bx) (fp : List Addr) (k : Kd) : Prop := (∀ g, StK B (fp ++ g) k → StK B' g k) ∧ (∀ a, B'.F a → B.F a ∨ a ∈ fp) ∧ ∀ a, B.F a → B'.F a
/-- tg: the slots that are stored -/
def GD (K : PySem.W.Frag) (tg : List Nat) (g : TG) (rg : RG) : Prop := ∀ B Γ c σ H d v fp k Qd Q, Env K B Γ c σ H → RpG K B.F B.G H d v fp → StK B fp k → rg d k Γ Qd →
  (∀ B' Γ' σ', Like B B' → Env K B' Γ' c σ' H → Qd Γ' → StOn B B' fp k → (σ'.length = σ.length ∧ ∀ j, j ∉ tg → σ'[j]? = σ[j]?) → Q σ' H) → g v σ H Q
def GsD (K : PySem.W.Frag) (tg : List Nat) (g : TGs) (rg : RGs) : Prop := ∀ B Γ c σ H ds vs fp k Qd Q, Env K B Γ c σ H → Rps K B.F H ds vs fp → StK B fp k → rg ds k Γ Qd →
  (∀ B' Γ' σ', Like B B' → Env K B' Γ' c σ' H → Qd Γ' → StOn B B' fp k → (σ'.length = σ.length ∧ ∀ j, j ∉ tg → σ'[j]? = σ[j]?) → Q σ' H) → g vs σ H Q
def rgName (i : Nat) : RG := fun d k Γ Q => StoreOk Γ i d k Q
def rgNil : RGs := fun ds _ Γ Q => ds = [] ∧ Q Γ
def rgCons (r : RG) (s : RGs) : RGs := fun ds k Γ Q => match ds with
  | d :: ds => r d k Γ fun Γ1 => s ds k Γ1 Q
  | [] => False
def rgTup (n : Nat) (s : RGs) : RG := fun d k Γ Q => match d with
  | .tup ds => ds.length = n ∧ s ds k Γ Q
  | _ => False
section
variable {K : PySem.W.Frag} {B : Bx} {fp f g : List Addr} {k : Kd}
theorem StK.left (h : StK B (f ++ g) k) : StK B f k := by
  cases k with
  | R is => exact ⟨(List.nodup_append.mp h.1).1, fun a ha => h.2 a (List.mem_append_left _ ha)⟩
  | S => exact fun a ha => h a (List.mem_append_left _ ha)
  | B => exact fun a ha => h a (List.mem_append_left _ ha)
theorem gd_name (i : Nat) : GD K [i] (gName i) (rgName i) := by
  intro B Γ c σ H d v fp k Qd Q E r st h f
  obtain ⟨B', Γ', h1, h2, h3, h4⟩ := E.store r st h
  exact f B' Γ' _ h1 h2 h3 h4 ⟨List.length_set, fun j hj => st_set fun e => hj (by simp [e])⟩
theorem gds_nil : GsD K [] gNil rgNil := by
  intro B Γ c σ H ds vs fp k Qd Q E r st h f
  obtain ⟨rfl, h⟩ := h
  obtain ⟨rfl, rfl⟩ := r
  exact ⟨rfl, f B Γ σ (Like.refl B) E h ⟨fun _ h => h, fun _ h => .inl h, fun _ h => h⟩ ⟨rfl, fun _ _ => rfl⟩⟩
theorem gds_cons {t1 t2 : List Nat} {t : TG} {u : TGs} {r : RG} {s : RGs} (h1 : GD K t1 t r) (h2 : GsD K t2 u s) : GsD K (t1 ++ t2) (gCons t u) (rgCons r s) := by
  intro B Γ c σ H ds vs fp k Qd Q E rp st h f
  unfold rgCons at h
  split at h
  · obtain ⟨v, vr, f1, g1, rfl, rfl, r1, rs⟩ := rp
    refine ⟨v, vr, rfl, h1 B Γ c σ H _ v f1 k _ _ E (.inl r1) st.left h fun B1 Γ1 σ1 l1 E1 q1 s1 w1 => ?_⟩
    refine h2 B1 Γ1 c σ1 H _ vr g1 k _ _ E1 (rs.monoF s1.2.2) (s1.1 _ st) q1 fun B2 Γ2 σ2 l2 E2 q2 s2 w2 => ?_
    refine f B2 Γ2 σ2 (l1.trans l2) E2 q2 ⟨fun g hg => s2.1 g (s1.1 _ (by rw [List.append_assoc] at hg; exact hg)), fun a ha => (s2.2.1 a ha).elim (fun z => (s1.2.1 a z).imp id fun w => List.mem_append_left _ w) fun z => .inr (List.mem_append_right _ z), fun a ha => s2.2.2 a (s1.2.2 a ha)⟩ ⟨w2.1.trans w1.1, fun j hj => ?_⟩
    rw [w2.2 j fun z => hj (List.mem_append_right _ z), w1.2 j fun z => hj (List.mem_append_left _ z)]
  · exact h.elim
theorem gd_tup {tg : List Nat} {n : Nat} {u : TGs} {s : RGs} (h : GsD K tg u s) : GD K tg (gTup K n u) (rgTup n s) := by
  intro B Γ c σ H d v fp k Qd Q E r st q f
  unfold rgTup at q
  split at q
  · obtain ⟨a, us, rfl, e, rs⟩ := r.tup
    exact ⟨a, us, rfl, e.t, by rw [rs.length]; exact q.1, h B Γ c σ H _ us fp k _ _ E rs st q.2 f⟩
  · exact q.elim
end
end DL
namespace DL
open PySem PySem.Spec L2

/-! ### statements -/
structure EndsD where
  nx : GE → Nat → Prop
  rt : GE → D → Nat → Prop
  bk : GE → Nat → Prop := fun _ _ => False
  ct : GE → Nat → Prop := fun _ _ => False
  rs : D → Nat → Prop := fun _ _ => False
abbrev RS := EndsD → GE → Nat → Prop
abbrev Held := List (D × V × List Addr)
/-- what is wanted over data gives what is wanted over the heap -/
structure Lk (K : PySem.W.Frag) (en : En) (hd : Held) (Dd : EndsD) (D : Ends) : Prop where
  nx : ∀ B Γ c σ H, B.en = en → B.held = hd → Env K B Γ c σ H → Dd.nx Γ c → D.nx σ H
  bk : ∀ B Γ c σ H, B.en = en → B.held = hd → Env K B Γ c σ H → Dd.bk Γ c → D.bk σ H
  ct : ∀ B Γ c σ H, B.en = en → B.held = hd → Env K B Γ c σ H → Dd.ct Γ c → D.ct σ H
  rt : ∀ B Γ c σ H v d fp is, B.en = en → Env K B Γ c σ H → Rp K B.F H d v fp → StK B fp (.R is) → nsD d = true → Dd.rt (kills is Γ) d c → D.rt v H
  rs : ∀ B Γ c σ H v d fp, B.en = en → Env K B Γ c σ H → Rp K B.F H d v fp → (∀ a ∈ fp, B.en.F0 a ∨ B.en.H0 a = none ∨ B.en.P a) → nsD d = true → Dd.rs d c → D.rt v H
def SD (K : PySem.W.Frag) (t : TS) (r : RS) : Prop := ∀ en hd Dd D, Lk K en hd Dd D → ∀ B Γ c σ H, B.en = en → B.held = hd → Env K B Γ c σ H → r Dd Γ c → t D σ H
def rNext : RS := fun Dd Γ c => Dd.nx Γ c
def rSeq (r s : RS) : RS := fun Dd Γ c => r { Dd with nx := s Dd } Γ c
def rBreak : RS := fun Dd Γ c => Dd.bk Γ c
def rCont : RS := fun Dd Γ c => Dd.ct Γ c
def rDrop (re : RE) : RS := fun Dd Γ c => re Γ c fun _ _ c1 => Dd.nx Γ c1
def isR : Kd → Bool
  | .R _ => true
  | _ => false
theorem isR_of {k : Kd} (h : isR k = true) : ∃ is, k = .R is := by
  cases k with
  | R is => exact ⟨is, rfl⟩
  | S => cases h
  | B => cases h
def stK0 : Kd → Bool
  | .S => true
  | .R [] => true
  | _ => false
/-- the slots whose lists go along -/
def kR : Kd → List Nat
  | .R is => is
  | _ => []
def rRet (re : RE) : RS := fun Dd Γ c => re Γ c fun d k c1 => d ≠ .gen ∧ (noL d || (isR k && nsD d)) = true ∧ Dd.rt (kills (if noL d then [] else kR k) Γ) d c1
/-- .. a thing that may be shared -/
def rRetS (re : RE) : RS := fun Dd Γ c => re Γ c fun d k c1 => d ≠ .gen ∧ (noL d || (stK0 k && nsD d)) = true ∧ Dd.rs d c1
def rRetN : RS := fun Dd Γ c => Dd.rt Γ .non c
def rIfS (t : RT) (r s : RS) : RS := fun Dd Γ c => t Γ c fun b c1 => if b = true then r Dd Γ c1 else s Dd Γ c1
def rAsg (re : RE) (rg : RG) : RS := fun Dd Γ c => re Γ c fun d k c1 => rg d k Γ fun Γ' => Dd.nx Γ' c1
def rAug (i : Nat) (re : RE) (rd : RD2) : RS := fun Dd Γ c => rVar i Γ c fun dx kx c0 => re Γ c0 fun dy ky c1 => rd dx kx dy ky fun d k => StoreOk Γ i d k fun Γ' => Dd.nx Γ' c1
/-- a slot's lists stay as they are from here on -/
def frz (i : Nat) (Γ : GE) : GE := match gat Γ i with
  | some ⟨.own, d⟩ => gset Γ i (some ⟨.sh, d⟩)
  | _ => Γ
def rFrz (i : Nat) (r : RS) : RS := fun Dd Γ c => r Dd (frz i Γ) c
section
variable {K : PySem.W.Frag} {B B' : Bx} {Γ : GE} {σ : L2.St} {H H' : Hp} {c c' : Nat} {en : En} {hd : Held} {Dd : EndsD} {D : Ends} {t u : TS} {r s : RS} {te : TE} {re : RE}
theorem Lk.seq (L : Lk K en hd Dd D) {f : GE → Nat → Prop} {g : L2.St → Hp → Prop} (h : ∀ B Γ c σ H, B.en = en → B.held = hd → Env K B Γ c σ H → f Γ c → g σ H) : Lk K en hd { Dd with nx := f } { D with nx := g } := ⟨h, L.bk, L.ct, L.rt, L.rs⟩
theorem sd_next : SD K tNext rNext := fun _ _ _ _ L B Γ c σ H h1 h3 E q => L.nx B Γ c σ H h1 h3 E q
theorem sd_break : SD K tBreak rBreak := fun _ _ _ _ L B Γ c σ H h1 h3 E q => L.bk B Γ c σ H h1 h3 E q
theorem sd_cont : SD K tCont rCont := fun _ _ _ _ L B Γ c σ H h1 h3 E q => L.ct B Γ c σ H h1 h3 E q
theorem sd_seq (ht : SD K t r) (hu : SD K u s) : SD K (tSeq t u) (rSeq r s) := fun en hd Dd D L B Γ c σ H h1 h3 E q =>
  ht en hd _ _ (L.seq fun B Γ c σ H h1 h3 E q => hu en hd Dd D L B Γ c σ H h1 h3 E q) B Γ c σ H h1 h3 E q
theorem sd_drop (he : ED K te re) : SD K (tDrop te) (rDrop re) := fun _ _ _ _ L B Γ c σ H h1 h3 E q =>
  he B Γ c σ H _ _ E q fun v H' d k c' x q => L.nx B Γ c' σ H' h1 h3 (E.ext x.ext x.gens) q
theorem sd_ret (he : ED K te re) : SD K (tRet te) (rRet re) := by
  intro en hd Dd D L B Γ c σ H h1 h3 E q
  refine he B Γ c σ H _ _ E q fun v H' d k c' x q => ?_
  obtain ⟨ng, hk, q⟩ := q
  obtain ⟨fp, r, n, ok⟩ := x.rp
  have r' := r.rp ng
  have E' := E.ext x.ext x.gens
  cases e : noL d with
  | true =>
    have e0 := r'.nol e
    subst e0
    rw [e, if_pos rfl] at q
    exact L.rt B Γ c' σ H' v d [] [] h1 E' r' ⟨List.nodup_nil, fun _ h => nomatch h⟩ (nsD_of e) q
  | false =>
    rw [e, if_neg Bool.false_ne_true] at q
    rw [e, Bool.false_or, Bool.and_eq_true] at hk
    obtain ⟨is, rfl⟩ := isR_of hk.1
    exact L.rt B Γ c' σ H' v d fp is h1 E' r' (ok.st E n) hk.2 q
theorem sd_retS (he : ED K te re) : SD K (tRet te) (rRetS re) := by
  intro en hd Dd D L B Γ c σ H h1 h3 E q
  refine he B Γ c σ H _ _ E q fun v H' d k c' x q => ?_
  obtain ⟨ng, hk, q⟩ := q
  obtain ⟨fp, r, n, ok⟩ := x.rp
  have r' := r.rp ng
  have E' := E.ext x.ext x.gens
  cases e : noL d with
  | true =>
    have e0 := r'.nol e
    subst e0
    exact L.rs B Γ c' σ H' v d [] h1 E' r' (fun _ h => nomatch h) (nsD_of e) q
  | false =>
    rw [e, Bool.false_or, Bool.and_eq_true] at hk
    refine L.rs B Γ c' σ H' v d fp h1 E' r' (fun a ha => ?_) hk.2 q
    have key : B.F a ∨ H a = none := by
      cases k with
      | R is =>
        cases is with
        | nil => exact .inr ((ok.2 a ha).elim id fun ⟨_, z, _⟩ => nomatch z)
        | cons _ _ => cases hk.1
      | S => exact ok a ha
      | B => cases hk.1
    exact key.elim (E.fn a) fun w => .inr (.inl (E.h0 w))
theorem sd_retN : SD K tRetN rRetN := by
  intro en hd Dd D L B Γ c σ H h1 h3 E q
  exact L.rt B Γ c σ H .non .non [] [] h1 E rp_non ⟨List.nodup_nil, fun _ h => nomatch h⟩ rfl q
theorem sd_if {tc : TT} {rc : RT} (hc : TD K tc rc) (ht : SD K t r) (hu : SD K u s) : SD K (tIfS tc t u) (rIfS rc r s) := by
  intro en hd Dd D L B Γ c σ H h1 h3 E q
  refine hc B Γ c σ H _ _ E q fun b H' c' e g q => ?_
  cases b with
  | true =>
    rw [if_pos rfl] at q ⊢
    exact ht en hd Dd D L B Γ c' σ H' h1 h3 (E.ext e g) q
  | false =>
    rw [if_neg Bool.false_ne_true] at q ⊢
    exact hu en hd Dd D L B Γ c' σ H' h1 h3 (E.ext e g) q
theorem Like.to (l : Like B B') (h1 : B.en = en) (h3 : B.held = hd) : B'.en = en ∧ B'.held = hd := ⟨l.en.trans h1, l.held.trans h3⟩
theorem sd_asg {tg : List Nat} {g : TG} {rg : RG} (he : ED K te re) (hg : GD K tg g rg) : SD K (tAsg te g) (rAsg re rg) := by
  intro en hd Dd D L B Γ c σ H h1 h3 E q
  refine he B Γ c σ H _ _ E q fun v H' d k c' x q => ?_
  obtain ⟨fp, r, n, ok⟩ := x.rp
  have E' := E.ext x.ext x.gens
  exact hg B Γ c' σ H' d v fp k _ _ E' r (ok.st E n) q fun B' Γ' σ' l E2 q2 _ _ => by
    obtain ⟨w1, w3⟩ := l.to h1 h3
    exact L.nx B' Γ' c' σ' H' w1 w3 E2 q2
theorem sd_aug {i : Nat} {ti : TIp} {rd : RD2} (he : ED K te re) (hv : V2 K ti rd) : SD K (tAug i te ti) (rAug i re rd) := by
  intro en hd Dd D L B Γ c σ H h1 h3 E q
  have hx := ed_op hv (ed_var (K := K) i) he
  obtain ⟨v, hσ, h⟩ := hx B Γ c σ H (fun d k c1 => StoreOk Γ i d k fun Γ' => Dd.nx Γ' c1) (fun z H2 => D.nx (σ.set i (some z)) H2) E q fun w H' d k c' x q => by
    obtain ⟨fp, r, n, ok⟩ := x.rp
    obtain ⟨B', Γ', l, E2, q2, _, _⟩ := (E.ext x.ext x.gens).store r (ok.st E n) q
    obtain ⟨w1, w3⟩ := l.to h1 h3
    exact L.nx B' Γ' c' _ H' w1 w3 E2 q2
  exact ⟨v, hσ, h⟩
theorem Env.frz (E : Env K B Γ c σ H) (i : Nat) : ∃ B', Like B B' ∧ Env K B' (DL.frz i Γ) c σ H := by
  unfold DL.frz
  cases e : gat Γ i with
  | none => exact ⟨B, Like.refl B, E⟩
  | some s =>
    obtain ⟨k, d⟩ := s
    cases k with
    | nl => exact ⟨B, Like.refl B, E⟩
    | sh => exact ⟨B, Like.refl B, E⟩
    | byr => exact ⟨B, Like.refl B, E⟩
    | own =>
      refine ⟨{ B with F := fun a => B.F a ∨ B.O i a, O := fun j a => j ≠ i ∧ B.O j a }, ⟨rfl, rfl, rfl⟩, ⟨by rw [gset_length]; exact E.len, E.gens, E.ext0, E.gsub, E.gnew, fun a h => h.elim (E.fg a) fun z => (E.ol i a z).2.2.1, fun a h => h.elim (E.fl a) fun z => (E.ol i a z).1, fun a h => h.elim (E.fn a) fun z => .inr (E.ol i a z).2.2.2.1, E.pl, fun j a h => ?_, fun p hp => ⟨(E.hl p hp).1.monoF fun _ => .inl, fun a ha => .inl ((E.hl p hp).2 a ha)⟩, fun j s es => ?_⟩⟩
      · obtain ⟨g1, g2, g3, g4, g5⟩ := E.ol j a h.2
        exact ⟨g1, fun z => z.elim g2 fun w => h.1 (g5 i w).symm, g3, g4, fun m z => g5 m z.2⟩
      · rcases gat_gset es with ⟨rfl, q⟩ | ⟨q, es⟩
        · cases q
          obtain ⟨v, fp, h1, h2, h3⟩ := E.slot j _ e
          exact ⟨v, fp, h1, h2.monoF fun _ => .inl, fun a ha => .inr (h3.2 a ha)⟩
        · obtain ⟨v, fp, h1, h2, h3⟩ := E.slot j s es
          refine ⟨v, fp, h1, h2.monoF fun _ => .inl, ?_⟩
          obtain ⟨sk, sd⟩ := s
          cases sk with
          | nl => exact h3
          | sh => exact fun a ha => .inl (h3 a ha)
          | own => exact ⟨h3.1, fun a ha => ⟨q, h3.2 a ha⟩⟩
          | byr => exact ⟨⟨h3.1.1, fun a ha => ⟨q, h3.1.2 a ha⟩⟩, h3.2⟩
/-- ahead of a statement the lists of slot i are told to stay -/
theorem sd_frz (i : Nat) (h : SD K t r) : SD K t (rFrz i r) := by
  intro en hd Dd D L B Γ c σ H h1 h3 E q
  obtain ⟨B', l, E'⟩ := E.frz i
  obtain ⟨w1, w3⟩ := l.to h1 h3
  exact h en hd Dd D L B' _ c σ H w1 w3 E' q
end

/-! ### while -/
def rWhile (rc : RT) (rb : RS) : RS := fun Dd Γ c => ∃ I : Nat → GE → Nat → Prop, (∃ m, I m Γ c) ∧ ∀ m Γ c, I m Γ c →
  rc Γ c fun b c1 => if b = true then rb { Dd with nx := fun Γ' c' => ∃ m', m' < m ∧ I m' Γ' c', ct := fun Γ' c' => ∃ m', m' < m ∧ I m' Γ' c', bk := Dd.nx } Γ c1 else Dd.nx Γ c1
section
variable {K : PySem.W.Frag}
theorem sd_while {tc : TT} {rc : RT} {tb : TS} {rb : RS} (hc : TD K tc rc) (hb : SD K tb rb) : SD K (tWhile tc tb) (rWhile rc rb) := by
  intro en hd Dd D L B Γ c σ H h1 h3 E q
  obtain ⟨I, ⟨m0, i0⟩, turn⟩ := q
  let W : Nat → L2.St → Hp → Prop := fun m σ H => ∃ B Γ c, B.en = en ∧ B.held = hd ∧ Env K B Γ c σ H ∧ I m Γ c
  refine ⟨W, ⟨m0, B, Γ, c, h1, h3, E, i0⟩, ?_⟩
  rintro m σ H ⟨B, Γ, c, h1, h3, E, i⟩
  refine hc B Γ c σ H _ _ E (turn m Γ c i) fun b H' c' e g q => ?_
  cases b with
  | true =>
    rw [if_pos rfl] at q ⊢
    refine ⟨fun σ' H' => ∃ m', m' < m ∧ W m' σ' H', fun σ' H' h => h, ?_⟩
    refine hb en hd { Dd with nx := fun Γ' c' => ∃ m', m' < m ∧ I m' Γ' c', ct := fun Γ' c' => ∃ m', m' < m ∧ I m' Γ' c', bk := Dd.nx } { D with nx := fun σ' H' => ∃ m', m' < m ∧ W m' σ' H', ct := fun σ' H' => ∃ m', m' < m ∧ W m' σ' H', bk := D.nx } ⟨?_, ?_, ?_, L.rt, L.rs⟩ B Γ c' σ H' h1 h3 (E.ext e g) q
    · rintro B Γ c σ H w1 w3 E ⟨m', hm, i⟩
      exact ⟨m', hm, B, Γ, c, w1, w3, E, i⟩
    · exact L.nx
    · rintro B Γ c σ H w1 w3 E ⟨m', hm, i⟩
      exact ⟨m', hm, B, Γ, c, w1, w3, E, i⟩
  | false =>
    rw [if_neg Bool.false_ne_true] at q ⊢
    exact L.nx B Γ c' σ H' h1 h3 (E.ext e g) q
end

/-! ### what is walked -/
abbrev RI := GE → Nat → (List D → Bool → Bool → Nat → Prop) → Prop
structure ItOk (K : PySem.W.Frag) (F : Addr → Prop) (J : It) (ds : List D) (nl : Bool) (hs : Held) : Prop where
  go : ∀ i d H, ds[i]? = some d → (∀ p ∈ hs, Rp K F H p.1 p.2.1 p.2.2) → J.go i H ∧ ∀ x H', J.yld i H x H' → Same H H' ∧ ∃ fp, Rp K F H' d x fp ∧ (∀ a ∈ fp, ∃ p ∈ hs, a ∈ p.2.2) ∧ (nl = true → fp = [])
  stop : ∀ H, (∀ p ∈ hs, Rp K F H p.1 p.2.1 p.2.2) → J.stop ds.length H
/-- nl: the items have no lists; st: what is walked stays as it is -/
def ID (K : PySem.W.Frag) (wi : TI) (ri : RI) : Prop := ∀ B Γ c σ H Qd R, Env K B Γ c σ H → ri Γ c Qd →
  (∀ J H' ds nl st c' hs, Ext B.G H H' → GensOk B.G H' c' → (∀ p ∈ hs, Rp K B.F H' p.1 p.2.1 p.2.2 ∧ ∀ a ∈ p.2.2, ¬ B.G a ∧ (H a = none ∨ B.F a ∨ ∃ i, B.O i a) ∧ (st = true → B.F a ∨ H a = none)) → (∀ F', ItOk K F' J ds nl hs) → Qd ds nl st c' → R J H') → wi σ H R
def stK : Kd → Bool
  | .S => true
  | .R [] => true
  | _ => false
def rFor (ri : RI) (rg : RG) (rb : RS) : RS := fun Dd Γ c => ri Γ c fun ds nl st c1 => st = true ∧ ∃ I : Nat → GE → Nat → Prop, I 0 Γ c1 ∧
  (∀ i d Γ' c', ds[i]? = some d → I i Γ' c' → rg d (if nl then .R [] else .S) Γ' fun Γ2 => rb { Dd with nx := I (i + 1), ct := I (i + 1), bk := Dd.nx } Γ2 c') ∧ ∀ Γ' c', I ds.length Γ' c' → Dd.nx Γ' c'
section
variable {K : PySem.W.Frag} {B : Bx} {Γ : GE} {σ : L2.St} {H H' : Hp} {c c' : Nat}
theorem Env.hold (E : Env K B Γ c σ H) {hs : Held} (h : ∀ p ∈ hs, Rp K B.F H p.1 p.2.1 p.2.2 ∧ ∀ a ∈ p.2.2, ¬ B.G a ∧ ∀ j, ¬ B.O j a) (hn : ∀ p ∈ hs, ∀ a ∈ p.2.2, B.en.F0 a ∨ B.en.H0 a = none ∨ B.en.P a) : Env K { B with F := fun a => B.F a ∨ ∃ p ∈ hs, a ∈ p.2.2, held := hs ++ B.held } Γ c σ H := by
  have E' := E.moreF (F' := fun a => ∃ p ∈ hs, a ∈ p.2.2) (fun a ⟨p, hp, ha⟩ => ⟨by obtain ⟨o, e, _⟩ := (h p hp).1.at a ha; exact ⟨o, e⟩, (h p hp).2 a ha⟩)
    fun a ⟨p, hp, ha⟩ => hn p hp a ha
  exact ⟨E.len, E.gens, E.ext0, E.gsub, E.gnew, E'.fg, E'.fl, E'.fn, E.pl, E'.ol, fun p hp => (List.mem_append.mp hp).elim (fun hp => ⟨(h p hp).1.monoF fun _ => .inl, fun a ha => .inr ⟨p, hp, ha⟩⟩) fun hp => E'.hl p hp, E'.slot⟩
theorem Env.unhold {hs hd : Held} (E : Env K B Γ c σ H) (e : B.held = hs ++ hd) : Env K { B with held := hd } Γ c σ H := ⟨E.len, E.gens, E.ext0, E.gsub, E.gnew, E.fg, E.fl, E.fn, E.pl, E.ol, fun p hp => E.hl p (by rw [e]; exact List.mem_append_right _ hp), E.slot⟩
theorem sd_for {tg : List Nat} {wi : TI} {ri : RI} {g : TG} {rg : RG} {tb : TS} {rb : RS} (hi : ID K wi ri) (hg : GD K tg g rg) (hb : SD K tb rb) : SD K (tFor wi g tb) (rFor ri rg rb) := by
  intro en hd Dd D L B Γ c σ H h1 h3 E q
  refine hi B Γ c σ H _ _ E q fun J H1 ds nl st c1 hs e1 g1 hh it q => ?_
  obtain ⟨rfl, I, i0, turn, done⟩ := q
  have E1 := E.ext e1 g1
  have E2 := E1.hold (hs := hs) (fun p hp => ⟨(hh p hp).1, fun a ha => ⟨((hh p hp).2 a ha).1, fun j z => by
    rcases ((hh p hp).2 a ha).2.2 rfl with w | w
    · exact (E.ol j a z).2.1 w
    · obtain ⟨⟨o, e⟩, _⟩ := E.ol j a z
      rw [w] at e; cases e⟩⟩) fun p hp a ha => (((hh p hp).2 a ha).2.2 rfl).elim (E.fn a) fun w => .inr (.inl (E.h0 w))
  let W : Nat → L2.St → Hp → Prop := fun i σ H => ∃ (B2 : Bx) (Γ : GE) (c : Nat), B2.en = en ∧ B2.held = hs ++ hd ∧ Env K B2 Γ c σ H ∧ I i Γ c
  refine ⟨fun i m σ H => m = ds.length - i ∧ i ≤ ds.length ∧ W i σ H, ⟨_, rfl, Nat.zero_le _, { B with F := fun a => B.F a ∨ ∃ p ∈ hs, a ∈ p.2.2, held := hs ++ B.held }, Γ, c1, h1, by rw [← h3], E2, i0⟩, ?_⟩
  rintro i m σ H ⟨rfl, hi, B, Γ, c, w1, w3, E, iv⟩
  have it := it B.F
  have hld : ∀ p ∈ hs, Rp K B.F H p.1 p.2.1 p.2.2 ∧ ∀ a ∈ p.2.2, B.F a := fun p hp => E.hl p (by rw [w3]; exact List.mem_append_left _ hp)
  have back : ∀ {f : GE → Nat → Prop} {P : L2.St → Hp → Prop}, (∀ B Γ c σ H, B.en = en → B.held = hd → Env K B Γ c σ H → f Γ c → P σ H) → ∀ B Γ c σ H, B.en = en → B.held = hs ++ hd → Env K B Γ c σ H → f Γ c → P σ H :=
    fun h B Γ c σ H w1 w3 E q => h { B with held := hd } Γ c σ H w1 rfl (E.unhold w3) q
  by_cases hlt : i < ds.length
  · obtain ⟨go, step⟩ := it.go i ds[i] H (List.getElem?_eq_getElem hlt) fun p hp => (hld p hp).1
    refine .inr ⟨go, fun σ' H' => W (i + 1) σ' H', fun σ' H' h => ⟨_, by omega, rfl, hlt, h⟩, fun x H' y => ?_⟩
    obtain ⟨sm, fp, rp, fh, fn⟩ := step x H' y
    have E' := E.ext (Ext.same sm) (E.gens.same sm)
    refine hg B Γ c σ H' ds[i] x fp (if nl then .R [] else .S) _ _ E' (.inl rp) ?_ (turn i _ Γ c (List.getElem?_eq_getElem hlt) iv) fun B' Γ' σ' l E2 q2 so _ => ?_
    · cases nl with
      | true =>
        rw [if_pos rfl, fn rfl]
        exact ⟨List.nodup_nil, fun _ h => nomatch h⟩
      | false =>
        rw [if_neg Bool.false_ne_true]
        intro a ha
        obtain ⟨p, hp, hm⟩ := fh a ha
        have fa := (hld p hp).2 a hm
        exact ⟨⟨E.fg a fa, fun j z => (E.ol j a z).2.1 fa⟩, E.fn a fa⟩
    · obtain ⟨u1, u3⟩ := l.to w1 w3
      refine hb en (hs ++ hd) { Dd with nx := I (i + 1), ct := I (i + 1), bk := Dd.nx } { D with nx := fun σ' H' => W (i + 1) σ' H', ct := fun σ' H' => W (i + 1) σ' H', bk := D.nx } ⟨?_, back L.nx, ?_, L.rt, L.rs⟩ B' Γ' c σ' H' u1 u3 E2 q2
      · intro B2 Γ2 c2 σ2 H2 x1 x3 E3 q3
        exact ⟨B2, Γ2, c2, x1, x3, E3, q3⟩
      · intro B2 Γ2 c2 σ2 H2 x1 x3 E3 q3
        exact ⟨B2, Γ2, c2, x1, x3, E3, q3⟩
  · have e : i = ds.length := by omega
    subst e
    exact .inl ⟨it.stop H fun p hp => (hld p hp).1, back L.nx B Γ c σ H w1 w3 E (done Γ c iv)⟩
end
end DL
namespace WK
open PySem PySem.Spec PyProof.Rows L2

/-! ### zip of two, of three, enumerate: lists and tuples in any mix -/
def SqA (K : PySem.W.Frag) (t : Bool) (H : Hp) (a : Addr) (xs : List V) : Prop := if t = true then SqT K H a xs else SqL K H a xs
def ItA (h : Heap) (t : Bool) (i a : Addr) (k : Nat) : Prop := if t = true then h.IsTupleIter i a k else h.IsListIter i a k
def CoA (h : Heap) (t : Bool) (a : Addr) (its : Array Value) : Prop := if t = true then h.IsTuple a its else h.IsList a its
def obA (t : Bool) (a : Addr) : Obj := if t = true then { cls := .type "tuple_iterator", data := .fields #[.ref a, .int 0 0] } else { cls := .type "list_iterator", data := .fields #[.ref a, .int 0 0] }
section
variable {X : Cx} {pins : List (Addr × Obj)} {σ : L2.St} {H : Hp} {s : Shared} {t : Bool} {a : Addr} {xs ys : List V}
theorem sqA (I : Inv X pins σ H s) (h : SqA X.K t H a xs) : ∃ its : List Value, Vals xs its ∧ CoA s.heap t a its.toArray ∧ a < s.heap.objs.size := by
  cases t with
  | true =>
    obtain ⟨its, r, p, _⟩ := I.tuple h
    obtain ⟨o, e, _⟩ := id p
    exact ⟨its, r, p, Heap.lt_size e⟩
  | false =>
    obtain ⟨its, r, p, _⟩ := I.list h
    exact ⟨its, r, p.isList, p.lt⟩
theorem sqA_inj (I : Inv X pins σ H s) (h : SqA X.K t H a xs) (h' : SqA X.K t H a ys) : xs = ys := by
  cases t with
  | true => exact I.tuple_inj h h'
  | false => exact I.list_inj h h'
theorem drawsA {prog : Program} {w : World} {A : Around} (hh : A.handled = none) (t : Bool) (it a : Addr) (hne : a ≠ it) (items : Array Value) :
    Draws prog w A it [it, a] items.size (fun i v => items[i]? = some v) (fun i h => ItA h t it a i ∧ CoA h t a items) := by
  cases t with
  | true => exact Draws.tuple hh it a hne items
  | false => exact Draws.list hh it a hne items
theorem beginsA (t : Bool) (a : Addr) (items : Array Value) : Begins (.ref a) (obA t a) fun h => CoA h t a items := by
  cases t with
  | true => exact begins_tuple a items
  | false => exact begins_list a items
theorem itA_at {h h' : Heap} {i a : Addr} {k : Nat} (x : ItA h t i a k) (e : ∀ o, h.get? i = some o → h'.get? i = some o) : ItA h' t i a k := by
  cases t with
  | true => obtain ⟨o, ho, r⟩ := x; exact ⟨o, e o ho, r⟩
  | false => obtain ⟨o, ho, r⟩ := x; exact ⟨o, e o ho, r⟩
theorem itA_new {h : Heap} {i a : Addr} (e : h.get? i = some (obA t a)) : ItA h t i a 0 := by
  cases t with
  | true => exact ⟨_, e, rfl, rfl⟩
  | false => exact ⟨_, e, rfl, rfl⟩
theorem itA_ob {h : Heap} {i a : Addr} {k : Nat} (x : ItA h t i a k) : ∃ o, h.get? i = some o ∧ ∀ v, o.data ≠ .cell v := by
  cases t with
  | true => obtain ⟨o, ho, _, d⟩ := x; exact ⟨o, ho, fun v q => by rw [d] at q; cases q⟩
  | false => obtain ⟨o, ho, _, d⟩ := x; exact ⟨o, ho, fun v q => by rw [d] at q; cases q⟩
end
def Itz2 (K : PySem.W.Frag) (t1 t2 : Bool) (a b : Addr) : It :=
  ⟨fun i H => ∃ (xs ys : List V) (x y : V), SqA K t1 H a xs ∧ SqA K t2 H b ys ∧ xs[i]? = some x ∧ ys[i]? = some y,
    fun i H v H' => ∃ T x y, v = .ref T ∧ H T = none ∧ H' = upd H T (.tup [x, y]) ∧ (∀ xs, SqA K t1 H a xs → xs[i]? = some x) ∧ ∀ ys, SqA K t2 H b ys → ys[i]? = some y,
    fun i H => ∃ xs ys : List V, SqA K t1 H a xs ∧ SqA K t2 H b ys ∧ i = min xs.length ys.length⟩
theorem turn_zip2 {P : Program} {w : World} {K : PySem.W.Frag} {elts : List Expr} {kk : Nat} {tpos : Pos} {t1 t2 : Bool} {a b : Addr} {N : Nat} (la : a < N) (lb : b < N) :
    Turn P w K (.Tuple elts kk tpos) (Itz2 K t1 t2 a b) [N + 4, N + 2, N + 3, N, N + 1] (N + 4) (fun i h => IsZip h (N + 4) (N + 2) (N + 3) .none ∧ IsTupOf2 h (N + 2) (.ref N) (.ref (N + 1)) ∧ (∃ x y, IsTupOf2 h (N + 3) x y) ∧ ItA h t1 N a i ∧ ItA h t2 (N + 1) b i) where
  mem := by simp
  obj := fun i h st c hc => by
    obtain ⟨hz, hTI, ⟨x, y, hTO⟩, h1, h2⟩ := st
    have e' : c = N + 4 ∨ c = N + 2 ∨ c = N + 3 ∨ c = N ∨ c = N + 1 := by simpa using hc
    rcases e' with q | q | q | q | q
    · rw [q]; exact ⟨_, hz, fun v q => nomatch q⟩
    · rw [q]; exact ⟨_, hTI, fun v q => nomatch q⟩
    · rw [q]; exact ⟨_, hTO, fun v q => nomatch q⟩
    · rw [q]; exact itA_ob h1
    · rw [q]; exact itA_ob h2
  keep := fun i h h' st k => by
    obtain ⟨hz, hTI, ⟨x, y, hTO⟩, h1, h2⟩ := st
    exact ⟨k _ (by simp) _ hz, k _ (by simp) _ hTI, ⟨x, y, k _ (by simp) _ hTO⟩, itA_at h1 fun o q => k _ (by simp) o q, itA_at h2 fun o q => k _ (by simp) o q⟩
  item := by
    intro X hP hw hK hc i pins s σ H E I hf st hg
    subst hP hw hK
    obtain ⟨hz, hTI, hTO, h1, h2⟩ := st
    obtain ⟨xs, ys, x, y, hqx, hqy, hx, hy⟩ := hg
    obtain ⟨its, rv, p, _⟩ := sqA I hqx
    obtain ⟨its2, rv2, p2, _⟩ := sqA I hqy
    obtain ⟨u, hu, ru⟩ := rv.get hx
    obtain ⟨u2, hu2, ru2⟩ := rv2.get hy
    have hh : X.A.in1.handled = none := I.ok.hd hc
    have na : a ≠ N := Nat.ne_of_lt la
    have nb : b ≠ N + 1 := Nat.ne_of_lt (Nat.lt_succ_of_lt lb)
    have W := GoesN.zip2 (elts := elts) (x1 := kk) (pos := tpos) (zip_sep2 (N := N) (fp1 := [a]) (fp2 := [b]) (fun c hc => by rw [List.mem_singleton.mp hc]; exact la) (fun c hc => by rw [List.mem_singleton.mp hc]; exact lb)) (drawsA (prog := X.prog) (w := X.w) hh t1 N a na its.toArray) (drawsA (prog := X.prog) (w := X.w) hh t2 (N + 1) b nb its2.toArray)
    have l1 : i < its.toArray.size := by
      have := (List.getElem?_eq_some_iff.mp hu).1
      simpa using this
    have l2 : i < its2.toArray.size := by
      have := (List.getElem?_eq_some_iff.mp hu2).1
      simpa using this
    refine W.goes i s (fun u s2 => ∃ x H', Inv X pins σ H' s2 ∧ RelV x u ∧ (Itz2 X.K t1 t2 a b).yld i H x H' ∧ _ ∧ ∀ b ∈ [N + 4, N + 2, N + 3, N, N + 1], H' b = none) E (by omega) ⟨hz, hTI, hTO, ⟨h1, p⟩, h2, p2⟩ fun v h' tk Y st' hk htk => ?_
    obtain ⟨T, x', y', rfl, hT0, ex, ey, hT⟩ := Y
    have ex' : x' = u := by
      have : its.toArray[i]? = some u := by simpa using hu
      rw [this] at ex; exact (Option.some.inj ex).symm
    have ey' : y' = u2 := by
      have : its2.toArray[i]? = some u2 := by simpa using hu2
      rw [this] at ey; exact (Option.some.inj ey).symm
    subst ex' ey'
    obtain ⟨hz', hTI', hTO', ⟨h1', _⟩, h2', _⟩ := st'
    have new : ObjOk X.prog X.w (upd H T (.tup [x, y])) h' T (.tup [x, y]) := ⟨by show 2 ≤ sizeLine; decide, [_, _], .cons ru (.cons ru2 .nil), hT⟩
    have hf' : ∀ c ∈ [N + 4, N + 3, N, N + 1], FpOk X pins H c := fun c hcm => hf c (by
      have e' : c = N + 4 ∨ c = N + 3 ∨ c = N ∨ c = N + 1 := by simpa using hcm
      rcases e' with q | q | q | q <;> rw [q] <;> simp)
    have I1 : Inv X pins σ (upd H T (.tup [x, y])) { s with heap := h', toks := tk } :=
      I.turnedNew (t' := tk) (ch := [N + 4, N + 3, N, N + 1]) (fun c o hb q => hk c o hb q) hf' hT0 new
    refine ⟨.ref T, _, I1, rfl, ⟨T, x, y, rfl, I.hok.fresh hT0, rfl, fun l hl => by rw [sqA_inj I hl hqx]; exact hx, fun l hl => by rw [sqA_inj I hl hqy]; exact hy⟩, ⟨hz', hTI', hTO', h1', h2'⟩, fun c hcm => ?_⟩
    have hlt : c < s.heap.objs.size := by
      have e' : c = N + 4 ∨ c = N + 2 ∨ c = N + 3 ∨ c = N ∨ c = N + 1 := by simpa using hcm
      rcases e' with q | q | q | q | q
      · rw [q]; exact Heap.lt_size hz
      · rw [q]; exact Heap.lt_size hTI
      · rw [q]; obtain ⟨_, _, z⟩ := hTO; exact Heap.lt_size z
      · rw [q]; obtain ⟨_, e1, _⟩ := itA_ob h1; exact Heap.lt_size e1
      · rw [q]; obtain ⟨_, e1, _⟩ := itA_ob h2; exact Heap.lt_size e1
    rw [upd_ne (Nat.ne_of_lt (Nat.lt_of_lt_of_le hlt hT0))]
    exact (hf c hcm).1
  done := by
    intro X hP hw hK hc i pins s σ H E I hf st hg
    subst hP hw hK
    obtain ⟨hz, hTI, hTO, h1, h2⟩ := st
    obtain ⟨xs, ys, hqx, hqy, hend⟩ := hg
    obtain ⟨its, rv, p, _⟩ := sqA I hqx
    obtain ⟨its2, rv2, p2, _⟩ := sqA I hqy
    have l1 := rv.length
    have l2 := rv2.length
    have hh : X.A.in1.handled = none := I.ok.hd hc
    have na : a ≠ N := Nat.ne_of_lt la
    have nb : b ≠ N + 1 := Nat.ne_of_lt (Nat.lt_succ_of_lt lb)
    have W := GoesN.zip2 (elts := elts) (x1 := kk) (pos := tpos) (zip_sep2 (N := N) (fp1 := [a]) (fp2 := [b]) (fun c hc => by rw [List.mem_singleton.mp hc]; exact la) (fun c hc => by rw [List.mem_singleton.mp hc]; exact lb)) (drawsA (prog := X.prog) (w := X.w) hh t1 N a na its.toArray) (drawsA (prog := X.prog) (w := X.w) hh t2 (N + 1) b nb its2.toArray)
    have ei : i = min its.toArray.size its2.toArray.size := by
      have q1 : its.toArray.size = its.length := by simp
      have q2 : its2.toArray.size = its2.length := by simp
      rw [q1, q2]; omega
    subst ei
    refine W.stops s _ E ⟨hz, hTI, hTO, ⟨h1, p⟩, h2, p2⟩ fun h' tk hk htk => I.turnedL (t' := tk) (ch := [N + 4, N + 3, N, N + 1]) (fun c o hb q => hk c o hb q) fun c hcm => hf c (by
      have e' : c = N + 4 ∨ c = N + 3 ∨ c = N ∨ c = N + 1 := by simpa using hcm
      rcases e' with q | q | q | q <;> rw [q] <;> simp)
  self := fun A i s Q E st h => wpAny_pyIter_zip st.1 h
def iZip2 (K : PySem.W.Frag) (ta : TA) : TI := fun σ H R => ta σ H fun vs H1 => ∃ t1 t2 a b xs ys, vs = [.ref a, .ref b] ∧ SqA K t1 H1 a xs ∧ SqA K t2 H1 b ys ∧ R (Itz2 K t1 t2 a b) H1
theorem pi_zip2 {X : Cx} {e e2 : Expr} {ta : TA} {p pos tpos : Pos} {elts : List Expr} {kk : Nat} (hg : Gl X "zip") (hm : X.mg "zip" = none) (ha : PA X [e, e2] ta)
    (hs : starEach [e, e2] X.env = (false, eval e X.env) :: starEach [e2] X.env := by rfl) (hpl : (backTo pos (starEach [e2] X.env)).any (·.1) = false := by rfl) :
    PI X (.Tuple elts kk tpos) (.Call (.Name "zip" p) [e, e2] [] pos) (iZip2 X.K ta) := by
  refine ⟨fun pins s σ H R I h => ?_⟩
  refine Call_ (ld_blt I hg hm PyProof.Rows.boot_zip (PyProof.Rows.callWith_type1 (thn (ha.run pos pins s σ H _ I h) fun us s1 ⟨vs, H1, I1, r1, q1⟩ => ?_) hs hpl))
  obtain ⟨t1, t2, a, b, xs, ys, ex, hqx, hqy, q⟩ := q1
  subst ex
  cases r1 with
  | cons r rr =>
    cases rr with
    | cons r' rr =>
      cases rr
      cases r
      cases r'
      obtain ⟨its, rv, p1, la⟩ := sqA I1 hqx
      obtain ⟨its2, rv2, p2, lb⟩ := sqA I1 hqy
      refine zip_begins2 (beginsA t1 a its.toArray) (beginsA t2 b its2.toArray) p1 p2 fun h' hz hTI hTO h1 h2 hsz hk => wpAny_pyIter_zip hz ?_
      have I2 : Inv X pins σ H1 { s1 with heap := h' } := I1.kept (t' := s1.toks) hk
      refine ⟨s1.heap.objs.size + 4, [s1.heap.objs.size + 4, s1.heap.objs.size + 2, s1.heap.objs.size + 3, s1.heap.objs.size, s1.heap.objs.size + 1], _, _, H1, rfl, I2, turn_zip2 la lb, ⟨hz, hTI, ⟨_, _, hTO⟩, itA_new h1, itA_new h2⟩, fun c hcm => ?_, q⟩
      have hle : s1.heap.objs.size ≤ c := by
        have e' : c = s1.heap.objs.size + 4 ∨ c = s1.heap.objs.size + 2 ∨ c = s1.heap.objs.size + 3 ∨ c = s1.heap.objs.size ∨ c = s1.heap.objs.size + 1 := by simpa using hcm
        rcases e' with z | z | z | z | z
        · rw [z]; exact Nat.le_add_right _ _
        · rw [z]; exact Nat.le_add_right _ _
        · rw [z]; exact Nat.le_add_right _ _
        · rw [z]; exact Nat.le_refl _
        · rw [z]; exact Nat.le_add_right _ _
      exact I1.fpOk hle (I1.hok.fresh hle)
/-! three -/
def Itz3 (K : PySem.W.Frag) (t1 t2 t3 : Bool) (a b d : Addr) : It :=
  ⟨fun i H => ∃ (xs ys zs : List V) (x y z : V), SqA K t1 H a xs ∧ SqA K t2 H b ys ∧ SqA K t3 H d zs ∧ xs[i]? = some x ∧ ys[i]? = some y ∧ zs[i]? = some z,
    fun i H v H' => ∃ T x y z, v = .ref T ∧ H T = none ∧ H' = upd H T (.tup [x, y, z]) ∧ (∀ xs, SqA K t1 H a xs → xs[i]? = some x) ∧ (∀ ys, SqA K t2 H b ys → ys[i]? = some y) ∧ ∀ zs, SqA K t3 H d zs → zs[i]? = some z,
    fun i H => ∃ xs ys zs : List V, SqA K t1 H a xs ∧ SqA K t2 H b ys ∧ SqA K t3 H d zs ∧ i = min (min xs.length ys.length) zs.length⟩
theorem turn_zip3 {P : Program} {w : World} {K : PySem.W.Frag} {elts : List Expr} {kk : Nat} {tpos : Pos} {t1 t2 t3 : Bool} {a b d : Addr} {N : Nat} (la : a < N) (lb : b < N) (ld : d < N) :
    Turn P w K (.Tuple elts kk tpos) (Itz3 K t1 t2 t3 a b d) [N + 5, N + 3, N + 4, N, N + 1, N + 2] (N + 5) (fun i h => IsZip h (N + 5) (N + 3) (N + 4) .none ∧ IsTupOf3 h (N + 3) (.ref N) (.ref (N + 1)) (.ref (N + 2)) ∧ (∃ x y z, IsTupOf3 h (N + 4) x y z) ∧ ItA h t1 N a i ∧ ItA h t2 (N + 1) b i ∧ ItA h t3 (N + 2) d i) where
  mem := by simp
  obj := fun i h st c hc => by
    obtain ⟨hz, hTI, ⟨x, y, z, hTO⟩, h1, h2, h3⟩ := st
    have e' : c = N + 5 ∨ c = N + 3 ∨ c = N + 4 ∨ c = N ∨ c = N + 1 ∨ c = N + 2 := by simpa using hc
    rcases e' with q | q | q | q | q | q
    · rw [q]; exact ⟨_, hz, fun v q => nomatch q⟩
    · rw [q]; exact ⟨_, hTI, fun v q => nomatch q⟩
    · rw [q]; exact ⟨_, hTO, fun v q => nomatch q⟩
    · rw [q]; exact itA_ob h1
    · rw [q]; exact itA_ob h2
    · rw [q]; exact itA_ob h3
  keep := fun i h h' st k => by
    obtain ⟨hz, hTI, ⟨x, y, z, hTO⟩, h1, h2, h3⟩ := st
    exact ⟨k _ (by simp) _ hz, k _ (by simp) _ hTI, ⟨x, y, z, k _ (by simp) _ hTO⟩, itA_at h1 fun o q => k _ (by simp) o q, itA_at h2 fun o q => k _ (by simp) o q, itA_at h3 fun o q => k _ (by simp) o q⟩
  item := by
    intro X hP hw hK hc i pins s σ H E I hf st hg
    subst hP hw hK
    obtain ⟨hz, hTI, hTO, h1, h2, h3⟩ := st
    obtain ⟨xs, ys, zs, x, y, z, hqx, hqy, hqz, hx, hy, hzz⟩ := hg
    obtain ⟨its, rv, p, _⟩ := sqA I hqx
    obtain ⟨its2, rv2, p2, _⟩ := sqA I hqy
    obtain ⟨its3, rv3, p3, _⟩ := sqA I hqz
    obtain ⟨u, hu, ru⟩ := rv.get hx
    obtain ⟨u2, hu2, ru2⟩ := rv2.get hy
    obtain ⟨u3, hu3, ru3⟩ := rv3.get hzz
    have hh : X.A.in1.handled = none := I.ok.hd hc
    have na : a ≠ N := Nat.ne_of_lt la
    have nb : b ≠ N + 1 := Nat.ne_of_lt (Nat.lt_succ_of_lt lb)
    have nd : d ≠ N + 2 := Nat.ne_of_lt (Nat.lt_succ_of_lt (Nat.lt_succ_of_lt ld))
    have W := GoesN.zip3 (elts := elts) (x1 := kk) (pos := tpos) (zip_sep3 (N := N) (fp1 := [a]) (fp2 := [b]) (fp3 := [d]) (fun c hc => by rw [List.mem_singleton.mp hc]; exact la) (fun c hc => by rw [List.mem_singleton.mp hc]; exact lb) (fun c hc => by rw [List.mem_singleton.mp hc]; exact ld)) (drawsA (prog := X.prog) (w := X.w) hh t1 N a na its.toArray) (drawsA (prog := X.prog) (w := X.w) hh t2 (N + 1) b nb its2.toArray) (drawsA (prog := X.prog) (w := X.w) hh t3 (N + 2) d nd its3.toArray)
    have l1 : i < its.toArray.size := by
      have := (List.getElem?_eq_some_iff.mp hu).1
      simpa using this
    have l2 : i < its2.toArray.size := by
      have := (List.getElem?_eq_some_iff.mp hu2).1
      simpa using this
    have l3 : i < its3.toArray.size := by
      have := (List.getElem?_eq_some_iff.mp hu3).1
      simpa using this
    refine W.goes i s (fun u s2 => ∃ x H', Inv X pins σ H' s2 ∧ RelV x u ∧ (Itz3 X.K t1 t2 t3 a b d).yld i H x H' ∧ _ ∧ ∀ b ∈ [N + 5, N + 3, N + 4, N, N + 1, N + 2], H' b = none) E (by omega) ⟨hz, hTI, hTO, ⟨h1, p⟩, ⟨h2, p2⟩, h3, p3⟩ fun v h' tk Y st' hk htk => ?_
    obtain ⟨T, x', y', z', rfl, hT0, ex, ey, ez, hT⟩ := Y
    have ex' : x' = u := by
      have : its.toArray[i]? = some u := by simpa using hu
      rw [this] at ex; exact (Option.some.inj ex).symm
    have ey' : y' = u2 := by
      have : its2.toArray[i]? = some u2 := by simpa using hu2
      rw [this] at ey; exact (Option.some.inj ey).symm
    have ez' : z' = u3 := by
      have : its3.toArray[i]? = some u3 := by simpa using hu3
      rw [this] at ez; exact (Option.some.inj ez).symm
    subst ex' ey' ez'
    obtain ⟨hz', hTI', hTO', ⟨h1', _⟩, ⟨h2', _⟩, h3', _⟩ := st'
    have new : ObjOk X.prog X.w (upd H T (.tup [x, y, z])) h' T (.tup [x, y, z]) := ⟨by show 3 ≤ sizeLine; decide, [_, _, _], .cons ru (.cons ru2 (.cons ru3 .nil)), hT⟩
    have hf' : ∀ c ∈ [N + 5, N + 4, N, N + 1, N + 2], FpOk X pins H c := fun c hcm => hf c (by
      have e' : c = N + 5 ∨ c = N + 4 ∨ c = N ∨ c = N + 1 ∨ c = N + 2 := by simpa using hcm
      rcases e' with q | q | q | q | q <;> rw [q] <;> simp)
    have I1 : Inv X pins σ (upd H T (.tup [x, y, z])) { s with heap := h', toks := tk } :=
      I.turnedNew (t' := tk) (ch := [N + 5, N + 4, N, N + 1, N + 2]) (fun c o hb q => hk c o hb q) hf' hT0 new
    refine ⟨.ref T, _, I1, rfl, ⟨T, x, y, z, rfl, I.hok.fresh hT0, rfl, fun l hl => by rw [sqA_inj I hl hqx]; exact hx, fun l hl => by rw [sqA_inj I hl hqy]; exact hy, fun l hl => by rw [sqA_inj I hl hqz]; exact hzz⟩, ⟨hz', hTI', hTO', h1', h2', h3'⟩, fun c hcm => ?_⟩
    have hlt : c < s.heap.objs.size := by
      have e' : c = N + 5 ∨ c = N + 3 ∨ c = N + 4 ∨ c = N ∨ c = N + 1 ∨ c = N + 2 := by simpa using hcm
      rcases e' with q | q | q | q | q | q
      · rw [q]; exact Heap.lt_size hz
      · rw [q]; exact Heap.lt_size hTI
      · rw [q]; obtain ⟨_, _, _, z⟩ := hTO; exact Heap.lt_size z
      · rw [q]; obtain ⟨_, e1, _⟩ := itA_ob h1; exact Heap.lt_size e1
      · rw [q]; obtain ⟨_, e1, _⟩ := itA_ob h2; exact Heap.lt_size e1
      · rw [q]; obtain ⟨_, e1, _⟩ := itA_ob h3; exact Heap.lt_size e1
    rw [upd_ne (Nat.ne_of_lt (Nat.lt_of_lt_of_le hlt hT0))]
    exact (hf c hcm).1
  done := by
    intro X hP hw hK hc i pins s σ H E I hf st hg
    subst hP hw hK
    obtain ⟨hz, hTI, hTO, h1, h2, h3⟩ := st
    obtain ⟨xs, ys, zs, hqx, hqy, hqz, hend⟩ := hg
    obtain ⟨its, rv, p, _⟩ := sqA I hqx
    obtain ⟨its2, rv2, p2, _⟩ := sqA I hqy
    obtain ⟨its3, rv3, p3, _⟩ := sqA I hqz
    have l1 := rv.length
    have l2 := rv2.length
    have l3 := rv3.length
    have hh : X.A.in1.handled = none := I.ok.hd hc
    have na : a ≠ N := Nat.ne_of_lt la
    have nb : b ≠ N + 1 := Nat.ne_of_lt (Nat.lt_succ_of_lt lb)
    have nd : d ≠ N + 2 := Nat.ne_of_lt (Nat.lt_succ_of_lt (Nat.lt_succ_of_lt ld))
    have W := GoesN.zip3 (elts := elts) (x1 := kk) (pos := tpos) (zip_sep3 (N := N) (fp1 := [a]) (fp2 := [b]) (fp3 := [d]) (fun c hc => by rw [List.mem_singleton.mp hc]; exact la) (fun c hc => by rw [List.mem_singleton.mp hc]; exact lb) (fun c hc => by rw [List.mem_singleton.mp hc]; exact ld)) (drawsA (prog := X.prog) (w := X.w) hh t1 N a na its.toArray) (drawsA (prog := X.prog) (w := X.w) hh t2 (N + 1) b nb its2.toArray) (drawsA (prog := X.prog) (w := X.w) hh t3 (N + 2) d nd its3.toArray)
    have ei : i = min (min its.toArray.size its2.toArray.size) its3.toArray.size := by
      have q1 : its.toArray.size = its.length := by simp
      have q2 : its2.toArray.size = its2.length := by simp
      have q3 : its3.toArray.size = its3.length := by simp
      rw [q1, q2, q3]; omega
    subst ei
    refine W.stops s _ E ⟨hz, hTI, hTO, ⟨h1, p⟩, ⟨h2, p2⟩, h3, p3⟩ fun h' tk hk htk => I.turnedL (t' := tk) (ch := [N + 5, N + 4, N, N + 1, N + 2]) (fun c o hb q => hk c o hb q) fun c hcm => hf c (by
      have e' : c = N + 5 ∨ c = N + 4 ∨ c = N ∨ c = N + 1 ∨ c = N + 2 := by simpa using hcm
      rcases e' with q | q | q | q | q <;> rw [q] <;> simp)
  self := fun A i s Q E st h => wpAny_pyIter_zip st.1 h
def iZip3 (K : PySem.W.Frag) (ta : TA) : TI := fun σ H R => ta σ H fun vs H1 => ∃ t1 t2 t3 a b d xs ys zs, vs = [.ref a, .ref b, .ref d] ∧ SqA K t1 H1 a xs ∧ SqA K t2 H1 b ys ∧ SqA K t3 H1 d zs ∧ R (Itz3 K t1 t2 t3 a b d) H1
theorem pi_zip3 {X : Cx} {e e2 e3 : Expr} {ta : TA} {p pos tpos : Pos} {elts : List Expr} {kk : Nat} (hg : Gl X "zip") (hm : X.mg "zip" = none) (ha : PA X [e, e2, e3] ta)
    (hs : starEach [e, e2, e3] X.env = (false, eval e X.env) :: starEach [e2, e3] X.env := by rfl) (hpl : (backTo pos (starEach [e2, e3] X.env)).any (·.1) = false := by rfl) :
    PI X (.Tuple elts kk tpos) (.Call (.Name "zip" p) [e, e2, e3] [] pos) (iZip3 X.K ta) := by
  refine ⟨fun pins s σ H R I h => ?_⟩
  refine Call_ (ld_blt I hg hm PyProof.Rows.boot_zip (PyProof.Rows.callWith_type1 (thn (ha.run pos pins s σ H _ I h) fun us s1 ⟨vs, H1, I1, r1, q1⟩ => ?_) hs hpl))
  obtain ⟨t1, t2, t3, a, b, d, xs, ys, zs, ex, hqx, hqy, hqz, q⟩ := q1
  subst ex
  cases r1 with
  | cons r rr =>
    cases rr with
    | cons r' rr =>
      cases rr with
      | cons r'' rr =>
        cases rr
        cases r
        cases r'
        cases r''
        obtain ⟨its, rv, p1, la⟩ := sqA I1 hqx
        obtain ⟨its2, rv2, p2, lb⟩ := sqA I1 hqy
        obtain ⟨its3, rv3, p3, ld⟩ := sqA I1 hqz
        refine zip_begins3 (beginsA t1 a its.toArray) (beginsA t2 b its2.toArray) (beginsA t3 d its3.toArray) p1 p2 p3 fun h' hz hTI hTO h1 h2 h3 hsz hk => wpAny_pyIter_zip hz ?_
        have I2 : Inv X pins σ H1 { s1 with heap := h' } := I1.kept (t' := s1.toks) hk
        refine ⟨s1.heap.objs.size + 5, [s1.heap.objs.size + 5, s1.heap.objs.size + 3, s1.heap.objs.size + 4, s1.heap.objs.size, s1.heap.objs.size + 1, s1.heap.objs.size + 2], _, _, H1, rfl, I2, turn_zip3 la lb ld, ⟨hz, hTI, ⟨_, _, _, hTO⟩, itA_new h1, itA_new h2, itA_new h3⟩, fun c hcm => ?_, q⟩
        have hle : s1.heap.objs.size ≤ c := by
          have e' : c = s1.heap.objs.size + 5 ∨ c = s1.heap.objs.size + 3 ∨ c = s1.heap.objs.size + 4 ∨ c = s1.heap.objs.size ∨ c = s1.heap.objs.size + 1 ∨ c = s1.heap.objs.size + 2 := by simpa using hcm
          rcases e' with z | z | z | z | z | z
          · rw [z]; exact Nat.le_add_right _ _
          · rw [z]; exact Nat.le_add_right _ _
          · rw [z]; exact Nat.le_add_right _ _
          · rw [z]; exact Nat.le_refl _
          · rw [z]; exact Nat.le_add_right _ _
          · rw [z]; exact Nat.le_add_right _ _
        exact I1.fpOk hle (I1.hok.fresh hle)
/-! enumerate -/
def Itn (K : PySem.W.Frag) (t : Bool) (a : Addr) : It :=
  ⟨fun i H => ∃ (xs : List V) (x : V), SqA K t H a xs ∧ xs[i]? = some x,
    fun i H v H' => ∃ T x, v = .ref T ∧ H T = none ∧ H' = upd H T (.tup [.int (i : Nat), x]) ∧ (∀ xs, SqA K t H a xs → xs[i]? = some x),
    fun i H => ∃ xs : List V, SqA K t H a xs ∧ i = xs.length⟩
theorem turn_enumA {P : Program} {w : World} {K : PySem.W.Frag} {elts : List Expr} {kk : Nat} {tpos : Pos} {t : Bool} {a : Addr} {N : Nat} (la : a < N) :
    Turn P w K (.Tuple elts kk tpos) (Itn K t a) [N + 1, N] (N + 1) (fun i h => (∃ old, IsEnum h (N + 1) N (i : Nat) old) ∧ ItA h t N a i) where
  mem := by simp
  obj := fun i h st c hc => by
    obtain ⟨⟨old, hz⟩, h1⟩ := st
    have e' : c = N + 1 ∨ c = N := by simpa using hc
    rcases e' with q | q
    · rw [q]; exact ⟨_, hz, fun v q => nomatch q⟩
    · rw [q]; exact itA_ob h1
  keep := fun i h h' st k => by
    obtain ⟨⟨old, hz⟩, h1⟩ := st
    exact ⟨⟨old, k _ (by simp) _ hz⟩, itA_at h1 fun o q => k _ (by simp) o q⟩
  item := by
    intro X hP hw hK hc i pins s σ H E I hf st hg
    subst hP hw hK
    obtain ⟨hz, h1⟩ := st
    obtain ⟨xs, x, hqx, hx⟩ := hg
    obtain ⟨its, rv, p, _⟩ := sqA I hqx
    obtain ⟨u, hu, ru⟩ := rv.get hx
    have hh : X.A.in1.handled = none := I.ok.hd hc
    have na : a ≠ N := Nat.ne_of_lt la
    have W := GoesN.enumFrom (elts := elts) (x1 := kk) (pos := tpos) 0 (drawsA (prog := X.prog) (w := X.w) hh t N a na its.toArray) (N + 1) (Nat.succ_ne_self N) (fun z => by
      rcases List.mem_cons.mp z with z | z
      · exact Nat.succ_ne_self N z
      · exact Nat.ne_of_gt (Nat.lt_succ_of_lt la) (List.mem_singleton.mp z)) (by simp)
    have l1 : i < its.toArray.size := by
      have := (List.getElem?_eq_some_iff.mp hu).1
      simpa using this
    have hz' : ∃ old, IsEnum s.heap (N + 1) N ((0 : Int) + (i : Nat)) old := by rw [Int.zero_add]; exact hz
    refine W.goes i s (fun u s2 => ∃ x H', Inv X pins σ H' s2 ∧ RelV x u ∧ (Itn X.K t a).yld i H x H' ∧ _ ∧ ∀ b ∈ [N + 1, N], H' b = none) E l1 ⟨hz', h1, p⟩ fun v h' tk Y st' hk htk => ?_
    obtain ⟨T, tt, x', rfl, hT0, ex, hT⟩ := Y
    have ex' : x' = u := by
      have : its.toArray[i]? = some u := by simpa using hu
      rw [this] at ex; exact (Option.some.inj ex).symm
    subst ex'
    rw [Int.zero_add] at hT
    obtain ⟨⟨old', hz2⟩, h1', _⟩ := st'
    rw [Int.zero_add] at hz2
    have new : ObjOk X.prog X.w (upd H T (.tup [.int (i : Nat), x])) h' T (.tup [.int (i : Nat), x]) := ⟨by show 2 ≤ sizeLine; decide, [_, _], .cons ⟨tt, rfl⟩ (.cons ru .nil), hT⟩
    have hf' : ∀ c ∈ [N + 1, N], FpOk X pins H c := hf
    have I1 : Inv X pins σ (upd H T (.tup [.int (i : Nat), x])) { s with heap := h', toks := tk } :=
      I.turnedNew (t' := tk) (ch := [N + 1, N]) (fun c o hb q => hk c o hb q) hf' hT0 new
    refine ⟨.ref T, _, I1, rfl, ⟨T, x, rfl, I.hok.fresh hT0, rfl, fun l hl => by rw [sqA_inj I hl hqx]; exact hx⟩, ⟨⟨old', hz2⟩, h1'⟩, fun c hcm => ?_⟩
    have hlt : c < s.heap.objs.size := by
      have e' : c = N + 1 ∨ c = N := by simpa using hcm
      rcases e' with q | q
      · rw [q]; obtain ⟨_, z⟩ := hz; exact Heap.lt_size z
      · rw [q]; obtain ⟨_, e1, _⟩ := itA_ob h1; exact Heap.lt_size e1
    rw [upd_ne (Nat.ne_of_lt (Nat.lt_of_lt_of_le hlt hT0))]
    exact (hf c hcm).1
  done := by
    intro X hP hw hK hc i pins s σ H E I hf st hg
    subst hP hw hK
    obtain ⟨hz, h1⟩ := st
    obtain ⟨xs, hqx, hend⟩ := hg
    obtain ⟨its, rv, p, _⟩ := sqA I hqx
    have l1 := rv.length
    have hh : X.A.in1.handled = none := I.ok.hd hc
    have na : a ≠ N := Nat.ne_of_lt la
    have W := GoesN.enumFrom (elts := elts) (x1 := kk) (pos := tpos) 0 (drawsA (prog := X.prog) (w := X.w) hh t N a na its.toArray) (N + 1) (Nat.succ_ne_self N) (fun z => by
      rcases List.mem_cons.mp z with z | z
      · exact Nat.succ_ne_self N z
      · exact Nat.ne_of_gt (Nat.lt_succ_of_lt la) (List.mem_singleton.mp z)) (by simp)
    have ei : i = its.toArray.size := by
      have q1 : its.toArray.size = its.length := by simp
      rw [q1]; omega
    subst ei
    have hz' : ∃ old, IsEnum s.heap (N + 1) N ((0 : Int) + (its.toArray.size : Nat)) old := by rw [Int.zero_add]; exact hz
    exact W.stops s _ E ⟨hz', h1, p⟩ fun h' tk hk htk => I.turnedL (t' := tk) (ch := [N + 1, N]) (fun c o hb q => hk c o hb q) hf
  self := fun A i s Q E st h => by
    obtain ⟨⟨old, he⟩, _⟩ := st
    exact wpAny_pyIter_enum he h
theorem meets_enum1 {a : Addr} {o : Obj} {H : Heap → Prop} (B : Begins (.ref a) o H) (ld : ∀ h, H h → ∃ c dt n dct sl, h.get? a = some ⟨c, dct, .seq dt n, sl⟩) :
    Meets (Builtin.«enumerate.__new__» ⟨[.type "enumerate", .ref a], []⟩) (fun _ R s => H s.heap ∧
      R (.ok (.ret (.ref (s.heap.push o).objs.size))) { s with heap := (s.heap.push o).push { cls := .type "enumerate", data := .fields #[.none, .bool false, .ref s.heap.objs.size, rawInt 0, .none, .none] } }) :=
  .of_wp fun prog w A R s h => by
    obtain ⟨hp, g, d, tk, os⟩ := s; obtain ⟨h1, h⟩ := h
    obtain ⟨c, dt, n, dct, sl, hl⟩ := ld hp h1
    have hsub := sub_enumerate
    have q1 : ∀ {A' : Around} {E : Value → Shared → Prop} {Q : Value → Shared → Prop}, Q (.ref hp.objs.size) ⟨hp.push o, g, d, tk, os⟩ → wpAny (model prog w) A' (pyIter (.ref a)) Q E ⟨hp, g, d, tk, os⟩ :=
      fun q => B.iter prog w _ _ ⟨hp, g, d, tk, os⟩ _ h1 q
    wp_walk using wpAny_loadPart' hl, q1
    refine wpAny_stack_any fun st => wpAny_pure ?_
    split
    · rename_i c _ _ _ _ _
      cases (c == Value.type "enumerate")
      · wp_walk using wpAny_loadPart' hl, q1
        exact ⟨_, rfl, h⟩
      · wp_walk using wpAny_loadPart' hl, q1
        exact ⟨_, rfl, h⟩
    · wp_walk using wpAny_loadPart' hl, q1
      exact ⟨_, rfl, h⟩
theorem call_enum1 {prog : Program} {w : World} {A : Around} {E : Value → Shared → Prop} {s : Shared} {a : Addr} {o : Obj} {H : Heap → Prop} {Q : Value → Shared → Prop} (B : Begins (.ref a) o H) (ld : ∀ h, H h → ∃ c dt n dct sl, h.get? a = some ⟨c, dct, .seq dt n, sl⟩) (h1 : H s.heap)
    (h : ∀ h', IsEnum h' (s.heap.objs.size + 1) s.heap.objs.size ((0 : Nat) : Int) .none → h'.get? s.heap.objs.size = some o → h'.objs.size = s.heap.objs.size + 2 →
      (∀ b o, s.heap.get? b = some o → h'.get? b = some o) → Q (.ref (s.heap.objs.size + 1)) { s with heap := h' }) :
    wpAny (model prog w) A (call (.type "enumerate") [.ref a]) Q E s := by
  refine callType_new F.called_enumerate (by decide) (F.typeCall_enumerate_1 _) (F.newCall_enumerate_1 _) (fun obj => F.args_object_init_2 obj _) F.entry_enumerate_new
    (meets_enum1 B ld) ⟨h1, ?_⟩
  have hz : (s.heap.push o).objs.size = s.heap.objs.size + 1 := Heap.size_push ..
  show _ ∧ _
  rw [hz]
  have he : IsEnum ((s.heap.push o).push { cls := .type "enumerate", data := .fields #[.none, .bool false, .ref s.heap.objs.size, rawInt 0, .none, .none] }) (s.heap.objs.size + 1) s.heap.objs.size ((0 : Nat) : Int) .none := by
    have := Heap.get?_push_size (s.heap.push o) (o := { cls := .type "enumerate", data := .fields #[.none, .bool false, .ref s.heap.objs.size, rawInt 0, .none, .none] }) rfl
    rw [hz] at this; exact this
  exact ⟨⟨_, he, rfl⟩, h _ he (Heap.get?_push_of_some _ (Heap.get?_push_size _ B.free)) (by rw [Heap.size_push, hz]) fun b o x => Heap.get?_push_of_some _ (Heap.get?_push_of_some _ x)⟩
theorem coA_ld {t : Bool} {a : Addr} {its : Array Value} : ∀ h, CoA h t a its → ∃ c dt n dct sl, h.get? a = some ⟨c, dct, .seq dt n, sl⟩ := fun h x => by
  cases t with
  | true =>
    obtain ⟨⟨c, dct, dt, sl⟩, e, hc, n, hd⟩ := x
    have hd : dt = .seq its n := hd
    subst hd
    exact ⟨_, _, _, _, _, e⟩
  | false =>
    obtain ⟨⟨c, dct, dt, sl⟩, e, hc, n, hd⟩ := x
    have hd : dt = .seq its n := hd
    subst hd
    exact ⟨_, _, _, _, _, e⟩
def iEnumA (K : PySem.W.Frag) (ta : TA) : TI := fun σ H R => ta σ H fun vs H1 => ∃ t a xs, vs = [.ref a] ∧ SqA K t H1 a xs ∧ R (Itn K t a) H1
theorem pi_enumA {X : Cx} {e : Expr} {ta : TA} {p pos tpos : Pos} {elts : List Expr} {kk : Nat} (hg : Gl X "enumerate") (hm : X.mg "enumerate" = none) (ha : PA X [e] ta)
    (hs : starEach [e] X.env = [(false, eval e X.env)] := by rfl) :
    PI X (.Tuple elts kk tpos) (.Call (.Name "enumerate" p) [e] [] pos) (iEnumA X.K ta) := by
  refine ⟨fun pins s σ H R I h => ?_⟩
  refine Call_ (ld_blt I hg hm PyProof.Rows.boot_enumerate (PyProof.Rows.callWith_type1 (thn (ha.run pos pins s σ H _ I h) fun us s1 ⟨vs, H1, I1, r1, q1⟩ => ?_) hs rfl))
  obtain ⟨t, a, xs, ex, hq, q⟩ := q1
  subst ex
  cases r1 with
  | cons r rr =>
    cases rr
    cases r
    obtain ⟨its, rv, p', la⟩ := sqA I1 hq
    refine call_enum1 (beginsA t a its.toArray) coA_ld p' fun h' he h1 hsz hk => wpAny_pyIter_enum he ?_
    have I2 : Inv X pins σ H1 { s1 with heap := h' } := I1.kept (t' := s1.toks) hk
    refine ⟨s1.heap.objs.size + 1, [s1.heap.objs.size + 1, s1.heap.objs.size], _, _, H1, rfl, I2, turn_enumA la, ⟨⟨.none, he⟩, itA_new h1⟩, fun b hb => ?_, q⟩
    have e' : b = s1.heap.objs.size + 1 ∨ b = s1.heap.objs.size := by simpa using hb
    have hle : s1.heap.objs.size ≤ b := by
      rcases e' with z | z
      · rw [z]; exact Nat.le_add_right _ _
      · rw [z]; exact Nat.le_refl _
    exact I1.fpOk hle (I1.hok.fresh hle)
end WK
namespace L2
open PySem PySem.Spec PyProof.Rows
/-- what a for walks: a list, a tuple or a text -/
def iSeqA (K : PySem.W.Frag) (tl : TE) : TI := fun σ H R => tl σ H fun x H1 => (∃ a, x = .ref a ∧ (((∃ xs, SqL K H1 a xs) ∧ R (Itl K a) H1) ∨ ((∃ xs, SqT K H1 a xs) ∧ R (Itt K a) H1))) ∨ ∃ z, x = .str z ∧ R (Its z) H1
theorem pi_seqA {X : Cx} {tg l : Expr} {tl : TE} (hl : PE X l tl) : PI X tg l (iSeqA X.K tl) := by
  refine ⟨fun pins s σ H R I h => ?_⟩
  refine thn (hl.run pins s σ H _ I h) fun v s1 ⟨x, H1, I1, r1, q1⟩ => ?_
  rcases q1 with ⟨a, e, q⟩ | ⟨x, ex, q⟩
  · subst e
    cases r1
    rcases q with ⟨⟨xs, hq⟩, q⟩ | ⟨⟨xs, hq⟩, q⟩
    · obtain ⟨its, rv, p, hz⟩ := I1.list hq
      refine wpAny_pyIter_list p.isList ?_
      refine ⟨s1.heap.objs.size, [s1.heap.objs.size], _, _, H1, rfl, I1.kept (t' := s1.toks) fun b o e => Heap.get?_push_of_some _ e, turn_list a _, ⟨_, Heap.get?_push_size _ rfl, rfl, rfl⟩, fun b hb => ?_, q⟩
      have e : b = s1.heap.objs.size := by simpa using hb
      subst e
      exact I1.fpOk (Nat.le_refl _) (I1.hok.fresh (Nat.le_refl _))
    · obtain ⟨its, rv, p, hz⟩ := I1.tuple hq
      refine wpAny_pyIter_tuple (show s1.heap.IsTuple a its.toArray from p) ?_
      refine ⟨s1.heap.objs.size, [s1.heap.objs.size], _, _, H1, rfl, I1.kept (t' := s1.toks) fun b o e => Heap.get?_push_of_some _ e, turn_tuple a _, ⟨_, Heap.get?_push_size _ rfl, rfl, rfl⟩, fun b hb => ?_, q⟩
      have e : b = s1.heap.objs.size := by simpa using hb
      subst e
      exact I1.fpOk (Nat.le_refl _) (I1.hok.fresh (Nat.le_refl _))
  · subst ex
    obtain ⟨t, rfl⟩ := r1
    cases ha : x.cps.all (· < 128)
    · exact wpAny_pyIter_wide ha (pi_one (tk := s1.toks) I1 _ (turn_str _ x t "str_iterator" (.inr rfl)) ⟨_, Heap.get?_push_size _ rfl, rfl, rfl⟩ q)
    · exact wpAny_pyIter_ascii ha (pi_one (tk := s1.toks) I1 _ (turn_str _ x t "str_ascii_iterator" (.inl rfl)) ⟨_, Heap.get?_push_size _ rfl, rfl, rfl⟩ q)
end L2
namespace DL
open PySem PySem.Spec L2

/-! ### what is walked -/
def riSeq (re : RE) : RI := fun Γ c Q => re Γ c fun d k c1 => match d with
  | .lst ds => Q ds (noLs ds) (stK k) c1
  | .tup ds => Q ds (noLs ds) (noLs ds || stK k) c1
  | .scr ns => Q (ns.map .int) true true c1
  | .str z => Q (z.cps.toList.map fun n => .str ⟨#[n]⟩) true true c1
  | _ => False
def intsFrom (lo : Int) (n : Nat) : List D := (List.range n).map fun i => .int (lo + (i : Nat))
def riRng1 (ra : RA) : RI := fun Γ c Q => ra Γ c fun dks c1 => match dks with
  | [(.int j, _)] => -(2 ^ 62) ≤ j ∧ j < 2 ^ 62 ∧ Q (intsFrom 0 j.toNat) true true c1
  | _ => False
def riRng2 (ra : RA) : RI := fun Γ c Q => ra Γ c fun dks c1 => match dks with
  | [(.int i, _), (.int j, _)] => (-(2 ^ 62) ≤ i ∧ i < 2 ^ 62 ∧ -(2 ^ 62) ≤ j ∧ j < 2 ^ 62) ∧ Q (intsFrom i (j - i).toNat) true true c1
  | _ => False
theorem nl_or {b : Bool} {P : Bool → Prop} (h : P b) : (b = true ∧ P true) ∨ P false := by
  cases b with
  | true => exact .inl ⟨rfl, h⟩
  | false => exact .inr h
theorem nl_or2 {b s : Bool} {P : Bool → Bool → Prop} (h : P b (b || s)) : (b = true ∧ P true true) ∨ P false s := by
  cases b with
  | true => exact .inl ⟨rfl, h⟩
  | false => exact .inr h
def zipD (xs ys : List D) : List D := List.zipWith (fun x y => .tup [x, y]) xs ys
/-- the items of a list or a tuple -/
def seqD : D → Option (List D)
  | .lst ds => some ds
  | .tup ds => some ds
  | .scr ns => some (ns.map .int)
  | _ => none
/-- that they stay -/
def seqS : D → Kd → Bool
  | .lst _, k => stK k
  | .tup ds, k => noLs ds || stK k
  | _, _ => true
def riZip (ra : RA) : RI := fun Γ c Q => ra Γ c fun dks c1 => match dks with
  | [(x, k1), (y, k2)] => match seqD x, seqD y with
    | some xs, some ys => Q (zipD xs ys) (noLs xs && noLs ys) (seqS x k1 && seqS y k2) c1
    | _, _ => False
  | _ => False
def zipD3 (xs ys zs : List D) : List D := List.zipWith (fun p z => match p with | .tup [x, y] => .tup [x, y, z] | _ => .non) (zipD xs ys) zs
def riZip3 (ra : RA) : RI := fun Γ c Q => ra Γ c fun dks c1 => match dks with
  | [(x, k1), (y, k2), (z, k3)] => match seqD x, seqD y, seqD z with
    | some xs, some ys, some zs => Q (zipD3 xs ys zs) (noLs xs && (noLs ys && noLs zs)) (seqS x k1 && (seqS y k2 && seqS z k3)) c1
    | _, _, _ => False
  | _ => False
def enumD : Nat → List D → List D
  | _, [] => []
  | n, d :: ds => .tup [.int (n : Nat), d] :: enumD (n + 1) ds
def riEnum (ra : RA) : RI := fun Γ c Q => ra Γ c fun dks c1 => match dks with
  | [(x, k1)] => match seqD x with
    | some xs => Q (enumD 0 xs) (noLs xs) (seqS x k1) c1
    | _ => False
  | _ => False
section
variable {K : PySem.W.Frag} {B : Bx} {Γ : GE} {σ : L2.St} {H H' : Hp} {c c' : Nat} {fp : List Addr} {k : Kd} {d : D} {v : V} {ds : List D} {vs : List V}
theorem stK_ok (ok : KOk B H fp k) (h : stK k = true) : ∀ a ∈ fp, B.F a ∨ H a = none := by
  cases k with
  | R is =>
    cases is with
    | nil => exact fun a ha => .inr ((ok.2 a ha).elim id fun ⟨_, z, _⟩ => nomatch z)
    | cons _ _ => cases h
  | S => exact ok
  | B => cases h
theorem held_of (rp : Rp K F H' d v fp) (ng : ∀ a ∈ fp, ¬ B.G a) (ok : KOk B H fp k) : ∀ p ∈ [((d, v, fp) : D × V × List Addr)], Rp K F H' p.1 p.2.1 p.2.2 ∧ ∀ a ∈ p.2.2, ¬ B.G a ∧ (H a = none ∨ B.F a ∨ ∃ i, B.O i a) ∧ (stK k = true → B.F a ∨ H a = none) := fun p hp => by
  cases List.mem_singleton.mp hp
  exact ⟨rp, fun a ha => ⟨ng a ha, ok.any a ha, fun h => stK_ok ok h a ha⟩⟩
theorem held_nl (rp : Rp K F H' d v fp) (e : fp = []) (st : Bool) : ∀ p ∈ [((d, v, fp) : D × V × List Addr)], Rp K F H' p.1 p.2.1 p.2.2 ∧ ∀ a ∈ p.2.2, ¬ B.G a ∧ (H a = none ∨ B.F a ∨ ∃ i, B.O i a) ∧ (st = true → B.F a ∨ H a = none) := fun p hp => by
  cases List.mem_singleton.mp hp
  subst e
  exact ⟨rp, fun a ha => nomatch ha⟩
theorem noLs_get {ds : List D} {i : Nat} (h : noLs ds = true) (e : ds[i]? = some d) : noL d = true := by
  induction ds generalizing i with
  | nil => simp at e
  | cons x r ih =>
    have h' : (noL x && noLs r) = true := h
    rw [Bool.and_eq_true] at h'
    cases i with
    | zero => cases e; exact h'.1
    | succ i => exact ih h'.2 e
theorem it_list {a : Addr} {nl : Bool} (hn : nl = true → noLs ds = true) : ItOk K F (Itl K a) ds nl [(.lst ds, .ref a, fp)] := by
  refine ⟨fun i d H e h => ?_, fun H h => ?_⟩
  · have r := h _ (List.mem_singleton.mpr rfl)
    rw [Rp] at r
    obtain ⟨b, vs, f, eb, ea, ef, rs⟩ := r
    cases eb
    have ef : fp = a :: f := ef
    obtain ⟨v, g, h1, h2, h3⟩ := rs.get e
    refine ⟨⟨vs, v, SqL.of ea, h1⟩, fun x H' y => ?_⟩
    obtain ⟨rfl, y⟩ := y
    have ex : x = v := Option.some.inj ((y vs (SqL.of ea)).symm.trans h1)
    subst ex
    exact ⟨Same.refl _, g, h2, fun z hz => ⟨_, List.mem_singleton.mpr rfl, by show z ∈ fp; rw [ef]; exact List.mem_cons_of_mem _ (h3.subset hz)⟩, fun q => h2.nol (noLs_get (hn q) e)⟩
  · have r := h _ (List.mem_singleton.mpr rfl)
    rw [Rp] at r
    obtain ⟨b, vs, f, eb, ea, ef, rs⟩ := r
    cases eb
    exact ⟨vs, SqL.of ea, by rw [rs.length]; exact Nat.le_refl _⟩
theorem it_tup {a : Addr} {nl : Bool} (hn : nl = true → noLs ds = true) : ItOk K F (Itt K a) ds nl [(.tup ds, .ref a, fp)] := by
  refine ⟨fun i d H e h => ?_, fun H h => ?_⟩
  · have r := h _ (List.mem_singleton.mpr rfl)
    rw [Rp] at r
    obtain ⟨b, vs, eb, ea, rs⟩ := r
    cases eb
    obtain ⟨v, g, h1, h2, h3⟩ := rs.get e
    refine ⟨⟨vs, v, ea.t, h1⟩, fun x H' y => ?_⟩
    obtain ⟨rfl, y⟩ := y
    have ex : x = v := Option.some.inj ((y vs ea.t).symm.trans h1)
    subst ex
    exact ⟨Same.refl _, g, h2, fun z hz => ⟨_, List.mem_singleton.mpr rfl, h3.subset hz⟩, fun q => h2.nol (noLs_get (hn q) e)⟩
  · have r := h _ (List.mem_singleton.mpr rfl)
    rw [Rp] at r
    obtain ⟨b, vs, eb, ea, rs⟩ := r
    cases eb
    exact ⟨vs, ea.t, by rw [rs.length]; exact Nat.le_refl _⟩
theorem it_str {z : Str} : ItOk K F (Its z) (z.cps.toList.map fun n => .str ⟨#[n]⟩) true [] := by
  refine ⟨fun i d H e _ => ?_, fun H _ => ?_⟩
  · rw [List.getElem?_map] at e
    cases e3 : z.cps.toList[i]? with
    | none => rw [e3] at e; cases e
    | some n =>
      rw [e3] at e
      cases e
      have e4 : z.cps[i]? = some n := by rw [← Array.getElem?_toList]; exact e3
      refine ⟨(Array.getElem?_eq_some_iff.mp e4).1, fun x H' y => ?_⟩
      obtain ⟨rfl, n', e5, ex⟩ := y
      rw [e4] at e5; cases e5
      subst ex
      exact ⟨Same.refl _, [], rp_str, fun _ h => (nomatch h), fun _ => rfl⟩
  · show z.cps.size ≤ _
    rw [List.length_map, Array.length_toList]; exact Nat.le_refl _
theorem id_seq {tl : TE} {re : RE} (he : ED K tl re) : ID K (iSeqA K tl) (riSeq re) := by
  intro B Γ c σ H Qd R E q f
  refine he B Γ c σ H _ _ E q fun v H' d k c' x q => ?_
  obtain ⟨fp, rp, ng, ok⟩ := x.rp
  split at q
  · have r0 := rp.rp (fun z => by cases z)
    obtain ⟨a, vs, g, rfl, e, rfl, rs⟩ := rp.lst
    refine .inl ⟨a, rfl, .inl ⟨⟨vs, SqL.of e⟩, ?_⟩⟩
    rcases nl_or (P := fun b => Qd _ b _ c') q with ⟨nl, q⟩ | q
    · exact f _ H' _ true _ c' _ x.ext x.gens (held_of r0 ng ok) (fun _ => it_list fun _ => nl) q
    · exact f _ H' _ false _ c' _ x.ext x.gens (held_of r0 ng ok) (fun _ => it_list fun z => nomatch z) q
  · have r0 := rp.rp (fun z => by cases z)
    obtain ⟨a, vs, rfl, e, rs⟩ := rp.tup
    refine .inl ⟨a, rfl, .inr ⟨⟨vs, e.t⟩, ?_⟩⟩
    rcases nl_or2 (P := fun b s => Qd _ b s c') q with ⟨nl, q⟩ | q
    · exact f _ H' _ true _ c' _ x.ext x.gens (held_nl r0 (rs.nol nl) _) (fun _ => it_tup fun _ => nl) q
    · exact f _ H' _ false _ c' _ x.ext x.gens (held_of r0 ng ok) (fun _ => it_tup fun z => nomatch z) q
  · rename_i ns _
    have r0 := rp.rp (fun z => by cases z)
    obtain ⟨rfl, a, rfl, e⟩ := rp.scr
    refine .inl ⟨a, rfl, .inl ⟨⟨_, e.l⟩, f _ H' _ true true c' _ x.ext x.gens (held_nl r0 rfl _) ?_ q⟩⟩
    refine fun _ => ⟨fun i d H e h => ?_, fun H h => ?_⟩
    · have r := h _ (List.mem_singleton.mpr rfl)
      rw [Rp] at r
      obtain ⟨_, b, eb, ea⟩ := r
      cases eb
      rw [List.getElem?_map] at e
      cases e3 : (_ : List Int)[i]? with
      | none => rw [e3] at e; cases e
      | some n =>
        rw [e3] at e
        cases e
        have e4 : ∀ {ns : List Int}, ns[i]? = some n → (ns.map V.int)[i]? = some (V.int n) := fun {ns} h => by rw [List.getElem?_map, h]; rfl
        refine ⟨⟨_, _, ea.l, e4 e3⟩, fun x H' y => ?_⟩
        obtain ⟨rfl, y⟩ := y
        have ex : x = V.int n := Option.some.inj ((y _ ea.l).symm.trans (e4 e3))
        subst ex
        exact ⟨Same.refl _, [], rp_int, fun _ h => (nomatch h), fun _ => rfl⟩
    · have r := h _ (List.mem_singleton.mpr rfl)
      rw [Rp] at r
      obtain ⟨_, b, eb, ea⟩ := r
      cases eb
      exact ⟨_, ea.l, by rw [List.length_map, List.length_map]; exact Nat.le_refl _⟩
  · have ez := rp.str
    exact .inr ⟨_, ez, f _ H' _ true true c' [] x.ext x.gens (fun _ h => nomatch h) (fun _ => it_str) q⟩
  · exact q.elim
theorem it_rng {lo : Int} {n : Nat} : ItOk K F (Itr lo n) (intsFrom lo n) true [] := by
  refine ⟨fun i d H e _ => ?_, fun H _ => ?_⟩
  · unfold intsFrom at e
    rw [List.getElem?_map] at e
    by_cases h : i < n
    · rw [List.getElem?_range h] at e
      cases e
      refine ⟨h, fun x H' y => ?_⟩
      obtain ⟨rfl, rfl⟩ := y
      exact ⟨Same.refl _, [], rp_int, fun _ h => (nomatch h), fun _ => rfl⟩
    · rw [List.getElem?_eq_none (by rw [List.length_range]; omega)] at e
      cases e
  · show n ≤ (intsFrom lo n).length
    unfold intsFrom
    rw [List.length_map, List.length_range]; exact Nat.le_refl _
theorem id_rng1 {ta : TA} {ra : RA} (ha : AD K ta ra) : ID K (iRng1 ta) (riRng1 ra) := by
  intro B Γ c σ H Qd R E q f
  refine ha B Γ c σ H _ _ E q fun vs H' dks c' fp e g ar q => ?_
  split at q
  · obtain ⟨x, rfl, r, _⟩ := ar.one
    exact ⟨_, by rw [r.int], q.1, q.2.1, f _ H' _ true true c' [] e g (fun _ h => nomatch h) (fun _ => it_rng) q.2.2⟩
  · exact q.elim
theorem id_rng2 {ta : TA} {ra : RA} (ha : AD K ta ra) : ID K (iRng2 ta) (riRng2 ra) := by
  intro B Γ c σ H Qd R E q f
  refine ha B Γ c σ H _ _ E q fun vs H' dks c' fp e g ar q => ?_
  split at q
  · obtain ⟨x, y, rfl, a2⟩ := ar.pair
    obtain ⟨rfl, rfl⟩ := a2.ints
    exact ⟨_, _, rfl, q.1, f _ H' _ true true c' [] e g (fun _ h => nomatch h) (fun _ => it_rng) q.2⟩
  · exact q.elim
theorem zipD_get {xs ys : List D} {i : Nat} (e : (zipD xs ys)[i]? = some d) : ∃ x y, xs[i]? = some x ∧ ys[i]? = some y ∧ d = .tup [x, y] := by
  unfold zipD at e
  rw [List.getElem?_zipWith] at e
  cases e1 : xs[i]? with
  | none => rw [e1] at e; cases e
  | some x =>
    cases e2 : ys[i]? with
    | none => rw [e1, e2] at e; cases e
    | some y =>
      rw [e1, e2] at e
      cases e
      exact ⟨x, y, rfl, rfl, rfl⟩
theorem rp_tup2 {x y : V} {dx dy : D} {f g : List Addr} {T : Addr} (n : H T = none) (r1 : Rp K F H dx x f) (r2 : Rp K F H dy y g) : Rp K F (upd H T (.tup [x, y])) (.tup [dx, dy]) (.ref T) (f ++ g) := by
  rw [Rp]
  exact ⟨T, [x, y], rfl, upd_same, x, [y], f, g, rfl, rfl, r1.same (same_upd n), y, [], g, [], rfl, by simp, r2.same (same_upd n), rfl, rfl⟩
theorem rp_tup3 {x y z : V} {dx dy dz : D} {f g h : List Addr} {T : Addr} (n : H T = none) (r1 : Rp K F H dx x f) (r2 : Rp K F H dy y g) (r3 : Rp K F H dz z h) : Rp K F (upd H T (.tup [x, y, z])) (.tup [dx, dy, dz]) (.ref T) (f ++ (g ++ h)) := by
  rw [Rp]
  exact ⟨T, [x, y, z], rfl, upd_same, x, [y, z], f, g ++ h, rfl, rfl, r1.same (same_upd n), y, [z], g, h, rfl, rfl, r2.same (same_upd n), z, [], h, [], rfl, by simp, r3.same (same_upd n), rfl, rfl⟩
def tupB : D → Bool
  | .tup _ => true
  | _ => false
theorem seq_rp {x : D} {xs : List D} (e : seqD x = some xs) (r : Rp K F H x v fp) : ∃ a us f, v = .ref a ∧ WK.SqA K (tupB x) H a us ∧ Rps K F H xs us f ∧ ∀ z ∈ f, z ∈ fp := by
  cases x with
  | lst ds =>
    cases e
    rw [Rp] at r
    obtain ⟨a, vs, f, rfl, ea, rfl, rs⟩ := r
    exact ⟨a, vs, f, rfl, SqL.of ea, rs, fun z hz => List.mem_cons_of_mem _ hz⟩
  | tup ds =>
    cases e
    rw [Rp] at r
    obtain ⟨a, vs, rfl, ea, rs⟩ := r
    exact ⟨a, vs, fp, rfl, ea.t, rs, fun z hz => hz⟩
  | scr ns =>
    cases e
    rw [Rp] at r
    obtain ⟨rfl, a, rfl, ea⟩ := r
    exact ⟨a, _, [], rfl, ea.l, rps_of_ints, fun z hz => hz⟩
  | _ => cases e
theorem seqS_ok {x : D} {xs : List D} (e : seqD x = some xs) (r : Rp K F H' x v fp) (ok : KOk B H fp k) (h : seqS x k = true) : ∀ a ∈ fp, B.F a ∨ H a = none := by
  cases x with
  | lst ds => exact stK_ok ok h
  | tup ds =>
    rcases Bool.or_eq_true_iff.mp h with h | h
    · have e0 : fp = [] := Rp.nol (d := .tup ds) h r
      subst e0
      exact fun _ h => nomatch h
    · exact stK_ok ok h
  | scr ns =>
    rw [Rp] at r
    obtain ⟨rfl, _⟩ := r
    exact fun _ h => nomatch h
  | _ => cases e
theorem seqD_ng {x : D} {xs : List D} (e : seqD x = some xs) : x ≠ .gen := fun z => by subst z; cases e
theorem held_c {st : Bool} {x : D} {hs : Held} (r : Rp K F H' x v fp) (ng : ∀ a ∈ fp, ¬ B.G a) (ok : KOk B H fp k) (h : st = true → ∀ a ∈ fp, B.F a ∨ H a = none)
    (t : ∀ p ∈ hs, Rp K F H' p.1 p.2.1 p.2.2 ∧ ∀ a ∈ p.2.2, ¬ B.G a ∧ (H a = none ∨ B.F a ∨ ∃ i, B.O i a) ∧ (st = true → B.F a ∨ H a = none)) :
    ∀ p ∈ (x, v, fp) :: hs, Rp K F H' p.1 p.2.1 p.2.2 ∧ ∀ a ∈ p.2.2, ¬ B.G a ∧ (H a = none ∨ B.F a ∨ ∃ i, B.O i a) ∧ (st = true → B.F a ∨ H a = none) := fun p hp => by
  rcases List.mem_cons.mp hp with rfl | hp
  · exact ⟨r, fun a ha => ⟨ng a ha, ok.any a ha, fun w => h w a ha⟩⟩
  · exact t p hp
theorem id_zip {ta : TA} {ra : RA} (ha : AD K ta ra) : ID K (WK.iZip2 K ta) (riZip ra) := by
  intro B Γ c σ H Qd R E q f
  refine ha B Γ c σ H _ _ E q fun vs H' dks c' fp e g ar q => ?_
  split at q
  · rename_i x k1 y k2
    split at q
    · rename_i xs ys ex ey
      obtain ⟨vx, vy, rfl, a2⟩ := ar.pair
      obtain ⟨f1, f2, rfl, r1, r2, n1, n2, o1, o2, cr⟩ := a2.one2
      have p1 := r1.rp (seqD_ng ex)
      have p2 := r2.rp (seqD_ng ey)
      obtain ⟨a, us, g1, rfl, sx, rs1, gx⟩ := seq_rp ex p1
      obtain ⟨b, ws, g2, rfl, sy, rs2, gy⟩ := seq_rp ey p2
      have it : ∀ nl : Bool, (nl = true → noLs xs = true ∧ noLs ys = true) → ∀ F', ItOk K F' (WK.Itz2 K (tupB x) (tupB y) a b) (zipD xs ys) nl [(x, .ref a, f1), (y, .ref b, f2)] := fun nl hn F' => by
        refine ⟨fun i d H e h => ?_, fun H h => ?_⟩
        · have r := h _ List.mem_cons_self
          have r' := h _ (List.mem_cons_of_mem _ List.mem_cons_self)
          obtain ⟨_, vs, h1, e1, ea, rs, hg⟩ := seq_rp ex r
          obtain ⟨_, vs', h1', e1', ea', rs', hg'⟩ := seq_rp ey r'
          cases e1; cases e1'
          obtain ⟨x, y, ex, ey, rfl⟩ := zipD_get e
          obtain ⟨v, g, q1, q2, q3⟩ := rs.get ex
          obtain ⟨v', g', q1', q2', q3'⟩ := rs'.get ey
          refine ⟨⟨vs, vs', v, v', ea, ea', q1, q1'⟩, fun z H' yy => ?_⟩
          obtain ⟨T, x1, x2, rfl, nT, rfl, y1, y2⟩ := yy
          have ex1 : x1 = v := Option.some.inj ((y1 vs ea).symm.trans q1)
          have ex2 : x2 = v' := Option.some.inj ((y2 vs' ea').symm.trans q1')
          subst ex1; subst ex2
          refine ⟨same_upd nT, g ++ g', rp_tup2 nT q2 q2', fun z hz => ?_, fun hq => ?_⟩
          · rcases List.mem_append.mp hz with hz | hz
            · exact ⟨_, List.mem_cons_self, hg _ (q3.subset hz)⟩
            · exact ⟨_, List.mem_cons_of_mem _ List.mem_cons_self, hg' _ (q3'.subset hz)⟩
          · rw [q2.nol (noLs_get (hn hq).1 ex), q2'.nol (noLs_get (hn hq).2 ey)]; rfl
        · obtain ⟨_, vs, h1, e1, ea, rs, hg⟩ := seq_rp ex (h _ List.mem_cons_self)
          obtain ⟨_, vs', h1', e1', ea', rs', hg'⟩ := seq_rp ey (h _ (List.mem_cons_of_mem _ List.mem_cons_self))
          cases e1; cases e1'
          refine ⟨vs, vs', ea, ea', ?_⟩
          unfold zipD
          rw [List.length_zipWith, rs.length, rs'.length]
      have hh : ∀ p ∈ [((x, .ref a, f1) : D × V × List Addr), (y, .ref b, f2)], Rp K B.F H' p.1 p.2.1 p.2.2 ∧ ∀ z ∈ p.2.2, ¬ B.G z ∧ (H z = none ∨ B.F z ∨ ∃ i, B.O i z) ∧ ((seqS x k1 && seqS y k2) = true → B.F z ∨ H z = none) :=
        held_c p1 n1 o1 (fun h => seqS_ok ex p1 o1 (Bool.and_eq_true_iff.mp h).1) (held_c p2 n2 o2 (fun h => seqS_ok ey p2 o2 (Bool.and_eq_true_iff.mp h).2) fun _ h => nomatch h)
      refine ⟨tupB x, tupB y, a, b, us, ws, rfl, sx, sy, ?_⟩
      rcases nl_or (P := fun b => Qd _ b _ c') q with ⟨nl, q⟩ | q
      · exact f _ H' _ true _ c' _ e g hh (it true fun _ => Bool.and_eq_true_iff.mp nl) q
      · exact f _ H' _ false _ c' _ e g hh (it false fun z => nomatch z) q
    · exact q.elim
  · exact q.elim
theorem zipD3_get {xs ys zs : List D} {i : Nat} (e : (zipD3 xs ys zs)[i]? = some d) : ∃ x y z, xs[i]? = some x ∧ ys[i]? = some y ∧ zs[i]? = some z ∧ d = .tup [x, y, z] := by
  unfold zipD3 at e
  rw [List.getElem?_zipWith] at e
  cases e1 : (zipD xs ys)[i]? with
  | none => rw [e1] at e; cases e
  | some p =>
    cases e2 : zs[i]? with
    | none => rw [e1, e2] at e; cases e
    | some z =>
      obtain ⟨x, y, h1, h2, rfl⟩ := zipD_get e1
      rw [e1, e2] at e
      cases e
      exact ⟨x, y, z, h1, h2, rfl, rfl⟩
theorem zipD3_length (xs ys zs : List D) : (zipD3 xs ys zs).length = min (min xs.length ys.length) zs.length := by
  unfold zipD3 zipD
  rw [List.length_zipWith, List.length_zipWith]
theorem Args.three {d1 d2 d3 : D} {k1 k2 k3 : Kd} (a : Args K B H H' [(d1, k1), (d2, k2), (d3, k3)] vs fp) : ∃ x y z f g h, vs = [x, y, z] ∧ RpG K B.F B.G H' d1 x f ∧ RpG K B.F B.G H' d2 y g ∧ RpG K B.F B.G H' d3 z h ∧ (∀ a ∈ f, ¬ B.G a) ∧ (∀ a ∈ g, ¬ B.G a) ∧ (∀ a ∈ h, ¬ B.G a) ∧ KOk B H f k1 ∧ KOk B H g k2 ∧ KOk B H h k3 := by
  obtain ⟨x, vr, f1, g1, rfl, rfl, r, n1, o1, cr, t⟩ := a.inv
  obtain ⟨y, vr2, f2, g2, rfl, rfl, r2, n2, o2, cr2, t2⟩ := t.inv
  obtain ⟨z, vr3, f3, g3, rfl, rfl, r3, n3, o3, cr3, t3⟩ := t2.inv
  cases t3
  exact ⟨x, y, z, f1, f2, f3, rfl, r, r2, r3, n1, n2, n3, o1, o2, o3⟩
theorem id_zip3 {ta : TA} {ra : RA} (ha : AD K ta ra) : ID K (WK.iZip3 K ta) (riZip3 ra) := by
  intro B Γ c σ H Qd R E q f
  refine ha B Γ c σ H _ _ E q fun vs H' dks c' fp e g ar q => ?_
  split at q
  · rename_i x k1 y k2 z k3
    split at q
    · rename_i xs ys zs ex ey ez
      obtain ⟨vx, vy, vz, f1, f2, f3, rfl, r1, r2, r3, n1, n2, n3, o1, o2, o3⟩ := ar.three
      have p1 := r1.rp (seqD_ng ex)
      have p2 := r2.rp (seqD_ng ey)
      have p3 := r3.rp (seqD_ng ez)
      obtain ⟨a, us, g1, rfl, sx, rs1, gx⟩ := seq_rp ex p1
      obtain ⟨b, ws, g2, rfl, sy, rs2, gy⟩ := seq_rp ey p2
      obtain ⟨b3, ws3, g3, rfl, sz, rs3, gz⟩ := seq_rp ez p3
      have it : ∀ nl : Bool, (nl = true → noLs xs = true ∧ noLs ys = true ∧ noLs zs = true) → ∀ F', ItOk K F' (WK.Itz3 K (tupB x) (tupB y) (tupB z) a b b3) (zipD3 xs ys zs) nl [(x, .ref a, f1), (y, .ref b, f2), (z, .ref b3, f3)] := fun nl hn F' => by
        refine ⟨fun i d H e h => ?_, fun H h => ?_⟩
        · obtain ⟨_, vs, h1, e1, ea, rs, hg⟩ := seq_rp ex (h _ List.mem_cons_self)
          obtain ⟨_, vs', h1', e1', ea', rs', hg'⟩ := seq_rp ey (h _ (List.mem_cons_of_mem _ List.mem_cons_self))
          obtain ⟨_, vs3, h13, e13, ea3, rs3, hg3⟩ := seq_rp ez (h _ (List.mem_cons_of_mem _ (List.mem_cons_of_mem _ List.mem_cons_self)))
          cases e1; cases e1'; cases e13
          obtain ⟨x, y, z, ex, ey, ez, rfl⟩ := zipD3_get e
          obtain ⟨v, g, q1, q2, q3⟩ := rs.get ex
          obtain ⟨v', g', q1', q2', q3'⟩ := rs'.get ey
          obtain ⟨v3, g3, q13, q23, q33⟩ := rs3.get ez
          refine ⟨⟨vs, vs', vs3, v, v', v3, ea, ea', ea3, q1, q1', q13⟩, fun z H' yy => ?_⟩
          obtain ⟨T, x1, x2, x3, rfl, nT, rfl, y1, y2, y3⟩ := yy
          have ex1 : x1 = v := Option.some.inj ((y1 vs ea).symm.trans q1)
          have ex2 : x2 = v' := Option.some.inj ((y2 vs' ea').symm.trans q1')
          have ex3 : x3 = v3 := Option.some.inj ((y3 vs3 ea3).symm.trans q13)
          subst ex1; subst ex2; subst ex3
          refine ⟨same_upd nT, g ++ (g' ++ g3), rp_tup3 nT q2 q2' q23, fun z hz => ?_, fun hq => ?_⟩
          · rcases List.mem_append.mp hz with hz | hz
            · exact ⟨_, List.mem_cons_self, hg _ (q3.subset hz)⟩
            · rcases List.mem_append.mp hz with hz | hz
              · exact ⟨_, List.mem_cons_of_mem _ List.mem_cons_self, hg' _ (q3'.subset hz)⟩
              · exact ⟨_, List.mem_cons_of_mem _ (List.mem_cons_of_mem _ List.mem_cons_self), hg3 _ (q33.subset hz)⟩
          · rw [q2.nol (noLs_get (hn hq).1 ex), q2'.nol (noLs_get (hn hq).2.1 ey), q23.nol (noLs_get (hn hq).2.2 ez)]; rfl
        · obtain ⟨_, vs, h1, e1, ea, rs, hg⟩ := seq_rp ex (h _ List.mem_cons_self)
          obtain ⟨_, vs', h1', e1', ea', rs', hg'⟩ := seq_rp ey (h _ (List.mem_cons_of_mem _ List.mem_cons_self))
          obtain ⟨_, vs3, h13, e13, ea3, rs3, hg3⟩ := seq_rp ez (h _ (List.mem_cons_of_mem _ (List.mem_cons_of_mem _ List.mem_cons_self)))
          cases e1; cases e1'; cases e13
          refine ⟨vs, vs', vs3, ea, ea', ea3, ?_⟩
          rw [zipD3_length, rs.length, rs'.length, rs3.length]
      have hh : ∀ p ∈ [((x, .ref a, f1) : D × V × List Addr), (y, .ref b, f2), (z, .ref b3, f3)], Rp K B.F H' p.1 p.2.1 p.2.2 ∧ ∀ w ∈ p.2.2, ¬ B.G w ∧ (H w = none ∨ B.F w ∨ ∃ i, B.O i w) ∧ ((seqS x k1 && (seqS y k2 && seqS z k3)) = true → B.F w ∨ H w = none) :=
        held_c p1 n1 o1 (fun h => seqS_ok ex p1 o1 (Bool.and_eq_true_iff.mp h).1) (held_c p2 n2 o2 (fun h => seqS_ok ey p2 o2 (Bool.and_eq_true_iff.mp (Bool.and_eq_true_iff.mp h).2).1) (held_c p3 n3 o3 (fun h => seqS_ok ez p3 o3 (Bool.and_eq_true_iff.mp (Bool.and_eq_true_iff.mp h).2).2) fun _ h => nomatch h))
      refine ⟨tupB x, tupB y, tupB z, a, b, b3, us, ws, ws3, rfl, sx, sy, sz, ?_⟩
      rcases nl_or (P := fun b => Qd _ b _ c') q with ⟨nl, q⟩ | q
      · have nl' := Bool.and_eq_true_iff.mp nl
        exact f _ H' _ true _ c' _ e g hh (it true fun _ => ⟨nl'.1, Bool.and_eq_true_iff.mp nl'.2⟩) q
      · exact f _ H' _ false _ c' _ e g hh (it false fun z => nomatch z) q
    · exact q.elim
  · exact q.elim
theorem enumD_get {i : Nat} : ∀ {n : Nat} {xs : List D}, (enumD n xs)[i]? = some d → ∃ x, xs[i]? = some x ∧ d = .tup [.int ((n + i : Nat) : Int), x]
  | _, [], e => by simp [enumD] at e
  | n, x :: xs, e => by
    cases i with
    | zero => cases e; exact ⟨x, rfl, rfl⟩
    | succ i =>
      obtain ⟨y, h1, h2⟩ := enumD_get (i := i) (n := n + 1) (xs := xs) e
      exact ⟨y, h1, by rw [h2]; congr 3; omega⟩
theorem enumD_length : ∀ {n : Nat} {xs : List D}, (enumD n xs).length = xs.length
  | _, [] => rfl
  | n, x :: xs => by show (enumD (n + 1) xs).length + 1 = xs.length + 1; rw [enumD_length]
theorem id_enum {ta : TA} {ra : RA} (ha : AD K ta ra) : ID K (WK.iEnumA K ta) (riEnum ra) := by
  intro B Γ c σ H Qd R E q f
  refine ha B Γ c σ H _ _ E q fun vs H' dks c' fp e g ar q => ?_
  split at q
  · rename_i x k1
    split at q
    · rename_i xs ex
      obtain ⟨vx, rfl, r1, n1, o1⟩ := ar.one
      have p1 := r1.rp (seqD_ng ex)
      obtain ⟨a, us, g1, rfl, sx, rs1, gx⟩ := seq_rp ex p1
      have it : ∀ nl : Bool, (nl = true → noLs xs = true) → ∀ F', ItOk K F' (WK.Itn K (tupB x) a) (enumD 0 xs) nl [(x, .ref a, fp)] := fun nl hn F' => by
        refine ⟨fun i d H e h => ?_, fun H h => ?_⟩
        · obtain ⟨_, vs, h1, e1, ea, rs, hg⟩ := seq_rp ex (h _ List.mem_cons_self)
          cases e1
          obtain ⟨x, ex, rfl⟩ := enumD_get e
          obtain ⟨v, g, q1, q2, q3⟩ := rs.get ex
          refine ⟨⟨vs, v, ea, q1⟩, fun z H' yy => ?_⟩
          obtain ⟨T, x1, rfl, nT, rfl, y1⟩ := yy
          have ex1 : x1 = v := Option.some.inj ((y1 vs ea).symm.trans q1)
          subst ex1
          refine ⟨same_upd nT, [] ++ g, by rw [Nat.zero_add]; exact rp_tup2 nT rp_int q2, fun z hz => ⟨_, List.mem_cons_self, hg _ (q3.subset hz)⟩, fun hq => by rw [q2.nol (noLs_get (hn hq) ex)]; rfl⟩
        · obtain ⟨_, vs, h1, e1, ea, rs, hg⟩ := seq_rp ex (h _ List.mem_cons_self)
          cases e1
          exact ⟨vs, ea, by rw [enumD_length, rs.length]⟩
      refine ⟨tupB x, a, us, rfl, sx, ?_⟩
      rcases nl_or (P := fun b => Qd _ b _ c') q with ⟨nl1, q⟩ | q
      · exact f _ H' _ true _ c' _ e g (held_c p1 n1 o1 (fun h => seqS_ok ex p1 o1 h) fun _ h => absurd h List.not_mem_nil) (it true fun _ => nl1) q
      · exact f _ H' _ false _ c' _ e g (held_c p1 n1 o1 (fun h => seqS_ok ex p1 o1 h) fun _ h => absurd h List.not_mem_nil) (it false fun z => nomatch z) q
    · exact q.elim
  · exact q.elim
end
end DL
namespace DL
open PySem PySem.Spec L2

/-! ### comprehensions -/
def rYes : RT := fun _ c Q => Q true c
def itK (nl st : Bool) : Kd := if nl = true then .R [] else if st = true then .S else .B
def elOk (e : D) (k : Kd) (sh st : Bool) : Bool := noL e || (nsD e && (match k with
  | .R [] => true
  | .S => sh && st
  | _ => false))
theorem elOk.or {e : D} {k : Kd} {sh st : Bool} (h : elOk e k sh st = true) : noL e = true ∨ k = .R [] ∨ (sh = true ∧ st = true ∧ k = .S) := by
  unfold elOk at h
  rcases Bool.or_eq_true_iff.mp h with h | h
  · exact .inl h
  · have h := (Bool.and_eq_true_iff.mp h).2
    split at h
    · exact .inr (.inl rfl)
    · exact .inr (.inr ⟨(Bool.and_eq_true_iff.mp h).1, (Bool.and_eq_true_iff.mp h).2, rfl⟩)
    · cases h
theorem elOk.ns {e : D} {k : Kd} {sh st : Bool} (h : elOk e k sh st = true) : nsD e = true := by
  unfold elOk at h
  rcases Bool.or_eq_true_iff.mp h with h | h
  · exact nsD_of h
  · exact (Bool.and_eq_true_iff.mp h).1
def rLc (vs : List Nat) (ri : RI) (rg : RG) (rt : RT) (re : RE) : RE := fun Γ c Q => ri Γ c fun ds nl st c1 => ds.length ≤ 1000000 ∧ ∃ (sh : Bool) (I : Nat → List D → Nat → Prop), I 0 [] c1 ∧
  (∀ i d acc c', ds[i]? = some d → acc.length ≤ i → I i acc c' → rg d (itK nl st) (kills vs Γ) fun Γ2 => rt Γ2 c' fun b c2 =>
    if b = true then re Γ2 c2 fun e k c3 => e ≠ .gen ∧ elOk e k sh st = true ∧ I (i + 1) (acc ++ [e]) c3 else I (i + 1) acc c2) ∧
  ∀ acc c', I ds.length acc c' → Q (.lst acc) (if sh = true then .S else .R []) c'
section
variable {K : PySem.W.Frag} {B : Bx} {Γ : GE} {σ σ' : L2.St} {H H' : Hp} {c c' : Nat} {fp : List Addr} {k : Kd} {d : D} {v : V} {ds : List D} {vs : List V}
theorem td_yes : TD K tYes rYes := fun _ _ _ _ H _ _ E h f => f true H _ (Ext.refl H) E.gens h
theorem wipe_get : ∀ {is : List Nat} {j : Nat}, j ∉ is → (wipe σ is)[j]? = σ[j]?
  | [], _, _ => rfl
  | i :: r, j, h => by
    show ((wipe σ r).set i none)[j]? = _
    rw [st_set fun e => h (by simp [e]), wipe_get fun z => h (List.mem_cons_of_mem _ z)]
theorem wipe_in : ∀ {is : List Nat} {j : Nat}, j ∈ is → j < σ.length → (wipe σ is)[j]? = some none
  | i :: r, j, h, hl => by
    show ((wipe σ r).set i none)[j]? = _
    by_cases e : j = i
    · subst e
      exact List.getElem?_set_self (by rw [wipe_length]; exact hl)
    · rw [st_set e]
      exact wipe_in ((List.mem_cons.mp h).resolve_left e) hl
theorem wipe_eq {is : List Nat} (hl : σ'.length = σ.length) (h : ∀ j, j ∉ is → σ'[j]? = σ[j]?) : wipe σ' is = wipe σ is := by
  apply List.ext_getElem?
  intro j
  by_cases hj : j ∈ is
  · by_cases hlt : j < σ.length
    · rw [wipe_in hj hlt, wipe_in hj (by omega)]
    · rw [List.getElem?_eq_none (by rw [wipe_length]; omega), List.getElem?_eq_none (by rw [wipe_length]; omega)]
  · rw [wipe_get hj, wipe_get hj, h j hj]
theorem Env.wipe (E : Env K B Γ c σ H) (is : List Nat) : Env K B (kills is Γ) c (L2.wipe σ is) H := ⟨by rw [wipe_length, kills_length]; exact E.len, E.gens, E.ext0, E.gsub, E.gnew, E.fg, E.fl, E.fn, E.pl, E.ol, E.hl, fun j s e => by
  obtain ⟨nj, e⟩ := gat_kills e
  obtain ⟨u, f, h1, h2, h3⟩ := E.slot j s e
  exact ⟨u, f, by rw [wipe_get nj]; exact h1, h2, h3⟩⟩
theorem ed_lc {is tg : List Nat} {wi : TI} {ri : RI} {g : TG} {rg : RG} {tt : TT} {rt : RT} {te : TE} {re : RE} (hi : ID K wi ri) (hg : GD K tg g rg) (ht : TD K tt rt) (he : ED K te re) (htg : ∀ j ∈ tg, j ∈ is) :
    ED K (tLc wi g tt te is) (rLc is ri rg rt re) := by
  intro B Γ c σ H Qd Q E q f
  refine hi B Γ c σ H _ _ E q fun J H1 ds nl st c1 hs e1 g1 hh it q => ?_
  obtain ⟨hlen, sh, I, i0, turn, done⟩ := q
  intro Da nD
  have E1 := E.ext e1 g1
  have nG : ¬ B.G Da := fun z => by
    obtain ⟨vs, e, _⟩ := g1.lsts Da z
    rw [nD] at e; cases e
  have nDs : H Da = none := new_back E e1 g1.lsts nD
  -- what the list holds so far
  let Acc : List D → Hp → Prop := fun acc H2 => ∃ vs fp, H2 Da = some (.lst vs) ∧ Rps K B.F H2 acc vs fp ∧ (∀ a ∈ fp, ¬ B.G a ∧ a ≠ Da) ∧ KOk B H fp (if sh = true then .S else .R [])
  let W : Nat → Hp → Prop := fun i H2 => ∃ acc c', Acc acc H2 ∧ Ext B.G H1 H2 ∧ GensOk B.G H2 c' ∧ acc.length ≤ i ∧ I i acc c'
  have s1 : Same H1 (upd H1 Da (.lst [])) := same_upd nD
  refine ⟨fun i m H2 => m = ds.length - i ∧ i ≤ ds.length ∧ W i H2, ⟨_, rfl, Nat.zero_le _, [], c1, ⟨[], [], upd_same, ⟨rfl, rfl⟩, fun _ h => (nomatch h), ?_⟩, Ext.same s1, g1.same s1, Nat.zero_le _, i0⟩, ?_⟩
  · cases sh with
    | true => exact fun _ h => nomatch h
    | false => exact kok0
  rintro i m H2 ⟨rfl, hi, acc, c2, ⟨vs, fp, eD, rs, nfp, ok⟩, e2, g2, hacc, iv⟩
  have hld : ∀ p ∈ hs, Rp K B.F H2 p.1 p.2.1 p.2.2 := fun p hp => (hh p hp).1.ext g1.lsts E.fg e2 fun a ha => ((hh p hp).2 a ha).1
  have it := it B.F
  by_cases hlt : i < ds.length
  · obtain ⟨go, step⟩ := it.go i ds[i] H2 (List.getElem?_eq_getElem hlt) hld
    refine .inr ⟨go, fun H' => W (i + 1) H', fun H' h => ⟨_, by omega, rfl, hlt, h⟩, fun x H3 y => ?_⟩
    obtain ⟨sm, fx, rx, fh, fn⟩ := step x H3 y
    have E3 : Env K B (kills is Γ) c2 (L2.wipe σ is) H3 := ((E1.ext e2 g2).ext (Ext.same sm) (g2.same sm)).wipe is
    have stx : StK B fx (itK nl st) := by
      unfold itK
      cases nl with
      | true => rw [if_pos rfl, fn rfl]; exact ⟨List.nodup_nil, fun _ h => nomatch h⟩
      | false =>
        rw [if_neg Bool.false_ne_true]
        cases st with
        | true =>
          rw [if_pos rfl]
          intro a ha
          obtain ⟨p, hp, hm⟩ := fh a ha
          obtain ⟨w1, _, w3⟩ := (hh p hp).2 a hm
          refine ⟨⟨w1, fun j z => ?_⟩, (w3 rfl).elim (E.fn a) fun w => .inr (.inl (E.h0 w))⟩
          rcases w3 rfl with w | w
          · exact (E.ol j a z).2.1 w
          · obtain ⟨⟨o, e⟩, _⟩ := E.ol j a z
            rw [w] at e; cases e
        | false =>
          rw [if_neg Bool.false_ne_true]
          intro a ha
          obtain ⟨p, hp, hm⟩ := fh a ha
          exact ((hh p hp).2 a hm).1
    refine hg B (kills is Γ) c2 (L2.wipe σ is) H3 ds[i] x fx _ _ _ E3 (.inl rx) stx (turn i _ acc c2 (List.getElem?_eq_getElem hlt) hacc iv) fun B' Γ' σ' l E4 q2 ⟨_, fF, _⟩ ⟨wl, wa⟩ => ?_
    refine ⟨?_, ?_⟩
    · have := wipe_eq (is := is) (σ := L2.wipe σ is) (σ' := σ') wl fun j hj => wa j fun z => hj (htg j z)
      rw [this]
      exact wipe_eq (by rw [wipe_length]) fun j hj => wipe_get hj
    refine ht B' Γ' c2 σ' H3 _ _ E4 q2 fun b H4 c4 e4 g4 q4 => ?_
    rw [l.G] at e4 g4
    have e24 : Ext B.G H2 H4 := (Ext.same sm).trans e4
    have rs4 : Rps K B.F H4 acc vs fp := rs.ext g2.lsts E.fg e24 fun a ha => (nfp a ha).1
    cases b with
    | false =>
      rw [if_neg Bool.false_ne_true] at q4 ⊢
      exact ⟨acc, c4, ⟨vs, fp, e24 Da _ eD nG, rs4, nfp, ok⟩, e2.trans e24, g4, by omega, q4⟩
    | true =>
      rw [if_pos rfl] at q4 ⊢
      have E5 := E4.ext (by rw [l.G]; exact e4) (by rw [l.G]; exact g4)
      refine he B' Γ' c4 σ' H4 _ _ E5 q4 fun y H5 e k c5 x5 q5 => ?_
      obtain ⟨ne, hk, q5⟩ := q5
      have e5 : Ext B.G H4 H5 := by have := x5.ext; rw [l.G] at this; exact this
      have g5 : GensOk B.G H5 c5 := by have := x5.gens; rw [l.G] at this; exact this
      obtain ⟨fe, re, nge, oke⟩ := x5.rp
      have re : Rp K B.F H5 e y fe := (re.rp ne).anyF (elOk.ns hk)
      have eD5 : H5 Da = some (.lst vs) := e5 Da _ (e24 Da _ eD nG) nG
      refine ⟨vs, eD5, by rw [rs.length]; have := sizeLine_eq; omega, ?_⟩
      have rs5 : Rps K B.F H5 acc vs fp := rs4.ext g4.lsts E.fg e5 fun a ha => (nfp a ha).1
      -- what the new item's lists are
      have key : (∀ a ∈ fe, a ≠ Da) ∧ KOk B H (fp ++ fe) (if sh = true then .S else .R []) := by
        have new4 : ∀ a, H4 a = none → H a = none := fun a h => new_back E ((e1.trans e2).trans e24) g4.lsts h
        have nd4 : ∀ a, H4 a = none → a ≠ Da := fun a h z => by
          rw [z, e24 Da _ eD nG] at h; cases h
        have at4 : ∀ a ∈ fp, ∃ o, H4 a = some o ∧ isMut o = true := rs4.at
        have caseR : KOk B' H4 fe (.R []) → (∀ a ∈ fe, a ≠ Da) ∧ KOk B H (fp ++ fe) (if sh = true then .S else .R []) := fun ok2 => by
          have nw : ∀ a ∈ fe, H4 a = none := fun a ha => (ok2.2 a ha).elim id fun ⟨_, z, _⟩ => nomatch z
          refine ⟨fun a ha => nd4 a (nw a ha), ?_⟩
          cases sh with
          | true =>
            intro a ha
            rcases List.mem_append.mp ha with ha | ha
            · exact ok a ha
            · exact .inr (new4 a (nw a ha))
          | false =>
            refine ⟨List.nodup_append.mpr ⟨ok.1, ok2.1, fun a ha b hb z => ?_⟩, fun a ha => ?_⟩
            · subst z
              obtain ⟨vs, e, _⟩ := at4 a ha
              rw [nw a hb] at e; cases e
            · rcases List.mem_append.mp ha with ha | ha
              · exact ok.2 a ha
              · exact .inl (new4 a (nw a ha))
        rcases elOk.or hk with h | rfl | ⟨rfl, hst, rfl⟩
        · have e0 : fe = [] := re.nol h
          subst e0
          exact caseR kok0
        · exact caseR oke
        · have cl : ∀ a ∈ fe, B.F a ∨ H a = none := fun a ha => by
            rcases oke a ha with z | z
            · rcases fF a z with z | z
              · exact .inl z
              · obtain ⟨p, hp, hm⟩ := fh a z
                exact ((hh p hp).2 a hm).2.2 hst
            · exact .inr (new4 a z)
          refine ⟨fun a ha z => ?_, fun a ha => ?_⟩
          · rcases oke a ha with w | w
            · rcases fF a w with w | w
              · obtain ⟨o, e⟩ := E.fl a w
                rw [z, nDs] at e; cases e
              · obtain ⟨p, hp, hm⟩ := fh a w
                obtain ⟨vs, e, _⟩ := (hh p hp).1.at a hm
                rw [z, nD] at e; cases e
            · exact nd4 a w z
          · rcases List.mem_append.mp ha with ha | ha
            · exact ok a ha
            · exact cl a ha
      have up : Ext (fun b => b = Da) H5 (upd H5 Da (.lst (vs ++ [y]))) := ext_upd
      have lD : Lsts (fun b => b = Da) H5 := fun a z => by subst z; exact ⟨_, eD5, rfl⟩
      have fD : ∀ a, B.F a → ¬ a = Da := fun a fa z => by
        obtain ⟨o, e⟩ := E.fl a fa
        rw [z, nDs] at e; cases e
      refine ⟨acc ++ [e], c5, ⟨vs ++ [y], fp ++ fe, upd_same, (rs5.ext lD fD up fun a ha => (nfp a ha).2).append (Rps.one (re.ext lD fD up fun a ha => key.1 a ha)), fun a ha => ?_, key.2⟩, fun b o h n => ?_, fun a ha => ?_, by rw [List.length_append]; simp; omega, q5⟩
      · rcases List.mem_append.mp ha with ha | ha
        · exact nfp a ha
        · exact ⟨by have := nge a ha; rw [l.G] at this; exact this, key.1 a ha⟩
      · have nb : b ≠ Da := fun z => by rw [z, nD] at h; cases h
        rw [upd_ne nb]
        exact (e2.trans (e24.trans e5)) b o h n
      · have na : a ≠ Da := fun z => nG (z ▸ ha)
        obtain ⟨x, y, z, ex, r⟩ := g5 a ha
        exact ⟨x, y, z, by rw [upd_ne na]; exact ex, r⟩
  · have e : i = ds.length := by omega
    subst e
    refine .inl ⟨it.stop H2 hld, f (.ref Da) H2 (.lst acc) _ c2 ⟨e1.trans e2, g2, Da :: fp, .inl (by rw [Rp]; exact ⟨Da, vs, fp, rfl, eD, rfl, rs⟩), fun a ha => (List.mem_cons.mp ha).elim (fun z => z ▸ nG) fun z => (nfp a z).1, ?_⟩ (done acc c2 iv)⟩
    cases sh with
    | true => exact fun a ha => (List.mem_cons.mp ha).elim (fun z => .inr (z ▸ nDs)) (ok a)
    | false => exact ⟨List.nodup_cons.mpr ⟨fun z => (nfp Da z).2 rfl, ok.1⟩, fun a ha => (List.mem_cons.mp ha).elim (fun z => .inl (z ▸ nDs)) (ok.2 a)⟩
end

/-! ### places within a datum -/
/-- what stands at place n of the thing at v -/
def Kid (H : Hp) (v : V) (n : Nat) (w : V) : Prop := ∃ a, v = .ref a ∧ ((∃ vs, H a = some (.lst vs) ∧ vs[n]? = some w) ∨ (∃ kvs, H a = some (.dK kvs) ∧ (kvs.map (·.2))[n]? = some w) ∨ (∃ kvs, H a = some (.dT kvs) ∧ (kvs.map (·.2))[n]? = some w) ∨ (∃ C dx fs, H a = some (.ins C dx fs) ∧ (fs.map (·.2))[n]? = some w) ∨ ∃ vs, H a = some (.tup vs) ∧ vs[n]? = some w)
def Pth (H : Hp) : V → List Nat → V → Prop
  | v, [], u => u = v
  | v, n :: π, u => ∃ w, Kid H v n w ∧ Pth H w π u
def subD : D → List Nat → Option D
  | d, [] => some d
  | .lst ds, n :: π => (ds[n]?).bind fun e => subD e π
  | .dct _ _ ds, n :: π => (ds[n]?).bind fun e => subD e π
  | .obj _ _ ds, n :: π => (ds[n]?).bind fun e => subD e π
  | .tup ds, n :: π => (ds[n]?).bind fun e => subD e π
  | _, _ => none
def putD : D → List Nat → D → D
  | _, [], x => x
  | .lst ds, n :: π, x => .lst (ds.set n (putD (ds.getD n .non) π x))
  | .dct t ks ds, n :: π, x => .dct t ks (ds.set n (putD (ds.getD n .non) π x))
  | .obj C ns ds, n :: π, x => .obj C ns (ds.set n (putD (ds.getD n .non) π x))
  | .tup ds, n :: π, x => .tup (ds.set n (putD (ds.getD n .non) π x))
  | d, _, _ => d
section
variable {K : PySem.W.Frag} {F : Addr → Prop} {H H' : Hp}
theorem zip_snd {α : Type} : ∀ {ks : List α} {us : List V}, ks.length = us.length → (ks.zip us).map (·.2) = us
  | [], [], _ => rfl
  | _ :: ks, _ :: us, h => by
    show _ :: (ks.zip us).map (·.2) = _
    rw [zip_snd (Nat.succ.inj h)]
theorem ext_sub {g : List Addr} {f1 f2 : List Addr} (up : Ext (fun a => a ∈ g) H H') (hl : Lsts (fun a => a ∈ g) H) (hF : ∀ a, F a → a ∉ g) (nd : (f1 ++ (g ++ f2)).Nodup) {e : D} {u : V} {h : List Addr} (hh : ∀ a ∈ h, a ∈ f1 ∨ a ∈ f2) (r : Rp K F H e u h) : Rp K F H' e u h := by
  refine r.ext hl hF up fun a ha hg => ?_
  have n1 := List.nodup_append.mp nd
  have n2 := List.nodup_append.mp n1.2.1
  rcases hh a ha with z | z
  · exact n1.2.2 a z a (List.mem_append_left _ hg) rfl
  · exact n2.2.2 a hg a z rfl
/-- the thing at a place, its things within, and how the whole is made again -/
theorem foc : ∀ {π : List Nat} {d e : D} {v u : V} {fp : List Addr}, Rp K F H d v fp → fp.Nodup → Pth H v π u → subD d π = some e →
    ∃ f1 g f2, fp = f1 ++ (g ++ f2) ∧ Rp K F H e u g ∧ ∀ (H' : Hp) (e' : D) (g' : List Addr), Ext (fun a => a ∈ g) H H' → (∀ a, F a → a ∉ g) → Rp K F H' e' u g' → Rp K F H' (putD d π e') v (f1 ++ (g' ++ f2))
  | [], d, e, v, u, fp, r, nd, pt, hs => by
    have hs : some d = some e := by cases d <;> exact hs
    cases hs
    have pt : u = v := pt
    subst pt
    refine ⟨[], fp, [], by simp, r, fun H' e' g' _ _ r' => ?_⟩
    have ep : putD d [] e' = e' := by cases d <;> rfl
    rw [ep]
    simpa using r'
  | n :: π, .lst ds, e, v, u, fp, r, nd, pt, hs => by
    rw [Rp] at r
    obtain ⟨a, vs, f, rfl, ea, rfl, rs⟩ := r
    obtain ⟨w, ⟨b, eb, hk⟩, pt⟩ := pt
    cases eb
    have hw : vs[n]? = some w := by
      rcases hk with ⟨_, e2, hw⟩ | ⟨_, e2, _⟩ | ⟨_, e2, _⟩ | ⟨_, _, _, e2, _⟩ | ⟨_, e2, _⟩
      · rw [ea] at e2; cases e2; exact hw
      · rw [ea] at e2; cases e2
      · rw [ea] at e2; cases e2
      · rw [ea] at e2; cases e2
      · rw [ea] at e2; cases e2
    have hs : (ds[n]?).bind (fun e => subD e π) = some e := hs
    obtain ⟨d1, h1, h2⟩ := Option.bind_eq_some_iff.mp hs
    obtain ⟨w', f1, g, f2, q1, q2, rfl, q3⟩ := rs.get3 h1
    rw [hw] at q1; cases q1
    have ndf := (List.nodup_cons.mp nd).2
    have ndg : g.Nodup := (List.nodup_append.mp (List.nodup_append.mp ndf).2.1).1
    obtain ⟨f3, g2, f4, rfl, r2, mk⟩ := foc q2 ndg pt h2
    have nd2 : (((a :: f1) ++ f3) ++ (g2 ++ (f4 ++ f2))).Nodup := by simpa [List.append_assoc] using nd
    refine ⟨(a :: f1) ++ f3, g2, f4 ++ f2, by simp [List.append_assoc], r2, fun H' e' g' up hF r' => ?_⟩
    have hl : Lsts (fun a => a ∈ g2) H := fun x hx => r2.at x hx
    have rs' := q3 H' (putD d1 π e') w (f3 ++ (g' ++ f4)) (fun x y h hh r => ext_sub (f1 := (a :: f1) ++ f3) (f2 := f4 ++ f2) up hl hF nd2 (fun z hz => (hh z hz).imp (fun q => List.mem_append_left _ (List.mem_cons_of_mem _ q)) fun q => List.mem_append_right _ q) r) (mk H' e' g' up hF r')
    have ng : a ∉ g2 := fun z => (List.nodup_append.mp nd2).2.2 a (List.mem_append_left _ List.mem_cons_self) a (List.mem_append_left _ z) rfl
    have eg : ds.getD n .non = d1 := by rw [List.getD_eq_getElem?_getD, h1]; rfl
    show Rp K F H' (.lst (ds.set n (putD (ds.getD n .non) π e'))) (.ref a) _
    rw [Rp, eg]
    have ev : vs.set n w = vs := by
      apply List.ext_getElem?
      intro j
      by_cases hj : j = n
      · subst hj
        rw [List.getElem?_set_self (List.getElem?_eq_some_iff.mp hw).1, hw]
      · rw [List.getElem?_set_ne (Ne.symm hj)]
    rw [ev] at rs'
    exact ⟨a, vs, f1 ++ (f3 ++ (g' ++ f4) ++ f2), rfl, up a _ ea ng, by simp [List.append_assoc], rs'⟩
  | n :: π, .dct t ks ds, e, v, u, fp, r, nd, pt, hs => by
    rw [Rp] at r
    obtain ⟨a, vs, f, rfl, da, rfl, hkl, rs⟩ := r
    obtain ⟨w, ⟨b, eb, hk⟩, pt⟩ := pt
    cases eb
    have hw : vs[n]? = some w := by
      rcases da with ⟨_, ea⟩ | ⟨_, kk, ek, ea⟩
      · rcases hk with ⟨_, e2, hw⟩ | ⟨_, e2, hw⟩ | ⟨_, e2, hw⟩ | ⟨_, _, _, e2, _⟩ | ⟨_, e2, _⟩
        · rw [ea] at e2; cases e2
        · rw [ea] at e2; cases e2
        · rw [ea] at e2; cases e2; rw [zip_snd hkl.1] at hw; exact hw
        · rw [ea] at e2; cases e2
        · rw [ea] at e2; cases e2
      · have zl : kk.length = vs.length := by rw [← hkl.1, ek, List.length_map]
        rcases hk with ⟨_, e2, hw⟩ | ⟨_, e2, hw⟩ | ⟨_, e2, _⟩ | ⟨_, _, _, e2, _⟩ | ⟨_, e2, _⟩
        · rw [ea] at e2; cases e2
        · rw [ea] at e2; cases e2; rw [zip_snd zl] at hw; exact hw
        · rw [ea] at e2; cases e2
        · rw [ea] at e2; cases e2
        · rw [ea] at e2; cases e2
    have hs : (ds[n]?).bind (fun e => subD e π) = some e := hs
    obtain ⟨d1, h1, h2⟩ := Option.bind_eq_some_iff.mp hs
    obtain ⟨w', f1, g, f2, q1, q2, rfl, q3⟩ := rs.get3 h1
    rw [hw] at q1; cases q1
    have ndf := (List.nodup_cons.mp nd).2
    have ndg : g.Nodup := (List.nodup_append.mp (List.nodup_append.mp ndf).2.1).1
    obtain ⟨f3, g2, f4, rfl, r2, mk⟩ := foc q2 ndg pt h2
    have nd2 : (((a :: f1) ++ f3) ++ (g2 ++ (f4 ++ f2))).Nodup := by simpa [List.append_assoc] using nd
    refine ⟨(a :: f1) ++ f3, g2, f4 ++ f2, by simp [List.append_assoc], r2, fun H' e' g' up hF r' => ?_⟩
    have hl : Lsts (fun a => a ∈ g2) H := fun x hx => r2.at x hx
    have rs' := q3 H' (putD d1 π e') w (f3 ++ (g' ++ f4)) (fun x y h hh r => ext_sub (f1 := (a :: f1) ++ f3) (f2 := f4 ++ f2) up hl hF nd2 (fun z hz => (hh z hz).imp (fun q => List.mem_append_left _ (List.mem_cons_of_mem _ q)) fun q => List.mem_append_right _ q) r) (mk H' e' g' up hF r')
    have ng : a ∉ g2 := fun z => (List.nodup_append.mp nd2).2.2 a (List.mem_append_left _ List.mem_cons_self) a (List.mem_append_left _ z) rfl
    have eg : ds.getD n .non = d1 := by rw [List.getD_eq_getElem?_getD, h1]; rfl
    show Rp K F H' (.dct t ks (ds.set n (putD (ds.getD n .non) π e'))) (.ref a) _
    rw [Rp, eg]
    have ev : vs.set n w = vs := by
      apply List.ext_getElem?
      intro j
      by_cases hj : j = n
      · subst hj
        rw [List.getElem?_set_self (List.getElem?_eq_some_iff.mp hw).1, hw]
      · rw [List.getElem?_set_ne (Ne.symm hj)]
    rw [ev] at rs'
    exact ⟨a, vs, f1 ++ (f3 ++ (g' ++ f4) ++ f2), rfl, da.at fun o q => up a o q ng, by simp [List.append_assoc], hkl, rs'⟩
  | n :: π, .obj C ns ds, e, v, u, fp, r, nd, pt, hs => by
    rw [Rp] at r
    obtain ⟨a, dx, vs, f, rfl, ea, ex, rfl, hkl, rs⟩ := r
    obtain ⟨w, ⟨b, eb, hk⟩, pt⟩ := pt
    cases eb
    have hw : vs[n]? = some w := by
      rcases hk with ⟨_, e2, hw⟩ | ⟨_, e2, _⟩ | ⟨_, e2, _⟩ | ⟨_, _, _, e2, hw⟩ | ⟨_, e2, _⟩
      · rw [ea] at e2; cases e2
      · rw [ea] at e2; cases e2
      · rw [ea] at e2; cases e2
      · rw [ea] at e2; cases e2; rw [zip_snd hkl] at hw; exact hw
      · rw [ea] at e2; cases e2
    have hs : (ds[n]?).bind (fun e => subD e π) = some e := hs
    obtain ⟨d1, h1, h2⟩ := Option.bind_eq_some_iff.mp hs
    obtain ⟨w', f1, g, f2, q1, q2, rfl, q3⟩ := rs.get3 h1
    rw [hw] at q1; cases q1
    have ndf := (List.nodup_cons.mp (List.nodup_cons.mp nd).2).2
    have ndg : g.Nodup := (List.nodup_append.mp (List.nodup_append.mp ndf).2.1).1
    obtain ⟨f3, g2, f4, rfl, r2, mk⟩ := foc q2 ndg pt h2
    have nd2 : (((a :: dx :: f1) ++ f3) ++ (g2 ++ (f4 ++ f2))).Nodup := by simpa [List.append_assoc] using nd
    refine ⟨(a :: dx :: f1) ++ f3, g2, f4 ++ f2, by simp [List.append_assoc], r2, fun H' e' g' up hF r' => ?_⟩
    have hl : Lsts (fun a => a ∈ g2) H := fun x hx => r2.at x hx
    have rs' := q3 H' (putD d1 π e') w (f3 ++ (g' ++ f4)) (fun x y h hh r => ext_sub (f1 := (a :: dx :: f1) ++ f3) (f2 := f4 ++ f2) up hl hF nd2 (fun z hz => (hh z hz).imp (fun q => List.mem_append_left _ (List.mem_cons_of_mem _ (List.mem_cons_of_mem _ q))) fun q => List.mem_append_right _ q) r) (mk H' e' g' up hF r')
    have ng : a ∉ g2 := fun z => (List.nodup_append.mp nd2).2.2 a (List.mem_append_left _ List.mem_cons_self) a (List.mem_append_left _ z) rfl
    have ngx : dx ∉ g2 := fun z => (List.nodup_append.mp nd2).2.2 dx (List.mem_append_left _ (List.mem_cons_of_mem _ List.mem_cons_self)) dx (List.mem_append_left _ z) rfl
    have eg : ds.getD n .non = d1 := by rw [List.getD_eq_getElem?_getD, h1]; rfl
    show Rp K F H' (.obj C ns (ds.set n (putD (ds.getD n .non) π e'))) (.ref a) _
    rw [Rp, eg]
    have ev : vs.set n w = vs := by
      apply List.ext_getElem?
      intro j
      by_cases hj : j = n
      · subst hj
        rw [List.getElem?_set_self (List.getElem?_eq_some_iff.mp hw).1, hw]
      · rw [List.getElem?_set_ne (Ne.symm hj)]
    rw [ev] at rs'
    exact ⟨a, dx, vs, f1 ++ (f3 ++ (g' ++ f4) ++ f2), rfl, up a _ ea ng, up dx _ ex ngx, by simp [List.append_assoc], hkl, rs'⟩
  | n :: π, .tup ds, e, v, u, fp, r, nd, pt, hs => by
    rw [Rp] at r
    obtain ⟨a, vs, rfl, eq0, rs⟩ := r
    have ea : H a = some (.tup vs) := eq0
    obtain ⟨w, ⟨b, eb, hk⟩, pt⟩ := pt
    cases eb
    have hw : vs[n]? = some w := by
      rcases hk with ⟨_, e2, _⟩ | ⟨_, e2, _⟩ | ⟨_, e2, _⟩ | ⟨_, _, _, e2, _⟩ | ⟨_, e2, hw⟩
      · rw [ea] at e2; cases e2
      · rw [ea] at e2; cases e2
      · rw [ea] at e2; cases e2
      · rw [ea] at e2; cases e2
      · rw [ea] at e2; cases e2; exact hw
    have hs : (ds[n]?).bind (fun e => subD e π) = some e := hs
    obtain ⟨d1, h1, h2⟩ := Option.bind_eq_some_iff.mp hs
    obtain ⟨w', f1, g, f2, q1, q2, rfl, q3⟩ := rs.get3 h1
    rw [hw] at q1; cases q1
    have ndg : g.Nodup := (List.nodup_append.mp (List.nodup_append.mp nd).2.1).1
    obtain ⟨f3, g2, f4, rfl, r2, mk⟩ := foc q2 ndg pt h2
    have nd2 : ((f1 ++ f3) ++ (g2 ++ (f4 ++ f2))).Nodup := by simpa [List.append_assoc] using nd
    refine ⟨f1 ++ f3, g2, f4 ++ f2, by simp [List.append_assoc], r2, fun H' e' g' up hF r' => ?_⟩
    have hl : Lsts (fun a => a ∈ g2) H := fun x hx => r2.at x hx
    have rs' := q3 H' (putD d1 π e') w (f3 ++ (g' ++ f4)) (fun x y h hh r => ext_sub (f1 := f1 ++ f3) (f2 := f4 ++ f2) up hl hF nd2 (fun z hz => (hh z hz).imp (fun q => List.mem_append_left _ q) fun q => List.mem_append_right _ q) r) (mk H' e' g' up hF r')
    have eg : ds.getD n .non = d1 := by rw [List.getD_eq_getElem?_getD, h1]; rfl
    show Rp K F H' (.tup (ds.set n (putD (ds.getD n .non) π e'))) (.ref a) _
    rw [Rp, eg]
    have ev : vs.set n w = vs := by
      apply List.ext_getElem?
      intro j
      by_cases hj : j = n
      · subst hj
        rw [List.getElem?_set_self (List.getElem?_eq_some_iff.mp hw).1, hw]
      · rw [List.getElem?_set_ne (Ne.symm hj)]
    rw [ev] at rs'
    exact ⟨a, vs, rfl, sqT_ext hl up eq0, by simpa [List.append_assoc] using rs'⟩
  | _ :: _, .non, _, _, _, _, _, _, _, hs => nomatch hs
  | _ :: _, .bl _, _, _, _, _, _, _, _, hs => nomatch hs
  | _ :: _, .int _, _, _, _, _, _, _, _, hs => nomatch hs
  | _ :: _, .str _, _, _, _, _, _, _, _, hs => nomatch hs
  | _ :: _, .ty _, _, _, _, _, _, _, _, hs => nomatch hs
  | _ :: _, .scr _, _, _, _, _, _, _, _, hs => nomatch hs
  | _ :: _, .gen, _, _, _, _, _, _, _, hs => nomatch hs
  | _ :: _, .shr _, _, _, _, _, _, _, _, hs => nomatch hs
  | _ :: _, .mt _, _, _, _, _, _, _, _, hs => nomatch hs
theorem Kid.ext {G : Addr → Prop} {v w : V} {n : Nat} (h : Kid H v n w) (up : Ext G H H') (hn : ∀ a, v = .ref a → ¬ G a) : Kid H' v n w := by
  obtain ⟨a, rfl, h⟩ := h
  have na := hn a rfl
  refine ⟨a, rfl, ?_⟩
  rcases h with ⟨x, e, h⟩ | ⟨x, e, h⟩ | ⟨x, e, h⟩ | ⟨C, dx, x, e, h⟩ | ⟨x, e, h⟩
  · exact .inl ⟨x, up a _ e na, h⟩
  · exact .inr (.inl ⟨x, up a _ e na, h⟩)
  · exact .inr (.inr (.inl ⟨x, up a _ e na, h⟩))
  · exact .inr (.inr (.inr (.inl ⟨C, dx, x, up a _ e na, h⟩)))
  · exact .inr (.inr (.inr (.inr ⟨x, up a _ e na, h⟩)))
/-- the way to a place stands while the things of the whole stand -/
theorem Pth.ext {G : Addr → Prop} (lG : Lsts G H) (up : Ext G H H') : ∀ {π : List Nat} {d e : D} {v u : V} {fp : List Addr}, Rp K F H d v fp → (∀ a ∈ fp, ¬ G a) → Pth H v π u → subD d π = some e → Pth H' v π u
  | [], _, _, _, _, _, _, _, h, _ => h
  | n :: π, d, e, v, u, fp, r, ng, ⟨w, hk, pt⟩, hs => by
    have key : ∃ a f ds vs, v = .ref a ∧ ¬ G a ∧ (∀ x ∈ f, x ∈ fp) ∧ Rps K F H ds vs f ∧ vs[n]? = some w ∧ (ds[n]?).bind (fun e => subD e π) = some e := by
      obtain ⟨b, rfl, hk⟩ := hk
      cases d with
      | lst ds =>
        rw [Rp] at r
        obtain ⟨a, vs, f, eb, ea, rfl, rs⟩ := r
        cases eb
        refine ⟨b, f, ds, vs, rfl, ng b List.mem_cons_self, fun x hx => List.mem_cons_of_mem _ hx, rs, ?_, hs⟩
        rcases hk with ⟨_, e2, hw⟩ | ⟨_, e2, _⟩ | ⟨_, e2, _⟩ | ⟨_, _, _, e2, _⟩ | ⟨_, e2, _⟩
        · rw [ea] at e2; cases e2; exact hw
        · rw [ea] at e2; cases e2
        · rw [ea] at e2; cases e2
        · rw [ea] at e2; cases e2
        · rw [ea] at e2; cases e2
      | dct t ks ds =>
        rw [Rp] at r
        obtain ⟨a, vs, f, eb, da, rfl, hkl, rs⟩ := r
        cases eb
        refine ⟨b, f, ds, vs, rfl, ng b List.mem_cons_self, fun x hx => List.mem_cons_of_mem _ hx, rs, ?_, hs⟩
        rcases da with ⟨_, ea⟩ | ⟨_, kk, ek, ea⟩
        · rcases hk with ⟨_, e2, hw⟩ | ⟨_, e2, hw⟩ | ⟨_, e2, hw⟩ | ⟨_, _, _, e2, _⟩ | ⟨_, e2, _⟩
          · rw [ea] at e2; cases e2
          · rw [ea] at e2; cases e2
          · rw [ea] at e2; cases e2; rw [zip_snd hkl.1] at hw; exact hw
          · rw [ea] at e2; cases e2
          · rw [ea] at e2; cases e2
        · have zl : kk.length = vs.length := by rw [← hkl.1, ek, List.length_map]
          rcases hk with ⟨_, e2, hw⟩ | ⟨_, e2, hw⟩ | ⟨_, e2, _⟩ | ⟨_, _, _, e2, _⟩ | ⟨_, e2, _⟩
          · rw [ea] at e2; cases e2
          · rw [ea] at e2; cases e2; rw [zip_snd zl] at hw; exact hw
          · rw [ea] at e2; cases e2
          · rw [ea] at e2; cases e2
          · rw [ea] at e2; cases e2
      | obj C ns ds =>
        rw [Rp] at r
        obtain ⟨a, dx, vs, f, eb, ea, ex, rfl, hkl, rs⟩ := r
        cases eb
        refine ⟨b, f, ds, vs, rfl, ng b List.mem_cons_self, fun x hx => List.mem_cons_of_mem _ (List.mem_cons_of_mem _ hx), rs, ?_, hs⟩
        rcases hk with ⟨_, e2, hw⟩ | ⟨_, e2, _⟩ | ⟨_, e2, _⟩ | ⟨_, _, _, e2, hw⟩ | ⟨_, e2, _⟩
        · rw [ea] at e2; cases e2
        · rw [ea] at e2; cases e2
        · rw [ea] at e2; cases e2
        · rw [ea] at e2; cases e2; rw [zip_snd hkl] at hw; exact hw
        · rw [ea] at e2; cases e2
      | tup ds =>
        rw [Rp] at r
        obtain ⟨a, vs, eb, eq0, rs⟩ := r
        cases eb
        have ea : H b = some (.tup vs) := eq0
        refine ⟨b, fp, ds, vs, rfl, fun gb => ?_, fun x hx => hx, rs, ?_, hs⟩
        · obtain ⟨o, e2, m⟩ := lG b gb
          rw [ea] at e2; cases e2; cases m
        · rcases hk with ⟨_, e2, _⟩ | ⟨_, e2, _⟩ | ⟨_, e2, _⟩ | ⟨_, _, _, e2, _⟩ | ⟨_, e2, hw⟩
          · rw [ea] at e2; cases e2
          · rw [ea] at e2; cases e2
          · rw [ea] at e2; cases e2
          · rw [ea] at e2; cases e2
          · rw [ea] at e2; cases e2; exact hw
      | _ => cases hs
    obtain ⟨a, f, ds, vs, rfl, nga, hf, rs, hw, hs⟩ := key
    obtain ⟨d1, h1, h2⟩ := Option.bind_eq_some_iff.mp hs
    obtain ⟨w', g, q1, q2, q3⟩ := rs.get h1
    rw [hw] at q1; cases q1
    exact ⟨w, hk.ext up fun b eb => by cases eb; exact nga, Pth.ext lG up q2 (fun x hx => ng x (hf x (q3.subset hx))) pt h2⟩
theorem Pth.snoc : ∀ {π : List Nat} {v u w : V} {n : Nat}, Pth H v π u → Kid H u n w → Pth H v (π ++ [n]) w
  | [], v, u, w, n, h, k => by
    have h : u = v := h
    subst h
    exact ⟨w, k, rfl⟩
  | m :: π, v, u, w, n, ⟨x, hk, h⟩, k => ⟨x, hk, Pth.snoc h k⟩
theorem subD_snoc : ∀ {π : List Nat} {d e : D} {n : Nat}, subD d π = some e → subD d (π ++ [n]) = subD e [n]
  | [], d, e, n, h => by
    have h : some d = some e := by cases d <;> exact h
    cases h; rfl
  | m :: π, .lst ds, e, n, h => by
    have h : (ds[m]?).bind (fun e => subD e π) = some e := h
    obtain ⟨d1, h1, h2⟩ := Option.bind_eq_some_iff.mp h
    show (ds[m]?).bind (fun e => subD e (π ++ [n])) = _
    rw [h1]; exact subD_snoc h2
  | m :: π, .dct _ ks ds, e, n, h => by
    have h : (ds[m]?).bind (fun e => subD e π) = some e := h
    obtain ⟨d1, h1, h2⟩ := Option.bind_eq_some_iff.mp h
    show (ds[m]?).bind (fun e => subD e (π ++ [n])) = _
    rw [h1]; exact subD_snoc h2
  | m :: π, .obj _ _ ds, e, n, h => by
    have h : (ds[m]?).bind (fun e => subD e π) = some e := h
    obtain ⟨d1, h1, h2⟩ := Option.bind_eq_some_iff.mp h
    show (ds[m]?).bind (fun e => subD e (π ++ [n])) = _
    rw [h1]; exact subD_snoc h2
  | m :: π, .tup ds, e, n, h => by
    have h : (ds[m]?).bind (fun e => subD e π) = some e := h
    obtain ⟨d1, h1, h2⟩ := Option.bind_eq_some_iff.mp h
    show (ds[m]?).bind (fun e => subD e (π ++ [n])) = _
    rw [h1]; exact subD_snoc h2
  | _ :: _, .non, _, _, hs => nomatch hs
  | _ :: _, .bl _, _, _, hs => nomatch hs
  | _ :: _, .int _, _, _, hs => nomatch hs
  | _ :: _, .str _, _, _, hs => nomatch hs
  | _ :: _, .ty _, _, _, hs => nomatch hs
  | _ :: _, .scr _, _, _, hs => nomatch hs
  | _ :: _, .gen, _, _, hs => nomatch hs
  | _ :: _, .shr _, _, _, hs => nomatch hs
  | _ :: _, .mt _, _, _, hs => nomatch hs
theorem putD_snoc : ∀ {π : List Nat} {d e x : D} {n : Nat}, subD d π = some e → putD d (π ++ [n]) x = putD d π (putD e [n] x)
  | [], d, e, x, n, h => by
    have h : some d = some e := by cases d <;> exact h
    cases h
    show putD d [n] x = putD d [] (putD d [n] x)
    cases d <;> rfl
  | m :: π, .lst ds, e, x, n, h => by
    have h : (ds[m]?).bind (fun e => subD e π) = some e := h
    obtain ⟨d1, h1, h2⟩ := Option.bind_eq_some_iff.mp h
    have eg : ds.getD m .non = d1 := by rw [List.getD_eq_getElem?_getD, h1]; rfl
    show D.lst (ds.set m (putD (ds.getD m .non) (π ++ [n]) x)) = D.lst (ds.set m (putD (ds.getD m .non) π (putD e [n] x)))
    rw [eg, putD_snoc h2]
  | m :: π, .dct t ks ds, e, x, n, h => by
    have h : (ds[m]?).bind (fun e => subD e π) = some e := h
    obtain ⟨d1, h1, h2⟩ := Option.bind_eq_some_iff.mp h
    have eg : ds.getD m .non = d1 := by rw [List.getD_eq_getElem?_getD, h1]; rfl
    show D.dct t ks (ds.set m (putD (ds.getD m .non) (π ++ [n]) x)) = D.dct t ks (ds.set m (putD (ds.getD m .non) π (putD e [n] x)))
    rw [eg, putD_snoc h2]
  | m :: π, .obj C ns ds, e, x, n, h => by
    have h : (ds[m]?).bind (fun e => subD e π) = some e := h
    obtain ⟨d1, h1, h2⟩ := Option.bind_eq_some_iff.mp h
    have eg : ds.getD m .non = d1 := by rw [List.getD_eq_getElem?_getD, h1]; rfl
    show D.obj C ns (ds.set m (putD (ds.getD m .non) (π ++ [n]) x)) = D.obj C ns (ds.set m (putD (ds.getD m .non) π (putD e [n] x)))
    rw [eg, putD_snoc h2]
  | m :: π, .tup ds, e, x, n, h => by
    have h : (ds[m]?).bind (fun e => subD e π) = some e := h
    obtain ⟨d1, h1, h2⟩ := Option.bind_eq_some_iff.mp h
    have eg : ds.getD m .non = d1 := by rw [List.getD_eq_getElem?_getD, h1]; rfl
    show D.tup (ds.set m (putD (ds.getD m .non) (π ++ [n]) x)) = D.tup (ds.set m (putD (ds.getD m .non) π (putD e [n] x)))
    rw [eg, putD_snoc h2]
  | _ :: _, .non, _, _, _, hs => nomatch hs
  | _ :: _, .bl _, _, _, _, hs => nomatch hs
  | _ :: _, .int _, _, _, _, hs => nomatch hs
  | _ :: _, .str _, _, _, _, hs => nomatch hs
  | _ :: _, .ty _, _, _, _, hs => nomatch hs
  | _ :: _, .scr _, _, _, _, hs => nomatch hs
  | _ :: _, .gen, _, _, _, hs => nomatch hs
  | _ :: _, .shr _, _, _, _, hs => nomatch hs
  | _ :: _, .mt _, _, _, _, hs => nomatch hs
end
end DL
namespace DL
open PySem PySem.Spec L2

/-! ### things of one's own, changed in their places -/
def ownK : SK → Bool
  | .own => true
  | .byr => true
  | _ => false
/-- the kind in which a value goes into an own thing -/
def IntoOk (Γ : GE) (i : Nat) (e : D) (k : Kd) (P : GE → Prop) : Prop := if noL e = true then P Γ else match k with
  | .R is => i ∉ is ∧ P (kills is Γ)
  | _ => False
theorem IntoOk.or {Γ : GE} {i : Nat} {e : D} {k : Kd} {P : GE → Prop} (h : IntoOk Γ i e k P) : (noL e = true ∧ P Γ) ∨ ∃ is, k = .R is ∧ i ∉ is ∧ P (kills is Γ) := by
  unfold IntoOk at h
  split at h
  · rename_i n; exact .inl ⟨n, h⟩
  · split at h
    · exact .inr ⟨_, rfl, h⟩
    · exact h.elim
section
variable {K : PySem.W.Frag} {B : Bx} {Γ : GE} {σ σ' : L2.St} {H H' : Hp} {c c' : Nat} {fp : List Addr} {k : Kd} {d e : D} {v u : V} {ds : List D} {vs : List V} {sk : SK} {i : Nat}
/-- what comes in: its things fe, of the slots is, that are used up -/
structure Inc (B : Bx) (H : Hp) (i : Nat) (is : List Nat) (fe : List Addr) : Prop where
  ni : i ∉ is
  nd : fe.Nodup
  ok : ∀ x ∈ fe, ¬ B.F x ∧ ¬ B.G x ∧ (B.en.H0 x = none ∨ B.en.P x) ∧ ∀ j, B.O j x → j ∈ is
  no : ∀ x ∈ fe, ¬ B.O i x
theorem Inc.nil : Inc B H i [] [] := ⟨fun z => (nomatch z), List.nodup_nil, fun _ h => (nomatch h), fun _ h => (nomatch h)⟩
theorem into_inc {e : D} {fe : List Addr} {P : GE → Prop} (E : Env K B Γ c σ H) (re : Rp K B.F H' e v fe) (nge : ∀ x ∈ fe, ¬ B.G x) (ok : KOk B H fe k) (h : IntoOk Γ i e k P) : ∃ is, Inc B H i is fe ∧ P (kills is Γ) := by
  rcases h.or with ⟨nl, p⟩ | ⟨is, rfl, ni, p⟩
  · have e0 := re.nol nl
    subst e0
    exact ⟨[], Inc.nil, p⟩
  · have st := KOk.st E ok nge
    exact ⟨is, ⟨ni, st.1, st.2, fun x hx z => ni ((st.2 x hx).2.2.2 i z)⟩, p⟩
/-- a place within slot i: its things g; behind a change there that leaves it standing for e' by the things g' (its own, and those that came in), all stands again -/
theorem Env.focus {π : List Nat} (E : Env K B Γ c σ H) (es : gat Γ i = some ⟨sk, d⟩) (hk : ownK sk = true) (hv : σ[i]? = some (some v)) (pt : Pth H v π u) (hs : subD d π = some e) (ng : d ≠ .gen) :
    ∃ g, Rp K B.F H e u g ∧ g.Nodup ∧ (∀ x ∈ g, B.O i x) ∧ ∀ (H' : Hp) (e' : D) (g' fe : List Addr) (is : List Nat), Inc B H i is fe → (∀ x ∈ fe, ∃ o, H' x = some o) → Ext (fun a => a ∈ g) H H' → (∀ x ∈ g, ∃ o, H' x = some o) → Rp K B.F H' e' u g' → g'.Nodup → (∀ x ∈ g', x ∈ g ∨ x ∈ fe) →
      ∃ B', Like B B' ∧ Env K B' (gset (kills is Γ) i (some ⟨sk, putD d π e'⟩)) c σ H' ∧ B'.F = B.F ∧ ∀ x ∈ g, x ∉ g' → ∀ j, ¬ B'.O j x := by
  obtain ⟨v', fp, hv', r, st⟩ := E.slot i _ es
  rw [hv] at hv'
  cases hv'
  have own : fp.Nodup ∧ ∀ a ∈ fp, B.O i a := by
    cases sk with
    | nl => cases hk
    | sh => cases hk
    | own => exact st
    | byr => exact st.1
  have r : Rp K B.F H d v fp := r.elim id fun z => absurd z.1 ng
  obtain ⟨f1, g, f2, rfl, rg, mk⟩ := foc r own.1 pt hs
  have n1 := List.nodup_append.mp own.1
  have n2 := List.nodup_append.mp n1.2.1
  have og : ∀ x ∈ g, B.O i x := fun x hx => own.2 x (List.mem_append_right _ (List.mem_append_left _ hx))
  have o1 : ∀ x ∈ f1, B.O i x := fun x hx => own.2 x (List.mem_append_left _ hx)
  have o2 : ∀ x ∈ f2, B.O i x := fun x hx => own.2 x (List.mem_append_right _ (List.mem_append_right _ hx))
  refine ⟨g, rg, n2.1, og, fun H' e' g' fe is inc fat up gat' rp nd' sub => ?_⟩
  have hl : Lsts (fun a => a ∈ g) H := fun x hx => rg.at x hx
  have Fg : ∀ a, B.F a → a ∉ g := fun a fa hg => (E.ol i a (og a hg)).2.1 fa
  have Gg : ∀ a, B.G a → a ∉ g := fun a ga hg => (E.ol i a (og a hg)).2.2.1 ga
  have at' : ∀ {x : Addr}, (∃ o, H x = some o) → ∃ o, H' x = some o := fun {x} ⟨o, e⟩ => by
    by_cases z : x ∈ g
    · exact gat' x z
    · exact ⟨o, up x o e z⟩
  have whole := mk H' e' g' up Fg rp
  have hi : i < Γ.length := gat_lt es
  have ndw : (f1 ++ (g' ++ f2)).Nodup := by
    refine List.nodup_append.mpr ⟨n1.1, List.nodup_append.mpr ⟨nd', n2.2.1, fun x hx y hy z => ?_⟩, fun x hx y hy z => ?_⟩
    · subst z
      rcases sub x hx with w | w
      · exact n2.2.2 x w x hy rfl
      · exact inc.no x w (o2 x hy)
    · subst z
      rcases List.mem_append.mp hy with hy | hy
      · rcases sub x hy with w | w
        · exact n1.2.2 x hx x (List.mem_append_left _ w) rfl
        · exact inc.no x w (o1 x hx)
      · exact n1.2.2 x hx x (List.mem_append_right _ hy) rfl
  refine ⟨{ B with O := fun j x => (j ≠ i ∧ B.O j x ∧ x ∉ fe) ∨ (j = i ∧ x ∈ f1 ++ (g' ++ f2)) }, ⟨rfl, rfl, rfl⟩, ⟨by rw [gset_length, kills_length]; exact E.len, fun x hx => ?_, fun b o e n => ?_, E.gsub, E.gnew, E.fg, fun x hx => at' (E.fl x hx), E.fn, fun x hx => at' (E.pl x hx), fun j x hx => ?_, fun p hp => ?_, fun j s es' => ?_⟩, rfl, fun x hx hn j z => ?_⟩
  · obtain ⟨p, q, r, ex, h⟩ := E.gens x hx
    exact ⟨p, q, r, up x _ ex (Gg x hx), h⟩
  · have nb : b ∉ g := fun z => by
      rcases (E.ol i b (og b z)).2.2.2.1 with w | w
      · rw [w] at e; cases e
      · exact n (.inr w)
    exact up b o (E.ext0 b o e n) nb
  · rcases hx with ⟨hj, hx, hn⟩ | ⟨rfl, hx⟩
    · obtain ⟨h1, h2, h3, h4, h5⟩ := E.ol j x hx
      refine ⟨at' h1, h2, h3, h4, fun m z => z.elim (fun w => h5 m w.2.1) fun w => ?_⟩
      exfalso
      have ox : B.O i x ∨ x ∈ fe := by
        rcases List.mem_append.mp w.2 with w | w
        · exact .inl (o1 x w)
        · rcases List.mem_append.mp w with w | w
          · exact (sub x w).imp (og x) id
          · exact .inl (o2 x w)
      rcases ox with ox | ox
      · exact hj (h5 i ox).symm
      · exact hn ox
    · have key : ((∃ o, H' x = some o) ∧ ¬ B.F x ∧ ¬ B.G x ∧ (B.en.H0 x = none ∨ B.en.P x)) ∧ (∀ m, B.O m x → m = j ∨ x ∈ fe) := by
        have old : B.O j x → ((∃ o, H' x = some o) ∧ ¬ B.F x ∧ ¬ B.G x ∧ (B.en.H0 x = none ∨ B.en.P x)) ∧ (∀ m, B.O m x → m = j ∨ x ∈ fe) := fun ox => by
          obtain ⟨h1, h2, h3, h4, h5⟩ := E.ol j x ox
          exact ⟨⟨at' h1, h2, h3, h4⟩, fun m z => .inl (h5 m z)⟩
        rcases List.mem_append.mp hx with w | w
        · exact old (o1 x w)
        · rcases List.mem_append.mp w with w | w
          · rcases sub x w with w | w
            · exact old (og x w)
            · obtain ⟨h1, h2, h3, h4⟩ := inc.ok x w
              exact ⟨⟨fat x w, h1, h2, h3⟩, fun m _ => .inr w⟩
          · exact old (o2 x w)
      obtain ⟨⟨h1, h2, h3, h4⟩, h5⟩ := key
      refine ⟨h1, h2, h3, h4, fun m z => z.elim (fun w => ?_) fun w => w.1⟩
      rcases h5 m w.2.1 with q | q
      · exact q
      · exact absurd q w.2.2
  · obtain ⟨r, n⟩ := E.hl p hp
    exact ⟨r.ext hl Fg up fun x hx => Fg x (n x hx), n⟩
  · rcases gat_gset es' with ⟨rfl, q⟩ | ⟨q, es'⟩
    · cases q
      refine ⟨v, f1 ++ (g' ++ f2), hv, .inl whole, ?_⟩
      cases sk with
      | nl => cases hk
      | sh => cases hk
      | own => exact ⟨ndw, fun a ha => .inr ⟨rfl, ha⟩⟩
      | byr => exact ⟨⟨ndw, fun a ha => .inr ⟨rfl, ha⟩⟩, st.2⟩
    · obtain ⟨nk, es'⟩ := gat_kills es'
      obtain ⟨u', h, h1, h2, h3⟩ := E.slot j s es'
      have hn : ∀ x ∈ h, x ∉ g := fun x hx z => by
        have ol := (E.ol i x (og x z)).2.2.2.2 j
        obtain ⟨sk', sd'⟩ := s
        cases sk' with
        | nl => rw [show h = [] from h3] at hx; cases hx
        | sh => exact Fg x (h3 x hx) z
        | own => exact q (ol (h3.2 x hx))
        | byr => exact q (ol (h3.1.2 x hx))
      refine ⟨u', h, h1, h2.elim (fun r => .inl (r.ext hl Fg up hn)) .inr, ?_⟩
      obtain ⟨sk', sd'⟩ := s
      cases sk' with
      | nl => exact h3
      | sh => exact h3
      | own => exact ⟨h3.1, fun x hx => .inl ⟨q, h3.2 x hx, fun z => nk ((inc.ok x z).2.2.2 j (h3.2 x hx))⟩⟩
      | byr => exact ⟨⟨h3.1.1, fun x hx => .inl ⟨q, h3.1.2 x hx, fun z => nk ((inc.ok x z).2.2.2 j (h3.1.2 x hx))⟩⟩, h3.2⟩
  · rcases z with ⟨hj, z, _⟩ | ⟨rfl, z⟩
    · exact hj ((E.ol i x (og x hx)).2.2.2.2 j z)
    · rcases List.mem_append.mp z with w | w
      · exact n1.2.2 x w x (List.mem_append_left _ hx) rfl
      · rcases List.mem_append.mp w with w | w
        · exact hn w
        · exact n2.2.2 x hx x w rfl
end
/-! ### expressions that tell a place within a slot -/
abbrev RP := GE → Nat → (D → (D → D) → SK → Nat → Prop) → Prop
/-- the value u stands at a place of slot i; put: the whole with another thing there -/
structure Plc (B : Bx) (Γ : GE) (σ : L2.St) (H : Hp) (i : Nat) (u : V) (e : D) (put : D → D) (sk : SK) : Prop where
  plc : ∃ d v π, gat Γ i = some ⟨sk, d⟩ ∧ ownK sk = true ∧ d ≠ .gen ∧ σ[i]? = some (some v) ∧ Pth H v π u ∧ subD d π = some e ∧ ∀ x, put x = putD d π x
def PD (K : PySem.W.Frag) (i : Nat) (t : TE) (r : RP) : Prop := ∀ B Γ c σ H Qd Q, Env K B Γ c σ H → r Γ c Qd → (∀ u H' e put sk c', Ext B.G H H' → GensOk B.G H' c' → Plc B Γ σ H' i u e put sk → Qd e put sk c' → Q u H') → t σ H Q
def rpVar (i : Nat) : RP := fun Γ c Q => match gat Γ i with
  | some ⟨.own, d⟩ => d ≠ .gen ∧ Q d (fun x => x) .own c
  | some ⟨.byr, d⟩ => d ≠ .gen ∧ Q d (fun x => x) .byr c
  | _ => False
def rpIx (rp : RP) (re : RE) : RP := fun Γ c Q => rp Γ c fun d put sk c1 => re Γ c1 fun y _ c2 => match d, y with
  | .lst ds, .int n => ∃ j e, ixN ds.length n = some j ∧ ds[j]? = some e ∧ Q e (fun x => put (.lst (ds.set j x))) sk c2
  | .tup ds, .int n => ∃ j e, ixN ds.length n = some j ∧ ds[j]? = some e ∧ Q e (fun x => put (.tup (ds.set j x))) sk c2
  | .dct t kk ds, y => ∃ k j e, keyOf t y = some k ∧ kix kk k = some j ∧ ds[j]? = some e ∧ Q e (fun x => put (.dct t kk (ds.set j x))) sk c2
  | _, _ => False
section
variable {K : PySem.W.Frag} {B : Bx} {Γ : GE} {σ σ' : L2.St} {H H' : Hp} {c c' : Nat} {fp : List Addr} {k : Kd} {d e : D} {v u : V} {ds : List D} {vs : List V} {sk : SK} {i : Nat}
theorem pd_var (i : Nat) : PD K i (tVar i) (rpVar i) := by
  intro B Γ c σ H Qd Q E h f
  unfold rpVar at h
  split at h
  · rename_i d es
    obtain ⟨v, fp, hv, r, st⟩ := E.slot i _ es
    exact ⟨v, hv, f v H d (fun x => x) _ c (Ext.refl H) E.gens ⟨d, v, [], es, rfl, h.1, hv, rfl, by cases d <;> rfl, fun x => by cases d <;> rfl⟩ h.2⟩
  · rename_i d es
    obtain ⟨v, fp, hv, r, st⟩ := E.slot i _ es
    exact ⟨v, hv, f v H d (fun x => x) _ c (Ext.refl H) E.gens ⟨d, v, [], es, rfl, h.1, hv, rfl, by cases d <;> rfl, fun x => by cases d <;> rfl⟩ h.2⟩
  · exact h.elim
/-- what stands at a place, and its things -/
theorem Plc.rp (E : Env K B Γ c σ H) {put : D → D} (p : Plc B Γ σ H i u e put sk) : ∃ g, Rp K B.F H e u g ∧ g.Nodup ∧ (∀ x ∈ g, B.O i x) ∧ ∀ (H' : Hp) (e' : D) (g' fe : List Addr) (is : List Nat), Inc B H i is fe → (∀ x ∈ fe, ∃ o, H' x = some o) → Ext (fun a => a ∈ g) H H' → (∀ x ∈ g, ∃ o, H' x = some o) → Rp K B.F H' e' u g' → g'.Nodup → (∀ x ∈ g', x ∈ g ∨ x ∈ fe) →
      ∃ B', Like B B' ∧ Env K B' (gset (kills is Γ) i (some ⟨sk, put e'⟩)) c σ H' ∧ B'.F = B.F ∧ ∀ x ∈ g, x ∉ g' → ∀ j, ¬ B'.O j x := by
  obtain ⟨d, v, π, es, hk, ng, hv, pt, hs, hp⟩ := p.plc
  obtain ⟨g, h1, h2, h3, h4⟩ := E.focus es hk hv pt hs ng
  refine ⟨g, h1, h2, h3, fun H' e' g' fe is a1 a2 a3 a4 a5 a6 a7 => ?_⟩
  obtain ⟨B', b1, b2, b3⟩ := h4 H' e' g' fe is a1 a2 a3 a4 a5 a6 a7
  rw [hp]
  exact ⟨B', b1, b2, b3⟩
theorem Plc.ext (E : Env K B Γ c σ H) {put : D → D} (p : Plc B Γ σ H i u e put sk) (up : Ext B.G H H') : Plc B Γ σ H' i u e put sk := by
  obtain ⟨d, v, π, es, hk, ng, hv, pt, hs, hp⟩ := p.plc
  obtain ⟨v', fp, hv', r, st⟩ := E.slot i _ es
  rw [hv] at hv'; cases hv'
  have r : Rp K B.F H d v fp := r.elim id fun z => absurd z.1 ng
  exact ⟨d, v, π, es, hk, ng, hv, Pth.ext E.gens.lsts up r (st.ng E) pt hs, hs, hp⟩
theorem Plc.kid (E : Env K B Γ c σ H) {put : D → D} {w : V} {n : Nat} (p : Plc B Γ σ H i u d put sk) (hk : Kid H u n w) (hs : subD d [n] = some e) : Plc B Γ σ H i w e (fun x => put (putD d [n] x)) sk := by
  obtain ⟨d0, v, π, es, ok, ng, hv, pt, hs0, hp⟩ := p.plc
  exact ⟨d0, v, π ++ [n], es, ok, ng, hv, pt.snoc hk, by rw [subD_snoc hs0]; exact hs, fun x => by rw [putD_snoc hs0, hp]⟩
theorem pd_ix {t te : TE} {rp : RP} {re : RE} (hp : PD K i t rp) (he : ED K te re) : PD K i (tOp (rIxA K) t te) (rpIx rp re) := by
  intro B Γ c σ H Qd Q E h f
  refine hp B Γ c σ H _ _ E h fun u H1 d put sk c1 e1 g1 p1 q => ?_
  have E1 := E.ext e1 g1
  refine he B Γ c1 σ H1 _ _ E1 q fun y H2 dy ky c2 x2 q => ?_
  split at q
  · rename_i ds n _
    obtain ⟨j, e, hj, hd, q⟩ := q
    have E2 := E1.ext x2.ext x2.gens
    have p2 := p1.ext E1 x2.ext
    obtain ⟨g, rg, _⟩ := p2.rp E2
    rw [Rp] at rg
    obtain ⟨a, vs, f0, rfl, ea, rfl, rs⟩ := rg
    obtain ⟨w, g0, hw, rw_, _⟩ := rs.get hd
    obtain ⟨fy, ry, _⟩ := x2.rp
    refine .inl <| .inl ⟨a, vs, n, w, rfl, ry.int, SqL.of ea, by unfold atI; rw [rs.length, hj]; exact hw, ?_⟩
    refine f w H2 e _ sk c2 (e1.trans x2.ext) x2.gens (p2.kid E2 ⟨a, rfl, .inl ⟨vs, ea, hw⟩⟩ (by show (ds[j]?).bind _ = _; rw [hd]; exact by cases e <;> rfl)) ?_
    have ep : (fun x => put (putD (.lst ds) [j] x)) = fun x => put (.lst (ds.set j x)) := by
      funext x
      show put (.lst (ds.set j (putD (ds.getD j .non) [] x))) = _
      have : putD (ds.getD j .non) [] x = x := by cases (ds.getD j .non) <;> rfl
      rw [this]
    rw [ep]; exact q
  · rename_i ds n _
    obtain ⟨j, e, hj, hd, q⟩ := q
    have E2 := E1.ext x2.ext x2.gens
    have p2 := p1.ext E1 x2.ext
    obtain ⟨g, rg, _⟩ := p2.rp E2
    rw [Rp] at rg
    obtain ⟨a, vs, rfl, ea, rs⟩ := rg
    obtain ⟨w, g0, hw, rw_, _⟩ := rs.get hd
    obtain ⟨fy, ry, _⟩ := x2.rp
    refine .inl <| .inr (.inl ⟨a, vs, n, w, rfl, ry.int, ea.t, by unfold atI; rw [rs.length, hj]; exact hw, ?_⟩)
    refine f w H2 e _ sk c2 (e1.trans x2.ext) x2.gens (p2.kid E2 ⟨a, rfl, .inr (.inr (.inr (.inr ⟨vs, ea, hw⟩)))⟩ (by show (ds[j]?).bind _ = _; rw [hd]; exact by cases e <;> rfl)) ?_
    have ep : (fun x => put (putD (.tup ds) [j] x)) = fun x => put (.tup (ds.set j x)) := by
      funext x
      show put (.tup (ds.set j (putD (ds.getD j .non) [] x))) = _
      have : putD (ds.getD j .non) [] x = x := by cases (ds.getD j .non) <;> rfl
      rw [this]
    rw [ep]; exact q
  · rename_i t kk ds _
    obtain ⟨k, j, e, hk, hj, hd, q⟩ := q
    have E2 := E1.ext x2.ext x2.gens
    have p2 := p1.ext E1 x2.ext
    obtain ⟨g, rg, _⟩ := p2.rp E2
    rw [Rp] at rg
    obtain ⟨a, us, f0, rfl, da, rfl, hl, rs⟩ := rg
    obtain ⟨w, g0, hw, rw_, _⟩ := rs.get hd
    obtain ⟨fy, ry, _⟩ := x2.rp
    have dg := dct_get da hl.1 ry hk
    rw [hj] at dg
    have dg : DGet H2 a y (us[j]?) := dg
    rw [hw] at dg
    have kd : Kid H2 (.ref a) j w := by
      refine ⟨a, rfl, .inr ?_⟩
      rcases da with ⟨_, ea⟩ | ⟨_, k1, ek, ea⟩
      · exact .inr (.inl ⟨_, ea, by rw [zip_snd hl.1]; exact hw⟩)
      · exact .inl ⟨_, ea, by rw [zip_snd (by rw [← hl.1, ek, List.length_map])]; exact hw⟩
    refine .inr ⟨a, w, rfl, dg, ?_⟩
    refine f w H2 e _ sk c2 (e1.trans x2.ext) x2.gens (p2.kid E2 kd (by show (ds[j]?).bind _ = _; rw [hd]; exact by cases e <;> rfl)) ?_
    have ep : (fun x => put (putD (.dct t kk ds) [j] x)) = fun x => put (.dct t kk (ds.set j x)) := by
      funext x
      show put (.dct t kk (ds.set j (putD (ds.getD j .non) [] x))) = _
      have : putD (ds.getD j .non) [] x = x := by cases (ds.getD j .non) <;> rfl
      rw [this]
    rw [ep]; exact q
  · exact q.elim
/-! ### changes -/
def rpApp (rp : RP) (i : Nat) (re : RE) : RS := fun Dd Γ c => rp Γ c fun d put sk c1 => match d with
  | .lst ds => re Γ c1 fun e k c2 => e ≠ .gen ∧ ds.length < 1000000 ∧ IntoOk Γ i e k fun Γ' => Dd.nx (gset Γ' i (some ⟨sk, put (.lst (ds ++ [e]))⟩)) c2
  | _ => False
/-- a change of the list at a place: its new items -/
theorem Plc.lst {put : D → D} (E : Env K B Γ c σ H) (p : Plc B Γ σ H i u (.lst ds) put sk) : ∃ a vs f, u = .ref a ∧ H a = some (.lst vs) ∧ Rps K B.F H ds vs f ∧ (a :: f).Nodup ∧ (∀ x ∈ f, B.O i x) ∧ B.O i a ∧ ∀ (ds' : List D) (vs' : List V) (f' fe : List Addr) (is : List Nat), Inc B H i is fe → (∀ x ∈ fe, ∃ o, H x = some o) → Rps K B.F H ds' vs' f' → f'.Nodup → (∀ x ∈ f', x ∈ f ∨ x ∈ fe) →
    ∃ B', Like B B' ∧ Env K B' (gset (kills is Γ) i (some ⟨sk, put (.lst ds')⟩)) c σ (upd H a (.lst vs')) ∧ B'.F = B.F ∧ (∀ x ∈ f, x ∉ f' → ∀ j, ¬ B'.O j x) ∧ ∀ (e : D) (w : V) (h : List Addr), (∀ x ∈ h, x ≠ a) → Rp K B.F H e w h → Rp K B.F (upd H a (.lst vs')) e w h := by
  obtain ⟨g, rg, nd, og, mk⟩ := p.rp E
  rw [Rp] at rg
  obtain ⟨a, vs, f, rfl, ea, rfl, rs⟩ := rg
  have nd' := List.nodup_cons.mp nd
  refine ⟨a, vs, f, rfl, ea, rs, nd, fun x hx => og x (List.mem_cons_of_mem _ hx), og a List.mem_cons_self, fun ds' vs' f' fe is inc fat rs' ndf sub => ?_⟩
  have at' : ∀ {x : Addr}, (∃ o, H x = some o) → ∃ o, upd H a (.lst vs') x = some o := fun {x} ⟨o, e⟩ => by
    by_cases z : x = a
    · subst z; exact ⟨_, upd_same⟩
    · exact ⟨o, by rw [upd_ne z]; exact e⟩
  have oa := og a List.mem_cons_self
  have na : ∀ x ∈ f', x ≠ a := fun x hx z => by
    subst z
    rcases sub x hx with w | w
    · exact nd'.1 w
    · exact inc.no x w oa
  have lD : Lsts (fun b => b = a) H := fun x z => by subst z; exact ⟨_, ea, rfl⟩
  have fD : ∀ x, B.F x → ¬ x = a := fun x fx z => (E.ol i a oa).2.1 (z ▸ fx)
  obtain ⟨B', b1, b3, b4, b5⟩ := mk (upd H a (.lst vs')) (.lst ds') (a :: f') fe is inc (fun x hx => at' (fat x hx)) (fun b o e n => by
    rw [upd_ne fun z => n (by rw [z]; exact List.mem_cons_self)]; exact e) (fun x hx => at' (E.ol i x (og x hx)).1) (by
      rw [Rp]
      exact ⟨a, vs', f', rfl, upd_same, rfl, rs'.ext lD fD ext_upd na⟩) (List.nodup_cons.mpr ⟨fun z => na a z rfl, ndf⟩) (fun x hx => (List.mem_cons.mp hx).elim (fun z => .inl (z ▸ List.mem_cons_self)) fun z => (sub x z).imp (List.mem_cons_of_mem _) id)
  exact ⟨B', b1, b3, b4, fun x hx hn => b5 x (List.mem_cons_of_mem _ hx) fun z => (List.mem_cons.mp z).elim (fun z => nd'.1 (z ▸ hx)) hn, fun e w h hh r => r.ext lD fD ext_upd hh⟩
theorem sd_papp {t : TE} {rp : RP} {te : TE} {re : RE} (hp : PD K i t rp) (he : ED K te re) : SD K (tDrop (tBM K "list" L2.rAppend t (tCons te tNil))) (rpApp rp i re) := by
  intro en hd Dd D L B Γ c σ H h1 h3 E q
  refine hp B Γ c σ H _ _ E q fun u H1 d put sk c1 e1 g1 p1 q => ?_
  have E1 := E.ext e1 g1
  split at q
  · rename_i ds
    obtain ⟨a, vs, f, rfl, ea, _⟩ := p1.lst E1
    refine ⟨.inl ⟨rfl, vs, SqL.of ea⟩, ?_⟩
    refine he B Γ c1 σ H1 _ _ E1 q fun y H2 e k c2 x q => ?_
    obtain ⟨ne, hl, q⟩ := q
    have E2 := E1.ext x.ext x.gens
    have p2 := p1.ext E1 x.ext
    obtain ⟨a', vs', f', ea', eb, rs, nd, of, oa, mk⟩ := p2.lst E2
    cases ea'
    obtain ⟨fe, re, nge, ok⟩ := x.rp
    have re := re.rp ne
    obtain ⟨is, inc, pq⟩ := into_inc E1 re nge ok q
    have inc2 : Inc B H2 i is fe := ⟨inc.ni, inc.nd, inc.ok, inc.no⟩
    have ndf := (List.nodup_cons.mp nd).2
    obtain ⟨B', b1, b3, _⟩ := mk (ds ++ [e]) (vs' ++ [y]) (f' ++ fe) fe is inc2 (fun x hx => let ⟨o, z, _⟩ := re.at x hx; ⟨o, z⟩) (rs.append (Rps.one re))
      (List.nodup_append.mpr ⟨ndf, inc.nd, fun x hx y hy z => inc.no y hy (z ▸ of x hx)⟩) (fun x hx => List.mem_append.mp hx)
    obtain ⟨w1, w3⟩ := b1.to h1 h3
    exact ⟨a, vs', y, rfl, rfl, eb, by rw [rs.length]; have := sizeLine_eq; omega, L.nx B' _ c2 σ _ w1 w3 b3 pq⟩
  · exact q.elim
/-- .. of a name's own list -/
def rApp (i : Nat) (re : RE) : RS := rpApp (rpVar i) i re
theorem sd_append {te : TE} {re : RE} (he : ED K te re) : SD K (tDrop (tBM K "list" L2.rAppend (tVar i) (tCons te tNil))) (rApp i re) := sd_papp (pd_var i) he
end
end DL
namespace DL
open PySem PySem.Spec L2

/-! ### promises of defs where nothing is being shown -/
/-- room for k calls, and no text of a thing is being made -/
structure RoomG (k : Nat) (A : Around) : Prop extends Room k A where
  gd : A.guards = some []
theorem RoomG.mono {j k : Nat} {A : Around} (r : RoomG k A) (h : j ≤ k) : RoomG j A := ⟨r.toRoom.mono h, r.gd⟩
theorem RoomG.deeper {k : Nat} {A : Around} (r : RoomG (k + 1) A) (env : PySem.Env) : RoomG k (A.deeper env) := ⟨r.toRoom.deeper env, r.gd⟩
/-- a def's promise: as FnOk, but of such rooms alone -/
structure FnG (P : Program) (w : World) (K : PySem.W.Frag) (mg : Str → Option Value) (base : Heap) (Cx : CXT) (n : Nat) (f : Addr) (fd : FuncData) (ps : List Str) (sp : Sp) : Prop where
  len : ∀ vs H Q E, sp vs H Q E → vs.length = ps.length
  run : ∀ (A : Around) (fs : List PySem.Env) (s : Shared) (H : Hp) (ar : PySem.Args) (us : List Value) (vs : List V) (Q : VK) (E : XK), RoomG n A → Env0 P w K mg base A fs s H →
    BindsTo s fd ar (ps.zip us) → Vals vs us → sp vs H Q E → codeAny (model P w) A (.call (.ref f) ar) (CR Cx fs P w H s Q E) s
section
variable {X : Cx} {Cx : CXT} {n : Nat} {f : Addr} {fd : FuncData} {ps : List Str} {sp : Sp} {E : XK}
/-- the callee's run, seen by the caller -/
theorem FnG.go {pins : List (Addr × Obj)} {σ : L2.St} {H : Hp} {s : Shared} {Q : VK} {us : List Value} {vs : List V} (T : FnG X.prog X.w X.K X.mg X.base Cx n f fd ps sp) (hr : RoomG n X.A) (hb : Binds X.K fd ps []) (hx : Passes Cx X E)
    (I : Inv X pins σ H s) (hv : Vals vs us) (h : sp vs H Q E) : wpAny (model X.prog X.w) X.A (call (.ref f) us) (EP X pins σ Q) X.xe s := by
  have le : (us ++ []).length = ps.length := by
    rw [List.append_nil, ← hv.length]
    exact T.len _ _ _ _ h
  have bd := hb s us I.kIn le
  rw [List.append_nil] at bd
  refine wpAny_call (codeAny_mono (T.run X.A X.stack s H ⟨us, []⟩ us vs Q E hr I.env0 bd hv h) fun out t ht => ?_)
  match out, ht with
  | .error e, ht => exact hx pins σ H s e t I ht
  | .ok (.ret u), ht => exact I.after ht
  | .ok .next, ht => exact ht.elim
  | .ok .brk, ht => exact ht.elim
  | .ok .cont, ht => exact ht.elim
theorem pe_callG {x : Str} {p pos : Pos} {e : Expr} {es : List Expr} {t : TA} (T : FnG X.prog X.w X.K X.mg X.base Cx n f fd ps sp) (hr : RoomG n X.A) (hg : Gl X x) (hm : X.mg x = some (.ref f)) (kp : PySem.W.keepIn X.K (.ref f) = true)
    (hb : Binds X.K fd ps []) (hx : Passes Cx X E) (ha : PA X (e :: es) t) (d0 : (x == ("__debug__" : Str)) = false := by decide)
    (d1 : starEach (e :: es) X.env = (false, eval e X.env) :: starEach es X.env := by rfl) (d2 : (backTo pos (starEach es X.env)).any (·.1) = false := by rfl) :
    PE X (.Call (.Name x p) (e :: es) [] pos) (tCall sp [] E t) := by
  constructor
  intro pins s σ H Q I h
  apply wpAny_Call_Name_kw
  apply ld_glob I hg hm (hd := d0)
  refine PySem.W.callWith_K (h₀ := X.base) I.ok.mod.kin kp (thn (ha.run pos pins s σ H _ I h) ?_) d1 d2
  rintro us t ⟨vs, H1, I1, hv, q⟩
  rw [List.append_nil] at q
  exact ⟨I1.kIn, T.go hr hb hx I1 hv q⟩
theorem pe_callG0 {x : Str} {p pos : Pos} (T : FnG X.prog X.w X.K X.mg X.base Cx n f fd ps sp) (hr : RoomG n X.A) (hg : Gl X x) (hm : X.mg x = some (.ref f)) (kp : PySem.W.keepIn X.K (.ref f) = true)
    (hb : Binds X.K fd ps []) (hx : Passes Cx X E) (d0 : (x == ("__debug__" : Str)) = false := by decide) : PE X (.Call (.Name x p) [] [] pos) (tCall sp [] E tNil) := by
  constructor
  intro pins s σ H Q I h
  apply wpAny_Call_Name_kw
  apply ld_glob I hg hm (hd := d0)
  have h : sp ([] ++ []) H Q E := h
  exact PySem.W.callWith_K0 I.kIn kp (T.go (us := []) hr hb hx I .nil h)
end
/-- a def keeps its promise if its body does -/
theorem fn_body {P : Program} {w : World} {K : PySem.W.Frag} {mg : Str → Option Value} {base : Heap} {x qual : Str} {st : Stmt} {f : Addr} {fd : FuncData} {N ps : List Str} {n : Nat} {sp : Sp} (T : Fun K x qual st f fd) (sc : FnScope N ps (defScope st))
    (len : ∀ vs H Q E, sp vs H Q E → vs.length = ps.length)
    (hb : ∀ (cv : Value) (A : Around) (fs : List PySem.Env) (s : Shared) (H : Hp) (vs : List V) (Q : VK) (E : XK), RoomG n (A.deeper (PyProof.Rows.envOfC qual (defScope st) s.heap.objs.size f cv)) → sp vs H Q E →
      ∃ t, PSs (cxOf CX0 P w K mg base N qual (defScope st) f cv A fs s H E).nox (defBody st) t ∧ t { nx := fun _ H' => Q .non H', rt := Q } (L2.start N vs) H) : FnG P w K mg base CX0 (n + 1) f fd ps sp := by
  obtain ⟨oc, od, k0, k1, k2, an, cv, ct, osl, rfl, lk, cd⟩ := T.ex
  refine ⟨len, ?_⟩
  intro A fs s H ar us vs Q E hr en bd hv h
  have le := len _ _ _ _ h
  have kin : K.In s.heap := en.mod.kin.keeps fun b o z => (en.bs b o z).1
  have nol : s.heap.NoLimit := en.mod.nolimit.keeps fun b o z => (en.bs b o z).1
  refine codeAny_call_function hr.toRoom.depth (kin _ _ lk) rfl sc.co sc.gen rfl (PySem.W.codeRec_of kin cd) (bd _ _ _ _ ?_)
  have kinds : ∀ y ∈ ps.zip us, (defScope st).names.lookup y.1 = some .local ∨ ((defScope st).names.lookup y.1 = some .cell ∧ ((cellsFrom (s.heap.objs.size + 1) (defScope st).names []).lookup y.1).isSome = true) := by
    rintro ⟨m, v⟩ hy
    have hm := sc.par m (List.of_mem_zip hy).1
    exact hm.imp id fun z => ⟨z, PySem.W.cellsFrom_some _ _ _ (.inl z)⟩
  refine wpAny_newFunctionEnv_cells sc.kind kinds ?_
  rintro env rfl s1 ic
  obtain ⟨t, pt, q⟩ := hb cv A fs s H vs Q E (hr.deeper _) h
  have I := inv_start (CX := CX0) (K := K) (base := base) (E := E) (qual := qual) (f := f) (cd := cv) sc hr.toRoom.hd en le hv ic
  refine ⟨nol.keeps ic.toInCall.keep, codeAny_func (wpAny_mono (pt.nox.run [] s1 (L2.start N vs) H _ I q) ?_ fun _ _ z => z)⟩
  intro out s2 z
  match out, z with
  | .ret u, z =>
    obtain ⟨v, _, H2, J, rv, q⟩ := z
    exact ⟨v, H2, J.os, J.bare, J.base, J.hok, rv, q⟩
  | .next, z =>
    obtain ⟨_, H2, J, q⟩ := z
    exact ⟨.non, H2, J.os, J.bare, J.base, J.hok, rfl, q⟩
  | .brk, z =>
    obtain ⟨_, _, _, q⟩ := z
    exact q.elim
  | .cont, z =>
    obtain ⟨_, _, _, q⟩ := z
    exact q.elim
/-! ### what a def promises, over data -/
/-- args: what is handed in; ks: which of them have no lists; pre: when it may be called; res: what comes back, with the bound of the drawers -/
structure FS (α : Type) where
  ks : List SK
  args : α → List D
  pre : α → Nat → Prop
  res : α → Nat → D → Nat → Prop
  hl : ∀ a, (args a).length = ks.length := by intros; rfl
inductive RpsG (K : PySem.W.Frag) (F G : Addr → Prop) (H : Hp) : List D → List V → List Addr → Prop
  | nil : RpsG K F G H [] [] []
  | cons {d : D} {v : V} {f : List Addr} {ds : List D} {vs : List V} {g : List Addr} : RpG K F G H d v f → RpsG K F G H ds vs g → RpsG K F G H (d :: ds) (v :: vs) (f ++ g)
def SpF {α : Type} (K : PySem.W.Frag) (S : FS α) : Sp := fun vs H Q _ => ∃ (a : α) (c : Nat) (F G : Addr → Prop) (fp : List Addr), S.pre a c ∧ GensOk G H c ∧ RpsG K F G H (S.args a) vs fp ∧ (∀ x ∈ fp, ¬ G x) ∧ (∀ x, F x → (∃ o, H x = some o) ∧ ¬ G x) ∧
  ∀ v H' d c' fp', S.res a c d c' → Ext G H H' → GensOk G H' c' → Rp K (fun _ => False) H' d v fp' → fp'.Nodup → (∀ x ∈ fp', H x = none) → nsD d = true → Q v H'
def rCall {α : Type} (S : FS α) (ra : RA) : RE := fun Γ c Q => ra Γ c fun dks c1 => ∃ a, S.args a = dks.map (·.1) ∧ S.pre a c1 ∧ ∀ d c', S.res a c1 d c' → Q d (.R []) c'
section
variable {K : PySem.W.Frag} {B : Bx} {Γ : GE} {σ σ' : L2.St} {Hs H H' : Hp} {c c' : Nat} {fp : List Addr} {k : Kd} {d : D} {v : V} {ds : List D} {vs : List V} {dks : List DK}
theorem RpsG.length {F G : Addr → Prop} (r : RpsG K F G H ds vs fp) : vs.length = ds.length := by
  induction r with
  | nil => rfl
  | cons _ _ ih => rw [List.length_cons, List.length_cons, ih]
theorem RpsG.at {F G : Addr → Prop} (r : RpsG K F G H ds vs fp) : ∀ a ∈ fp, ∃ o, H a = some o ∧ isMut o = true := by
  induction r with
  | nil => exact fun _ h => nomatch h
  | cons q _ ih => exact fun a ha => (List.mem_append.mp ha).elim (q.at a) (ih a)
theorem RpsG.monoF {F F' G : Addr → Prop} (h : ∀ a, F a → F' a) (r : RpsG K F G H ds vs fp) : RpsG K F' G H ds vs fp := by
  induction r with
  | nil => exact .nil
  | cons q _ ih => exact .cons (q.monoF h) ih
theorem Args.rpsG (x : Args K B Hs H dks vs fp) : RpsG K B.F B.G H (dks.map (·.1)) vs fp := by
  induction x with
  | nil => exact .nil
  | cons r ng k d t ih => exact .cons r ih
theorem ed_call {α : Type} {S : FS α} {ta : TA} {ra : RA} {E' : XK} (ha : AD K ta ra) : ED K (tCall (SpF K S) [] E' ta) (rCall S ra) := by
  intro B Γ c σ H Qd Q E h f
  refine ha B Γ c σ H _ _ E h fun vs H' dks c' fp e g ar q => ?_
  obtain ⟨a, ea, hp, q⟩ := q
  rw [List.append_nil]
  have E' := E.ext e g
  refine ⟨a, c', B.F, B.G, fp, hp, g, by rw [ea]; exact ar.rpsG, ar.ng, fun x hx => ⟨E'.fl x hx, E.fg x hx⟩, fun v H2 d c2 fp' hr e2 g2 rp nd nw ns => ?_⟩
  refine f v H2 d (.R []) c2 ⟨e.trans e2, g2, fp', .inl (rp.monoF fun _ h => h.elim), fun x hx z => ?_, nd, fun x hx => .inl (new_back E e g.lsts (nw x hx))⟩ (q d c2 hr)
  obtain ⟨vs, ex, _⟩ := g.lsts x z
  rw [nw x hx] at ex; cases ex
end
/-- .. that may be shared: lists of what was handed in, or new ones that may stand twice -/
def SpS {α : Type} (K : PySem.W.Frag) (S : FS α) : Sp := fun vs H Q _ => ∃ (a : α) (c : Nat) (F G : Addr → Prop) (fp : List Addr), S.pre a c ∧ GensOk G H c ∧ RpsG K F G H (S.args a) vs fp ∧ (∀ x ∈ fp, ¬ G x) ∧ (∀ x, F x → (∃ o, H x = some o) ∧ ¬ G x) ∧
  ∀ v H' d c' fp', S.res a c d c' → Ext G H H' → GensOk G H' c' → Rp K (fun _ => False) H' d v fp' → (∀ x ∈ fp', (F x ∨ x ∈ fp) ∨ H x = none) → (∀ x ∈ fp', ¬ G x) → nsD d = true → Q v H'
def shOk : List DK → Bool
  | [] => true
  | p :: r => (noL p.1 || stK0 p.2) && shOk r
def rCallS {α : Type} (S : FS α) (ra : RA) : RE := fun Γ c Q => ra Γ c fun dks c1 => shOk dks = true ∧ ∃ a, S.args a = dks.map (·.1) ∧ S.pre a c1 ∧ ∀ d c', S.res a c1 d c' → Q d (if noL d then .R [] else .S) c'
section
variable {K : PySem.W.Frag} {B : Bx} {Γ : GE} {σ σ' : L2.St} {Hs H H' : Hp} {c c' : Nat} {fp : List Addr} {k : Kd} {d : D} {v : V} {ds : List D} {vs : List V} {dks : List DK}
theorem Args.sh (x : Args K B Hs H dks vs fp) (h : shOk dks = true) : ∀ a ∈ fp, B.F a ∨ Hs a = none := by
  induction x with
  | nil => exact fun _ h => nomatch h
  | @cons d k v f ds vs fr r ng ko ds' t ih =>
    have h' := Bool.and_eq_true_iff.mp h
    intro a ha
    rcases List.mem_append.mp ha with ha | ha
    · rcases Bool.or_eq_true_iff.mp h'.1 with z | z
      · have e0 : f = [] := r.elim (fun r => r.nol z) fun r => r.2.1
        rw [e0] at ha; cases ha
      · cases k with
        | R is =>
          cases is with
          | nil => exact .inr ((ko.2 a ha).elim id fun ⟨_, z, _⟩ => nomatch z)
          | cons _ _ => cases z
        | S => exact ko a ha
        | B => cases z
    · exact ih h'.2 a ha
theorem ed_callS {α : Type} {S : FS α} {ta : TA} {ra : RA} {E' : XK} (ha : AD K ta ra) : ED K (tCall (SpS K S) [] E' ta) (rCallS S ra) := by
  intro B Γ c σ H Qd Q E h f
  refine ha B Γ c σ H _ _ E h fun vs H' dks c' fp e g ar q => ?_
  obtain ⟨sh, a, ea, hp, q⟩ := q
  rw [List.append_nil]
  have E' := E.ext e g
  refine ⟨a, c', B.F, B.G, fp, hp, g, by rw [ea]; exact ar.rpsG, ar.ng, fun x hx => ⟨E'.fl x hx, E.fg x hx⟩, fun v H2 d c2 fp' hr e2 g2 rp nw ng ns => ?_⟩
  refine f v H2 d _ c2 ⟨e.trans e2, g2, fp', .inl (rp.monoF fun _ h => h.elim), ng, ?_⟩ (q d c2 hr)
  have key : ∀ x ∈ fp', B.F x ∨ H x = none := fun x hx => (nw x hx).elim (fun z => z.elim .inl (ar.sh sh x)) fun z => .inr (new_back E e g.lsts z)
  cases e : noL d with
  | true =>
    have e0 := rp.nol e
    subst e0
    rw [if_pos rfl]
    exact ⟨List.nodup_nil, fun _ h => nomatch h⟩
  | false =>
    rw [if_neg Bool.false_ne_true]
    exact key
end
/-- the slots at the entry -/
def Γ0 : List SK → List D → Nat → GE
  | k :: ks, d :: ds, n + 1 => some ⟨k, d⟩ :: Γ0 ks ds n
  | _, _, n => List.replicate n none
def nlOk : List SK → List D → Prop
  | .nl :: ks, d :: ds => noL d = true ∧ nlOk ks ds
  | .sh :: ks, _ :: ds => nlOk ks ds
  | .own :: _, _ :: _ => False
  | .byr :: _, _ :: _ => False
  | _, _ => True
section
variable {K : PySem.W.Frag} {H : Hp}
theorem Γ0_length : ∀ (ks : List SK) (ds : List D) (n : Nat), (Γ0 ks ds n).length = n
  | _ :: ks, _ :: ds, n + 1 => by show (Γ0 ks ds n).length + 1 = n + 1; rw [Γ0_length ks ds n]
  | [], [], n => by unfold Γ0; exact List.length_replicate
  | [], _ :: _, n => by unfold Γ0; exact List.length_replicate
  | _ :: _, [], n => by unfold Γ0; exact List.length_replicate
  | _ :: _, _ :: _, 0 => rfl
theorem gat_rep : ∀ (n i : Nat), gat (List.replicate n none) i = none
  | 0, _ => rfl
  | _ + 1, 0 => rfl
  | n + 1, i + 1 => gat_rep n i
theorem Γ0_slot {F G : Addr → Prop} : ∀ {ks : List SK} {ds : List D} {vs : List V} {fp : List Addr} {n i : Nat} {s : Sl}, RpsG K F G H ds vs fp → nlOk ks ds → gat (Γ0 ks ds n) i = some s →
    ∃ v f, (vs.map some)[i]? = some (some v) ∧ RpG K F G H s.d v f ∧ (∀ a ∈ f, a ∈ fp) ∧ ((s.k = .nl ∧ f = []) ∨ s.k = .sh)
  | k :: ks, d :: ds, _, _, n + 1, 0, s, .cons r rs, hk, e => by
    cases e
    refine ⟨_, _, rfl, r, fun a ha => List.mem_append_left _ ha, ?_⟩
    cases k with
    | nl =>
      refine .inl ⟨rfl, ?_⟩
      rcases r with r | ⟨_, e, _⟩
      · exact r.nol hk.1
      · exact e
    | sh => exact .inr rfl
    | own => exact hk.elim
    | byr => exact hk.elim
  | k :: ks, d :: ds, _, _, n + 1, i + 1, s, .cons r rs, hk, e => by
    have hk' : nlOk ks ds := by cases k with
      | nl => exact hk.2
      | sh => exact hk
      | own => exact hk.elim
      | byr => exact hk.elim
    obtain ⟨v, f, h1, h2, h3, h4⟩ := Γ0_slot (n := n) (i := i) rs hk' e
    exact ⟨v, f, h1, h2, fun a ha => List.mem_append_right _ (h3 a ha), h4⟩
  | [], _, _, _, n, i, _, _, _, e => by
    unfold Γ0 at e
    rw [gat_rep] at e; cases e
  | _ :: _, [], _, _, n, i, _, _, _, e => by
    unfold Γ0 at e
    rw [gat_rep] at e; cases e
  | _ :: _, _ :: _, _, _, 0, i, _, _, _, e => by cases e
end
/-- a def keeps its promise: its body as a term of rules, that term over data, and the wish at its start -/
theorem fn_ok {α : Type} {S : FS α} {P : Program} {w : World} {K : PySem.W.Frag} {mg : Str → Option Value} {base : Heap} {x qual : Str} {st : Stmt} {f : Addr} {fd : FuncData} {N ps : List Str} {k : Nat} (F : Fun K x qual st f fd) (sc : FnScope N ps (defScope st))
    (hn : S.ks.length = ps.length) (hN : ps.length ≤ N.length) (hk : ∀ a c, S.pre a c → nlOk S.ks (S.args a))
    (hbody : ∀ (cdv : Value) (A : Around) (outer : List PySem.Env) (s : Shared) (H : Hp) (Q : VK) (E : XK), RoomG k (A.deeper (PyProof.Rows.envOfC qual (defScope st) s.heap.objs.size f cdv)) →
      ∃ t r, PSs (cxOf CX0 P w K mg base N qual (defScope st) f cdv A outer s H E).nox (defBody st) t ∧ SD K t r ∧ ∀ a c, S.pre a c → r { nx := fun _ c' => S.res a c .non c', rt := fun _ d c' => S.res a c d c' } (Γ0 S.ks (S.args a) N.length) c) :
    FnG P w K mg base CX0 (k + 1) f fd ps (SpF K S) := by
  refine fn_body F sc (fun vs H Q E h => ?_) (fun cdv A outer s H vs Q E hr h => ?_)
  · obtain ⟨a, c, F, G, fp, _, _, r, _⟩ := h
    rw [r.length, S.hl, hn]
  · obtain ⟨t, r, h1, h2, h3⟩ := hbody cdv A outer s H Q E hr
    obtain ⟨a, c, F0, G, fp, hp, g, rs, ng, hF, q⟩ := h
    refine ⟨t, h1, ?_⟩
    have hlen : vs.length = ps.length := by rw [rs.length, S.hl, hn]
    have hst : (L2.start N vs).length = N.length := by
      unfold L2.start
      rw [List.length_append, List.length_map, List.length_replicate]
      omega
    refine h2 ⟨fun a => F0 a ∨ a ∈ fp, G, H, fun _ => False, fun _ => none⟩ [] _ _ ⟨?_, ?_, ?_, ?_, fun _ _ _ _ _ _ _ _ _ _ _ _ _ h => False.elim h⟩ { F := fun a => F0 a ∨ a ∈ fp, G := G, en := ⟨fun a => F0 a ∨ a ∈ fp, G, H, fun _ => False, fun _ => none⟩, O := fun _ _ => False, held := [] } (Γ0 S.ks (S.args a) N.length) c (L2.start N vs) H rfl rfl ⟨?_, g, Ext.refl H, fun _ h => h, fun _ h => .inl h, fun x hx => hx.elim (fun z => (hF x z).2) (ng x), fun x hx => hx.elim (fun z => (hF x z).1) fun hx => ?_, fun _ h => .inl h, fun _ h => h.elim, fun _ _ h => h.elim, fun _ h => (nomatch h), fun i s e => ?_⟩ (h3 a c hp)
    · intro B Γ c' σ H' w1 _ E q'
      refine q .non H' .non c' [] q' ?_ ?_ rp_non List.nodup_nil (fun _ h => nomatch h) rfl
      · have := E.ext0; rw [w1] at this; exact this.mono fun x z => z.elim id fun z => z.elim
      · exact E.gens.sub fun x hx => E.gsub x (by rw [w1]; exact hx)
    · exact fun _ _ _ _ _ _ _ _ h => h.elim
    · exact fun _ _ _ _ _ _ _ _ h => h.elim
    · intro B Γ c' σ H' v d fp' is w1 E r st ns hr
      refine q v H' d c' fp' hr ?_ ?_ (r.anyF ns) st.1 (fun x hx => ?_) ns
      · have := E.ext0; rw [w1] at this; exact this.mono fun x z => z.elim id fun z => z.elim
      · exact E.gens.sub fun x hx => E.gsub x (by rw [w1]; exact hx)
      · have := (st.2 x hx).2.2.1
        rw [w1] at this
        exact this.elim id fun z => z.elim
    · rw [hst, Γ0_length]
    · obtain ⟨vs, e, _⟩ := rs.at x hx
      exact ⟨_, e⟩
    · obtain ⟨v, f, e1, e2, e3, e4⟩ := Γ0_slot rs (hk a c hp) e
      refine ⟨v, f, ?_, e2.monoF fun _ => .inl, ?_⟩
      · show (vs.map some ++ _)[i]? = _
        have hi : i < (vs.map some).length := by
          by_cases z : i < (vs.map some).length
          · exact z
          · rw [List.getElem?_eq_none (by omega)] at e1; cases e1
        rw [List.getElem?_append_left hi]; exact e1
      · obtain ⟨sk, sd⟩ := s
        rcases e4 with ⟨z, z2⟩ | z
        · cases z; exact z2
        · cases z; exact fun a ha => .inr (e3 a ha)
/-- a def keeps its promise of a shared thing: its body as a term of rules, that term over data, and the wish at its start -/
theorem fn_okS {α : Type} {S : FS α} {P : Program} {w : World} {K : PySem.W.Frag} {mg : Str → Option Value} {base : Heap} {x qual : Str} {st : Stmt} {f : Addr} {fd : FuncData} {N ps : List Str} {k : Nat} (F : Fun K x qual st f fd) (sc : FnScope N ps (defScope st))
    (hn : S.ks.length = ps.length) (hN : ps.length ≤ N.length) (hk : ∀ a c, S.pre a c → nlOk S.ks (S.args a))
    (hbody : ∀ (cdv : Value) (A : Around) (outer : List PySem.Env) (s : Shared) (H : Hp) (Q : VK) (E : XK), RoomG k (A.deeper (PyProof.Rows.envOfC qual (defScope st) s.heap.objs.size f cdv)) →
      ∃ t r, PSs (cxOf CX0 P w K mg base N qual (defScope st) f cdv A outer s H E).nox (defBody st) t ∧ SD K t r ∧ ∀ a c, S.pre a c → r { nx := fun _ c' => S.res a c .non c', rt := fun _ _ _ => False, rs := fun d c' => S.res a c d c' } (Γ0 S.ks (S.args a) N.length) c) :
    FnG P w K mg base CX0 (k + 1) f fd ps (SpS K S) := by
  refine fn_body F sc (fun vs H Q E h => ?_) (fun cdv A outer s H vs Q E hr h => ?_)
  · obtain ⟨a, c, F, G, fp, _, _, r, _⟩ := h
    rw [r.length, S.hl, hn]
  · obtain ⟨t, r, h1, h2, h3⟩ := hbody cdv A outer s H Q E hr
    obtain ⟨a, c, F0, G, fp, hp, g, rs, ng, hF, q⟩ := h
    refine ⟨t, h1, ?_⟩
    have hlen : vs.length = ps.length := by rw [rs.length, S.hl, hn]
    have hst : (L2.start N vs).length = N.length := by
      unfold L2.start
      rw [List.length_append, List.length_map, List.length_replicate]
      omega
    refine h2 ⟨fun a => F0 a ∨ a ∈ fp, G, H, fun _ => False, fun _ => none⟩ [] _ _ ⟨?_, ?_, ?_, fun _ _ _ _ _ _ _ _ _ _ _ _ _ _ h => False.elim h, ?_⟩ { F := fun a => F0 a ∨ a ∈ fp, G := G, en := ⟨fun a => F0 a ∨ a ∈ fp, G, H, fun _ => False, fun _ => none⟩, O := fun _ _ => False, held := [] } (Γ0 S.ks (S.args a) N.length) c (L2.start N vs) H rfl rfl ⟨?_, g, Ext.refl H, fun _ h => h, fun _ h => .inl h, fun x hx => hx.elim (fun z => (hF x z).2) (ng x), fun x hx => hx.elim (fun z => (hF x z).1) fun hx => ?_, fun _ h => .inl h, fun _ h => h.elim, fun _ _ h => h.elim, fun _ h => (nomatch h), fun i s e => ?_⟩ (h3 a c hp)
    · intro B Γ c' σ H' w1 _ E q'
      refine q .non H' .non c' [] q' ?_ ?_ rp_non (fun _ h => nomatch h) (fun _ h => nomatch h) rfl
      · have := E.ext0; rw [w1] at this; exact this.mono fun x z => z.elim id fun z => z.elim
      · exact E.gens.sub fun x hx => E.gsub x (by rw [w1]; exact hx)
    · exact fun _ _ _ _ _ _ _ _ h => h.elim
    · exact fun _ _ _ _ _ _ _ _ h => h.elim
    · intro B Γ c' σ H' v d fp' w1 E r nw ns hr
      refine q v H' d c' fp' hr ?_ ?_ (r.anyF ns) (fun x hx => ?_) (fun x hx gx => ?_) ns
      · have := E.ext0; rw [w1] at this; exact this.mono fun x z => z.elim id fun z => z.elim
      · exact E.gens.sub fun x hx => E.gsub x (by rw [w1]; exact hx)
      · have := nw x hx
        rw [w1] at this
        exact this.elim .inl fun z => .inr (z.elim id fun z => z.elim)
      · have := nw x hx
        rw [w1] at this
        rcases this with (z | z) | z | z
        · exact (hF x z).2 gx
        · exact ng x z gx
        · obtain ⟨o, e, _⟩ := g.lsts x gx
          have z : H x = none := z
          rw [z] at e; cases e
        · exact z
    · rw [hst, Γ0_length]
    · obtain ⟨vs, e, _⟩ := rs.at x hx
      exact ⟨_, e⟩
    · obtain ⟨v, f, e1, e2, e3, e4⟩ := Γ0_slot rs (hk a c hp) e
      refine ⟨v, f, ?_, e2.monoF fun _ => .inl, ?_⟩
      · show (vs.map some ++ _)[i]? = _
        have hi : i < (vs.map some).length := by
          by_cases z : i < (vs.map some).length
          · exact z
          · rw [List.getElem?_eq_none (by omega)] at e1; cases e1
        rw [List.getElem?_append_left hi]; exact e1
      · obtain ⟨sk, sd⟩ := s
        rcases e4 with ⟨z, z2⟩ | z
        · cases z; exact z2
        · cases z; exact fun a ha => .inr (e3 a ha)
end DL
namespace DL
open PySem PySem.Spec L2

/-! ### the drawers, read and written -/
def rIxG (i j : Nat) : RE := fun Γ c Q => match gat Γ i with
  | some ⟨.nl, .gen⟩ => ∀ n : Int, (j = 0 → 0 ≤ n) → (j = 2 → 0 ≤ n ∧ n ≤ c) → Q (.int n) (.R []) c
  | _ => False
def rSetG (i j : Nat) (re : RE) : RS := fun Dd Γ c => re Γ c fun d _ c1 => match d, gat Γ i with
  | .int n, some ⟨.nl, .gen⟩ => (j = 0 → 0 ≤ n) ∧ (j = 2 → 0 ≤ n) ∧ ∃ c2 : Nat, c1 ≤ c2 ∧ (j = 2 → n ≤ c2) ∧ Dd.nx Γ c2
  | _, _ => False
section
variable {K : PySem.W.Frag} {B : Bx} {Γ : GE} {σ σ' : L2.St} {Hs H H' : Hp} {c c' : Nat} {fp : List Addr} {k : Kd} {d : D} {v : V} {ds : List D} {vs : List V} {dks : List DK}
theorem ed_ixG {i j : Nat} (hj : j < 3) : ED K (tOp (rIxA K) (tVar i) (tC (.int (j : Int)))) (rIxG i j) := by
  intro B Γ c σ H Qd Q E h f
  unfold rIxG at h
  split at h
  · rename_i es
    obtain ⟨v, fp, hv, r, st⟩ := E.slot i _ es
    obtain ⟨a, rfl, ga⟩ := r.gen
    obtain ⟨x, y, z, e, hx, hz, hc⟩ := E.gens a ga
    have go : ∀ n : Int, ([V.int x, V.int y, V.int z] : List V)[j]? = some (.int n) → (j = 0 → 0 ≤ n) → (j = 2 → 0 ≤ n ∧ n ≤ c) → ∃ v, σ[i]? = some (some v) ∧ (fun x H1 => tC (.int (j : Int)) σ H1 fun y H2 => rIxA K x y H2 Q) v H := fun n hn h0 h2 =>
      ⟨.ref a, hv, .inl <| .inl ⟨a, _, _, .int n, rfl, rfl, SqL.of e, atI_nat hn, f _ H _ _ c (Res.flat (Ext.refl H) E.gens rp_int) (h n h0 h2)⟩⟩
    match j, hj with
    | 0, _ => exact go x rfl (fun _ => hx) (fun z => nomatch z)
    | 1, _ => exact go y rfl (fun z => nomatch z) (fun z => nomatch z)
    | 2, _ => exact go z rfl (fun z => nomatch z) (fun _ => ⟨hz, hc⟩)
  · exact h.elim
theorem sd_setG {i j : Nat} {te : TE} {re : RE} (hj : j < 3) (he : ED K te re) : SD K (tAsg te (gSub (tVar i) (tC (.int (j : Int))) rSetL)) (rSetG i j re) := by
  intro en hd Dd D L B Γ c σ H h1 h3 E q
  refine he B Γ c σ H _ _ E q fun w H1 d k c1 x q => ?_
  have E1 := E.ext x.ext x.gens
  split at q
  · rename_i n es
    obtain ⟨q0, q2, c2, hc, hn, q⟩ := q
    obtain ⟨fp0, r0, _⟩ := x.rp
    rw [r0.int]
    obtain ⟨v, fp, hv, r, st⟩ := E1.slot i _ es
    obtain ⟨a, rfl, ga⟩ := r.gen
    obtain ⟨p, y, z, e, hx, hz, hcz⟩ := E1.gens a ga
    have go : ∀ p' y' z' : Int, ([V.int p, V.int y, V.int z] : List V).set j (.int n) = [.int p', .int y', .int z'] → 0 ≤ p' → 0 ≤ z' → z' ≤ c2 → ∃ v, σ[i]? = some (some v) ∧ (fun o H1 => tC (.int (j : Int)) σ H1 fun i' H2 => rSetL o i' (.int n) H2 fun H3 => D.nx σ H3) v H1 := fun p' y' z' hs hp hz' hc' => by
      refine ⟨.ref a, hv, a, _, (j : Int), j, rfl, rfl, e, ?_, ?_⟩
      · unfold ixN
        rw [if_pos (by omega), if_pos (by show (j : Int) < 3; omega)]; rfl
      · rw [hs]
        have ex : Ext B.G H1 (upd H1 a (.lst [.int p', .int y', .int z'])) := fun b o eb nb => by
          have hne : b ≠ a := fun z => nb (by rw [z]; exact ga)
          rw [upd_ne hne]; exact eb
        refine L.nx B Γ c2 σ _ h1 h3 (E1.ext ex fun b gb => ?_) q
        by_cases hb : b = a
        · subst hb
          exact ⟨p', y', z', upd_same, hp, hz', hc'⟩
        · obtain ⟨x, y, z, e, g1, g2, g3⟩ := E1.gens b gb
          exact ⟨x, y, z, by rw [upd_ne hb]; exact e, g1, g2, by omega⟩
    match j, hj with
    | 0, _ => exact go n y z rfl (q0 rfl) hz (by omega)
    | 1, _ => exact go p n z rfl hx hz (by omega)
    | 2, _ => exact go p y n rfl hx (q2 rfl) (hn rfl)
  · exact q.elim
end
/-- a slot with a list of three numbers is a drawer from here on -/
def mkGen (i : Nat) (Γ : GE) (c : Nat) (P : GE → Prop) : Prop := ∃ x y z : Int, gat Γ i = some ⟨.own, .lst [.int x, .int y, .int z]⟩ ∧ 0 ≤ x ∧ 0 ≤ z ∧ z ≤ c ∧ P (gset Γ i (some ⟨.nl, .gen⟩))
def rMkGen (i : Nat) (r : RS) : RS := fun Dd Γ c => mkGen i Γ c fun Γ' => r Dd Γ' c
section
variable {K : PySem.W.Frag}
theorem sd_mkGen (i : Nat) {t : TS} {r : RS} (h : SD K t r) : SD K t (rMkGen i r) := by
  intro en hd Dd D L B Γ c σ H h1 h3 E q
  obtain ⟨x, y, z, es, hx, hz, hc, q⟩ := q
  obtain ⟨v, fp, hv, r, st⟩ := E.slot i _ es
  obtain ⟨a, vs, f, rfl, ea, rfl, rs⟩ := r.lst
  have ei : vs = [.int x, .int y, .int z] := (rps_ints (ns := [x, y, z]) rs).1
  subst ei
  obtain ⟨o1, o2, o3, o4, o5⟩ := E.ol i a (st.2 a List.mem_cons_self)
  refine h en hd Dd D L { B with G := fun b => B.G b ∨ b = a, O := fun j b => B.O j b ∧ b ≠ a } _ c σ H h1 h3 ⟨by rw [gset_length]; exact E.len, fun b hb => ?_, E.ext0, fun b hb => .inl (E.gsub b hb), fun b hb => hb.elim (E.gnew b) fun e => .inr (e ▸ o4), fun b hb z => z.elim (E.fg b hb) fun e => o2 (e ▸ hb), E.fl, E.fn, E.pl, fun j b hb => ?_, E.hl, fun j s es' => ?_⟩ q
  · rcases hb with hb | rfl
    · exact E.gens b hb
    · exact ⟨x, y, z, ea, hx, hz, hc⟩
  · obtain ⟨g1, g2, g3, g4, g5⟩ := E.ol j b hb.1
    exact ⟨g1, g2, fun z => z.elim g3 hb.2, g4, fun m z => g5 m z.1⟩
  · rcases gat_gset es' with ⟨rfl, w⟩ | ⟨w, es'⟩
    · cases w
      exact ⟨.ref a, [], hv, .inr ⟨rfl, rfl, a, rfl, .inr rfl⟩, rfl⟩
    · obtain ⟨u, g, h1, h2, h3⟩ := E.slot j s es'
      refine ⟨u, g, h1, h2.elim .inl fun ⟨e1, e2, b, e3, hb⟩ => .inr ⟨e1, e2, b, e3, .inl hb⟩, ?_⟩
      obtain ⟨sk, sd⟩ := s
      cases sk with
      | nl => exact h3
      | sh => exact h3
      | own => exact ⟨h3.1, fun b hb => ⟨h3.2 b hb, fun e => w (o5 j (e ▸ h3.2 b hb))⟩⟩
      | byr => exact ⟨⟨h3.1.1, fun b hb => ⟨h3.1.2 b hb, fun e => w (o5 j (e ▸ h3.1.2 b hb))⟩⟩, h3.2⟩
end

/-! ### a, b = x, y -/
def rPar (i j : Nat) (ra : RA) : RS := fun Dd Γ c => ra Γ c fun dks c1 => match dks with
  | [(d1, _), (d2, _)] => noL d1 = true ∧ noL d2 = true ∧ Dd.nx (gset (gset Γ i (some ⟨.nl, d1⟩)) j (some ⟨.nl, d2⟩)) c1
  | _ => False
section
variable {K : PySem.W.Frag}
theorem sd_par (i j : Nat) {ta : TA} {ra : RA} (ha : AD K ta ra) : SD K (tPar i j ta) (rPar i j ra) := by
  intro en hd Dd D L B Γ c σ H h1 h3 E q
  refine ha B Γ c σ H _ _ E q fun vs H1 dks c1 fp e g ar q => ?_
  have E1 := E.ext e g
  split at q
  · obtain ⟨n1, n2, q⟩ := q
    obtain ⟨x, y, rfl, a2⟩ := ar.pair
    obtain ⟨f1, f2, rfl, r1, r2, g1, g2, o1, o2, _⟩ := a2.one2
    refine ⟨x, y, rfl, ?_⟩
    have z1 : f1 = [] := r1.elim (fun r => r.nol n1) fun r => r.2.1
    have z2 : f2 = [] := r2.elim (fun r => r.nol n2) fun r => r.2.1
    subst z1; subst z2
    obtain ⟨B1, Γ1, l1, E2, p1, so1⟩ := E1.store (i := i) r1 (k := .R []) ⟨List.nodup_nil, fun _ h => nomatch h⟩ (P := fun Γ' => Γ' = gset Γ i (some ⟨.nl, _⟩)) (by unfold StoreOk; rw [if_pos n1])
    subst p1
    rw [← l1.G] at r2
    have r2 := r2.monoF so1.2.2
    obtain ⟨B2, Γ2, l2, E3, p2, _, _⟩ := E2.store (i := j) r2 (k := .R []) ⟨List.nodup_nil, fun _ h => nomatch h⟩ (P := fun Γ' => Γ' = gset (gset Γ i (some ⟨.nl, _⟩)) j (some ⟨.nl, _⟩)) (by unfold StoreOk; rw [if_pos n2])
    subst p2
    obtain ⟨w1, w3⟩ := (l1.trans l2).to h1 h3
    exact L.nx B2 _ c1 _ H1 w1 w3 E3 q
  · exact q.elim
end

/-! ### a def of the text, at its place -/
structure FnAt (P : Program) (w : World) (K : PySem.W.Frag) (mg : Str → Option Value) (base : Heap) (k : Nat) (x : Str) (ps : List Str) (sp : Sp) (f : Addr) (fd : FuncData) : Prop where
  ok : FnG P w K mg base CX0 k f fd ps sp
  g : mg x = some (.ref f)
  kp : PySem.W.keepIn K (.ref f) = true
  b : Binds K fd ps []
/-- the built-in names that a law's text may name -/
def bNames : List Str := ["int", "bool", "list", "tuple", "str", "set", "dict", "len", "abs", "max", "min", "sum", "all", "any", "isinstance", "range", "zip", "enumerate", "sorted", "reversed"]
def Bn (mg : Str → Option Value) : Prop := ∀ x : Str, x ∈ bNames → mg x = none

/-! ### the usual drawers' defs -/
def LIM : Nat := 1000000000000000000
def S_pick : FS Int where
  ks := [.nl, .nl]
  args m := [.gen, .int m]
  pre m c := 0 < m ∧ m < 1073741824 ∧ c < LIM
  res m c d c' := ∃ r : Int, d = .int r ∧ 0 ≤ r ∧ r < m ∧ c' = c + 1
def S_mix : FS (Int × Int) where
  ks := [.nl, .nl]
  args p := [.int p.1, .int p.2]
  pre p c := 0 ≤ p.2 ∧ p.2 < 2000000000000000000
  res p c d c' := ∃ r : Int, d = .int r ∧ 0 ≤ r ∧ r < 1999999973 ∧ c' = c
def S_left : FS (List Int × Int) where
  ks := [.nl, .nl]
  args p := [.scr p.1, .int p.2]
  pre p c := 0 ≤ p.2 ∧ p.2 < 1000000000
  res p c d c' := ∃ x y : Int, d = .lst [.int x, .int y, .int 0] ∧ 0 ≤ x ∧ c' = c
end DL
namespace DL
open PySem PySem.Spec L2

/-! ### the law's promise -/
def S_law : FS (List Int) where
  ks := [.nl]
  args ns := [.scr ns]
  pre ns c := ns.length ≤ 63 ∧ c = 0
  res _ _ d _ := d = .bl true
theorem law_sp {K : PySem.W.Frag} {H : Hp} {a : Addr} {ns : List Int} (hl : ns.length ≤ 63) (ho : Only H) (h : SqL K H a (ns.map V.int)) : SpF K S_law [.ref a] H (fun v _ => v = .bl true) fun _ _ _ => False := by
  have hF : SqF K H a (ns.map V.int) := by
    rcases h with (h | ⟨o, h⟩) | h
    · rcases ho a with z | ⟨o, xs, z⟩
      · rw [h] at z; cases z
      · rw [h] at z; cases z
    · exact .inl ⟨o, h⟩
    · exact .inr h
  refine ⟨ns, 0, fun _ => False, fun _ => False, [] ++ [], ⟨hl, rfl⟩, fun _ h => h.elim, .cons (.inl (by rw [Rp]; exact ⟨rfl, a, rfl, hF⟩)) .nil, fun _ h => (nomatch h), fun _ h => h.elim, fun v H' d c' fp' hr _ _ r _ _ _ => ?_⟩
  have e : d = .bl true := hr
  subst e
  rw [Rp] at r
  exact r.1

/-! ### plain data, written short -/
def eCol (ns : List Int) : D := .tup (ns.map .int)
def eF (p : Int × Int) : D := .tup [.int p.1, .int p.2]
def eMid (ps : List (Int × Int)) : D := .tup (ps.map eF)
theorem noLs_map {α : Type} {f : α → D} (h : ∀ x, noL (f x) = true) : ∀ xs : List α, noLs (xs.map f) = true
  | [] => rfl
  | x :: xs => by
    show (noL (f x) && noLs (xs.map f)) = true
    rw [h x, noLs_map h xs]; rfl
theorem noLs_ints (ns : List Int) : noLs (ns.map D.int) = true := noLs_map (fun _ => rfl) ns
theorem noL_col (ns : List Int) : noL (eCol ns) = true := noLs_ints ns
theorem noL_F (p : Int × Int) : noL (eF p) = true := rfl
theorem noL_mid (ps : List (Int × Int)) : noL (eMid ps) = true := noLs_map noL_F ps
theorem noLs_mid (ps : List (Int × Int)) : noLs (ps.map eF) = true := noLs_map noL_F ps
theorem noLs_cols (cs : List (List Int)) : noLs (cs.map eCol) = true := noLs_map noL_col cs
theorem nsDs_map {α : Type} {f : α → D} (h : ∀ x, nsD (f x) = true) : ∀ xs : List α, nsDs (xs.map f) = true
  | [] => rfl
  | x :: r => by show (nsD (f x) && nsDs (r.map f)) = true; rw [h x, nsDs_map h r]; rfl
theorem nsDs_mapA {α : Type} {f : α → D} : ∀ xs : List α, nsDs (xs.map f) = xs.all fun x => nsD (f x)
  | [] => rfl
  | x :: r => by show (nsD (f x) && nsDs (r.map f)) = _; rw [nsDs_mapA r]; rfl
theorem allT {α : Type} : ∀ xs : List α, (xs.all fun _ => true) = true
  | [] => rfl
  | x :: r => by show (true && r.all fun _ => true) = true; rw [allT r]; rfl
theorem nsDs_ints (ns : List Int) : nsDs (ns.map D.int) = true := nsDs_of (noLs_ints ns)
theorem nsD_col (ns : List Int) : nsD (eCol ns) = true := nsD_of (noL_col ns)
theorem nsD_mid (ps : List (Int × Int)) : nsD (eMid ps) = true := nsD_of (noL_mid ps)
theorem nsDs_mid (ps : List (Int × Int)) : nsDs (ps.map eF) = true := nsDs_of (noLs_mid ps)
theorem nsDs_cols (cs : List (List Int)) : nsDs (cs.map eCol) = true := nsDs_of (noLs_cols cs)
theorem isDatas_map {α : Type} {f : α → D} (h : ∀ x, isData (f x) = true) : ∀ xs : List α, isDatas (xs.map f) = true
  | [] => rfl
  | x :: xs => by
    show (isData (f x) && isDatas (xs.map f)) = true
    rw [h x, isDatas_map h xs]; rfl
theorem isData_col (ns : List Int) : isData (eCol ns) = true := isDatas_map (fun _ => rfl) ns
theorem isData_F (p : Int × Int) : isData (eF p) = true := rfl
theorem isData_mid (ps : List (Int × Int)) : isData (eMid ps) = true := isDatas_map isData_F ps

/-! ### comprehensions whose items go one to one -/
theorem take_map_succ {α : Type} {f : D → α} {ds : List D} {i : Nat} {d : D} (h : ds[i]? = some d) : (ds.take i).map f ++ [f d] = (ds.take (i + 1)).map f := by
  rw [List.take_add_one, h, List.map_append]; rfl
/-- a comprehension whose element is f of the item, without lists, the drawers' bound kept -/
theorem rLc_map {vs : List Nat} {ri : RI} {rg : RG} {re : RE} {Γ : GE} {c : Nat} {Q : D → Kd → Nat → Prop} (ds : List D) (nl st : Bool) (c1 : Nat) (f : D → D)
    (hi : ∀ P : List D → Bool → Bool → Nat → Prop, P ds nl st c1 → ri Γ c P) (hl : ds.length ≤ 1000000)
    (hs : ∀ (i : Nat) (d : D) (P : D → Kd → Nat → Prop), ds[i]? = some d → P (f d) (.R []) c1 → rg d (itK nl st) (kills vs Γ) fun Γ2 => re Γ2 c1 P) (hn : ∀ (i : Nat) (d : D), ds[i]? = some d → f d ≠ .gen)
    (h : Q (.lst (ds.map f)) (.R []) c1) (hx : ∀ x, nsD (f x) = true := by intros; first | rfl | exact nsD_of (noL_col _) | exact nsD_of (noL_mid _) | exact nsDs_of (noLs_ints _) | exact nsDs_of (noLs_cols _)) : rLc vs ri rg rYes re Γ c Q := by
  refine hi _ ⟨hl, false, fun i acc c' => acc = (ds.take i).map f ∧ c' = c1, ⟨rfl, rfl⟩, ?_, ?_⟩
  · rintro i d acc c' hd _ ⟨rfl, rfl⟩
    refine hs i d _ hd ⟨hn i d hd, ?_, take_map_succ hd, rfl⟩
    unfold elOk
    rw [hx, Bool.or_eq_true]
    exact .inr rfl
  · rintro acc c' ⟨rfl, rfl⟩
    rw [List.take_length]
    exact h

/-! ### calls, told plainly -/
theorem pick_iff {m : Int} {c : Nat} {P : D → Nat → Prop} : (∃ a, S_pick.args a = [.gen, .int m] ∧ S_pick.pre a c ∧ ∀ d c', S_pick.res a c d c' → P d c') ↔ (0 < m ∧ m < 1073741824 ∧ c < LIM ∧ ∀ r : Int, 0 ≤ r → r < m → P (.int r) (c + 1)) := by
  constructor
  · rintro ⟨a, e, ⟨h0, h1, h2⟩, h⟩
    have ea : a = m := by
      have e : [D.gen, D.int a] = [.gen, .int m] := e
      simpa using e
    subst ea
    exact ⟨h0, h1, h2, fun r r0 r1 => h _ _ ⟨r, rfl, r0, r1, rfl⟩⟩
  · rintro ⟨h0, h1, h2, h⟩
    refine ⟨m, rfl, ⟨h0, h1, h2⟩, ?_⟩
    rintro d c' ⟨r, rfl, r0, r1, rfl⟩
    exact h r r0 r1
theorem mix_iff {x k : Int} {c : Nat} {P : D → Nat → Prop} : (∃ a, S_mix.args a = [.int x, .int k] ∧ S_mix.pre a c ∧ ∀ d c', S_mix.res a c d c' → P d c') ↔ (0 ≤ k ∧ k < 2000000000000000000 ∧ ∀ r : Int, 0 ≤ r → r < 1999999973 → P (.int r) c) := by
  constructor
  · rintro ⟨⟨a, b⟩, e, ⟨h0, h1⟩, h⟩
    have e : [D.int a, D.int b] = [.int x, .int k] := e
    simp only [List.cons.injEq, D.int.injEq, and_true] at e
    obtain ⟨rfl, rfl⟩ := e
    exact ⟨h0, h1, fun r r0 r1 => h _ _ ⟨r, rfl, r0, r1, rfl⟩⟩
  · rintro ⟨h0, h1, h⟩
    refine ⟨(x, k), rfl, ⟨h0, h1⟩, ?_⟩
    rintro d c' ⟨r, rfl, r0, r1, rfl⟩
    exact h r r0 r1
theorem atI_mem {α : Type} {xs : List α} {i : Int} (h0 : 0 ≤ i) (h1 : i < xs.length) : ∃ x, x ∈ xs ∧ atI xs i = some x := by
  have h : i.toNat < xs.length := by omega
  refine ⟨xs[i.toNat], List.getElem_mem h, ?_⟩
  unfold atI ixN
  rw [if_pos h0, if_pos h1]
  exact List.getElem?_eq_getElem h
end DL
namespace DL
open PySem PySem.Spec L2
theorem atI_ints {ns : List Int} {i : Int} (h0 : 0 ≤ i) (h1 : i < (ns.length : Nat)) : ∃ n, n ∈ ns ∧ atI (ns.map D.int) i = some (.int n) := by
  obtain ⟨n, hn, e⟩ := atI_mem h0 h1
  exact ⟨n, hn, atI_map D.int e⟩
theorem nines : ∀ k : Nat, 1 ≤ k → k ≤ 40 → PySem.intText? (repS (Str.ofString "9") k) = some ((10 : Int) ^ k - 1) ∧ (repS (Str.ofString "9") k).length ≤ 640 := by
  have h : ((List.range 41).all fun k => k == 0 || decide (PySem.intText? (repS (Str.ofString "9") k) = some ((10 : Int) ^ k - 1) ∧ (repS (Str.ofString "9") k).length ≤ 640)) = true := by decide +kernel
  intro k h1 h2
  have := List.all_eq_true.mp h k (List.mem_range.mpr (by omega))
  have e : (k == 0) = false := by rw [beq_eq_false_iff_ne]; omega
  rw [e, Bool.false_or] at this
  exact of_decide_eq_true this
/-- (width, how many unlike numbers) -/
def S_kind : FS Unit where
  ks := [.nl]
  args _ := [.gen]
  pre _ c := c + 2 < LIM
  res _ c d c' := ∃ w s : Int, d = .tup [.int w, .int s] ∧ 1 ≤ w ∧ w ≤ 5 ∧ 3 ≤ s ∧ s ≤ 1000 ∧ c' = c + 2
theorem cmbs_nil : cmbs [] = .R [] := rfl
theorem cmbs_R {d : D} {r : List DK} : cmbs ((d, .R []) :: r) = cmbs r := by
  show cmb (.R []) (cmbs r) = cmbs r
  cases cmbs r with
  | R is => rfl
  | S => rfl
  | B => rfl
theorem isR_R {is : List Nat} : isR (.R is) = true := rfl
theorem elOk_nl {e : D} {k : Kd} {sh st : Bool} (h : noL e = true) : elOk e k sh st = true := by unfold elOk; rw [h]; rfl
theorem elOk_R {e : D} {sh st : Bool} (h : nsD e = true) : elOk e (.R []) sh st = true := by unfold elOk; rw [h, Bool.or_eq_true]; exact .inr rfl
end DL
namespace DL
open PySem PySem.Spec L2
/-- a comprehension over data of a type of one's own: item e x, element f x, both without lists -/
theorem rLc_typ {α : Type} {vs : List Nat} {ri : RI} {rg : RG} {re : RE} {Γ : GE} {c : Nat} {Q : D → Kd → Nat → Prop} (xs : List α) (e f : α → D) (st : Bool) (c1 : Nat)
    (hi : ∀ P : List D → Bool → Bool → Nat → Prop, P (xs.map e) true st c1 → ri Γ c P) (hl : xs.length ≤ 1000000)
    (hs : ∀ (x : α), x ∈ xs → ∀ P : D → Kd → Nat → Prop, P (f x) (.R []) c1 → rg (e x) (.R []) (kills vs Γ) fun Γ2 => re Γ2 c1 P) (hn : ∀ x, f x ≠ .gen)
    (h : Q (.lst (xs.map f)) (.R []) c1) (hns : ∀ x, nsD (f x) = true := by intros; first | rfl | exact nsD_of (noL_col _) | exact nsD_of (noL_mid _) | exact nsDs_of (noLs_ints _) | exact nsDs_of (noLs_cols _)) : rLc vs ri rg rYes re Γ c Q := by
  refine hi _ ⟨by rw [List.length_map]; exact hl, false, fun i acc c' => acc = (xs.take i).map f ∧ c' = c1, ⟨rfl, rfl⟩, ?_, ?_⟩
  · rintro i d acc c' hd _ ⟨rfl, rfl⟩
    rw [List.getElem?_map] at hd
    cases hx : xs[i]? with
    | none => rw [hx] at hd; cases hd
    | some x =>
      rw [hx] at hd
      cases hd
      refine hs x (List.mem_of_getElem? hx) _ ⟨hn x, elOk_R (hns x), ?_, rfl⟩
      rw [List.take_add_one, hx, List.map_append]; rfl
  · rintro acc c' ⟨rfl, rfl⟩
    rw [List.length_map, List.take_length]
    exact h
/-- the same over a filtered source -/
theorem rLc_filter {α : Type} {vs : List Nat} {ri : RI} {rg : RG} {rt : RT} {re : RE} {Γ : GE} {c : Nat} {Q : D → Kd → Nat → Prop} (xs : List α) (e f : α → D) (p : α → Bool) (st : Bool) (c1 : Nat)
    (hi : ∀ P : List D → Bool → Bool → Nat → Prop, P (xs.map e) true st c1 → ri Γ c P) (hl : xs.length ≤ 1000000)
    (hs : ∀ (x : α), x ∈ xs → ∀ (T : Nat → Prop) (P : D → Kd → Nat → Prop), (p x = true → P (f x) (.R []) c1) → (p x = false → T c1) → rg (e x) (.R []) (kills vs Γ) fun Γ2 => rt Γ2 c1 fun b c2 => if b = true then re Γ2 c2 P else T c2) (hn : ∀ x, f x ≠ .gen)
    (h : Q (.lst ((xs.filter p).map f)) (.R []) c1) (hns : ∀ x, nsD (f x) = true := by intros; first | rfl | exact nsD_of (noL_col _) | exact nsD_of (noL_mid _) | exact nsDs_of (noLs_ints _) | exact nsDs_of (noLs_cols _)) : rLc vs ri rg rt re Γ c Q := by
  refine hi _ ⟨by rw [List.length_map]; exact hl, false, fun i acc c' => acc = ((xs.take i).filter p).map f ∧ c' = c1, ⟨rfl, rfl⟩, ?_, ?_⟩
  · rintro i d acc c' hd _ ⟨rfl, rfl⟩
    rw [List.getElem?_map] at hd
    cases hx : xs[i]? with
    | none => rw [hx] at hd; cases hd
    | some x =>
      rw [hx] at hd
      cases hd
      have et : xs.take (i + 1) = xs.take i ++ [x] := by rw [List.take_add_one, hx]; rfl
      refine hs x (List.mem_of_getElem? hx) _ _ (fun hp => ⟨hn x, elOk_R (hns x), ?_, rfl⟩) (fun hp => ⟨?_, rfl⟩)
      · rw [et, List.filter_append, List.map_append, List.filter_cons_of_pos hp]; rfl
      · rw [et, List.filter_append, List.filter_cons_of_neg (by rw [hp]; decide), List.filter_nil, List.append_nil]
  · rintro acc c' ⟨rfl, rfl⟩
    rw [List.length_map, List.take_length]
    exact h
/-- .. whose elements are drawn: each element is within R, the drawers' bound grows by K at most -/
theorem rLc_draw {α : Type} {vs : List Nat} {ri : RI} {rg : RG} {re : RE} {Γ : GE} {c : Nat} {Q : D → Kd → Nat → Prop} (n : Nat) (ds : List D) (e : α → D) (R : α → Prop) (st : Bool) (c1 k : Nat)
    (hi : ∀ P : List D → Bool → Bool → Nat → Prop, P ds true st c1 → ri Γ c P) (hl : ds.length = n) (hl2 : n ≤ 1000000)
    (hs : ∀ (i : Nat) (d : D), ds[i]? = some d → ∀ (c2 : Nat), c1 ≤ c2 → c2 + k ≤ c1 + n * k → ∀ P : D → Kd → Nat → Prop, (∀ x c3, R x → c2 ≤ c3 → c3 ≤ c2 + k → P (e x) (.R []) c3) → rg d (.R []) (kills vs Γ) fun Γ2 => re Γ2 c2 P) (hn : ∀ x, e x ≠ .gen)
    (h : ∀ xs : List α, xs.length = n → (∀ x ∈ xs, R x) → ∀ c2, c1 ≤ c2 → c2 ≤ c1 + n * k → Q (.lst (xs.map e)) (.R []) c2) (hns : ∀ x, nsD (e x) = true := by intros; first | rfl | exact nsD_of (noL_col _) | exact nsD_of (noL_mid _) | exact nsDs_of (noLs_ints _) | exact nsDs_of (noLs_cols _)) : rLc vs ri rg rYes re Γ c Q := by
  refine hi _ ⟨by omega, false, fun i acc c' => ∃ xs : List α, acc = xs.map e ∧ xs.length = i ∧ (∀ x ∈ xs, R x) ∧ c1 ≤ c' ∧ c' ≤ c1 + i * k, ⟨[], rfl, rfl, fun _ h => (nomatch h), Nat.le_refl _, by omega⟩, ?_, ?_⟩
  · rintro i d acc c' hd hlt ⟨xs, rfl, rfl, hR, h1, h2⟩
    have hi : xs.length < ds.length := (List.getElem?_eq_some_iff.mp hd).1
    have hk : xs.length * k + k ≤ n * k := by
      have := Nat.mul_le_mul_right k (show xs.length + 1 ≤ n by omega)
      rw [Nat.add_mul, Nat.one_mul] at this
      exact this
    refine hs xs.length d hd c' h1 (by omega) _ fun x c3 hx' h3 h4 => ⟨hn x, elOk_R (hns x), xs ++ [x], by rw [List.map_append]; rfl, by rw [List.length_append]; rfl, fun y hy => ?_, by omega, ?_⟩
    · rcases List.mem_append.mp hy with hy | hy
      · exact hR y hy
      · cases List.mem_singleton.mp hy; exact hx'
    · rw [Nat.add_mul, Nat.one_mul]; omega
  · rintro acc c' ⟨xs, rfl, h0, hR, h1, h2⟩
    exact h xs (by omega) hR c' h1 (by rw [← hl]; exact h2)
/-! ### sizes -/
def PB (a : Nat) (i : Int) : Prop := i.natAbs < 2 ^ a
theorem PB.mono {a b : Nat} {i : Int} (h : PB a i) (hab : a ≤ b) : PB b i := Nat.lt_of_lt_of_le h (Nat.pow_le_pow_right (by decide) hab)
theorem PB.mul {a b : Nat} {i j : Int} (h : PB a i) (g : PB b j) : PB (a + b) (i * j) := wide_lt h g
theorem PB.add {a : Nat} {i j : Int} (h : PB a i) (g : PB a j) : PB (a + 1) (i + j) := by
  unfold PB at *
  rw [Nat.pow_succ]
  have := Int.natAbs_add_le i j
  omega
theorem PB.neg {a : Nat} {i : Int} (h : PB a i) : PB a (-i) := by unfold PB at *; rw [Int.natAbs_neg]; exact h
theorem PB.sub {a : Nat} {i j : Int} (h : PB a i) (g : PB a j) : PB (a + 1) (i - j) := by rw [Int.sub_eq_add_neg]; exact h.add g.neg
theorem PB.le {a : Nat} {i j : Int} (h : PB a i) (g : j.natAbs ≤ i.natAbs) : PB a j := Nat.lt_of_le_of_lt g h
theorem PB.mulB {a b : Nat} {i j : Int} (h : PB a i) (g : PB b j) (ha : a ≤ 4000) (hb : b ≤ 4000) : DL.MulB i j := .inr ⟨h.mono ha, g.mono hb⟩
theorem PB.divOk {a : Nat} {j : Int} (h : PB a j) (h0 : 0 < j) (ha : a ≤ 8000) : DivOk j := ⟨h0, .inr (h.mono ha)⟩
theorem MulB.l {i j : Int} (h : -18446744073709551616 < i ∧ i < 18446744073709551616) : DL.MulB i j := .inl (.inl h)
theorem MulB.r {i j : Int} (h : -18446744073709551616 < j ∧ j < 18446744073709551616) : DL.MulB i j := .inl (.inr h)
theorem DivOk.s {j : Int} (h : 0 < j ∧ j < 1073741824) : DivOk j := ⟨h.1, .inl h.2⟩
theorem eqOk_int {i : Int} : EqOk (.int i) := ⟨rfl, by unfold SeqAt.shaped; rw [py]; simp only [PyData.canLay0]; rfl⟩
theorem eqOk_bl {i : Bool} : EqOk (.bl i) := ⟨rfl, by unfold SeqAt.shaped; rw [py]; simp only [PyData.canLay0]; rfl⟩
theorem eqv_int {i j : Int} : PyData.eqv (py (.int i)) (py (.int j)) = decide (i = j) := by rw [py, py]; simp only [PyData.eqv]; rfl
theorem eqv_bl {i j : Bool} : PyData.eqv (py (.bl i)) (py (.bl j)) = decide (i = j) := by rw [py, py]; simp only [PyData.eqv]; cases i <;> cases j <;> rfl
end DL
namespace DL
open PySem PySem.Spec L2
theorem lowest {x y X Y p : Int} (hy : y ≠ 0) (hs : (X = x ∧ Y = y ∧ 0 < y) ∨ (X = -x ∧ Y = -y ∧ y < 0)) (hp : p = Int.gcd x y) :
    0 < p ∧ 0 < Y / p ∧ X / p * y = x * (Y / p) ∧ Int.gcd (X / p) (Y / p) = 1 ∧ (X / p).natAbs ≤ x.natAbs ∧ (Y / p).natAbs ≤ y.natAbs := by
  have p0 : 0 < p := by
    rw [hp]
    have : 0 < Int.gcd x y := Nat.pos_of_ne_zero fun h => hy (Int.gcd_eq_zero_iff.mp h).2
    omega
  have dx : p ∣ x := by rw [hp]; exact Int.gcd_dvd_left x y
  have dy : p ∣ y := by rw [hp]; exact Int.gcd_dvd_right x y
  have dX : p ∣ X := by rcases hs with ⟨e, _, _⟩ | ⟨e, _, _⟩ <;> rw [e]; exact dx; exact Int.dvd_neg.mpr dx
  have dY : p ∣ Y := by rcases hs with ⟨_, e, _⟩ | ⟨_, e, _⟩ <;> rw [e]; exact dy; exact Int.dvd_neg.mpr dy
  have Y0 : 0 < Y := by omega
  have eX := Int.ediv_mul_cancel dX
  have eY := Int.ediv_mul_cancel dY
  have gXY : Int.gcd X Y = Int.gcd x y := by
    rcases hs with ⟨e1, e2, _⟩ | ⟨e1, e2, _⟩
    · rw [e1, e2]
    · rw [e1, e2, Int.gcd_neg, Int.neg_gcd]
  have nX : X.natAbs = x.natAbs := by rcases hs with ⟨e, _, _⟩ | ⟨e, _, _⟩ <;> rw [e]; rw [Int.natAbs_neg]
  have nY : Y.natAbs = y.natAbs := by rcases hs with ⟨_, e, _⟩ | ⟨_, e, _⟩ <;> rw [e]; rw [Int.natAbs_neg]
  refine ⟨p0, ?_, ?_, ?_, ?_, ?_⟩
  · rcases Int.lt_or_le 0 (Y / p) with h | h
    · exact h
    · have : Y / p * p ≤ 0 := Int.mul_nonpos_of_nonpos_of_nonneg h (by omega)
      omega
  · apply Int.eq_of_mul_eq_mul_right (show p ≠ 0 by omega)
    have e1 : X / p * y * p = X * y := by rw [Int.mul_assoc, Int.mul_comm y p, ← Int.mul_assoc, eX]
    have e2 : x * (Y / p) * p = x * Y := by rw [Int.mul_assoc, eY]
    rw [e1, e2]
    rcases hs with ⟨e3, e4, _⟩ | ⟨e3, e4, _⟩
    · rw [e3, e4]
    · rw [e3, e4, Int.neg_mul, Int.mul_neg]
  · have eg : p = (Int.gcd X Y : Int) := by rw [gXY]; exact hp
    rw [eg]
    apply Int.gcd_ediv_gcd_ediv_gcd
    omega
  · rw [← nX, Int.natAbs_ediv_of_dvd dX]; exact Nat.div_le_self _ _
  · rw [← nY, Int.natAbs_ediv_of_dvd dY]; exact Nat.div_le_self _ _
theorem ifT {c A B : Prop} [Decidable c] (hc : c) (h : A) : if c then A else B := by rw [if_pos hc]; exact h
theorem ifF {c A B : Prop} [Decidable c] (hc : ¬ c) (h : B) : if c then A else B := by rw [if_neg hc]; exact h
def lenD : D → Nat
  | .tup ds => ds.length
  | .lst ds => ds.length
  | _ => 0
def isTup : D → Bool
  | .tup _ => true
  | _ => false
def isLst : D → Bool
  | .lst _ => true
  | _ => false
def isIntB : D → Bool
  | .int _ => true
  | .bl _ => true
  | _ => false
def isBl : D → Bool
  | .bl _ => true
  | _ => false
def isStr : D → Bool
  | .str _ => true
  | _ => false
theorem isi_tuple {d : D} : isi (tyD d) "tuple" = isTup d := by cases d <;> simp [isi, tyD, isTup]
theorem isi_list {d : D} : isi (tyD d) "list" = isLst d := by cases d <;> simp [isi, tyD, isLst]
theorem isi_int {d : D} : isi (tyD d) "int" = isIntB d := by cases d <;> simp [isi, tyD, isIntB]
theorem isi_bool {d : D} : isi (tyD d) "bool" = isBl d := by cases d <;> simp [isi, tyD, isBl]
theorem isi_str {d : D} : isi (tyD d) "str" = isStr d := by cases d <;> simp [isi, tyD, isStr]
theorem okTy_tuple : okTy "tuple" = true := by decide
theorem okTy_list : okTy "list" = true := by decide
theorem okTy_int : okTy "int" = true := by decide
theorem okTy_bool : okTy "bool" = true := by decide
theorem okTy_str : okTy "str" = true := by decide
theorem store_any {Γ : GE} {i : Nat} {d : D} {k : Kd} {P : GE → Prop} (hk : k = .R [] ∨ k = .S) (h : ∀ s, P (gset Γ i (some ⟨s, d⟩))) : StoreOk Γ i d k P := by
  unfold StoreOk
  split
  · exact h _
  · rcases hk with rfl | rfl
    · exact h _
    · exact h _
theorem itK_st (nl : Bool) : itK nl true = .R [] ∨ itK nl true = .S := by cases nl; exact .inr rfl; exact .inl rfl
theorem rVar_any {Γ : GE} {i : Nat} {s : SK} {d : D} {c : Nat} {Q : D → Kd → Nat → Prop} (e : gat Γ i = some ⟨s, d⟩) (h : ∀ k, Q d k c) : rVar i Γ c Q := by
  unfold rVar
  rw [e]
  cases s
  · exact h _
  · exact h _
  · exact h _
  · exact h _
theorem isDatas_mem : ∀ {ds : List D}, isDatas ds = true → ∀ x ∈ ds, isData x = true
  | [], _, _, hx => nomatch hx
  | d :: r, h, x, hx => by
    have h' : (isData d && isDatas r) = true := h
    rw [Bool.and_eq_true] at h'
    rcases List.mem_cons.mp hx with rfl | hx
    · exact h'.1
    · exact isDatas_mem h'.2 x hx
def isI : D → Bool
  | .int _ => true
  | _ => false
theorem ints_of {ds : List D} : (ds.map isI).all id = true ↔ ∃ ns : List Int, ds = ns.map D.int := by
  constructor
  · intro h
    induction ds with
    | nil => exact ⟨[], rfl⟩
    | cons d r ih =>
      rw [List.map_cons, List.all_cons, Bool.and_eq_true] at h
      obtain ⟨ns, e⟩ := ih h.2
      cases d with
      | int n => exact ⟨n :: ns, by rw [e]; rfl⟩
      | bl _ => cases h.1
      | non => cases h.1
      | str _ => cases h.1
      | tup _ => cases h.1
      | lst _ => cases h.1
      | ty _ => cases h.1
      | scr _ => cases h.1
      | gen => cases h.1
      | dct _ _ _ => cases h.1
      | mt _ => cases h.1
      | obj _ _ _ => cases h.1
      | shr _ => cases h.1
  · rintro ⟨ns, rfl⟩
    rw [List.map_map, List.all_map]
    exact List.all_eq_true.mpr fun _ _ => rfl
end DL
namespace DL
theorem rSeq_eq {r s : RS} {Dd : EndsD} {Γ : GE} {c : Nat} : rSeq r s Dd Γ c = r { Dd with nx := s Dd } Γ c := rfl
end DL
namespace DL
/-- a statement, then the rest from what the statement leaves -/
theorem rSeq_mid {r s : RS} {Dd : EndsD} {Γ : GE} {c : Nat} (M : GE → Nat → Prop) (h : ∀ f : GE → Nat → Prop, (∀ Γ' c', M Γ' c' → f Γ' c') → r { Dd with nx := f } Γ c) (hm : ∀ Γ' c', M Γ' c' → s Dd Γ' c') : rSeq r s Dd Γ c := h _ hm
theorem PB.small {i : Int} (h : -4611686018427387904 < i ∧ i < 4611686018427387904) : PB 62 i := by
  unfold PB
  have : (2 : Nat) ^ 62 = 4611686018427387904 := by decide
  omega
theorem PB.nine {k : Nat} (h : k ≤ 40) : PB 134 ((10 : Int) ^ k - 1) := by
  have h1 : ((List.range 41).all fun k => decide (((10 : Int) ^ k - 1).natAbs < 2 ^ 134)) = true := by decide +kernel
  have h2 := List.all_eq_true.mp h1 k (List.mem_range.mpr (by omega))
  unfold PB
  exact of_decide_eq_true h2
end DL
namespace DL
open PySem PySem.Spec L2
mutual
/-- data of which == may be asked: texts that may be, no list too long -/
def okD : D → Bool
  | .non | .bl _ | .int _ => true
  | .str x => PyData.strOk x
  | .tup ds => decide (ds.length ≤ 1000000) && okDs ds
  | .lst ds => decide (ds.length ≤ 1000000) && okDs ds
  | _ => false
def okDs : List D → Bool
  | [] => true
  | d :: ds => okD d && okDs ds
end
mutual
def dep : D → Nat
  | .tup ds => deps ds + 1
  | .lst ds => deps ds + 1
  | _ => 0
def deps : List D → Nat
  | [] => 0
  | d :: ds => max (dep d) (deps ds)
end
mutual
theorem okD_data : ∀ {d : D}, okD d = true → isData d = true
  | .non, _ => rfl
  | .bl _, _ => rfl
  | .int _, _ => rfl
  | .str _, _ => rfl
  | .tup ds, h => by
    have h' : (decide (ds.length ≤ 1000000) && okDs ds) = true := h
    exact okDs_data (Bool.and_eq_true_iff.mp h').2
  | .lst ds, h => by
    have h' : (decide (ds.length ≤ 1000000) && okDs ds) = true := h
    exact okDs_data (Bool.and_eq_true_iff.mp h').2
theorem okDs_data : ∀ {ds : List D}, okDs ds = true → isDatas ds = true
  | [], _ => rfl
  | d :: ds, h => by
    have h' : (okD d && okDs ds) = true := h
    show (isData d && isDatas ds) = true
    rw [okD_data (Bool.and_eq_true_iff.mp h').1, okDs_data (Bool.and_eq_true_iff.mp h').2]; rfl
end
mutual
theorem okD_lay : ∀ {d : D}, okD d = true → (py d).canLay0 = true
  | .non, _ => by rw [py]; simp only [PyData.canLay0]
  | .bl _, _ => by rw [py]; simp only [PyData.canLay0]
  | .int _, _ => by rw [py]; simp only [PyData.canLay0]
  | .str _, h => by rw [py]; simp only [PyData.canLay0]; exact h
  | .tup ds, h => by
    have h' : (decide (ds.length ≤ 1000000) && okDs ds) = true := h
    rw [py]; simp only [PyData.canLay0]; exact okDs_lay (Bool.and_eq_true_iff.mp h').2
  | .lst ds, h => by
    have h' : (decide (ds.length ≤ 1000000) && okDs ds) = true := h
    rw [py]; simp only [PyData.canLay0]; exact okDs_lay (Bool.and_eq_true_iff.mp h').2
theorem okDs_lay : ∀ {ds : List D}, okDs ds = true → PyData.canLayAll0 (pys ds) = true
  | [], _ => by rw [pys]; simp only [PyData.canLayAll0]
  | d :: ds, h => by
    have h' : (okD d && okDs ds) = true := h
    rw [pys]; simp only [PyData.canLayAll0]
    rw [okD_lay (Bool.and_eq_true_iff.mp h').1, okDs_lay (Bool.and_eq_true_iff.mp h').2]; rfl
end
mutual
theorem dep_py : ∀ {d : D}, isData d = true → (py d).depth ≤ dep d
  | .non, _ => by rw [py]; simp only [PyData.depth]; exact Nat.zero_le _
  | .bl _, _ => by rw [py]; simp only [PyData.depth]; exact Nat.zero_le _
  | .int _, _ => by rw [py]; simp only [PyData.depth]; exact Nat.zero_le _
  | .str _, _ => by rw [py]; simp only [PyData.depth]; exact Nat.zero_le _
  | .tup ds, h => by
    rw [py, dep]; simp only [PyData.depth]
    have := deps_py (ds := ds) h
    omega
  | .lst ds, h => by
    rw [py, dep]; simp only [PyData.depth]
    have := deps_py (ds := ds) h
    omega
theorem deps_py : ∀ {ds : List D}, isDatas ds = true → PyData.depthAll (pys ds) ≤ deps ds
  | [], _ => by rw [pys]; simp only [PyData.depthAll]; exact Nat.zero_le _
  | d :: ds, h => by
    have h' : (isData d && isDatas ds) = true := h
    rw [pys, deps]; simp only [PyData.depthAll]
    have h1 := dep_py (Bool.and_eq_true_iff.mp h').1
    have h2 := deps_py (Bool.and_eq_true_iff.mp h').2
    omega
end
theorem eqOk_of {d : D} (h : okD d = true) (hd : dep d ≤ 64) : EqOk d := by
  refine ⟨okD_data h, ?_⟩
  unfold SeqAt.shaped
  rw [okD_lay h]
  have := dep_py (okD_data h)
  exact decide_eq_true (by omega)
/-! no truths within -/
mutual
def nbD : D → Bool
  | .bl _ => false
  | .tup ds => nbDs ds
  | .lst ds => nbDs ds
  | .non | .int _ | .str _ => true
  | _ => false
def nbDs : List D → Bool
  | [] => true
  | d :: ds => nbD d && nbDs ds
end
mutual
theorem eqv_iff : ∀ {d e : D}, nbD d = true → nbD e = true → (PyData.eqv (py d) (py e) = true ↔ d = e)
  | .non, e, _, h => by
    cases e with
    | bl _ => cases h
    | ty _ => cases h
    | scr _ => cases h
    | gen => cases h
    | dct _ _ _ => cases h
    | mt _ => cases h
    | obj _ _ _ => cases h
    | shr _ => cases h
    | _ => simp [py, PyData.eqv]
  | .int i, e, _, h => by
    cases e with
    | bl _ => cases h
    | ty _ => cases h
    | scr _ => cases h
    | gen => cases h
    | dct _ _ _ => cases h
    | mt _ => cases h
    | obj _ _ _ => cases h
    | shr _ => cases h
    | _ => simp [py, PyData.eqv]
  | .str i, e, _, h => by
    cases e with
    | bl _ => cases h
    | ty _ => cases h
    | scr _ => cases h
    | gen => cases h
    | dct _ _ _ => cases h
    | mt _ => cases h
    | obj _ _ _ => cases h
    | shr _ => cases h
    | _ => simp [py, PyData.eqv]
  | .tup ds, e, h, h2 => by
    cases e with
    | tup es =>
      simp only [py, PyData.eqv, D.tup.injEq]
      exact eqvs_iff h h2
    | bl _ => cases h2
    | ty _ => cases h2
    | scr _ => cases h2
    | gen => cases h2
    | dct _ _ _ => cases h2
    | mt _ => cases h2
    | obj _ _ _ => cases h2
    | shr _ => cases h2
    | _ => simp [py, PyData.eqv]
  | .lst ds, e, h, h2 => by
    cases e with
    | lst es =>
      simp only [py, PyData.eqv, D.lst.injEq]
      exact eqvs_iff h h2
    | bl _ => cases h2
    | ty _ => cases h2
    | scr _ => cases h2
    | gen => cases h2
    | dct _ _ _ => cases h2
    | mt _ => cases h2
    | obj _ _ _ => cases h2
    | shr _ => cases h2
    | _ => simp [py, PyData.eqv]
theorem eqvs_iff : ∀ {ds es : List D}, nbDs ds = true → nbDs es = true → (PyData.eqvAll (pys ds) (pys es) = true ↔ ds = es)
  | [], [], _, _ => by simp only [pys, PyData.eqvAll]
  | [], _ :: _, _, _ => by simp only [pys, PyData.eqvAll]; simp
  | _ :: _, [], _, _ => by simp only [pys, PyData.eqvAll]; simp
  | d :: ds, e :: es, h, h2 => by
    have h' : (nbD d && nbDs ds) = true := h
    have h2' : (nbD e && nbDs es) = true := h2
    rw [Bool.and_eq_true] at h' h2'
    simp only [pys, PyData.eqvAll, Bool.and_eq_true, List.cons.injEq]
    rw [eqv_iff h'.1 h2'.1, eqvs_iff h'.2 h2'.2]
end
/-- alike, kind by kind -/
def S_same (n : Nat) : FS (D × D) where
  ks := [.sh, .sh]
  args p := [p.1, p.2]
  pre p c := okD p.1 = true ∧ dep p.1 ≤ 60 ∧ okD p.2 = true ∧ dep p.2 ≤ 60 ∧ dep p.2 < n
  res p c r c' := ∃ b : Bool, r = .bl b ∧ (b = true ↔ p.1 = p.2) ∧ c' = c
theorem fn_vac {α : Type} {S : FS α} {P : Program} {w : World} {K : PySem.W.Frag} {mg : Str → Option Value} {base : Heap} {k : Nat} {f : Addr} {fd : FuncData} {ps : List Str} (h : ∀ a c, ¬ S.pre a c) : FnG P w K mg base CX0 k f fd ps (SpF K S) :=
  ⟨fun _ _ _ _ ⟨a, c, _, _, _, hp, _⟩ => (h a c hp).elim, fun _ _ _ _ _ _ _ _ _ _ _ _ _ ⟨a, c, _, _, _, hp, _⟩ => (h a c hp).elim⟩
theorem fn_vacS {α : Type} {S : FS α} {P : Program} {w : World} {K : PySem.W.Frag} {mg : Str → Option Value} {base : Heap} {k : Nat} {f : Addr} {fd : FuncData} {ps : List Str} (h : ∀ a c, ¬ S.pre a c) : FnG P w K mg base CX0 k f fd ps (SpS K S) :=
  ⟨fun _ _ _ _ ⟨a, c, _, _, _, hp, _⟩ => (h a c hp).elim, fun _ _ _ _ _ _ _ _ _ _ _ _ _ ⟨a, c, _, _, _, hp, _⟩ => (h a c hp).elim⟩
end DL
namespace DL
open PySem PySem.Spec L2
/-- a comprehension whose elements stand in a relation to the items -/
theorem rLc_rel {β : Type} {vs : List Nat} {ri : RI} {rg : RG} {re : RE} {Γ : GE} {c : Nat} {Q : D → Kd → Nat → Prop} (ds : List D) (nl st : Bool) (c1 : Nat) (e : β → D) (R : D → β → Prop)
    (hi : ∀ P : List D → Bool → Bool → Nat → Prop, P ds nl st c1 → ri Γ c P) (hl : ds.length ≤ 1000000)
    (hs : ∀ (i : Nat) (d : D), ds[i]? = some d → ∀ P : D → Kd → Nat → Prop, (∀ x, R d x → P (e x) (.R []) c1) → rg d (itK nl st) (kills vs Γ) fun Γ2 => re Γ2 c1 P) (hn : ∀ x, e x ≠ .gen)
    (h : ∀ xs : List β, xs.length = ds.length → (∀ (i : Nat) (d : D) (x : β), ds[i]? = some d → xs[i]? = some x → R d x) → Q (.lst (xs.map e)) (.R []) c1) (hns : ∀ x, nsD (e x) = true := by intros; first | rfl | exact nsD_of (noL_col _) | exact nsD_of (noL_mid _) | exact nsDs_of (noLs_ints _) | exact nsDs_of (noLs_cols _)) : rLc vs ri rg rYes re Γ c Q := by
  refine hi _ ⟨hl, false, fun i acc c' => ∃ xs : List β, acc = xs.map e ∧ xs.length = i ∧ (∀ (j : Nat) (d : D) (x : β), ds[j]? = some d → xs[j]? = some x → R d x) ∧ c' = c1, ⟨[], rfl, rfl, fun j d x _ h => by simp at h, rfl⟩, ?_, ?_⟩
  · rintro i d acc c' hd _ ⟨xs, rfl, rfl, hR, rfl⟩
    refine hs xs.length d hd _ fun x hx' => ⟨hn x, elOk_R (hns x), xs ++ [x], by rw [List.map_append]; rfl, by rw [List.length_append]; rfl, fun j d' y h1 h2 => ?_, rfl⟩
    by_cases hj : j < xs.length
    · rw [List.getElem?_append_left hj] at h2
      exact hR j d' y h1 h2
    · have hj' : j = xs.length := by
        have := (List.getElem?_eq_some_iff.mp h2).1
        rw [List.length_append] at this
        simp at this
        omega
      subst hj'
      rw [hd] at h1
      cases h1
      rw [List.getElem?_append_right (Nat.le_refl _), Nat.sub_self] at h2
      cases h2
      exact hx'
  · rintro acc c' ⟨xs, rfl, h0, hR, rfl⟩
    exact h xs h0 hR
theorem okDs_get {ds : List D} {i : Nat} {d : D} (h : okDs ds = true) (e : ds[i]? = some d) : okD d = true := by
  induction ds generalizing i with
  | nil => simp at e
  | cons x r ih =>
    have h' : (okD x && okDs r) = true := h
    rw [Bool.and_eq_true] at h'
    cases i with
    | zero => cases e; exact h'.1
    | succ i => exact ih h'.2 e
theorem deps_get {ds : List D} {i : Nat} {d : D} (e : ds[i]? = some d) : dep d ≤ deps ds := by
  induction ds generalizing i with
  | nil => simp at e
  | cons x r ih =>
    rw [deps]
    cases i with
    | zero => cases e; exact Nat.le_max_left _ _
    | succ i => exact Nat.le_trans (ih e) (Nat.le_max_right _ _)
theorem okD_seq {ds : List D} (h : (decide (ds.length ≤ 1000000) && okDs ds) = true) : ds.length ≤ 1000000 ∧ okDs ds = true := ⟨of_decide_eq_true (Bool.and_eq_true_iff.mp h).1, (Bool.and_eq_true_iff.mp h).2⟩
/-- two rows are alike where all places are -/
theorem zip_all {fs es : List D} {bs : List Bool} (hl : fs.length = es.length) (hb : bs.length = (zipD fs es).length)
    (h : ∀ (i : Nat) (d : D) (b : Bool), (zipD fs es)[i]? = some d → bs[i]? = some b → ∀ x y, d = .tup [x, y] → (b = true ↔ x = y)) : bs.all id = true ↔ fs = es := by
  induction fs generalizing es bs with
  | nil =>
    cases es with
    | nil =>
      have : bs = [] := List.length_eq_zero_iff.mp hb
      subst this; simp
    | cons _ _ => cases hl
  | cons f fr ih =>
    cases es with
    | nil => cases hl
    | cons e er =>
      cases bs with
      | nil => cases hb
      | cons b br =>
        have h0 := h 0 _ b rfl rfl f e rfl
        have hr := ih (es := er) (bs := br) (by simpa using hl) (by simpa [zipD] using hb) fun i d b' h1 h2 => h (i + 1) d b' h1 h2
        rw [List.all_cons, Bool.and_eq_true, hr, List.cons.injEq]
        exact and_congr h0 Iff.rfl
end DL
namespace DL
theorem same_res {n : Nat} {p : D × D} {c c' : Nat} {r : D} : (S_same n).res p c r c' = ∃ b : Bool, r = .bl b ∧ (b = true ↔ p.1 = p.2) ∧ c' = c := rfl
theorem same_args {n : Nat} {p : D × D} : (S_same n).args p = [p.1, p.2] := rfl
theorem same_ks {n : Nat} : (S_same n).ks = [.sh, .sh] := rfl
end DL
namespace DL
open PySem PySem.Spec L2
/-- a fraction in lowest terms -/
def S_part : FS (Int × Int) where
  ks := [.nl, .nl]
  args p := [.int p.1, .int p.2]
  pre p c := p.2 ≠ 0 ∧ p.1.natAbs < 2 ^ 7500 ∧ p.2.natAbs < 2 ^ 7500
  res p c d c' := ∃ t b : Int, d = eF (t, b) ∧ 0 < b ∧ t * p.2 = p.1 * b ∧ Int.gcd t b = 1 ∧ t.natAbs ≤ p.1.natAbs ∧ b.natAbs ≤ p.2.natAbs ∧ c' = c
theorem part_call {t b : Int} {cc : Nat} {P : D → Nat → Prop} (hb : b ≠ 0) (ht : PB 7500 t) (hbb : PB 7500 b)
    (h : ∀ p : Int × Int, 0 < p.2 → p.1 * b = t * p.2 → Int.gcd p.1 p.2 = 1 → p.1.natAbs ≤ t.natAbs → p.2.natAbs ≤ b.natAbs → P (eF p) cc) :
    ∃ a, S_part.args a = [.int t, .int b] ∧ S_part.pre a cc ∧ ∀ d c', S_part.res a cc d c' → P d c' := by
  refine ⟨(t, b), rfl, ⟨hb, ht, hbb⟩, ?_⟩
  rintro d c' ⟨x, y, rfl, h1, h2, h3, h4, h5, rfl⟩
  exact h (x, y) h1 h2 h3 h4 h5
/-- a number of up to forty figures -/
def S_large : FS Unit where
  ks := [.nl]
  args _ := [.gen]
  pre _ c := c + 10 < LIM
  res _ c d c' := ∃ n : Int, d = .int n ∧ PB 140 n ∧ c ≤ c' ∧ c' ≤ c + 10
theorem large_call {cc : Nat} {P : D → Nat → Prop} (hc : cc + 10 < LIM) (h : ∀ (n : Int) c', PB 140 n → cc ≤ c' → c' ≤ cc + 10 → P (.int n) c') :
    ∃ a, S_large.args a = [.gen] ∧ S_large.pre a cc ∧ ∀ d c', S_large.res a cc d c' → P d c' := by
  refine ⟨(), rfl, hc, ?_⟩
  rintro d c' ⟨n, rfl, h1, h2, h3⟩
  exact h n c' h1 h2 h3
/-- what comes back of ints looked up in a list -/
theorem ix_ints {ns : List Int} {i : Int} {P : D → Prop} (h0 : 0 ≤ i) (h1 : i < (ns.length : Nat)) (h : ∀ n ∈ ns, P (.int n)) : ∃ d, atI (ns.map D.int) i = some d ∧ P d := by
  obtain ⟨n, hn, e⟩ := atI_ints h0 h1
  exact ⟨_, e, h n hn⟩
end DL
namespace DL
open PySem PySem.Spec L2
/-! ### loops whose drawers' bound grows evenly -/
theorem rFor_bound {ri : RI} {rg : RG} {rb : RS} {Dd : EndsD} {Γ : GE} {c : Nat} (ds : List D) (nl : Bool) (c1 n k : Nat) (M : GE → Prop)
    (hi : ∀ P : List D → Bool → Bool → Nat → Prop, P ds nl true c1 → ri Γ c P) (hl : ds.length ≤ n) (h0 : M Γ)
    (hs : ∀ (i : Nat) (d : D) (Γ' : GE) (c' : Nat), ds[i]? = some d → M Γ' → c1 ≤ c' → c' + k ≤ c1 + n * k → ∀ f : GE → Nat → Prop, (∀ Γ2 c2, M Γ2 → c' ≤ c2 → c2 ≤ c' + k → f Γ2 c2) → rg d (if nl then .R [] else .S) Γ' fun Γ2 => rb { Dd with nx := f, ct := f, bk := Dd.nx } Γ2 c')
    (h : ∀ Γ' c', M Γ' → c1 ≤ c' → c' ≤ c1 + n * k → Dd.nx Γ' c') : rFor ri rg rb Dd Γ c := by
  refine hi _ ⟨rfl, fun i Γ' c' => M Γ' ∧ c1 ≤ c' ∧ c' ≤ c1 + i * k, ⟨h0, Nat.le_refl _, by omega⟩, ?_, ?_⟩
  · rintro i d Γ' c' hd ⟨hM, h1, h2⟩
    have hi : i < ds.length := (List.getElem?_eq_some_iff.mp hd).1
    have hk : i * k + k ≤ n * k := by
      have := Nat.mul_le_mul_right k (show i + 1 ≤ n by omega)
      rw [Nat.succ_mul] at this; exact this
    refine hs i d Γ' c' hd hM h1 (by omega) _ fun Γ2 c2 hM2 h3 h4 => ⟨hM2, by omega, ?_⟩
    rw [Nat.succ_mul]; omega
  · rintro Γ' c' ⟨hM, h1, h2⟩
    have := Nat.mul_le_mul_right k hl
    exact h Γ' c' hM h1 (by omega)
theorem intsFrom_get {lo : Int} {n i : Nat} {d : D} (h : (intsFrom lo n)[i]? = some d) : i < n ∧ d = .int (lo + (i : Nat)) := by
  unfold intsFrom at h
  rw [List.getElem?_map] at h
  cases hx : (List.range n)[i]? with
  | none => rw [hx] at h; cases h
  | some x =>
    rw [hx] at h
    obtain ⟨h1, h2⟩ := List.getElem?_eq_some_iff.mp hx
    rw [List.length_range] at h1
    rw [List.getElem_range] at h2
    subst h2
    cases h
    exact ⟨h1, rfl⟩
theorem rFor_rng {ri : RI} {rg : RG} {rb : RS} {Dd : EndsD} {Γ : GE} {c : Nat} (m n k : Nat) (M : GE → Prop)
    (hi : ∀ P : List D → Bool → Bool → Nat → Prop, P (intsFrom 0 m) true true c → ri Γ c P) (hl : m ≤ n) (h0 : M Γ)
    (hs : ∀ (i : Nat) Γ' c', i < m → M Γ' → c ≤ c' → c' + k ≤ c + n * k → ∀ f : GE → Nat → Prop, (∀ Γ2 c2, M Γ2 → c' ≤ c2 → c2 ≤ c' + k → f Γ2 c2) → rg (.int i) (.R []) Γ' fun Γ2 => rb { Dd with nx := f, ct := f, bk := Dd.nx } Γ2 c')
    (h : ∀ Γ' c', M Γ' → c ≤ c' → c' ≤ c + n * k → Dd.nx Γ' c') : rFor ri rg rb Dd Γ c := by
  refine rFor_bound (intsFrom 0 m) true c n k M hi (by unfold intsFrom; rw [List.length_map, List.length_range]; exact hl) h0 (fun i d Γ' c' hd => ?_) h
  obtain ⟨h1, rfl⟩ := intsFrom_get hd
  rw [Int.zero_add]
  exact hs i Γ' c' h1
/-- the outer walk of a law -/
theorem cut8 (ns : List Int) : (cutD ns none (some 8)).length ≤ 8 := by
  unfold cutD HT.sIx
  simp
  omega
theorem zipD_map {α β : Type} (f : α → D) (g : β → D) (xs : List α) (ys : List β) : zipD (xs.map f) (ys.map g) = List.zipWith (fun x y => .tup [f x, g y]) xs ys := by
  unfold zipD
  rw [List.zipWith_map]

/-! ### calls of the usual helpers, told plainly -/
theorem left_call {ns : List Int} {k : Int} {c : Nat} {P : D → Nat → Prop} (h0 : 0 ≤ k) (h1 : k < 1000000000) (h : ∀ x y : Int, 0 ≤ x → P (.lst [.int x, .int y, .int 0]) c) :
    ∃ a, S_left.args a = [.scr ns, .int k] ∧ S_left.pre a c ∧ ∀ d c', S_left.res a c d c' → P d c' := by
  refine ⟨(ns, k), rfl, ⟨h0, h1⟩, ?_⟩
  rintro d c' ⟨x, y, rfl, hx, rfl⟩
  exact h x y hx
theorem kind_call {c : Nat} {P : D → Nat → Prop} (hc : c + 2 < LIM) (h : ∀ w s : Int, 1 ≤ w → w ≤ 5 → 3 ≤ s → s ≤ 1000 → P (.tup [.int w, .int s]) (c + 2)) :
    ∃ a, S_kind.args a = [.gen] ∧ S_kind.pre a c ∧ ∀ d c', S_kind.res a c d c' → P d c' := by
  refine ⟨(), rfl, hc, ?_⟩
  rintro d c' ⟨w, s, rfl, h1, h2, h3, h4, rfl⟩
  exact h w s h1 h2 h3 h4
theorem same_call {n : Nat} {x y : D} {c : Nat} {P : D → Nat → Prop} (h1 : okD x = true) (h2 : dep x ≤ 60) (h3 : okD y = true) (h4 : dep y ≤ 60) (h5 : dep y < n) (h : ∀ b : Bool, (b = true ↔ x = y) → P (.bl b) c) :
    ∃ a, (S_same n).args a = [x, y] ∧ (S_same n).pre a c ∧ ∀ d c', (S_same n).res a c d c' → P d c' := by
  refine ⟨(x, y), rfl, ⟨h1, h2, h3, h4, h5⟩, ?_⟩
  rintro d c' ⟨b, rfl, hb, rfl⟩
  exact h b hb
theorem mkGen_ok {i : Nat} {Γ : GE} {c : Nat} {P : GE → Prop} {x y : Int} (e : gat Γ i = some ⟨.own, .lst [.int x, .int y, .int 0]⟩) (hx : 0 ≤ x) (h : P (gset Γ i (some ⟨.nl, .gen⟩))) : mkGen i Γ c P :=
  ⟨x, y, 0, e, hx, Int.le_refl _, by omega, h⟩
theorem okDs_map {α : Type} {f : α → D} : ∀ xs : List α, (∀ x ∈ xs, okD (f x) = true) → okDs (xs.map f) = true
  | [], _ => rfl
  | x :: xs, h => by
    show (okD (f x) && okDs (xs.map f)) = true
    rw [h x List.mem_cons_self, okDs_map xs fun y hy => h y (List.mem_cons_of_mem _ hy)]; rfl
theorem deps_map {α : Type} {f : α → D} {k : Nat} : ∀ xs : List α, (∀ x ∈ xs, dep (f x) ≤ k) → deps (xs.map f) ≤ k
  | [], _ => Nat.zero_le _
  | x :: xs, h => by
    show max (dep (f x)) (deps (xs.map f)) ≤ k
    have := h x List.mem_cons_self
    have := deps_map xs fun y hy => h y (List.mem_cons_of_mem _ hy)
    omega
theorem okD_tup {ds : List D} (hl : ds.length ≤ 1000000) (h : okDs ds = true) : okD (.tup ds) = true := by
  show (decide (ds.length ≤ 1000000) && okDs ds) = true
  rw [h, Bool.and_true]; exact decide_eq_true hl
theorem okD_lst {ds : List D} (hl : ds.length ≤ 1000000) (h : okDs ds = true) : okD (.lst ds) = true := by
  show (decide (ds.length ≤ 1000000) && okDs ds) = true
  rw [h, Bool.and_true]; exact decide_eq_true hl
theorem okD_col {ns : List Int} (hl : ns.length ≤ 1000000) : okD (eCol ns) = true := okD_tup (by rw [List.length_map]; exact hl) (okDs_map ns fun _ _ => rfl)
theorem dep_col (ns : List Int) : dep (eCol ns) ≤ 1 := by
  show deps (ns.map .int) + 1 ≤ 1
  have := deps_map (f := D.int) (k := 0) ns fun _ _ => Nat.le_refl _
  omega
theorem okD_mid {ps : List (Int × Int)} (hl : ps.length ≤ 1000000) : okD (eMid ps) = true := okD_tup (by rw [List.length_map]; exact hl) (okDs_map ps fun _ _ => rfl)
theorem dep_F (p : Int × Int) : dep (eF p) = 1 := rfl
theorem dep_mid (ps : List (Int × Int)) : dep (eMid ps) ≤ 2 := by
  show deps (ps.map eF) + 1 ≤ 2
  have := deps_map (f := eF) (k := 1) ps fun _ _ => Nat.le_refl _
  omega
theorem rng_len (m : Nat) : (intsFrom 0 m).length = m := by unfold intsFrom; rw [List.length_map, List.length_range]
theorem at0 {x : D} {xs : List D} {P : D → Prop} : (∃ d, atI (x :: xs) 0 = some d ∧ P d) ↔ P x := by
  have e : atI (x :: xs) 0 = some x := by
    unfold atI ixN
    rw [if_pos (by decide), if_pos (by rw [List.length_cons]; omega)]; rfl
  rw [e]
  constructor
  · rintro ⟨d, h, p⟩; cases h; exact p
  · exact fun p => ⟨x, rfl, p⟩
theorem at1 {x y : D} {xs : List D} {P : D → Prop} : (∃ d, atI (x :: y :: xs) 1 = some d ∧ P d) ↔ P y := by
  have e : atI (x :: y :: xs) 1 = some y := by
    unfold atI ixN
    rw [if_pos (by decide), if_pos (by rw [List.length_cons, List.length_cons]; omega)]; rfl
  rw [e]
  constructor
  · rintro ⟨d, h, p⟩; cases h; exact p
  · exact fun p => ⟨y, rfl, p⟩
theorem zipD_self {α : Type} (f g : α → D) : ∀ xs : List α, zipD (xs.map f) (xs.map g) = xs.map fun x => .tup [f x, g x]
  | [] => rfl
  | x :: xs => by
    have h := zipD_self f g xs
    unfold zipD at h ⊢
    rw [List.map_cons, List.map_cons, List.zipWith_cons_cons, h, List.map_cons]
theorem map_get {α : Type} {f : α → D} {xs : List α} {i : Nat} {d : D} (h : (xs.map f)[i]? = some d) : ∃ x ∈ xs, d = f x := by
  rw [List.getElem?_map] at h
  cases hx : xs[i]? with
  | none => rw [hx] at h; cases h
  | some x => rw [hx] at h; cases h; exact ⟨x, List.mem_of_getElem? hx, rfl⟩
end DL
namespace DL
open PySem PySem.Spec L2
/-! ### is of truths; three at once -/
def dIsB (neg : Bool) : RD2 := fun x _ y _ Q => match x, y with
  | .bl a, .bl b => Q (.bl (if neg then !decide (a = b) else decide (a = b))) (.R [])
  | _, _ => False
def rPar3 (i j l : Nat) (ra : RA) : RS := fun Dd Γ c => ra Γ c fun dks c1 => match dks with
  | [(d1, _), (d2, _), (d3, _)] => noL d1 = true ∧ noL d2 = true ∧ noL d3 = true ∧ Dd.nx (gset (gset (gset Γ i (some ⟨.nl, d1⟩)) j (some ⟨.nl, d2⟩)) l (some ⟨.nl, d3⟩)) c1
  | _ => False
section
variable {K : PySem.W.Frag}
theorem v_isB : V2 K rIsB (dIsB false) := by
  intro B Hs H c x y dx kx dy ky fp Qd Q A ar h f
  obtain ⟨f1, f2, rfl, r1, r2, _⟩ := ar.one2
  unfold dIsB at h
  split at h
  · exact ⟨_, _, r1.bl, r2.bl, f _ H _ _ (Same.refl _) (A.flat rp_bl) h⟩
  · exact h.elim
theorem v_notB : V2 K rNotB (dIsB true) := by
  intro B Hs H c x y dx kx dy ky fp Qd Q A ar h f
  obtain ⟨f1, f2, rfl, r1, r2, _⟩ := ar.one2
  unfold dIsB at h
  split at h
  · exact ⟨_, _, r1.bl, r2.bl, f _ H _ _ (Same.refl _) (A.flat rp_bl) h⟩
  · exact h.elim
theorem sd_par3 (i j l : Nat) {ta : TA} {ra : RA} (ha : AD K ta ra) : SD K (tPar3 i j l ta) (rPar3 i j l ra) := by
  intro en hd Dd D L B Γ c σ H h1 h3 E q
  refine ha B Γ c σ H _ _ E q fun vs H1 dks c1 fp e g ar q => ?_
  have E1 := E.ext e g
  unfold rPar3 at q
  split at q
  · obtain ⟨n1, n2, n3, q⟩ := q
    obtain ⟨x, vr, f1, g1, rfl, rfl, r1, _, _, _, t1⟩ := ar.inv
    obtain ⟨y, vr2, f2, g2, rfl, rfl, r2, _, _, _, t2⟩ := t1.inv
    obtain ⟨z, vr3, f3, g3, rfl, rfl, r3, _, _, _, t3⟩ := t2.inv
    cases t3
    refine ⟨x, y, z, rfl, ?_⟩
    have z1 : f1 = [] := r1.elim (fun r => r.nol n1) fun r => r.2.1
    have z2 : f2 = [] := r2.elim (fun r => r.nol n2) fun r => r.2.1
    have z3 : f3 = [] := r3.elim (fun r => r.nol n3) fun r => r.2.1
    subst z1; subst z2; subst z3
    obtain ⟨B1, Γ1, l1, E2, p1, so1⟩ := E1.store (i := i) r1 (k := .R []) ⟨List.nodup_nil, fun _ h => nomatch h⟩ (P := fun Γ' => Γ' = gset Γ i (some ⟨.nl, _⟩)) (by unfold StoreOk; rw [if_pos n1])
    subst p1
    rw [← l1.G] at r2 r3
    have r2 := r2.monoF so1.2.2
    obtain ⟨B2, Γ2, l2, E3, p2, so2⟩ := E2.store (i := j) r2 (k := .R []) ⟨List.nodup_nil, fun _ h => nomatch h⟩ (P := fun Γ' => Γ' = gset (gset Γ i (some ⟨.nl, _⟩)) j (some ⟨.nl, _⟩)) (by unfold StoreOk; rw [if_pos n2])
    subst p2
    rw [← l2.G] at r3
    have r3 := (r3.monoF so1.2.2).monoF so2.2.2
    obtain ⟨B3, Γ3, l3, E4, p3, _, _⟩ := E3.store (i := l) r3 (k := .R []) ⟨List.nodup_nil, fun _ h => nomatch h⟩ (P := fun Γ' => Γ' = gset (gset (gset Γ i (some ⟨.nl, _⟩)) j (some ⟨.nl, _⟩)) l (some ⟨.nl, _⟩)) (by unfold StoreOk; rw [if_pos n3])
    subst p3
    obtain ⟨w1, w3⟩ := ((l1.trans l2).trans l3).to h1 h3
    exact L.nx B3 _ c1 _ H1 w1 w3 E4 q
  · exact q.elim
end
end DL
namespace DL
open PySem PySem.Spec L2
/-! ### promises of usual helpers -/
def S_is_whole : FS D where
  ks := [.sh]
  args d := [d]
  pre d c := isData d = true
  res d c r c' := r = .bl (isI d) ∧ c' = c
def S_is_colour : FS (D × Int) where
  ks := [.sh, .nl]
  args p := [p.1, .int p.2]
  pre p c := isData p.1 = true ∧ lenD p.1 ≤ 1000000
  res p c r c' := ∃ b : Bool, r = .bl b ∧ (b = true ↔ ∃ ns : List Int, p.1 = eCol ns ∧ (ns.length : Int) = p.2) ∧ c' = c
theorem whole_call {d : D} {c : Nat} {P : D → Nat → Prop} (hd : isData d = true) (h : P (.bl (isI d)) c) :
    ∃ a, S_is_whole.args a = [d] ∧ S_is_whole.pre a c ∧ ∀ r c', S_is_whole.res a c r c' → P r c' := by
  refine ⟨d, rfl, hd, ?_⟩
  rintro r c' ⟨rfl, rfl⟩
  exact h
theorem pick_call {m : Int} {c : Nat} {P : D → Nat → Prop} (h0 : 0 < m) (h1 : m < 1073741824) (h2 : c < LIM) (h : ∀ r : Int, 0 ≤ r → r < m → P (.int r) (c + 1)) :
    ∃ a, S_pick.args a = [.gen, .int m] ∧ S_pick.pre a c ∧ ∀ d c', S_pick.res a c d c' → P d c' := pick_iff.mpr ⟨h0, h1, h2, h⟩
/-! ### fractions -/
theorem dvd_cop {b a y : Int} (h : b ∣ a * y) (g : Int.gcd b a = 1) : b ∣ y := by
  have h' : b.natAbs ∣ a.natAbs * y.natAbs := by rw [← Int.natAbs_mul]; exact Int.natAbs_dvd_natAbs.mpr h
  exact Int.natAbs_dvd_natAbs.mp (Nat.Coprime.dvd_of_dvd_mul_left g h')
theorem lowest_one {a b x y : Int} (hb : 0 < b) (hy : 0 < y) (h1 : Int.gcd a b = 1) (h2 : Int.gcd x y = 1) (h : a * y = x * b) : a = x ∧ b = y := by
  have d1 : b ∣ y := by
    have : b ∣ a * y := ⟨x, by rw [h, Int.mul_comm]⟩
    exact dvd_cop this (by rw [Int.gcd_comm]; exact h1)
  have d2 : y ∣ b := by
    have : y ∣ x * b := ⟨a, by rw [← h, Int.mul_comm]⟩
    exact dvd_cop this (by rw [Int.gcd_comm]; exact h2)
  have e : b = y := Int.le_antisymm (Int.le_of_dvd hy d1) (Int.le_of_dvd hb d2)
  subst e
  exact ⟨Int.eq_of_mul_eq_mul_right (by omega) h, rfl⟩
/-! ### loops, the invariant by turn -/
theorem rFor_idx {ri : RI} {rg : RG} {rb : RS} {Dd : EndsD} {Γ : GE} {c : Nat} (ds : List D) (nl : Bool) (c1 n k : Nat) (M : Nat → GE → Prop)
    (hi : ∀ P : List D → Bool → Bool → Nat → Prop, P ds nl true c1 → ri Γ c P) (hl : ds.length = n) (h0 : M 0 Γ)
    (hs : ∀ (i : Nat) (d : D) (Γ' : GE) (c' : Nat), ds[i]? = some d → M i Γ' → c1 ≤ c' → c' + k ≤ c1 + n * k → ∀ f : GE → Nat → Prop, (∀ Γ2 c2, M (i + 1) Γ2 → c' ≤ c2 → c2 ≤ c' + k → f Γ2 c2) → rg d (if nl then .R [] else .S) Γ' fun Γ2 => rb { Dd with nx := f, ct := f, bk := Dd.nx } Γ2 c')
    (h : ∀ Γ' c', M n Γ' → c1 ≤ c' → c' ≤ c1 + n * k → Dd.nx Γ' c') : rFor ri rg rb Dd Γ c := by
  refine hi _ ⟨rfl, fun i Γ' c' => M i Γ' ∧ c1 ≤ c' ∧ c' ≤ c1 + i * k, ⟨h0, Nat.le_refl _, by omega⟩, ?_, ?_⟩
  · rintro i d Γ' c' hd ⟨hM, h1, h2⟩
    have hi : i < ds.length := (List.getElem?_eq_some_iff.mp hd).1
    have hk : i * k + k ≤ n * k := by
      have := Nat.mul_le_mul_right k (show i + 1 ≤ n by omega)
      rw [Nat.succ_mul] at this; exact this
    refine hs i d Γ' c' hd hM h1 (by omega) _ fun Γ2 c2 hM2 h3 h4 => ⟨hM2, by omega, ?_⟩
    rw [Nat.succ_mul]; omega
  · rintro Γ' c' ⟨hM, h1, h2⟩
    subst hl
    exact h Γ' c' hM h1 h2
theorem rFor_rngI {ri : RI} {rg : RG} {rb : RS} {Dd : EndsD} {Γ : GE} {c : Nat} (n k : Nat) (M : Nat → GE → Prop)
    (hi : ∀ P : List D → Bool → Bool → Nat → Prop, P (intsFrom 0 n) true true c → ri Γ c P) (h0 : M 0 Γ)
    (hs : ∀ (i : Nat) Γ' c', i < n → M i Γ' → c ≤ c' → c' + k ≤ c + n * k → ∀ f : GE → Nat → Prop, (∀ Γ2 c2, M (i + 1) Γ2 → c' ≤ c2 → c2 ≤ c' + k → f Γ2 c2) → rg (.int i) (.R []) Γ' fun Γ2 => rb { Dd with nx := f, ct := f, bk := Dd.nx } Γ2 c')
    (h : ∀ Γ' c', M n Γ' → c ≤ c' → c' ≤ c + n * k → Dd.nx Γ' c') : rFor ri rg rb Dd Γ c := by
  refine rFor_idx (intsFrom 0 n) true c n k M hi (rng_len n) h0 (fun i d Γ' c' hd => ?_) h
  obtain ⟨h1, rfl⟩ := intsFrom_get hd
  rw [Int.zero_add]
  exact hs i Γ' c' h1
/-! ### tuples taken apart: told as equations of propositions, quick for the kernel -/
theorem tup1 {r : RG} {d : D} {k : Kd} {Γ : GE} {Q : GE → Prop} : rgTup 1 (rgCons r rgNil) (.tup [d]) k Γ Q = r d k Γ Q := propext ⟨fun h => by
  obtain ⟨_, h⟩ := h
  have e : (fun Γ1 => rgNil [] k Γ1 Q) = Q := funext fun Γ1 => propext ⟨fun h => h.2, fun h => ⟨rfl, h⟩⟩
  rw [← e]; exact h, fun h => ⟨rfl, by
  have e : (fun Γ1 => rgNil [] k Γ1 Q) = Q := funext fun Γ1 => propext ⟨fun h => h.2, fun h => ⟨rfl, h⟩⟩
  rw [← e] at h; exact h⟩⟩
theorem nilQ {k : Kd} {Q : GE → Prop} : (fun Γ1 => rgNil [] k Γ1 Q) = Q := funext fun Γ1 => propext ⟨fun h => h.2, fun h => ⟨rfl, h⟩⟩
theorem tup2 {r s : RG} {d e : D} {k : Kd} {Γ : GE} {Q : GE → Prop} : rgTup 2 (rgCons r (rgCons s rgNil)) (.tup [d, e]) k Γ Q = r d k Γ fun Γ1 => s e k Γ1 Q := propext ⟨fun h => by
  obtain ⟨_, h⟩ := h
  have h : r d k Γ fun Γ1 => s e k Γ1 fun Γ2 => rgNil [] k Γ2 Q := h
  rw [nilQ] at h; exact h, fun h => ⟨rfl, by
  show r d k Γ fun Γ1 => s e k Γ1 fun Γ2 => rgNil [] k Γ2 Q
  rw [nilQ]; exact h⟩⟩
theorem tup3 {r s t : RG} {d e f : D} {k : Kd} {Γ : GE} {Q : GE → Prop} : rgTup 3 (rgCons r (rgCons s (rgCons t rgNil))) (.tup [d, e, f]) k Γ Q = r d k Γ fun Γ1 => s e k Γ1 fun Γ2 => t f k Γ2 Q := propext ⟨fun h => by
  obtain ⟨_, h⟩ := h
  have h : r d k Γ fun Γ1 => s e k Γ1 fun Γ2 => t f k Γ2 fun Γ3 => rgNil [] k Γ3 Q := h
  rw [nilQ] at h; exact h, fun h => ⟨rfl, by
  show r d k Γ fun Γ1 => s e k Γ1 fun Γ2 => t f k Γ2 fun Γ3 => rgNil [] k Γ3 Q
  rw [nilQ]; exact h⟩⟩
theorem tup2F {r s : RG} {p : Int × Int} {k : Kd} {Γ : GE} {Q : GE → Prop} : rgTup 2 (rgCons r (rgCons s rgNil)) (eF p) k Γ Q = r (.int p.1) k Γ fun Γ1 => s (.int p.2) k Γ1 Q := tup2
theorem stoNl {Γ : GE} {i : Nat} {d : D} {k : Kd} {P : GE → Prop} (h : noL d = true) : StoreOk Γ i d k P = P (gset Γ i (some ⟨.nl, d⟩)) := by
  unfold StoreOk; rw [if_pos h]
theorem stoInt {Γ : GE} {i : Nat} {n : Int} {k : Kd} {P : GE → Prop} : StoreOk Γ i (.int n) k P = P (gset Γ i (some ⟨.nl, .int n⟩)) := stoNl rfl
theorem stoF {Γ : GE} {i : Nat} {n : Int × Int} {k : Kd} {P : GE → Prop} : StoreOk Γ i (eF n) k P = P (gset Γ i (some ⟨.nl, eF n⟩)) := stoNl rfl
theorem stoC {Γ : GE} {i : Nat} {n : List Int} {k : Kd} {P : GE → Prop} : StoreOk Γ i (eCol n) k P = P (gset Γ i (some ⟨.nl, eCol n⟩)) := stoNl (noL_col n)
theorem stoM {Γ : GE} {i : Nat} {n : List (Int × Int)} {k : Kd} {P : GE → Prop} : StoreOk Γ i (eMid n) k P = P (gset Γ i (some ⟨.nl, eMid n⟩)) := stoNl (noL_mid n)
end DL
namespace DL
open PySem PySem.Spec L2
/-! ### min over a list of data -/
def rMinDt (K : PySem.W.Frag) : List V → Hp → VK → Prop := fun vs H Q => ∃ (a : Addr) (xs : List V) (x : PyData) (ds : List PyData), vs = [V.ref a] ∧ SqL K H a xs ∧ DpAll K H xs (x :: ds) ∧ PySem.W.AlikeAll (x :: ds) ∧ PyData.depthAll (x :: ds) ≤ 60 ∧
  ∀ (i : Nat) (v : V), xs[i]? = some v → (x :: ds)[i]? = some (PySem.W.minD x ds) → Q v H
section
variable {X : Cx}
theorem readsAll_get {h : Heap} : ∀ {vs : List Value} {xs : List PyData} {as : List Addr} {i : Nat} {v : Value}, ReadsAll h vs xs as → vs[i]? = some v → ∃ d bs, xs[i]? = some d ∧ Reads h v d bs
  | _, _, _, _, _, .nil, e => by simp at e
  | _, _, _, 0, _, .cons r rs, e => by cases e; exact ⟨_, _, rfl, r⟩
  | _, _, _, i + 1, _, .cons r rs, e => readsAll_get (i := i) rs e
theorem cr_minDt (hc : X.calm = true) (hu : X.A.units + 64 < cLine) : CallR X (.builtin "min") (rMinDt X.K) := by
  intro pins s σ H vs us Q I r h
  obtain ⟨a, xs, x, ds, rfl, hs, hd, ha, hdp, q⟩ := h
  obtain ⟨its, rv, hli, _⟩ := I.list hs
  rw [Vals.ref1 r]
  obtain ⟨as, hr⟩ := Dp.readsAll I _ _ _ hd rv
  refine PySem.W.min_list_data (I.ok.hd hc) hli.isList hr ha (by omega) fun i v h' tk bs hv hm hk => ?_
  have hv' : its[i]? = some v := by simpa using hv
  obtain ⟨d, cs, e1, e2⟩ := readsAll_get hr (i := i) (v := v) (by simpa using hv)
  have e3 := PySem.W.reads_keeps hk e2
  have e4 := (PySem.Reads.unique e3 _ _ hm).1
  subst e4
  have hi : i < xs.length := by
    rw [rv.length]
    exact (List.getElem?_eq_some_iff.mp hv').1
  obtain ⟨u, hu1, hu2⟩ := rv.get (List.getElem?_eq_getElem hi)
  rw [hv'] at hu1
  cases hu1
  exact ⟨xs[i], H, I.kept hk, hu2, q i _ (List.getElem?_eq_getElem hi) e1⟩
end
/-! pairs of numbers -/
def pyP (p : Int × Int) : PyData := .tuple [.int p.1, .int p.2]
def leP (m p : Int × Int) : Prop := m.1 < p.1 ∨ (m.1 = p.1 ∧ m.2 ≤ p.2)
theorem leP_refl (p : Int × Int) : leP p p := .inr ⟨rfl, Int.le_refl _⟩
theorem leP_trans {a b c : Int × Int} (h : leP a b) (g : leP b c) : leP a c := by unfold leP at *; omega
theorem leP_anti {a b : Int × Int} (h : leP a b) (g : leP b a) : a = b := by
  obtain ⟨a1, a2⟩ := a
  obtain ⟨b1, b2⟩ := b
  unfold leP at *
  have h1 : a1 < b1 ∨ a1 = b1 ∧ a2 ≤ b2 := h
  have h2 : b1 < a1 ∨ b1 = a1 ∧ b2 ≤ a2 := g
  have : a1 = b1 ∧ a2 = b2 := by omega
  rw [this.1, this.2]
theorem minP (x : Int × Int) : ∀ ps : List (Int × Int), ∃ m, PySem.W.minD (pyP x) (ps.map pyP) = pyP m ∧ m ∈ x :: ps ∧ ∀ p ∈ x :: ps, leP m p := by
  intro ps
  induction ps generalizing x with
  | nil => exact ⟨x, rfl, List.mem_cons_self, fun p hp => by rcases List.mem_cons.mp hp with rfl | z; exact leP_refl _; cases z⟩
  | cons p ps ih =>
    have e : PySem.W.minD (pyP x) ((p :: ps).map pyP) = PySem.W.minD (pyP (if decide (p.1 < x.1 ∨ (p.1 = x.1 ∧ p.2 < x.2)) = true then p else x)) (ps.map pyP) := by
      unfold PySem.W.minD
      rw [List.map_cons, List.foldl_cons]
      congr 1
      show (if PySem.W.dataLt (.tuple [.int p.1, .int p.2]) (.tuple [.int x.1, .int x.2]) = true then _ else _) = _
      rw [PySem.W.dataLt_ii]
      split <;> rfl
    rw [e]
    obtain ⟨m, e1, e2, e3⟩ := ih (if decide (p.1 < x.1 ∨ (p.1 = x.1 ∧ p.2 < x.2)) = true then p else x)
    refine ⟨m, e1, ?_, fun z hz => ?_⟩
    · rcases List.mem_cons.mp e2 with h | h
      · rw [h]; split
        · exact List.mem_cons_of_mem _ List.mem_cons_self
        · exact List.mem_cons_self
      · exact List.mem_cons_of_mem _ (List.mem_cons_of_mem _ h)
    · have e4 := e3 _ List.mem_cons_self
      rcases List.mem_cons.mp hz with rfl | hz
      · refine leP_trans e4 ?_
        split
        · rename_i h; have h := of_decide_eq_true h; unfold leP; omega
        · exact leP_refl _
      · rcases List.mem_cons.mp hz with rfl | hz
        · refine leP_trans e4 ?_
          split
          · exact leP_refl _
          · rename_i h
            have h : ¬ (z.1 < x.1 ∨ (z.1 = x.1 ∧ z.2 < x.2)) := fun w => h (decide_eq_true w)
            unfold leP; omega
        · exact e3 z (List.mem_cons_of_mem _ hz)
def dMinP : List DK → (D → Kd → Prop) → Prop := fun dks Q => match dks with
  | [(.lst ds, _)] => ∃ ps : List (Int × Int), ds = ps.map eF ∧ ps ≠ [] ∧ ∀ m ∈ ps, (∀ p ∈ ps, leP m p) → Q (eF m) (.R [])
  | _ => False
section
variable {K : PySem.W.Frag} {H : Hp}
theorem dps_pairs : ∀ {ps : List (Int × Int)} {vs : List V} {fp : List Addr}, Rps K F H (ps.map eF) vs fp → DpAll K H vs (ps.map pyP)
  | [], _, _, ⟨e, _⟩ => by rw [e]; exact .nil
  | p :: ps, _, _, ⟨v, vr, f, g, e, ef, r, rs⟩ => by
    rw [e]
    have h := dp_of (d := eF p) rfl r
    exact .cons (by simpa only [eF, py, pys, pyP] using h) (dps_pairs rs)
theorem pairs_alike (ps : List (Int × Int)) : PySem.W.AlikeAll (ps.map pyP) := by
  constructor
  · intro x hx y hy
    obtain ⟨p, _, rfl⟩ := List.mem_map.mp hx
    obtain ⟨q, _, rfl⟩ := List.mem_map.mp hy
    simp [pyP, PySem.W.alike, PySem.W.alikeAll]
  · intro x hx
    obtain ⟨p, _, rfl⟩ := List.mem_map.mp hx
    simp [pyP]
theorem pairs_depth : ∀ ps : List (Int × Int), PyData.depthAll (ps.map pyP) ≤ 1
  | [] => by simp [PyData.depthAll]
  | p :: ps => by
    have := pairs_depth ps
    rw [List.map_cons, PyData.depthAll]
    simp only [pyP, PyData.depth, PyData.depthAll] at *
    omega
end
section
variable {K : PySem.W.Frag}
theorem v_minP : VN K (rMinDt K) dMinP := by
  intro B Hs H c vs dks fp Qd Q A ar h f
  unfold dMinP at h
  split at h
  · obtain ⟨ps, rfl, ne, q⟩ := h
    obtain ⟨x, rfl, r, n1, o1⟩ := ar.one
    obtain ⟨a, us, g, rfl, e, rfl, rs⟩ := r.lst
    cases ps with
    | nil => exact absurd rfl ne
    | cons p ps =>
      obtain ⟨m, em, hm, hle⟩ := minP p ps
      refine ⟨a, us, pyP p, ps.map pyP, rfl, SqL.of e, dps_pairs rs, pairs_alike (p :: ps), Nat.le_trans (pairs_depth (p :: ps)) (by decide), fun i v hv hi => ?_⟩
      have hi' : ((p :: ps).map pyP)[i]? = some (pyP m) := by rw [← em]; exact hi
      rw [List.getElem?_map] at hi'
      obtain ⟨z, hz, ez⟩ := Option.map_eq_some_iff.mp hi'
      have hzm : z = m := by
        obtain ⟨z1, z2⟩ := z
        obtain ⟨m1, m2⟩ := m
        have ez : PyData.tuple [.int z1, .int z2] = .tuple [.int m1, .int m2] := ez
        simp at ez
        rw [ez.1, ez.2]
      subst hzm
      obtain ⟨v', f', hv', rp, sl⟩ := Rps.get rs (show ((p :: ps).map eF)[i]? = some (eF z) by rw [List.getElem?_map, hz]; rfl)
      rw [hv] at hv'
      cases hv'
      have ef : f' = [] := rp.nol rfl
      subst ef
      exact f v H _ _ (Same.refl _) (A.flat rp) (q z hm hle)
  · exact h.elim
end
/-! ### xs[::-1] -/
def rRev (re : RE) : RE := fun Γ c Q => re Γ c fun d _ c1 => match d with
  | .lst ds => noLs ds = true ∧ Q (.lst ds.reverse) (.R []) c1
  | _ => False
theorem noLs_mem : ∀ {ds : List D}, noLs ds = true ↔ ∀ d ∈ ds, noL d = true
  | [] => ⟨fun _ _ h => (nomatch h), fun _ => rfl⟩
  | x :: r => by
    show (noL x && noLs r) = true ↔ _
    rw [Bool.and_eq_true, noLs_mem]
    exact ⟨fun h d hd => (List.mem_cons.mp hd).elim (fun e => e ▸ h.1) (h.2 d), fun h => ⟨h x List.mem_cons_self, fun d hd => h d (List.mem_cons_of_mem _ hd)⟩⟩
section
variable {K : PySem.W.Frag} {H : Hp}
theorem Rps.rev : ∀ {ds : List D} {vs : List V} {fp : List Addr}, noLs ds = true → Rps K F H ds vs fp → Rps K F H ds.reverse vs.reverse [] ∧ fp = []
  | [], _, _, _, ⟨e, e'⟩ => by rw [e, e']; exact ⟨⟨rfl, rfl⟩, rfl⟩
  | d :: ds, _, _, n, ⟨v, vr, f, g, e, ef, r, rs⟩ => by
    have n' : (noL d && noLs ds) = true := n
    rw [Bool.and_eq_true] at n'
    obtain ⟨h1, h2⟩ := Rps.rev n'.2 rs
    have h3 : f = [] := r.nol n'.1
    subst h3; subst h2; subst e; subst ef
    rw [List.reverse_cons, List.reverse_cons]
    have h4 : Rps K F H [d] [v] [] := by
      have hn : Rps K F H [] [] [] := ⟨rfl, rfl⟩
      rw [Rps]; exact ⟨v, [], [], [], rfl, rfl, r, hn⟩
    exact ⟨Rps.append h1 h4, rfl⟩
theorem ed_rev {te : TE} {re : RE} (he : ED K te re) : ED K (tRevL K te) (rRev re) := by
  intro B Γ c σ H Qd Q E h f
  refine he B Γ c σ H _ _ E h fun w H1 d k c1 x q => ?_
  unfold rRev at q
  split at q
  · obtain ⟨fp0, r0, ok⟩ := x.rp
    obtain ⟨a, us, g, rfl, e, rfl, rs⟩ := r0.lst
    obtain ⟨rr, rfl⟩ := Rps.rev q.1 rs
    exact ⟨a, us, rfl, SqL.of e, fun p hp => f _ _ _ _ c1 (At.newL ⟨⟨Γ, σ, c, E⟩, x.ext, x.gens⟩ hp rr (fun _ h => nomatch h) kok0) q.2⟩
  · exact q.elim
end
/-! ### promises: colours, palettes -/
def Col (w : Int) (ns : List Int) : Prop := (ns.length : Int) = w ∧ ∀ n ∈ ns, 0 ≤ n ∧ n ≤ 1000
def S_colour : FS (Int × Int) where
  ks := [.nl, .nl]
  args p := [.gen, .tup [.int p.1, .int p.2]]
  pre p c := 1 ≤ p.1 ∧ p.1 ≤ 5 ∧ 1 ≤ p.2 ∧ p.2 ≤ 1000 ∧ c + 10 < LIM
  res p c d c' := ∃ ns, d = eCol ns ∧ Col p.1 ns ∧ c ≤ c' ∧ c' ≤ c + 10
def S_palette : FS (Int × Int) where
  ks := [.nl, .nl]
  args p := [.gen, .tup [.int p.1, .int p.2]]
  pre p c := 1 ≤ p.1 ∧ p.1 ≤ 5 ∧ 1 ≤ p.2 ∧ p.2 ≤ 1000 ∧ c + 1000 < LIM
  res p c d c' := ∃ cs : List (List Int), d = .lst (cs.map eCol) ∧ 1 ≤ cs.length ∧ cs.length ≤ 40 ∧ (∀ ns ∈ cs, Col p.1 ns) ∧ c ≤ c' ∧ c' ≤ c + 1000
/-- a colour that is asked for: its numbers within a million and one either way -/
def ColA (w : Int) (ns : List Int) : Prop := (ns.length : Int) = w ∧ ∀ n ∈ ns, -1000001 ≤ n ∧ n ≤ 1000001
theorem Col.a {w : Int} {ns : List Int} (h : Col w ns) : ColA w ns := ⟨h.1, fun n hn => by have := h.2 n hn; omega⟩
def ColN (w : Int) (ns : List Int) : Prop := (ns.length : Int) = w ∧ ∀ n ∈ ns, -10000 ≤ n ∧ n ≤ 10000
theorem Col.n {w : Int} {ns : List Int} (h : Col w ns) : ColN w ns := ⟨h.1, fun n hn => by have := h.2 n hn; omega⟩
theorem ColN.a {w : Int} {ns : List Int} (h : ColN w ns) : ColA w ns := ⟨h.1, fun n hn => by have := h.2 n hn; omega⟩
def S_asked : FS ((Int × Int) × List (List Int)) where
  ks := [.nl, .nl, .sh]
  args p := [.gen, .tup [.int p.1.1, .int p.1.2], .lst (p.2.map eCol)]
  pre p c := 1 ≤ p.1.1 ∧ p.1.1 ≤ 5 ∧ 1 ≤ p.1.2 ∧ p.1.2 ≤ 1000 ∧ 1 ≤ p.2.length ∧ p.2.length ≤ 1000 ∧ (∀ ns ∈ p.2, ColN p.1.1 ns) ∧ c + 50 < LIM
  res p c d c' := ∃ ns, d = eCol ns ∧ ColA p.1.1 ns ∧ c ≤ c' ∧ c' ≤ c + 50
def apartI (x y : List Int) : Int := ((x.zip y).map fun p => (p.1 - p.2) * (p.1 - p.2)).sum
def S_apart : FS (List Int × List Int) where
  ks := [.nl, .nl]
  args p := [eCol p.1, eCol p.2]
  pre p c := p.1.length ≤ 1000 ∧ (∀ n ∈ p.1, -10000000 ≤ n ∧ n ≤ 10000000) ∧ (∀ n ∈ p.2, -10000000 ≤ n ∧ n ≤ 10000000)
  res p c d c' := d = .int (apartI p.1 p.2) ∧ c' = c
theorem zip_ints : ∀ x y : List Int, zipD (x.map D.int) (y.map D.int) = (x.zip y).map eF
  | [], _ => by simp [zipD]
  | _ :: _, [] => by simp [zipD]
  | a :: x, b :: y => by
    have h := zip_ints x y
    unfold zipD at h ⊢
    rw [List.map_cons, List.map_cons, List.zipWith_cons_cons, h]; rfl
def enumC : Nat → List (List Int) → List (Int × List Int)
  | _, [] => []
  | n, c :: cs => ((n : Int), c) :: enumC (n + 1) cs
theorem enumC_D : ∀ (n : Nat) (cs : List (List Int)), enumD n (cs.map eCol) = (enumC n cs).map fun p => .tup [.int p.1, eCol p.2]
  | _, [] => rfl
  | n, c :: cs => by
    show D.tup [.int (n : Nat), eCol c] :: enumD (n + 1) (cs.map eCol) = _
    rw [enumC_D (n + 1) cs]; rfl
theorem enumC_len : ∀ (n : Nat) (cs : List (List Int)), (enumC n cs).length = cs.length
  | _, [] => rfl
  | n, c :: cs => by rw [enumC, List.length_cons, List.length_cons, enumC_len]
theorem enumC_mem : ∀ {n : Nat} {cs : List (List Int)} {p : Int × List Int}, p ∈ enumC n cs → p.2 ∈ cs ∧ (n : Int) ≤ p.1 ∧ p.1 < n + cs.length
  | _, [], _, h => nomatch h
  | n, c :: cs, p, h => by
    rcases List.mem_cons.mp h with rfl | h
    · exact ⟨List.mem_cons_self, Int.le_refl _, by rw [List.length_cons]; show (n : Int) < _; omega⟩
    · obtain ⟨h1, h2, h3⟩ := enumC_mem h
      refine ⟨List.mem_cons_of_mem _ h1, by omega, ?_⟩
      rw [List.length_cons]; omega
/-! min of one list, either kind -/
def rMinA (K : PySem.W.Frag) : List V → Hp → VK → Prop := fun vs H Q => rMin K vs H Q ∨ rMinDt K vs H Q
theorem cr_minA {X : Cx} (hc : X.calm = true) (hu : X.A.units + 64 < cLine) : CallR X (.builtin "min") (rMinA X.K) := by
  intro pins s σ H vs us Q I r h
  exact h.elim (fun h => cr_min hc pins s σ H vs us Q I r h) fun h => cr_minDt hc hu pins s σ H vs us Q I r h
def dMinA : RN := fun dks Q => dMinL dks Q ∨ dMinP dks Q
theorem v_minA {K : PySem.W.Frag} : VN K (rMinA K) dMinA := by
  intro B Hs H c vs dks fp Qd Q A ar h f
  exact h.elim (fun h => .inl (v_minL B Hs H c vs dks fp Qd Q A ar h f)) fun h => .inr (v_minP B Hs H c vs dks fp Qd Q A ar h f)
theorem apart_call {x y : List Int} {c : Nat} {P : D → Nat → Prop} (h1 : x.length ≤ 1000) (h2 : ∀ n ∈ x, -10000000 ≤ n ∧ n ≤ 10000000) (h3 : ∀ n ∈ y, -10000000 ≤ n ∧ n ≤ 10000000) (h : P (.int (apartI x y)) c) :
    ∃ a, S_apart.args a = [eCol x, eCol y] ∧ S_apart.pre a c ∧ ∀ r c', S_apart.res a c r c' → P r c' := by
  refine ⟨(x, y), rfl, ⟨h1, h2, h3⟩, ?_⟩
  rintro r c' ⟨rfl, rfl⟩
  exact h
theorem colour_call {w s : Int} {c : Nat} {P : D → Nat → Prop} (h : 1 ≤ w ∧ w ≤ 5 ∧ 1 ≤ s ∧ s ≤ 1000) (hc : c + 10 < LIM) (hP : ∀ ns c', Col w ns → c ≤ c' → c' ≤ c + 10 → P (eCol ns) c') :
    ∃ a, S_colour.args a = [.gen, .tup [.int w, .int s]] ∧ S_colour.pre a c ∧ ∀ r c', S_colour.res a c r c' → P r c' := by
  refine ⟨(w, s), rfl, ⟨h.1, h.2.1, h.2.2.1, h.2.2.2, hc⟩, ?_⟩
  rintro r c' ⟨ns, rfl, h1, h2, h3⟩
  exact hP ns c' h1 h2 h3
theorem eqv_nil (ds : List D) : (py (.lst ds)).eqv (py (.lst [])) = ds.isEmpty := by
  cases ds with
  | nil => simp [py, pys, PyData.eqv, PyData.eqvAll]
  | cons d ds => simp [py, pys, PyData.eqv, PyData.eqvAll]
theorem okD_cols {cs : List (List Int)} (hl : cs.length ≤ 1000000) (h : ∀ ns ∈ cs, ns.length ≤ 1000000) : okD (.lst (cs.map eCol)) = true :=
  okD_lst (by rw [List.length_map]; exact hl) (okDs_map cs fun ns hn => okD_col (h ns hn))
theorem dep_cols (cs : List (List Int)) : dep (.lst (cs.map eCol)) ≤ 2 := by
  show deps (cs.map eCol) + 1 ≤ 2
  have := deps_map (f := eCol) (k := 1) cs fun ns _ => dep_col ns
  omega
theorem eqOk_cols {cs : List (List Int)} (hl : cs.length ≤ 1000000) (h : ∀ ns ∈ cs, ns.length ≤ 1000000) : EqOk (.lst (cs.map eCol)) := eqOk_of (okD_cols hl h) (Nat.le_trans (dep_cols cs) (by decide))
theorem Col.len {w : Int} {ns : List Int} (h : Col w ns) (hw : w ≤ 5) : ns.length ≤ 1000000 := by have := h.1; omega
theorem ColA.len {w : Int} {ns : List Int} (h : ColA w ns) (hw : w ≤ 5) : ns.length ≤ 1000000 := by have := h.1; omega
/-! ### how far apart the colours of a palette are -/
def pairsF (q : List Int) (cs : List (List Int)) : List (Int × Int) := (enumC 0 cs).map fun p => (apartI p.2 q, p.1)
theorem pairsF_ne {q : List Int} {cs : List (List Int)} (h : 0 < cs.length) : pairsF q cs ≠ [] := by
  intro e
  have := congrArg List.length e
  unfold pairsF at this
  rw [List.length_map, enumC_len, List.length_nil] at this
  omega
def PalOk (cs : List (List Int)) (q : List Int) : Prop := cs.length ≤ 1000 ∧ (∀ ns ∈ cs, ns.length ≤ 1000 ∧ ∀ n ∈ ns, -10000000 ≤ n ∧ n ≤ 10000000) ∧ ∀ n ∈ q, -10000000 ≤ n ∧ n ≤ 10000000
theorem PalOk.of {w v : Int} {cs : List (List Int)} {q : List Int} (hl : cs.length ≤ 1000) (hw : w ≤ 1000) (h : ∀ ns ∈ cs, Col w ns) (hq : ColA v q) : PalOk cs q :=
  ⟨hl, fun ns hn => ⟨by have := (h ns hn).1; omega, fun n hm => by have := (h ns hn).2 n hm; omega⟩, fun n hm => by have := hq.2 n hm; omega⟩
theorem PalOk.rev {cs : List (List Int)} {q : List Int} (h : PalOk cs q) : PalOk cs.reverse q := ⟨by rw [List.length_reverse]; exact h.1, fun ns hn => h.2.1 ns (List.mem_reverse.mp hn), h.2.2⟩
def S_squares : FS (List (List Int) × List Int) where
  ks := [.sh, .nl]
  args p := [.lst (p.1.map eCol), eCol p.2]
  pre p c := PalOk p.1 p.2
  res p c d c' := d = .lst ((pairsF p.2 p.1).map eF) ∧ c' = c
def IsMin (ps : List (Int × Int)) (m : Int × Int) : Prop := m ∈ ps ∧ ∀ p ∈ ps, leP m p
theorem IsMin.eq {ps : List (Int × Int)} {m n : Int × Int} (h : IsMin ps m) (g : IsMin ps n) : m = n := leP_anti (h.2 n g.1) (g.2 m h.1)
def S_near : FS (List (List Int) × List Int) where
  ks := [.sh, .nl]
  args p := [.lst (p.1.map eCol), eCol p.2]
  pre p c := PalOk p.1 p.2 ∧ 0 < p.1.length
  res p c d c' := ∃ m, IsMin (pairsF p.2 p.1) m ∧ d = .int m.2 ∧ c' = c
theorem near_call {cs : List (List Int)} {q : List Int} {c : Nat} {P : D → Nat → Prop} (h : PalOk cs q) (hl : 0 < cs.length) (hP : ∀ m, IsMin (pairsF q cs) m → P (.int m.2) c) :
    ∃ a, S_near.args a = [.lst (cs.map eCol), eCol q] ∧ S_near.pre a c ∧ ∀ r c', S_near.res a c r c' → P r c' := by
  refine ⟨(cs, q), rfl, ⟨h, hl⟩, ?_⟩
  rintro r c' ⟨m, hm, rfl, rfl⟩
  exact hP m hm
theorem palette_call {w s : Int} {c : Nat} {P : D → Nat → Prop} (h : 1 ≤ w ∧ w ≤ 5 ∧ 1 ≤ s ∧ s ≤ 1000) (hc : c + 1000 < LIM) (hP : ∀ (cs : List (List Int)) c', 1 ≤ cs.length → cs.length ≤ 40 → (∀ ns ∈ cs, Col w ns) → c ≤ c' → c' ≤ c + 1000 → P (.lst (cs.map eCol)) c') :
    ∃ a, S_palette.args a = [.gen, .tup [.int w, .int s]] ∧ S_palette.pre a c ∧ ∀ r c', S_palette.res a c r c' → P r c' := by
  refine ⟨(w, s), rfl, ⟨h.1, h.2.1, h.2.2.1, h.2.2.2, hc⟩, ?_⟩
  rintro r c' ⟨cs, rfl, h1, h2, h3, h4, h5⟩
  exact hP cs c' h1 h2 h3 h4 h5
theorem askedN_call {w s : Int} {cs : List (List Int)} {c : Nat} {P : D → Nat → Prop} (h : 1 ≤ w ∧ w ≤ 5 ∧ 1 ≤ s ∧ s ≤ 1000) (hl : 1 ≤ cs.length ∧ cs.length ≤ 1000) (hcs : ∀ ns ∈ cs, ColN w ns) (hc : c + 50 < LIM) (hP : ∀ ns c', ColA w ns → c ≤ c' → c' ≤ c + 50 → P (eCol ns) c') :
    ∃ a, S_asked.args a = [.gen, .tup [.int w, .int s], .lst (cs.map eCol)] ∧ S_asked.pre a c ∧ ∀ r c', S_asked.res a c r c' → P r c' := by
  refine ⟨((w, s), cs), rfl, ⟨h.1, h.2.1, h.2.2.1, h.2.2.2, hl.1, hl.2, hcs, hc⟩, ?_⟩
  rintro r c' ⟨ns, rfl, h1, h2, h3⟩
  exact hP ns c' h1 h2 h3
theorem asked_call {w s : Int} {cs : List (List Int)} {c : Nat} {P : D → Nat → Prop} (h : 1 ≤ w ∧ w ≤ 5 ∧ 1 ≤ s ∧ s ≤ 1000) (hl : 1 ≤ cs.length ∧ cs.length ≤ 1000) (hcs : ∀ ns ∈ cs, Col w ns) (hc : c + 50 < LIM) (hP : ∀ ns c', ColA w ns → c ≤ c' → c' ≤ c + 50 → P (eCol ns) c') :
    ∃ a, S_asked.args a = [.gen, .tup [.int w, .int s], .lst (cs.map eCol)] ∧ S_asked.pre a c ∧ ∀ r c', S_asked.res a c r c' → P r c' := askedN_call h hl (fun ns hn => (hcs ns hn).n) hc hP
theorem nbDs_map {α : Type} {f : α → D} (h : ∀ x, nbD (f x) = true) : ∀ xs : List α, nbDs (xs.map f) = true
  | [] => rfl
  | x :: xs => by
    show (nbD (f x) && nbDs (xs.map f)) = true
    rw [h x, nbDs_map h xs]; rfl
theorem nbD_col (ns : List Int) : nbD (eCol ns) = true := nbDs_map (fun _ => rfl) ns
theorem nbD_cols (cs : List (List Int)) : nbD (.lst (cs.map eCol)) = true := nbDs_map nbD_col cs
theorem eqv_self {d : D} (h : nbD d = true) : (py d).eqv (py d) = true := (eqv_iff h h).mpr rfl
end DL
namespace DL
open PySem PySem.Spec L2
/-! ### sorted over a list of data -/
def leB (a b : PyData) : Bool := PySem.W.dataLe false (fun b : PyData => b) a b
def rSortDt (K : PySem.W.Frag) : List V → Hp → VK → Prop := fun vs H Q => ∃ (a : Addr) (bs : List (V × PyData)), vs = [V.ref a] ∧ SqL K H a (bs.map (·.1)) ∧ DpAll K H (bs.map (·.1)) (bs.map (·.2)) ∧ PySem.W.AllAlike (bs.map (·.2)) ∧ PySem.W.Sortable (bs.map (·.2)) ∧ (∀ b ∈ bs, b.2.depth ≤ 60) ∧
  ∀ p, H p = none → Q (.ref p) (upd H p (.lst ((bs.mergeSort fun x y => leB x.2 y.2).map (·.1))))
theorem each_rel : ∀ {bs : List (V × PyData)} {us : List Value}, Vals (bs.map (·.1)) us → PySem.W.EachIs (fun v b => RelV b.1 v) us bs
  | [], _, r => by cases r; exact .nil
  | b :: bs, _, r => by
    cases r with
    | cons r1 r2 => exact .cons r1 (each_rel r2)
theorem each_vals : ∀ {bs : List (V × PyData)} {us : List Value}, PySem.W.EachIs (fun v b => RelV b.1 v) us bs → Vals (bs.map (·.1)) us
  | _, _, .nil => .nil
  | _, _, .cons r1 r2 => .cons r1 (each_vals r2)
section
variable {X : Cx}
theorem cr_sortDt (hu : X.A.units + 64 < cLine) : CallR X (.builtin "sorted") (rSortDt X.K) := by
  intro pins s σ H vs us Q I r h
  obtain ⟨a, bs, rfl, hs, hd, ha, hk, hdp, q⟩ := h
  obtain ⟨its, rv, hl, hz⟩ := I.list hs
  rw [Vals.ref1 r]
  obtain ⟨as, hr⟩ := Dp.readsAll I _ _ _ hd rv
  refine PySem.W.sorted_data (R := fun v b => RelV b.1 v) (enc := fun b : V × PyData => b.2) (bs := bs) hl.isList (each_rel rv) (PySem.W.readsAll_each (fun b : V × PyData => b.2) hr) ha hk (by rw [List.length_map] at hz; exact hz) (fun b hb => by have := hdp b hb; omega) fun out hlo ho => ?_
  obtain ⟨ep, he'⟩ := PyProof.Rows.sortedAll_at s.heap its out.toArray
  have e : bs.mergeSort (PySem.W.dataLe false fun b : V × PyData => b.2) = bs.mergeSort fun x y => leB x.2 y.2 := rfl
  rw [e] at ho
  have hlen : ((bs.mergeSort fun x y => leB x.2 y.2).map (·.1)).length ≤ sizeLine := by rw [List.length_map, List.length_mergeSort]; rw [List.length_map] at hz; exact hz
  exact ⟨.ref _, upd H (s.heap.objs.size + 1) (.lst _), I.laid (t' := s.toks) (fun _ _ => PyProof.Rows.sortedAll_old) (Nat.le_succ _) ⟨hlen, out, ep, each_vals ho, he'⟩, rfl, q _ (I.hok.fresh (Nat.le_succ _))⟩
end
/-! over data -/
def pairLe (p q : Int × Int) : Bool := decide (p.1 < q.1 ∨ (p.1 = q.1 ∧ p.2 ≤ q.2))
theorem leB_pair (p q : Int × Int) : leB (pyP p) (pyP q) = pairLe p q := by
  have h := congrFun (congrFun (PySem.W.dataLe_ii (β := Int × Int) (·.1) (·.2)) p) q
  exact h
def dSortP : RN := fun dks Q => match dks with
  | [(.lst ds, _)] => ∃ ps : List (Int × Int), ds = ps.map eF ∧ ps.length ≤ 1000000 ∧ Q (.lst ((ps.mergeSort pairLe).map eF)) (.R [])
  | _ => False
section
variable {K : PySem.W.Frag} {H : Hp}
/-- what stands for pairs, item by item -/
theorem rps_zip : ∀ {ps : List (Int × Int)} {vs : List V} {fp : List Addr}, Rps K F H (ps.map eF) vs fp → ∃ bs : List (V × (Int × Int)), bs.map (·.1) = vs ∧ bs.map (·.2) = ps ∧ ∀ b ∈ bs, Rp K F H (eF b.2) b.1 []
  | [], _, _, ⟨e, _⟩ => ⟨[], e.symm, rfl, fun _ h => nomatch h⟩
  | p :: ps, _, _, ⟨v, vr, f, g, e, ef, r, rs⟩ => by
    obtain ⟨bs, h1, h2, h3⟩ := rps_zip rs
    have h4 : f = [] := r.nol rfl
    subst h4
    refine ⟨(v, p) :: bs, by rw [List.map_cons, h1, e], by rw [List.map_cons, h2], fun b hb => ?_⟩
    rcases List.mem_cons.mp hb with rfl | hb
    · exact r
    · exact h3 b hb
theorem rps_unzip : ∀ {bs : List (V × (Int × Int))}, (∀ b ∈ bs, Rp K F H (eF b.2) b.1 []) → Rps K F H ((bs.map (·.2)).map eF) (bs.map (·.1)) []
  | [], _ => ⟨rfl, rfl⟩
  | b :: bs, h => by
    have ih := rps_unzip (bs := bs) fun x hx => h x (List.mem_cons_of_mem _ hx)
    have r := h b List.mem_cons_self
    show Rps K F H (eF b.2 :: (bs.map (·.2)).map eF) (b.1 :: bs.map (·.1)) []
    rw [Rps]; exact ⟨_, _, [], [], rfl, rfl, r, ih⟩
theorem v_sortP : VN K (rSortDt K) dSortP := by
  intro B Hs H c vs dks fp Qd Q A ar h f
  unfold dSortP at h
  split at h
  · obtain ⟨ps, rfl, hl, q⟩ := h
    obtain ⟨x, rfl, r, n1, o1⟩ := ar.one
    obtain ⟨a, us, g, rfl, e, rfl, rs⟩ := r.lst
    obtain ⟨bs, e1, e2, hb⟩ := rps_zip rs
    have m1 : (bs.map fun b => (b.1, pyP b.2)).map (·.1) = us := by rw [List.map_map, ← e1]; rfl
    have m2 : (bs.map fun b => (b.1, pyP b.2)).map (·.2) = ps.map pyP := by rw [List.map_map, ← e2, List.map_map]; rfl
    refine ⟨a, bs.map fun b => (b.1, pyP b.2), rfl, ?_, ?_, ?_, ?_, ?_, fun p hp => ?_⟩
    · rw [m1]; exact SqL.of e
    · rw [m1, m2]; exact dps_pairs rs
    · rw [m2]; exact fun d hd d' hd' => (pairs_alike ps).1 d hd d' hd'
    · rw [m2]
      refine .inl fun d hd => ?_
      obtain ⟨p, _, rfl⟩ := List.mem_map.mp hd
      exact ⟨_, _, rfl⟩
    · intro b hb
      obtain ⟨z, _, rfl⟩ := List.mem_map.mp hb
      simp [pyP, PyData.depth, PyData.depthAll]
    · have s1 : ((bs.map fun b => (b.1, pyP b.2)).mergeSort fun x y => leB x.2 y.2) = (bs.mergeSort fun x y => pairLe x.2 y.2).map fun b => (b.1, pyP b.2) := by
        rw [List.map_mergeSort]
        intro x _ y _
        exact (leB_pair x.2 y.2).symm
      have s2 : ps.mergeSort pairLe = (bs.mergeSort fun x y => pairLe x.2 y.2).map (·.2) := by
        rw [← e2, List.map_mergeSort]
        intro x _ y _; rfl
      rw [s1, List.map_map]
      have rr := rps_unzip (K := K) (H := H) (bs := bs.mergeSort fun x y => pairLe x.2 y.2) fun b hb' => hb b (List.mem_mergeSort.mp hb')
      rw [← s2] at rr
      exact f _ _ _ _ (same_upd hp) (A.newL hp rr (fun _ h => nomatch h) kok0) q
  · exact h.elim
end
/-! ### xs.reverse() of one's own list -/
def rpRvs (rp : RP) (i : Nat) : RS := fun Dd Γ c => rp Γ c fun d put sk c1 => match d with
  | .lst ds => Dd.nx (gset Γ i (some ⟨sk, put (.lst ds.reverse)⟩)) c1
  | _ => False
def rRvs (i : Nat) : RS := rpRvs (rpVar i) i
theorem kills_nil (Γ : GE) : kills [] Γ = Γ := rfl
theorem Rps.revP {K : PySem.W.Frag} {F : Addr → Prop} {H : Hp} : ∀ {ds : List D} {vs : List V} {fp : List Addr}, Rps K F H ds vs fp → ∃ f, Rps K F H ds.reverse vs.reverse f ∧ f.Perm fp
  | [], _, _, ⟨e, e2⟩ => by subst e; subst e2; exact ⟨[], ⟨rfl, rfl⟩, .refl _⟩
  | d :: ds, _, _, ⟨v, vr, f, g, e, ef, r, rs⟩ => by
    subst e; subst ef
    obtain ⟨f', h1, h2⟩ := Rps.revP rs
    refine ⟨f' ++ f, by rw [List.reverse_cons, List.reverse_cons]; exact h1.append (Rps.one r), ?_⟩
    exact (List.perm_append_comm).trans (List.Perm.append_left f h2)
theorem sd_preverse {K : PySem.W.Frag} {i : Nat} {t : TE} {rp : RP} (hp : PD K i t rp) : SD K (tDrop (tBM0 K "list" L2.rReverse t)) (rpRvs rp i) := by
  intro en hd Dd D L B Γ c σ H h1 h3 E q
  refine hp B Γ c σ H _ _ E q fun u H1 d put sk c1 e1 g1 p1 q => ?_
  have E1 := E.ext e1 g1
  split at q
  · rename_i ds
    obtain ⟨a, vs, f, rfl, ea, rs, nd, of, oa, mk⟩ := p1.lst E1
    obtain ⟨f', rs', pm⟩ := rs.revP
    obtain ⟨B', b1, b3, _⟩ := mk ds.reverse vs.reverse f' [] [] Inc.nil (fun _ h => nomatch h) rs' (pm.nodup_iff.mpr (List.nodup_cons.mp nd).2) (fun x hx => .inl (pm.mem_iff.mp hx))
    obtain ⟨w1, w3⟩ := b1.to h1 h3
    exact ⟨.inl ⟨rfl, vs, SqL.of ea⟩, a, vs, rfl, rfl, ea, L.nx B' _ c1 σ _ w1 w3 b3 q⟩
  · exact q.elim
theorem sd_reverse {K : PySem.W.Frag} {i : Nat} : SD K (tDrop (tBM0 K "list" L2.rReverse (tVar i))) (rRvs i) := sd_preverse (pd_var i)

/-! ### all numbers in turn -/
def turnI (q : List Int) (cs : List (List Int)) : List Int := ((pairsF q cs).mergeSort pairLe).map (·.2)
theorem turnI_len (q : List Int) (cs : List (List Int)) : (turnI q cs).length = cs.length := by
  unfold turnI pairsF
  rw [List.length_map, List.length_mergeSort, List.length_map, enumC_len]
def S_turn : FS (List (List Int) × List Int) where
  ks := [.sh, .nl]
  args p := [.lst (p.1.map eCol), eCol p.2]
  pre p c := PalOk p.1 p.2
  res p c d c' := d = .lst ((turnI p.2 p.1).map .int) ∧ c' = c
theorem turn_call {cs : List (List Int)} {q : List Int} {c : Nat} {P : D → Nat → Prop} (h : PalOk cs q) (hP : P (.lst ((turnI q cs).map .int)) c) :
    ∃ a, S_turn.args a = [.lst (cs.map eCol), eCol q] ∧ S_turn.pre a c ∧ ∀ r c', S_turn.res a c r c' → P r c' := by
  refine ⟨(cs, q), rfl, h, ?_⟩
  rintro r c' ⟨rfl, rfl⟩
  exact hP
theorem pairsF_len (q : List Int) (cs : List (List Int)) : (pairsF q cs).length = cs.length := by
  unfold pairsF; rw [List.length_map, enumC_len]
def S_few : FS ((List (List Int) × List Int) × Int) where
  ks := [.sh, .nl, .nl]
  args p := [.lst (p.1.1.map eCol), eCol p.1.2, .int p.2]
  pre p c := PalOk p.1.1 p.1.2
  res p c d c' := d = .lst ((cutD (turnI p.1.2 p.1.1) none (some p.2)).map .int) ∧ c' = c
theorem few_call {cs : List (List Int)} {q : List Int} {m : Int} {c : Nat} {P : D → Nat → Prop} (h : PalOk cs q) (hP : P (.lst ((cutD (turnI q cs) none (some m)).map .int)) c) :
    ∃ a, S_few.args a = [.lst (cs.map eCol), eCol q, .int m] ∧ S_few.pre a c ∧ ∀ r c', S_few.res a c r c' → P r c' := by
  refine ⟨((cs, q), m), rfl, h, ?_⟩
  rintro r c' ⟨rfl, rfl⟩
  exact hP
theorem cutD_map {α β : Type} (f : α → β) (xs : List α) (lo hi : Option Int) : cutD (xs.map f) lo hi = (cutD xs lo hi).map f := by
  unfold cutD
  rw [List.length_map, ← List.map_drop, ← List.map_take]
theorem cutD_len {α : Type} (xs : List α) (lo hi : Option Int) : (cutD xs lo hi).length ≤ xs.length := by
  unfold cutD
  rw [List.length_take, List.length_drop]; omega
end DL
namespace DL
open PySem PySem.Spec L2
/-! ### all within -/
def withinI (q : List Int) (cs : List (List Int)) (s : Int) : List Int := ((pairsF q cs).filter fun p => decide (p.1 ≤ s)).map (·.2)
theorem enumC_range : ∀ (n : Nat) (cs : List (List Int)), enumC n cs = (List.range cs.length).map fun i => (((n + i : Nat) : Int), cs.getD i [])
  | _, [] => rfl
  | n, c :: cs => by
    rw [enumC, enumC_range (n + 1) cs, List.length_cons, List.range_succ_eq_map, List.map_cons, List.map_map]
    congr 1
    apply List.map_congr_left
    intro i _
    simp only [Function.comp, List.getD_cons_succ]
    congr 2
    omega
theorem within_range (q : List Int) (cs : List (List Int)) (s : Int) : ((List.range cs.length).filter fun i => decide (apartI (cs.getD i []) q ≤ s)).map (fun i : Nat => (i : Int)) = withinI q cs s := by
  unfold withinI pairsF
  rw [enumC_range, List.map_map, List.filter_map, List.map_map]
  simp only [Function.comp_def, Nat.zero_add]
theorem withinI_len (q : List Int) (cs : List (List Int)) (s : Int) : (withinI q cs s).length ≤ cs.length := by
  unfold withinI
  rw [List.length_map]
  exact Nat.le_trans (List.length_filter_le _ _) (by rw [pairsF_len]; exact Nat.le_refl _)
def S_within : FS ((List (List Int) × List Int) × Int) where
  ks := [.sh, .nl, .nl]
  args p := [.lst (p.1.1.map eCol), eCol p.1.2, .int p.2]
  pre p c := PalOk p.1.1 p.1.2
  res p c d c' := d = .lst ((withinI p.1.2 p.1.1 p.2).map .int) ∧ c' = c
theorem within_call {cs : List (List Int)} {q : List Int} {m : Int} {c : Nat} {P : D → Nat → Prop} (h : PalOk cs q) (hP : P (.lst ((withinI q cs m).map .int)) c) :
    ∃ a, S_within.args a = [.lst (cs.map eCol), eCol q, .int m] ∧ S_within.pre a c ∧ ∀ r c', S_within.res a c r c' → P r c' := by
  refine ⟨((cs, q), m), rfl, h, ?_⟩
  rintro r c' ⟨rfl, rfl⟩
  exact hP
theorem squares_call {cs : List (List Int)} {q : List Int} {c : Nat} {P : D → Nat → Prop} (h : PalOk cs q) (hP : P (.lst ((pairsF q cs).map eF)) c) :
    ∃ a, S_squares.args a = [.lst (cs.map eCol), eCol q] ∧ S_squares.pre a c ∧ ∀ r c', S_squares.res a c r c' → P r c' := by
  refine ⟨(cs, q), rfl, h, ?_⟩
  rintro r c' ⟨rfl, rfl⟩
  exact hP
theorem atI_sq {cs : List (List Int)} {q : List Int} {i : Nat} (h : i < cs.length) : atI ((cs.map fun c => apartI c q).map D.int) ((i : Nat) : Int) = some (.int (apartI (cs.getD i []) q)) := by
  refine atI_map D.int ?_
  unfold atI ixN
  rw [if_pos (by omega), List.length_map, if_pos (by omega)]
  show (cs.map fun c => apartI c q)[((i : Nat) : Int).toNat]? = _
  rw [Int.toNat_natCast, List.getElem?_map, List.getElem?_eq_getElem h]
  simp [List.getD, List.getElem?_eq_getElem h]
end DL
namespace DL
open PySem PySem.Spec L2
/-! ### fractions in lowest terms as a function -/
def Low (t b : Int) (p : Int × Int) : Prop := 0 < p.2 ∧ p.1 * b = t * p.2 ∧ Int.gcd p.1 p.2 = 1
theorem Low.uniq {t b t' b' : Int} {p q : Int × Int} (h : Low t b p) (g : Low t' b' q) (hb : b ≠ 0) (hb' : b' ≠ 0) (e : t * b' = t' * b) : p = q := by
  obtain ⟨h1, h2, h3⟩ := h
  obtain ⟨g1, g2, g3⟩ := g
  have k : p.1 * q.2 = q.1 * p.2 := by
    have : p.1 * q.2 * (b * b') = q.1 * p.2 * (b * b') := by
      calc p.1 * q.2 * (b * b') = (p.1 * b) * (q.2 * b') := by ac_rfl
        _ = (t * p.2) * (q.2 * b') := by rw [h2]
        _ = (t * b') * (p.2 * q.2) := by ac_rfl
        _ = (t' * b) * (p.2 * q.2) := by rw [e]
        _ = (t' * q.2) * (p.2 * b) := by ac_rfl
        _ = (q.1 * b') * (p.2 * b) := by rw [g2]
        _ = q.1 * p.2 * (b * b') := by ac_rfl
    exact Int.eq_of_mul_eq_mul_right (Int.mul_ne_zero hb hb') this
  obtain ⟨a1, a2⟩ := lowest_one h1 g1 h3 g3 k
  exact Prod.ext a1 a2
theorem lowF_ok (t b : Int) (hb : b ≠ 0) : ∃ p, Low t b p ∧ p.1.natAbs ≤ t.natAbs ∧ p.2.natAbs ≤ b.natAbs := by
  have hl := fun X Y hs => lowest (x := t) (y := b) (X := X) (Y := Y) hb hs (p := (Int.gcd t b : Int)) rfl
  by_cases h : 0 < b
  · have k := hl t b (.inl ⟨rfl, rfl, h⟩)
    exact ⟨(_, _), ⟨k.2.1, k.2.2.1, k.2.2.2.1⟩, k.2.2.2.2.1, k.2.2.2.2.2⟩
  · have k := hl (-t) (-b) (.inr ⟨rfl, rfl, by omega⟩)
    exact ⟨(_, _), ⟨k.2.1, k.2.2.1, k.2.2.2.1⟩, k.2.2.2.2.1, k.2.2.2.2.2⟩
open Classical in
noncomputable def lowF (t b : Int) : Int × Int := if h : b ≠ 0 then (lowF_ok t b h).choose else (0, 1)
theorem lowF_low {t b : Int} (hb : b ≠ 0) : Low t b (lowF t b) := by
  unfold lowF
  rw [dif_pos hb]
  exact (lowF_ok t b hb).choose_spec.1
theorem lowF_size {t b : Int} (hb : b ≠ 0) : (lowF t b).1.natAbs ≤ t.natAbs ∧ (lowF t b).2.natAbs ≤ b.natAbs := by
  unfold lowF
  rw [dif_pos hb]
  exact (lowF_ok t b hb).choose_spec.2
theorem lowF_eq {t b : Int} {p : Int × Int} (hb : b ≠ 0) (h : Low t b p) : p = lowF t b := h.uniq (lowF_low hb) hb hb rfl
theorem lowF_cong {t b t' b' : Int} (hb : b ≠ 0) (hb' : b' ≠ 0) (e : t * b' = t' * b) : lowF t b = lowF t' b' := (lowF_low hb).uniq (lowF_low hb') hb hb' e
theorem Low.self {p : Int × Int} (h1 : 0 < p.2) (h2 : Int.gcd p.1 p.2 = 1) : Low p.1 p.2 p := ⟨h1, rfl, h2⟩
/-- the call of part, its answer as a function -/
theorem partF_call {t b : Int} {cc : Nat} {P : D → Nat → Prop} (hb : b ≠ 0) (ht : PB 7500 t) (hbb : PB 7500 b)
    (h : P (eF (lowF t b)) cc) :
    ∃ a, S_part.args a = [.int t, .int b] ∧ S_part.pre a cc ∧ ∀ d c', S_part.res a cc d c' → P d c' :=
  part_call hb ht hbb fun p h1 h2 h3 h4 h5 => by
    have e := lowF_eq hb ⟨h1, h2, h3⟩
    subst e
    exact h
noncomputable def addF (p q : Int × Int) : Int × Int := lowF (p.1 * q.2 + q.1 * p.2) (p.2 * q.2)
noncomputable def mulF (p q : Int × Int) : Int × Int := lowF (p.1 * q.1) (p.2 * q.2)
theorem addF_low {p q : Int × Int} (hp : 0 < p.2) (hq : 0 < q.2) : Low (p.1 * q.2 + q.1 * p.2) (p.2 * q.2) (addF p q) := lowF_low (Int.ne_of_gt (Int.mul_pos hp hq))
theorem mulF_low {p q : Int × Int} (hp : 0 < p.2) (hq : 0 < q.2) : Low (p.1 * q.1) (p.2 * q.2) (mulF p q) := lowF_low (Int.ne_of_gt (Int.mul_pos hp hq))
/-- the square of the difference, both ways -/
theorem sq_step {n : Int} {m : Int × Int} (hm : 0 < m.2) : mulF (addF (n, 1) (-m.1, m.2)) (addF (n, 1) (-m.1, m.2)) = lowF ((m.1 - n * m.2) * (m.1 - n * m.2)) (m.2 * m.2) := by
  have hs := addF_low (p := (n, 1)) (q := (-m.1, m.2)) (show (0:Int) < 1 by decide) hm
  generalize addF (n, 1) (-m.1, m.2) = s at hs ⊢
  obtain ⟨h1, h2, _⟩ := hs
  have h2 : s.1 * (1 * m.2) = (n * m.2 + -m.1 * 1) * s.2 := h2
  refine lowF_cong (Int.ne_of_gt (Int.mul_pos h1 h1)) (Int.ne_of_gt (Int.mul_pos hm hm)) ?_
  generalize m.2 = b at *
  generalize m.1 = t at *
  generalize s.1 = x at *
  generalize s.2 = y at *
  have e : x * b = -((t - n * b) * y) := by
    have e1 : (n * b + -t * 1) = -(t - n * b) := by omega
    rw [Int.one_mul, e1, Int.neg_mul] at h2
    exact h2
  calc x * x * (b * b) = (x * b) * (x * b) := by ac_rfl
    _ = ((t - n * b) * y) * ((t - n * b) * y) := by rw [e, Int.neg_mul_neg]
    _ = (t - n * b) * (t - n * b) * (y * y) := by ac_rfl
/-! ### how far a colour is from a middle -/
/-- a fraction of so many bits -/
def BF (k : Nat) (p : Int × Int) : Prop := 0 < p.2 ∧ PB k p.1 ∧ PB k p.2
theorem BF.mono {j k : Nat} {p : Int × Int} (h : BF j p) (hk : j ≤ k) : BF k p := ⟨h.1, h.2.1.mono hk, h.2.2.mono hk⟩
theorem BF.one {n : Int} (h : -10000000 ≤ n ∧ n ≤ 10000000) : BF 3000 (n, 1) := ⟨(by decide : (0:Int) < 1), (PB.small (i := n) (by omega)).mono (by decide), (PB.small (i := 1) (by decide)).mono (by decide)⟩
theorem BF.neg {k : Nat} {t b : Int} (h : BF k (t, b)) : BF k (-t, b) := ⟨h.1, h.2.1.neg, h.2.2⟩
theorem lowF_BF {t b : Int} {k : Nat} (hb : b ≠ 0) (ht : PB k t) (hbb : PB k b) : BF k (lowF t b) := ⟨(lowF_low hb).1, ht.le (lowF_size hb).1, hbb.le (lowF_size hb).2⟩
theorem addF_BF {j k : Nat} {p q : Int × Int} (hp : BF j p) (hq : BF k q) : BF (j + k + 1) (addF p q) :=
  lowF_BF (Int.ne_of_gt (Int.mul_pos hp.1 hq.1)) (PB.add (hp.2.1.mul hq.2.2) ((hq.2.1.mul hp.2.2).mono (by omega))) ((hp.2.2.mul hq.2.2).mono (by omega))
theorem mulF_BF {j k : Nat} {p q : Int × Int} (hp : BF j p) (hq : BF k q) : BF (j + k) (mulF p q) :=
  lowF_BF (Int.ne_of_gt (Int.mul_pos hp.1 hq.1)) (hp.2.1.mul hq.2.1) (hp.2.2.mul hq.2.2)
noncomputable def stepF (n : Int) (m : Int × Int) : Int × Int := mulF (addF (n, 1) (-m.1, m.2)) (addF (n, 1) (-m.1, m.2))
theorem stepF_low {n : Int} {m : Int × Int} (hm : 0 < m.2) : lowF ((m.1 - n * m.2) * (m.1 - n * m.2)) (m.2 * m.2) = stepF n m := (sq_step hm).symm
noncomputable def farL (xs : List (Int × (Int × Int))) : Int × Int := xs.foldl (fun acc x => addF acc (stepF x.1 x.2)) (0, 1)
theorem farL_take {xs : List (Int × (Int × Int))} {i : Nat} {x : Int × (Int × Int)} (h : xs[i]? = some x) : farL (xs.take (i + 1)) = addF (farL (xs.take i)) (stepF x.1 x.2) := by
  unfold farL
  rw [List.take_add_one, h, List.foldl_append]; rfl
def MidOk (m : List (Int × Int)) : Prop := m.length ≤ 5 ∧ ∀ p ∈ m, BF 110 p
def ColB (q : List Int) : Prop := q.length ≤ 5 ∧ ∀ n ∈ q, -10000000 ≤ n ∧ n ≤ 10000000
theorem stepF_BF {n : Int} {m : Int × Int} (hn : -10000000 ≤ n ∧ n ≤ 10000000) (hm : BF 110 m) : BF 173 (addF (n, 1) (-m.1, m.2)) ∧ BF 346 (stepF n m) := by
  have h1 : BF 62 (n, 1) := ⟨(by decide : (0:Int) < 1), PB.small (by show _ < n ∧ n < _; omega), PB.small (i := 1) (by decide)⟩
  have h2 : BF 110 (-m.1, m.2) := ⟨hm.1, hm.2.1.neg, hm.2.2⟩
  have h3 := addF_BF h1 h2
  exact ⟨h3, mulF_BF h3 h3⟩
theorem farL_BF {xs : List (Int × (Int × Int))} (h : ∀ x ∈ xs, (-10000000 ≤ x.1 ∧ x.1 ≤ 10000000) ∧ BF 110 x.2) : ∀ i, BF (62 + 347 * i) (farL (xs.take i))
  | 0 => ⟨(by decide : (0:Int) < 1), PB.small (i := 0) (by decide), PB.small (i := 1) (by decide)⟩
  | i + 1 => by
    have ih := farL_BF h i
    cases e : xs[i]? with
    | none =>
      have hl : xs.length ≤ i := List.getElem?_eq_none_iff.mp e
      rw [List.take_of_length_le (by omega)]
      rw [List.take_of_length_le hl] at ih
      exact ih.mono (by omega)
    | some x =>
      have hx := h x (List.mem_of_getElem? e)
      rw [farL_take e]
      exact (addF_BF ih (stepF_BF hx.1 hx.2).2).mono (by omega)
noncomputable def farI (q : List Int) (m : List (Int × Int)) : Int × Int := farL (q.zip m)
end DL
namespace DL
open PySem PySem.Spec L2
/-! ### promises of the first stage -/
def S_fraction : FS Unit where
  ks := [.nl]
  args _ := [.gen]
  pre _ c := c + 20 < LIM
  res _ c d c' := ∃ p : Int × Int, d = eF p ∧ 0 < p.2 ∧ PB 200 p.1 ∧ PB 200 p.2 ∧ c ≤ c' ∧ c' ≤ c + 20
def S_rounded : FS (List (Int × Int)) where
  ks := [.nl]
  args ps := [eMid ps]
  pre ps c := ps.length ≤ 1000 ∧ ∀ p ∈ ps, 0 < p.2 ∧ p.1.natAbs < 2 ^ 3000 ∧ p.2.natAbs < 2 ^ 3000
  res ps c d c' := d = eCol (ps.map fun p => (2 * p.1 + p.2) / (2 * p.2)) ∧ c' = c
def S_as_middle : FS (List Int) where
  ks := [.nl]
  args ns := [eCol ns]
  pre ns c := ns.length ≤ 1000
  res ns c d c' := d = eMid (ns.map fun n => (n, 1)) ∧ c' = c
def S_both : FS (Int × Int) where
  ks := [.nl, .nl]
  args p := [.int p.1, .int p.2]
  pre p c := True
  res p c d c' := d = .int (Int.gcd p.1 p.2) ∧ c' = c
def S_plus : FS ((Int × Int) × (Int × Int)) where
  ks := [.nl, .nl]
  args p := [eF p.1, eF p.2]
  pre p c := 0 < p.1.2 ∧ 0 < p.2.2 ∧ PB 3000 p.1.1 ∧ PB 3000 p.1.2 ∧ PB 3000 p.2.1 ∧ PB 3000 p.2.2
  res p c d c' := d = eF (addF p.1 p.2) ∧ c' = c
def S_times : FS ((Int × Int) × (Int × Int)) where
  ks := [.nl, .nl]
  args p := [eF p.1, eF p.2]
  pre p c := 0 < p.1.2 ∧ 0 < p.2.2 ∧ PB 3000 p.1.1 ∧ PB 3000 p.1.2 ∧ PB 3000 p.2.1 ∧ PB 3000 p.2.2
  res p c d c' := d = eF (mulF p.1 p.2) ∧ c' = c
def lessF (p q : Int × Int) : Bool := decide (p.1 * q.2 < q.1 * p.2)
def S_before : FS ((Int × Int) × (Int × Int)) where
  ks := [.nl, .nl]
  args p := [eF p.1, eF p.2]
  pre p c := PB 3900 p.1.1 ∧ PB 3900 p.1.2 ∧ PB 3900 p.2.1 ∧ PB 3900 p.2.2
  res p c d c' := d = .bl (lessF p.1 p.2) ∧ c' = c
/-! ### loops over typed items, with an invariant by turns -/
theorem rFor_typ {α : Type} {ri : RI} {rg : RG} {rb : RS} {Dd : EndsD} {Γ : GE} {c : Nat} (xs : List α) (e : α → D) (nl : Bool) (c1 : Nat) (I : Nat → GE → Nat → Prop)
    (hi : ∀ P : List D → Bool → Bool → Nat → Prop, P (xs.map e) nl true c1 → ri Γ c P) (h0 : I 0 Γ c1)
    (hs : ∀ (i : Nat) (x : α) (Γ' : GE) (c' : Nat), xs[i]? = some x → I i Γ' c' → ∀ f : GE → Nat → Prop, (∀ Γ2 c2, I (i + 1) Γ2 c2 → f Γ2 c2) → rg (e x) (if nl then .R [] else .S) Γ' fun Γ2 => rb { Dd with nx := f, ct := f, bk := Dd.nx } Γ2 c')
    (h : ∀ Γ' c', I xs.length Γ' c' → Dd.nx Γ' c') : rFor ri rg rb Dd Γ c := by
  refine hi _ ⟨rfl, I, h0, ?_, ?_⟩
  · intro i d Γ' c' hd hI
    rw [List.getElem?_map] at hd
    cases hx : xs[i]? with
    | none => rw [hx] at hd; cases hd
    | some x =>
      rw [hx] at hd
      cases hd
      exact hs i x Γ' c' hx hI _ fun _ _ h => h
  · intro Γ' c' hI
    rw [List.length_map] at hI
    exact h Γ' c' hI
theorem rFor_num {ri : RI} {rg : RG} {rb : RS} {Dd : EndsD} {Γ : GE} {c : Nat} (n : Nat) (c1 : Nat) (I : Nat → GE → Nat → Prop)
    (hi : ∀ P : List D → Bool → Bool → Nat → Prop, P (intsFrom 0 n) true true c1 → ri Γ c P) (h0 : I 0 Γ c1)
    (hs : ∀ (i : Nat) (Γ' : GE) (c' : Nat), i < n → I i Γ' c' → ∀ f : GE → Nat → Prop, (∀ Γ2 c2, I (i + 1) Γ2 c2 → f Γ2 c2) → rg (.int i) (.R []) Γ' fun Γ2 => rb { Dd with nx := f, ct := f, bk := Dd.nx } Γ2 c')
    (h : ∀ Γ' c', I n Γ' c' → Dd.nx Γ' c') : rFor ri rg rb Dd Γ c := by
  refine hi _ ⟨rfl, I, h0, ?_, ?_⟩
  · intro i d Γ' c' hd hI
    obtain ⟨h1, rfl⟩ := intsFrom_get hd
    rw [Int.zero_add]
    exact hs i Γ' c' h1 hI _ fun _ _ h => h
  · intro Γ' c' hI
    rw [show (intsFrom 0 n).length = n from rng_len n] at hI
    exact h Γ' c' hI
theorem seqD_lst (ds : List D) : seqD (.lst ds) = some ds := rfl
theorem seqD_tup (ds : List D) : seqD (.tup ds) = some ds := rfl
theorem seqD_scr (ns : List Int) : seqD (.scr ns) = some (ns.map .int) := rfl
theorem seqS_lst (ds : List D) (k : Kd) : seqS (.lst ds) k = stK k := rfl
theorem seqS_tup (ds : List D) (k : Kd) : seqS (.tup ds) k = (noLs ds || stK k) := rfl
theorem seqS_scr (ns : List Int) (k : Kd) : seqS (.scr ns) k = true := rfl
theorem seqD_col (ns : List Int) : seqD (eCol ns) = some (ns.map .int) := rfl
theorem seqD_mid (ps : List (Int × Int)) : seqD (eMid ps) = some (ps.map eF) := rfl
theorem zip_col (x y : List Int) : zipD (x.map D.int) (y.map D.int) = (x.zip y).map fun p => .tup [.int p.1, .int p.2] := zip_ints x y
theorem zip_typ {α β : Type} (f : α → D) (g : β → D) (xs : List α) (ys : List β) : zipD (xs.map f) (ys.map g) = (xs.zip ys).map fun p => .tup [f p.1, g p.2] := by
  rw [zipD_map, List.zip, List.map_zipWith]
theorem zip3_typ {α β γ : Type} (f : α → D) (g : β → D) (h : γ → D) : ∀ (xs : List α) (ys : List β) (zs : List γ), zipD3 (xs.map f) (ys.map g) (zs.map h) = (xs.zip (ys.zip zs)).map fun p => .tup [f p.1, g p.2.1, h p.2.2]
  | [], _, _ => rfl
  | _ :: _, [], _ => by simp [zipD3, zipD]
  | _ :: _, _ :: _, [] => by simp [zipD3, zipD]
  | x :: xs, y :: ys, z :: zs => by
    show D.tup [f x, g y, h z] :: zipD3 (xs.map f) (ys.map g) (zs.map h) = _
    rw [zip3_typ f g h xs ys zs]; rfl
theorem enum_typ {α : Type} (f : α → D) : ∀ (n : Nat) (xs : List α), enumD n (xs.map f) = (xs.zipIdx n).map fun p => .tup [.int (p.2 : Nat), f p.1]
  | _, [] => rfl
  | n, x :: xs => by
    show D.tup [.int (n : Nat), f x] :: enumD (n + 1) (xs.map f) = _
    rw [enum_typ f (n + 1) xs]; rfl
theorem seqS_col (ns : List Int) (k : Kd) : seqS (eCol ns) k = true := by show (noLs (ns.map .int) || stK k) = true; rw [noLs_ints]; rfl
theorem seqS_mid (ps : List (Int × Int)) (k : Kd) : seqS (eMid ps) k = true := by show (noLs (ps.map eF) || stK k) = true; rw [noLs_mid]; rfl
theorem plus_call {p q : Int × Int} {c : Nat} {P : D → Nat → Prop} (hp : BF 3000 p) (hq : BF 3000 q) (h : P (eF (addF p q)) c) : ∃ a, S_plus.args a = [eF p, eF q] ∧ S_plus.pre a c ∧ ∀ d c', S_plus.res a c d c' → P d c' :=
  ⟨(p, q), rfl, ⟨hp.1, hq.1, hp.2.1, hp.2.2, hq.2.1, hq.2.2⟩, fun d c' ⟨e1, e2⟩ => by rw [e1, e2]; exact h⟩
theorem times_call {p q : Int × Int} {c : Nat} {P : D → Nat → Prop} (hp : BF 3000 p) (hq : BF 3000 q) (h : P (eF (mulF p q)) c) : ∃ a, S_times.args a = [eF p, eF q] ∧ S_times.pre a c ∧ ∀ d c', S_times.res a c d c' → P d c' :=
  ⟨(p, q), rfl, ⟨hp.1, hq.1, hp.2.1, hp.2.2, hq.2.1, hq.2.2⟩, fun d c' ⟨e1, e2⟩ => by rw [e1, e2]; exact h⟩
theorem before_call {p q : Int × Int} {c : Nat} {P : D → Nat → Prop} (hp : BF 3900 p) (hq : BF 3900 q) (h : P (.bl (lessF p q)) c) : ∃ a, S_before.args a = [eF p, eF q] ∧ S_before.pre a c ∧ ∀ d c', S_before.res a c d c' → P d c' :=
  ⟨(p, q), rfl, ⟨hp.2.1, hp.2.2, hq.2.1, hq.2.2⟩, fun d c' ⟨e1, e2⟩ => by rw [e1, e2]; exact h⟩
def S_far : FS (List Int × List (Int × Int)) where
  ks := [.nl, .nl]
  args p := [eCol p.1, eMid p.2]
  pre p c := ColB p.1 ∧ MidOk p.2
  res p c d c' := d = eF (farI p.1 p.2) ∧ c' = c
theorem far_call {q : List Int} {m : List (Int × Int)} {c : Nat} {P : D → Nat → Prop} (hq : ColB q) (hm : MidOk m) (h : P (eF (farI q m)) c) : ∃ a, S_far.args a = [eCol q, eMid m] ∧ S_far.pre a c ∧ ∀ d c', S_far.res a c d c' → P d c' :=
  ⟨(q, m), rfl, ⟨hq, hm⟩, fun d c' ⟨e1, e2⟩ => by rw [e1, e2]; exact h⟩
theorem farI_BF {q : List Int} {m : List (Int × Int)} (hq : ColB q) (hm : MidOk m) : BF 2000 (farI q m) := by
  have hl : (q.zip m).length ≤ 5 := by rw [List.length_zip]; have := hq.1; omega
  have := farL_BF (xs := q.zip m) (fun x h => ⟨hq.2 _ (List.of_mem_zip h).1, hm.2 _ (List.of_mem_zip h).2⟩) 5
  rw [List.take_of_length_le hl] at this
  exact this.mono (by decide)
/-- the first of the least, by lessF -/
def firstLeast (fs : List (Int × Int)) : Nat → Nat
  | 0 => 0
  | i + 1 => if lessF (fs.getD i (0, 1)) (fs.getD (firstLeast fs i) (0, 1)) = true then i else firstLeast fs i
theorem firstLeast_lt (fs : List (Int × Int)) : ∀ n, n ≤ fs.length → 0 < fs.length → firstLeast fs n < fs.length
  | 0, _, h => h
  | n + 1, hn, h => by
    unfold firstLeast
    split
    · omega
    · exact firstLeast_lt fs n (by omega) h
noncomputable def nearM (q : List Int) (ms : List (List (Int × Int))) : Nat := firstLeast (ms.map fun m => farI q m) ms.length
def S_nearM : FS (List (List (Int × Int)) × List Int) where
  ks := [.sh, .nl]
  args p := [.lst (p.1.map eMid), eCol p.2]
  pre p c := 0 < p.1.length ∧ p.1.length ≤ 1000 ∧ (∀ m ∈ p.1, MidOk m) ∧ ColB p.2
  res p c d c' := d = .int (nearM p.2 p.1) ∧ c' = c
theorem nearM_call {q : List Int} {ms : List (List (Int × Int))} {c : Nat} {P : D → Nat → Prop} (h0 : 0 < ms.length) (h1 : ms.length ≤ 1000) (hm : ∀ m ∈ ms, MidOk m) (hq : ColB q) (h : P (.int (nearM q ms)) c) : ∃ a, S_nearM.args a = [.lst (ms.map eMid), eCol q] ∧ S_nearM.pre a c ∧ ∀ d c', S_nearM.res a c d c' → P d c' :=
  ⟨(ms, q), rfl, ⟨h0, h1, hm, hq⟩, fun d c' ⟨e1, e2⟩ => by rw [e1, e2]; exact h⟩
theorem seqD_mids (ms : List (List (Int × Int))) : seqD (.lst (ms.map eMid)) = some (ms.map eMid) := rfl
theorem noLs_mids (ms : List (List (Int × Int))) : noLs (ms.map eMid) = true := noLs_map noL_mid ms
/-- .. handed in the other way about -/
def S_farL : FS (List Int × List (Int × Int)) where
  ks := [.nl, .nl]
  args p := [eMid p.2, eCol p.1]
  pre p c := ColB p.1 ∧ MidOk p.2
  res p c d c' := d = eF (farI p.1 p.2) ∧ c' = c
theorem farL_call {q : List Int} {m : List (Int × Int)} {c : Nat} {P : D → Nat → Prop} (hq : ColB q) (hm : MidOk m) (h : P (eF (farI q m)) c) : ∃ a, S_farL.args a = [eMid m, eCol q] ∧ S_farL.pre a c ∧ ∀ d c', S_farL.res a c d c' → P d c' :=
  ⟨(q, m), rfl, ⟨hq, hm⟩, fun d c' ⟨e1, e2⟩ => by rw [e1, e2]; exact h⟩
theorem zip_flip {α β : Type} (g : α × β → D) (xs : List α) (ys : List β) : (xs.zip ys).map g = (ys.zip xs).map fun p => g (p.2, p.1) := by
  rw [List.zip, List.zip, List.map_zipWith, List.map_zipWith, List.zipWith_comm]
theorem zipIdx_get {α : Type} {xs : List α} {i j : Nat} {x : α} (h : xs.zipIdx[i]? = some (x, j)) : i = j ∧ i < xs.length ∧ xs[i]? = some x := by
  rw [List.getElem?_zipIdx] at h
  cases hx : xs[i]? with
  | none => rw [hx] at h; cases h
  | some y =>
    rw [hx] at h
    simp at h
    exact ⟨by omega, (List.getElem?_eq_some_iff.mp hx).1, by rw [h.1]⟩
theorem atI_getD {α : Type} {xs : List α} {i : Nat} (h : i < xs.length) (d : α) : atI xs ((i : Nat) : Int) = some (xs.getD i d) := by
  refine atI_nat ?_
  rw [List.getD_eq_getElem?_getD, List.getElem?_eq_getElem h]; rfl
def MidK (k : Nat) (m : List (Int × Int)) : Prop := m.length ≤ 5 ∧ ∀ p ∈ m, BF k p
theorem MidK.ok {k : Nat} {m : List (Int × Int)} (h : MidK k m) (hk : k ≤ 100) : MidOk m := ⟨h.1, fun p hp => (h.2 p hp).mono (Nat.le_trans hk (by decide))⟩
theorem ColA.b {w : Int} {q : List Int} (h : ColA w q) (hw : w ≤ 5) : ColB q := ⟨by have := h.1; omega, fun n hn => by have := h.2 n hn; omega⟩
def S_number : FS Int where
  ks := [.nl, .nl]
  args s := [.gen, .int s]
  pre s c := 1 ≤ s ∧ s ≤ 1000 ∧ c + 10 < LIM
  res s c d c' := ∃ p : Int × Int, d = eF p ∧ BF 75 p ∧ -10000 ≤ p.1 / p.2 ∧ p.1 / p.2 ≤ 10000 ∧ c ≤ c' ∧ c' ≤ c + 10
/-- middles as they are drawn -/
def MidD (w : Int) (m : List (Int × Int)) : Prop := (m.length : Int) = w ∧ ∀ p ∈ m, BF 75 p ∧ -10000 ≤ p.1 / p.2 ∧ p.1 / p.2 ≤ 10000
theorem MidD.ok {w : Int} {m : List (Int × Int)} (h : MidD w m) (hw : w ≤ 5) : MidK 75 m := ⟨by have := h.1; omega, fun p hp => (h.2 p hp).1⟩
def S_middles : FS (Int × Int) where
  ks := [.nl, .nl]
  args p := [.gen, .tup [.int p.1, .int p.2]]
  pre p c := 1 ≤ p.1 ∧ p.1 ≤ 5 ∧ 1 ≤ p.2 ∧ p.2 ≤ 1000 ∧ c + 1000 < LIM
  res p c d c' := ∃ ms : List (List (Int × Int)), d = .lst (ms.map eMid) ∧ 1 ≤ ms.length ∧ ms.length ≤ 12 ∧ (∀ m ∈ ms, MidD p.1 m) ∧ c ≤ c' ∧ c' ≤ c + 1000
def S_mirrored : FS (List Int × List (Int × Int)) where
  ks := [.nl, .nl]
  args p := [eMid p.2, eCol p.1]
  pre p c := ColA p.1.length p.1 ∧ p.1.length ≤ 5 ∧ MidK 75 p.2
  res p c d c' := ∃ m, d = eMid m ∧ MidK 100 m ∧ c' = c
theorem Low.ratio {t b : Int} {p : Int × Int} (h : Low t b p) (hb : 0 < b) : p.1 / p.2 = t / b := by
  obtain ⟨h1, h2, _⟩ := h
  have e1 : p.1 / p.2 = (p.1 * b) / (p.2 * b) := (Int.mul_ediv_mul_of_pos_left p.1 p.2 hb).symm
  have e2 : t / b = (t * p.2) / (b * p.2) := (Int.mul_ediv_mul_of_pos_left t b h1).symm
  rw [e1, e2, h2, Int.mul_comm p.2 b]
theorem number_call {s : Int} {c : Nat} {P : D → Nat → Prop} (h : 1 ≤ s ∧ s ≤ 1000) (hc : c + 10 < LIM) (hP : ∀ (p : Int × Int) c', BF 75 p → -10000 ≤ p.1 / p.2 → p.1 / p.2 ≤ 10000 → c ≤ c' → c' ≤ c + 10 → P (eF p) c') : ∃ a, S_number.args a = [.gen, .int s] ∧ S_number.pre a c ∧ ∀ d c', S_number.res a c d c' → P d c' :=
  ⟨s, rfl, ⟨h.1, h.2, hc⟩, fun d c' ⟨p, e, h1, h2, h3, h4, h5⟩ => by subst e; exact hP p c' h1 h2 h3 h4 h5⟩
theorem middles_call {w s : Int} {c : Nat} {P : D → Nat → Prop} (h : 1 ≤ w ∧ w ≤ 5 ∧ 1 ≤ s ∧ s ≤ 1000) (hc : c + 1000 < LIM) (hP : ∀ (ms : List (List (Int × Int))) c', 1 ≤ ms.length → ms.length ≤ 12 → (∀ m ∈ ms, MidD w m) → c ≤ c' → c' ≤ c + 1000 → P (.lst (ms.map eMid)) c') : ∃ a, S_middles.args a = [.gen, .tup [.int w, .int s]] ∧ S_middles.pre a c ∧ ∀ d c', S_middles.res a c d c' → P d c' :=
  ⟨(w, s), rfl, ⟨h.1, h.2.1, h.2.2.1, h.2.2.2, hc⟩, fun d c' ⟨ms, e, h1, h2, h3, h4, h5⟩ => by subst e; exact hP ms c' h1 h2 h3 h4 h5⟩
/-- a loop whose number of turns is drawn -/
theorem rFor_drawn {ri : RI} {rg : RG} {rb : RS} {Dd : EndsD} {Γ : GE} {c : Nat} (n0 k0 k : Nat) (R : Nat → Prop) (M : Nat → GE → Prop)
    (hi : ∀ P : List D → Bool → Bool → Nat → Prop, (∀ n c1, R n → n ≤ n0 → c ≤ c1 → c1 ≤ c + k0 → P (intsFrom 0 n) true true c1) → ri Γ c P) (h0 : M 0 Γ)
    (hs : ∀ (n i : Nat) Γ' c', R n → i < n → M i Γ' → c ≤ c' → c' + k ≤ c + k0 + n0 * k → ∀ f : GE → Nat → Prop, (∀ Γ2 c2, M (i + 1) Γ2 → c' ≤ c2 → c2 ≤ c' + k → f Γ2 c2) → rg (.int i) (.R []) Γ' fun Γ2 => rb { Dd with nx := f, ct := f, bk := Dd.nx } Γ2 c')
    (h : ∀ n Γ' c', R n → M n Γ' → c ≤ c' → c' ≤ c + k0 + n0 * k → Dd.nx Γ' c') : rFor ri rg rb Dd Γ c := by
  refine hi _ fun n c1 hR hn h1 h2 => ⟨rfl, fun i Γ' c' => M i Γ' ∧ c1 ≤ c' ∧ c' ≤ c1 + i * k, ⟨h0, Nat.le_refl _, by omega⟩, ?_, ?_⟩
  · rintro i d Γ' c' hd ⟨hM, h3, h4⟩
    obtain ⟨hi, rfl⟩ := intsFrom_get hd
    rw [Int.zero_add]
    have hk : i * k + k ≤ n0 * k := by
      have := Nat.mul_le_mul_right k (show i + 1 ≤ n0 by omega)
      rw [Nat.succ_mul] at this; exact this
    refine hs n i Γ' c' hR hi hM (by omega) (by omega) _ fun Γ2 c2 hM2 h5 h6 => ⟨hM2, by omega, ?_⟩
    rw [Nat.succ_mul]; omega
  · rintro Γ' c' ⟨hM, h3, h4⟩
    rw [show (intsFrom 0 n).length = n from rng_len n] at hM h4
    have := Nat.mul_le_mul_right k hn
    exact h n Γ' c' hR hM (by omega) (by omega)
theorem okD_mids {ms : List (List (Int × Int))} (hl : ms.length ≤ 1000000) (h : ∀ m ∈ ms, m.length ≤ 1000000) : okD (.lst (ms.map eMid)) = true :=
  okD_lst (by rw [List.length_map]; exact hl) (okDs_map ms fun m hm => okD_mid (h m hm))
theorem dep_mids (ms : List (List (Int × Int))) : dep (.lst (ms.map eMid)) ≤ 3 := by
  show deps (ms.map eMid) + 1 ≤ 3
  have := deps_map (f := eMid) (k := 2) ms fun m _ => dep_mid m
  omega
theorem eqOk_mids {ms : List (List (Int × Int))} (hl : ms.length ≤ 1000000) (h : ∀ m ∈ ms, m.length ≤ 1000000) : EqOk (.lst (ms.map eMid)) := eqOk_of (okD_mids hl h) (Nat.le_trans (dep_mids ms) (by decide))
theorem MidD.len {w : Int} {m : List (Int × Int)} (h : MidD w m) (hw : w ≤ 5) : m.length ≤ 1000000 := by have := h.1; omega
theorem nbD_mid (ps : List (Int × Int)) : nbD (eMid ps) = true := nbDs_map (fun _ => rfl) ps
theorem nbD_mids (ms : List (List (Int × Int))) : nbD (.lst (ms.map eMid)) = true := nbDs_map nbD_mid ms
theorem noLs_mapA {α : Type} {f : α → D} : ∀ xs : List α, noLs (xs.map f) = xs.all fun x => noL (f x)
  | [] => rfl
  | x :: r => by show (noL (f x) && noLs (r.map f)) = _; rw [noLs_mapA r]; rfl
theorem mirrored_call {w : Int} {q : List Int} {m : List (Int × Int)} {c : Nat} {P : D → Nat → Prop} (hq : ColA w q) (hw : w ≤ 5) (hm : MidK 75 m) (h : ∀ m', MidK 100 m' → P (eMid m') c) : ∃ a, S_mirrored.args a = [eMid m, eCol q] ∧ S_mirrored.pre a c ∧ ∀ d c', S_mirrored.res a c d c' → P d c' :=
  ⟨(q, m), rfl, ⟨⟨rfl, hq.2⟩, by have := hq.1; show q.length ≤ 5; omega, hm⟩, fun d c' ⟨m', e1, e2, e3⟩ => by rw [e1, e3]; exact h m' e2⟩
end DL
namespace DL
open PySem PySem.Spec L2

/-! ### one of some written ones: [a, b, c][k] -/
def rPick (ra : RA) (re : RE) : RE := fun Γ c Q => ra Γ c fun dks c1 => dks.length ≤ 1000 ∧ re Γ c1 fun y _ c2 => match y with
  | .int n => ∃ p, atI dks n = some p ∧ Q p.1 p.2 c2
  | _ => False
section
variable {K : PySem.W.Frag} {B : Bx} {Γ : GE} {σ σ' : L2.St} {Hs H H' : Hp} {c c' : Nat} {fp : List Addr} {k : Kd} {d e : D} {v u : V} {ds : List D} {vs : List V} {sk : SK} {i : Nat} {dks : List DK}
theorem Args.get (x : Args K B Hs H dks vs fp) : ∀ {j : Nat} {p : DK}, dks[j]? = some p → ∃ v f, vs[j]? = some v ∧ RpG K B.F B.G H p.1 v f ∧ (∀ a ∈ f, ¬ B.G a) ∧ KOk B Hs f p.2 := by
  induction x with
  | nil => intro j p h; simp at h
  | cons r n k d t ih =>
    intro j p h
    cases j with
    | zero => cases h; exact ⟨_, _, rfl, r, n, k⟩
    | succ j => exact ih (j := j) h
theorem ed_pick {ta : TA} {te : TE} {ra : RA} {re : RE} (ha : AD K ta ra) (he : ED K te re) : ED K (tOp (rIxA K) (tLst ta) te) (rPick ra re) := by
  intro B Γ c σ H Qd Q E h f
  refine ha B Γ c σ H _ _ E h fun vs H1 dks c1 fp e1 g1 ar q => ?_
  obtain ⟨hl, q⟩ := q
  refine ⟨by rw [ar.length]; exact line1000 hl, fun p hp => ?_⟩
  have s1 := same_upd (o := .lst vs) hp
  have ex1 : Ext B.G H (upd H1 p (.lst vs)) := e1.trans (Ext.same s1)
  have gn1 : GensOk B.G (upd H1 p (.lst vs)) c1 := g1.same s1
  have E1 := E.ext ex1 gn1
  have np : ¬ B.G p := fun z => by
    obtain ⟨o, e, _⟩ := g1.lsts p z
    rw [hp] at e; cases e
  refine he B Γ c1 σ _ _ _ E1 q fun y H2 dy ky c2 x2 q => ?_
  split at q
  · rename_i n
    obtain ⟨⟨d, k⟩, hj, q⟩ := q
    obtain ⟨fy, ry, _⟩ := x2.rp
    have ep : H2 p = some (.lst vs) := x2.ext p _ upd_same np
    unfold atI at hj
    cases ej : ixN dks.length n with
    | none => rw [ej] at hj; cases hj
    | some j =>
      rw [ej] at hj
      have hj : dks[j]? = some (d, k) := hj
      obtain ⟨v, f1, hv, rv, ng, ok⟩ := ar.get hj
      refine .inl <| .inl ⟨p, vs, n, v, rfl, ry.int, SqL.of ep, by unfold atI; rw [ar.length, ej]; exact hv, ?_⟩
      refine f v H2 d k c2 ⟨ex1.trans x2.ext, x2.gens, f1, ?_, ng, ok⟩ q
      exact (rv.ext g1.lsts E.fg (Ext.same s1) ng).ext gn1.lsts E.fg x2.ext ng
  · exact q.elim

/-! ### list(range(..)) -/
def rLRng1 (re : RE) : RE := fun Γ c Q => re Γ c fun d _ c1 => match d with
  | .int n => -1000000 ≤ n ∧ n ≤ 1000000 ∧ Q (.lst (intsFrom 0 n.toNat)) (.R []) c1
  | _ => False
def rLRng2 (ra rb : RE) : RE := fun Γ c Q => ra Γ c fun x _ c1 => rb Γ c1 fun y _ c2 => match x, y with
  | .int m, .int n => -100000000 ≤ m ∧ m ≤ 100000000 ∧ -100000000 ≤ n ∧ n ≤ 100000000 ∧ n - m ≤ 1000000 ∧ Q (.lst (intsFrom m (n - m).toNat)) (.R []) c2
  | _, _ => False
theorem rps_rng {F : Addr → Prop} (lo : Int) (n : Nat) : Rps K F H (intsFrom lo n) ((List.range n).map fun i => V.int (lo + (i : Nat))) [] := by
  have : intsFrom lo n = ((List.range n).map fun i => lo + ((i : Nat) : Int)).map D.int := by unfold intsFrom; rw [List.map_map]; rfl
  rw [this]
  have e2 : ((List.range n).map fun i => V.int (lo + (i : Nat))) = ((List.range n).map fun i => lo + ((i : Nat) : Int)).map V.int := by rw [List.map_map]; rfl
  rw [e2]
  exact rps_of_ints
theorem ed_lrng1 {te : TE} {re : RE} (he : ED K te re) : ED K (tLstRg (tRg1 te)) (rLRng1 re) := by
  intro B Γ c σ H Qd Q E h f
  refine he B Γ c σ H _ _ E h fun x H1 d k c1 x1 q => ?_
  split at q
  · rename_i n
    obtain ⟨h1, h2, q⟩ := q
    obtain ⟨fx, rx, _⟩ := x1.rp
    refine ⟨n, rx.int, ⟨by omega, by omega, by omega, by omega, by omega⟩, fun p hp => ?_⟩
    refine f _ _ _ _ c1 (At.newL ⟨⟨Γ, σ, c, E⟩, x1.ext, x1.gens⟩ hp ?_ (fun _ h => absurd h List.not_mem_nil) kok0) q
    unfold rgV
    rw [Int.sub_zero]
    exact rps_rng 0 n.toNat
  · exact q.elim
theorem ed_lrng2 {ta tb : TE} {ra rb : RE} (ha : ED K ta ra) (hb : ED K tb rb) : ED K (tLstRg (tRg2 ta tb)) (rLRng2 ra rb) := by
  intro B Γ c σ H Qd Q E h f
  refine ha B Γ c σ H _ _ E h fun x H1 d k c1 x1 q => ?_
  have E1 := E.ext x1.ext x1.gens
  refine hb B Γ c1 σ H1 _ _ E1 q fun y H2 d2 k2 c2 x2 q => ?_
  split at q
  · rename_i m n _
    obtain ⟨h1, h2, h3, h4, h5, q⟩ := q
    obtain ⟨fx, rx, _⟩ := x1.rp
    obtain ⟨fy, ry, _⟩ := x2.rp
    refine ⟨m, n, rx.int, ry.int, ⟨by omega, by omega, by omega, by omega, by omega⟩, fun p hp => ?_⟩
    refine f _ _ _ _ c2 (At.newL ⟨⟨Γ, σ, c, E⟩, x1.ext.trans x2.ext, x2.gens⟩ hp ?_ (fun _ h => absurd h List.not_mem_nil) kok0) q
    unfold rgV
    exact rps_rng m (n - m).toNat
  · exact q.elim

/-! ### xs[i] = v at a place -/
def rpSet (rp : RP) (i : Nat) (rix re : RE) : RS := fun Dd Γ c => re Γ c fun e k c0 => rp Γ c0 fun d put sk c1 => rix Γ c1 fun y _ c2 => match d, y with
  | .lst ds, .int n => e ≠ .gen ∧ ∃ j, ixN ds.length n = some j ∧ IntoOk Γ i e k fun Γ' => Dd.nx (gset Γ' i (some ⟨sk, put (.lst (ds.set j e))⟩)) c2
  | _, _ => False
theorem sd_pset {t tx te : TE} {rp : RP} {rix re : RE} (hp : PD K i t rp) (hx : ED K tx rix) (he : ED K te re) : SD K (tAsg te (gSub t tx rSetL)) (rpSet rp i rix re) := by
  intro en hd Dd D L B Γ c σ H h1 h3 E q
  refine he B Γ c σ H _ _ E q fun w H1 e k c1 x q => ?_
  have E1 := E.ext x.ext x.gens
  refine hp B Γ c1 σ H1 _ _ E1 q fun u H2 d put sk c2 e2 g2 p2 q => ?_
  have E2 := E1.ext e2 g2
  refine hx B Γ c2 σ H2 _ _ E2 q fun y H3 dy ky c3 x3 q => ?_
  have E3 := E2.ext x3.ext x3.gens
  have p3 := p2.ext E2 x3.ext
  split at q
  · rename_i ds n _
    obtain ⟨ne, j, hj, q⟩ := q
    obtain ⟨fy, ry, _⟩ := x3.rp
    obtain ⟨a, vs, f, rfl, ea, rs, nd, of, oa, mk⟩ := p3.lst E3
    obtain ⟨fe, re, nge, ok⟩ := x.rp
    have re := re.rp ne
    obtain ⟨is, inc, pq⟩ := into_inc E re nge ok q
    have inc3 : Inc B H3 i is fe := ⟨inc.ni, inc.nd, inc.ok, inc.no⟩
    have re3 : Rp K B.F H3 e w fe := (re.ext x.gens.lsts E.fg e2 nge).ext g2.lsts E.fg x3.ext nge
    have hlt : j < ds.length := (ixN_seq hj).2.1
    obtain ⟨v0, f1, f0, f2, hv0, rv0, rfl, cl⟩ := rs.get3 (List.getElem?_eq_getElem hlt)
    have rs' := cl H3 e w fe (fun _ _ _ _ r => r) re3
    have n1 := List.nodup_append.mp (List.nodup_cons.mp nd).2
    have n2 := List.nodup_append.mp n1.2.1
    obtain ⟨B', b1, b3, _⟩ := mk (ds.set j e) (vs.set j w) (f1 ++ (fe ++ f2)) fe is inc3 (fun x hx => let ⟨o, z, _⟩ := re3.at x hx; ⟨o, z⟩) rs'
      (List.nodup_append.mpr ⟨n1.1, List.nodup_append.mpr ⟨inc.nd, n2.2.1, fun x hx y hy z => inc.no x hx (z ▸ of y (List.mem_append_right _ (List.mem_append_right _ hy)))⟩, fun x hx y hy z => by
        subst z
        rcases List.mem_append.mp hy with hy | hy
        · exact inc.no x hy (of x (List.mem_append_left _ hx))
        · exact n1.2.2 x hx x (List.mem_append_right _ hy) rfl⟩)
      (fun x hx => by
        rcases List.mem_append.mp hx with hx | hx
        · exact .inl (List.mem_append_left _ hx)
        · rcases List.mem_append.mp hx with hx | hx
          · exact .inr hx
          · exact .inl (List.mem_append_right _ (List.mem_append_right _ hx)))
    obtain ⟨w1, w3⟩ := b1.to h1 h3
    exact ⟨a, vs, n, j, rfl, ry.int, ea, by rw [rs.length]; exact hj, L.nx B' _ c3 σ _ w1 w3 b3 pq⟩
  · exact q.elim
end

theorem cmb_RR : cmb (.R []) (.R []) = .R [] := rfl
theorem cmb_SS : cmb .S .S = .S := rfl
theorem cmb_RS : cmb (.R []) .S = .S := rfl
theorem cmb_SR : cmb .S (.R []) = .S := rfl
theorem cmbs_S {d : D} {r : List DK} : cmbs ((d, .S) :: r) = cmb .S (cmbs r) := rfl
/-! ### a, b = x, y: lists too, new or shared -/
def kk (d : D) (k : Kd) : Kd := if noL d = true then .R [] else k
def rParR (i j : Nat) (ra : RA) : RS := fun Dd Γ c => ra Γ c fun dks c1 => match dks with
  | [(d1, k1), (d2, k2)] => stK0 (cmb (kk d1 k1) (kk d2 k2)) = true ∧ StoreOk Γ i d1 (cmb (kk d1 k1) (kk d2 k2)) fun Γ' => StoreOk Γ' j d2 (cmb (kk d1 k1) (kk d2 k2)) fun Γ'' => Dd.nx Γ'' c1
  | _ => False
section
variable {K : PySem.W.Frag} {B : Bx} {H : Hp} {f g : List Addr} {k : Kd}
theorem kk_ok {d : D} {v : V} {F G : Addr → Prop} (r : RpG K F G H d v f) (ok : KOk B H f k) {Hs : Hp} (e : Hs = H) : KOk B H f (kk d k) := by
  unfold kk
  split
  · rename_i n
    have z : f = [] := r.elim (fun r => r.nol n) fun r => r.2.1
    subst z
    exact kok0
  · exact ok
theorem kk_ok2 {d : D} {v : V} {F G : Addr → Prop} {H' : Hp} (r : RpG K F G H' d v f) (ok : KOk B H f k) : KOk B H f (kk d k) := by
  unfold kk
  split
  · rename_i n
    have z : f = [] := r.elim (fun r => r.nol n) fun r => r.2.1
    subst z
    exact kok0
  · exact ok
theorem sd_parR (i j : Nat) {ta : TA} {ra : RA} (ha : AD K ta ra) : SD K (tPar i j ta) (rParR i j ra) := by
  intro en hd Dd D L B Γ c σ H h1 h3 E q
  refine ha B Γ c σ H _ _ E q fun vs H1 dks c1 fp e g ar q => ?_
  have E1 := E.ext e g
  split at q
  · obtain ⟨hk, q⟩ := q
    obtain ⟨x, y, rfl, a2⟩ := ar.pair
    obtain ⟨f1, f2, rfl, r1, r2, g1, g2, o1, o2, cr⟩ := a2.one2
    refine ⟨x, y, rfl, ?_⟩
    have ok := cmb_ok (kk_ok2 r1 o1) (kk_ok2 r2 o2) cr E
    have st := ok.st E fun a ha => (List.mem_append.mp ha).elim (g1 a) (g2 a)
    obtain ⟨B1, Γ1, l1, E2, p1, so1⟩ := E1.store (i := i) r1 st.left q
    rw [← l1.G] at r2
    have r2 := r2.monoF so1.2.2
    obtain ⟨B2, Γ2, l2, E3, p2, _, _⟩ := E2.store (i := j) r2 (so1.1 _ st) p1
    obtain ⟨w1, w3⟩ := (l1.trans l2).to h1 h3
    exact L.nx B2 _ c1 _ H1 w1 w3 E3 p2
  · exact q.elim
end
end DL
namespace DL
open PySem PySem.Spec L2

theorem atI_zero {α : Type} {x : α} {xs : List α} : atI (x :: xs) 0 = some x := by
  unfold atI ixN
  rw [if_pos (by decide), if_pos (by rw [List.length_cons]; omega)]; rfl
/-! ### least and greatest of a row -/
def lmin : List Int → Int
  | [] => 0
  | a :: r => r.foldl min a
def lmax : List Int → Int
  | [] => 0
  | a :: r => r.foldl max a
theorem foldl_min (r : List Int) : ∀ a : Int, (r.foldl min a = a ∨ r.foldl min a ∈ r) ∧ r.foldl min a ≤ a ∧ ∀ y ∈ r, r.foldl min a ≤ y := by
  induction r with
  | nil => exact fun a => ⟨.inl rfl, Int.le_refl _, fun _ h => nomatch h⟩
  | cons b r ih =>
    intro a
    rw [List.foldl_cons]
    obtain ⟨h1, h2, h3⟩ := ih (min a b)
    have l1 : min a b ≤ a := Int.min_le_left a b
    have l2 : min a b ≤ b := Int.min_le_right a b
    refine ⟨?_, Int.le_trans h2 l1, fun y hy => ?_⟩
    · rcases h1 with h1 | h1
      · rw [h1]
        by_cases h : a ≤ b
        · exact .inl (Int.min_eq_left h)
        · exact .inr (by rw [Int.min_eq_right (by omega)]; exact List.mem_cons_self)
      · exact .inr (List.mem_cons_of_mem _ h1)
    · rcases List.mem_cons.mp hy with rfl | hy
      · exact Int.le_trans h2 l2
      · exact h3 y hy
theorem foldl_max (r : List Int) : ∀ a : Int, (r.foldl max a = a ∨ r.foldl max a ∈ r) ∧ a ≤ r.foldl max a ∧ ∀ y ∈ r, y ≤ r.foldl max a := by
  induction r with
  | nil => exact fun a => ⟨.inl rfl, Int.le_refl _, fun _ h => nomatch h⟩
  | cons b r ih =>
    intro a
    rw [List.foldl_cons]
    obtain ⟨h1, h2, h3⟩ := ih (max a b)
    have l1 : a ≤ max a b := Int.le_max_left a b
    have l2 : b ≤ max a b := Int.le_max_right a b
    refine ⟨?_, Int.le_trans l1 h2, fun y hy => ?_⟩
    · rcases h1 with h1 | h1
      · rw [h1]
        by_cases h : b ≤ a
        · exact .inl (Int.max_eq_left h)
        · exact .inr (by rw [Int.max_eq_right (by omega)]; exact List.mem_cons_self)
      · exact .inr (List.mem_cons_of_mem _ h1)
    · rcases List.mem_cons.mp hy with rfl | hy
      · exact Int.le_trans l2 h2
      · exact h3 y hy
theorem lmin_mem {ns : List Int} (h : ns ≠ []) : lmin ns ∈ ns := by
  cases ns with
  | nil => exact absurd rfl h
  | cons a r =>
    rcases (foldl_min r a).1 with e | e
    · show r.foldl min a ∈ a :: r
      rw [e]; exact List.mem_cons_self
    · exact List.mem_cons_of_mem _ e
theorem lmin_le {ns : List Int} {y : Int} (h : y ∈ ns) : lmin ns ≤ y := by
  cases ns with
  | nil => cases h
  | cons a r =>
    rcases List.mem_cons.mp h with rfl | h
    · exact (foldl_min r _).2.1
    · exact (foldl_min r a).2.2 y h
theorem lmax_mem {ns : List Int} (h : ns ≠ []) : lmax ns ∈ ns := by
  cases ns with
  | nil => exact absurd rfl h
  | cons a r =>
    rcases (foldl_max r a).1 with e | e
    · show r.foldl max a ∈ a :: r
      rw [e]; exact List.mem_cons_self
    · exact List.mem_cons_of_mem _ e
theorem lmax_ge {ns : List Int} {y : Int} (h : y ∈ ns) : y ≤ lmax ns := by
  cases ns with
  | nil => cases h
  | cons a r =>
    rcases List.mem_cons.mp h with rfl | h
    · exact (foldl_max r _).2.1
    · exact (foldl_max r a).2.2 y h
theorem ne_of_mem {α : Type} {x : α} {xs : List α} (h : x ∈ xs) : xs ≠ [] := fun e => by rw [e] at h; cases h
theorem lmin_eq {ns : List Int} {m : Int} (h : m ∈ ns) (h2 : ∀ y, y ∈ ns → m ≤ y) : m = lmin ns := Int.le_antisymm (h2 _ (lmin_mem (ne_of_mem h))) (lmin_le h)
theorem lmax_eq {ns : List Int} {m : Int} (h : m ∈ ns) (h2 : ∀ y, y ∈ ns → y ≤ m) : m = lmax ns := Int.le_antisymm (lmax_ge h) (h2 _ (lmax_mem (ne_of_mem h)))
/-! ### boxes -/
def eBox (lo hi : List Int) : D := .tup [eCol lo, eCol hi]
theorem noL_box (lo hi : List Int) : noL (eBox lo hi) = true := by
  show (noL (eCol lo) && (noL (eCol hi) && true)) = true
  rw [noL_col, noL_col]; rfl
theorem nsD_box (lo hi : List Int) : nsD (eBox lo hi) = true := nsD_of (noL_box lo hi)
def plc (p : Nat) (cs : List (List Int)) : List Int := cs.map fun c => c.getD p 0
def bxLo (w : Nat) (cs : List (List Int)) : List Int := (List.range w).map fun p => lmin (plc p cs)
def bxHi (w : Nat) (cs : List (List Int)) : List Int := (List.range w).map fun p => lmax (plc p cs)
theorem bxLo_len (w : Nat) (cs : List (List Int)) : (bxLo w cs).length = w := by unfold bxLo; rw [List.length_map, List.length_range]
theorem bxHi_len (w : Nat) (cs : List (List Int)) : (bxHi w cs).length = w := by unfold bxHi; rw [List.length_map, List.length_range]
theorem bxLo_get {w p : Nat} {cs : List (List Int)} (h : p < w) : (bxLo w cs)[p]? = some (lmin (plc p cs)) := by
  unfold bxLo
  rw [List.getElem?_map, List.getElem?_range h]; rfl
theorem bxHi_get {w p : Nat} {cs : List (List Int)} (h : p < w) : (bxHi w cs)[p]? = some (lmax (plc p cs)) := by
  unfold bxHi
  rw [List.getElem?_map, List.getElem?_range h]; rfl
theorem bxLo_getD {w p : Nat} {cs : List (List Int)} (h : p < w) : (bxLo w cs).getD p 0 = lmin (plc p cs) := by rw [List.getD_eq_getElem?_getD, bxLo_get h]; rfl
theorem bxHi_getD {w p : Nat} {cs : List (List Int)} (h : p < w) : (bxHi w cs).getD p 0 = lmax (plc p cs) := by rw [List.getD_eq_getElem?_getD, bxHi_get h]; rfl
theorem bxLo_congr {w : Nat} {as bs : List (List Int)} (h : ∀ p, p < w → lmin (plc p as) = lmin (plc p bs)) : bxLo w as = bxLo w bs := List.map_congr_left fun p hp => h p (List.mem_range.mp hp)
theorem bxHi_congr {w : Nat} {as bs : List (List Int)} (h : ∀ p, p < w → lmax (plc p as) = lmax (plc p bs)) : bxHi w as = bxHi w bs := List.map_congr_left fun p hp => h p (List.mem_range.mp hp)
theorem bx_congr {w : Nat} {as bs : List (List Int)} (h : ∀ x, x ∈ as ↔ x ∈ bs) (hn : as ≠ []) : bxLo w as = bxLo w bs ∧ bxHi w as = bxHi w bs := by
  have hp : ∀ p x, x ∈ plc p as ↔ x ∈ plc p bs := fun p x => by
    unfold plc
    constructor
    · rintro hx; obtain ⟨c, hc, e⟩ := List.mem_map.mp hx; exact List.mem_map.mpr ⟨c, (h c).mp hc, e⟩
    · rintro hx; obtain ⟨c, hc, e⟩ := List.mem_map.mp hx; exact List.mem_map.mpr ⟨c, (h c).mpr hc, e⟩
  have hne : ∀ p, plc p as ≠ [] := fun p e => hn (List.map_eq_nil_iff.mp e)
  constructor
  · unfold bxLo
    exact List.map_congr_left fun p _ => lmin_eq ((hp p _).mp (lmin_mem (hne p))) fun y hy => lmin_le ((hp p y).mpr hy)
  · unfold bxHi
    exact List.map_congr_left fun p _ => lmax_eq ((hp p _).mp (lmax_mem (hne p))) fun y hy => lmax_ge ((hp p y).mpr hy)
theorem plc_ne {p : Nat} {cs : List (List Int)} (h : cs ≠ []) : plc p cs ≠ [] := fun e => h (List.map_eq_nil_iff.mp e)
theorem plc_mem {p : Nat} {cs : List (List Int)} {x : Int} : x ∈ plc p cs ↔ ∃ c ∈ cs, c.getD p 0 = x := List.mem_map
theorem lo_le_hi {p : Nat} {cs : List (List Int)} (h : cs ≠ []) : lmin (plc p cs) ≤ lmax (plc p cs) := lmax_ge (lmin_mem (plc_ne h))
/-- the box of two boxes is that of all -/
theorem bx_both {w : Nat} {as bs cs : List (List Int)} (ha : as ≠ []) (hb : bs ≠ []) (h : ∀ x, x ∈ cs ↔ x ∈ as ∨ x ∈ bs) :
    bxLo w [bxLo w as, bxHi w as, bxLo w bs, bxHi w bs] = bxLo w cs ∧ bxHi w [bxLo w as, bxHi w as, bxLo w bs, bxHi w bs] = bxHi w cs := by
  have e4 : ∀ p, p < w → plc p [bxLo w as, bxHi w as, bxLo w bs, bxHi w bs] = [lmin (plc p as), lmax (plc p as), lmin (plc p bs), lmax (plc p bs)] := fun p hp => by
    unfold plc
    simp only [List.map_cons, List.map_nil]
    rw [bxLo_getD hp, bxHi_getD hp, bxLo_getD hp, bxHi_getD hp]; rfl
  have hp : ∀ p x, x ∈ plc p cs ↔ x ∈ plc p as ∨ x ∈ plc p bs := fun p x => by
    rw [plc_mem, plc_mem, plc_mem]
    constructor
    · rintro ⟨c, hc, e⟩; exact ((h c).mp hc).imp (fun z => ⟨c, z, e⟩) fun z => ⟨c, z, e⟩
    · rintro (⟨c, hc, e⟩ | ⟨c, hc, e⟩)
      · exact ⟨c, (h c).mpr (.inl hc), e⟩
      · exact ⟨c, (h c).mpr (.inr hc), e⟩
  have mem4 : ∀ p x, x ∈ [lmin (plc p as), lmax (plc p as), lmin (plc p bs), lmax (plc p bs)] → x ∈ plc p cs := fun p x hx => by
    simp only [List.mem_cons, List.not_mem_nil, or_false] at hx
    rcases hx with rfl | rfl | rfl | rfl
    · exact (hp p _).mpr (.inl (lmin_mem (plc_ne ha)))
    · exact (hp p _).mpr (.inl (lmax_mem (plc_ne ha)))
    · exact (hp p _).mpr (.inr (lmin_mem (plc_ne hb)))
    · exact (hp p _).mpr (.inr (lmax_mem (plc_ne hb)))
  constructor
  · refine bxLo_congr fun p hw => lmin_eq ?_ fun y hy => ?_
    · rw [e4 p hw]
      exact mem4 p _ (lmin_mem (by simp))
    · rw [e4 p hw]
      rcases (hp p y).mp hy with hy | hy
      · exact Int.le_trans (lmin_le List.mem_cons_self) (lmin_le hy)
      · exact Int.le_trans (lmin_le (y := lmin (plc p bs)) (by simp)) (lmin_le hy)
  · refine bxHi_congr fun p hw => lmax_eq ?_ fun y hy => ?_
    · rw [e4 p hw]
      exact mem4 p _ (lmax_mem (by simp))
    · rw [e4 p hw]
      rcases (hp p y).mp hy with hy | hy
      · exact Int.le_trans (lmax_ge hy) (lmax_ge (y := lmax (plc p as)) (by simp))
      · exact Int.le_trans (lmax_ge hy) (lmax_ge (y := lmax (plc p bs)) (by simp))
def S_box : FS (Nat × List (List Int)) where
  ks := [.sh]
  args p := [.lst (p.2.map eCol)]
  pre p c := p.1 ≤ 1000 ∧ 1 ≤ p.2.length ∧ p.2.length ≤ 1000000 ∧ ∀ ns ∈ p.2, ns.length = p.1
  res p c r c' := r = eBox (bxLo p.1 p.2) (bxHi p.1 p.2) ∧ c' = c
theorem box_call {w : Nat} {cs : List (List Int)} {c : Nat} {P : D → Nat → Prop} (hw : w ≤ 1000) (h1 : 1 ≤ cs.length) (h2 : cs.length ≤ 1000000) (h3 : ∀ ns ∈ cs, ns.length = w) (h : P (eBox (bxLo w cs) (bxHi w cs)) c) :
    ∃ a, S_box.args a = [.lst (cs.map eCol)] ∧ S_box.pre a c ∧ ∀ d c', S_box.res a c d c' → P d c' := ⟨(w, cs), rfl, ⟨hw, h1, h2, h3⟩, by rintro d c' ⟨rfl, rfl⟩; exact h⟩
def S_bothB : FS (Nat × (List Int × List Int) × (List Int × List Int)) where
  ks := [.nl, .nl]
  args p := [eBox p.2.1.1 p.2.1.2, eBox p.2.2.1 p.2.2.2]
  pre p c := p.1 ≤ 1000 ∧ p.2.1.1.length = p.1 ∧ p.2.1.2.length = p.1 ∧ p.2.2.1.length = p.1 ∧ p.2.2.2.length = p.1
  res p c r c' := r = eBox (bxLo p.1 [p.2.1.1, p.2.1.2, p.2.2.1, p.2.2.2]) (bxHi p.1 [p.2.1.1, p.2.1.2, p.2.2.1, p.2.2.2]) ∧ c' = c
theorem bothB_call {w : Nat} {x y z u : List Int} {c : Nat} {P : D → Nat → Prop} (hw : w ≤ 1000) (h1 : x.length = w) (h2 : y.length = w) (h3 : z.length = w) (h4 : u.length = w) (h : P (eBox (bxLo w [x, y, z, u]) (bxHi w [x, y, z, u])) c) :
    ∃ a, S_bothB.args a = [eBox x y, eBox z u] ∧ S_bothB.pre a c ∧ ∀ d c', S_bothB.res a c d c' → P d c' := ⟨(w, (x, y), (z, u)), rfl, ⟨hw, h1, h2, h3, h4⟩, by rintro d c' ⟨rfl, rfl⟩; exact h⟩
def holdsB (lo q hi : List Int) : Bool := ((lo.zip (q.zip hi)).map fun p => decide (p.1 ≤ p.2.1) && decide (p.2.1 ≤ p.2.2)).all id
def S_holds : FS ((List Int × List Int) × List Int) where
  ks := [.nl, .nl]
  args p := [eBox p.1.1 p.1.2, eCol p.2]
  pre p c := p.2.length ≤ 1000000
  res p c r c' := r = .bl (holdsB p.1.1 p.2 p.1.2) ∧ c' = c
theorem holds_call {lo hi q : List Int} {c : Nat} {P : D → Nat → Prop} (hq : q.length ≤ 1000000) (h : P (.bl (holdsB lo q hi)) c) :
    ∃ a, S_holds.args a = [eBox lo hi, eCol q] ∧ S_holds.pre a c ∧ ∀ d c', S_holds.res a c d c' → P d c' := ⟨((lo, hi), q), rfl, hq, by rintro d c' ⟨rfl, rfl⟩; exact h⟩
def IsBox (d : D) (w : Int) : Prop := ∃ lo hi, d = eBox lo hi ∧ (lo.length : Int) = w ∧ (hi.length : Int) = w ∧ ∀ p ∈ lo.zip hi, p.1 ≤ p.2
def S_is_box : FS (D × Int) where
  ks := [.sh, .nl]
  args p := [p.1, .int p.2]
  pre p c := okD p.1 = true
  res p c r c' := ∃ b : Bool, r = .bl b ∧ (b = true ↔ IsBox p.1 p.2) ∧ c' = c
theorem is_box_call {d : D} {w : Int} {c : Nat} {P : D → Nat → Prop} (hd : okD d = true) (h : ∀ b : Bool, (b = true ↔ IsBox d w) → P (.bl b) c) :
    ∃ a, S_is_box.args a = [d, .int w] ∧ S_is_box.pre a c ∧ ∀ d c', S_is_box.res a c d c' → P d c' := ⟨(d, w), rfl, hd, by rintro d c' ⟨b, rfl, hb, rfl⟩; exact h b hb⟩
/-- one thing of a tuple another one -/
def S_put : FS ((List D × Nat) × D) where
  ks := [.sh, .nl, .sh]
  args p := [.tup p.1.1, .int (p.1.2 : Nat), p.2]
  pre p c := p.1.2 < p.1.1.length ∧ p.1.1.length ≤ 1000 ∧ nsDs p.1.1 = true ∧ nsD p.2 = true ∧ p.2 ≠ .gen
  res p c r c' := r = .tup (p.1.1.set p.1.2 p.2) ∧ c' = c
theorem put_call {ds : List D} {k : Nat} {d : D} {c : Nat} {P : D → Nat → Prop} (h1 : k < ds.length) (h2 : ds.length ≤ 1000) (h3 : nsDs ds = true) (h4 : nsD d = true) (h5 : d ≠ .gen) (h : P (.tup (ds.set k d)) c) :
    ∃ a, S_put.args a = [.tup ds, .int (k : Nat), d] ∧ S_put.pre a c ∧ ∀ d c', S_put.res a c d c' → P d c' := ⟨((ds, k), d), rfl, ⟨h1, h2, h3, h4, h5⟩, by rintro d c' ⟨rfl, rfl⟩; exact h⟩
theorem nsDs_append {xs ys : List D} : nsDs (xs ++ ys) = (nsDs xs && nsDs ys) := by
  induction xs with
  | nil => rw [List.nil_append]; show nsDs ys = (true && nsDs ys); rw [Bool.true_and]
  | cons x r ih => show (nsD x && nsDs (r ++ ys)) = ((nsD x && nsDs r) && nsDs ys); rw [ih, Bool.and_assoc]
theorem nsDs_iff {xs : List D} : nsDs xs = true ↔ ∀ x ∈ xs, nsD x = true := by
  induction xs with
  | nil => exact ⟨fun _ _ h => (nomatch h), fun _ => rfl⟩
  | cons x r ih =>
    show (nsD x && nsDs r) = true ↔ _
    rw [Bool.and_eq_true, ih]
    exact ⟨fun h y hy => (List.mem_cons.mp hy).elim (fun e => e ▸ h.1) (h.2 y), fun h => ⟨h x List.mem_cons_self, fun y hy => h y (List.mem_cons_of_mem _ hy)⟩⟩
theorem nsDs_set {xs : List D} {k : Nat} {d : D} (h : nsDs xs = true) (hd : nsD d = true) : nsDs (xs.set k d) = true := nsDs_iff.mpr fun y hy => (List.mem_or_eq_of_mem_set hy).elim (nsDs_iff.mp h y) fun e => e ▸ hd
theorem cutD_take {α : Type} {xs : List α} {k : Nat} (h : k ≤ xs.length) : cutD xs none (some (k : Nat)) = xs.take k := by
  unfold cutD
  have e1 : HT.sIx xs.length 0 none = 0 := rfl
  have e2 : HT.sIx xs.length xs.length (some ((k : Nat) : Int)) = k := by rw [HT.sIx_nat]; omega
  rw [e1, e2, List.drop_zero, Nat.sub_zero]
theorem cutD_drop {α : Type} {xs : List α} {k : Nat} (h : k ≤ xs.length) : cutD xs (some (k : Nat)) none = xs.drop k := by
  unfold cutD
  have e1 : HT.sIx xs.length 0 (some ((k : Nat) : Int)) = k := by rw [HT.sIx_nat]; omega
  have e2 : HT.sIx xs.length xs.length none = xs.length := rfl
  rw [e1, e2, ← List.length_drop, List.take_length]
theorem put_cut {α : Type} {ds : List α} {k : Nat} {d : α} (h : k < ds.length) : cutD ds none (some (k : Nat)) ++ [d] ++ cutD ds (some ((k : Int) + 1)) none = ds.set k d := by
  rw [show ((k : Int) + 1) = ((k + 1 : Nat) : Int) from rfl, cutD_take (by omega), cutD_drop (by omega), List.set_eq_take_append_cons_drop, if_pos h, List.append_assoc]; rfl
end DL
namespace DL
theorem isTup_of {d : D} (h : isTup d = true) : ∃ ds, d = .tup ds := by
  cases d with
  | tup ds => exact ⟨ds, rfl⟩
  | _ => cases h
theorem IsBox.tup {d : D} {w : Int} (h : IsBox d w) : isTup d = true := by
  obtain ⟨_, _, rfl, _⟩ := h; rfl
theorem IsBox.two {ds : List D} {w : Int} (h : IsBox (.tup ds) w) : ds.length = 2 := by
  obtain ⟨_, _, e, _⟩ := h
  cases e; rfl
end DL
namespace DL
theorem okD_len {d : D} (h : okD d = true) : lenD d ≤ 1000000 := by
  cases d with
  | tup ds => exact (okD_seq h).1
  | lst ds => exact (okD_seq h).1
  | _ => simp [lenD]
theorem eBox_inj {x y : D} {lo hi : List Int} (h : D.tup [x, y] = eBox lo hi) : x = eCol lo ∧ y = eCol hi := by
  unfold eBox at h
  injection h with h
  injection h with h1 h2
  injection h2 with h2
  exact ⟨h1, h2⟩
theorem eCol_inj {a b : List Int} (h : eCol a = eCol b) : a = b := by
  unfold eCol at h
  injection h with h
  exact (List.map_inj_right (fun x y e => by injection e)).mp h
end DL
namespace DL
open PySem PySem.Spec L2
/-! ### a row told place by place -/
def tbl (w : Nat) (g : Nat → Int) : List Int := (List.range w).map g
theorem tbl_len (w : Nat) (g : Nat → Int) : (tbl w g).length = w := by unfold tbl; rw [List.length_map, List.length_range]
theorem tbl_get {w p : Nat} {g : Nat → Int} (h : p < w) : (tbl w g)[p]? = some (g p) := by
  unfold tbl
  rw [List.getElem?_map, List.getElem?_range h]; rfl
theorem tbl_atI {w p : Nat} {g : Nat → Int} (h : p < w) : atI ((tbl w g).map D.int) (p : Nat) = some (.int (g p)) := by
  refine atI_map D.int ?_
  have e := atI_getD (xs := tbl w g) (i := p) (by rw [tbl_len]; exact h) 0
  rw [List.getD_eq_getElem?_getD, tbl_get h] at e
  exact e
theorem tbl_set {w j : Nat} {g : Nat → Int} {v : Int} : (tbl w g).set j v = tbl w (fun p => if p = j then v else g p) := by
  apply List.ext_getElem?
  intro p
  by_cases hp : p < w
  · rw [tbl_get hp, List.getElem?_set, tbl_len]
    by_cases e : j = p
    · subst e
      rw [if_pos rfl, if_pos hp, if_pos rfl]
    · rw [if_neg e, if_neg (Ne.symm e), tbl_get hp]
  · rw [List.getElem?_eq_none (by rw [List.length_set, tbl_len]; omega), List.getElem?_eq_none (by rw [tbl_len]; omega)]
theorem tbl_congr {w : Nat} {g h : Nat → Int} (e : ∀ p, p < w → g p = h p) : tbl w g = tbl w h := List.map_congr_left fun p hp => e p (List.mem_range.mp hp)
theorem tbl_of {w : Nat} {ns : List Int} (h : ns.length = w) : ns = tbl w fun p => ns.getD p 0 := by
  apply List.ext_getElem?
  intro p
  by_cases hp : p < w
  · rw [tbl_get hp, List.getD_eq_getElem?_getD, List.getElem?_eq_getElem (by omega)]; rfl
  · rw [List.getElem?_eq_none (by omega), List.getElem?_eq_none (by rw [tbl_len]; omega)]
theorem ixN_nat {n j : Nat} (h : j < n) : ixN n ((j : Nat) : Int) = some j := by
  unfold ixN
  rw [if_pos (by omega), if_pos (by omega), Int.toNat_natCast]
theorem lmin_snoc {a x : Int} {r : List Int} : lmin ((a :: r) ++ [x]) = min (lmin (a :: r)) x := by
  show (r ++ [x]).foldl min a = min (r.foldl min a) x
  rw [List.foldl_append]; rfl
theorem lmax_snoc {a x : Int} {r : List Int} : lmax ((a :: r) ++ [x]) = max (lmax (a :: r)) x := by
  show (r ++ [x]).foldl max a = max (r.foldl max a) x
  rw [List.foldl_append]; rfl
def mixA (g : Nat → Nat → Int) (i j : Nat) : Nat → Int := fun p => if p < j then g (i + 1) p else g i p
theorem mix_zero {w i : Nat} {g : Nat → Nat → Int} : tbl w (mixA g i 0) = tbl w (g i) := tbl_congr fun p _ => if_neg (Nat.not_lt_zero p)
theorem mix_all {w i : Nat} {g : Nat → Nat → Int} : tbl w (mixA g i w) = tbl w (g (i + 1)) := tbl_congr fun p h => if_pos h
theorem mix_at {i j : Nat} {g : Nat → Nat → Int} : mixA g i j j = g i j := if_neg (Nat.lt_irrefl j)
theorem mix_set {w i j : Nat} {g : Nat → Nat → Int} {v : Int} (h : g (i + 1) j = v) : (tbl w (mixA g i j)).set j v = tbl w (mixA g i (j + 1)) := by
  rw [tbl_set]
  refine tbl_congr fun p _ => ?_
  unfold mixA
  by_cases e : p = j
  · subst e; rw [if_pos rfl, if_pos (by omega), h]
  · rw [if_neg e]
    by_cases l : p < j
    · rw [if_pos l, if_pos (by omega)]
    · rw [if_neg l, if_neg (by omega)]
theorem mix_same {w i j : Nat} {g : Nat → Nat → Int} (h : g (i + 1) j = g i j) : tbl w (mixA g i j) = tbl w (mixA g i (j + 1)) := by
  refine tbl_congr fun p _ => ?_
  unfold mixA
  by_cases e : p = j
  · subst e; rw [if_neg (by omega), if_pos (by omega), h]
  · by_cases l : p < j
    · rw [if_pos l, if_pos (by omega)]
    · rw [if_neg l, if_neg (by omega)]
def loA (c0 : List Int) (cs : List (List Int)) (i p : Nat) : Int := lmin (plc p (c0 :: cs.take i))
def hiA (c0 : List Int) (cs : List (List Int)) (i p : Nat) : Int := lmax (plc p (c0 :: cs.take i))
theorem loA_step {c0 x : List Int} {cs : List (List Int)} {i p : Nat} (h : cs[i]? = some x) : loA c0 cs (i + 1) p = min (loA c0 cs i p) (x.getD p 0) := by
  unfold loA plc
  rw [List.take_add_one, h]
  show lmin ((c0 :: (cs.take i ++ [x])).map _) = _
  rw [← List.cons_append, List.map_append, List.map_cons]
  exact lmin_snoc
theorem hiA_step {c0 x : List Int} {cs : List (List Int)} {i p : Nat} (h : cs[i]? = some x) : hiA c0 cs (i + 1) p = max (hiA c0 cs i p) (x.getD p 0) := by
  unfold hiA plc
  rw [List.take_add_one, h]
  show lmax ((c0 :: (cs.take i ++ [x])).map _) = _
  rw [← List.cons_append, List.map_append, List.map_cons]
  exact lmax_snoc
theorem loA_all {c0 : List Int} {cr : List (List Int)} {w : Nat} : tbl w (loA c0 (c0 :: cr) (c0 :: cr).length) = bxLo w (c0 :: cr) ∧ tbl w (hiA c0 (c0 :: cr) (c0 :: cr).length) = bxHi w (c0 :: cr) := by
  have h := bx_congr (w := w) (as := c0 :: c0 :: cr) (bs := c0 :: cr) (fun x => by simp) (by simp)
  constructor
  · rw [← h.1]
    exact tbl_congr fun p _ => by unfold loA; rw [List.take_length]
  · rw [← h.2]
    exact tbl_congr fun p _ => by unfold hiA; rw [List.take_length]
theorem zip_tbl {w : Nat} {f g h : Nat → Int} : (tbl w f).zip ((tbl w g).zip (tbl w h)) = (List.range w).map fun p => (f p, g p, h p) := by
  unfold tbl
  rw [List.zip_map', List.zip_map']
theorem holdsB_tbl {w : Nat} {f g h : Nat → Int} : holdsB (tbl w f) (tbl w g) (tbl w h) = true ↔ ∀ p, p < w → f p ≤ g p ∧ g p ≤ h p := by
  unfold holdsB
  rw [zip_tbl, List.map_map]
  constructor
  · intro h p hp
    have := List.all_eq_true.mp h _ (List.mem_map_of_mem (List.mem_range.mpr hp))
    simpa using this
  · intro h
    refine List.all_eq_true.mpr fun b hb => ?_
    obtain ⟨p, hp, rfl⟩ := List.mem_map.mp hb
    have := h p (List.mem_range.mp hp)
    simpa using this
theorem isBox_tbl {w : Nat} {f g : Nat → Int} : IsBox (eBox (tbl w f) (tbl w g)) w ↔ ∀ p, p < w → f p ≤ g p := by
  have ez : (tbl w f).zip (tbl w g) = (List.range w).map fun p => (f p, g p) := by unfold tbl; rw [List.zip_map']
  constructor
  · rintro ⟨lo, hi, e, _, _, h⟩ p hp
    obtain ⟨e1, e2⟩ := eBox_inj e
    cases eCol_inj e1
    cases eCol_inj e2
    rw [ez] at h
    exact h (f p, g p) (List.mem_map.mpr ⟨p, List.mem_range.mpr hp, rfl⟩)
  · intro h
    refine ⟨_, _, rfl, by rw [tbl_len], by rw [tbl_len], fun p hp => ?_⟩
    rw [ez] at hp
    obtain ⟨q, hq, rfl⟩ := List.mem_map.mp hp
    exact h q (List.mem_range.mp hq)
theorem okD_box {lo hi : List Int} (h1 : lo.length ≤ 1000000) (h2 : hi.length ≤ 1000000) : okD (eBox lo hi) = true := by
  show (true && (okD (eCol lo) && (okD (eCol hi) && true))) = true
  rw [okD_col h1, okD_col h2]; rfl
theorem dep_box (lo hi : List Int) : dep (eBox lo hi) ≤ 2 := by
  unfold eBox
  rw [dep, deps, deps, deps]
  have := dep_col lo
  have := dep_col hi
  omega
theorem putI_call {ns : List Int} {k : Nat} {v : Int} {c : Nat} {P : D → Nat → Prop} (h1 : k < ns.length) (h2 : ns.length ≤ 1000) (h : P (eCol (ns.set k v)) c) :
    ∃ a, S_put.args a = [eCol ns, .int (k : Nat), .int v] ∧ S_put.pre a c ∧ ∀ d c', S_put.res a c d c' → P d c' :=
  put_call (ds := ns.map D.int) (d := .int v) (by rw [List.length_map]; exact h1) (by rw [List.length_map]; exact h2) (nsDs_ints ns) rfl nofun (by rw [← List.map_set]; exact h)
end DL
namespace DL
open PySem PySem.Spec L2

/-! ### things of any kind, shared -/
mutual
theorem okD_ns : ∀ {d : D}, okD d = true → nsD d = true
  | .non, _ => rfl
  | .bl _, _ => rfl
  | .int _, _ => rfl
  | .str _, _ => rfl
  | .tup ds, h => okDs_ns (ds := ds) (okD_seq h).2
  | .lst ds, h => okDs_ns (ds := ds) (okD_seq h).2
  | .ty _, h => nomatch h
  | .scr _, h => nomatch h
  | .gen, h => nomatch h
  | .dct _ _ _, h => nomatch h
  | .mt _, h => nomatch h
  | .obj _ _ _, h => nomatch h
  | .shr _, h => nomatch h
theorem okDs_ns : ∀ {ds : List D}, okDs ds = true → nsDs ds = true
  | [], _ => rfl
  | d :: ds, h => by
    have h' : (okD d && okDs ds) = true := h
    rw [Bool.and_eq_true] at h'
    show (nsD d && nsDs ds) = true
    rw [okD_ns h'.1, okDs_ns h'.2]; rfl
end
theorem okD_gen {d : D} (h : okD d = true) : d ≠ .gen := fun e => by rw [e] at h; cases h
def Odd (n : Nat) (d : D) : Prop := okD d = true ∧ dep d ≤ n
theorem Odd.mono {m n : Nat} {d : D} (h : Odd m d) (hn : m ≤ n) : Odd n d := ⟨h.1, Nat.le_trans h.2 hn⟩
theorem okDs_iff {ds : List D} : okDs ds = true ↔ ∀ d ∈ ds, okD d = true := by
  induction ds with
  | nil => exact ⟨fun _ _ h => (nomatch h), fun _ => rfl⟩
  | cons d r ih =>
    show (okD d && okDs r) = true ↔ _
    rw [Bool.and_eq_true, ih]
    exact ⟨fun h y hy => (List.mem_cons.mp hy).elim (fun e => e ▸ h.1) (h.2 y), fun h => ⟨h d List.mem_cons_self, fun y hy => h y (List.mem_cons_of_mem _ hy)⟩⟩
theorem deps_le {ds : List D} {n : Nat} (h : ∀ d ∈ ds, dep d ≤ n) : deps ds ≤ n := by
  induction ds with
  | nil => exact Nat.zero_le _
  | cons d r ih =>
    rw [deps]
    exact Nat.max_le.mpr ⟨h d List.mem_cons_self, ih fun y hy => h y (List.mem_cons_of_mem _ hy)⟩
theorem deps_mem {ds : List D} {d : D} (h : d ∈ ds) : dep d ≤ deps ds := by
  obtain ⟨i, hi⟩ := List.mem_iff_getElem?.mp h
  exact deps_get hi
theorem Odd.tup {n : Nat} {ds : List D} (hl : ds.length ≤ 1000000) (h : ∀ d ∈ ds, Odd n d) : Odd (n + 1) (.tup ds) :=
  ⟨by show (decide (ds.length ≤ 1000000) && okDs ds) = true; rw [decide_eq_true hl, okDs_iff.mpr fun d hd => (h d hd).1]; rfl, by rw [dep]; exact Nat.succ_le_succ (deps_le fun d hd => (h d hd).2)⟩
theorem Odd.lst {n : Nat} {ds : List D} (hl : ds.length ≤ 1000000) (h : ∀ d ∈ ds, Odd n d) : Odd (n + 1) (.lst ds) :=
  ⟨by show (decide (ds.length ≤ 1000000) && okDs ds) = true; rw [decide_eq_true hl, okDs_iff.mpr fun d hd => (h d hd).1]; rfl, by rw [dep]; exact Nat.succ_le_succ (deps_le fun d hd => (h d hd).2)⟩
theorem Odd.int {n : Nat} {i : Int} : Odd n (.int i) := ⟨rfl, Nat.zero_le _⟩
theorem Odd.bl {n : Nat} {i : Bool} : Odd n (.bl i) := ⟨rfl, Nat.zero_le _⟩
theorem Odd.non {n : Nat} : Odd n .non := ⟨rfl, Nat.zero_le _⟩
theorem Odd.col {n : Nat} {ns : List Int} (hl : ns.length ≤ 1000000) : Odd (n + 1) (eCol ns) := ⟨okD_col hl, Nat.le_trans (dep_col ns) (by omega)⟩
theorem Odd.box {n : Nat} {lo hi : List Int} (h1 : lo.length ≤ 1000000) (h2 : hi.length ≤ 1000000) : Odd (n + 2) (eBox lo hi) := ⟨okD_box h1 h2, Nat.le_trans (dep_box lo hi) (by omega)⟩
theorem Odd.set {n k : Nat} {ds : List D} {d : D} (h : Odd (n + 1) (.tup ds)) (hd : Odd n d) : Odd (n + 1) (.tup (ds.set k d)) := by
  have h0 := okD_seq h.1
  have h1 := h.2
  rw [dep] at h1
  refine Odd.tup (by rw [List.length_set]; exact h0.1) fun x hx => ?_
  rcases List.mem_or_eq_of_mem_set hx with hx | rfl
  · exact ⟨okDs_iff.mp h0.2 x hx, Nat.le_trans (deps_mem hx) (by omega)⟩
  · exact hd
theorem Odd.eq {n : Nat} {d : D} (h : Odd n d) (hn : n ≤ 64) : EqOk d := eqOk_of h.1 (Nat.le_trans h.2 hn)
/-- the slot and the kind of a thing that may be shared -/
def slS (d : D) : SK := if noL d = true then .nl else .sh
def kS (d : D) : Kd := if noL d = true then .R [] else .S
theorem kS_eq {d : D} : (if noL d = true then Kd.R [] else Kd.S) = kS d := rfl
theorem store_S {Γ : GE} {i : Nat} {d : D} {P : GE → Prop} : StoreOk Γ i d .S P ↔ P (gset Γ i (some ⟨slS d, d⟩)) := by
  unfold StoreOk slS
  split <;> exact Iff.rfl
theorem store_kS {Γ : GE} {i : Nat} {d : D} {P : GE → Prop} : StoreOk Γ i d (kS d) P ↔ P (gset Γ i (some ⟨slS d, d⟩)) := by
  unfold StoreOk slS kS
  split
  · exact Iff.rfl
  · exact Iff.rfl
theorem store_it {Γ : GE} {i : Nat} {d : D} {nl : Bool} {P : GE → Prop} (h : nl = true → noL d = true) : StoreOk Γ i d (itK nl true) P ↔ P (gset Γ i (some ⟨slS d, d⟩)) := by
  cases nl with
  | true => unfold StoreOk slS; rw [h rfl, if_pos rfl, if_pos rfl]
  | false => exact store_S
theorem rVar_S {Γ : GE} {i : Nat} {d : D} {c : Nat} {Q : D → Kd → Nat → Prop} (e : gat Γ i = some ⟨slS d, d⟩) (h : Q d (kS d) c) : rVar i Γ c Q := by
  unfold rVar
  rw [e]
  unfold slS kS at *
  cases hn : noL d with
  | true => rw [hn] at h; simpa using h
  | false => rw [hn] at h; simpa using h
theorem elOk_S {d : D} (h : nsD d = true) : elOk d (kS d) true true = true := by
  unfold elOk kS
  rw [h]
  cases noL d <;> rfl
theorem stK0_S (d : D) : stK0 (kS d) = true := by unfold kS; cases noL d <;> rfl
theorem cmb_kS {d : D} : cmb (kS d) .S = .S := by unfold cmb kS; cases noL d <;> rfl
/-- a comprehension whose elements are drawn things -/
theorem rLc_drawS {vs : List Nat} {ri : RI} {rg : RG} {re : RE} {Γ : GE} {c : Nat} {Q : D → Kd → Nat → Prop} (n : Nat) (Dp : List D → Prop) (R : D → Prop) (c1 k : Nat)
    (hi : ∀ P : List D → Bool → Bool → Nat → Prop, (∀ ds, Dp ds → P ds true true c1) → ri Γ c P) (hl : ∀ ds, Dp ds → ds.length ≤ n) (hl2 : n ≤ 1000000)
    (hs : ∀ (ds : List D) (i : Nat) (d : D), Dp ds → ds[i]? = some d → ∀ (c2 : Nat), c1 ≤ c2 → c2 + k ≤ c1 + n * k → ∀ P : D → Kd → Nat → Prop, (∀ x c3, R x → c2 ≤ c3 → c3 ≤ c2 + k → P x (kS x) c3) → rg d (.R []) (kills vs Γ) fun Γ2 => re Γ2 c2 P)
    (hR : ∀ x, R x → okD x = true)
    (h : ∀ xs : List D, xs.length ≤ n → (∀ x ∈ xs, R x) → ∀ c2, c1 ≤ c2 → c2 ≤ c1 + n * k → Q (.lst xs) .S c2) : rLc vs ri rg rYes re Γ c Q := by
  refine hi _ fun ds hd0 => ⟨by have := hl ds hd0; omega, true, fun i acc c' => acc.length = i ∧ (∀ x ∈ acc, R x) ∧ c1 ≤ c' ∧ c' ≤ c1 + i * k, ⟨rfl, fun _ h => (nomatch h), Nat.le_refl _, by omega⟩, ?_, ?_⟩
  · rintro i d acc c' hd hlt ⟨rfl, hr, h1, h2⟩
    have hi : acc.length < ds.length := (List.getElem?_eq_some_iff.mp hd).1
    have hn := hl ds hd0
    have hk : acc.length * k + k ≤ n * k := by
      have := Nat.mul_le_mul_right k (show acc.length + 1 ≤ n by omega)
      rw [Nat.add_mul, Nat.one_mul] at this
      exact this
    refine hs ds acc.length d hd0 hd c' h1 (by omega) _ fun x c3 hx' h3 h4 => ⟨okD_gen (hR x hx'), elOk_S (okD_ns (hR x hx')), by rw [List.length_append]; rfl, fun y hy => ?_, by omega, ?_⟩
    · rcases List.mem_append.mp hy with hy | hy
      · exact hr y hy
      · cases List.mem_singleton.mp hy; exact hx'
    · rw [Nat.add_mul, Nat.one_mul]; omega
  · rintro acc c' ⟨h0, hr, h1, h2⟩
    have hn := hl ds hd0
    have := Nat.mul_le_mul_right k hn
    exact h acc (by omega) hr c' h1 (by omega)
/-- those things of a row that a test takes -/
theorem rLc_filterS {vs : List Nat} {ri : RI} {rg : RG} {rt : RT} {re : RE} {Γ : GE} {c : Nat} {Q : D → Kd → Nat → Prop} (ds : List D) (c1 : Nat) (p : D → Bool)
    (hi : ∀ P : List D → Bool → Bool → Nat → Prop, P ds (noLs ds) true c1 → ri Γ c P) (hl : ds.length ≤ 1000000)
    (hs : ∀ d ∈ ds, ∀ (T : Nat → Prop) (P : D → Kd → Nat → Prop), (p d = true → P d (kS d) c1) → (p d = false → T c1) → rg d (itK (noLs ds) true) (kills vs Γ) fun Γ2 => rt Γ2 c1 fun b c2 => if b = true then re Γ2 c2 P else T c2)
    (hR : ∀ d ∈ ds, okD d = true) (h : Q (.lst (ds.filter p)) .S c1) : rLc vs ri rg rt re Γ c Q := by
  refine hi _ ⟨hl, true, fun i acc c' => acc = (ds.take i).filter p ∧ c' = c1, ⟨rfl, rfl⟩, ?_, ?_⟩
  · rintro i d acc c' hd _ ⟨rfl, rfl⟩
    have hm := List.mem_of_getElem? hd
    have et : ds.take (i + 1) = ds.take i ++ [d] := by rw [List.take_add_one, hd]; rfl
    refine hs d hm _ _ (fun hp => ⟨okD_gen (hR d hm), elOk_S (okD_ns (hR d hm)), ?_, rfl⟩) (fun hp => ⟨?_, rfl⟩)
    · rw [et, List.filter_append, List.filter_cons_of_pos hp]; rfl
    · rw [et, List.filter_append, List.filter_cons_of_neg (by rw [hp]; decide), List.filter_nil, List.append_nil]
  · rintro acc c' ⟨rfl, rfl⟩
    rw [List.take_length]
    exact h
/-! ### promises -/
def S_odd (n : Nat) : FS Nat where
  ks := [.nl, .nl]
  args m := [.gen, .int (m : Nat)]
  pre m c := m < n ∧ c + 4 * 3 ^ m < LIM
  res m c d c' := Odd (m + 1) d ∧ c ≤ c' ∧ c' ≤ c + 4 * 3 ^ m
theorem odd_call {n m : Nat} {c : Nat} {P : D → Nat → Prop} (h1 : m < n) (h2 : c + 4 * 3 ^ m < LIM) (h : ∀ d c', Odd (m + 1) d → c ≤ c' → c' ≤ c + 4 * 3 ^ m → P d c') :
    ∃ a, (S_odd n).args a = [.gen, .int (m : Nat)] ∧ (S_odd n).pre a c ∧ ∀ d c', (S_odd n).res a c d c' → P d c' := ⟨m, rfl, ⟨h1, h2⟩, by rintro d c' ⟨h3, h4, h5⟩; exact h d c' h3 h4 h5⟩
/-- is_colour, told by a list of what is none -/
def S_colL : FS (D × Int) where
  ks := [.sh, .nl]
  args p := [p.1, .int p.2]
  pre p c := Odd 60 p.1
  res p c r c' := ∃ b : Bool, r = .bl b ∧ (b = true ↔ ∃ ns : List Int, p.1 = eCol ns ∧ (ns.length : Int) = p.2) ∧ c' = c
theorem colL_call {d : D} {w : Int} {c : Nat} {P : D → Nat → Prop} (hd : Odd 60 d) (h : ∀ b : Bool, (b = true ↔ ∃ ns : List Int, d = eCol ns ∧ (ns.length : Int) = w) → P (.bl b) c) :
    ∃ a, S_colL.args a = [d, .int w] ∧ S_colL.pre a c ∧ ∀ d c', S_colL.res a c d c' → P d c' := ⟨(d, w), rfl, hd, by rintro d c' ⟨b, rfl, hb, rfl⟩; exact h b hb⟩
theorem is_colour_call {d : D} {w : Int} {c : Nat} {P : D → Nat → Prop} (hd : okD d = true) (h : ∀ b : Bool, (b = true ↔ ∃ ns : List Int, d = eCol ns ∧ (ns.length : Int) = w) → P (.bl b) c) :
    ∃ a, S_is_colour.args a = [d, .int w] ∧ S_is_colour.pre a c ∧ ∀ d c', S_is_colour.res a c d c' → P d c' := ⟨(d, w), rfl, ⟨okD_data hd, okD_len hd⟩, by rintro d c' ⟨b, rfl, hb, rfl⟩; exact h b hb⟩
def S_isboxL : FS (D × Nat) where
  ks := [.sh, .nl]
  args p := [p.1, .int (p.2 : Nat)]
  pre p c := Odd 60 p.1 ∧ p.2 ≤ 1000
  res p c r c' := ∃ b : Bool, r = .bl b ∧ (b = true ↔ IsBox p.1 p.2) ∧ c' = c
theorem isboxL_call {d : D} {w : Nat} {c : Nat} {P : D → Nat → Prop} (hd : Odd 60 d) (hw : w ≤ 1000) (h : ∀ b : Bool, (b = true ↔ IsBox d w) → P (.bl b) c) :
    ∃ a, S_isboxL.args a = [d, .int (w : Nat)] ∧ S_isboxL.pre a c ∧ ∀ d c', S_isboxL.res a c d c' → P d c' := ⟨(d, w), rfl, ⟨hd, hw⟩, by rintro d c' ⟨b, rfl, hb, rfl⟩; exact h b hb⟩
/-- a drawn box -/
def BoxD (w : Nat) (f g : Nat → Int) : Prop := ∀ p, p < w → 0 ≤ f p ∧ f p ≤ g p ∧ g p ≤ 1000
def S_ends : FS (Nat × Int) where
  ks := [.nl, .nl]
  args p := [.gen, .tup [.int (p.1 : Nat), .int p.2]]
  pre p c := 1 ≤ p.1 ∧ p.1 ≤ 5 ∧ 1 ≤ p.2 ∧ p.2 ≤ 1000 ∧ c + 30 < LIM
  res p c d c' := ∃ f g, d = eBox (tbl p.1 f) (tbl p.1 g) ∧ BoxD p.1 f g ∧ c ≤ c' ∧ c' ≤ c + 30
theorem ends_call {w : Nat} {s : Int} {c : Nat} {P : D → Nat → Prop} (h : 1 ≤ w ∧ w ≤ 5 ∧ 1 ≤ s ∧ s ≤ 1000) (hc : c + 30 < LIM) (hP : ∀ f g c', BoxD w f g → c ≤ c' → c' ≤ c + 30 → P (eBox (tbl w f) (tbl w g)) c') :
    ∃ a, S_ends.args a = [.gen, .tup [.int (w : Nat), .int s]] ∧ S_ends.pre a c ∧ ∀ d c', S_ends.res a c d c' → P d c' := ⟨(w, s), rfl, ⟨h.1, h.2.1, h.2.2.1, h.2.2.2, hc⟩, by rintro d c' ⟨f, g, rfl, h1, h2, h3⟩; exact hP f g c' h1 h2 h3⟩
/-- things told by a box -/
def S_thingsB : FS (Nat × (Nat → Int) × (Nat → Int)) where
  ks := [.nl, .nl]
  args p := [.gen, eBox (tbl p.1 p.2.1) (tbl p.1 p.2.2)]
  pre p c := 1 ≤ p.1 ∧ p.1 ≤ 5 ∧ c + 1000000000 < LIM
  res p c d c' := ∃ ts, d = .lst ts ∧ ts.length ≤ 1000 ∧ (∀ t ∈ ts, Odd 40 t) ∧ c ≤ c' ∧ c' ≤ c + 1000000000
theorem thingsB_call {w : Nat} {f g : Nat → Int} {c : Nat} {P : D → Nat → Prop} (h : 1 ≤ w ∧ w ≤ 5) (hc : c + 1000000000 < LIM) (hP : ∀ ts c', ts.length ≤ 1000 → (∀ t ∈ ts, Odd 40 t) → c ≤ c' → c' ≤ c + 1000000000 → P (.lst ts) c') :
    ∃ a, S_thingsB.args a = [.gen, eBox (tbl w f) (tbl w g)] ∧ S_thingsB.pre a c ∧ ∀ d c', S_thingsB.res a c d c' → P d c' := ⟨(w, f, g), rfl, ⟨h.1, h.2, hc⟩, by rintro d c' ⟨ts, rfl, h1, h2, h3, h4⟩; exact hP ts c' h1 h2 h3 h4⟩
def S_beside : FS (Nat × (Nat → Int) × (Nat → Int)) where
  ks := [.nl, .nl]
  args p := [.gen, eBox (tbl p.1 p.2.1) (tbl p.1 p.2.2)]
  pre p c := p.1 ≤ 5 ∧ BoxD p.1 p.2.1 p.2.2 ∧ c + 10 < LIM
  res p c d c' := ∃ h, d = eCol (tbl p.1 h) ∧ (∀ q, q < p.1 → -10000 ≤ h q ∧ h q ≤ 10000) ∧ c ≤ c' ∧ c' ≤ c + 10
theorem beside_call {w : Nat} {f g : Nat → Int} {c : Nat} {P : D → Nat → Prop} (hw : w ≤ 5) (hb : BoxD w f g) (hc : c + 10 < LIM) (hP : ∀ h c', (∀ q, q < w → -10000 ≤ h q ∧ h q ≤ 10000) → c ≤ c' → c' ≤ c + 10 → P (eCol (tbl w h)) c') :
    ∃ a, S_beside.args a = [.gen, eBox (tbl w f) (tbl w g)] ∧ S_beside.pre a c ∧ ∀ d c', S_beside.res a c d c' → P d c' := ⟨(w, f, g), rfl, ⟨hw, hb, hc⟩, by rintro d c' ⟨h, rfl, h1, h2, h3⟩; exact hP h c' h1 h2 h3⟩
end DL
namespace DL
open PySem PySem.Spec L2
theorem tbl_snoc {i : Nat} {h : Nat → Int} {v : Int} : tbl i h ++ [v] = tbl (i + 1) (fun q => if q = i then v else h q) := by
  unfold tbl
  rw [List.range_succ, List.map_append, List.map_singleton, if_pos rfl]
  congr 1
  exact List.map_congr_left fun q hq => (if_neg (by have := List.mem_range.mp hq; omega)).symm
theorem zip_tblD {w : Nat} {f g : Nat → Int} {α : Type} (e : Int × Int → α) : ((tbl w f).zip (tbl w g)).map e = (List.range w).map fun p => e (f p, g p) := by
  unfold tbl
  rw [List.zip_map', List.map_map]; rfl
theorem range_get {w i p : Nat} (h : (List.range w)[i]? = some p) : p = i ∧ i < w := by
  obtain ⟨h1, h2⟩ := List.getElem?_eq_some_iff.mp h
  rw [List.length_range] at h1
  rw [List.getElem_range] at h2
  exact ⟨h2.symm, h1⟩
theorem noL_set {ns : List Int} {k : Nat} {d : D} (h : k < ns.length) : noL (.tup ((ns.map D.int).set k d)) = noL d := by
  show noLs ((ns.map D.int).set k d) = noL d
  induction ns generalizing k with
  | nil => exact absurd h (Nat.not_lt_zero _)
  | cons n r ih =>
    cases k with
    | zero =>
      show (noL d && noLs (r.map D.int)) = noL d
      rw [noLs_ints, Bool.and_true]
    | succ k =>
      show (true && noLs ((r.map D.int).set k d)) = noL d
      rw [Bool.true_and]
      exact ih (by simpa using h)
end DL
namespace DL
open PySem PySem.Spec L2
theorem Col.tbl {w : Nat} {ns : List Int} (h : Col w ns) : ∃ f, ns = DL.tbl w f ∧ ∀ p, p < w → 0 ≤ f p ∧ f p ≤ 1000 := by
  have l : ns.length = w := by have := h.1; omega
  refine ⟨fun p => ns.getD p 0, tbl_of l, fun p hp => ?_⟩
  dsimp only
  rw [List.getD_eq_getElem?_getD, List.getElem?_eq_getElem (by omega)]
  exact h.2 _ (List.getElem_mem _)
theorem ColA.tbl {w : Nat} {ns : List Int} (h : ColA w ns) : ∃ f, ns = DL.tbl w f ∧ ∀ p, p < w → -1000001 ≤ f p ∧ f p ≤ 1000001 := by
  have l : ns.length = w := by have := h.1; omega
  refine ⟨fun p => ns.getD p 0, tbl_of l, fun p hp => ?_⟩
  dsimp only
  rw [List.getD_eq_getElem?_getD, List.getElem?_eq_getElem (by omega)]
  exact h.2 _ (List.getElem_mem _)
theorem Col.ofTbl {w : Nat} {f : Nat → Int} (h : ∀ p, p < w → 0 ≤ f p ∧ f p ≤ 1000) : Col w (DL.tbl w f) := by
  refine ⟨by rw [tbl_len], fun n hn => ?_⟩
  obtain ⟨p, hp, rfl⟩ := List.mem_map.mp hn
  exact h p (List.mem_range.mp hp)
end DL
namespace DL
open PySem PySem.Spec L2
theorem odd_res {n m : Nat} {c c' : Nat} {r : D} : (S_odd n).res m c r c' = (Odd (m + 1) r ∧ c ≤ c' ∧ c' ≤ c + 4 * 3 ^ m) := rfl
theorem odd_args {n m : Nat} : (S_odd n).args m = [.gen, .int (m : Nat)] := rfl
theorem odd_ks {n : Nat} : (S_odd n).ks = [.nl, .nl] := rfl
/-- the things a drawer of things may give at once -/
def ODDS : List D := [D.non, D.bl true, D.bl false, D.str (Str.ofString ""), D.str (Str.ofString "a"), D.int 0, D.int 1, D.int (-1), D.int 999, D.int (10 ^ Int.toNat 6), D.tup [], D.lst [], D.tup [D.bl true], D.tup [D.int 1, D.str (Str.ofString "a")], D.tup [D.int 1, D.int 2, D.non]]
theorem odds_ok : ∀ d ∈ ODDS, Odd 1 d := by
  have s0 : PyData.strOk (Str.ofString "") = true := by decide +kernel
  have s1 : PyData.strOk (Str.ofString "a") = true := by decide +kernel
  intro d hd
  unfold ODDS at hd
  simp only [List.mem_cons, List.not_mem_nil, or_false] at hd
  rcases hd with rfl | rfl | rfl | rfl | rfl | rfl | rfl | rfl | rfl | rfl | rfl | rfl | rfl | rfl | rfl <;> exact ⟨by simp [okD, okDs, s0, s1], by simp [dep, deps]⟩
end DL
namespace DL
open PySem PySem.Spec L2
theorem atI_one {α : Type} {x y : α} {xs : List α} : atI (x :: y :: xs) 1 = some y := by
  unfold atI ixN
  rw [if_pos (by decide), if_pos (by rw [List.length_cons, List.length_cons]; omega)]; rfl
end DL
namespace DL
open PySem PySem.Spec L2
theorem eCol_gen {ns : List Int} : (eCol ns = D.gen) = False := eq_false fun z => by unfold eCol at z; cases z
theorem eBox_gen {lo hi : List Int} : (eBox lo hi = D.gen) = False := eq_false fun z => by unfold eBox at z; cases z
end DL
namespace DL
open PySem PySem.Spec L2
theorem noLs_app {xs ys : List D} : noLs (xs ++ ys) = (noLs xs && noLs ys) := by
  induction xs with
  | nil => rw [List.nil_append]; show noLs ys = (true && noLs ys); rw [Bool.true_and]
  | cons x r ih => show (noL x && noLs (r ++ ys)) = ((noL x && noLs r) && noLs ys); rw [ih, Bool.and_assoc]
/-- xs = xs + [..], xs shared -/
theorem addl_at {i : Nat} {ra : RA} {Γ : GE} {c c1 : Nat} {xs : List D} {dks : List DK} {Dd : EndsD} (e : gat Γ i = some ⟨.sh, .lst xs⟩) (hx : noLs xs = false) (h1 : ∀ P : List DK → Nat → Prop, P dks c1 → ra Γ c P)
    (hl : dks.length ≤ 1000) (hg : NG dks) (hz : xs.length ≤ 900000) (hk : cmbs dks = .R [] ∨ cmbs dks = .S) (h : Dd.nx (gset Γ i (some ⟨.sh, .lst (xs ++ dks.map (·.1))⟩)) c1) :
    rAsg (rOp dAdd (rVar i) (rLst ra)) (rgName i) Dd Γ c := by
  unfold rAsg rOp rVar
  rw [e]
  refine h1 _ ⟨hl, hg, ?_⟩
  dsimp only [dAdd]
  refine ⟨by rw [List.length_map]; omega, ?_⟩
  have k : cmb .S (cmbs dks) = .S := by rcases hk with hk | hk <;> rw [hk] <;> rfl
  rw [hx, Bool.false_and, if_neg Bool.false_ne_true, k]
  unfold rgName StoreOk
  rw [if_neg (by show ¬ (false = true); decide)]
  exact h
theorem addr_at {i : Nat} {ra : RA} {Γ : GE} {c c1 : Nat} {xs : List D} {dks : List DK} {Dd : EndsD} (e : gat Γ i = some ⟨.sh, .lst xs⟩) (hx : noLs xs = false) (h1 : ∀ P : List DK → Nat → Prop, P dks c1 → ra Γ c P)
    (hl : dks.length ≤ 1000) (hg : NG dks) (hz : xs.length ≤ 900000) (hk : cmbs dks = .R [] ∨ cmbs dks = .S) (hn : nsDs (xs ++ dks.map (·.1)) = true) (h : Dd.rs (.lst (xs ++ dks.map (·.1))) c1) :
    rRetS (rOp dAdd (rVar i) (rLst ra)) Dd Γ c := by
  unfold rRetS rOp rVar
  rw [e]
  refine h1 _ ⟨hl, hg, ?_⟩
  dsimp only [dAdd]
  refine ⟨by rw [List.length_map]; omega, ?_⟩
  have k : cmb .S (cmbs dks) = .S := by rcases hk with hk | hk <;> rw [hk] <;> rfl
  rw [hx, Bool.false_and, if_neg Bool.false_ne_true, k]
  exact ⟨nofun, by show (false || (true && nsDs _)) = true; rw [hn]; rfl, h⟩
end DL
namespace DL
open PySem PySem.Spec L2
theorem store_if {Γ : GE} {i : Nat} {d : D} {nl : Bool} {P : GE → Prop} (h : nl = true → noL d = true) : StoreOk Γ i d (if nl = true then .R [] else .S) P ↔ P (gset Γ i (some ⟨slS d, d⟩)) := by
  cases nl with
  | true => unfold StoreOk slS; rw [h rfl, if_pos rfl, if_pos rfl]
  | false => exact store_S
theorem slS_or (d : D) : slS d = .nl ∨ slS d = .sh := by unfold slS; cases noL d; exact .inr rfl; exact .inl rfl
/-- a loop over a row that is at hand -/
theorem rFor_at {rg : RG} {rb : RS} {Dd : EndsD} {Γ : GE} (ds : List D) (nl : Bool) (c1 : Nat) (I : Nat → GE → Nat → Prop) (h0 : I 0 Γ c1)
    (hs : ∀ (i : Nat) (x : D) (Γ' : GE) (c' : Nat), ds[i]? = some x → I i Γ' c' → ∀ f : GE → Nat → Prop, (∀ Γ2 c2, I (i + 1) Γ2 c2 → f Γ2 c2) → rg x (if nl then .R [] else .S) Γ' fun Γ2 => rb { Dd with nx := f, ct := f, bk := Dd.nx } Γ2 c')
    (h : ∀ Γ' c', I ds.length Γ' c' → Dd.nx Γ' c') : ∀ {ri : RI} {c : Nat}, (∀ P : List D → Bool → Bool → Nat → Prop, P ds nl true c1 → ri Γ c P) → rFor ri rg rb Dd Γ c := fun {ri c} hi =>
  rFor_typ ds id nl c1 I (fun P hp => hi P (by rw [List.map_id] at hp; exact hp)) h0 hs h
end DL
namespace DL
open PySem PySem.Spec L2
/-- a loop over a row that a shared value gives -/
theorem rFor_S {re : RE} {rg : RG} {rb : RS} {Dd : EndsD} {Γ : GE} {c : Nat} (R : List D → Nat → Prop) (hc : ∀ Q : D → Kd → Nat → Prop, (∀ ts c1, R ts c1 → Q (.lst ts) .S c1) → re Γ c Q)
    (hb : ∀ ts c1, R ts c1 → rFor (fun _ _ P => P ts (noLs ts) true c1) rg rb Dd Γ c) : rFor (riSeq re) rg rb Dd Γ c := by
  unfold rFor riSeq
  refine hc _ fun ts c1 hr => ?_
  have h := hb ts c1 hr
  unfold rFor at h
  exact h
end DL
namespace DL
open PySem PySem.Spec L2
/-- xs = [..] -/
theorem asgl_at {i : Nat} {ra : RA} {Γ : GE} {c c1 : Nat} {dks : List DK} {Dd : EndsD} {sk : SK} (h1 : ∀ P : List DK → Nat → Prop, P dks c1 → ra Γ c P)
    (hl : dks.length ≤ 1000) (hg : NG dks) (hk : (cmbs dks = .R [] ∧ sk = .own) ∨ (cmbs dks = .S ∧ sk = .sh)) (h : Dd.nx (gset Γ i (some ⟨sk, .lst (dks.map (·.1))⟩)) c1) :
    rAsg (rLst ra) (rgName i) Dd Γ c := by
  unfold rAsg rLst
  refine h1 _ ⟨hl, hg, ?_⟩
  show StoreOk Γ i _ (cmbs dks) _
  unfold StoreOk
  rw [if_neg (by show ¬ (false = true); decide)]
  rcases hk with ⟨hk, rfl⟩ | ⟨hk, rfl⟩ <;> rw [hk] <;> exact h
def S_thingsC : FS (Nat × (Nat → Int)) where
  ks := [.nl, .nl, .nl]
  args p := [.gen, .int (p.1 : Nat), eCol (tbl p.1 p.2)]
  pre p c := 1 ≤ p.1 ∧ p.1 ≤ 5 ∧ c + 1000000000 < LIM
  res p c d c' := ∃ ts, d = .lst ts ∧ ts.length ≤ 1000 ∧ (∀ t ∈ ts, Odd 40 t) ∧ c ≤ c' ∧ c' ≤ c + 1000000000
theorem thingsC_call {w : Nat} {f : Nat → Int} {c : Nat} {P : D → Nat → Prop} (h : 1 ≤ w ∧ w ≤ 5) (hc : c + 1000000000 < LIM) (hP : ∀ ts c', ts.length ≤ 1000 → (∀ t ∈ ts, Odd 40 t) → c ≤ c' → c' ≤ c + 1000000000 → P (.lst ts) c') :
    ∃ a, S_thingsC.args a = [.gen, .int (w : Nat), eCol (tbl w f)] ∧ S_thingsC.pre a c ∧ ∀ d c', S_thingsC.res a c d c' → P d c' := ⟨(w, f), rfl, ⟨h.1, h.2, hc⟩, by rintro d c' ⟨ts, rfl, h1, h2, h3, h4⟩; exact hP ts c' h1 h2 h3 h4⟩
theorem apartI_symm (x y : List Int) : apartI x y = apartI y x := by
  unfold apartI
  congr 1
  induction x generalizing y with
  | nil => cases y <;> rfl
  | cons a r ih =>
    cases y with
    | nil => rfl
    | cons b s =>
      rw [List.zip_cons_cons, List.zip_cons_cons, List.map_cons, List.map_cons, ih s]
      congr 1
      show (a - b) * (a - b) = (b - a) * (b - a)
      rw [show a - b = -(b - a) by omega, Int.neg_mul_neg]
theorem apartI_self (x : List Int) : apartI x x = 0 := by
  unfold apartI
  induction x with
  | nil => rfl
  | cons a r ih =>
    rw [List.zip_cons_cons, List.map_cons, List.sum_cons, ih]
    show (a - a) * (a - a) + 0 = 0
    rw [Int.sub_self]; rfl
end DL
namespace DL
open PySem PySem.Spec L2
/-! ### how far boxes are -/
def farE (n lo hi : Int) : Int := if hi - n < n - lo then lo else hi
def nearE (n lo hi : Int) : Int := if hi < (if n < lo then lo else n) then hi else (if n < lo then lo else n)
def S_farE : FS (Int × Int × Int) where
  ks := [.nl, .nl, .nl]
  args p := [.int p.1, .int p.2.1, .int p.2.2]
  pre p c := True
  res p c d c' := d = .int (farE p.1 p.2.1 p.2.2) ∧ c' = c
theorem farE_call {n lo hi : Int} {c : Nat} {P : D → Nat → Prop} (h : P (.int (farE n lo hi)) c) : ∃ a, S_farE.args a = [.int n, .int lo, .int hi] ∧ S_farE.pre a c ∧ ∀ d c', S_farE.res a c d c' → P d c' := ⟨(n, lo, hi), rfl, trivial, by rintro d c' ⟨rfl, rfl⟩; exact h⟩
def RowB (w : Nat) (q : Nat → Int) : Prop := ∀ p, p < w → -2000000 ≤ q p ∧ q p ≤ 2000000
def S_boxFar (e : Int → Int → Int → Int) : FS (Nat × (Nat → Int) × (Nat → Int) × (Nat → Int)) where
  ks := [.nl, .nl]
  args p := [eCol (tbl p.1 p.2.1), eBox (tbl p.1 p.2.2.1) (tbl p.1 p.2.2.2)]
  pre p c := p.1 ≤ 1000 ∧ RowB p.1 p.2.1 ∧ RowB p.1 p.2.2.1 ∧ RowB p.1 p.2.2.2
  res p c d c' := d = .int (apartI (tbl p.1 p.2.1) (tbl p.1 fun k => e (p.2.1 k) (p.2.2.1 k) (p.2.2.2 k))) ∧ c' = c
theorem RowB.mem {w : Nat} {q : Nat → Int} (h : RowB w q) : ∀ n ∈ tbl w q, -10000000 ≤ n ∧ n ≤ 10000000 := fun n hn => by
  obtain ⟨p, hp, rfl⟩ := List.mem_map.mp hn
  have := h p (List.mem_range.mp hp)
  omega
def S_withinIt : FS (Nat × (Nat → Int) × (Nat → Int)) where
  ks := [.nl, .nl]
  args p := [.gen, eBox (tbl p.1 p.2.1) (tbl p.1 p.2.2)]
  pre p c := p.1 ≤ 5 ∧ BoxD p.1 p.2.1 p.2.2 ∧ c + 10 < LIM
  res p c d c' := ∃ h, d = eCol (tbl p.1 h) ∧ (∀ q, q < p.1 → p.2.1 q ≤ h q ∧ h q ≤ p.2.2 q) ∧ c ≤ c' ∧ c' ≤ c + 10
theorem withinIt_call {w : Nat} {f g : Nat → Int} {c : Nat} {P : D → Nat → Prop} (hw : w ≤ 5) (hb : BoxD w f g) (hc : c + 10 < LIM) (hP : ∀ h c', (∀ q, q < w → f q ≤ h q ∧ h q ≤ g q) → c ≤ c' → c' ≤ c + 10 → P (eCol (tbl w h)) c') :
    ∃ a, S_withinIt.args a = [.gen, eBox (tbl w f) (tbl w g)] ∧ S_withinIt.pre a c ∧ ∀ d c', S_withinIt.res a c d c' → P d c' := ⟨(w, f, g), rfl, ⟨hw, hb, hc⟩, by rintro d c' ⟨h, rfl, h1, h2, h3⟩; exact hP h c' h1 h2 h3⟩
theorem sq_le {a b : Int} (h : a.natAbs ≤ b.natAbs) : a * a ≤ b * b := by
  rw [← Int.natAbs_mul_self (a := a), ← Int.natAbs_mul_self (a := b)]
  exact Int.ofNat_le.mpr (Nat.mul_le_mul h h)
theorem near_le {n lo hi x : Int} (h1 : lo ≤ x) (h2 : x ≤ hi) : (n - nearE n lo hi) * (n - nearE n lo hi) ≤ (n - x) * (n - x) := by
  refine sq_le ?_
  unfold nearE
  (repeat' split) <;> omega
theorem far_le {n lo hi x : Int} (h1 : lo ≤ x) (h2 : x ≤ hi) : (n - x) * (n - x) ≤ (n - farE n lo hi) * (n - farE n lo hi) := by
  refine sq_le ?_
  unfold farE
  (repeat' split) <;> omega
def S_sqs : FS (Int × Int × Int) where
  ks := [.nl, .nl, .nl]
  args p := [.int p.1, .int p.2.1, .int p.2.2]
  pre p c := p.2.1 ≤ p.2.2 ∧ -2000000 ≤ p.1 ∧ p.1 ≤ 2000000 ∧ -2000000 ≤ p.2.1 ∧ p.2.2 ≤ 2000000
  res p c d c' := ∃ ns : List Int, d = .lst (ns.map .int) ∧ ns.length ≤ 100 ∧ (p.1 - nearE p.1 p.2.1 p.2.2) * (p.1 - nearE p.1 p.2.1 p.2.2) ∈ ns ∧ (p.1 - farE p.1 p.2.1 p.2.2) * (p.1 - farE p.1 p.2.1 p.2.2) ∈ ns ∧
    (∀ y ∈ ns, (p.1 - nearE p.1 p.2.1 p.2.2) * (p.1 - nearE p.1 p.2.1 p.2.2) ≤ y ∧ y ≤ (p.1 - farE p.1 p.2.1 p.2.2) * (p.1 - farE p.1 p.2.1 p.2.2)) ∧ c' = c
theorem rng_map (lo : Int) (n : Nat) : intsFrom lo n = ((List.range n).map fun i : Nat => lo + (i : Int)).map D.int := by unfold intsFrom; rw [List.map_map]; rfl
end DL
namespace DL
open PySem PySem.Spec L2
/-! ### pictures -/
abbrev Row := List (List Int)
def eRow (r : Row) : D := .lst (r.map eCol)
def ePic (p : List Row) : D := .lst (p.map eRow)
def lostR (r s : Row) : Int := ((r.zip s).map fun x => apartI x.1 x.2).sum
def lostI (p q : List Row) : Int := ((p.zip q).map fun x => lostR x.1 x.2).sum
/-- a picture of colours of some width, not too great -/
def PicOk (p : List Row) : Prop := p.length ≤ 1000 ∧ ∀ r ∈ p, r.length ≤ 1000 ∧ ∀ ns ∈ r, ns.length ≤ 1000 ∧ ∀ n ∈ ns, -10000000 ≤ n ∧ n ≤ 10000000
def S_lost : FS (List Row × List Row) where
  ks := [.sh, .sh]
  args p := [ePic p.1, ePic p.2]
  pre p c := PicOk p.1 ∧ PicOk p.2
  res p c d c' := d = .int (lostI p.1 p.2) ∧ c' = c
theorem lost_call {p q : List Row} {c : Nat} {P : D → Nat → Prop} (hp : PicOk p) (hq : PicOk q) (h : P (.int (lostI p q)) c) : ∃ a, S_lost.args a = [ePic p, ePic q] ∧ S_lost.pre a c ∧ ∀ d c', S_lost.res a c d c' → P d c' := ⟨(p, q), rfl, ⟨hp, hq⟩, by rintro d c' ⟨rfl, rfl⟩; exact h⟩
/-- a drawn picture: width of colours w -/
def PicD (w : Int) (p : List Row) : Prop := 1 ≤ p.length ∧ p.length ≤ 16 ∧ ∃ n, 1 ≤ n ∧ n ≤ 16 ∧ ∀ r ∈ p, r.length = n ∧ ∀ ns ∈ r, Col w ns
theorem PicD.ok {w : Int} {p : List Row} (h : PicD w p) (hw : w ≤ 5) : PicOk p := by
  obtain ⟨h1, h2, n, h3, h4, h5⟩ := h
  refine ⟨by omega, fun r hr => ⟨by have := (h5 r hr).1; omega, fun ns hn => ?_⟩⟩
  have := (h5 r hr).2 ns hn
  exact ⟨by have := this.1; omega, fun n hn => by have := this.2 n hn; omega⟩
def S_picture : FS (Int × Int) where
  ks := [.nl, .nl]
  args p := [.gen, .tup [.int p.1, .int p.2]]
  pre p c := 1 ≤ p.1 ∧ p.1 ≤ 5 ∧ 1 ≤ p.2 ∧ p.2 ≤ 1000 ∧ c + 10000 < LIM
  res p c d c' := ∃ q, d = ePic q ∧ PicD p.1 q ∧ c ≤ c' ∧ c' ≤ c + 10000
theorem picture_call {w s : Int} {c : Nat} {P : D → Nat → Prop} (h : 1 ≤ w ∧ w ≤ 5 ∧ 1 ≤ s ∧ s ≤ 1000) (hc : c + 10000 < LIM) (hP : ∀ q c', PicD w q → c ≤ c' → c' ≤ c + 10000 → P (ePic q) c') :
    ∃ a, S_picture.args a = [.gen, .tup [.int w, .int s]] ∧ S_picture.pre a c ∧ ∀ r c', S_picture.res a c r c' → P r c' := ⟨(w, s), rfl, ⟨h.1, h.2.1, h.2.2.1, h.2.2.2, hc⟩, by rintro r c' ⟨q, rfl, h1, h2, h3⟩; exact hP q c' h1 h2 h3⟩
end DL
/-! sorted(d.items()), whatever the keys -/
namespace L2.DX
open PySem PySem.W PySem.Calls PyProof.Rows PyProof.V PySem.Spec L2
mutual
theorem reads_at {h : Heap} : ∀ {v : Value} {d : PyData} {as : List Addr}, Reads h v d as → ∀ a ∈ as, ∃ o, h.get? a = some o
  | _, _, _, .none => fun _ h => nomatch h
  | _, _, _, .bool _ => fun _ h => nomatch h
  | _, _, _, .int _ _ => fun _ h => nomatch h
  | _, _, _, .str _ _ => fun _ h => nomatch h
  | _, _, _, .list e _ _ r => fun b hb => (List.mem_cons.mp hb).elim (fun z => z ▸ ⟨_, e⟩) (readsAll_at r b)
  | _, _, _, .tuple _ _ _ r => fun b hb => readsAll_at r b hb
  | _, _, _, .dict e _ _ r1 r2 => fun b hb => (List.mem_append.mp hb).elim (fun hb => (List.mem_cons.mp hb).elim (fun z => z ▸ ⟨_, e⟩) (readsAll_at r1 b)) (readsAll_at r2 b)
theorem readsAll_at {h : Heap} : ∀ {vs : List Value} {ds : List PyData} {as : List Addr}, ReadsAll h vs ds as → ∀ a ∈ as, ∃ o, h.get? a = some o
  | _, _, _, .nil => fun _ h => nomatch h
  | _, _, _, .cons r rs => fun b hb => (List.mem_append.mp hb).elim (reads_at r b) (readsAll_at rs b)
end
abbrev PDt := (V × V) × PyData
/-- a pair of a dict, with its data -/
def PdOk (K : PySem.W.Frag) (H : Hp) (b : PDt) : Prop := ∃ dk dv, b.2 = .tuple [dk, dv] ∧ Dp K H b.1.1 dk ∧ Dp K H b.1.2 dv
def leP (x y : PDt) : Bool := PySem.W.dataLe false (fun b : PyData => b) x.2 y.2
def rItemsSorted (K : PySem.W.Frag) (bs : List PDt) : Hp → VK → Prop := fun H Q => bs.length ≤ 1000000 ∧ (∀ b ∈ bs, PdOk K H b) ∧ PySem.W.AllAlike (bs.map (·.2)) ∧ PySem.W.Sortable (bs.map (·.2)) ∧ (∀ b ∈ bs, b.2.depth ≤ 60) ∧
  ∀ (H' : Hp) (l : Addr) (ts : List Addr), Same H H' → H l = none → l ∉ ts → H' l = some (.lst (ts.map V.ref)) → Paired (fun (t : Addr) (b : PDt) => H t = none ∧ H' t = some (.tup [b.1.1, b.1.2])) ts (bs.mergeSort leP) → Q (.ref l) H'
section
variable {X : Cx} {pins : List (Addr × Obj)} {σ : St} {H : Hp} {s : Shared}
theorem takeT2 {h' : Heap} {tk : Nat} {H0 : Hp} (I0 : Inv X pins σ H0 s) : ∀ (zs : List (Addr × PDt)) (H1 : Hp), Inv X pins σ H1 { s with heap := h', toks := tk } → (zs.map (·.1)).Nodup →
    (∀ z ∈ zs, s.heap.objs.size ≤ z.1 ∧ H1 z.1 = none ∧ ∀ H2, ObjOk X.prog X.w H2 h' z.1 (.tup [z.2.1.1, z.2.1.2])) →
    ∃ H2, Inv X pins σ H2 { s with heap := h', toks := tk } ∧ (∀ b o, H1 b = some o → H2 b = some o) ∧ ∀ z ∈ zs, H2 z.1 = some (.tup [z.2.1.1, z.2.1.2])
  | [], H1, I1, _, _ => ⟨H1, I1, fun _ _ e => e, fun _ h => nomatch h⟩
  | z :: L, H1, I1, hn, h => by
    obtain ⟨hb, hnone, ok⟩ := h z (List.mem_cons_self ..)
    have I2 : Inv X pins σ (upd H1 z.1 (.tup [z.2.1.1, z.2.1.2])) { s with heap := h', toks := tk } := I1.take (h' := h') (t' := tk) (fun b ob _ e => e) (I0.fpOk hb hnone) (ok _)
    rw [List.map_cons, List.nodup_cons] at hn
    obtain ⟨H2, I3, g, q⟩ := takeT2 I0 L _ I2 hn.2 fun c hc => by
      obtain ⟨c1, c2, c3⟩ := h c (List.mem_cons_of_mem _ hc)
      exact ⟨c1, by rw [upd_ne (fun y => hn.1 (by rw [← y]; exact List.mem_map.mpr ⟨c, hc, rfl⟩))]; exact c2, c3⟩
    refine ⟨H2, I3, fun b o e => g b o (by rw [upd_ne (ne_of_none e hnone)]; exact e), fun c hc => ?_⟩
    rcases List.mem_cons.mp hc with rfl | hc
    · exact g _ _ upd_same
    · exact q c hc
theorem each_zip {bs : List PDt} : ∀ {as : List Addr}, as.length = bs.length → PySem.W.EachIs (fun v (z : Addr × PDt) => v = Value.ref z.1) (as.map Value.ref) (as.zip bs) := by
  induction bs with
  | nil => intro as h; cases as with
    | nil => exact .nil
    | cons _ _ => cases h
  | cons b bs ih => intro as h; cases as with
    | nil => cases h
    | cons a as => exact .cons rfl (ih (Nat.succ.inj h))
theorem each_out : ∀ {out : List Value} {zs : List (Addr × PDt)}, PySem.W.EachIs (fun v z => v = Value.ref z.1) out zs → out = zs.map fun z => Value.ref z.1
  | _, _, .nil => rfl
  | _, _, .cons h t => by rw [h, each_out t]; rfl
theorem paired_zs {H H' : Hp} : ∀ {zs : List (Addr × PDt)}, (∀ z ∈ zs, H z.1 = none ∧ H' z.1 = some (.tup [z.2.1.1, z.2.1.2])) → Paired (fun (t : Addr) (b : PDt) => H t = none ∧ H' t = some (.tup [b.1.1, b.1.2])) (zs.map (·.1)) (zs.map (·.2))
  | [], _ => .nil
  | z :: zs, h => .cons (h z List.mem_cons_self) (paired_zs fun y hy => h y (List.mem_cons_of_mem _ hy))
theorem each_ix {bs : List PDt} {P : Addr → PDt → Prop} : ∀ {as : List Addr}, as.length = bs.length → (∀ (j : Nat) (a : Addr) (b : PDt), as[j]? = some a → bs[j]? = some b → P a b) → PySem.W.EachIs (fun v (z : Addr × PDt) => v = Value.ref z.1 ∧ P z.1 z.2) (as.map Value.ref) (as.zip bs) := by
  induction bs with
  | nil => intro as h _; cases as with
    | nil => exact .nil
    | cons _ _ => cases h
  | cons b bs ih => intro as h p; cases as with
    | nil => cases h
    | cons a as => exact .cons ⟨rfl, p 0 a b rfl rfl⟩ (ih (Nat.succ.inj h) fun j a' b' h1 h2 => p (j + 1) a' b' h1 h2)
/-- what comes of the entries es -/
theorem sorted_items {p d : Addr} {es : Array DictEntry} {ep : Nat} {bs : List PDt} {Q : VK} (hh : X.A.handled = none) (hu : X.A.units + 64 < cLine) (I : Inv X pins σ H s) (view : s.heap.IsItemsView p d) (raw : DT.Raw s.heap d es ep)
    (hl : es.size = bs.length) (he : ∀ (j : Nat) (e : DictEntry) (b : PDt), es[j]? = some e → bs[j]? = some b → RelV b.1.1 e.key ∧ RelV b.1.2 e.val) (h : rItemsSorted X.K bs H Q) :
    wpAny (model X.prog X.w) X.A (call (.builtin "sorted") [.ref p]) (EP X pins σ Q) X.xe s := by
  obtain ⟨h1, h2, h3, h4, h5, q⟩ := h
  refine DT.sortedI (es := es) (ep := ep) hh view raw (by rw [hl, sizeLine_eq]; omega) fun h' tk as hk hlt hla hG => ?_
  have nd : as.Nodup := List.Pairwise.imp (fun h => Nat.ne_of_lt h) hG.rise
  have lab : as.length = bs.length := by rw [hla, hl]
  have hob : (h'.push { cls := .type "list", data := .seq (as.map Value.ref).toArray }).get? h'.objs.size = some (seqObj "list" (as.map Value.ref).toArray 0) := Heap.get?_push_size _ rfl
  have kb : ∀ b o, s.heap.get? b = some o → (h'.push { cls := .type "list", data := .seq (as.map Value.ref).toArray }).get? b = some o := fun b o e => Heap.get?_push_of_some _ (hk b o e)
  have ne0 : ∀ b o, h'.get? b = some o → b ≠ h'.objs.size := fun b o e => Nat.ne_of_lt (Heap.lt_size e)
  generalize hh2 : h'.push { cls := .type "list", data := .seq (as.map Value.ref).toArray } = h2' at hob kb ⊢
  have ka : ∀ b o, h'.get? b = some o → h2'.get? b = some o := fun b o e => by rw [← hh2]; exact Heap.get?_push_of_some _ e
  -- a pair as it stands
  have pr : ∀ (j : Nat) (a : Addr) (b : PDt), as[j]? = some a → bs[j]? = some b → ∃ ek ev, RelV b.1.1 ek ∧ RelV b.1.2 ev ∧ h'.get? a = some { cls := .type "tuple", data := .seq #[ek, ev] } := fun j a b ha hb => by
    obtain ⟨e, e1, e2⟩ := hG.pairs j a ha
    obtain ⟨r1, r2⟩ := he j e b e1 hb
    exact ⟨_, _, r1, r2, e2⟩
  refine PySem.W.list_sort_data (s := { s with heap := h2', toks := tk }) (A := X.A.in1) (β := Addr × PDt) (bs := as.zip bs) (vs := as.map Value.ref) (enc := fun z => z.2.2) (R := fun v z => v = Value.ref z.1) (n := 0) hob (each_zip lab) ?_ ?_ ?_ (by rw [List.length_zip, lab, Nat.min_self, sizeLine_eq]; omega) ?_ fun out hlo ho => ?_
  · refine (each_ix (P := fun a b => ∃ as', Reads h2' (.ref a) b.2 as' ∧ h'.objs.size ∉ as') lab fun j a b ha hb => ?_).mono fun v z ⟨e, as', r, n⟩ => ⟨as', by rw [e]; exact r, n⟩
    obtain ⟨ek, ev, r1, r2, eo⟩ := pr j a b ha hb
    obtain ⟨dk, dv, ed, d1, d2⟩ := h2 b (List.mem_of_getElem? hb)
    obtain ⟨as1, q1⟩ := Dp.reads I _ _ _ d1 r1
    obtain ⟨as2, q2⟩ := Dp.reads I _ _ _ d2 r2
    rw [ed]
    refine ⟨as1 ++ (as2 ++ []), .tuple (ka _ _ eo) rfl rfl (.cons (Reads.keeps kb q1) (.cons (Reads.keeps kb q2) .nil)), fun z => ?_⟩
    rw [List.append_nil] at z
    have old : ∀ x, x = h'.objs.size → (∃ o, s.heap.get? x = some o) → False := fun x z ⟨o, e⟩ => ne0 _ _ (hk _ _ e) z
    rcases List.mem_append.mp z with z | z
    · exact old _ rfl (reads_at q1 _ z)
    · exact old _ rfl (reads_at q2 _ z)
  · rw [show (as.zip bs).map (fun z => z.2.2) = bs.map (·.2) by
      rw [show (fun z : Addr × PDt => z.2.2) = (fun b : PDt => b.2) ∘ (fun z : Addr × PDt => z.2) from rfl, ← List.map_map, List.map_snd_zip (by rw [lab]; exact Nat.le_refl _)]]
    exact h3
  · rw [show (as.zip bs).map (fun z => z.2.2) = bs.map (·.2) by
      rw [show (fun z : Addr × PDt => z.2.2) = (fun b : PDt => b.2) ∘ (fun z : Addr × PDt => z.2) from rfl, ← List.map_map, List.map_snd_zip (by rw [lab]; exact Nat.le_refl _)]]
    exact h4
  · intro z hz
    have := h5 z.2 (List.of_mem_zip (a := z.1) (b := z.2) hz).2
    show X.A.units + 1 + 1 + z.2.2.depth < cLine
    omega
  · show EP X pins σ Q (.ref h'.objs.size) { s with heap := sortedHeap h2' h'.objs.size (as.map Value.ref) out.toArray, toks := tk }
    let zs := (as.zip bs).mergeSort (PySem.W.dataLe false fun z : Addr × PDt => z.2.2)
    have hout : out = zs.map fun z => Value.ref z.1 := each_out ho
    have zm : ∀ z ∈ zs, z ∈ as.zip bs := fun z hz => List.mem_mergeSort.mp hz
    have zidx : ∀ z ∈ zs, ∃ j, as[j]? = some z.1 ∧ bs[j]? = some z.2 := fun z hz => by
      obtain ⟨j, hj⟩ := List.mem_iff_getElem?.mp (zm z hz)
      exact ⟨j, List.getElem?_zip_eq_some.mp hj⟩
    have zp : zs.Perm (as.zip bs) := List.mergeSort_perm _ _
    have z1 : (zs.map (·.1)).Nodup := by
      have e := zp.map (·.1)
      rw [List.map_fst_zip (by rw [lab]; exact Nat.le_refl _)] at e
      exact e.nodup_iff.mpr nd
    have z2 : zs.map (·.2) = bs.mergeSort leP := by
      have : bs = (as.zip bs).map (·.2) := (List.map_snd_zip (by rw [lab]; exact Nat.le_refl _)).symm
      rw [this, ← List.map_mergeSort]
      intro a _ b _; rfl
    have zl : zs.length = bs.length := by rw [zp.length_eq, List.length_zip, lab, Nat.min_self]
    have kF : ∀ b o, b ≠ h'.objs.size → h2'.get? b = some o → (sortedHeap h2' h'.objs.size (as.map Value.ref) out.toArray).get? b = some o := fun b o hb e => (PyProof.Rows.sortedHeap_old hb (Heap.lt_size e)).trans e
    have kS : ∀ b o, s.heap.get? b = some o → (sortedHeap h2' h'.objs.size (as.map Value.ref) out.toArray).get? b = some o := fun b o e => kF b o (ne0 _ _ (hk b o e)) (kb b o e)
    obtain ⟨eF, heF⟩ := PyProof.Rows.sortedHeap_at (vs := as.map Value.ref) (out := out.toArray) hob
    have I1 : Inv X pins σ H { s with heap := sortedHeap h2' h'.objs.size (as.map Value.ref) out.toArray, toks := tk } := I.kept (t' := tk) kS
    have hn0 : H h'.objs.size = none := I.hok.fresh (Nat.le_of_lt hlt)
    have rv : Vals ((zs.map (·.1)).map V.ref) out := by
      rw [hout, List.map_map]
      exact vals_maps (fun z : Addr × PDt => V.ref z.1) (fun z => Value.ref z.1) zs fun _ _ => rfl
    have I2 : Inv X pins σ (upd H h'.objs.size (.lst ((zs.map (·.1)).map V.ref))) { s with heap := sortedHeap h2' h'.objs.size (as.map Value.ref) out.toArray, toks := tk } :=
      I1.take (h' := sortedHeap h2' h'.objs.size (as.map Value.ref) out.toArray) (t' := tk) (fun b ob _ e => e) (I.fpOk (Nat.le_of_lt hlt) hn0) ⟨by rw [List.length_map, List.length_map, zl, sizeLine_eq]; omega, out, eF, rv, heF⟩
    have zn : ∀ z ∈ zs, H z.1 = none := fun z hz => by
      obtain ⟨j, j1, j2⟩ := zidx z hz
      exact I.hok.fresh (Nat.le_of_lt (hG.above _ (List.mem_of_getElem? j1)))
    have zne : ∀ z ∈ zs, z.1 ≠ h'.objs.size := fun z hz => by
      obtain ⟨j, j1, j2⟩ := zidx z hz
      obtain ⟨_, _, _, _, e⟩ := pr j _ _ j1 j2
      exact ne0 _ _ e
    obtain ⟨H2, I3, g, qt⟩ := takeT2 I zs _ I2 z1 fun z hz => by
      obtain ⟨j, j1, j2⟩ := zidx z hz
      obtain ⟨ek, ev, r1, r2, eo⟩ := pr j _ _ j1 j2
      refine ⟨Nat.le_of_lt (hG.above _ (List.mem_of_getElem? j1)), ?_, fun H3 => ⟨(by rw [sizeLine_eq]; show 2 ≤ 16777216; omega), [ek, ev], .cons r1 (.cons r2 .nil), ⟨_, kF _ _ (ne0 _ _ eo) (ka _ _ eo), rfl, 0, rfl⟩⟩⟩
      rw [upd_ne (zne z hz)]
      exact zn z hz
    have gr : Same H H2 := fun b o e => g b o (by rw [upd_ne (ne_of_none e hn0)]; exact e)
    refine ⟨.ref h'.objs.size, H2, I3, rfl, q H2 h'.objs.size (zs.map (·.1)) gr hn0 (fun z => ?_) (g _ _ upd_same) ?_⟩
    · obtain ⟨y, hy, e⟩ := List.mem_map.mp z
      exact zne y hy e
    · rw [← z2]
      exact paired_zs fun z hz => ⟨zn z hz, qt z hz⟩
end
end L2.DX
namespace DL
open PySem PySem.Spec L2
/-! ### dicts as raw entries -/
def KeyV (H : Hp) (t : Bool) (k : List Key) (kv : V) : Prop := (t = true ∧ ∃ q, kv = .ref q ∧ H q = some (.tup (k.map kV))) ∨ (t = false ∧ ∃ k0, k = [k0] ∧ kv = kV k0)
theorem pairs_get {prog : Program} {w : World} {K : Type} [DecidableEq K] {knd : KeyKind prog w K} : ∀ {es : List DictEntry} {kvs : List (K × Value)}, Pairs knd es kvs → ∀ {j : Nat} {e : DictEntry}, es[j]? = some e → ∃ kv, kvs[j]? = some kv ∧ knd.is kv.1 e.key = true ∧ e.val = kv.2
  | _, _, .nil, j, e, h => by simp at h
  | _, _, .cons h1 h2 _, 0, e, h => by cases h; exact ⟨_, rfl, h1, h2⟩
  | _, _, .cons _ _ t, j + 1, e, h => pairs_get t (j := j) h
theorem dct_raw {X : Cx} {H : Hp} {h : Heap} {a : Addr} {t : Bool} {kk : List (List Key)} {us : List V} (hok : HOk X.prog X.w H h) (da : DcAt H a t kk us) (hl : kk.length = us.length) :
    (a == sysModules) = false ∧ kk.length ≤ sizeLine ∧ ∃ (es : Array DictEntry) (ep : Nat), DT.Raw h a es ep ∧ es.size = kk.length ∧ ∀ (j : Nat) (e : DictEntry), es[j]? = some e → ∃ k u kv, kk[j]? = some k ∧ us[j]? = some u ∧ RelV u e.val ∧ KeyV H t k kv ∧ RelV kv e.key := by
  rcases da with ⟨rfl, ea⟩ | ⟨rfl, k1, rfl, ea⟩
  · obtain ⟨z, hd, xs', rel, o, es, ep, ho, hx, hdat, hes, his, hn⟩ := dt_of hok ea
    have lz : (kk.zip us).length = kk.length := by rw [List.length_zip, hl, Nat.min_self]
    have l1 := Paired.length rel
    have l2 : es.size = xs'.length := size_of_entries hes
    refine ⟨hd, by rw [← lz]; exact z, es, ep, ⟨o, ho, hx, hdat⟩, by omega, fun j e he => ?_⟩
    rw [entry_at hes j] at he
    obtain ⟨x, hxj, rfl⟩ := Option.map_eq_some_iff.mp he
    obtain ⟨y, hy, r1, r2, r3⟩ := DX.pget rel hxj
    obtain ⟨h1, h2⟩ := List.getElem?_zip_eq_some.mp hy
    exact ⟨_, _, .ref x.2.1, h1, h2, r3, .inl ⟨rfl, _, rfl, r2⟩, rfl⟩
  · have hl' : k1.length = us.length := by rw [List.length_map] at hl; exact hl
    obtain ⟨z, hd, vs, rel, o, es, ep, ho, hx, hdat, _, hp, hn⟩ := dk_of hok ea
    have lz : (k1.zip us).length = k1.length := by rw [List.length_zip, hl', Nat.min_self]
    have l1 := Paired.length rel
    have l2 := hp.length
    refine ⟨hd, by rw [List.length_map, ← lz]; exact z, es, ep, ⟨o, ho, hx, hdat⟩, by rw [List.length_map, ← Array.length_toList]; omega, fun j e he => ?_⟩
    rw [← Array.getElem?_toList] at he
    obtain ⟨kv, h1, h2, h3⟩ := pairs_get hp he
    obtain ⟨y, hy, r1, r2⟩ := DX.pget rel h1
    obtain ⟨g1, g2⟩ := List.getElem?_zip_eq_some.mp hy
    refine ⟨[y.1], y.2, kV y.1, by rw [List.getElem?_map, g1]; rfl, g2, by rw [h3]; exact r2, .inr ⟨rfl, _, rfl, rfl⟩, ?_⟩
    rw [r1]
    exact relV_key (show keyIs kv.1 e.key = true from h2)
/-! d.items(), a view -/
def rItemsA : V → List V → Hp → VK → Prop := fun x xs H Q => ∃ (a : Addr) (t : Bool) (kk : List (List Key)) (us : List V), x = .ref a ∧ xs = [] ∧ DcAt H a t kk us ∧ kk.length = us.length ∧ ∀ p, H p = none → Q (.ref p) (upd H p (DX.itemsO p a))
theorem mt_itemsA {X : Cx} : MtR X "dict.items" rItemsA := by
  intro pins s σ H x xs v us Q I rx rxs h
  obtain ⟨a, t, kk, vs, rfl, rfl, da, hl, q⟩ := h
  cases rx
  cases rxs
  obtain ⟨hd, _, es, ep, raw, _⟩ := dct_raw I.hok da hl
  refine DT.callItems (es := es) (ep := ep) hd raw ?_
  have hf : H s.heap.objs.size = none := I.hok.fresh (Nat.le_refl _)
  exact ⟨.ref s.heap.objs.size, upd H s.heap.objs.size (DX.itemsO s.heap.objs.size a), I.laid (t' := s.toks) (fun b u e => Heap.get?_push_of_some _ e) (Nat.le_refl _) (DX.itemsO_ok (Heap.get?_push_size _ rfl)), rfl, q _ hf⟩
/-! sorted(d.items()) -/
def rSortItA (K : PySem.W.Frag) : List V → Hp → VK → Prop := fun vs H Q => ∃ (p a : Addr) (t : Bool) (kk : List (List Key)) (us : List V), vs = [.ref p] ∧ H p = some (DX.itemsO p a) ∧ DcAt H a t kk us ∧ kk.length = us.length ∧
  ∀ kvs : List V, kvs.length = kk.length → (∀ (j : Nat) (k : List Key) (kv : V), kk[j]? = some k → kvs[j]? = some kv → KeyV H t k kv) → ∃ bs : List DX.PDt, bs.map (·.1) = kvs.zip us ∧ DX.rItemsSorted K bs H Q
theorem keys_list {P : Nat → V → Prop} : ∀ (n : Nat), (∀ j, j < n → ∃ kv, P j kv) → ∃ kvs : List V, kvs.length = n ∧ ∀ j kv, kvs[j]? = some kv → P j kv
  | 0, _ => ⟨[], rfl, fun j kv h => by simp at h⟩
  | n + 1, h => by
    obtain ⟨kvs, h1, h2⟩ := keys_list n fun j hj => h j (by omega)
    obtain ⟨kv, hk⟩ := h n (by omega)
    refine ⟨kvs ++ [kv], by rw [List.length_append, h1]; rfl, fun j v hj => ?_⟩
    by_cases e : j < kvs.length
    · rw [List.getElem?_append_left e] at hj; exact h2 j v hj
    · rw [List.getElem?_append_right (by omega)] at hj
      have : j - kvs.length = 0 := by
        cases q : j - kvs.length with
        | zero => rfl
        | succ m => rw [q] at hj; simp at hj
      rw [this] at hj
      cases hj
      have : j = n := by omega
      subst this; exact hk
theorem cr_sortItA {X : Cx} (hc : X.calm = true) (hu : X.A.units + 64 < cLine) : CallR X (.builtin "sorted") (rSortItA X.K) := by
  intro pins s σ H xs us Q I r h
  obtain ⟨p, a, t, kk, vs, rfl, hp, da, hl, q⟩ := h
  obtain rfl := Vals.ref1 r
  have view : s.heap.IsItemsView p a := (show ObjOk X.prog X.w H s.heap p (DX.itemsO p a) from I.hok p _ hp).1
  obtain ⟨hd, _, es, ep, raw, hsz, ent⟩ := dct_raw I.hok da hl
  obtain ⟨kvs, h1, h2⟩ := keys_list (P := fun j kv => ∃ e k u, es[j]? = some e ∧ kk[j]? = some k ∧ vs[j]? = some u ∧ RelV u e.val ∧ KeyV H t k kv ∧ RelV kv e.key) kk.length fun j hj => by
    obtain ⟨e, he⟩ : ∃ e, es[j]? = some e := ⟨es[j]'(by omega), Array.getElem?_eq_getElem (by omega)⟩
    obtain ⟨k, u, kv, g1, g2, g3, g4, g5⟩ := ent j e he
    exact ⟨kv, e, k, u, he, g1, g2, g3, g4, g5⟩
  obtain ⟨bs, eb, q⟩ := q kvs h1 fun j k kv hk hv => by
    obtain ⟨e, k', u, g1, g2, g3, g4, g5, g6⟩ := h2 j kv hv
    rw [hk] at g2; cases g2
    exact g5
  have lb : bs.length = kk.length := by
    have := congrArg List.length eb
    rw [List.length_map, List.length_zip] at this
    omega
  refine DX.sorted_items (I.ok.hd hc) hu I view raw (by omega) (fun j e b he hb => ?_) q
  have hb' : (kvs.zip vs)[j]? = some b.1 := by rw [← eb, List.getElem?_map, hb]; rfl
  obtain ⟨z1, z2⟩ := List.getElem?_zip_eq_some.mp hb'
  obtain ⟨e', k', u, g1, g2, g3, g4, g5, g6⟩ := h2 j _ z1
  rw [he] at g1; cases g1
  rw [z2] at g3; cases g3
  exact ⟨g6, g4⟩

/-! ### sorted over data -/
def leD (x y : D) : Bool := leB (py x) (py y)
def SrtOk (ds : List D) : Prop := ds.length ≤ 1000000 ∧ isDatas ds = true ∧ noLs ds = true ∧ PySem.W.AllAlike (ds.map py) ∧ PySem.W.Sortable (ds.map py) ∧ ∀ d ∈ ds, (py d).depth ≤ 60
def itemD (t : Bool) (kk : List (List Key)) (ds : List D) : List D := (kk.zip ds).map fun p => .tup [keyD t p.1, p.2]
def dSortG : RN := fun dks Q => match dks with
  | [(.lst ds, _)] => SrtOk ds ∧ Q (.lst (ds.mergeSort leD)) (.R [])
  | _ => False
def rSortIt (rd : RE) : RE := fun Γ c Q => rd Γ c fun d _ c1 => match d with
  | .dct t kk ds => SrtOk (itemD t kk ds) ∧ isDatas ds = true ∧ noLs ds = true ∧ Q (.lst ((itemD t kk ds).mergeSort leD)) (.R []) c1
  | _ => False
section
variable {K : PySem.W.Frag} {F : Addr → Prop} {H : Hp}
theorem rps_zipD : ∀ {ds : List D} {vs : List V} {fp : List Addr}, noLs ds = true → Rps K F H ds vs fp → ∃ bs : List (V × D), bs.map (·.1) = vs ∧ bs.map (·.2) = ds ∧ ∀ b ∈ bs, Rp K F H b.2 b.1 []
  | [], _, _, _, ⟨e, _⟩ => ⟨[], e.symm, rfl, fun _ h => nomatch h⟩
  | d :: ds, _, _, n, ⟨v, vr, f, g, e, ef, r, rs⟩ => by
    have n' : (noL d && noLs ds) = true := n
    rw [Bool.and_eq_true] at n'
    obtain ⟨bs, h1, h2, h3⟩ := rps_zipD n'.2 rs
    have h4 : f = [] := r.nol n'.1
    subst h4
    refine ⟨(v, d) :: bs, by rw [List.map_cons, h1, e], by rw [List.map_cons, h2], fun b hb => ?_⟩
    rcases List.mem_cons.mp hb with rfl | hb
    · exact r
    · exact h3 b hb
theorem rps_unzipD : ∀ {bs : List (V × D)}, (∀ b ∈ bs, Rp K F H b.2 b.1 []) → Rps K F H (bs.map (·.2)) (bs.map (·.1)) []
  | [], _ => ⟨rfl, rfl⟩
  | b :: bs, h => ⟨_, _, [], [], rfl, rfl, h b List.mem_cons_self, rps_unzipD (bs := bs) fun x hx => h x (List.mem_cons_of_mem _ hx)⟩
theorem pys_map : ∀ ds : List D, pys ds = ds.map py
  | [] => rfl
  | d :: ds => by rw [pys, List.map_cons, pys_map ds]
theorem v_sortG : VN K (rSortDt K) dSortG := by
  intro B Hs H c vs dks fp Qd Q A ar h f
  unfold dSortG at h
  split at h
  · rename_i ds _
    obtain ⟨⟨hl, hd, hn, ha, hs, hdp⟩, q⟩ := h
    obtain ⟨x, rfl, r, n1, o1⟩ := ar.one
    obtain ⟨a, us, g, rfl, e, rfl, rs⟩ := r.lst
    obtain ⟨bs, e1, e2, hb⟩ := rps_zipD hn rs
    have m1 : (bs.map fun b => (b.1, py b.2)).map (·.1) = us := by rw [List.map_map, ← e1]; rfl
    have m2 : (bs.map fun b => (b.1, py b.2)).map (·.2) = ds.map py := by rw [List.map_map, ← e2, List.map_map]; rfl
    refine ⟨a, bs.map fun b => (b.1, py b.2), rfl, ?_, ?_, ?_, ?_, ?_, fun p hp => ?_⟩
    · rw [m1]; exact SqL.of e
    · rw [m1, m2, ← pys_map]; exact dps_of hd rs
    · rw [m2]; exact ha
    · rw [m2]; exact hs
    · intro b hb
      obtain ⟨z, hz, rfl⟩ := List.mem_map.mp hb
      exact hdp z.2 (by rw [← e2]; exact List.mem_map.mpr ⟨z, hz, rfl⟩)
    · have s1 : ((bs.map fun b => (b.1, py b.2)).mergeSort fun x y => leB x.2 y.2) = (bs.mergeSort fun x y => leD x.2 y.2).map fun b => (b.1, py b.2) := by
        rw [List.map_mergeSort]
        intro x _ y _; rfl
      have s2 : ds.mergeSort leD = (bs.mergeSort fun x y => leD x.2 y.2).map (·.2) := by
        rw [← e2, List.map_mergeSort]
        intro x _ y _; rfl
      rw [s1, List.map_map]
      have rr := rps_unzipD (K := K) (F := B.F) (H := H) (bs := bs.mergeSort fun x y => leD x.2 y.2) fun b hb' => hb b (List.mem_mergeSort.mp hb')
      rw [← s2] at rr
      exact f _ _ _ _ (same_upd hp) (A.newL hp rr (fun _ h => nomatch h) kok0) q
  · exact h.elim
theorem keyV_dp {t : Bool} {k : List Key} {kv : V} (h : KeyV H t k kv) : Dp K H kv (py (keyD t k)) ∧ Rp K F H (keyD t k) kv [] := by
  have one : ∀ k : Key, Rp K F H (eK k) (kV k) [] ∧ isData (eK k) = true := fun k => by
    cases k with
    | inl i => exact ⟨by rw [eK, Rp]; exact ⟨rfl, rfl⟩, rfl⟩
    | inr x => exact ⟨by rw [eK, Rp]; exact ⟨rfl, rfl⟩, rfl⟩
  have many : ∀ k : List Key, Rps K F H (k.map eK) (k.map kV) [] ∧ isDatas (k.map eK) = true := fun k => by
    induction k with
    | nil => exact ⟨⟨rfl, rfl⟩, rfl⟩
    | cons k r ih =>
      refine ⟨⟨_, _, [], [], rfl, rfl, (one k).1, ih.1⟩, ?_⟩
      show (isData (eK k) && isDatas (r.map eK)) = true
      rw [(one k).2, ih.2]; rfl
  rcases h with ⟨rfl, q, rfl, e⟩ | ⟨rfl, k0, rfl, rfl⟩
  · have r : Rp K F H (keyD true k) (.ref q) [] := by
      show Rp K F H (.tup (k.map eK)) _ _
      rw [Rp]; exact ⟨q, _, rfl, e, (many k).1⟩
    exact ⟨dp_of (show isData (.tup (k.map eK)) = true from (many k).2) r, r⟩
  · exact ⟨dp_of (one k0).2 (one k0).1, (one k0).1⟩
theorem ed_sortIt {td : TE} {rd : RE} (hd : ED K td rd) : ED K (tCB (rSortItA K) (tCons (tBM0 K "dict" rItemsA td) tNil)) (rSortIt rd) := by
  intro B Γ c σ H Qd Q E h f
  refine hd B Γ c σ H _ _ E h fun v H1 d k c1 x q => ?_
  have E1 := E.ext x.ext x.gens
  obtain ⟨fp, rp, ng, ok⟩ := x.rp
  split at q
  · rename_i t kk ds
    obtain ⟨⟨hl, hdt, hn, ha, hs, hdp⟩, hd1, hn1, q⟩ := q
    obtain ⟨a, us, g, rfl, da, rfl, hlen, rs⟩ := rp.dct
    obtain ⟨o, ho, om⟩ := da.mut
    have e0 : g = [] := rs.nol hn1
    subst e0
    refine ⟨?_, a, t, kk, us, rfl, rfl, da, hlen.1, fun p hp => ?_⟩
    · rcases da with ⟨_, e⟩ | ⟨_, k1, _, e⟩
      · exact .inr (.inr (.inl ⟨rfl, .inr ⟨_, e⟩⟩))
      · exact .inr (.inr (.inl ⟨rfl, .inl ⟨_, e⟩⟩))
    · have s1 : Same H1 (upd H1 p (DX.itemsO p a)) := same_upd hp
      refine ⟨p, a, t, kk, us, rfl, upd_same, da.at fun o e => s1 _ _ e, hlen.1, fun kvs lk hk => ?_⟩
      have rs' : Rps K B.F (upd H1 p (DX.itemsO p a)) ds us [] := rs.same s1
      have lds : us.length = ds.length := rs.length
      let bs : List DX.PDt := (kvs.zip us).zip ((itemD t kk ds).map py)
      have li : (itemD t kk ds).length = kk.length := by
        unfold itemD; rw [List.length_map, List.length_zip]; omega
      have lz : (kvs.zip us).length = kk.length := by rw [List.length_zip]; omega
      have b1 : bs.map (·.1) = kvs.zip us := List.map_fst_zip (by rw [List.length_map, li, lz]; exact Nat.le_refl _)
      have b2 : bs.map (·.2) = (itemD t kk ds).map py := List.map_snd_zip (by rw [List.length_map, li, lz]; exact Nat.le_refl _)
      have lb : bs.length = kk.length := by rw [← List.length_map (f := Prod.fst), show bs.map Prod.fst = _ from b1, lz]
      -- each pair, with its key and value as data
      have each : ∀ j (b : DX.PDt), bs[j]? = some b → ∃ k d, kk[j]? = some k ∧ ds[j]? = some d ∧ KeyV (upd H1 p (DX.itemsO p a)) t k b.1.1 ∧ Rp K B.F (upd H1 p (DX.itemsO p a)) d b.1.2 [] ∧ isData d = true ∧ b.2 = py (.tup [keyD t k, d]) := fun j b hb => by
        obtain ⟨z1, z2⟩ := List.getElem?_zip_eq_some.mp hb
        obtain ⟨z3, z4⟩ := List.getElem?_zip_eq_some.mp z1
        rw [List.getElem?_map] at z2
        obtain ⟨e, z5, z6⟩ := Option.map_eq_some_iff.mp z2
        unfold itemD at z5
        rw [List.getElem?_map] at z5
        obtain ⟨⟨k, d⟩, z7, z8⟩ := Option.map_eq_some_iff.mp z5
        obtain ⟨z9, z10⟩ := List.getElem?_zip_eq_some.mp z7
        subst z8
        obtain ⟨u, f0, w1, w2, w3⟩ := rs'.get z10
        rw [z4] at w1; cases w1
        have := List.sublist_nil.mp w3
        subst this
        exact ⟨k, d, z9, z10, hk j k _ z9 z3, w2, isDatas_mem hd1 d (List.mem_of_getElem? z10), z6.symm⟩
      refine ⟨bs, b1, ?_, fun b hb => ?_, ?_, ?_, fun b hb => ?_, fun H' l ts sm hl0 hnl hl1 hpr => ?_⟩
      · rw [lb, ← li]; exact hl
      · obtain ⟨j, hj⟩ := List.mem_iff_getElem?.mp hb
        obtain ⟨k, d, _, _, kv, rd, dd, e⟩ := each j b hj
        refine ⟨py (keyD t k), py d, ?_, (keyV_dp (F := B.F) kv).1, dp_of dd rd⟩
        rw [e, py, pys, pys, pys]
      · rw [b2]; exact ha
      · rw [b2]; exact hs
      · have : b.2 ∈ (itemD t kk ds).map py := by rw [← b2]; exact List.mem_map.mpr ⟨b, hb, rfl⟩
        obtain ⟨d, hd, e⟩ := List.mem_map.mp this
        rw [← e]; exact hdp d hd
      · -- the sorted pairs as data
        have s2 : Same H1 H' := fun b o e => sm b o (s1 b o e)
        let zs : List (DX.PDt × D) := bs.zip (itemD t kk ds)
        have zb : zs.map (·.1) = bs := List.map_fst_zip (by rw [lb, li]; exact Nat.le_refl _)
        have zd : zs.map (·.2) = itemD t kk ds := List.map_snd_zip (by rw [lb, li]; exact Nat.le_refl _)
        have zpy : ∀ z ∈ zs, z.1.2 = py z.2 := fun z hz => by
          obtain ⟨j, hj⟩ := List.mem_iff_getElem?.mp hz
          obtain ⟨y1, y2⟩ := List.getElem?_zip_eq_some.mp hj
          have : (bs.map (·.2))[j]? = some z.1.2 := by rw [List.getElem?_map, y1]; rfl
          rw [b2, List.getElem?_map, y2] at this
          exact (Option.some.inj this).symm
        have o1 : bs.mergeSort DX.leP = (zs.mergeSort fun x y => leD x.2 y.2).map (·.1) := by
          rw [← zb, List.map_mergeSort]
          intro x hx y hy
          show leD x.2 y.2 = leB x.1.2 y.1.2
          rw [zpy x hx, zpy y hy]; rfl
        have o2 : (itemD t kk ds).mergeSort leD = (zs.mergeSort fun x y => leD x.2 y.2).map (·.2) := by
          rw [← zd, List.map_mergeSort]
          intro x _ y _; rfl
        have rr : ∀ (ys : List (DX.PDt × D)) (ts : List Addr), (∀ y ∈ ys, y ∈ zs) → Paired (fun (t : Addr) (b : DX.PDt) => upd H1 p (DX.itemsO p a) t = none ∧ H' t = some (.tup [b.1.1, b.1.2])) ts (ys.map (·.1)) → Rps K B.F H' (ys.map (·.2)) (ts.map V.ref) [] := fun ys => by
          induction ys with
          | nil => intro ts _ h; cases h; exact ⟨rfl, rfl⟩
          | cons y ys ih =>
            intro ts hm h
            cases h with
            | @cons t0 _ ts' _ h1 h2 =>
              refine ⟨_, _, [], [], rfl, rfl, ?_, ih ts' (fun x hx => hm x (List.mem_cons_of_mem _ hx)) h2⟩
              obtain ⟨j, hj⟩ := List.mem_iff_getElem?.mp (hm y List.mem_cons_self)
              obtain ⟨y1, y2⟩ := List.getElem?_zip_eq_some.mp hj
              obtain ⟨k, d, w1, w2, kv, rd, dd, e⟩ := each j _ y1
              have ey : y.2 = .tup [keyD t k, d] := by
                have : (itemD t kk ds)[j]? = some (.tup [keyD t k, d]) := by
                  unfold itemD
                  rw [List.getElem?_map, (List.getElem?_zip_eq_some (z := (k, d))).mpr ⟨w1, w2⟩]; rfl
                rw [y2] at this
                exact Option.some.inj this
              show Rp K B.F H' y.2 _ _
              rw [ey, Rp]
              exact ⟨t0, _, rfl, h1.2, _, _, [], [], rfl, rfl, (keyV_dp (K := K) (F := B.F) kv).2.same sm, _, [], [], [], rfl, rfl, rd.same sm, rfl, rfl⟩
        have key := rr (zs.mergeSort fun x y => leD x.2 y.2) ts (fun y hy => List.mem_mergeSort.mp hy) (by rw [← o1]; exact hpr)
        rw [← o2] at key
        have ng : ¬ B.G l := fun z => by
          obtain ⟨o, e, _⟩ := (x.gens.same s1).lsts l z
          rw [hl0] at e; cases e
        have hl0' : H l = none := new_back E (x.ext.trans (Ext.same s1)) (x.gens.same s1).lsts hl0
        exact f (.ref l) H' _ (.R []) c1 ⟨x.ext.trans (Ext.same s2), x.gens.same s2, [l], .inl (by rw [Rp]; exact ⟨l, _, [], rfl, hl1, rfl, key⟩), fun y hy => by cases List.mem_singleton.mp hy; exact ng, List.nodup_cons.mpr ⟨List.not_mem_nil, List.nodup_nil⟩, fun y hy => by cases List.mem_singleton.mp hy; exact .inl hl0'⟩ q
  · exact q.elim
end
end DL
namespace DL
open PySem PySem.Spec L2
theorem _root_.L2.Room.units65 {k : Nat} {A : Around} (r : Room k A) : A.units + 65 < cLine := by have := r.un; omega
/-! ### dicts: new, get, put -/
def rDNew (t : Bool) : RE := fun _ c Q => Q (.dct t [] []) (.R []) c
section
variable {K : PySem.W.Frag}
theorem dnew_res {B : Bx} {Γ : GE} {c : Nat} {σ : L2.St} {H : Hp} {p : Addr} {o : HO} {t : Bool} (E : Env K B Γ c σ H) (hp : H p = none) (da : DcAt (upd H p o) p t [] []) : Res K B H (upd H p o) c (.ref p) (.dct t [] []) (.R []) := by
  have ng : ¬ B.G p := fun z => by
    obtain ⟨o, e, _⟩ := E.gens.lsts p z
    rw [hp] at e; cases e
  exact ⟨Ext.same (same_upd hp), E.gens.same (same_upd hp), [p], .inl (by rw [Rp]; exact ⟨p, [], [], rfl, da, rfl, ⟨rfl, List.nodup_nil⟩, rfl, rfl⟩), fun y hy => by cases List.mem_singleton.mp hy; exact ng, List.nodup_cons.mpr ⟨List.not_mem_nil, List.nodup_nil⟩, fun y hy => by cases List.mem_singleton.mp hy; exact .inl hp⟩
theorem ed_dnewT : ED K tDNewT (rDNew true) := by
  intro B Γ c σ H Qd Q E h f p hp
  exact f _ _ _ _ c (dnew_res E hp (.inl ⟨rfl, upd_same⟩)) h
theorem ed_dnewK : ED K tDNewK (rDNew false) := by
  intro B Γ c σ H Qd Q E h f p hp
  exact f _ _ _ _ c (dnew_res E hp (.inr ⟨rfl, [], rfl, upd_same⟩)) h
end
def rDGet2 (rd ry rx : RE) : RE := fun Γ c Q => rd Γ c fun d kd c1 => match d with
  | .dct t kk ds => ry Γ c1 fun y _ c2 => rx Γ c2 fun z kz c3 => ∃ k, keyOf t y = some k ∧ match dval kk ds k with
    | some e => Q e kd c3
    | none => Q z kz c3
  | _ => False
def rDGet1 (rd ry : RE) : RE := fun Γ c Q => rd Γ c fun d kd c1 => match d with
  | .dct t kk ds => ry Γ c1 fun y _ c2 => ∃ k, keyOf t y = some k ∧ match dval kk ds k with
    | some e => Q e kd c2
    | none => Q .non (.R []) c2
  | _ => False
section
variable {K : PySem.W.Frag} {B : Bx} {Γ : GE} {σ : L2.St} {Hs H H' : Hp} {c c' : Nat} {v : V} {d : D} {k : Kd} {fp : List Addr}
theorem isD_of {a : Addr} {t : Bool} {kk : List (List Key)} {us : List V} (h : DcAt H a t kk us) : IsD H a := by
  rcases h with ⟨_, e⟩ | ⟨_, k1, _, e⟩
  · exact .inr ⟨_, .inl e⟩
  · exact .inl ⟨_, .inl e⟩
/-- what stands in a dict at a key, with the dict's kind -/
theorem dct_item {t : Bool} {kk : List (List Key)} {ds : List D} {key : List Key} {x y : V} {dy : D} {fy : List Addr} (A : At K B Hs H c) (r : Res K B Hs H c x (.dct t kk ds) k) (ry : RpG K B.F B.G H dy y fy) (hk : keyOf t dy = some key) :
    ∃ a, x = .ref a ∧ IsD H a ∧ (∀ e, dval kk ds key = some e → ∃ u, DGet H a y (some u) ∧ Res K B Hs H c u e k) ∧ (dval kk ds key = none → DGet H a y none) := by
  obtain ⟨fp, rp, ng, ok⟩ := r.rp
  obtain ⟨a, us, g, rfl, da, rfl, hl, rs⟩ := rp.dct
  have dg := dct_get da hl.1 ry hk
  refine ⟨a, rfl, isD_of da, fun e he => ?_, fun he => ?_⟩
  · unfold dval at he
    obtain ⟨j, hj, hd⟩ := Option.bind_eq_some_iff.mp he
    obtain ⟨u, g', hu, rp', sl⟩ := rs.get hd
    rw [hj] at dg
    have dg : DGet H a y (us[j]?) := dg
    rw [hu] at dg
    exact ⟨u, dg, ⟨r.ext, r.gens, g', .inl rp', fun x hx => ng x (List.mem_cons_of_mem _ (sl.subset hx)), ok.sub (sl.cons _)⟩⟩
  · unfold dval at he
    cases hj : kix kk key with
    | none => rw [hj] at dg; exact dg
    | some j =>
      rw [hj] at he dg
      have he : ds[j]? = none := he
      have dg : DGet H a y (us[j]?) := dg
      have : us[j]? = none := by
        rw [List.getElem?_eq_none_iff] at he ⊢
        rw [rs.length]; exact he
      rw [this] at dg
      exact dg
theorem ed_dget2 {td ty tx : TE} {rd ry rx : RE} (hd : ED K td rd) (hy : ED K ty ry) (hx : ED K tx rx) : ED K (tDGet2 td ty tx) (rDGet2 rd ry rx) := by
  intro B Γ c σ H Qd Q E h f
  refine hd B Γ c σ H _ _ E h fun x H1 d kd c1 r1 q => ?_
  have E1 := E.ext r1.ext r1.gens
  split at q
  · rename_i t kk ds
    obtain ⟨a, rfl, i1⟩ : ∃ a, x = .ref a ∧ IsD H1 a := by
      obtain ⟨fp, rp, _⟩ := r1.rp
      obtain ⟨a, us, g, rfl, da, _⟩ := rp.dct
      exact ⟨a, rfl, isD_of da⟩
    refine ⟨a, rfl, i1, ?_⟩
    refine hy B Γ c1 σ H1 _ _ E1 q fun y H2 dy ky c2 r2 q => ?_
    have E2 := E1.ext r2.ext r2.gens
    have r1' := r1.on E.fg r2.ext r2.gens
    refine hx B Γ c2 σ H2 _ _ E2 q fun z H3 dz kz c3 r3 q => ?_
    have r1' := r1'.on E.fg r3.ext r3.gens
    have r2' := r2.on E.fg r3.ext r3.gens
    obtain ⟨key, hk, q⟩ := q
    obtain ⟨fy, ry, _⟩ := r2'.rp
    obtain ⟨a', ea, _, g1, g2⟩ := dct_item (K := K) (Hs := H) ⟨⟨Γ, σ, c, E⟩, r1'.ext, r1'.gens⟩ r1' ry hk
    cases ea
    cases e : dval kk ds key with
    | some e' =>
      rw [e] at q
      obtain ⟨u, dg, ru⟩ := g1 _ e
      exact ⟨_, dg, f u H3 _ _ _ ru q⟩
    | none =>
      rw [e] at q
      exact ⟨_, g2 e, f z H3 _ _ _ ((r3.back E1 r2.ext r2.gens.lsts).back E r1.ext r1.gens.lsts) q⟩
  · exact q.elim
theorem ed_dget1 {td ty : TE} {rd ry : RE} (hd : ED K td rd) (hy : ED K ty ry) : ED K (tDGet1 td ty) (rDGet1 rd ry) := by
  intro B Γ c σ H Qd Q E h f
  refine hd B Γ c σ H _ _ E h fun x H1 d kd c1 r1 q => ?_
  have E1 := E.ext r1.ext r1.gens
  split at q
  · rename_i t kk ds
    obtain ⟨a, rfl, i1⟩ : ∃ a, x = .ref a ∧ IsD H1 a := by
      obtain ⟨fp, rp, _⟩ := r1.rp
      obtain ⟨a, us, g, rfl, da, _⟩ := rp.dct
      exact ⟨a, rfl, isD_of da⟩
    refine ⟨a, rfl, i1, ?_⟩
    refine hy B Γ c1 σ H1 _ _ E1 q fun y H2 dy ky c2 r2 q => ?_
    have r1' := r1.on E.fg r2.ext r2.gens
    obtain ⟨key, hk, q⟩ := q
    obtain ⟨fy, ry, _⟩ := r2.rp
    obtain ⟨a', ea, _, g1, g2⟩ := dct_item (K := K) (Hs := H) ⟨⟨Γ, σ, c, E⟩, r1'.ext, r1'.gens⟩ r1' ry hk
    cases ea
    cases e : dval kk ds key with
    | some e' =>
      rw [e] at q
      obtain ⟨u, dg, ru⟩ := g1 _ e
      exact ⟨_, dg, f u H2 _ _ _ ru q⟩
    | none =>
      rw [e] at q
      exact ⟨_, g2 e, f .non H2 _ _ _ (Res.flat r1'.ext r1'.gens rp_non) q⟩
  · exact q.elim
end
/-! ### d[k] = v, xs[i] = v at a place -/
def dputD (t : Bool) (kk : List (List Key)) (ds : List D) (k : List Key) (e : D) : D := match kix kk k with
  | some j => .dct t kk (ds.set j e)
  | none => .dct t (kk ++ [k]) (ds ++ [e])
theorem putK_zip {κ : Type} [DecidableEq κ] (y : κ) (v : V) : ∀ {kk : List κ} {us : List V}, kk.Nodup → kk.length = us.length → putK (kk.zip us) y v = match kix kk y with
    | some j => kk.zip (us.set j v)
    | none => (kk ++ [y]).zip (us ++ [v])
  | [], [], _, _ => rfl
  | k :: kr, u :: ur, hn, hl => by
    have hn' := List.nodup_cons.mp hn
    have hl' : kr.length = ur.length := Nat.succ.inj hl
    have ih := putK_zip y v hn'.2 hl'
    have av : (((k :: kr).zip (u :: ur)).any fun kv => decide (kv.1 = y)) = (kix (k :: kr) y).isSome := by
      rw [valV_any, kix_val y hl]
      cases h : kix (k :: kr) y with
      | none => rfl
      | some j =>
        have hj : j < (u :: ur).length := by
          have := (List.getElem?_eq_some_iff.mp (kix_lt h)).1
          omega
        show ((u :: ur)[j]?).isSome = true
        rw [List.getElem?_eq_getElem hj]; rfl
    by_cases e : k = y
    · subst e
      have e1 : kix (k :: kr) k = some 0 := by unfold kix; rw [if_pos rfl]
      rw [e1]
      unfold putK
      rw [av, e1]
      show (if true = true then ((k, u) :: kr.zip ur).map (fun kv => if kv.1 = k then (kv.1, v) else kv) else _) = (k, v) :: kr.zip ur
      rw [if_pos rfl, List.map_cons, if_pos rfl]
      congr 1
      rw [List.map_congr_left (g := fun kv => kv)]
      · exact List.map_id' _
      · intro kv hkv
        rw [if_neg]
        intro z
        exact hn'.1 (z ▸ (List.of_mem_zip (a := kv.1) (b := kv.2) hkv).1)
    · have e1 : kix (k :: kr) y = (kix kr y).map (· + 1) := by
        show (if k = y then some 0 else (kix kr y).map (· + 1)) = _
        rw [if_neg e]
      have av' : ((kr.zip ur).any fun kv => decide (kv.1 = y)) = (kix kr y).isSome := by
        have : (((k :: kr).zip (u :: ur)).any fun kv => decide (kv.1 = y)) = (decide (k = y) || ((kr.zip ur).any fun kv => decide (kv.1 = y))) := rfl
        rw [this, decide_eq_false e, Bool.false_or, e1, Option.isSome_map] at av
        exact av
      unfold putK at ih ⊢
      rw [av, e1, Option.isSome_map]
      rw [av'] at ih
      cases h : kix kr y with
      | none =>
        rw [h] at ih
        show (if false = true then _ else (k, u) :: kr.zip ur ++ [(y, v)]) = (k, u) :: (kr ++ [y]).zip (ur ++ [v])
        rw [if_neg Bool.false_ne_true]
        have ih : (if false = true then _ else kr.zip ur ++ [(y, v)]) = (kr ++ [y]).zip (ur ++ [v]) := ih
        rw [if_neg Bool.false_ne_true] at ih
        rw [List.cons_append, ih]
      | some j =>
        rw [h] at ih
        have ih : (if true = true then (kr.zip ur).map (fun kv => if kv.1 = y then (kv.1, v) else kv) else _) = kr.zip (ur.set j v) := ih
        rw [if_pos rfl] at ih
        show (if true = true then ((k, u) :: kr.zip ur).map (fun kv => if kv.1 = y then (kv.1, v) else kv) else _) = (k, u) :: kr.zip (ur.set j v)
        rw [if_pos rfl, List.map_cons, if_neg (show ¬ (k, u).1 = y from e), ih]
section
variable {K : PySem.W.Frag} {B : Bx} {Γ : GE} {σ σ' : L2.St} {H H' : Hp} {c c' : Nat} {fp : List Addr} {k : Kd} {d e : D} {v u : V} {ds : List D} {vs : List V} {sk : SK} {i : Nat} {t : Bool} {kk : List (List Key)}
/-- a change of the dict at a place -/
theorem Plc.dct {put : D → D} (E : Env K B Γ c σ H) (p : Plc B Γ σ H i u (.dct t kk ds) put sk) : ∃ a vs f, u = .ref a ∧ DcAt H a t kk vs ∧ (kk.length = vs.length ∧ kk.Nodup) ∧ Rps K B.F H ds vs f ∧ (a :: f).Nodup ∧ (∀ x ∈ f, B.O i x) ∧ B.O i a ∧ ∀ (o : HO) (kk' : List (List Key)) (ds' : List D) (vs' : List V) (f' fe : List Addr) (is : List Nat), isMut o = true → DcAt (upd H a o) a t kk' vs' → (kk'.length = vs'.length ∧ kk'.Nodup) → Inc B H i is fe → (∀ x ∈ fe, ∃ o, H x = some o) → Rps K B.F H ds' vs' f' → f'.Nodup → (∀ x ∈ f', x ∈ f ∨ x ∈ fe) →
    ∃ B', Like B B' ∧ Env K B' (gset (kills is Γ) i (some ⟨sk, put (.dct t kk' ds')⟩)) c σ (upd H a o) ∧ B'.F = B.F ∧ (∀ x ∈ f, x ∉ f' → ∀ j, ¬ B'.O j x) ∧ ∀ (e : D) (w : V) (h : List Addr), (∀ x ∈ h, x ≠ a) → Rp K B.F H e w h → Rp K B.F (upd H a o) e w h := by
  obtain ⟨g, rg, nd, og, mk⟩ := p.rp E
  rw [Rp] at rg
  obtain ⟨a, vs, f, rfl, da, rfl, hl, rs⟩ := rg
  have nd' := List.nodup_cons.mp nd
  obtain ⟨o0, ea, _⟩ := da.mut
  refine ⟨a, vs, f, rfl, da, hl, rs, nd, fun x hx => og x (List.mem_cons_of_mem _ hx), og a List.mem_cons_self, fun o kk' ds' vs' f' fe is mo da' hl' inc fat rs' ndf sub => ?_⟩
  have at' : ∀ {x : Addr}, (∃ o, H x = some o) → ∃ o', upd H a o x = some o' := fun {x} ⟨o, e⟩ => by
    by_cases z : x = a
    · subst z; exact ⟨_, upd_same⟩
    · exact ⟨o, by rw [upd_ne z]; exact e⟩
  have oa := og a List.mem_cons_self
  have na : ∀ x ∈ f', x ≠ a := fun x hx z => by
    subst z
    rcases sub x hx with w | w
    · exact nd'.1 w
    · exact inc.no x w oa
  have lD : Lsts (fun b => b = a) H := fun x z => by subst z; exact da.mut
  have fD : ∀ x, B.F x → ¬ x = a := fun x fx z => (E.ol i a oa).2.1 (z ▸ fx)
  obtain ⟨B', b1, b3, b4, b5⟩ := mk (upd H a o) (.dct t kk' ds') (a :: f') fe is inc (fun x hx => at' (fat x hx)) (fun b o e n => by
    rw [upd_ne fun z => n (by rw [z]; exact List.mem_cons_self)]; exact e) (fun x hx => at' (E.ol i x (og x hx)).1) (by
      rw [Rp]
      exact ⟨a, vs', f', rfl, da', rfl, hl', rs'.ext lD fD ext_upd na⟩) (List.nodup_cons.mpr ⟨fun z => na a z rfl, ndf⟩) (fun x hx => (List.mem_cons.mp hx).elim (fun z => .inl (z ▸ List.mem_cons_self)) fun z => (sub x z).imp (List.mem_cons_of_mem _) id)
  exact ⟨B', b1, b3, b4, fun x hx hn => b5 x (List.mem_cons_of_mem _ hx) fun z => (List.mem_cons.mp z).elim (fun z => nd'.1 (z ▸ hx)) hn, fun e w h hh r => r.ext lD fD ext_upd hh⟩
/-- what a store of w at the key y makes of the dict at a -/
theorem dct_put {a : Addr} {y w : V} {dy : D} {fy : List Addr} {key : List Key} {F G : Addr → Prop} (da : DcAt H a t kk vs) (hl : kk.length = vs.length ∧ kk.Nodup) (hz : kk.length < 1000000) (ry : RpG K F G H dy y fy) (hk : keyOf t dy = some key) :
    ∃ o, isMut o = true ∧ DPut H a y w (upd H a o) ∧ match kix kk key with
      | some j => DcAt (upd H a o) a t kk (vs.set j w) ∧ kk.length = (vs.set j w).length
      | none => DcAt (upd H a o) a t (kk ++ [key]) (vs ++ [w]) ∧ (kk ++ [key]).length = (vs ++ [w]).length ∧ (kk ++ [key]).Nodup := by
  have hsz : 1000000 < sizeLine := by decide
  have nod : ∀ {κ : Type} [DecidableEq κ] {l : List κ} {y : κ}, kix l y = none → y ∉ l := fun {κ _ l y} h => by
    induction l with
    | nil => exact List.not_mem_nil
    | cons k r ih =>
      unfold kix at h
      by_cases e : k = y
      · rw [if_pos e] at h; cases h
      · rw [if_neg e] at h
        intro z
        rcases List.mem_cons.mp z with z | z
        · exact e z.symm
        · exact ih (Option.map_eq_none_iff.mp h) z
  have fin : ∀ o, ((∀ j, kix kk key = some j → DcAt (upd H a o) a t kk (vs.set j w)) ∧ (kix kk key = none → DcAt (upd H a o) a t (kk ++ [key]) (vs ++ [w]))) → match kix kk key with
      | some j => DcAt (upd H a o) a t kk (vs.set j w) ∧ kk.length = (vs.set j w).length
      | none => DcAt (upd H a o) a t (kk ++ [key]) (vs ++ [w]) ∧ (kk ++ [key]).length = (vs ++ [w]).length ∧ (kk ++ [key]).Nodup := fun o h => by
    cases e : kix kk key with
    | some j => exact ⟨h.1 j e, by rw [List.length_set]; exact hl.1⟩
    | none => exact ⟨h.2 e, by rw [List.length_append, List.length_append, hl.1]; rfl, List.nodup_append.mpr ⟨hl.2, List.nodup_cons.mpr ⟨List.not_mem_nil, List.nodup_nil⟩, fun x hx y hy z => by cases List.mem_singleton.mp hy; exact nod e (z ▸ hx)⟩⟩
  rcases da with ⟨rfl, e⟩ | ⟨rfl, k1, rfl, e⟩
  · unfold keyOf at hk
    split at hk
    · rename_i ds
      rw [if_pos rfl] at hk
      obtain ⟨b, us, rfl, eb, rs⟩ := ry.tup
      obtain ⟨e1, _, _⟩ := toKs_rps hk rs
      subst e1
      refine ⟨_, rfl, DPut.t (k := key) (v := w) e eb (by rw [List.length_zip]; omega), fin _ ⟨fun j hj => .inl ⟨rfl, ?_⟩, fun hj => .inl ⟨rfl, ?_⟩⟩⟩
      · rw [upd_same, putK_zip key w hl.2 hl.1, hj]
      · rw [upd_same, putK_zip key w hl.2 hl.1, hj]
    · cases hk
  · unfold keyOf at hk
    split at hk
    · cases hk
    · rw [if_neg (by decide)] at hk
      obtain ⟨k0, h0, rfl⟩ := Option.map_eq_some_iff.mp hk
      have ng : dy ≠ .gen := fun z => by rw [z] at h0; cases h0
      obtain ⟨rfl, _, _⟩ := toK_rp h0 (ry.rp ng)
      have l1 : k1.length = vs.length := by rw [← hl.1, List.length_map]
      have n1 : k1.Nodup := (List.pairwise_map.mp hl.2).imp fun h z => h (by rw [z])
      have kx : kix (k1.map fun k => [k]) [k0] = kix k1 k0 := kix_map (fun k => [k]) (fun a b h => by injection h) k0 k1
      refine ⟨_, rfl, DPut.k (k := k0) (v := w) e (by rw [List.length_zip]; rw [List.length_map] at hz; omega), fin _ ⟨fun j hj => .inr ⟨rfl, k1, rfl, ?_⟩, fun hj => .inr ⟨rfl, k1 ++ [k0], by rw [List.map_append]; rfl, ?_⟩⟩⟩
      · rw [kx] at hj
        rw [upd_same, putK_zip k0 w n1 l1, hj]
      · rw [kx] at hj
        rw [upd_same, putK_zip k0 w n1 l1, hj]
def rSetA : V → V → V → Hp → (Hp → Prop) → Prop := fun o i v H Q => rSetL o i v H Q ∨ rSetD o i v H Q
theorem set_any {X : Cx} (hu : X.A.units + 64 < cLine) : PSet X rSetA := by
  intro pins s σ H o i v ov iv u Q I ro ri rv h
  rcases h with h | h
  · exact set_list pins s σ H o i v ov iv u Q I ro ri rv h
  · exact set_dict (by omega) pins s σ H o i v ov iv u Q I ro ri rv h
def rpSetA (rp : RP) (i : Nat) (rix re : RE) : RS := fun Dd Γ c => re Γ c fun e k c0 => rp Γ c0 fun d put sk c1 => rix Γ c1 fun y _ c2 => match d, y with
  | .lst ds, .int n => e ≠ .gen ∧ ∃ j, ixN ds.length n = some j ∧ IntoOk Γ i e k fun Γ' => Dd.nx (gset Γ' i (some ⟨sk, put (.lst (ds.set j e))⟩)) c2
  | .dct t kk ds, y => e ≠ .gen ∧ kk.length < 1000000 ∧ ∃ key, keyOf t y = some key ∧ IntoOk Γ i e k fun Γ' => Dd.nx (gset Γ' i (some ⟨sk, put (dputD t kk ds key e)⟩)) c2
  | _, _ => False
theorem sd_psetA {t tx te : TE} {rp : RP} {rix re : RE} (hp : PD K i t rp) (hx : ED K tx rix) (he : ED K te re) : SD K (tAsg te (gSub t tx rSetA)) (rpSetA rp i rix re) := by
  intro en hd Dd D L B Γ c σ H h1 h3 E q
  refine he B Γ c σ H _ _ E q fun w H1 e k c1 x q => ?_
  have E1 := E.ext x.ext x.gens
  refine hp B Γ c1 σ H1 _ _ E1 q fun u H2 d put sk c2 e2 g2 p2 q => ?_
  have E2 := E1.ext e2 g2
  refine hx B Γ c2 σ H2 _ _ E2 q fun y H3 dy ky c3 x3 q => ?_
  have E3 := E2.ext x3.ext x3.gens
  have p3 := p2.ext E2 x3.ext
  split at q
  · rename_i ds n _
    obtain ⟨ne, j, hj, q⟩ := q
    obtain ⟨fy, ry, _⟩ := x3.rp
    obtain ⟨a, vs, f, rfl, ea, rs, nd, of, oa, mk⟩ := p3.lst E3
    obtain ⟨fe, re, nge, ok⟩ := x.rp
    have re := re.rp ne
    obtain ⟨is, inc, pq⟩ := into_inc E re nge ok q
    have inc3 : Inc B H3 i is fe := ⟨inc.ni, inc.nd, inc.ok, inc.no⟩
    have re3 : Rp K B.F H3 e w fe := (re.ext x.gens.lsts E.fg e2 nge).ext g2.lsts E.fg x3.ext nge
    have hlt : j < ds.length := (ixN_seq hj).2.1
    obtain ⟨v0, f1, f0, f2, hv0, rv0, rfl, cl⟩ := rs.get3 (List.getElem?_eq_getElem hlt)
    have rs' := cl H3 e w fe (fun _ _ _ _ r => r) re3
    have n1 := List.nodup_append.mp (List.nodup_cons.mp nd).2
    have n2 := List.nodup_append.mp n1.2.1
    obtain ⟨B', b1, b3, _⟩ := mk (ds.set j e) (vs.set j w) (f1 ++ (fe ++ f2)) fe is inc3 (fun x hx => let ⟨o, z, _⟩ := re3.at x hx; ⟨o, z⟩) rs'
      (List.nodup_append.mpr ⟨n1.1, List.nodup_append.mpr ⟨inc.nd, n2.2.1, fun x hx y hy z => inc.no x hx (z ▸ of y (List.mem_append_right _ (List.mem_append_right _ hy)))⟩, fun x hx y hy z => by
        subst z
        rcases List.mem_append.mp hy with hy | hy
        · exact inc.no x hy (of x (List.mem_append_left _ hx))
        · exact n1.2.2 x hx x (List.mem_append_right _ hy) rfl⟩)
      (fun x hx => by
        rcases List.mem_append.mp hx with hx | hx
        · exact .inl (List.mem_append_left _ hx)
        · rcases List.mem_append.mp hx with hx | hx
          · exact .inr hx
          · exact .inl (List.mem_append_right _ (List.mem_append_right _ hx)))
    obtain ⟨w1, w3⟩ := b1.to h1 h3
    exact .inl ⟨a, vs, n, j, rfl, ry.int, ea, by rw [rs.length]; exact hj, L.nx B' _ c3 σ _ w1 w3 b3 pq⟩
  · rename_i t kk ds _
    obtain ⟨ne, hz, key, hk, q⟩ := q
    obtain ⟨fy, ry, _⟩ := x3.rp
    obtain ⟨a, vs, f, rfl, da, hl, rs, nd, of, oa, mk⟩ := p3.dct E3
    obtain ⟨fe, re, nge, ok⟩ := x.rp
    have re := re.rp ne
    obtain ⟨is, inc, pq⟩ := into_inc E re nge ok q
    have inc3 : Inc B H3 i is fe := ⟨inc.ni, inc.nd, inc.ok, inc.no⟩
    have re3 : Rp K B.F H3 e w fe := (re.ext x.gens.lsts E.fg e2 nge).ext g2.lsts E.fg x3.ext nge
    have fat : ∀ x ∈ fe, ∃ o, H3 x = some o := fun x hx => let ⟨o, z, _⟩ := re3.at x hx; ⟨o, z⟩
    obtain ⟨o, mo, dp, m⟩ := dct_put (K := K) (w := w) da hl hz ry hk
    refine .inr ⟨a, _, rfl, dp, ?_⟩
    have n1 := (List.nodup_cons.mp nd).2
    unfold dputD at pq
    cases hj : kix kk key with
    | some j =>
      rw [hj] at m pq
      have hlt : j < ds.length := by
        have := (List.getElem?_eq_some_iff.mp (kix_lt hj)).1
        have := rs.length
        omega
      obtain ⟨v0, f1, f0, f2, hv0, rv0, rfl, cl⟩ := rs.get3 (List.getElem?_eq_getElem hlt)
      have rs' := cl H3 e w fe (fun _ _ _ _ r => r) re3
      have n1 := List.nodup_append.mp n1
      have n2 := List.nodup_append.mp n1.2.1
      obtain ⟨B', b1, b3, _⟩ := mk o kk (ds.set j e) (vs.set j w) (f1 ++ (fe ++ f2)) fe is mo m.1 ⟨m.2, hl.2⟩ inc3 fat rs'
        (List.nodup_append.mpr ⟨n1.1, List.nodup_append.mpr ⟨inc.nd, n2.2.1, fun x hx y hy z => inc.no x hx (z ▸ of y (List.mem_append_right _ (List.mem_append_right _ hy)))⟩, fun x hx y hy z => by
          subst z
          rcases List.mem_append.mp hy with hy | hy
          · exact inc.no x hy (of x (List.mem_append_left _ hx))
          · exact n1.2.2 x hx x (List.mem_append_right _ hy) rfl⟩)
        (fun x hx => by
          rcases List.mem_append.mp hx with hx | hx
          · exact .inl (List.mem_append_left _ hx)
          · rcases List.mem_append.mp hx with hx | hx
            · exact .inr hx
            · exact .inl (List.mem_append_right _ (List.mem_append_right _ hx)))
      obtain ⟨w1, w3⟩ := b1.to h1 h3
      exact L.nx B' _ c3 σ _ w1 w3 b3 pq
    | none =>
      rw [hj] at m pq
      obtain ⟨B', b1, b3, _⟩ := mk o (kk ++ [key]) (ds ++ [e]) (vs ++ [w]) (f ++ fe) fe is mo m.1 m.2 inc3 fat (rs.append (Rps.one re3))
        (List.nodup_append.mpr ⟨n1, inc.nd, fun x hx y hy z => inc.no y hy (z ▸ of x hx)⟩) (fun x hx => List.mem_append.mp hx)
      obtain ⟨w1, w3⟩ := b1.to h1 h3
      exact L.nx B' _ c3 σ _ w1 w3 b3 pq
  · exact q.elim
end
end DL
namespace DL
open PySem PySem.Spec L2
/-! ### in, not in -/
def flatD : D → Bool
  | .non | .bl _ | .int _ | .str _ => true
  | _ => false
theorem flatD_rp {K : PySem.W.Frag} {F : Addr → Prop} {H : Hp} {d : D} {v : V} {fp : List Addr} (h : flatD d = true) (r : Rp K F H d v fp) : flatV v = true ∧ ∀ {e : D} {w : V} {g : List Addr}, flatD e = true → Rp K F H e w g → eqV w v = PyData.eqv (py e) (py d) := by
  cases d with
  | non =>
    rw [Rp] at r; obtain ⟨rfl, _⟩ := r
    refine ⟨rfl, fun {e w g} he re => ?_⟩
    cases e <;> first | (cases he; done) | (rw [Rp] at re; obtain ⟨rfl, _⟩ := re; simp [py, eqV, PyData.eqv])
  | bl b =>
    rw [Rp] at r; obtain ⟨rfl, _⟩ := r
    refine ⟨rfl, fun {e w g} he re => ?_⟩
    cases e <;> first | (cases he; done) | (rw [Rp] at re; obtain ⟨rfl, _⟩ := re; simp [py, eqV, PyData.eqv])
  | int b =>
    rw [Rp] at r; obtain ⟨rfl, _⟩ := r
    refine ⟨rfl, fun {e w g} he re => ?_⟩
    cases e <;> first | (cases he; done) | (rw [Rp] at re; obtain ⟨rfl, _⟩ := re; simp [py, eqV, PyData.eqv])
  | str b =>
    rw [Rp] at r; obtain ⟨rfl, _⟩ := r
    refine ⟨rfl, fun {e w g} he re => ?_⟩
    cases e <;> first | (cases he; done) | (rw [Rp] at re; obtain ⟨rfl, _⟩ := re; simp [py, eqV, PyData.eqv])
  | _ => cases h
theorem flatDs_rps {K : PySem.W.Frag} {F : Addr → Prop} {H : Hp} {d : D} {v : V} {f0 : List Addr} (h : flatD d = true) (r : Rp K F H d v f0) : ∀ {ds : List D} {vs : List V} {fp : List Addr}, ds.all flatD = true → Rps K F H ds vs fp → vs.all flatV = true ∧ inV v vs = ds.any fun z => PyData.eqv (py z) (py d)
  | [], _, _, _, ⟨e, _⟩ => by subst e; exact ⟨rfl, rfl⟩
  | e :: ds, _, _, ha, ⟨w, wr, f, g, ev, ef, re, rs⟩ => by
    subst ev
    rw [List.all_cons, Bool.and_eq_true] at ha
    obtain ⟨h1, h2⟩ := flatDs_rps h r ha.2 rs
    refine ⟨by rw [List.all_cons, (flatD_rp ha.1 re).1, h1]; rfl, ?_⟩
    show (eqV w v || inV v wr) = (PyData.eqv (py e) (py d) || _)
    rw [h2, (flatD_rp h r).2 ha.1 re]
def rInA (K : PySem.W.Frag) (neg : Bool) : R2 := fun x y H Q => (∃ a o, y = .ref a ∧ DGet H a x o ∧ Q (.bl (neg != o.isSome)) H) ∨ ((∃ d ds, Dp K H x d ∧ Dp K H y (.list ds) ∧ SeqAt.shaped d = true ∧ SeqAt.shaped (.list ds) = true ∧ Q (.bl (neg != ds.any fun z => PyData.eqv z d)) H) ∨ (rIn K neg x y H Q ∨ ∃ i j, x = .str i ∧ y = .str j ∧ Q (.bl (neg != !(Builtin.Str.occurrences j i 0 j.length 1).isEmpty)) H))
theorem op_inA {X : Cx} (hu : X.A.units + 65 < cLine) : OpR X (compareOp .In) (rInA X.K false) := by
  intro pins s σ H x y v u Q I rx ry h
  have e : ∀ b : Bool, (false != b) = b := fun b => by cases b <;> rfl
  rcases h with ⟨a, o, rfl, g, q⟩ | ⟨d, ds, h1, h2, h3, h4, q⟩ | h | ⟨i, j, h1, h2, q⟩
  · cases ry
    rw [e] at q
    exact d_in (by omega) I g rx fun s3 I3 => ⟨.bl o.isSome, H, I3, rfl, q⟩
  · rw [e] at q
    exact op_inD hu pins s σ H x y v u Q I rx ry ⟨d, ds, h1, h2, h3, h4, q⟩
  · exact op_in_seq pins s σ H x y v u Q I rx ry h
  · rw [e] at q
    exact op_in_str pins s σ H x y v u Q I rx ry ⟨i, j, h1, h2, q⟩
theorem op_notInA {X : Cx} (hu : X.A.units + 65 < cLine) : OpR X (compareOp .NotIn) (rInA X.K true) := by
  intro pins s σ H x y v u Q I rx ry h
  have e : ∀ b : Bool, (true != b) = !b := fun b => by cases b <;> rfl
  rcases h with ⟨a, o, rfl, g, q⟩ | ⟨d, ds, h1, h2, h3, h4, q⟩ | h | ⟨i, j, h1, h2, q⟩
  · cases ry
    rw [e] at q
    exact d_notIn (by omega) I g rx fun s3 I3 => ⟨.bl (!o.isSome), H, I3, rfl, q⟩
  · rw [e] at q
    exact op_notInD hu pins s σ H x y v u Q I rx ry ⟨d, ds, h1, h2, h3, h4, q⟩
  · exact op_notIn_seq pins s σ H x y v u Q I rx ry h
  · rw [e] at q
    exact op_notIn_str pins s σ H x y v u Q I rx ry ⟨i, j, h1, h2, q⟩
def dIn (neg : Bool) : RD2 := fun x _ y _ Q => match y with
  | .dct t kk _ => ∃ k, keyOf t x = some k ∧ Q (.bl (neg != (kix kk k).isSome)) (.R [])
  | .lst ds => EqOk x ∧ EqOk (.lst ds) ∧ Q (.bl (neg != ds.any fun z => PyData.eqv (py z) (py x))) (.R [])
  | .tup ds => flatD x = true ∧ ds.all flatD = true ∧ Q (.bl (neg != ds.any fun z => PyData.eqv (py z) (py x))) (.R [])
  | .mt ds => flatD x = true ∧ ds.all flatD = true ∧ Q (.bl (neg != ds.any fun z => PyData.eqv (py z) (py x))) (.R [])
  | .str b => ∃ a, x = .str a ∧ Q (.bl (neg != !(Builtin.Str.occurrences b a 0 b.length 1).isEmpty)) (.R [])
  | _ => False
theorem flatD_ng {d : D} (h : flatD d = true) : d ≠ .gen := fun e => by subst e; cases h
theorem v_in (neg : Bool) {K : PySem.W.Frag} : V2 K (rInA K neg) (dIn neg) := by
  intro B Hs H c x y dx kx dy ky fp Qd Q A ar h f
  obtain ⟨f1, f2, rfl, r1, r2, n1, n2, o1, o2, _⟩ := ar.one2
  have seq : ∀ {a : Addr} {ds : List D} {vs : List V} {g : List Addr}, y = .ref a → SqT K H a vs → Rps K B.F H ds vs g → flatD dx = true → ds.all flatD = true → Qd (.bl (neg != ds.any fun z => PyData.eqv (py z) (py dx))) (.R []) → rInA K neg x y H Q := fun {a ds vs g} ey sq rs h1 h2 q => by
    obtain ⟨e1, e2⟩ := flatDs_rps h1 (r1.rp (flatD_ng h1)) h2 rs
    refine .inr (.inr (.inl ⟨a, vs, ey, .inr sq, (flatD_rp h1 (r1.rp (flatD_ng h1))).1, e1, ?_⟩))
    have : (if neg = true then !inV x vs else inV x vs) = (neg != ds.any fun z => PyData.eqv (py z) (py dx)) := by
      rw [e2]
      cases neg <;> cases (ds.any fun z => PyData.eqv (py z) (py dx)) <;> rfl
    rw [this]
    exact f _ H _ _ (Same.refl _) (A.flat rp_bl) q
  unfold dIn at h
  split at h
  · rename_i t kk ds
    obtain ⟨k, hk, q⟩ := h
    obtain ⟨a, us, g, rfl, da, rfl, hl, rs⟩ := r2.dct
    have dg := dct_get da hl.1 r1 hk
    refine .inl ⟨a, _, rfl, dg, ?_⟩
    have : ((kix kk k).bind fun j => us[j]?).isSome = (kix kk k).isSome := by
      cases e : kix kk k with
      | none => rfl
      | some j =>
        have hj : j < us.length := by have := (List.getElem?_eq_some_iff.mp (kix_lt e)).1; omega
        show (us[j]?).isSome = true
        rw [List.getElem?_eq_getElem hj]; rfl
    rw [this]
    exact f _ H _ _ (Same.refl _) (A.flat rp_bl) q
  · rename_i ds
    obtain ⟨⟨h1, h2⟩, ⟨h3, h4⟩, q⟩ := h
    rw [py] at h4
    refine .inr (.inl ⟨py dx, pys ds, dp_of h1 (r1.rp (isData_ng h1)), by have := dp_of h3 (r2.rp (isData_ng h3)); rw [py] at this; exact this, h2, h4, ?_⟩)
    rw [pys_map, List.any_map]
    exact f _ H _ _ (Same.refl _) (A.flat rp_bl) q
  · obtain ⟨h1, h2, q⟩ := h
    obtain ⟨a, vs, rfl, e, rs⟩ := r2.tup
    exact seq rfl e.t rs h1 h2 q
  · obtain ⟨h1, h2, q⟩ := h
    obtain ⟨rfl, a, vs, rfl, e, rs⟩ := r2.mt
    exact seq rfl e.t rs h1 h2 q
  · obtain ⟨a, rfl, q⟩ := h
    exact .inr (.inr (.inr ⟨a, _, r1.str, r2.str, f _ H _ _ (Same.refl _) (A.flat rp_bl) q⟩))
  · exact h.elim
/-! ### xs.index(y) -/
def rIdx (rd ry : RE) : RE := fun Γ c Q => rd Γ c fun d _ c1 => match d with
  | .lst ds => ry Γ c1 fun y _ c2 => EqOk (.lst ds) ∧ EqOk y ∧ ∃ j, ds.findIdx? (fun z => PyData.eqv (py z) (py y)) = some j ∧ Q (.int (j : Nat)) (.R []) c2
  | _ => False
theorem ed_index {K : PySem.W.Frag} {td ty : TE} {rd ry : RE} (hd : ED K td rd) (hy : ED K ty ry) : ED K (tBM K "list" (rIndexD K) td (tCons ty tNil)) (rIdx rd ry) := by
  intro B Γ c σ H Qd Q E h f
  refine hd B Γ c σ H _ _ E h fun x H1 d kd c1 r1 q => ?_
  have E1 := E.ext r1.ext r1.gens
  split at q
  · rename_i ds
    obtain ⟨a, rfl, sq⟩ : ∃ a, x = .ref a ∧ ∃ xs, SqL K H1 a xs := by
      obtain ⟨fp, rp, _⟩ := r1.rp
      obtain ⟨a, us, g, rfl, e, _⟩ := rp.lst
      exact ⟨a, rfl, _, SqL.of e⟩
    refine ⟨.inl ⟨rfl, sq⟩, ?_⟩
    refine hy B Γ c1 σ H1 _ _ E1 q fun y H2 dy ky c2 r2 q => ?_
    have r1' := r1.on E.fg r2.ext r2.gens
    obtain ⟨⟨h1, h2⟩, ⟨h3, h4⟩, j, hj, q⟩ := q
    obtain ⟨f1, rp1, _⟩ := r1'.rp
    obtain ⟨f2, rp2, _⟩ := r2.rp
    rw [py] at h2
    obtain ⟨hj1, hj2, hj3⟩ := List.findIdx?_eq_some_iff_getElem.mp hj
    refine ⟨a, y, py dy, pys ds, j, py (ds[j]), rfl, rfl, by have := dp_of h1 (rp1.rp (isData_ng h1)); rw [py] at this; exact this, dp_of h3 (rp2.rp (isData_ng h3)), h2, h4, by rw [pys_map, List.getElem?_map, List.getElem?_eq_getElem hj1]; rfl, hj2, fun m z' hm hz => ?_, f _ H2 _ _ _ (Res.flat r1'.ext r1'.gens rp_int) q⟩
    rw [pys_map, List.getElem?_map] at hz
    obtain ⟨z, h5, rfl⟩ := Option.map_eq_some_iff.mp hz
    have hm' : m < ds.length := by omega
    rw [List.getElem?_eq_getElem hm'] at h5
    cases h5
    have := hj3 m hm
    simpa using this
  · exact q.elim
/-! ### lists at places, changed: pop, insert, extend, clear -/
section
variable {K : PySem.W.Frag} {B : Bx} {Γ : GE} {σ σ' : L2.St} {H H' : Hp} {c c' : Nat} {fp : List Addr} {k : Kd} {d e : D} {v u : V} {ds : List D} {vs : List V} {sk : SK} {i : Nat}
theorem Rps.erase {F : Addr → Prop} : ∀ {ds : List D} {vs : List V} {fp : List Addr} {j : Nat} {d : D}, Rps K F H ds vs fp → ds[j]? = some d → ∃ v f1 f f2, vs[j]? = some v ∧ Rp K F H d v f ∧ fp = f1 ++ (f ++ f2) ∧ Rps K F H (ds.eraseIdx j) (vs.eraseIdx j) (f1 ++ f2)
  | [], _, _, _, _, _, h => by simp at h
  | d0 :: dr, _, _, 0, _, ⟨v, vr, f, g, e, ef, r, rs⟩, h => by
    cases h; subst e; subst ef
    exact ⟨v, [], f, g, rfl, r, rfl, rs⟩
  | d0 :: dr, _, _, j + 1, _, ⟨v, vr, f, g, e, ef, r, rs⟩, h => by
    subst e; subst ef
    obtain ⟨v', f1, f', f2, h1, h2, h3, h4⟩ := Rps.erase (j := j) rs h
    subst h3
    exact ⟨v', f ++ f1, f', f2, h1, h2, by simp, v, _, f, f1 ++ f2, rfl, by simp, r, h4⟩
/-- the item at j taken out of the list at a place -/
theorem Plc.take {put : D → D} {j : Nat} {e : D} (E : Env K B Γ c σ H) (p : Plc B Γ σ H i u (.lst ds) put sk) (hj : ds[j]? = some e) : ∃ a vs w f0, u = .ref a ∧ H a = some (.lst vs) ∧ vs.length = ds.length ∧ vs[j]? = some w ∧
    ∃ B', Like B B' ∧ Env K B' (gset Γ i (some ⟨sk, put (.lst (ds.eraseIdx j))⟩)) c σ (upd H a (.lst (vs.eraseIdx j))) ∧ Rp K B'.F (upd H a (.lst (vs.eraseIdx j))) e w f0 ∧ StK B' f0 (.R []) := by
  obtain ⟨a, vs, f, rfl, ea, rs, nd, of, oa, mk⟩ := p.lst E
  obtain ⟨w, f1, f0, f2, hw, rw_, rfl, rse⟩ := rs.erase hj
  have n0 := List.nodup_cons.mp nd
  have n1 := List.nodup_append.mp n0.2
  have n2 := List.nodup_append.mp n1.2.1
  obtain ⟨B', b1, b3, b4, b5, b6⟩ := mk (ds.eraseIdx j) (vs.eraseIdx j) (f1 ++ f2) [] [] Inc.nil (fun _ h => nomatch h) rse
    (List.nodup_append.mpr ⟨n1.1, n2.2.1, fun x hx y hy z => n1.2.2 x hx y (List.mem_append_right _ hy) z⟩)
    (fun x hx => .inl ((List.mem_append.mp hx).elim (fun z => List.mem_append_left _ z) fun z => List.mem_append_right _ (List.mem_append_right _ z)))
  have hf0 : ∀ x ∈ f0, x ∈ f1 ++ (f0 ++ f2) := fun x hx => List.mem_append_right _ (List.mem_append_left _ hx)
  refine ⟨a, vs, w, f0, rfl, ea, rs.length, hw, B', b1, b3, ?_, n2.1, fun x hx => ?_⟩
  · rw [b4]
    exact b6 e w f0 (fun x hx z => n0.1 (z ▸ hf0 x hx)) rw_
  · obtain ⟨g1, g2, g3, g4, g5⟩ := E.ol i x (of x (hf0 x hx))
    refine ⟨by rw [b4]; exact g2, by rw [b1.G]; exact g3, by rw [b1.en]; exact g4, fun m z => ?_⟩
    exact absurd z (b5 x (hf0 x hx) (fun z => (List.mem_append.mp z).elim (fun z => n1.2.2 x z x (List.mem_append_left _ hx) rfl) fun z => n2.2.2 x hx x z rfl) m)
end
/-- x = P.pop(n) -/
def rpPopAt (rp : RP) (i : Nat) (rix : RE) (rg : RG) : RS := fun Dd Γ c => rp Γ c fun d put sk c1 => match d with
  | .lst ds => rix Γ c1 fun y _ c2 => match y with
    | .int n => -(2 ^ 63) ≤ n ∧ n < 2 ^ 63 ∧ ∃ j e, ixN ds.length n = some j ∧ ds[j]? = some e ∧ rg e (.R []) (gset Γ i (some ⟨sk, put (.lst (ds.eraseIdx j))⟩)) fun Γ' => Dd.nx Γ' c2
    | _ => False
  | _ => False
def rpPop (rp : RP) (i : Nat) (rg : RG) : RS := fun Dd Γ c => rp Γ c fun d put sk c1 => match d with
  | .lst ds => ∃ e, ds[ds.length - 1]? = some e ∧ rg e (.R []) (gset Γ i (some ⟨sk, put (.lst ds.dropLast)⟩)) fun Γ' => Dd.nx Γ' c1
  | _ => False
def rgDrop : RG := fun _ _ Γ Q => Q Γ
section
variable {K : PySem.W.Frag} {i : Nat}
theorem seqIx_of {n : Nat} {z : Int} {j : Nat} (h : ixN n z = some j) : seqIndex? z n = some j := (ixN_seq h).1
theorem sd_popAt {tg : List Nat} {t tx : TE} {rp : RP} {rix : RE} {g : TG} {rg : RG} (hp : PD K i t rp) (hx : ED K tx rix) (hg : GD K tg g rg) : SD K (tAsg (tBM K "list" rPopAt t (tCons tx tNil)) g) (rpPopAt rp i rix rg) := by
  intro en hd Dd D L B Γ c σ H h1 h3 E q
  refine hp B Γ c σ H _ _ E q fun u H1 d put sk c1 e1 g1 p1 q => ?_
  have E1 := E.ext e1 g1
  split at q
  · rename_i ds
    obtain ⟨a, vs, f, rfl, ea, _⟩ := p1.lst E1
    refine ⟨.inl ⟨rfl, vs, SqL.of ea⟩, ?_⟩
    refine hx B Γ c1 σ H1 _ _ E1 q fun y H2 dy ky c2 x q => ?_
    have E2 := E1.ext x.ext x.gens
    have p2 := p1.ext E1 x.ext
    obtain ⟨fy, ry, _⟩ := x.rp
    split at q
    · rename_i n
      obtain ⟨q1, q2, j, e, hj, he, q⟩ := q
      obtain ⟨a', vs', w, f0, ea', eb, hl, hw, B', b1, b2, b3, b4⟩ := p2.take E2 he
      cases ea'
      refine ⟨a, vs', n, j, w, rfl, by rw [ry.int], eb, q1, q2, by rw [hl]; exact seqIx_of hj, hw, ?_⟩
      refine hg B' _ c2 σ _ e w f0 (.R []) _ _ b2 (.inl b3) b4 q fun B2 Γ2 σ2 l2 E3 q3 _ _ => ?_
      obtain ⟨w1, w3⟩ := (b1.trans l2).to h1 h3
      exact L.nx B2 Γ2 c2 σ2 _ w1 w3 E3 q3
    · exact q.elim
  · exact q.elim
theorem sd_pop {tg : List Nat} {t : TE} {rp : RP} {g : TG} {rg : RG} (hp : PD K i t rp) (hg : GD K tg g rg) : SD K (tAsg (tBM0 K "list" L2.rPop t) g) (rpPop rp i rg) := by
  intro en hd Dd D L B Γ c σ H h1 h3 E q
  refine hp B Γ c σ H _ _ E q fun u H1 d put sk c1 e1 g1 p1 q => ?_
  have E1 := E.ext e1 g1
  split at q
  · rename_i ds
    obtain ⟨e, he, q⟩ := q
    obtain ⟨a, vs, w, f0, rfl, ea, hl, hw, B', b1, b2, b3, b4⟩ := p1.take E1 he
    have e1' : ds.eraseIdx (ds.length - 1) = ds.dropLast := List.eraseIdx_length_sub_one
    have e2' : vs.eraseIdx (ds.length - 1) = vs.dropLast := by rw [← hl]; exact List.eraseIdx_length_sub_one
    rw [e1', e2'] at b2
    rw [e2'] at b3
    refine ⟨.inl ⟨rfl, vs, SqL.of ea⟩, a, vs, w, rfl, rfl, ea, by rw [hl]; exact hw, ?_⟩
    refine hg B' _ c1 σ _ e w f0 (.R []) _ _ b2 (.inl b3) b4 q fun B2 Γ2 σ2 l2 E3 q3 _ _ => ?_
    obtain ⟨w1, w3⟩ := (b1.trans l2).to h1 h3
    exact L.nx B2 Γ2 c1 σ2 _ w1 w3 E3 q3
  · exact q.elim
/-- P.pop(n), P.pop() as statements -/
theorem sd_popAtD {t tx : TE} {rp : RP} {rix : RE} (hp : PD K i t rp) (hx : ED K tx rix) : SD K (tDrop (tBM K "list" rPopAt t (tCons tx tNil))) (rpPopAt rp i rix rgDrop) := by
  intro en hd Dd D L B Γ c σ H h1 h3 E q
  exact sd_popAt (g := fun _ σ H Q => Q σ H) (tg := []) hp hx (fun B Γ c σ H d v fp k Qd Q E r st h f => f B Γ σ (Like.refl B) E h ⟨fun g hg => (by
    cases k with
    | R is => exact ⟨(List.nodup_append.mp hg.1).2.1, fun a ha => hg.2 a (List.mem_append_right _ ha)⟩
    | S => exact fun a ha => hg a (List.mem_append_right _ ha)
    | B => exact fun a ha => hg a (List.mem_append_right _ ha)), fun _ h => .inl h, fun _ h => h⟩ ⟨rfl, fun _ _ => rfl⟩) en hd Dd D L B Γ c σ H h1 h3 E q
theorem sd_popD {t : TE} {rp : RP} (hp : PD K i t rp) : SD K (tDrop (tBM0 K "list" L2.rPop t)) (rpPop rp i rgDrop) := by
  intro en hd Dd D L B Γ c σ H h1 h3 E q
  exact sd_pop (g := fun _ σ H Q => Q σ H) (tg := []) hp (fun B Γ c σ H d v fp k Qd Q E r st h f => f B Γ σ (Like.refl B) E h ⟨fun g hg => (by
    cases k with
    | R is => exact ⟨(List.nodup_append.mp hg.1).2.1, fun a ha => hg.2 a (List.mem_append_right _ ha)⟩
    | S => exact fun a ha => hg a (List.mem_append_right _ ha)
    | B => exact fun a ha => hg a (List.mem_append_right _ ha)), fun _ h => .inl h, fun _ h => h⟩ ⟨rfl, fun _ _ => rfl⟩) en hd Dd D L B Γ c σ H h1 h3 E q
/-! P.insert(n, e) -/
def rIns : V → List V → Hp → VK → Prop := fun x vs H Q => ∃ (l : Addr) (xs : List V) (i : Int) (y : V), x = .ref l ∧ vs = [.int i, y] ∧ H l = some (.lst xs) ∧ xs.length < sizeLine ∧ 0 ≤ i ∧ i < 2 ^ 63 ∧ Q .non (upd H l (.lst (xs.take i.toNat ++ [y] ++ xs.drop i.toNat)))
theorem mt_ins {X : Cx} : MtR X "list.insert" rIns := mt_insert
def rpIns (rp : RP) (i : Nat) (rix re : RE) : RS := fun Dd Γ c => rp Γ c fun d put sk c1 => match d with
  | .lst ds => rix Γ c1 fun y _ c2 => re Γ c2 fun e k c3 => match y with
    | .int n => e ≠ .gen ∧ ds.length < 1000000 ∧ 0 ≤ n ∧ n < 2 ^ 63 ∧ IntoOk Γ i e k fun Γ' => Dd.nx (gset Γ' i (some ⟨sk, put (.lst (ds.take n.toNat ++ [e] ++ ds.drop n.toNat))⟩)) c3
    | _ => False
  | _ => False
theorem Rps.take2 {F : Addr → Prop} {H : Hp} {ds : List D} {vs : List V} {fp : List Addr} (r : Rps K F H ds vs fp) (n : Nat) : ∃ f g, Rps K F H (ds.take n) (vs.take n) f ∧ Rps K F H (ds.drop n) (vs.drop n) g ∧ fp = f ++ g := by
  induction n generalizing ds vs fp with
  | zero => exact ⟨[], fp, ⟨rfl, rfl⟩, r, rfl⟩
  | succ n ih =>
    cases ds with
    | nil =>
      obtain ⟨rfl, rfl⟩ := r
      exact ⟨[], [], ⟨rfl, rfl⟩, ⟨rfl, rfl⟩, rfl⟩
    | cons d ds =>
      obtain ⟨v, vr, f, g, rfl, rfl, r, rs⟩ := r
      obtain ⟨f1, g1, h1, h2, rfl⟩ := ih rs
      exact ⟨f ++ f1, g1, ⟨v, _, f, f1, rfl, rfl, r, h1⟩, h2, by simp⟩
theorem sd_pins {t tx te : TE} {rp : RP} {rix re : RE} (hp : PD K i t rp) (hx : ED K tx rix) (he : ED K te re) : SD K (tDrop (tBM K "list" rIns t (tCons tx (tCons te tNil)))) (rpIns rp i rix re) := by
  intro en hd Dd D L B Γ c σ H h1 h3 E q
  refine hp B Γ c σ H _ _ E q fun u H1 d put sk c1 e1 g1 p1 q => ?_
  have E1 := E.ext e1 g1
  split at q
  · rename_i ds
    obtain ⟨a, vs, f, rfl, ea, _⟩ := p1.lst E1
    refine ⟨.inl ⟨rfl, vs, SqL.of ea⟩, ?_⟩
    refine hx B Γ c1 σ H1 _ _ E1 q fun y H2 dy ky c2 x q => ?_
    have E2 := E1.ext x.ext x.gens
    have p2 := p1.ext E1 x.ext
    refine he B Γ c2 σ H2 _ _ E2 q fun z H3 e k c3 x3 q => ?_
    have E3 := E2.ext x3.ext x3.gens
    have p3 := p2.ext E2 x3.ext
    have x' := x.on E1.fg x3.ext x3.gens
    obtain ⟨fy, ry, _⟩ := x'.rp
    split at q
    · rename_i n _
      obtain ⟨ne, hl, n0, n1, q⟩ := q
      obtain ⟨a', vs', f', ea', eb, rs, nd, of, oa, mk⟩ := p3.lst E3
      cases ea'
      obtain ⟨fe, re, nge, ok⟩ := x3.rp
      have re := re.rp ne
      obtain ⟨is, inc, pq⟩ := into_inc E2 re nge ok q
      have inc3 : Inc B H3 i is fe := ⟨inc.ni, inc.nd, inc.ok, inc.no⟩
      obtain ⟨f1, f2, r1, r2, rfl⟩ := rs.take2 n.toNat
      have ndf := List.nodup_append.mp (List.nodup_cons.mp nd).2
      obtain ⟨B', b1, b3, _⟩ := mk (ds.take n.toNat ++ [e] ++ ds.drop n.toNat) (vs'.take n.toNat ++ [z] ++ vs'.drop n.toNat) ((f1 ++ fe) ++ f2) fe is inc3 (fun x hx => let ⟨o, z, _⟩ := re.at x hx; ⟨o, z⟩) ((r1.append (Rps.one re)).append r2)
        (List.nodup_append.mpr ⟨List.nodup_append.mpr ⟨ndf.1, inc.nd, fun x hx y hy z => inc.no y hy (z ▸ of x (List.mem_append_left _ hx))⟩, ndf.2.1, fun x hx y hy z => by
          rcases List.mem_append.mp hx with hx | hx
          · exact ndf.2.2 x hx y hy z
          · exact inc.no x hx (z ▸ of y (List.mem_append_right _ hy))⟩)
        (fun x hx => by
          rcases List.mem_append.mp hx with hx | hx
          · rcases List.mem_append.mp hx with hx | hx
            · exact .inl (List.mem_append_left _ hx)
            · exact .inr hx
          · exact .inl (List.mem_append_right _ hx))
      obtain ⟨w1, w3⟩ := b1.to h1 h3
      exact ⟨a, vs', n, z, rfl, by rw [ry.int], eb, by rw [rs.length]; have := sizeLine_eq; omega, n0, n1, L.nx B' _ c3 σ _ w1 w3 b3 pq⟩
    · exact q.elim
  · exact q.elim
/-! P.extend(e) -/
def rpExt (rp : RP) (i : Nat) (re : RE) : RS := fun Dd Γ c => rp Γ c fun d put sk c1 => match d with
  | .lst ds => re Γ c1 fun e k c2 => match e with
    | .lst es => ds.length + es.length ≤ 1000000 ∧ IntoOk Γ i (.tup es) k fun Γ' => Dd.nx (gset Γ' i (some ⟨sk, put (.lst (ds ++ es))⟩)) c2
    | _ => False
  | _ => False
theorem KOk.tail {B : Bx} {H : Hp} {a : Addr} {f : List Addr} {k : Kd} (h : KOk B H (a :: f) k) : KOk B H f k := h.sub (List.sublist_cons_self a f)
theorem sd_pext {t te : TE} {rp : RP} {re : RE} (hp : PD K i t rp) (he : ED K te re) : SD K (tDrop (tBM K "list" L2.rExtend t (tCons te tNil))) (rpExt rp i re) := by
  intro en hd Dd D L B Γ c σ H h1 h3 E q
  refine hp B Γ c σ H _ _ E q fun u H1 d put sk c1 e1 g1 p1 q => ?_
  have E1 := E.ext e1 g1
  split at q
  · rename_i ds
    obtain ⟨a, vs, f, rfl, ea, _⟩ := p1.lst E1
    refine ⟨.inl ⟨rfl, vs, SqL.of ea⟩, ?_⟩
    refine he B Γ c1 σ H1 _ _ E1 q fun y H2 e k c2 x q => ?_
    split at q
    · rename_i es
      obtain ⟨hl, q⟩ := q
      have E2 := E1.ext x.ext x.gens
      have p2 := p1.ext E1 x.ext
      obtain ⟨a', vs', f', ea', eb, rs, nd, of, oa, mk⟩ := p2.lst E2
      cases ea'
      obtain ⟨fe, re, nge, ok⟩ := x.rp
      obtain ⟨b, ws, g, rfl, ew, rfl, res⟩ := re.lst
      have hB : ∃ is, Inc B H1 i is g ∧ Dd.nx (gset (kills is Γ) i (some ⟨sk, put (.lst (ds ++ es))⟩)) c2 := by
        rcases q.or with ⟨nl, p⟩ | ⟨is, rfl, ni, p⟩
        · have e0 := res.nol nl
          subst e0
          exact ⟨[], Inc.nil, p⟩
        · have st := KOk.st E1 ok.tail fun x hx => nge x (List.mem_cons_of_mem _ hx)
          exact ⟨is, ⟨ni, st.1, st.2, fun x hx z => ni ((st.2 x hx).2.2.2 i z)⟩, p⟩
      obtain ⟨is, inc, pq⟩ := hB
      have inc2 : Inc B H2 i is g := ⟨inc.ni, inc.nd, inc.ok, inc.no⟩
      have ndf := (List.nodup_cons.mp nd).2
      obtain ⟨B', b1, b3, _⟩ := mk (ds ++ es) (vs' ++ ws) (f' ++ g) g is inc2 (fun x hx => let ⟨o, z, _⟩ := res.at x hx; ⟨o, z⟩) (rs.append res)
        (List.nodup_append.mpr ⟨ndf, inc.nd, fun x hx y hy z => inc.no y hy (z ▸ of x hx)⟩) (fun x hx => List.mem_append.mp hx)
      obtain ⟨w1, w3⟩ := b1.to h1 h3
      exact ⟨a, b, vs', ws, rfl, rfl, eb, ew, by rw [rs.length, res.length]; have := sizeLine_eq; omega, L.nx B' _ c2 σ _ w1 w3 b3 pq⟩
    · exact q.elim
  · exact q.elim
/-! P.clear() -/
def rpClr (rp : RP) (i : Nat) : RS := fun Dd Γ c => rp Γ c fun d put sk c1 => match d with
  | .lst ds => Dd.nx (gset Γ i (some ⟨sk, put (.lst [])⟩)) c1
  | _ => False
theorem sd_pclr {t : TE} {rp : RP} (hp : PD K i t rp) : SD K (tDrop (tBM0 K "list" L2.rClear t)) (rpClr rp i) := by
  intro en hd Dd D L B Γ c σ H h1 h3 E q
  refine hp B Γ c σ H _ _ E q fun u H1 d put sk c1 e1 g1 p1 q => ?_
  have E1 := E.ext e1 g1
  split at q
  · rename_i ds
    obtain ⟨a, vs, f, rfl, ea, rs, nd, of, oa, mk⟩ := p1.lst E1
    obtain ⟨B', b1, b3, _⟩ := mk [] [] [] [] [] Inc.nil (fun _ h => nomatch h) ⟨rfl, rfl⟩ List.nodup_nil (fun _ h => nomatch h)
    obtain ⟨w1, w3⟩ := b1.to h1 h3
    exact ⟨.inl ⟨rfl, vs, SqL.of ea⟩, a, vs, rfl, rfl, ea, L.nx B' _ c1 σ _ w1 w3 b3 q⟩
  · exact q.elim
end
end DL
namespace DL
open PySem PySem.Spec L2
/-! ### a comprehension of a function that is found on the way -/
theorem rLcA {α : Type} {vs : List Nat} {ri : RI} {rg : RG} {re : RE} {Γ : GE} {c : Nat} {Q : D → Kd → Nat → Prop} (xs : List α) (e f : α → D) (nl st : Bool) (c1 : Nat)
    (hi : ∀ P : List D → Bool → Bool → Nat → Prop, P (xs.map e) nl st c1 → ri Γ c P) (hl : xs.length ≤ 1000000)
    (hs : ∀ (x : α), x ∈ xs → ∀ P : D → Kd → Nat → Prop, P (f x) (.R []) c1 → rg (e x) (itK nl st) (kills vs Γ) fun Γ2 => re Γ2 c1 P)
    (h : Q (.lst (xs.map f)) (.R []) c1) (hns : ∀ x ∈ xs, f x ≠ .gen ∧ nsD (f x) = true) : rLc vs ri rg rYes re Γ c Q := by
  refine hi _ ⟨by rw [List.length_map]; exact hl, false, fun i acc c' => acc = (xs.take i).map f ∧ c' = c1, ⟨rfl, rfl⟩, ?_, ?_⟩
  · rintro i d acc c' hd _ ⟨rfl, rfl⟩
    rw [List.getElem?_map] at hd
    cases hx : xs[i]? with
    | none => rw [hx] at hd; cases hd
    | some x =>
      rw [hx] at hd
      cases hd
      have hm := List.mem_of_getElem? hx
      refine hs x hm _ ⟨(hns x hm).1, elOk_R (hns x hm).2, ?_, rfl⟩
      rw [List.take_add_one, hx, List.map_append]; rfl
  · rintro acc c' ⟨rfl, rfl⟩
    rw [List.length_map, List.take_length]
    exact h
/-! ### rows of counts -/
abbrev RC := List Int × Int
def eRC (r : RC) : D := .tup [eCol r.1, .int r.2]
def eRows (rs : List RC) : D := .lst (rs.map eRC)
theorem noL_RC (r : RC) : noL (eRC r) = true := by
  show (noL (eCol r.1) && (noL (.int r.2) && noLs [])) = true
  rw [noL_col]; rfl
theorem noLs_RC (rs : List RC) : noLs (rs.map eRC) = true := noLs_map noL_RC rs
theorem nsD_RC (r : RC) : nsD (eRC r) = true := nsD_of (noL_RC r)
theorem nsDs_RC (rs : List RC) : nsDs (rs.map eRC) = true := nsDs_of (noLs_RC rs)
theorem nsD_rows (rs : List RC) : nsD (eRows rs) = true := nsDs_RC rs
theorem noL_rows (rs : List RC) : noL (eRows rs) = false := rfl
theorem stoRC {Γ : GE} {i : Nat} {n : RC} {k : Kd} {P : GE → Prop} : StoreOk Γ i (eRC n) k P = P (gset Γ i (some ⟨.nl, eRC n⟩)) := stoNl (noL_RC n)
theorem tup2R {r s : RG} {p : RC} {k : Kd} {Γ : GE} {Q : GE → Prop} : rgTup 2 (rgCons r (rgCons s rgNil)) (eRC p) k Γ Q = r (eCol p.1) k Γ fun Γ1 => s (.int p.2) k Γ1 Q := tup2
theorem okD_RC {r : RC} (h : r.1.length ≤ 1000000) : okD (eRC r) = true := by
  refine okD_tup (by simp) ?_
  show (okD (eCol r.1) && (okD (.int r.2) && okDs [])) = true
  rw [okD_col h]; rfl
theorem dep_RC (r : RC) : dep (eRC r) ≤ 2 := by
  show max (dep (eCol r.1)) (max 0 0) + 1 ≤ 2
  have := dep_col r.1
  omega
theorem okD_rows {rs : List RC} (hl : rs.length ≤ 1000000) (h : ∀ r ∈ rs, r.1.length ≤ 1000000) : okD (eRows rs) = true := okD_lst (by rw [List.length_map]; exact hl) (okDs_map rs fun r hr => okD_RC (h r hr))
theorem dep_rows (rs : List RC) : dep (eRows rs) ≤ 3 := by
  show deps (rs.map eRC) + 1 ≤ 3
  have := deps_map (f := eRC) (k := 2) rs fun r _ => dep_RC r
  omega
theorem eqOk_rows {rs : List RC} (hl : rs.length ≤ 1000000) (h : ∀ r ∈ rs, r.1.length ≤ 1000000) : EqOk (eRows rs) := eqOk_of (okD_rows hl h) (Nat.le_trans (dep_rows rs) (by decide))
theorem nbD_RC (r : RC) : nbD (eRC r) = true := by
  show (nbD (eCol r.1) && (nbD (.int r.2) && nbDs [])) = true
  rw [nbD_col]; rfl
theorem nbD_rows (rs : List RC) : nbD (eRows rs) = true := nbDs_map nbD_RC rs
theorem eRC_inj {p q : RC} (h : eRC p = eRC q) : p = q := by
  unfold eRC at h
  injection h with h
  injection h with h1 h2
  injection h2 with h2 _
  injection h2 with h2
  exact Prod.ext (eCol_inj h1) h2
/-- rows that may be reckoned with: colours of one width w -/
def RowsB (w : Nat) (rs : List RC) : Prop := 1 ≤ rs.length ∧ rs.length ≤ 1000 ∧ w ≤ 5 ∧ ∀ r ∈ rs, r.1.length = w ∧ (∀ n ∈ r.1, -10000000 ≤ n ∧ n ≤ 10000000) ∧ 1 ≤ r.2 ∧ r.2 ≤ 1000000
/-- rows as they are drawn -/
def RowsD (w : Int) (most : Nat) (rs : List RC) : Prop := 1 ≤ rs.length ∧ rs.length ≤ most ∧ (∀ r ∈ rs, Col w r.1 ∧ 1 ≤ r.2 ∧ r.2 ≤ 1000) ∧ rs.Pairwise fun p q => p.1 < q.1
theorem RowsD.b {w : Nat} {most : Nat} {rs : List RC} (h : RowsD (w : Int) most rs) (hw : w ≤ 5) (hm : most ≤ 1000) : RowsB w rs :=
  ⟨h.1, Nat.le_trans h.2.1 hm, hw, fun r hr => by
    obtain ⟨⟨h1, h2⟩, h3, h4⟩ := h.2.2.1 r hr
    exact ⟨by omega, fun n hn => by have := h2 n hn; omega, h3, by omega⟩⟩
theorem RowsB.ok {w : Nat} {rs : List RC} (h : RowsB w rs) : EqOk (eRows rs) := eqOk_rows (by have := h.2.1; omega) fun r hr => by
  have := (h.2.2.2 r hr).1
  have := h.2.2.1
  omega
theorem RowsB.okD {w : Nat} {rs : List RC} (h : RowsB w rs) : okD (eRows rs) = true := okD_rows (by have := h.2.1; omega) fun r hr => by
  have := (h.2.2.2 r hr).1
  have := h.2.2.1
  omega
theorem RowsB.sub {w : Nat} {rs ss : List RC} (h : RowsB w rs) (h1 : 1 ≤ ss.length) (h2 : ss.length ≤ rs.length) (h3 : ∀ s ∈ ss, s ∈ rs) : RowsB w ss := ⟨h1, Nat.le_trans h2 h.2.1, h.2.2.1, fun r hr => h.2.2.2 r (h3 r hr)⟩
/-! ### counts, a dict -/
def kC (c : List Int) : List Key := c.map Sum.inl
theorem kC_inj : ∀ {a b : List Int}, kC a = kC b → a = b
  | [], [], _ => rfl
  | [], _ :: _, h => nomatch h
  | _ :: _, [], h => nomatch h
  | x :: a, y :: b, h => by
    unfold kC at h
    rw [List.map_cons, List.map_cons] at h
    injection h with h1 h2
    injection h1 with h1
    rw [h1, kC_inj (a := a) (b := b) h2]
theorem toKs_ints : ∀ c : List Int, toKs (c.map D.int) = some (kC c)
  | [] => rfl
  | n :: c => by
    rw [List.map_cons, toKs, toKs_ints c]; rfl
theorem keyOf_col (c : List Int) : keyOf true (eCol c) = some (kC c) := by
  show (if true = true then toKs (c.map D.int) else none) = _
  rw [if_pos rfl, toKs_ints]
def dctC (ps : List RC) : D := .dct true (ps.map fun p => kC p.1) (ps.map fun p => .int p.2)
def aput : List RC → List Int → Int → List RC
  | [], c, n => [(c, n)]
  | (d, m) :: r, c, n => if d = c then (d, n) :: r else (d, m) :: aput r c n
def aget : List RC → List Int → Option Int
  | [], _ => none
  | (d, m) :: r, c => if d = c then some m else aget r c
theorem kix_kC (c : List Int) : ∀ ps : List RC, kix (ps.map fun p => kC p.1) (kC c) = kix (ps.map (·.1)) c := fun ps => by
  have := kix_map kC (fun a b h => kC_inj h) c (ps.map (·.1))
  rw [List.map_map] at this
  exact this
theorem dput_C (c : List Int) (n : Int) (ps : List RC) : dputD true (ps.map fun p => kC p.1) (ps.map fun p => .int p.2) (kC c) (.int n) = dctC (aput ps c n) := by
  unfold dputD
  rw [kix_kC]
  have key : ∀ ps : List RC, (∀ j, kix (ps.map (·.1)) c = some j → (aput ps c n).map (fun p => kC p.1) = ps.map (fun p => kC p.1) ∧ (aput ps c n).map (fun p => D.int p.2) = (ps.map fun p => D.int p.2).set j (.int n)) ∧ (kix (ps.map (·.1)) c = none → aput ps c n = ps ++ [(c, n)]) := fun ps => by
    induction ps with
    | nil => exact ⟨fun j h => (nomatch h), fun _ => rfl⟩
    | cons p r ih =>
      obtain ⟨d, m⟩ := p
      unfold aput
      by_cases e : d = c
      · rw [if_pos e]
        refine ⟨fun j h => ?_, fun h => ?_⟩
        · rw [List.map_cons, kix, if_pos e] at h
          cases h
          exact ⟨rfl, rfl⟩
        · rw [List.map_cons, kix, if_pos e] at h; cases h
      · rw [if_neg e]
        refine ⟨fun j h => ?_, fun h => ?_⟩
        · rw [List.map_cons, kix, if_neg e] at h
          obtain ⟨i, h1, rfl⟩ := Option.map_eq_some_iff.mp h
          obtain ⟨h2, h3⟩ := ih.1 i h1
          exact ⟨by rw [List.map_cons, List.map_cons, h2], by rw [List.map_cons, List.map_cons, h3]; rfl⟩
        · rw [List.map_cons, kix, if_neg e] at h
          rw [ih.2 (Option.map_eq_none_iff.mp h)]; rfl
  obtain ⟨h1, h2⟩ := key ps
  cases h : kix (ps.map (·.1)) c with
  | some j =>
    obtain ⟨g1, g2⟩ := h1 j h
    unfold dctC
    rw [g1, g2]
  | none =>
    unfold dctC
    rw [h2 h, List.map_append, List.map_append]; rfl
theorem dval_C (c : List Int) (ps : List RC) : dval (ps.map fun p => kC p.1) (ps.map fun p => .int p.2) (kC c) = (aget ps c).map .int := by
  unfold dval
  rw [kix_kC]
  induction ps with
  | nil => rfl
  | cons p r ih =>
    obtain ⟨d, m⟩ := p
    rw [List.map_cons, kix]
    unfold aget
    by_cases e : d = c
    · rw [if_pos e, if_pos e]; rfl
    · rw [if_neg e, if_neg e, ← ih]
      cases kix (r.map (·.1)) c with
      | none => rfl
      | some j => rfl
theorem aput_mem {c : List Int} {n : Int} {x : RC} : ∀ {ps : List RC}, x ∈ aput ps c n → x = (c, n) ∨ x ∈ ps
  | [], h => .inl (List.mem_singleton.mp h)
  | (d, m) :: r, h => by
    unfold aput at h
    by_cases e : d = c
    · rw [if_pos e] at h
      rcases List.mem_cons.mp h with h | h
      · exact .inl (by rw [h, e])
      · exact .inr (List.mem_cons_of_mem _ h)
    · rw [if_neg e] at h
      rcases List.mem_cons.mp h with h | h
      · exact .inr (h ▸ List.mem_cons_self)
      · exact (aput_mem h).imp id fun z => List.mem_cons_of_mem _ z
theorem aput_keys (c : List Int) (n : Int) : ∀ ps : List RC, (aput ps c n).map (·.1) = if c ∈ ps.map (·.1) then ps.map (·.1) else ps.map (·.1) ++ [c]
  | [] => by simp [aput]
  | (d, m) :: r => by
    unfold aput
    by_cases e : d = c
    · rw [if_pos e, if_pos (by simp [e])]; rfl
    · rw [if_neg e, List.map_cons, aput_keys c n r]
      rw [List.map_cons]
      by_cases h : c ∈ r.map (·.1)
      · rw [if_pos h, if_pos (List.mem_cons_of_mem _ h)]
      · rw [if_neg h, if_neg (fun z => (List.mem_cons.mp z).elim (fun z => e z.symm) h)]; rfl
theorem aput_nodup {c : List Int} {n : Int} {ps : List RC} (h : (ps.map (·.1)).Nodup) : ((aput ps c n).map (·.1)).Nodup := by
  rw [aput_keys]
  split
  · exact h
  · rename_i hc
    exact List.nodup_append.mpr ⟨h, List.nodup_cons.mpr ⟨List.not_mem_nil, List.nodup_nil⟩, fun x hx y hy z => by cases List.mem_singleton.mp hy; exact hc (z ▸ hx)⟩
theorem aput_len (c : List Int) (n : Int) (ps : List RC) : (aput ps c n).length ≤ ps.length + 1 ∧ 1 ≤ (aput ps c n).length := by
  have h := congrArg List.length (aput_keys c n ps)
  rw [List.length_map] at h
  split at h
  · rename_i hc
    have : ps.length ≠ 0 := fun e => by
      rw [List.length_eq_zero_iff] at e; rw [e] at hc; cases hc
    rw [List.length_map] at h
    omega
  · rw [List.length_append, List.length_map, List.length_singleton] at h
    omega
/-! rows sorted -/
def leRC (p q : RC) : Bool := decide (p.1 < q.1 ∨ (p.1 = q.1 ∧ p.2 ≤ q.2))
theorem py_col (c : List Int) : py (eCol c) = .tuple (c.map .int) := by
  show PyData.tuple (pys (c.map D.int)) = _
  rw [pys_map, List.map_map]
  congr 1
theorem py_RC (p : RC) : py (eRC p) = .tuple [.tuple (p.1.map .int), .int p.2] := by
  show PyData.tuple [py (eCol p.1), .int p.2] = _
  rw [py_col]
theorem eqv_ints : ∀ a b : List Int, PyData.eqv (.tuple (a.map .int)) (.tuple (b.map .int)) = decide (a = b) := fun a b => by
  have h := eqv_iff (nbD_col a) (nbD_col b)
  rw [py_col, py_col] at h
  rw [Bool.eq_iff_iff, h, decide_eq_true_iff]
  exact ⟨eCol_inj, fun e => by rw [e]⟩
theorem leD_RC (p q : RC) : leD (eRC p) (eRC q) = leRC p q := by
  unfold leD leB
  show PySem.W.dataLe false (fun b : PyData => b) (py (eRC p)) (py (eRC q)) = _
  rw [py_RC, py_RC]
  have e : PySem.W.dataLe false (fun b : PyData => b) (.tuple [.tuple (p.1.map .int), .int p.2]) (.tuple [.tuple (q.1.map .int), .int q.2]) = !PySem.W.dataLt (.tuple [.tuple (q.1.map .int), .int q.2]) (.tuple [.tuple (p.1.map .int), .int p.2]) := rfl
  have al : ∀ x y : List Int, PySem.W.alike (.tuple (x.map .int)) (.tuple (y.map .int)) = true := fun x y => by rw [PySem.W.alike]; exact PySem.W.alike_ints x y
  rw [e, PySem.W.dataLt_pair (al q.1 p.1) (by simp [PySem.W.alike]), eqv_ints, PySem.W.dataLt_int]
  have l1 : PySem.W.dataLt (.tuple (q.1.map .int)) (.tuple (p.1.map .int)) = decide (q.1 < p.1) := by rw [PySem.W.dataLt_tuple]; exact PySem.W.dataLt_ints q.1 p.1
  rw [l1]
  unfold leRC
  simp only [PyData.eqv, decide_eq_true_eq, beq_iff_eq]
  by_cases h : q.1 = p.1
  · rw [if_pos h]
    have ir : ¬ p.1 < p.1 := List.lt_irrefl _
    by_cases h2 : q.2 = p.2
    · simp [h, h2, ir]
    · rw [if_neg h2]
      have : (!decide (q.2 < p.2)) = decide (p.2 ≤ q.2) := PySem.W.not_lt_int _ _
      rw [this]
      simp [h, ir]
  · rw [if_neg h]
    have h' : ¬ p.1 = q.1 := fun z => h z.symm
    by_cases h3 : q.1 < p.1
    · have h4 : ¬ p.1 < q.1 := fun z => List.lt_asymm z h3
      simp [h3, h4, h']
    · have h4 : p.1 < q.1 := by
        have h5 : p.1 ≤ q.1 := List.not_lt.mp h3
        rcases List.le_iff_lt_or_eq.mp h5 with z | z
        · exact z
        · exact absurd z h'
      simp [h3, h4]
theorem leRC_trans (a b c : RC) (h1 : leRC a b = true) (h2 : leRC b c = true) : leRC a c = true := by
  unfold leRC at *
  rw [decide_eq_true_iff] at *
  rcases h1 with h1 | ⟨e1, h1⟩
  · rcases h2 with h2 | ⟨e2, h2⟩
    · exact .inl (List.lt_trans h1 h2)
    · exact .inl (e2 ▸ h1)
  · rcases h2 with h2 | ⟨e2, h2⟩
    · exact .inl (e1 ▸ h2)
    · exact .inr ⟨e1.trans e2, by omega⟩
theorem leRC_total (a b : RC) : (leRC a b || leRC b a) = true := by
  rw [Bool.or_eq_true]
  unfold leRC
  rw [decide_eq_true_iff, decide_eq_true_iff]
  by_cases e : a.1 = b.1
  · by_cases h : a.2 ≤ b.2
    · exact .inl (.inr ⟨e, h⟩)
    · exact .inr (.inr ⟨e.symm, by omega⟩)
  · by_cases h : a.1 < b.1
    · exact .inl (.inl h)
    · have h5 : b.1 ≤ a.1 := List.not_lt.mp h
      rcases List.le_iff_lt_or_eq.mp h5 with z | z
      · exact .inr (.inl z)
      · exact absurd z.symm e
def sortRC (ps : List RC) : List RC := ps.mergeSort leRC
theorem sortRC_perm (ps : List RC) : (sortRC ps).Perm ps := List.mergeSort_perm _ _
theorem sortRC_rise {ps : List RC} (h : (ps.map (·.1)).Nodup) : (sortRC ps).Pairwise fun p q => p.1 < q.1 := by
  have h1 : (sortRC ps).Pairwise fun p q => leRC p q = true := List.pairwise_mergeSort leRC_trans leRC_total ps
  have h2 : ((sortRC ps).map (·.1)).Nodup := ((sortRC_perm ps).map (·.1)).nodup_iff.mpr h
  have h3 : (sortRC ps).Pairwise fun p q => p.1 ≠ q.1 := List.pairwise_map.mp h2
  refine (h1.and h3).imp fun {p q} ⟨h, n⟩ => ?_
  unfold leRC at h
  rw [decide_eq_true_iff] at h
  exact h.elim id fun z => absurd z.1 n
theorem itemD_C (ps : List RC) : itemD true (ps.map fun p => kC p.1) (ps.map fun p => .int p.2) = ps.map eRC := by
  unfold itemD
  induction ps with
  | nil => rfl
  | cons p r ih =>
    rw [List.map_cons, List.map_cons, List.zip_cons_cons, List.map_cons, ih, List.map_cons]
    congr 1
    show D.tup [keyD true (kC p.1), .int p.2] = _
    have : keyD true (kC p.1) = eCol p.1 := by
      show D.tup ((kC p.1).map eK) = .tup (p.1.map .int)
      unfold kC
      rw [List.map_map]; rfl
    rw [this]; rfl
theorem sortRC_D (ps : List RC) : (ps.map eRC).mergeSort leD = (sortRC ps).map eRC := by
  unfold sortRC
  rw [List.map_mergeSort]
  intro a _ b _
  exact (leD_RC a b).symm
theorem srtOk_RC {ps : List RC} (hl : ps.length ≤ 1000000) : SrtOk (ps.map eRC) := by
  have hpy : (ps.map eRC).map py = ps.map fun p => PyData.tuple [.tuple (p.1.map .int), .int p.2] := by
    rw [List.map_map]
    exact List.map_congr_left fun p _ => py_RC p
  refine ⟨by rw [List.length_map]; exact hl, isDatas_map (fun p => ?_) ps, noLs_RC ps, ?_, ?_, fun d hd => ?_⟩
  · show (isData (eCol p.1) && (true && true)) = true
    rw [isData_col]; rfl
  · rw [hpy]
    exact PySem.W.AllAlike.of (enc := fun p : RC => PyData.tuple [.tuple (p.1.map .int), .int p.2]) fun p q => by
      simp only [PySem.W.alike, PySem.W.alikeAll, PySem.W.alike_ints, Bool.and_self]
  · rw [hpy]
    exact PySem.W.Sortable.tuples (enc := fun p : RC => PyData.tuple [.tuple (p.1.map .int), .int p.2]) fun p => ⟨_, _, rfl⟩
  · obtain ⟨p, _, rfl⟩ := List.mem_map.mp hd
    rw [py_RC]
    simp only [PyData.depth, PyData.depthAll, PySem.W.depth_ints]
    decide
theorem sortItC {ps : List RC} {P : D → Kd → Prop} (hl : ps.length ≤ 1000000) (h : P (eRows (sortRC ps)) (.R [])) : SrtOk (itemD true (ps.map fun p => kC p.1) (ps.map fun p => .int p.2)) ∧ isDatas (ps.map fun p => D.int p.2) = true ∧ noLs (ps.map fun p => D.int p.2) = true ∧ P (.lst ((itemD true (ps.map fun p => kC p.1) (ps.map fun p => .int p.2)).mergeSort leD)) (.R []) := by
  rw [itemD_C, sortRC_D]
  exact ⟨srtOk_RC hl, isDatas_map (fun _ => rfl) ps, noLs_map (fun _ => rfl) ps, h⟩
def S_rows : FS ((Int × Int) × Int) where
  ks := [.nl, .nl, .nl]
  args p := [.gen, .tup [.int p.1.1, .int p.1.2], .int p.2]
  pre p c := 1 ≤ p.1.1 ∧ p.1.1 ≤ 5 ∧ 1 ≤ p.1.2 ∧ p.1.2 ≤ 1000 ∧ 1 ≤ p.2 ∧ p.2 ≤ 100 ∧ c + 3000 < LIM
  res p c d c' := ∃ rs, d = eRows rs ∧ RowsD p.1.1 p.2.toNat rs ∧ c ≤ c' ∧ c' ≤ c + 3000
theorem rows_call {w s m : Int} {c : Nat} {P : D → Nat → Prop} (h : 1 ≤ w ∧ w ≤ 5 ∧ 1 ≤ s ∧ s ≤ 1000) (hm : 1 ≤ m ∧ m ≤ 100) (hc : c + 3000 < LIM) (hP : ∀ rs c', RowsD w m.toNat rs → c ≤ c' → c' ≤ c + 3000 → P (eRows rs) c') :
    ∃ a, S_rows.args a = [.gen, .tup [.int w, .int s], .int m] ∧ S_rows.pre a c ∧ ∀ d c', S_rows.res a c d c' → P d c' :=
  ⟨((w, s), m), rfl, ⟨h.1, h.2.1, h.2.2.1, h.2.2.2, hm.1, hm.2, hc⟩, fun d c' ⟨rs, e, h1, h2, h3⟩ => by subst e; exact hP rs c' h1 h2 h3⟩
/-! ### middles of rows -/
def sumI (rs : List RC) : Int := (rs.map (·.2)).sum
def numI (p : Nat) (rs : List RC) : Int := (rs.map fun r => r.2 * r.1.getD p 0).sum
def sqI (p : Nat) (rs : List RC) : Int := (rs.map fun r => r.2 * r.1.getD p 0 * r.1.getD p 0).sum
noncomputable def midI (w : Nat) (rs : List RC) : List (Int × Int) := (List.range w).map fun p => lowF (numI p rs) (sumI rs)
theorem sum_bd {α : Type} {f : α → Int} {B : Int} : ∀ {xs : List α}, (∀ x ∈ xs, -B ≤ f x ∧ f x ≤ B) → -(B * xs.length) ≤ (xs.map f).sum ∧ (xs.map f).sum ≤ B * xs.length
  | [], _ => by simp
  | x :: xs, h => by
    have h1 := h x List.mem_cons_self
    have h2 := sum_bd (xs := xs) fun y hy => h y (List.mem_cons_of_mem _ hy)
    rw [List.map_cons, List.sum_cons, List.length_cons, Int.natCast_add, Int.mul_add, Int.natCast_one, Int.mul_one]
    omega
theorem sum_pos {α : Type} {f : α → Int} : ∀ {xs : List α}, 1 ≤ xs.length → (∀ x ∈ xs, 1 ≤ f x) → 1 ≤ (xs.map f).sum
  | [x], _, h => by simpa using h x List.mem_cons_self
  | x :: y :: xs, _, h => by
    have h1 := h x List.mem_cons_self
    have h2 := sum_pos (xs := y :: xs) (by simp) fun z hz => h z (List.mem_cons_of_mem _ hz)
    rw [List.map_cons, List.sum_cons]; omega
theorem mul_bd {a b A B : Int} (h1 : -A ≤ a ∧ a ≤ A) (h2 : -B ≤ b ∧ b ≤ B) : -(A * B) ≤ a * b ∧ a * b ≤ A * B := by
  have ha : a.natAbs ≤ A.natAbs := by omega
  have hb : b.natAbs ≤ B.natAbs := by omega
  have hA : 0 ≤ A := by omega
  have hB : 0 ≤ B := by omega
  have h := Nat.mul_le_mul ha hb
  rw [← Int.natAbs_mul, ← Int.natAbs_mul] at h
  have h0 : 0 ≤ A * B := Int.mul_nonneg hA hB
  omega
theorem getD_bd {ns : List Int} {B : Int} (hB : 0 ≤ B) (h : ∀ n ∈ ns, -B ≤ n ∧ n ≤ B) (p : Nat) : -B ≤ ns.getD p 0 ∧ ns.getD p 0 ≤ B := by
  rw [List.getD_eq_getElem?_getD]
  cases e : ns[p]? with
  | none => simp; omega
  | some n => exact h n (List.mem_of_getElem? e)
theorem RowsB.sum {w : Nat} {rs : List RC} (h : RowsB w rs) : 1 ≤ sumI rs ∧ sumI rs ≤ 1000000000 := by
  refine ⟨sum_pos h.1 fun r hr => (h.2.2.2 r hr).2.2.1, ?_⟩
  have := (sum_bd (f := fun r : RC => r.2) (B := 1000000) fun r hr => by have := (h.2.2.2 r hr).2.2; omega).2
  have := h.2.1
  show (rs.map fun r => r.2).sum ≤ _
  omega
theorem RowsB.num {w : Nat} {rs : List RC} (h : RowsB w rs) (p : Nat) : -10000000000000000 ≤ numI p rs ∧ numI p rs ≤ 10000000000000000 := by
  have := sum_bd (xs := rs) (f := fun r : RC => r.2 * r.1.getD p 0) (B := 1000000 * 10000000) fun r hr => by
    have h1 := (h.2.2.2 r hr).2
    exact mul_bd (by omega) (getD_bd (by decide) h1.1 p)
  have := h.2.1
  show _ ≤ (rs.map fun r : RC => r.2 * r.1.getD p 0).sum ∧ (rs.map fun r : RC => r.2 * r.1.getD p 0).sum ≤ _
  omega
theorem RowsB.sq {w : Nat} {rs : List RC} (h : RowsB w rs) (p : Nat) : -100000000000000000000000 ≤ sqI p rs ∧ sqI p rs ≤ 100000000000000000000000 := by
  have := sum_bd (xs := rs) (f := fun r : RC => r.2 * r.1.getD p 0 * r.1.getD p 0) (B := 1000000 * 10000000 * 10000000) fun r hr => by
    have h1 := (h.2.2.2 r hr).2
    exact mul_bd (mul_bd (by omega) (getD_bd (by decide) h1.1 p)) (getD_bd (by decide) h1.1 p)
  have := h.2.1
  show _ ≤ (rs.map fun r : RC => r.2 * r.1.getD p 0 * r.1.getD p 0).sum ∧ (rs.map fun r : RC => r.2 * r.1.getD p 0 * r.1.getD p 0).sum ≤ _
  omega
def S_middle : FS (Nat × List RC) where
  ks := [.sh]
  args p := [eRows p.2]
  pre p c := RowsB p.1 p.2
  res p c d c' := d = eMid (midI p.1 p.2) ∧ c' = c
theorem middle_call {w : Nat} {rs : List RC} {c : Nat} {P : D → Nat → Prop} (h : RowsB w rs) (hP : P (eMid (midI w rs)) c) : ∃ a, S_middle.args a = [eRows rs] ∧ S_middle.pre a c ∧ ∀ d c', S_middle.res a c d c' → P d c' :=
  ⟨(w, rs), rfl, h, fun d c' ⟨e1, e2⟩ => by rw [e1, e2]; exact hP⟩
end DL
namespace DL
open PySem PySem.Spec L2
/-! ### the readings as equations, to be used from the head -/
/-- one statement, what follows it kept shut -/
theorem rSeq_op {r s : RS} {Dd : EndsD} {Γ : GE} {c : Nat} (h : ∀ nx : GE → Nat → Prop, (∀ Γ' c', s Dd Γ' c' → nx Γ' c') → r ⟨nx, Dd.rt, Dd.bk, Dd.ct, Dd.rs⟩ Γ c) : rSeq r s Dd Γ c := h _ fun _ _ h => h
def rvr : Nat → GE → Nat → Nat → (D → Kd → Nat → Prop) → Prop
  | _, [], _, _, _ => False
  | 0, s :: _, i, c, Q => match s with
    | some ⟨.nl, d⟩ => Q d (.R []) c
    | some ⟨.sh, d⟩ => Q d .S c
    | some ⟨.own, d⟩ => Q d (.R [i]) c
    | some ⟨.byr, d⟩ => Q d .B c
    | none => False
  | j + 1, _ :: Γ, i, c, Q => rvr j Γ i c Q
theorem rvr_eq (i c : Nat) (Q : D → Kd → Nat → Prop) : ∀ (j : Nat) (Γ : GE), rvr j Γ i c Q = match gat Γ j with
    | some ⟨.nl, d⟩ => Q d (.R []) c
    | some ⟨.sh, d⟩ => Q d .S c
    | some ⟨.own, d⟩ => Q d (.R [i]) c
    | some ⟨.byr, d⟩ => Q d .B c
    | none => False
  | 0, [] => rfl
  | _ + 1, [] => rfl
  | 0, _ :: _ => rfl
  | j + 1, _ :: Γ => rvr_eq i c Q j Γ
section
variable {Γ : GE} {c i j : Nat} {Q : D → Kd → Nat → Prop} {P : D → Kd → Prop} {T : Bool → Nat → Prop} {d e : D} {k k' : Kd} {s : Option Sl} {Dd : EndsD}
theorem u_rVar : rVar i Γ c Q = rvr i Γ i c Q := (rvr_eq i c Q i Γ).symm
theorem rvr_nl : rvr 0 (some ⟨.nl, d⟩ :: Γ) i c Q = Q d (.R []) c := rfl
theorem rvr_sh : rvr 0 (some ⟨.sh, d⟩ :: Γ) i c Q = Q d .S c := rfl
theorem rvr_own : rvr 0 (some ⟨.own, d⟩ :: Γ) i c Q = Q d (.R [i]) c := rfl
theorem rvr_byr : rvr 0 (some ⟨.byr, d⟩ :: Γ) i c Q = Q d .B c := rfl
theorem rvr_s : rvr (j + 1) (s :: Γ) i c Q = rvr j Γ i c Q := rfl
theorem u_gat0 : gat (s :: Γ) 0 = s := rfl
theorem u_gatS : gat (s :: Γ) (i + 1) = gat Γ i := rfl
theorem u_gset0 {t : Option Sl} : gset (s :: Γ) 0 t = t :: Γ := rfl
theorem u_gsetS {t : Option Sl} : gset (s :: Γ) (i + 1) t = s :: gset Γ i t := rfl
theorem u_kills0 : kills [] Γ = Γ := rfl
theorem u_killsS {is : List Nat} : kills (i :: is) Γ = gset (kills is Γ) i none := rfl
theorem u_rC : rC d Γ c Q = Q d (.R []) c := rfl
theorem u_rOp {rd : RD2} {ra rb : RE} : rOp rd ra rb Γ c Q = ra Γ c fun dx kx c1 => rb Γ c1 fun dy ky c2 => rd dx kx dy ky fun d k => Q d k c2 := rfl
theorem u_rUn {rd : D → Kd → (D → Kd → Prop) → Prop} {ra : RE} : rUn rd ra Γ c Q = ra Γ c fun dx kx c1 => rd dx kx fun d k => Q d k c1 := rfl
theorem u_rCB {rd : RN} {ra : RA} : rCB rd ra Γ c Q = ra Γ c fun dks c1 => rd dks fun d k => Q d k c1 := rfl
theorem u_rNil {A : List DK → Nat → Prop} : rNil Γ c A = A [] c := rfl
theorem u_rCons {re : RE} {ra : RA} {A : List DK → Nat → Prop} : rCons re ra Γ c A = re Γ c fun d k c1 => ra Γ c1 fun dks c2 => A ((d, k) :: dks) c2 := rfl
/-- what a call comes to -/
def callX {α : Type} (S : FS α) (dks : List DK) (c : Nat) (A : D → Nat → Prop) : Prop := ∃ a, S.args a = dks.map (·.1) ∧ S.pre a c ∧ ∀ d c', S.res a c d c' → A d c'
theorem u_rCall {α : Type} {S : FS α} {ra : RA} : rCall S ra Γ c Q = ra Γ c fun dks c1 => callX S dks c1 fun d c' => Q d (.R []) c' := rfl
theorem u_rCallS {α : Type} {S : FS α} {ra : RA} : rCallS S ra Γ c Q = ra Γ c fun dks c1 => shOk dks = true ∧ callX S dks c1 fun d c' => Q d (if noL d then .R [] else .S) c' := rfl
theorem u_rTup {ra : RA} : rTup ra Γ c Q = ra Γ c fun dks c1 => dks.length ≤ 1000 ∧ NG dks ∧ Q (.tup (dks.map (·.1))) (cmbs dks) c1 := rfl
theorem u_rLst {ra : RA} : rLst ra Γ c Q = ra Γ c fun dks c1 => dks.length ≤ 1000 ∧ NG dks ∧ Q (.lst (dks.map (·.1))) (cmbs dks) c1 := rfl
theorem u_rTest {r : RE} : rTest r Γ c T = r Γ c fun d _ c1 => match d with
  | .bl b => T b c1
  | _ => False := rfl
theorem u_rtAnd {r s : RT} : rtAnd r s Γ c T = r Γ c fun b c1 => if b = true then s Γ c1 T else T false c1 := rfl
theorem u_rtOr {r s : RT} : rtOr r s Γ c T = r Γ c fun b c1 => if b = true then T true c1 else s Γ c1 T := rfl
theorem u_rtNot {r : RT} : rtNot r Γ c T = r Γ c fun b c1 => T (!b) c1 := rfl
theorem u_rAndV {r s : RE} : rAndV r s Γ c Q = r Γ c fun d _ c1 => match d with
  | .bl b => if b = true then s Γ c1 Q else Q (.bl false) (.R []) c1
  | _ => False := rfl
theorem u_rOrV {r s : RE} : rOrV r s Γ c Q = r Γ c fun d _ c1 => match d with
  | .bl b => if b = true then Q (.bl true) (.R []) c1 else s Γ c1 Q
  | _ => False := rfl
theorem u_rNotV {r : RE} : rNotV r Γ c Q = r Γ c fun d _ c1 => match d with
  | .bl b => Q (.bl (!b)) (.R []) c1
  | _ => False := rfl
theorem u_rIf {t : RT} {r s : RE} : rIf t r s Γ c Q = t Γ c fun b c1 => if b = true then r Γ c1 Q else s Γ c1 Q := rfl
theorem u_rChain {rd rd' : RD2} {ra rb rc : RE} : rChain rd rd' ra rb rc Γ c Q = ra Γ c fun dx kx c1 => rb Γ c1 fun dy ky c2 => rd dx kx dy ky fun z _ => match z with
  | .bl k => if k = true then rc Γ c2 fun dw kw c3 => rd' dy ky dw kw fun d k => Q d k c3 else Q (.bl false) (.R []) c2
  | _ => False := rfl
theorem u_rSl {re : RE} {rl rh : RO} : rSl re rl rh Γ c Q = re Γ c fun x kx c1 => rl Γ c1 fun lo c2 => rh Γ c2 fun hi c3 => dSl x kx lo hi fun d k => Q d k c3 := rfl
theorem u_roNone {A : Option Int → Nat → Prop} : roNone Γ c A = A none c := rfl
theorem u_roSome {r : RE} {A : Option Int → Nat → Prop} : roSome r Γ c A = r Γ c fun d _ c1 => match d with
  | .int i => A (some i) c1
  | _ => False := rfl
theorem u_rRev {re : RE} : rRev re Γ c Q = re Γ c fun d _ c1 => match d with
  | .lst ds => noLs ds = true ∧ Q (.lst ds.reverse) (.R []) c1
  | _ => False := rfl
theorem u_rLRng1 {re : RE} : rLRng1 re Γ c Q = re Γ c fun d _ c1 => match d with
  | .int n => -1000000 ≤ n ∧ n ≤ 1000000 ∧ Q (.lst (intsFrom 0 n.toNat)) (.R []) c1
  | _ => False := rfl
theorem u_rLRng2 {ra rb : RE} : rLRng2 ra rb Γ c Q = ra Γ c fun x _ c1 => rb Γ c1 fun y _ c2 => match x, y with
  | .int m, .int n => -100000000 ≤ m ∧ m ≤ 100000000 ∧ -100000000 ≤ n ∧ n ≤ 100000000 ∧ n - m ≤ 1000000 ∧ Q (.lst (intsFrom m (n - m).toNat)) (.R []) c2
  | _, _ => False := rfl
theorem u_rPick {ra : RA} {re : RE} : rPick ra re Γ c Q = ra Γ c fun dks c1 => dks.length ≤ 1000 ∧ re Γ c1 fun y _ c2 => match y with
  | .int n => ∃ p, atI dks n = some p ∧ Q p.1 p.2 c2
  | _ => False := rfl
theorem u_rDNew {t : Bool} : rDNew t Γ c Q = Q (.dct t [] []) (.R []) c := rfl
theorem u_rDGet2 {rd ry rx : RE} : rDGet2 rd ry rx Γ c Q = rd Γ c fun d kd c1 => match d with
  | .dct t kk ds => ry Γ c1 fun y _ c2 => rx Γ c2 fun z kz c3 => ∃ k, keyOf t y = some k ∧ match dval kk ds k with
    | some e => Q e kd c3
    | none => Q z kz c3
  | _ => False := rfl
theorem u_rDGet1 {rd ry : RE} : rDGet1 rd ry Γ c Q = rd Γ c fun d kd c1 => match d with
  | .dct t kk ds => ry Γ c1 fun y _ c2 => ∃ k, keyOf t y = some k ∧ match dval kk ds k with
    | some e => Q e kd c2
    | none => Q .non (.R []) c2
  | _ => False := rfl
theorem u_rSortIt {rd : RE} : rSortIt rd Γ c Q = rd Γ c fun d _ c1 => match d with
  | .dct t kk ds => SrtOk (itemD t kk ds) ∧ isDatas ds = true ∧ noLs ds = true ∧ Q (.lst ((itemD t kk ds).mergeSort leD)) (.R []) c1
  | _ => False := rfl
theorem u_rIdx {rd ry : RE} : rIdx rd ry Γ c Q = rd Γ c fun d _ c1 => match d with
  | .lst ds => ry Γ c1 fun y _ c2 => EqOk (.lst ds) ∧ EqOk y ∧ ∃ j, ds.findIdx? (fun z => PyData.eqv (py z) (py y)) = some j ∧ Q (.int (j : Nat)) (.R []) c2
  | _ => False := rfl
theorem u_rYes : rYes Γ c T = T true c := rfl
/-! drawers -/
theorem u_rIxG {Q : D → Kd → Nat → Prop} : rIxG i j Γ c Q = match gat Γ i with
  | some ⟨.nl, .gen⟩ => ∀ n : Int, (j = 0 → 0 ≤ n) → (j = 2 → 0 ≤ n ∧ n ≤ c) → Q (.int n) (.R []) c
  | _ => False := rfl
theorem u_rSetG {re : RE} : rSetG i j re Dd Γ c = re Γ c fun d _ c1 => match d, gat Γ i with
  | .int n, some ⟨.nl, .gen⟩ => (j = 0 → 0 ≤ n) ∧ (j = 2 → 0 ≤ n) ∧ ∃ c2 : Nat, c1 ≤ c2 ∧ (j = 2 → n ≤ c2) ∧ Dd.nx Γ c2
  | _, _ => False := rfl
/-! statements -/
theorem u_rNext : rNext Dd Γ c = Dd.nx Γ c := rfl
theorem u_rBreak : rBreak Dd Γ c = Dd.bk Γ c := rfl
theorem u_rCont : rCont Dd Γ c = Dd.ct Γ c := rfl
theorem u_rRet {re : RE} : rRet re Dd Γ c = re Γ c fun d k c1 => d ≠ .gen ∧ (noL d || (isR k && nsD d)) = true ∧ Dd.rt (kills (if noL d then [] else kR k) Γ) d c1 := rfl
theorem u_rRetS {re : RE} : rRetS re Dd Γ c = re Γ c fun d k c1 => d ≠ .gen ∧ (noL d || (stK0 k && nsD d)) = true ∧ Dd.rs d c1 := rfl
theorem u_rRetN : rRetN Dd Γ c = Dd.rt Γ .non c := rfl
theorem u_rDrop {re : RE} : rDrop re Dd Γ c = re Γ c fun _ _ c1 => Dd.nx Γ c1 := rfl
theorem u_rIfS {t : RT} {r s : RS} : rIfS t r s Dd Γ c = t Γ c fun b c1 => if b = true then r Dd Γ c1 else s Dd Γ c1 := rfl
theorem u_rAsg {re : RE} {rg : RG} : rAsg re rg Dd Γ c = re Γ c fun d k c1 => rg d k Γ fun Γ' => Dd.nx Γ' c1 := rfl
theorem u_rAug {re : RE} {rd : RD2} : rAug i re rd Dd Γ c = rVar i Γ c fun dx kx c0 => re Γ c0 fun dy ky c1 => rd dx kx dy ky fun d k => StoreOk Γ i d k fun Γ' => Dd.nx Γ' c1 := rfl
theorem u_rFrz {r : RS} : rFrz i r Dd Γ c = r Dd (frz i Γ) c := rfl
theorem u_rPar {ra : RA} : rPar i j ra Dd Γ c = ra Γ c fun dks c1 => match dks with
  | [(d1, _), (d2, _)] => noL d1 = true ∧ noL d2 = true ∧ Dd.nx (gset (gset Γ i (some ⟨.nl, d1⟩)) j (some ⟨.nl, d2⟩)) c1
  | _ => False := rfl
theorem u_rParR {ra : RA} : rParR i j ra Dd Γ c = ra Γ c fun dks c1 => match dks with
  | [(d1, k1), (d2, k2)] => stK0 (cmb (kk d1 k1) (kk d2 k2)) = true ∧ StoreOk Γ i d1 (cmb (kk d1 k1) (kk d2 k2)) fun Γ' => StoreOk Γ' j d2 (cmb (kk d1 k1) (kk d2 k2)) fun Γ'' => Dd.nx Γ'' c1
  | _ => False := rfl
theorem u_rPar3 {l : Nat} {ra : RA} : rPar3 i j l ra Dd Γ c = ra Γ c fun dks c1 => match dks with
  | [(d1, _), (d2, _), (d3, _)] => noL d1 = true ∧ noL d2 = true ∧ noL d3 = true ∧ Dd.nx (gset (gset (gset Γ i (some ⟨.nl, d1⟩)) j (some ⟨.nl, d2⟩)) l (some ⟨.nl, d3⟩)) c1
  | _ => False := rfl
theorem u_rMkGen {r : RS} : rMkGen i r Dd Γ c = mkGen i Γ c fun Γ' => r Dd Γ' c := rfl
/-! places -/
abbrev PK := D → (D → D) → SK → Nat → Prop
variable {A : D → (D → D) → SK → Nat → Prop} {rp : RP} {sk : SK} {put : D → D}
def pvr : Nat → GE → Nat → (D → (D → D) → SK → Nat → Prop) → Prop
  | _, [], _, _ => False
  | 0, s :: _, c, Q => match s with
    | some ⟨.own, d⟩ => d ≠ .gen ∧ Q d (fun x => x) .own c
    | some ⟨.byr, d⟩ => d ≠ .gen ∧ Q d (fun x => x) .byr c
    | _ => False
  | j + 1, _ :: Γ, c, Q => pvr j Γ c Q
theorem pvr_eq (c : Nat) (Q : D → (D → D) → SK → Nat → Prop) : ∀ (j : Nat) (Γ : GE), pvr j Γ c Q = match gat Γ j with
    | some ⟨.own, d⟩ => d ≠ .gen ∧ Q d (fun x => x) .own c
    | some ⟨.byr, d⟩ => d ≠ .gen ∧ Q d (fun x => x) .byr c
    | _ => False
  | 0, [] => rfl
  | _ + 1, [] => rfl
  | 0, _ :: _ => rfl
  | j + 1, _ :: Γ => pvr_eq c Q j Γ
theorem u_rpVar : rpVar i Γ c A = pvr i Γ c A := (pvr_eq c A i Γ).symm
theorem pvr_own : pvr 0 (some ⟨.own, d⟩ :: Γ) c A = (d ≠ .gen ∧ A d (fun x => x) .own c) := rfl
theorem pvr_byr : pvr 0 (some ⟨.byr, d⟩ :: Γ) c A = (d ≠ .gen ∧ A d (fun x => x) .byr c) := rfl
theorem pvr_s : pvr (j + 1) (s :: Γ) c A = pvr j Γ c A := rfl
theorem u_rpIx {re : RE} : rpIx rp re Γ c A = rp Γ c fun d put sk c1 => re Γ c1 fun y _ c2 => match d, y with
  | .lst ds, .int n => ∃ j e, ixN ds.length n = some j ∧ ds[j]? = some e ∧ A e (fun x => put (.lst (ds.set j x))) sk c2
  | .tup ds, .int n => ∃ j e, ixN ds.length n = some j ∧ ds[j]? = some e ∧ A e (fun x => put (.tup (ds.set j x))) sk c2
  | .dct t kk ds, y => ∃ k j e, keyOf t y = some k ∧ kix kk k = some j ∧ ds[j]? = some e ∧ A e (fun x => put (.dct t kk (ds.set j x))) sk c2
  | _, _ => False := rfl
theorem u_rApp {re : RE} : rApp i re Dd Γ c = rpApp (rpVar i) i re Dd Γ c := rfl
theorem u_rpApp {re : RE} : rpApp rp i re Dd Γ c = rp Γ c fun d put sk c1 => match d with
  | .lst ds => re Γ c1 fun e k c2 => e ≠ .gen ∧ ds.length < 1000000 ∧ IntoOk Γ i e k fun Γ' => Dd.nx (gset Γ' i (some ⟨sk, put (.lst (ds ++ [e]))⟩)) c2
  | _ => False := rfl
theorem u_rpSetA {rix re : RE} : rpSetA rp i rix re Dd Γ c = re Γ c fun e k c0 => rp Γ c0 fun d put sk c1 => rix Γ c1 fun y _ c2 => match d, y with
  | .lst ds, .int n => e ≠ .gen ∧ ∃ j, ixN ds.length n = some j ∧ IntoOk Γ i e k fun Γ' => Dd.nx (gset Γ' i (some ⟨sk, put (.lst (ds.set j e))⟩)) c2
  | .dct t kk ds, y => e ≠ .gen ∧ kk.length < 1000000 ∧ ∃ key, keyOf t y = some key ∧ IntoOk Γ i e k fun Γ' => Dd.nx (gset Γ' i (some ⟨sk, put (dputD t kk ds key e)⟩)) c2
  | _, _ => False := rfl
theorem u_rRvs : rRvs i Dd Γ c = rpRvs (rpVar i) i Dd Γ c := rfl
theorem u_rpRvs : rpRvs rp i Dd Γ c = rp Γ c fun d put sk c1 => match d with
  | .lst ds => Dd.nx (gset Γ i (some ⟨sk, put (.lst ds.reverse)⟩)) c1
  | _ => False := rfl
theorem u_rpPopAt {rix : RE} {rg : RG} : rpPopAt rp i rix rg Dd Γ c = rp Γ c fun d put sk c1 => match d with
  | .lst ds => rix Γ c1 fun y _ c2 => match y with
    | .int n => -(2 ^ 63) ≤ n ∧ n < 2 ^ 63 ∧ ∃ j e, ixN ds.length n = some j ∧ ds[j]? = some e ∧ rg e (.R []) (gset Γ i (some ⟨sk, put (.lst (ds.eraseIdx j))⟩)) fun Γ' => Dd.nx Γ' c2
    | _ => False
  | _ => False := rfl
theorem u_rpPop {rg : RG} : rpPop rp i rg Dd Γ c = rp Γ c fun d put sk c1 => match d with
  | .lst ds => ∃ e, ds[ds.length - 1]? = some e ∧ rg e (.R []) (gset Γ i (some ⟨sk, put (.lst ds.dropLast)⟩)) fun Γ' => Dd.nx Γ' c1
  | _ => False := rfl
theorem u_rpIns {rix re : RE} : rpIns rp i rix re Dd Γ c = rp Γ c fun d put sk c1 => match d with
  | .lst ds => rix Γ c1 fun y _ c2 => re Γ c2 fun e k c3 => match y with
    | .int n => e ≠ .gen ∧ ds.length < 1000000 ∧ 0 ≤ n ∧ n < 2 ^ 63 ∧ IntoOk Γ i e k fun Γ' => Dd.nx (gset Γ' i (some ⟨sk, put (.lst (ds.take n.toNat ++ [e] ++ ds.drop n.toNat))⟩)) c3
    | _ => False
  | _ => False := rfl
theorem u_rpExt {re : RE} : rpExt rp i re Dd Γ c = rp Γ c fun d put sk c1 => match d with
  | .lst ds => re Γ c1 fun e k c2 => match e with
    | .lst es => ds.length + es.length ≤ 1000000 ∧ IntoOk Γ i (.tup es) k fun Γ' => Dd.nx (gset Γ' i (some ⟨sk, put (.lst (ds ++ es))⟩)) c2
    | _ => False
  | _ => False := rfl
theorem u_rpClr : rpClr rp i Dd Γ c = rp Γ c fun d put sk c1 => match d with
  | .lst ds => Dd.nx (gset Γ i (some ⟨sk, put (.lst [])⟩)) c1
  | _ => False := rfl
theorem u_rgDrop {G : GE → Prop} : rgDrop d k Γ G = G Γ := rfl
/-! stores -/
variable {G : GE → Prop}
theorem u_rgName : rgName i d k Γ G = StoreOk Γ i d k G := rfl
theorem sto_nl (h : noL d = true) : StoreOk Γ i d k G = G (gset Γ i (some ⟨.nl, d⟩)) := stoNl h
theorem sto_own (h : noL d = false) {is : List Nat} : StoreOk Γ i d (.R is) G = G (gset (kills is Γ) i (some ⟨.own, d⟩)) := by unfold StoreOk; rw [h, if_neg Bool.false_ne_true]
theorem sto_S (h : noL d = false) : StoreOk Γ i d .S G = G (gset Γ i (some ⟨.sh, d⟩)) := by unfold StoreOk; rw [h, if_neg Bool.false_ne_true]
theorem into_nl (h : noL d = true) : IntoOk Γ i d k G = G Γ := by unfold IntoOk; rw [if_pos h]
theorem into_own (h : noL d = false) {is : List Nat} : IntoOk Γ i d (.R is) G = (i ∉ is ∧ G (kills is Γ)) := by unfold IntoOk; rw [h, if_neg Bool.false_ne_true]
theorem frz_at : frz i Γ = match gat Γ i with
  | some ⟨.own, d⟩ => gset Γ i (some ⟨.sh, d⟩)
  | _ => Γ := rfl
/-! operators -/
theorem u_dI {C : Int → Int → Prop} {g : Int → Int → D} {m n : Int} : dI C g (.int m) k (.int n) k' P = (C m n ∧ P (g m n) (.R [])) := rfl
theorem u_dI0 {g : Int → Int → D} {m n : Int} : dI0 g (.int m) k (.int n) k' P = P (g m n) (.R []) := rfl
theorem u_dU {g : Int → Int} {m : Int} : dU g (.int m) k P = P (.int (g m)) (.R []) := rfl
theorem u_addI {m n : Int} : dAdd (.int m) k (.int n) k' P = P (.int (m + n)) (.R []) := rfl
theorem u_addL {xs ys : List D} : dAdd (.lst xs) k (.lst ys) k' P = (xs.length + ys.length ≤ 1000000 ∧ P (.lst (xs ++ ys)) (if (noLs xs && noLs ys) = true then .R [] else cmb k k')) := rfl
theorem u_addT {xs ys : List D} : dAdd (.tup xs) k (.tup ys) k' P = (xs.length + ys.length ≤ 1000000 ∧ P (.tup (xs ++ ys)) (cmb k k')) := rfl
theorem u_addS {x y : Str} : dAdd (.str x) k (.str y) k' P = (x.length + y.length ≤ sizeLine ∧ P (.str (x ++ y)) (.R [])) := rfl
theorem u_mulI {m n : Int} : dMul (.int m) k (.int n) k' P = (MulB m n ∧ P (.int (m * n)) (.R [])) := rfl
theorem u_mulL {xs : List D} {n : Int} : dMul (.lst xs) k (.int n) k' P = (noLs xs = true ∧ 0 ≤ n ∧ n ≤ 1000000 ∧ xs.length * n.toNat ≤ 1000000 ∧ P (.lst (List.replicate n.toNat xs).flatten) (.R [])) := rfl
theorem u_mulS {x : Str} {n : Int} : dMul (.str x) k (.int n) k' P = (1 ≤ n ∧ n ≤ 1000 ∧ x.length = 1 ∧ P (.str (repS x n.toNat)) (.R [])) := rfl
theorem u_div {m n : Int} : dDiv (.int m) k (.int n) k' P = (DivOk n ∧ P (.int (m / n)) (.R [])) := rfl
theorem u_mod {m n : Int} : dMod (.int m) k (.int n) k' P = (0 < n ∧ P (.int (m % n)) (.R [])) := rfl
theorem u_ixL {ds : List D} {n : Int} : dIx (.lst ds) k (.int n) k' P = ∃ d, atI ds n = some d ∧ P d k := rfl
theorem u_ixT {ds : List D} {n : Int} : dIx (.tup ds) k (.int n) k' P = ∃ d, atI ds n = some d ∧ P d k := rfl
theorem u_ixM {ds : List D} {n : Int} : dIx (.mt ds) k (.int n) k' P = ∃ d, atI ds n = some d ∧ P d (.R []) := rfl
theorem u_ixR {ns : List Int} {n : Int} : dIx (.scr ns) k (.int n) k' P = ∃ m, atI ns n = some m ∧ P (.int m) (.R []) := rfl
theorem u_ixD {t : Bool} {kk : List (List Key)} {ds : List D} : dIx (.dct t kk ds) k e k' P = ∃ key d, keyOf t e = some key ∧ dval kk ds key = some d ∧ P d k := rfl
theorem u_ixF0 {p : Int × Int} : dIx (eF p) k (.int 0) k' P = P (.int p.1) k := by
  show (∃ d, atI [D.int p.1, .int p.2] 0 = some d ∧ P d k) = _
  exact propext (at0 (P := fun d => P d k))
theorem u_ixF1 {p : Int × Int} : dIx (eF p) k (.int 1) k' P = P (.int p.2) k := by
  show (∃ d, atI [D.int p.1, .int p.2] 1 = some d ∧ P d k) = _
  exact propext (at1 (P := fun d => P d k))
theorem u_ixRC0 {p : RC} : dIx (eRC p) k (.int 0) k' P = P (eCol p.1) k := by
  show (∃ d, atI [eCol p.1, .int p.2] 0 = some d ∧ P d k) = _
  exact propext (at0 (P := fun d => P d k))
theorem u_ixRC1 {p : RC} : dIx (eRC p) k (.int 1) k' P = P (.int p.2) k := by
  show (∃ d, atI [eCol p.1, .int p.2] 1 = some d ∧ P d k) = _
  exact propext (at1 (P := fun d => P d k))
theorem u_ixC {ns : List Int} {n : Int} : dIx (eCol ns) k (.int n) k' P = ∃ m, atI ns n = some m ∧ P (.int m) k := by
  show (∃ d, atI (ns.map D.int) n = some d ∧ P d k) = _
  refine propext ⟨fun ⟨d, h, q⟩ => ?_, fun ⟨m, h, q⟩ => ⟨_, atI_map D.int h, q⟩⟩
  unfold atI at h ⊢
  rw [List.length_map] at h
  cases e : ixN ns.length n with
  | none => rw [e] at h; cases h
  | some j =>
    rw [e] at h
    have h : (ns.map D.int)[j]? = some d := h
    rw [List.getElem?_map] at h
    obtain ⟨m, h1, rfl⟩ := Option.map_eq_some_iff.mp h
    exact ⟨m, h1, q⟩
theorem u_at0 {x : D} {xs : List D} {A : D → Prop} : (∃ d, atI (x :: xs) 0 = some d ∧ A d) = A x := propext at0
theorem u_at1 {x y : D} {xs : List D} {A : D → Prop} : (∃ d, atI (x :: y :: xs) 1 = some d ∧ A d) = A y := propext at1
theorem u_at2 {x y z : D} {xs : List D} {A : D → Prop} : (∃ d, atI (x :: y :: z :: xs) 2 = some d ∧ A d) = A z := by
  have e : atI (x :: y :: z :: xs) 2 = some z := by
    unfold atI ixN
    rw [if_pos (by decide), if_pos (by rw [List.length_cons, List.length_cons, List.length_cons]; omega)]; rfl
  rw [e]
  exact propext ⟨fun ⟨d, h, p⟩ => by cases h; exact p, fun p => ⟨z, rfl, p⟩⟩
theorem u_at3 {x y z w : D} {xs : List D} {A : D → Prop} : (∃ d, atI (x :: y :: z :: w :: xs) 3 = some d ∧ A d) = A w := by
  have e : atI (x :: y :: z :: w :: xs) 3 = some w := by
    unfold atI ixN
    rw [if_pos (by decide), if_pos (by simp only [List.length_cons]; omega)]; rfl
  rw [e]
  exact propext ⟨fun ⟨d, h, p⟩ => by cases h; exact p, fun p => ⟨w, rfl, p⟩⟩
theorem u_slL {ds : List D} {lo hi : Option Int} : dSl (.lst ds) k lo hi P = P (.lst (cutD ds lo hi)) (if noLs ds = true then .R [] else k) := rfl
theorem u_slT {ds : List D} {lo hi : Option Int} : dSl (.tup ds) k lo hi P = P (.tup (cutD ds lo hi)) k := rfl
theorem u_slC {ns : List Int} {lo hi : Option Int} : dSl (eCol ns) k lo hi P = P (eCol (cutD ns lo hi)) k := by
  show P (.tup (cutD (ns.map D.int) lo hi)) k = _
  rw [cutD_map]; rfl
theorem u_slR {ns : List Int} {lo hi : Option Int} : dSl (.scr ns) k lo hi P = P (.lst ((cutD ns lo hi).map .int)) (.R []) := rfl
theorem u_slS {z : Str} {lo hi : Option Int} : dSl (.str z) k lo hi P = (z.length ≤ sizeLine ∧ P (.str (cutS z lo hi)) (.R [])) := rfl
theorem u_eq : dEq d k e k' P = (EqOk d ∧ EqOk e ∧ P (.bl (PyData.eqv (py d) (py e))) (.R [])) := rfl
theorem u_ne : dNe d k e k' P = (EqOk d ∧ EqOk e ∧ P (.bl (!PyData.eqv (py d) (py e))) (.R [])) := rfl
theorem eqOk_I {n : Int} : EqOk (.int n) := eqOk_int
theorem u_eqI {m n : Int} : dEq (.int m) k (.int n) k' P = P (.bl (decide (m = n))) (.R []) := by
  show (EqOk (.int m) ∧ EqOk (.int n) ∧ P (.bl (PyData.eqv (py (.int m)) (py (.int n)))) (.R [])) = _
  rw [eqv_int]
  exact propext ⟨fun h => h.2.2, fun h => ⟨eqOk_int, eqOk_int, h⟩⟩
theorem u_neI {m n : Int} : dNe (.int m) k (.int n) k' P = P (.bl (!decide (m = n))) (.R []) := by
  show (EqOk (.int m) ∧ EqOk (.int n) ∧ P (.bl (!PyData.eqv (py (.int m)) (py (.int n)))) (.R [])) = _
  rw [eqv_int]
  exact propext ⟨fun h => h.2.2, fun h => ⟨eqOk_int, eqOk_int, h⟩⟩
theorem u_eqB {m n : Bool} : dEq (.bl m) k (.bl n) k' P = P (.bl (m == n)) (.R []) := by
  show (EqOk (.bl m) ∧ EqOk (.bl n) ∧ P (.bl (PyData.eqv (py (.bl m)) (py (.bl n)))) (.R [])) = _
  have e : PyData.eqv (py (.bl m)) (py (.bl n)) = (m == n) := by simp [py, PyData.eqv]
  rw [e]
  exact propext ⟨fun h => h.2.2, fun h => ⟨eqOk_bl, eqOk_bl, h⟩⟩
theorem u_neB {m n : Bool} : dNe (.bl m) k (.bl n) k' P = P (.bl (!(m == n))) (.R []) := by
  show (EqOk (.bl m) ∧ EqOk (.bl n) ∧ P (.bl (!PyData.eqv (py (.bl m)) (py (.bl n)))) (.R [])) = _
  have e : PyData.eqv (py (.bl m)) (py (.bl n)) = (m == n) := by simp [py, PyData.eqv]
  rw [e]
  exact propext ⟨fun h => h.2.2, fun h => ⟨eqOk_bl, eqOk_bl, h⟩⟩
theorem u_isN {neg : Bool} : dIsN neg d k .non k' P = (d ≠ .gen ∧ P (.bl (if neg then !DL.isNon d else DL.isNon d)) (.R [])) := rfl
theorem u_isB {neg m n : Bool} : dIsB neg (.bl m) k (.bl n) k' P = P (.bl (if neg then !decide (m = n) else decide (m = n))) (.R []) := rfl
theorem u_inL {neg : Bool} {ds : List D} : dIn neg d k (.lst ds) k' P = (EqOk d ∧ EqOk (.lst ds) ∧ P (.bl (neg != ds.any fun z => PyData.eqv (py z) (py d))) (.R [])) := rfl
theorem u_inT {neg : Bool} {ds : List D} : dIn neg d k (.tup ds) k' P = (flatD d = true ∧ ds.all flatD = true ∧ P (.bl (neg != ds.any fun z => PyData.eqv (py z) (py d))) (.R [])) := rfl
theorem u_inM {neg : Bool} {ds : List D} : dIn neg d k (.mt ds) k' P = (flatD d = true ∧ ds.all flatD = true ∧ P (.bl (neg != ds.any fun z => PyData.eqv (py z) (py d))) (.R [])) := rfl
theorem u_inD {neg t : Bool} {kk : List (List Key)} {ds : List D} : dIn neg d k (.dct t kk ds) k' P = ∃ key, keyOf t d = some key ∧ P (.bl (neg != (kix kk key).isSome)) (.R []) := rfl
/-! built-ins -/
theorem u_lenL {ds : List D} : dLen [(.lst ds, k)] P = P (.int ds.length) (.R []) := rfl
theorem u_lenT {ds : List D} : dLen [(.tup ds, k)] P = P (.int ds.length) (.R []) := rfl
theorem u_lenC {ns : List Int} : dLen [(eCol ns, k)] P = P (.int ns.length) (.R []) := by
  show P (.int ((ns.map D.int).length : Nat)) (.R []) = _
  rw [List.length_map]
theorem u_lenM {ps : List (Int × Int)} : dLen [(eMid ps, k)] P = P (.int ps.length) (.R []) := by
  show P (.int ((ps.map eF).length : Nat)) (.R []) = _
  rw [List.length_map]
theorem u_lenR {ns : List Int} : dLen [(.scr ns, k)] P = P (.int ns.length) (.R []) := rfl
theorem u_lenS {z : Str} : dLen [(.str z, k)] P = (z.length ≤ sizeLine ∧ P (.int z.length) (.R [])) := rfl
theorem u_n1 {g : Int → D} {n : Int} : dN1 g [(.int n, k)] P = P (g n) (.R []) := rfl
theorem u_n2 {g : Int → Int → D} {m n : Int} : dN2 g [(.int m, k), (.int n, k')] P = P (g m n) (.R []) := rfl
theorem u_intI {n : Int} : dInt [(.int n, k)] P = P (.int n) (.R []) := rfl
theorem u_intB {b : Bool} : dInt [(.bl b, k)] P = P (.int (if b then 1 else 0)) (.R []) := rfl
theorem u_intS {z : Str} : dInt [(.str z, k)] P = ∃ n, PySem.intText? z = some n ∧ z.length ≤ 640 ∧ P (.int n) (.R []) := rfl
theorem ints_inj : ∀ {xs ys : List Int}, xs.map D.int = ys.map D.int → xs = ys
  | [], [], _ => rfl
  | [], _ :: _, h => nomatch h
  | _ :: _, [], h => nomatch h
  | x :: xs, y :: ys, h => by
    rw [List.map_cons, List.map_cons] at h
    injection h with h1 h2
    injection h1 with h1
    rw [h1, ints_inj h2]
theorem u_sum {ns : List Int} : dSum [(.lst (ns.map D.int), k)] P = P (.int ns.sum) (.R []) := propext ⟨fun ⟨ms, e, h⟩ => by rw [ints_inj e]; exact h, fun h => ⟨ns, rfl, h⟩⟩
theorem u_sumA {α : Type} {f : α → Int} {xs : List α} : dSum [(.lst (xs.map fun x => D.int (f x)), k)] P = P (.int (xs.map f).sum) (.R []) := by
  have e : (xs.map fun x => D.int (f x)) = (xs.map f).map D.int := by rw [List.map_map]; rfl
  rw [e]; exact u_sum
theorem bls_inj : ∀ {xs ys : List Bool}, xs.map D.bl = ys.map D.bl → xs = ys
  | [], [], _ => rfl
  | [], _ :: _, h => nomatch h
  | _ :: _, [], h => nomatch h
  | x :: xs, y :: ys, h => by
    rw [List.map_cons, List.map_cons] at h
    injection h with h1 h2
    injection h1 with h1
    rw [h1, bls_inj h2]
theorem u_all {α : Type} {g : List Bool → Bool} {f : α → Bool} {xs : List α} : dAllA g [(.lst (xs.map fun x => D.bl (f x)), k)] P = P (.bl (g (xs.map f))) (.R []) := by
  have e : (xs.map fun x => D.bl (f x)) = (xs.map f).map D.bl := by rw [List.map_map]; rfl
  rw [e]
  exact propext ⟨fun ⟨ms, e, h⟩ => by rw [bls_inj e]; exact h, fun h => ⟨_, rfl, h⟩⟩
theorem u_listL {ds : List D} : dList [(.lst ds, k)] P = P (.lst ds) (if noLs ds = true then .R [] else k) := rfl
theorem u_listT {ds : List D} : dList [(.tup ds, k)] P = P (.lst ds) (if noLs ds = true then .R [] else k) := rfl
theorem u_listC {ns : List Int} : dList [(eCol ns, k)] P = P (.lst (ns.map D.int)) (.R []) := by
  show P (.lst (ns.map D.int)) (if noLs (ns.map D.int) = true then .R [] else k) = _
  rw [noLs_ints, if_pos rfl]
theorem u_listR {ns : List Int} : dList [(.scr ns, k)] P = P (.lst (ns.map .int)) (.R []) := rfl
theorem u_tupL {ds : List D} : dTuple [(.lst ds, k)] P = P (.tup ds) (if noLs ds = true then .R [] else k) := rfl
theorem u_tupT {ds : List D} : dTuple [(.tup ds, k)] P = P (.tup ds) k := rfl
theorem u_isi {n : String} : dIsiA [(d, k), (.ty n, k')] P = (isData d = true ∧ okTy n = true ∧ P (.bl (isi (tyD d) n)) (.R [])) := rfl
theorem u_isi2 {n m : String} : dIsiA [(d, k), (.tup [.ty n, .ty m], k')] P = (isData d = true ∧ okTy n = true ∧ okTy m = true ∧ P (.bl (isi (tyD d) n || isi (tyD d) m)) (.R [])) := rfl
theorem u_sortG {ds : List D} : dSortG [(.lst ds, k)] P = (SrtOk ds ∧ P (.lst (ds.mergeSort leD)) (.R [])) := rfl
/-! what is walked -/
variable {I : List D → Bool → Bool → Nat → Prop}
theorem u_riRng1 {ra : RA} : riRng1 ra Γ c I = ra Γ c fun dks c1 => match dks with
  | [(.int j, _)] => -(2 ^ 62) ≤ j ∧ j < 2 ^ 62 ∧ I (intsFrom 0 j.toNat) true true c1
  | _ => False := rfl
theorem u_riRng2 {ra : RA} : riRng2 ra Γ c I = ra Γ c fun dks c1 => match dks with
  | [(.int i, _), (.int j, _)] => (-(2 ^ 62) ≤ i ∧ i < 2 ^ 62 ∧ -(2 ^ 62) ≤ j ∧ j < 2 ^ 62) ∧ I (intsFrom i (j - i).toNat) true true c1
  | _ => False := rfl
theorem u_riSeq {re : RE} : riSeq re Γ c I = re Γ c fun d k c1 => match d with
  | .lst ds => I ds (noLs ds) (stK k) c1
  | .tup ds => I ds (noLs ds) (noLs ds || stK k) c1
  | .scr ns => I (ns.map .int) true true c1
  | .str z => I (z.cps.toList.map fun n => .str ⟨#[n]⟩) true true c1
  | _ => False := rfl
theorem u_riZip {ra : RA} : riZip ra Γ c I = ra Γ c fun dks c1 => match dks with
  | [(x, k1), (y, k2)] => match seqD x, seqD y with
    | some xs, some ys => I (zipD xs ys) (noLs xs && noLs ys) (seqS x k1 && seqS y k2) c1
    | _, _ => False
  | _ => False := rfl
theorem u_riZip3 {ra : RA} : riZip3 ra Γ c I = ra Γ c fun dks c1 => match dks with
  | [(x, k1), (y, k2), (z, k3)] => match seqD x, seqD y, seqD z with
    | some xs, some ys, some zs => I (zipD3 xs ys zs) (noLs xs && (noLs ys && noLs zs)) (seqS x k1 && (seqS y k2 && seqS z k3)) c1
    | _, _, _ => False
  | _ => False := rfl
theorem u_riEnum {ra : RA} : riEnum ra Γ c I = ra Γ c fun dks c1 => match dks with
  | [(x, k1)] => match seqD x with
    | some xs => I (enumD 0 xs) (noLs xs) (seqS x k1) c1
    | _ => False
  | _ => False := rfl
theorem stK_S : stK .S = true := rfl
theorem stK_R : stK (.R []) = true := rfl
theorem stK0_R : stK0 (.R []) = true := rfl
theorem kR_R {is : List Nat} : kR (.R is) = is := rfl
theorem isR_S : isR .S = false := rfl
theorem noL_int {n : Int} : noL (.int n) = true := id rfl
theorem noL_bl {b : Bool} : noL (.bl b) = true := id rfl
theorem noL_str {z : Str} : noL (.str z) = true := id rfl
theorem noL_non : noL .non = true := id rfl
theorem noL_gen : noL .gen = true := id rfl
theorem noL_scr {ns : List Int} : noL (.scr ns) = true := id rfl
theorem noL_tup {ds : List D} : noL (.tup ds) = noLs ds := id rfl
theorem noL_mt {ds : List D} : noL (.mt ds) = noLs ds := id rfl
theorem noL_lst {ds : List D} : noL (.lst ds) = false := id rfl
theorem noL_dct {t : Bool} {kk : List (List Key)} {ds : List D} : noL (.dct t kk ds) = false := id rfl
theorem noLs_nil : noLs [] = true := id rfl
theorem noLs_cons {ds : List D} : noLs (d :: ds) = (noL d && noLs ds) := id rfl
theorem nsD_int {n : Int} : nsD (.int n) = true := id rfl
theorem nsD_bl {b : Bool} : nsD (.bl b) = true := id rfl
theorem nsD_str {z : Str} : nsD (.str z) = true := id rfl
theorem nsD_non : nsD .non = true := id rfl
theorem nsD_tup {ds : List D} : nsD (.tup ds) = nsDs ds := id rfl
theorem nsD_lst {ds : List D} : nsD (.lst ds) = nsDs ds := id rfl
theorem nsDs_nil : nsDs [] = true := id rfl
theorem nsDs_cons {ds : List D} : nsDs (d :: ds) = (nsD d && nsDs ds) := id rfl
theorem seqD_l {ds : List D} : seqD (.lst ds) = some ds := rfl
theorem seqD_t {ds : List D} : seqD (.tup ds) = some ds := rfl
theorem seqD_c {ns : List Int} : seqD (eCol ns) = some (ns.map .int) := rfl
theorem seqD_m {ns : List (Int × Int)} : seqD (eMid ns) = some (ns.map eF) := rfl
theorem seqD_r {ns : List Int} : seqD (.scr ns) = some (ns.map .int) := rfl
theorem seqS_l {ds : List D} : seqS (.lst ds) k = stK k := rfl
theorem seqS_t {ds : List D} : seqS (.tup ds) k = (noLs ds || stK k) := rfl
theorem seqS_c {ns : List Int} : seqS (eCol ns) k = true := by
  show (noLs (ns.map D.int) || stK k) = true
  rw [noLs_ints]; rfl
theorem seqS_m {ns : List (Int × Int)} : seqS (eMid ns) k = true := by
  show (noLs (ns.map eF) || stK k) = true
  rw [noLs_mid]; rfl
theorem seqS_r {ns : List Int} : seqS (.scr ns) k = true := rfl
theorem ng_int {n : Int} : (D.int n ≠ .gen) = True := propext ⟨fun _ => trivial, fun _ => nofun⟩
theorem NG_nil : NG [] = True := rfl
theorem NG_cons {r : List DK} : NG ((d, k) :: r) = (d ≠ .gen ∧ NG r) := rfl
theorem ng_col {ns : List Int} : (eCol ns ≠ .gen) = True := propext ⟨fun _ => trivial, fun _ => nofun⟩
theorem ng_mid {ns : List (Int × Int)} : (eMid ns ≠ .gen) = True := propext ⟨fun _ => trivial, fun _ => nofun⟩
theorem ng_F {p : Int × Int} : (eF p ≠ .gen) = True := propext ⟨fun _ => trivial, fun _ => nofun⟩
theorem ng_RC {p : RC} : (eRC p ≠ .gen) = True := propext ⟨fun _ => trivial, fun _ => nofun⟩
theorem nsD_F {p : Int × Int} : nsD (eF p) = true := id rfl
theorem cmb_RRi {is : List Nat} : cmb (.R []) (.R is) = .R is := by cases is <;> rfl
theorem u_pick {m : Int} {A : D → Nat → Prop} : callX S_pick [(.gen, k), (.int m, k')] c A = (0 < m ∧ m < 1073741824 ∧ c < LIM ∧ ∀ r : Int, 0 ≤ r → r < m → A (.int r) (c + 1)) := propext pick_iff
theorem u_mix {m n : Int} {A : D → Nat → Prop} : callX S_mix [(.int m, k), (.int n, k')] c A = (0 ≤ n ∧ n < 2000000000000000000 ∧ ∀ r : Int, 0 ≤ r → r < 1999999973 → A (.int r) c) := propext mix_iff
theorem u_shOk0 : shOk [] = true := rfl
theorem u_shOk {r : List DK} : shOk ((d, k) :: r) = ((noL d || stK0 k) && shOk r) := rfl
end
end DL
namespace DL
open PySem PySem.Spec L2
theorem rows_head {w : Nat} {rs : List RC} (h : RowsB w rs) : ∃ r, r ∈ rs ∧ atI (rs.map eRC) 0 = some (eRC r) := by
  have h1 := h.1
  obtain ⟨x, h, e⟩ := atI_mem (xs := rs) (i := 0) (Int.le_refl 0) (by omega)
  exact ⟨x, h, atI_map eRC e⟩
theorem pb_of {t : Int} {B : Nat} (h : t.natAbs ≤ B) (hB : B < 2 ^ 7500) : PB 7500 t := Nat.lt_of_le_of_lt h hB
theorem big100 {t : Int} (h : t.natAbs ≤ 10 ^ 40) : PB 7500 t := pb_of h (by decide +kernel)
theorem noL_eF {p : Int × Int} : noL (eF p) = true := id rfl
theorem noLs_rng {lo : Int} {n : Nat} : noLs (intsFrom lo n) = true := by rw [rng_map]; exact noLs_ints _
theorem stK_Rc {i : Nat} {is : List Nat} : stK (.R (i :: is)) = false := id rfl
end DL
namespace DL
open PySem PySem.Spec L2
/-! ### the checks of a law -/
theorem sameT_call {n : Nat} {x y : D} {c : Nat} {P : D → Nat → Prop} (e : x = y) (h1 : okD x = true) (h2 : dep x ≤ 60) (h5 : dep x < n) (h : P (.bl true) c) :
    ∃ a, (S_same n).args a = [x, y] ∧ (S_same n).pre a c ∧ ∀ d c', (S_same n).res a c d c' → P d c' := by
  subst e
  refine same_call h1 h2 h1 h2 h5 fun b hb => ?_
  cases hb.mpr rfl
  exact h
variable {Γ : GE} {c i j : Nat} {Q : D → Kd → Nat → Prop} {P : D → Kd → Prop} {T : Bool → Nat → Prop} {d e : D} {k k' : Kd}
theorem eqT (h : EqOk d) (hn : nbD d = true) (hP : P (.bl true) (.R [])) : dEq d k d k' P := by
  rw [u_eq]; refine ⟨h, h, ?_⟩; rw [eqv_self hn]; exact hP
theorem neF (h : EqOk d) (hn : nbD d = true) (hP : P (.bl false) (.R [])) : dNe d k d k' P := by
  rw [u_ne]; refine ⟨h, h, ?_⟩; rw [eqv_self hn]; exact hP
theorem midI_one {w : Nat} {r : RC} (h : r.1.length = w) (hc : 1 ≤ r.2) : midI w [r] = r.1.map fun n => (n, 1) := by
  subst h
  unfold midI
  refine List.ext_getElem (by rw [List.length_map, List.length_map, List.length_range]) fun i h1 h2 => ?_
  rw [List.length_map] at h2
  rw [List.getElem_map, List.getElem_map, List.getElem_range]
  have e1 : numI i [r] = r.2 * r.1[i] := by
    unfold numI
    rw [List.map_cons, List.map_nil, List.sum_cons, List.sum_nil, Int.add_zero, List.getD_eq_getElem?_getD, List.getElem?_eq_getElem h2]; rfl
  have e2 : sumI [r] = r.2 := by
    unfold sumI
    rw [List.map_cons, List.map_nil, List.sum_cons, List.sum_nil, Int.add_zero]
  rw [e1, e2]
  refine (lowF_eq (by omega) ⟨Int.zero_lt_one, ?_, Int.gcd_one⟩).symm
  show r.1[i] * r.2 = r.2 * r.1[i] * 1
  rw [Int.mul_one, Int.mul_comm]
end DL
namespace DL
open PySem PySem.Spec L2
theorem asmid_call {ns : List Int} {c : Nat} {P : D → Nat → Prop} (h : ns.length ≤ 1000) (hP : P (eMid (ns.map fun n => (n, 1))) c) : ∃ a, S_as_middle.args a = [eCol ns] ∧ S_as_middle.pre a c ∧ ∀ d c', S_as_middle.res a c d c' → P d c' :=
  ⟨ns, rfl, h, fun d c' ⟨e1, e2⟩ => by rw [e1, e2]; exact hP⟩
theorem okD_mm {p q : List (Int × Int)} (h1 : p.length ≤ 1000) (h2 : q.length ≤ 1000) : okD (.lst [eMid p, eMid q]) = true := by
  show (true && (okD (eMid p) && (okD (eMid q) && true))) = true
  rw [okD_mid (by omega), okD_mid (by omega)]; rfl
theorem dep_mm (p q : List (Int × Int)) : dep (.lst [eMid p, eMid q]) ≤ 3 := by
  have h1 := dep_mid p
  have h2 := dep_mid q
  show max (dep (eMid p)) (max (dep (eMid q)) 0) + 1 ≤ 3
  omega
end DL
namespace DL
open PySem PySem.Spec L2
theorem noLs_false {α : Type} {f : α → D} (h : ∀ x, noL (f x) = false) {x : α} : ∀ {xs : List α}, x ∈ xs → noLs (xs.map f) = false
  | y :: ys, _ => by show (noL (f y) && noLs (ys.map f)) = false; rw [h]; rfl
theorem noLs_pic {p : List Row} {r : Row} (h : r ∈ p) : noLs (p.map eRow) = false := noLs_false (fun _ => rfl) h
theorem noL_eRow {r : Row} : noL (eRow r) = false := id rfl
theorem noL_ePic {r : List Row} : noL (ePic r) = false := id rfl
theorem itK_ft : itK false true = .S := rfl
theorem itK_ff : itK false false = .B := rfl
theorem itK_t {b : Bool} : itK true b = .R [] := rfl
end DL
namespace DL
open PySem PySem.Spec L2
/-! ### a, b = a list -/
def rgUnl (n : Nat) (s : RGs) : RG := fun d k Γ Q => match d with
  | .lst ds => ds.length = n ∧ s ds k Γ Q
  | _ => False
section
variable {K : PySem.W.Frag} {B : Bx} {fp f g : List Addr} {k : Kd} {a : Addr}
theorem StK.tail (h : StK B (a :: g) k) : StK B g k := by
  cases k with
  | R is => exact ⟨(List.nodup_cons.mp h.1).2, fun b hb => h.2 b (List.mem_cons_of_mem _ hb)⟩
  | S => exact fun b hb => h b (List.mem_cons_of_mem _ hb)
  | B => exact fun b hb => h b (List.mem_cons_of_mem _ hb)
theorem gd_unl {tg : List Nat} {n : Nat} {u : TGs} {s : RGs} (h : GsD K tg u s) : GD K tg (gUnl K n u) (rgUnl n s) := by
  intro B Γ c σ H d v fp k Qd Q E r st q f
  unfold rgUnl at q
  split at q
  · obtain ⟨a, us, fl, rfl, e, rfl, rs⟩ := r.lst
    exact ⟨a, us, rfl, SqL.of e, by rw [rs.length]; exact q.1, h B Γ c σ H _ us fl k _ _ E rs st.tail q.2 fun B1 Γ1 σ1 l1 E1 q1 s1 w1 =>
      f B1 Γ1 σ1 l1 E1 q1 ⟨fun g hg => s1.1 g (StK.tail hg), fun b hb => (s1.2.1 b hb).imp id fun z => List.mem_cons_of_mem _ z, s1.2.2⟩ w1⟩
  · exact q.elim
variable {d e : D} {Γ : GE} {Q : GE → Prop}
theorem unl2 {r s : RG} : rgUnl 2 (rgCons r (rgCons s rgNil)) (.lst [d, e]) k Γ Q = r d k Γ fun Γ1 => s e k Γ1 Q := by
  have := tup2 (r := r) (s := s) (d := d) (e := e) (k := k) (Γ := Γ) (Q := Q)
  exact this
end
theorem EqOkT {n : Int} : EqOk (.int n) = True := propext ⟨fun _ => trivial, fun _ => eqOk_int⟩
end DL
namespace DL
open PySem PySem.Spec L2
/-- a comprehension over a drawn range, of drawn elements -/
theorem rLc_drawn {α : Type} {vs : List Nat} {ri : RI} {rg : RG} {re : RE} {Γ : GE} {c : Nat} {Q : D → Kd → Nat → Prop} (n0 k0 k : Nat) (Rn : Nat → Prop) (e : α → D) (R : α → Prop)
    (hi : ∀ P : List D → Bool → Bool → Nat → Prop, (∀ n c1, Rn n → n ≤ n0 → c ≤ c1 → c1 ≤ c + k0 → P (intsFrom 0 n) true true c1) → ri Γ c P) (hl2 : n0 ≤ 1000000)
    (hs : ∀ (i : Nat) (c2 : Nat), c ≤ c2 → c2 + k ≤ c + k0 + n0 * k → ∀ P : D → Kd → Nat → Prop, (∀ x c3, R x → c2 ≤ c3 → c3 ≤ c2 + k → P (e x) (.R []) c3) → rg (.int i) (.R []) (kills vs Γ) fun Γ2 => re Γ2 c2 P) (hn : ∀ x, e x ≠ .gen) (hns : ∀ x, nsD (e x) = true)
    (h : ∀ xs : List α, Rn xs.length → xs.length ≤ n0 → (∀ x ∈ xs, R x) → ∀ c2, c ≤ c2 → c2 ≤ c + k0 + n0 * k → Q (.lst (xs.map e)) (.R []) c2) : rLc vs ri rg rYes re Γ c Q := by
  refine hi _ fun n c1 hR hn0 h1 h2 => ?_
  have hk : n * k ≤ n0 * k := Nat.mul_le_mul_right k hn0
  have := rLc_draw (vs := vs) (ri := fun _ _ P => P (intsFrom 0 n) true true c1) (rg := rg) (re := re) (Γ := Γ) (c := c) (Q := Q) n (intsFrom 0 n) e R true c1 k (fun P h => h) (rng_len n) (by omega)
    (fun i d hd c2 g1 g2 P hP => by
      obtain ⟨_, rfl⟩ := intsFrom_get hd
      rw [Int.zero_add]
      exact hs i c2 (by omega) (by omega) P hP) hn (fun xs hl hx c2 g1 g2 => h xs (by rw [hl]; exact hR) (by omega) hx c2 (by omega) (by omega)) hns
  exact this
theorem nsDs_all {α : Type} {f : α → D} (h : ∀ x, nsD (f x) = true) : ∀ xs : List α, nsDs (xs.map f) = true
  | [] => rfl
  | x :: xs => by
    show (nsD (f x) && nsDs (xs.map f)) = true
    rw [h x, nsDs_all h xs]; rfl
theorem nsD_eRow {r : List (List Int)} : nsD (eRow r) = true := nsDs_of (noLs_cols r)
theorem nsD_ePic {p : List (List (List Int))} : nsD (ePic p) = true := nsDs_all (fun _ => nsD_eRow) p
end DL
namespace DL
open PySem PySem.Spec L2
theorem enumC_ix : ∀ {n : Nat} {cs : List (List Int)} {p : Int × List Int}, p ∈ enumC n cs → (n : Int) ≤ p.1 ∧ p.1 < (n : Int) + cs.length
  | _, [], _, h => (nomatch h)
  | n, c :: cs, p, h => by
    rw [List.length_cons]
    rcases List.mem_cons.mp h with rfl | h
    · exact ⟨Int.le_refl _, by show (n : Int) < _; omega⟩
    · have := enumC_ix h; omega
theorem near_ix {q : List Int} {cs : List (List Int)} {m : Int × Int} (h : IsMin (pairsF q cs) m) : 0 ≤ m.2 ∧ m.2 < cs.length := by
  obtain ⟨p, hp, rfl⟩ := List.mem_map.mp h.1
  have := enumC_ix hp
  show 0 ≤ p.1 ∧ p.1 < _
  omega
/-- a picture of the shape of another -/
def Shape (p q : List (List (List Int))) : Prop := q.map List.length = p.map List.length
def S_besideP : FS ((Int × Int) × List (List (List Int))) where
  ks := [.nl, .nl, .sh]
  args p := [.gen, .tup [.int p.1.1, .int p.1.2], ePic p.2]
  pre p c := 1 ≤ p.1.1 ∧ p.1.1 ≤ 5 ∧ 1 ≤ p.1.2 ∧ p.1.2 ≤ 1000 ∧ PicD p.1.1 p.2 ∧ c + 10000 < LIM
  res p c d c' := ∃ q, d = ePic q ∧ PicD p.1.1 q ∧ Shape p.2 q ∧ c ≤ c' ∧ c' ≤ c + 10000
theorem besideP_call {w s : Int} {p : List (List (List Int))} {c : Nat} {P : D → Nat → Prop} (h : 1 ≤ w ∧ w ≤ 5 ∧ 1 ≤ s ∧ s ≤ 1000) (hp : PicD w p) (hc : c + 10000 < LIM) (hP : ∀ q c', PicD w q → Shape p q → c ≤ c' → c' ≤ c + 10000 → P (ePic q) c') :
    ∃ a, S_besideP.args a = [.gen, .tup [.int w, .int s], ePic p] ∧ S_besideP.pre a c ∧ ∀ r c', S_besideP.res a c r c' → P r c' := ⟨((w, s), p), rfl, ⟨h.1, h.2.1, h.2.2.1, h.2.2.2, hp, hc⟩, by rintro r c' ⟨q, rfl, h1, h2, h3, h4⟩; exact hP q c' h1 h2 h3 h4⟩
end DL
namespace DL
open PySem PySem.Spec L2
/-! ### lists and tuples of plain things hold nobody's lists -/
def rTupN (ra : RA) : RE := fun Γ c Q => ra Γ c fun dks c1 => dks.length ≤ 1000 ∧ NG dks ∧ Q (.tup (dks.map (·.1))) (if noLs (dks.map (·.1)) = true then .R [] else cmbs dks) c1
def rLstN (ra : RA) : RE := fun Γ c Q => ra Γ c fun dks c1 => dks.length ≤ 1000 ∧ NG dks ∧ Q (.lst (dks.map (·.1))) (if noLs (dks.map (·.1)) = true then .R [] else cmbs dks) c1
section
variable {K : PySem.W.Frag} {B : Bx} {Γ : GE} {σ σ' : L2.St} {Hs H H' : Hp} {c c' : Nat} {fp : List Addr} {k : Kd} {d e : D} {v u : V} {ds : List D} {vs : List V} {sk : SK} {i : Nat} {dks : List DK}
theorem kokN {F : Addr → Prop} {H : Hp} {ds : List D} {vs : List V} (r : Rps K F H ds vs fp) (ok : KOk B Hs fp k) : KOk B Hs fp (if noLs ds = true then .R [] else k) := by
  by_cases n : noLs ds = true
  · rw [if_pos n, r.nol n]; exact kok0
  · rw [if_neg n]; exact ok
theorem ed_tupN {ta : TA} {ra : RA} (ha : AD K ta ra) : ED K (tTup ta) (rTupN ra) := by
  intro B Γ c σ H Qd Q E h f
  refine ha B Γ c σ H _ _ E h fun vs H' dks c' fp e g ar q => ?_
  obtain ⟨h1, h2, q⟩ := q
  refine ⟨by rw [ar.length]; exact line1000 h1, fun p hp => ?_⟩
  exact f _ _ _ _ c' (At.newT ⟨⟨Γ, σ, c, E⟩, e, g⟩ hp (ar.rps h2) ar.ng (kokN (ar.rps h2) (ar.kok E))) q
theorem ed_lstN {ta : TA} {ra : RA} (ha : AD K ta ra) : ED K (tLst ta) (rLstN ra) := by
  intro B Γ c σ H Qd Q E h f
  refine ha B Γ c σ H _ _ E h fun vs H' dks c' fp e g ar q => ?_
  obtain ⟨h1, h2, q⟩ := q
  refine ⟨by rw [ar.length]; exact line1000 h1, fun p hp => ?_⟩
  exact f _ _ _ _ c' (At.newL ⟨⟨Γ, σ, c, E⟩, e, g⟩ hp (ar.rps h2) ar.ng (kokN (ar.rps h2) (ar.kok E))) q
variable {Q : D → Kd → Nat → Prop}
theorem u_rTupN {ra : RA} : rTupN ra Γ c Q = ra Γ c fun dks c1 => dks.length ≤ 1000 ∧ NG dks ∧ Q (.tup (dks.map (·.1))) (if noLs (dks.map (·.1)) = true then .R [] else cmbs dks) c1 := rfl
theorem u_rLstN {ra : RA} : rLstN ra Γ c Q = ra Γ c fun dks c1 => dks.length ≤ 1000 ∧ NG dks ∧ Q (.lst (dks.map (·.1))) (if noLs (dks.map (·.1)) = true then .R [] else cmbs dks) c1 := rfl
end
end DL
namespace DL
open PySem PySem.Spec L2
/-! ### what is lost between pictures -/
theorem sum0 {α : Type} {f : α → Int} (h : ∀ x, 0 ≤ f x) : ∀ xs : List α, 0 ≤ (xs.map f).sum ∧ ((xs.map f).sum = 0 → ∀ x ∈ xs, f x = 0)
  | [] => ⟨Int.le_refl _, fun _ _ h => (nomatch h)⟩
  | x :: xs => by
    have h1 := h x
    have h2 := sum0 h xs
    rw [List.map_cons, List.sum_cons]
    refine ⟨by omega, fun e y hy => ?_⟩
    rcases List.mem_cons.mp hy with rfl | hy
    · omega
    · exact h2.2 (by omega) y hy
theorem zip_allE {α : Type} : ∀ {xs ys : List α}, xs.length = ys.length → (∀ p ∈ xs.zip ys, p.1 = p.2) → xs = ys
  | [], [], _, _ => rfl
  | x :: xs, y :: ys, hl, h => by
    have h1 : x = y := h (x, y) List.mem_cons_self
    have h2 := zip_allE (xs := xs) (ys := ys) (by simpa using hl) fun p hp => h p (List.mem_cons_of_mem _ hp)
    rw [h1, h2]
theorem sq_nn (n : Int) : 0 ≤ n * n := by
  rcases Int.le_total 0 n with h | h
  · exact Int.mul_nonneg h h
  · exact Int.mul_nonneg_of_nonpos_of_nonpos h h
theorem apartI_nn (x y : List Int) : 0 ≤ apartI x y := by
  unfold apartI
  exact (sum0 (fun p => sq_nn _) _).1
theorem apartI_zero {x y : List Int} (hl : x.length = y.length) (h : apartI x y = 0) : x = y := by
  unfold apartI at h
  refine zip_allE hl fun p hp => ?_
  have := (sum0 (f := fun p : Int × Int => (p.1 - p.2) * (p.1 - p.2)) (fun p => sq_nn _) _).2 h p hp
  rcases Int.mul_eq_zero.mp this with h | h <;> omega
theorem lostR_nn (r s : List (List Int)) : 0 ≤ lostR r s := (sum0 (f := fun x : List Int × List Int => apartI x.1 x.2) (fun p => apartI_nn p.1 p.2) _).1
theorem sum_congr {α : Type} {f g : α → Int} : ∀ {xs : List α}, (∀ x ∈ xs, f x = g x) → (xs.map f).sum = (xs.map g).sum
  | [], _ => rfl
  | x :: xs, h => by
    rw [List.map_cons, List.map_cons, List.sum_cons, List.sum_cons, h x List.mem_cons_self, sum_congr fun y hy => h y (List.mem_cons_of_mem _ hy)]
theorem zip_swapS {α β : Type} (f : α → β → Int) : ∀ (xs : List α) (ys : List β), ((ys.zip xs).map fun p => f p.2 p.1).sum = ((xs.zip ys).map fun p => f p.1 p.2).sum
  | [], [] => rfl
  | [], _ :: _ => rfl
  | _ :: _, [] => rfl
  | x :: xs, y :: ys => by
    rw [List.zip_cons_cons, List.zip_cons_cons, List.map_cons, List.map_cons, List.sum_cons, List.sum_cons, zip_swapS f xs ys]
theorem lostR_symm (r s : List (List Int)) : lostR r s = lostR s r := by
  unfold lostR
  rw [← zip_swapS (fun a b => apartI a b) r s]
  exact sum_congr fun p _ => apartI_symm p.2 p.1
theorem lostI_symm (p q : List (List (List Int))) : lostI p q = lostI q p := by
  unfold lostI
  rw [← zip_swapS (fun a b => lostR a b) p q]
  exact sum_congr fun x _ => lostR_symm x.2 x.1
theorem lostI_self (p : List (List (List Int))) : lostI p p = 0 := by
  have h1 : ∀ r : List (List Int), lostR r r = 0 := fun r => by
    unfold lostR
    induction r with
    | nil => rfl
    | cons x xs ih => rw [List.zip_cons_cons, List.map_cons, List.sum_cons, ih, apartI_self]; rfl
  unfold lostI
  induction p with
  | nil => rfl
  | cons x xs ih => rw [List.zip_cons_cons, List.map_cons, List.sum_cons, ih, h1]; rfl
theorem shape_len {p q : List (List (List Int))} (h : Shape p q) : q.length = p.length := by
  have := congrArg List.length h
  rwa [List.length_map, List.length_map] at this
theorem shape_zip : ∀ {p q : List (List (List Int))}, Shape p q → ∀ x ∈ p.zip q, x.2.length = x.1.length
  | [], _, _, x, hx => (nomatch hx)
  | _ :: _, [], h, x, hx => (nomatch hx)
  | r :: p, s :: q, h, x, hx => by
    have h' : s.length :: q.map List.length = r.length :: p.map List.length := h
    rcases List.mem_cons.mp hx with rfl | hx
    · exact (List.cons.inj h').1
    · exact shape_zip (p := p) (q := q) (List.cons.inj h').2 x hx
theorem lostI_zero {w : Int} {p q : List (List (List Int))} (hp : PicD w p) (hq : PicD w q) (hs : Shape p q) : lostI p q = 0 ↔ p = q := by
  refine ⟨fun h => ?_, fun h => by rw [h]; exact lostI_self q⟩
  unfold lostI at h
  obtain ⟨_, _, n, _, _, hp⟩ := hp
  obtain ⟨_, _, m, _, _, hq⟩ := hq
  refine zip_allE (shape_len hs).symm fun x hx => ?_
  have h1 := (sum0 (f := fun x : List (List Int) × List (List Int) => lostR x.1 x.2) (fun x => lostR_nn _ _) _).2 h x hx
  have hl := shape_zip hs x hx
  have hx := List.of_mem_zip hx
  unfold lostR at h1
  refine zip_allE hl.symm fun y hy => ?_
  have h2 := (sum0 (f := fun x : List Int × List Int => apartI x.1 x.2) (fun x => apartI_nn _ _) _).2 h1 y hy
  have hy := List.of_mem_zip hy
  have e1 := ((hp x.1 hx.1).2 y.1 hy.1).1
  have e2 := ((hq x.2 hx.2).2 y.2 hy.2).1
  exact apartI_zero (by omega) h2
theorem lostI_cut (p q : List (List (List Int))) (k : Nat) : lostI (p.take k) (q.take k) + lostI (p.drop k) (q.drop k) = lostI p q := by
  unfold lostI
  have : ∀ (xs : List (List (List Int))) (ys : List (List (List Int))) (k : Nat), (((xs.take k).zip (ys.take k)).map fun x => lostR x.1 x.2).sum + (((xs.drop k).zip (ys.drop k)).map fun x => lostR x.1 x.2).sum = ((xs.zip ys).map fun x => lostR x.1 x.2).sum := by
    intro xs
    induction xs with
    | nil => intro ys k; simp
    | cons x xs ih =>
      intro ys k
      cases ys with
      | nil => simp
      | cons y ys =>
        cases k with
        | zero => simp
        | succ k =>
          rw [List.take_succ_cons, List.take_succ_cons, List.drop_succ_cons, List.drop_succ_cons, List.zip_cons_cons, List.zip_cons_cons, List.map_cons, List.map_cons, List.sum_cons, List.sum_cons, ← ih ys k]
          omega
  exact this p q k
theorem nbD_eRow (r : List (List Int)) : nbD (eRow r) = true := nbD_cols r
theorem nbD_pic (p : List (List (List Int))) : nbD (ePic p) = true := nbDs_map nbD_eRow p
theorem okD_pic {p : List (List (List Int))} (h : PicOk p) : okD (ePic p) = true :=
  okD_lst (by rw [List.length_map]; have := h.1; omega) (okDs_map p fun r hr => okD_cols (by have := (h.2 r hr).1; omega) fun ns hn => by have := ((h.2 r hr).2 ns hn).1; omega)
theorem deps_leM {α : Type} {f : α → D} {n : Nat} (h : ∀ x, dep (f x) ≤ n) : ∀ xs : List α, deps (xs.map f) ≤ n
  | [] => Nat.zero_le _
  | x :: xs => Nat.max_le.mpr ⟨h x, deps_leM h xs⟩
theorem dep_pic (p : List (List (List Int))) : dep (ePic p) ≤ 3 := Nat.succ_le_succ (deps_leM (fun r => dep_cols r) p)
theorem eqOk_pic {p : List (List (List Int))} (h : PicOk p) : EqOk (ePic p) := eqOk_of (okD_pic h) (Nat.le_trans (dep_pic p) (by decide))
theorem eqv_pic {p q : List (List (List Int))} : PyData.eqv (py (ePic p)) (py (ePic q)) = decide (p = q) := by
  have h := eqv_iff (nbD_pic p) (nbD_pic q)
  have inj : ePic p = ePic q ↔ p = q := by
    refine ⟨fun e => ?_, fun e => by rw [e]⟩
    have hc : ∀ {a b : List Int}, eCol a = eCol b → a = b := fun {a b} e => by
      have e : a.map D.int = b.map D.int := D.tup.inj e
      exact ints_inj e
    have hcs : ∀ {a b : List (List Int)}, eRow a = eRow b → a = b := fun {a b} e => (List.map_inj_right fun _ _ => hc).mp (D.lst.inj e)
    exact (List.map_inj_right fun _ _ => hcs).mp (D.lst.inj e)
  by_cases e : p = q
  · rw [decide_eq_true e]; exact h.mpr (inj.mpr e)
  · rw [decide_eq_false e]
    cases hv : PyData.eqv (py (ePic p)) (py (ePic q)) with
    | false => rfl
    | true => exact absurd (inj.mp (h.mp hv)) e
theorem PicOk.take {p : List (List (List Int))} (h : PicOk p) (k : Nat) : PicOk (p.take k) := ⟨by rw [List.length_take]; have := h.1; omega, fun r hr => h.2 r (List.mem_of_mem_take hr)⟩
theorem PicOk.drop {p : List (List (List Int))} (h : PicOk p) (k : Nat) : PicOk (p.drop k) := ⟨by rw [List.length_drop]; have := h.1; omega, fun r hr => h.2 r (List.mem_of_mem_drop hr)⟩
end DL
namespace DL
open PySem PySem.Spec L2
theorem EqOkB {b : Bool} : EqOk (.bl b) = True := propext ⟨fun _ => trivial, fun _ => eqOk_bl⟩
theorem eqvB {m n : Bool} : PyData.eqv (py (.bl m)) (py (.bl n)) = (m == n) := by simp [py, PyData.eqv]
theorem sameI_call {n : Nat} {x y : Int} {c : Nat} {P : D → Nat → Prop} (e : x = y) (h : P (.bl true) c) :
    ∃ a, (S_same (n + 1)).args a = [.int x, .int y] ∧ (S_same (n + 1)).pre a c ∧ ∀ d c', (S_same (n + 1)).res a c d c' → P d c' :=
  sameT_call (congrArg D.int e) rfl (Nat.zero_le _) (Nat.succ_pos _) h
end DL
namespace DL
open PySem PySem.Spec L2
/-- a comprehension of plain things, of whatever kind they come -/
theorem rLcN {α : Type} {vs : List Nat} {ri : RI} {rg : RG} {re : RE} {Γ : GE} {c : Nat} {Q : D → Kd → Nat → Prop} (xs : List α) (e f : α → D) (nl st : Bool) (c1 : Nat)
    (hi : ∀ P : List D → Bool → Bool → Nat → Prop, P (xs.map e) nl st c1 → ri Γ c P) (hl : xs.length ≤ 1000000)
    (hs : ∀ (x : α), x ∈ xs → ∀ P : D → Kd → Nat → Prop, (∀ k, P (f x) k c1) → rg (e x) (itK nl st) (kills vs Γ) fun Γ2 => re Γ2 c1 P)
    (h : Q (.lst (xs.map f)) (.R []) c1) (hns : ∀ x ∈ xs, f x ≠ .gen ∧ noL (f x) = true) : rLc vs ri rg rYes re Γ c Q := by
  refine hi _ ⟨by rw [List.length_map]; exact hl, false, fun i acc c' => acc = (xs.take i).map f ∧ c' = c1, ⟨rfl, rfl⟩, ?_, ?_⟩
  · rintro i d acc c' hd _ ⟨rfl, rfl⟩
    rw [List.getElem?_map] at hd
    cases hx : xs[i]? with
    | none => rw [hx] at hd; cases hd
    | some x =>
      rw [hx] at hd
      cases hd
      have hm := List.mem_of_getElem? hx
      refine hs x hm _ fun k => ⟨(hns x hm).1, by unfold elOk; rw [(hns x hm).2]; rfl, ?_, rfl⟩
      rw [List.take_add_one, hx, List.map_append]; rfl
  · rintro acc c' ⟨rfl, rfl⟩
    rw [List.length_map, List.take_length]
    exact h
theorem atI_two {a b : Int} {p : Prop} [Decidable p] : ∃ m : Int, (m = a ∨ m = b) ∧ atI [D.int a, D.int b] (if p then 1 else 0) = some (.int m) := by
  split
  · exact ⟨b, .inr rfl, atI_one⟩
  · exact ⟨a, .inl rfl, atI_zero⟩
/-! ### rows of numbers, painted -/
def eNum (r : List Nat) : D := .lst (r.map fun n => .int (n : Nat))
def eNums (p : List (List Nat)) : D := .lst (p.map eNum)
def paintI (cs : List (List Int)) (p : List (List Nat)) : List (List (List Int)) := p.map fun r => r.map fun n => cs.getD n []
def NumOk (k : Nat) (p : List (List Nat)) : Prop := p.length ≤ 1000 ∧ ∀ r ∈ p, r.length ≤ 1000 ∧ ∀ n ∈ r, n < k
def S_painted : FS (List (List Nat) × List (List Int)) where
  ks := [.sh, .sh]
  args p := [eNums p.1, .lst (p.2.map eCol)]
  pre p c := NumOk p.2.length p.1
  res p c d c' := d = ePic (paintI p.2 p.1) ∧ c' = c
theorem painted_call {p : List (List Nat)} {cs : List (List Int)} {c : Nat} {P : D → Nat → Prop} (h : NumOk cs.length p) (hP : P (ePic (paintI cs p)) c) :
    ∃ a, S_painted.args a = [eNums p, .lst (cs.map eCol)] ∧ S_painted.pre a c ∧ ∀ d c', S_painted.res a c d c' → P d c' := ⟨(p, cs), rfl, h, fun d c' ⟨e1, e2⟩ => by rw [e1, e2]; exact hP⟩
theorem noLs_num (r : List Nat) : noLs (r.map fun n : Nat => D.int n) = true := noLs_map (fun _ => rfl) r
theorem noLs_nums {p : List (List Nat)} {r : List Nat} (h : r ∈ p) : noLs (p.map eNum) = false := noLs_false (fun _ => rfl) h
theorem noL_eNum {r : List Nat} : noL (eNum r) = false := id rfl
theorem nsD_eNum {r : List Nat} : nsD (eNum r) = true := nsDs_of (noLs_num r)
theorem nbD_num (r : List Nat) : nbD (eNum r) = true := nbDs_map (fun _ => rfl) r
theorem nbD_nums (p : List (List Nat)) : nbD (eNums p) = true := nbDs_map nbD_num p
theorem okD_nums {k : Nat} {p : List (List Nat)} (h : NumOk k p) : okD (eNums p) = true :=
  okD_lst (by rw [List.length_map]; have := h.1; omega) (okDs_map p fun r hr => okD_lst (by rw [List.length_map]; have := (h.2 r hr).1; omega) (okDs_map r fun _ _ => rfl))
theorem dep_num (r : List Nat) : dep (eNum r) ≤ 1 := Nat.succ_le_succ (deps_leM (fun _ => Nat.le_refl 0) r)
theorem dep_nums (p : List (List Nat)) : dep (eNums p) ≤ 2 := Nat.succ_le_succ (deps_leM dep_num p)
theorem paint_ok {k : Nat} {w : Int} {cs : List (List Int)} {p : List (List Nat)} (h : NumOk cs.length p) (hw : w ≤ 5) (hcs : ∀ ns ∈ cs, Col w ns) : PicOk (paintI cs p) := by
  refine ⟨by unfold paintI; rw [List.length_map]; exact h.1, fun r hr => ?_⟩
  obtain ⟨r1, hr1, rfl⟩ := List.mem_map.mp hr
  refine ⟨by rw [List.length_map]; exact (h.2 r1 hr1).1, fun ns hn => ?_⟩
  obtain ⟨n1, hn1, rfl⟩ := List.mem_map.mp hn
  have hc := (h.2 r1 hr1).2 n1 hn1
  have : cs.getD n1 [] ∈ cs := by rw [List.getD_eq_getElem?_getD, List.getElem?_eq_getElem hc]; exact List.getElem_mem hc
  have := hcs _ this
  exact ⟨by have := this.1; omega, fun n hn => by have := this.2 n hn; omega⟩
end DL
namespace DL
open PySem PySem.Spec L2
theorem okD_handed {k : Nat} {p : List (List Nat)} {cs : List (List Int)} (h : NumOk k p) (h1 : cs.length ≤ 1000000) (h2 : ∀ ns ∈ cs, ns.length ≤ 1000000) : okD (.lst [eNums p, .lst (cs.map eCol)]) = true := by
  show (true && (okD (eNums p) && (okD (.lst (cs.map eCol)) && true))) = true
  rw [okD_nums h, okD_cols h1 h2]; rfl
theorem dep_handed (p : List (List Nat)) (cs : List (List Int)) : dep (.lst [eNums p, .lst (cs.map eCol)]) ≤ 3 := by
  have h1 := dep_nums p
  have h2 := dep_cols cs
  show max (dep (eNums p)) (max (dep (.lst (cs.map eCol))) 0) + 1 ≤ 3
  omega
theorem nbD_handed (p : List (List Nat)) (cs : List (List Int)) : nbD (.lst [eNums p, .lst (cs.map eCol)]) = true := by
  show (nbD (eNums p) && (nbD (.lst (cs.map eCol)) && true)) = true
  rw [nbD_nums, nbD_cols]; rfl
end DL
namespace DL
theorem ng_pic {p : List (List (List Int))} : (ePic p ≠ .gen) = True := propext ⟨fun _ => trivial, fun _ => nofun⟩
theorem ng_eRow {p : List (List Int)} : (eRow p ≠ .gen) = True := propext ⟨fun _ => trivial, fun _ => nofun⟩
theorem ng_eNums {p : List (List Nat)} : (eNums p ≠ .gen) = True := propext ⟨fun _ => trivial, fun _ => nofun⟩
theorem ng_eNum {p : List Nat} : (eNum p ≠ .gen) = True := propext ⟨fun _ => trivial, fun _ => nofun⟩
theorem ng_rows {p : List RC} : (eRows p ≠ .gen) = True := propext ⟨fun _ => trivial, fun _ => nofun⟩
end DL
namespace DL
open PySem PySem.Spec L2
theorem ixN_zero {m : Nat} : ixN (m + 1) 0 = some 0 := by
  unfold ixN
  rw [if_pos (by decide), if_pos (by omega)]; rfl
theorem cutD_tail {α : Type} {x : α} {xs : List α} : cutD (x :: xs) (some 1) none = xs := cutD_drop (xs := x :: xs) (k := 1) (by simp)
end DL
namespace DL
open PySem PySem.Spec L2
/-! ### the spread of rows -/
def partI (rs : List RC) (p : Nat) : Int := sqI p rs * sumI rs - numI p rs * numI p rs
def topI (w : Nat) (rs : List RC) : Int := ((List.range w).map (partI rs)).sum
noncomputable def spreadI (w : Nat) (rs : List RC) : Int × Int := lowF (topI w rs) (sumI rs)
theorem RowsB.part {w : Nat} {rs : List RC} (h : RowsB w rs) (p : Nat) : -200000000000000000000000000000000 ≤ partI rs p ∧ partI rs p ≤ 200000000000000000000000000000000 := by
  have h1 := h.sq p
  have h2 := h.num p
  have h3 := h.sum
  have a := mul_bd (A := 100000000000000000000000) (B := 1000000000) h1 (b := sumI rs) (by omega)
  have b := mul_bd (A := 10000000000000000) (B := 10000000000000000) h2 h2
  unfold partI
  omega
theorem RowsB.top {w : Nat} {rs : List RC} (h : RowsB w rs) (k : Nat) (hk : k ≤ 5) : -10000000000000000000000000000000000 ≤ ((List.range k).map (partI rs)).sum ∧ ((List.range k).map (partI rs)).sum ≤ 10000000000000000000000000000000000 := by
  have := sum_bd (xs := List.range k) (f := partI rs) (B := 200000000000000000000000000000000) fun p _ => h.part p
  rw [List.length_range] at this
  omega
def S_spread : FS (Nat × List RC) where
  ks := [.sh]
  args p := [eRows p.2]
  pre p c := RowsB p.1 p.2
  res p c d c' := d = eF (spreadI p.1 p.2) ∧ c' = c
theorem spread_call {w : Nat} {rs : List RC} {c : Nat} {P : D → Nat → Prop} (h : RowsB w rs) (hP : P (eF (spreadI w rs)) c) : ∃ a, S_spread.args a = [eRows rs] ∧ S_spread.pre a c ∧ ∀ d c', S_spread.res a c d c' → P d c' :=
  ⟨(w, rs), rfl, h, fun d c' ⟨e1, e2⟩ => by rw [e1, e2]; exact hP⟩
theorem spreadS (rs : List RC) (p : Nat) : ((List.range (p + 1)).map (partI rs)).sum = ((List.range p).map (partI rs)).sum + partI rs p := by
  rw [List.range_succ, List.map_append, List.sum_append, List.map_cons, List.map_nil, List.sum_cons, List.sum_nil, Int.add_zero]
/-- fractions over one bottom -/
theorem addF_low2 {a b n : Int} (hn : n ≠ 0) : addF (lowF a n) (lowF b n) = lowF (a + b) n := by
  obtain ⟨h1, h2, _⟩ := lowF_low (t := a) hn
  obtain ⟨g1, g2, _⟩ := lowF_low (t := b) hn
  unfold addF
  refine lowF_cong (Int.ne_of_gt (Int.mul_pos h1 g1)) hn ?_
  generalize (lowF a n).1 = x at *
  generalize (lowF a n).2 = y at *
  generalize (lowF b n).1 = u at *
  generalize (lowF b n).2 = v at *
  calc (x * v + u * y) * n = (x * n) * v + (u * n) * y := by rw [Int.add_mul]; congr 1 <;> ac_rfl
    _ = (a * y) * v + (b * v) * y := by rw [h2, g2]
    _ = (a + b) * (y * v) := by rw [Int.add_mul]; congr 1 <;> ac_rfl
theorem lowF_zero {n : Int} (hn : n ≠ 0) : lowF 0 n = (0, 1) := (lowF_eq hn ⟨Int.zero_lt_one, by show (0:Int) * n = 0 * 1; rw [Int.zero_mul, Int.zero_mul], rfl⟩).symm
theorem spread_BF {w : Nat} {rs : List RC} (h : RowsB w rs) (k : Nat) (hk : k ≤ 5) : BF 200 (lowF ((List.range k).map (partI rs)).sum (sumI rs)) := by
  have h1 := h.sum
  have h2 := h.top k hk
  exact lowF_BF (by omega) (Nat.lt_of_le_of_lt (show _ ≤ 10 ^ 40 by omega) (by decide +kernel)) (Nat.lt_of_le_of_lt (show _ ≤ 10 ^ 40 by omega) (by decide +kernel))
end DL
namespace DL
open PySem PySem.Spec L2
/-! ### the answers to the questions of rows and a colour -/
def AskOk (w : Nat) (rs : List RC) (q : List Int) : Prop := RowsB w rs ∧ (∀ r ∈ rs, ∀ n ∈ r.1, -2000000 ≤ n ∧ n ≤ 2000000) ∧ ColA w q
def colsOf (rs : List RC) : List (List Int) := rs.map (·.1)
def qF (q : List Int) (p : Nat) : Int := q.getD p 0
def loF (rs : List RC) (p : Nat) : Int := lmin (plc p (colsOf rs))
def hiF (rs : List RC) (p : Nat) : Int := lmax (plc p (colsOf rs))
noncomputable def ansL (w : Nat) (rs : List RC) (q : List Int) : List D :=
  [eBox (tbl w (loF rs)) (tbl w (hiF rs)), eMid (midI w rs), eF (spreadI w rs), .int (apartI (tbl w (qF q)) (tbl w fun k => nearE (qF q k) (loF rs k) (hiF rs k))), .int (apartI (tbl w (qF q)) (tbl w fun k => farE (qF q k) (loF rs k) (hiF rs k))), eF (farI q (midI w rs))]
theorem AskOk.ne {w : Nat} {rs : List RC} {q : List Int} (h : AskOk w rs q) : colsOf rs ≠ [] := fun e => by
  have := congrArg List.length e
  have h1 := h.1.1
  unfold colsOf at this
  rw [List.length_map] at this
  have : rs.length = 0 := this
  omega
theorem AskOk.plc {w : Nat} {rs : List RC} {q : List Int} (h : AskOk w rs q) {p : Nat} {x : Int} (hx : x ∈ plc p (colsOf rs)) : -2000000 ≤ x ∧ x ≤ 2000000 := by
  obtain ⟨c, hc, rfl⟩ := plc_mem.mp hx
  obtain ⟨r, hr, rfl⟩ := List.mem_map.mp hc
  exact getD_bd (B := 2000000) (by decide) (h.2.1 r hr) p
theorem AskOk.lo {w : Nat} {rs : List RC} {q : List Int} (h : AskOk w rs q) : RowB w (loF rs) := fun p _ => h.plc (lmin_mem (plc_ne h.ne))
theorem AskOk.hi {w : Nat} {rs : List RC} {q : List Int} (h : AskOk w rs q) : RowB w (hiF rs) := fun p _ => h.plc (lmax_mem (plc_ne h.ne))
theorem AskOk.qb {w : Nat} {rs : List RC} {q : List Int} (h : AskOk w rs q) : RowB w (qF q) := fun p _ => by
  have := getD_bd (ns := q) (B := 2000000) (by decide) (fun n hn => by have := h.2.2.2 n hn; omega) p
  exact this
theorem AskOk.q {w : Nat} {rs : List RC} {q : List Int} (h : AskOk w rs q) : q = tbl w (qF q) := tbl_of (by have := h.2.2.1; omega)
theorem AskOk.colB {w : Nat} {rs : List RC} {q : List Int} (h : AskOk w rs q) : ColB q := ⟨by have := h.2.2.1; have := h.1.2.2.1; omega, fun n hn => by have := h.2.2.2 n hn; omega⟩
theorem RowsB.mid {w : Nat} {rs : List RC} (h : RowsB w rs) : MidOk (midI w rs) := by
  refine ⟨by unfold midI; rw [List.length_map, List.length_range]; exact h.2.2.1, fun p hp => ?_⟩
  obtain ⟨k, _, rfl⟩ := List.mem_map.mp hp
  have h1 := h.sum
  have h2 := h.num k
  exact lowF_BF (by omega) (Nat.lt_of_le_of_lt (show _ ≤ 10 ^ 16 by omega) (by decide +kernel)) (Nat.lt_of_le_of_lt (show _ ≤ 10 ^ 16 by omega) (by decide +kernel))
theorem askBox_call {w : Nat} {rs : List RC} {q : List Int} {c : Nat} {P : D → Nat → Prop} (h : AskOk w rs q) (hP : P (eBox (tbl w (loF rs)) (tbl w (hiF rs))) c) :
    ∃ a, S_box.args a = [.lst ((colsOf rs).map eCol)] ∧ S_box.pre a c ∧ ∀ d c', S_box.res a c d c' → P d c' :=
  box_call (w := w) (by have := h.1.2.2.1; omega) (by unfold colsOf; rw [List.length_map]; exact h.1.1) (by unfold colsOf; rw [List.length_map]; have := h.1.2.1; omega) (fun ns hn => by obtain ⟨r, hr, rfl⟩ := List.mem_map.mp hn; exact (h.1.2.2.2 r hr).1) hP
theorem askFar_call {e : Int → Int → Int → Int} {w : Nat} {rs : List RC} {q : List Int} {c : Nat} {P : D → Nat → Prop} (h : AskOk w rs q) (hP : P (.int (apartI (tbl w (qF q)) (tbl w fun k => e (qF q k) (loF rs k) (hiF rs k)))) c) :
    ∃ a, (S_boxFar e).args a = [eCol q, eBox (tbl w (loF rs)) (tbl w (hiF rs))] ∧ (S_boxFar e).pre a c ∧ ∀ d c', (S_boxFar e).res a c d c' → P d c' :=
  ⟨(w, qF q, loF rs, hiF rs), by show [eCol (tbl w (qF q)), _] = _; rw [← h.q], ⟨by have := h.1.2.2.1; omega, h.qb, h.lo, h.hi⟩, fun d c' ⟨e1, e2⟩ => by subst e1; subst e2; exact hP⟩
noncomputable def S_answers : FS ((Nat × List RC) × List Int) where
  ks := [.sh, .nl]
  args p := [eRows p.1.2, eCol p.2]
  pre p c := AskOk p.1.1 p.1.2 p.2
  res p c d c' := d = .lst (ansL p.1.1 p.1.2 p.2) ∧ c' = c
theorem answers_call {w : Nat} {rs : List RC} {q : List Int} {c : Nat} {P : D → Nat → Prop} (h : AskOk w rs q) (hP : P (.lst (ansL w rs q)) c) :
    ∃ a, S_answers.args a = [eRows rs, eCol q] ∧ S_answers.pre a c ∧ ∀ d c', S_answers.res a c d c' → P d c' := ⟨((w, rs), q), rfl, h, fun d c' ⟨e1, e2⟩ => by subst e1; subst e2; exact hP⟩
noncomputable def S_one : FS (((Nat × List RC) × List Int) × Nat) where
  ks := [.sh, .nl, .sh, .nl]
  args p := [eRows p.1.1.2, eCol p.1.2, .lst (ansL p.1.1.1 p.1.1.2 p.1.2), .int (p.2 : Nat)]
  pre p c := AskOk p.1.1.1 p.1.1.2 p.1.2 ∧ p.2 < 6
  res p c d c' := (ansL p.1.1.1 p.1.1.2 p.1.2)[p.2]? = some d ∧ c' = c
theorem one_call {w : Nat} {rs : List RC} {q : List Int} {k : Nat} {c : Nat} {P : D → Nat → Prop} (h : AskOk w rs q) (hk : k < 6) (hP : ∀ d, (ansL w rs q)[k]? = some d → P d c) :
    ∃ a, S_one.args a = [eRows rs, eCol q, .lst (ansL w rs q), .int (k : Nat)] ∧ S_one.pre a c ∧ ∀ d c', S_one.res a c d c' → P d c' := ⟨(((w, rs), q), k), rfl, ⟨h, hk⟩, fun d c' ⟨e1, e2⟩ => by subst e2; exact hP d e1⟩
theorem noLs_ans (w : Nat) (rs : List RC) (q : List Int) : noLs (ansL w rs q) = true := by
  show (noL (eBox _ _) && (noL (eMid _) && (noL (eF _) && (true && (true && (noL (eF _) && true)))))) = true
  rw [noL_box, noL_mid]; rfl
theorem ng_box {a b : List Int} : (eBox a b ≠ .gen) = True := propext ⟨fun _ => trivial, fun _ => nofun⟩
end DL
namespace DL
open PySem PySem.Spec L2
noncomputable def eT (t : Nat × List RC × List Int) : D := .tup [eRows t.2.1, eCol t.2.2, .lst (ansL t.1 t.2.1 t.2.2)]
theorem noL_eT {t : Nat × List RC × List Int} : noL (eT t) = false := id rfl
theorem ans2 {w : Nat} {rs : List RC} {q : List Int} : atI (ansL w rs q) 2 = some (eF (spreadI w rs)) := rfl
theorem RowsD.ask {w m : Nat} {rs : List RC} {q : List Int} (h : RowsD (w : Int) m rs) (hB : RowsB w rs) (hq : ColA w q) : AskOk w rs q :=
  ⟨hB, fun r hr n hn => by have := (h.2.2.1 r hr).1.2 n hn; omega, hq⟩
theorem ans_ok {w : Nat} {rs : List RC} {q : List Int} (h : AskOk w rs q) {k : Nat} {d : D} (hd : (ansL w rs q)[k]? = some d) : okD d = true ∧ dep d ≤ 3 := by
  have hw := h.1.2.2.1
  have hm : (midI w rs).length = w := by unfold midI; rw [List.length_map, List.length_range]
  have := List.mem_of_getElem? hd
  unfold ansL at this
  simp only [List.mem_cons, List.not_mem_nil, or_false] at this
  rcases this with rfl | rfl | rfl | rfl | rfl | rfl
  · exact ⟨okD_box (by rw [tbl_len]; omega) (by rw [tbl_len]; omega), Nat.le_trans (dep_box _ _) (by decide)⟩
  · exact ⟨okD_mid (by omega), Nat.le_trans (dep_mid _) (by decide)⟩
  · exact ⟨rfl, by rw [dep_F]; decide⟩
  · exact ⟨rfl, Nat.zero_le _⟩
  · exact ⟨rfl, Nat.zero_le _⟩
  · exact ⟨rfl, by rw [dep_F]; decide⟩
end DL
namespace DL
open PySem PySem.Spec L2
theorem sameF_call {n : Nat} {x y : Int × Int} {c : Nat} {P : D → Nat → Prop} (e : x = y) (h : P (.bl true) c) :
    ∃ a, (S_same (n + 2)).args a = [eF x, eF y] ∧ (S_same (n + 2)).pre a c ∧ ∀ d c', (S_same (n + 2)).res a c d c' → P d c' :=
  sameT_call (congrArg eF e) rfl (show 1 ≤ 60 by decide) (show 1 < n + 2 by omega) h
end DL
namespace DL
open PySem PySem.Spec L2
/-! ### how far, over one bottom -/
def mT (m : List (Int × Int)) (k : Nat) : Int := (m.getD k (0, 1)).1
def mB (m : List (Int × Int)) (k : Nat) : Int := (m.getD k (0, 1)).2
def botM (m : List (Int × Int)) : Nat → Int
  | 0 => 1
  | k + 1 => botM m k * (mB m k * mB m k)
def farN (m : List (Int × Int)) (q : List Int) : Nat → Int
  | 0 => 0
  | k + 1 => farN m q k * (mB m k * mB m k) + (q.getD k 0 * mB m k - mT m k) * (q.getD k 0 * mB m k - mT m k) * botM m k
theorem botM_pos {m : List (Int × Int)} (h : ∀ p ∈ m, 0 < p.2) : ∀ k, 0 < botM m k
  | 0 => Int.zero_lt_one
  | k + 1 => by
    have hb : 0 < mB m k := by
      unfold mB
      rw [List.getD_eq_getElem?_getD]
      cases e : m[k]? with
      | none => exact Int.zero_lt_one
      | some p => exact h p (List.mem_of_getElem? e)
    exact Int.mul_pos (botM_pos h k) (Int.mul_pos hb hb)
/-- rows' sum of it -/
def sumN (m : List (Int × Int)) (rs : List RC) (k : Nat) : Int := (rs.map fun r => r.2 * farN m r.1 k).sum
def devI (m : List (Int × Int)) (rs : List RC) (k : Nat) : Int := (rs.map fun r => r.2 * ((r.1.getD k 0 * mB m k - mT m k) * (r.1.getD k 0 * mB m k - mT m k))).sum
theorem devI_eq (m : List (Int × Int)) (k : Nat) : ∀ rs : List RC, devI m rs k = mB m k * mB m k * sqI k rs - 2 * (mB m k * mT m k) * numI k rs + mT m k * mT m k * sumI rs
  | [] => by unfold devI sqI numI sumI; simp
  | r :: rs => by
    have ih := devI_eq m k rs
    unfold devI sqI numI sumI at *
    rw [List.map_cons, List.map_cons, List.map_cons, List.map_cons, List.sum_cons, List.sum_cons, List.sum_cons, List.sum_cons, ih]
    grind
theorem sumN_step (m : List (Int × Int)) (k : Nat) : ∀ rs : List RC, sumN m rs (k + 1) = sumN m rs k * (mB m k * mB m k) + devI m rs k * botM m k
  | [] => by unfold sumN devI; simp
  | r :: rs => by
    have ih := sumN_step m k rs
    unfold sumN devI at *
    rw [List.map_cons, List.map_cons, List.map_cons, List.sum_cons, List.sum_cons, List.sum_cons, ih]
    show r.2 * (farN m r.1 k * (mB m k * mB m k) + (r.1.getD k 0 * mB m k - mT m k) * (r.1.getD k 0 * mB m k - mT m k) * botM m k) + _ = _
    grind
theorem sumN_zero (m : List (Int × Int)) : ∀ rs : List RC, sumN m rs 0 = 0
  | [] => rfl
  | r :: rs => by
    have ih := sumN_zero m rs
    unfold sumN at *
    rw [List.map_cons, List.sum_cons, ih]
    show r.2 * 0 + 0 = 0
    omega
/-- from the middle it is the spread -/
theorem sumN_mid {m : List (Int × Int)} {rs : List RC} : ∀ {k : Nat}, (∀ j, j < k → mT m j * sumI rs = numI j rs * mB m j) → sumN m rs k * sumI rs = ((List.range k).map (partI rs)).sum * botM m k
  | 0, _ => by
    rw [sumN_zero]
    show 0 * sumI rs = 0 * 1
    omega
  | k + 1, h => by
    have ih := sumN_mid (k := k) fun j hj => h j (by omega)
    have hk := h k (by omega)
    rw [sumN_step, devI_eq, spreadS]
    show _ = _ * (botM m k * (mB m k * mB m k))
    generalize ((List.range k).map (partI rs)).sum = T at *
    unfold partI
    generalize numI k rs = x at *
    generalize sqI k rs = s at *
    generalize sumI rs = n at *
    generalize mT m k = t at *
    generalize mB m k = b at *
    generalize botM m k = B at *
    generalize sumN m rs k = F at *
    clear h
    have e : (b * b * s - 2 * (b * t) * x + t * t * n) * n = b * b * (s * n - x * x) := by grind
    grind
/-- from any other it is no less -/
theorem sumN_le {m : List (Int × Int)} {rs : List RC} (hn : 0 < sumI rs) (hm : ∀ p ∈ m, 0 < p.2) : ∀ k : Nat, ((List.range k).map (partI rs)).sum * botM m k ≤ sumN m rs k * sumI rs
  | 0 => by
    rw [sumN_zero]
    show 0 * 1 ≤ 0 * sumI rs
    omega
  | k + 1 => by
    have ih := sumN_le hn hm k
    have hB := botM_pos hm k
    rw [sumN_step, devI_eq, spreadS]
    show _ * (botM m k * (mB m k * mB m k)) ≤ _
    generalize ((List.range k).map (partI rs)).sum = T at *
    unfold partI
    generalize numI k rs = x at *
    generalize sqI k rs = s at *
    generalize sumI rs = n at *
    generalize mT m k = t at *
    generalize mB m k = b at *
    generalize botM m k = B at *
    generalize sumN m rs k = F at *
    have h1 : T * B * (b * b) ≤ F * n * (b * b) := Int.mul_le_mul_of_nonneg_right ih (sq_nn b)
    have h2 : 0 ≤ (t * n - b * x) * (t * n - b * x) * B := Int.mul_nonneg (sq_nn _) (Int.le_of_lt hB)
    have e1 : (T + (s * n - x * x)) * (B * (b * b)) = T * B * (b * b) + (s * n - x * x) * B * (b * b) := by grind
    have e2 : (F * (b * b) + (b * b * s - 2 * (b * t) * x + t * t * n) * B) * n = F * n * (b * b) + ((s * n - x * x) * B * (b * b) + (t * n - b * x) * (t * n - b * x) * B) := by grind
    omega
theorem addF_low3 {a n c d : Int} (hn : n ≠ 0) (hd : d ≠ 0) : addF (lowF a n) (lowF c d) = lowF (a * d + c * n) (n * d) := by
  obtain ⟨h1, h2, _⟩ := lowF_low (t := a) hn
  obtain ⟨g1, g2, _⟩ := lowF_low (t := c) hd
  unfold addF
  refine lowF_cong (Int.ne_of_gt (Int.mul_pos h1 g1)) (Int.mul_ne_zero hn hd) ?_
  generalize (lowF a n).1 = x at *
  generalize (lowF a n).2 = y at *
  generalize (lowF c d).1 = u at *
  generalize (lowF c d).2 = v at *
  grind
theorem mulF_low1 {t n k : Int} (hn : n ≠ 0) : mulF (k, 1) (lowF t n) = lowF (k * t) n := by
  obtain ⟨h1, h2, _⟩ := lowF_low (t := t) hn
  unfold mulF
  refine lowF_cong (by rw [Int.one_mul]; exact Int.ne_of_gt h1) hn ?_
  generalize (lowF t n).1 = x at *
  generalize (lowF t n).2 = y at *
  show k * x * n = k * t * (1 * y)
  grind
theorem mB_pos {m : List (Int × Int)} (h : ∀ p ∈ m, 0 < p.2) (k : Nat) : 0 < mB m k := by
  unfold mB
  rw [List.getD_eq_getElem?_getD]
  cases e : m[k]? with
  | none => exact Int.zero_lt_one
  | some p => exact h p (List.mem_of_getElem? e)
theorem farL_low {q : List Int} {m : List (Int × Int)} (h : ∀ p ∈ m, 0 < p.2) (hl : m.length = q.length) : ∀ k, k ≤ q.length → farL ((q.zip m).take k) = lowF (farN m q k) (botM m k)
  | 0, _ => by rw [List.take_zero]; exact (lowF_zero (n := 1) (by decide)).symm
  | k + 1, hk => by
    have ih := farL_low h hl k (by omega)
    have hx : (q.zip m)[k]? = some (q.getD k 0, m.getD k (0, 1)) := by
      rw [List.getElem?_zip_eq_some]
      refine ⟨?_, ?_⟩
      · show q[k]? = some (q.getD k 0)
        rw [List.getD_eq_getElem?_getD, List.getElem?_eq_getElem (by omega)]; rfl
      · show m[k]? = some (m.getD k (0, 1))
        rw [List.getD_eq_getElem?_getD, List.getElem?_eq_getElem (by omega)]; rfl
    have hb := mB_pos h k
    rw [farL_take hx, ih]
    have hb2 : 0 < (m.getD k (0, 1)).2 := hb
    rw [← stepF_low hb2, addF_low3 (Int.ne_of_gt (botM_pos h k)) (Int.ne_of_gt (Int.mul_pos hb2 hb2))]
    have e : ((m.getD k (0, 1)).1 - q.getD k 0 * (m.getD k (0, 1)).2) * ((m.getD k (0, 1)).1 - q.getD k 0 * (m.getD k (0, 1)).2) = (q.getD k 0 * mB m k - mT m k) * (q.getD k 0 * mB m k - mT m k) := by
      unfold mB mT
      grind
    rw [e]; rfl
theorem farI_low {q : List Int} {m : List (Int × Int)} (h : ∀ p ∈ m, 0 < p.2) (hl : m.length = q.length) : farI q m = lowF (farN m q q.length) (botM m q.length) := by
  have := farL_low h hl q.length (Nat.le_refl _)
  rw [List.take_of_length_le (by rw [List.length_zip]; omega)] at this
  exact this
/-- the rows' sum, counted row by row -/
noncomputable def totF (m : List (Int × Int)) (w : Nat) (rs : List RC) : Int × Int := lowF (sumN m rs w) (botM m w)
theorem totF_nil {m : List (Int × Int)} (h : ∀ p ∈ m, 0 < p.2) (w : Nat) : totF m w [] = (0, 1) := lowF_zero (Int.ne_of_gt (botM_pos h w))
theorem totF_snoc {m : List (Int × Int)} {w : Nat} {rs : List RC} {r : RC} (h : ∀ p ∈ m, 0 < p.2) (hl : m.length = w) (hr : r.1.length = w) : addF (totF m w rs) (mulF (r.2, 1) (farI r.1 m)) = totF m w (rs ++ [r]) := by
  have hB := Int.ne_of_gt (botM_pos h w)
  unfold totF
  rw [farI_low h (by omega), hr, mulF_low1 hB, addF_low2 hB]
  unfold sumN
  rw [List.map_append, List.sum_append, List.map_cons, List.map_nil, List.sum_cons, List.sum_nil, Int.add_zero]
theorem totF_mid {w : Nat} {rs : List RC} (h : RowsB w rs) : totF (midI w rs) w rs = spreadI w rs := by
  have hs := h.sum
  have hp : ∀ p ∈ midI w rs, 0 < p.2 := fun p hp => (h.mid.2 p hp).1
  refine lowF_cong (Int.ne_of_gt (botM_pos hp w)) (by omega) ?_
  refine sumN_mid fun j hj => ?_
  have e : (midI w rs).getD j (0, 1) = lowF (numI j rs) (sumI rs) := by
    unfold midI
    rw [List.getD_eq_getElem?_getD, List.getElem?_map, List.getElem?_range hj]; rfl
  unfold mT mB
  rw [e]
  exact (lowF_low (by omega)).2.1
theorem totF_le {m : List (Int × Int)} {w : Nat} {rs : List RC} (h : RowsB w rs) (hm : ∀ p ∈ m, 0 < p.2) : lessF (totF m w rs) (spreadI w rs) = false := by
  have hs := h.sum
  have hB := botM_pos hm w
  obtain ⟨h1, h2, _⟩ := lowF_low (t := sumN m rs w) (Int.ne_of_gt hB)
  obtain ⟨g1, g2, _⟩ := lowF_low (t := topI w rs) (b := sumI rs) (by omega)
  have hle : topI w rs * botM m w ≤ sumN m rs w * sumI rs := sumN_le (by omega) hm w
  unfold lessF totF spreadI
  generalize (lowF (sumN m rs w) (botM m w)).1 = x at *
  generalize (lowF (sumN m rs w) (botM m w)).2 = y at *
  generalize (lowF (topI w rs) (sumI rs)).1 = u at *
  generalize (lowF (topI w rs) (sumI rs)).2 = v at *
  generalize sumN m rs w = F at *
  generalize botM m w = B at *
  generalize topI w rs = T at *
  have hn : 0 < sumI rs := by omega
  generalize sumI rs = n at *
  refine decide_eq_false fun hlt => ?_
  have k1 : x * v * (B * n) < u * y * (B * n) := Int.mul_lt_mul_of_pos_right hlt (Int.mul_pos hB hn)
  have k2 : T * B * (v * y) ≤ F * n * (v * y) := Int.mul_le_mul_of_nonneg_right hle (Int.le_of_lt (Int.mul_pos g1 h1))
  have e1 : x * v * (B * n) = F * n * (v * y) := by grind
  have e2 : u * y * (B * n) = T * B * (v * y) := by grind
  omega
theorem PB.one {k : Nat} : PB k 0 := by unfold PB; exact Nat.pow_pos (by decide)
theorem mTB_PB {m : List (Int × Int)} (h : ∀ p ∈ m, BF 110 p) (k : Nat) : PB 110 (mT m k) ∧ PB 110 (mB m k) := by
  unfold mT mB
  rw [List.getD_eq_getElem?_getD]
  cases e : m[k]? with
  | none => exact ⟨PB.one, by unfold PB; decide +kernel⟩
  | some p => exact ⟨(h p (List.mem_of_getElem? e)).2.1, (h p (List.mem_of_getElem? e)).2.2⟩
theorem botM_PB {m : List (Int × Int)} (h : ∀ p ∈ m, BF 110 p) : ∀ k, PB (1 + 220 * k) (botM m k)
  | 0 => by
    show (1 : Int).natAbs < 2 ^ 1
    decide
  | k + 1 => ((botM_PB h k).mul ((mTB_PB h k).2.mul (mTB_PB h k).2)).mono (by omega)
theorem farN_PB {m : List (Int × Int)} {q : List Int} (h : ∀ p ∈ m, BF 110 p) (hq : ∀ n ∈ q, -10000000 ≤ n ∧ n ≤ 10000000) : ∀ k, PB (60 + 223 * k) (farN m q k)
  | 0 => PB.one
  | k + 1 => by
    have ih := farN_PB h hq k
    obtain ⟨h1, h2⟩ := mTB_PB h k
    have hn : PB 24 (q.getD k 0) := by
      have := getD_bd (B := 10000000) (by decide) hq k
      unfold PB
      have e : (2:Nat)^24 = 16777216 := by decide
      omega
    have hs : PB 135 (q.getD k 0 * mB m k - mT m k) := PB.sub (hn.mul h2) (h1.mono (by decide))
    exact (PB.add ((ih.mul (h2.mul h2)).mono (show _ ≤ 282 + 223 * k by omega)) (((hs.mul hs).mul (botM_PB h k)).mono (by omega))).mono (by omega)
theorem sumN_PB {m : List (Int × Int)} {rs : List RC} (h : ∀ p ∈ m, BF 110 p) (hl : rs.length ≤ 1000) (hr : ∀ r ∈ rs, (∀ n ∈ r.1, -10000000 ≤ n ∧ n ≤ 10000000) ∧ 1 ≤ r.2 ∧ r.2 ≤ 1000000) {k : Nat} (hk : k ≤ 5) : PB 1300 (sumN m rs k) := by
  have hX : (0 : Int) ≤ 2 ^ 1200 := by decide +kernel
  have e1 : (2 : Int) ^ 1300 = 1267650600228229401496703205376 * 2 ^ 1200 := by decide +kernel
  have e2 : ((2 ^ 1200 : Nat) : Int) = 2 ^ 1200 := by decide +kernel
  have e3 : ((2 ^ 1300 : Nat) : Int) = 2 ^ 1300 := by decide +kernel
  generalize (2 : Int) ^ 1200 = X at *
  generalize (2 : Int) ^ 1300 = Y at *
  have hs := sum_bd (xs := rs) (f := fun r : RC => r.2 * farN m r.1 k) (B := 1000000 * X) fun r hr' => by
    have h1 := (farN_PB h (hr r hr').1 k).mono (show 60 + 223 * k ≤ 1200 by omega)
    have h2 := (hr r hr').2
    unfold PB at h1
    generalize (2 : Nat) ^ 1200 = x at *
    exact mul_bd (by omega) (by omega)
  have hl2 : 1000000 * X * rs.length ≤ 1000000 * X * 1000 := Int.mul_le_mul_of_nonneg_left (by omega) (by omega)
  unfold PB
  show (rs.map fun r : RC => r.2 * farN m r.1 k).sum.natAbs < _
  generalize (2 : Nat) ^ 1300 = y at *
  generalize (rs.map fun r : RC => r.2 * farN m r.1 k).sum = S at *
  omega
theorem totF_BF {m : List (Int × Int)} {rs : List RC} (h : MidOk m) (hl : rs.length ≤ 1000) (hr : ∀ r ∈ rs, (∀ n ∈ r.1, -10000000 ≤ n ∧ n ≤ 10000000) ∧ 1 ≤ r.2 ∧ r.2 ≤ 1000000) {k : Nat} (hk : k ≤ 5) : BF 1300 (totF m k rs) :=
  lowF_BF (Int.ne_of_gt (botM_pos (fun p hp => (h.2 p hp).1) k)) (sumN_PB h.2 hl hr hk) ((botM_PB h.2 k).mono (by omega))
end DL
namespace DL
open PySem PySem.Spec L2
/-- a middle, as a tuple or as a list -/
def eMidB (b : Bool) (m : List (Int × Int)) : D := if b = true then eMid m else .lst (m.map eF)
def S_farB : FS ((List Int × List (Int × Int)) × Bool) where
  ks := [.nl, .sh]
  args p := [eCol p.1.1, eMidB p.2 p.1.2]
  pre p c := ColB p.1.1 ∧ MidOk p.1.2
  res p c d c' := d = eF (farI p.1.1 p.1.2) ∧ c' = c
theorem farT_call {q : List Int} {m : List (Int × Int)} {c : Nat} {P : D → Nat → Prop} (hq : ColB q) (hm : MidOk m) (h : P (eF (farI q m)) c) : ∃ a, S_farB.args a = [eCol q, eMid m] ∧ S_farB.pre a c ∧ ∀ d c', S_farB.res a c d c' → P d c' :=
  ⟨((q, m), true), rfl, ⟨hq, hm⟩, fun d c' ⟨e1, e2⟩ => by rw [e1, e2]; exact h⟩
theorem farS_call {q : List Int} {m : List (Int × Int)} {c : Nat} {P : D → Nat → Prop} (hq : ColB q) (hm : MidOk m) (h : P (eF (farI q m)) c) : ∃ a, S_farB.args a = [eCol q, .lst (m.map eF)] ∧ S_farB.pre a c ∧ ∀ d c', S_farB.res a c d c' → P d c' :=
  ⟨((q, m), false), rfl, ⟨hq, hm⟩, fun d c' ⟨e1, e2⟩ => by rw [e1, e2]; exact h⟩
theorem stepF_swap {n : Int} {m : Int × Int} (hm : 0 < m.2) : lowF ((n * m.2 - m.1) * (n * m.2 - m.1)) (m.2 * m.2) = stepF n m := by
  rw [← stepF_low hm]
  have e : (n * m.2 - m.1) * (n * m.2 - m.1) = (m.1 - n * m.2) * (m.1 - n * m.2) := by
    generalize m.1 = t
    generalize m.2 = b
    grind
  rw [e]
theorem noLs_F (m : List (Int × Int)) : noLs (m.map eF) = true := noLs_map (fun _ => rfl) m
def S_midDrawn : FS (((Int × Int) × Nat) × List RC) where
  ks := [.nl, .nl, .sh]
  args p := [.gen, .tup [.int p.1.1.1, .int p.1.1.2], eRows p.2]
  pre p c := 1 ≤ p.1.1.1 ∧ p.1.1.1 ≤ 5 ∧ p.1.1.1 = (p.1.2 : Nat) ∧ RowsB p.1.2 p.2 ∧ c + 30 < LIM
  res p c d c' := ∃ m, d = eMid m ∧ m.length = p.1.2 ∧ MidOk m ∧ c ≤ c' ∧ c' ≤ c + 30
theorem midDrawn_call {w : Nat} {s : Int} {rs : List RC} {c : Nat} {P : D → Nat → Prop} (h : 1 ≤ (w : Int) ∧ (w : Int) ≤ 5) (hB : RowsB w rs) (hc : c + 30 < LIM) (hP : ∀ m c', m.length = w → MidOk m → c ≤ c' → c' ≤ c + 30 → P (eMid m) c') :
    ∃ a, S_midDrawn.args a = [.gen, .tup [.int w, .int s], eRows rs] ∧ S_midDrawn.pre a c ∧ ∀ d c', S_midDrawn.res a c d c' → P d c' := ⟨(((w, s), w), rs), rfl, ⟨h.1, h.2, rfl, hB, hc⟩, by rintro d c' ⟨m, rfl, h1, h2, h3, h4⟩; exact hP m c' h1 h2 h3 h4⟩
theorem RowsB.cb {w : Nat} {rs : List RC} (h : RowsB w rs) {r : RC} (hr : r ∈ rs) : ColB r.1 := ⟨by rw [(h.2.2.2 r hr).1]; exact h.2.2.1, (h.2.2.2 r hr).2.1⟩
theorem lowF_M {t b : Int} (h1 : 0 < b) (h2 : b ≤ 1000000000) (h3 : -10000000000000000 ≤ t ∧ t ≤ 10000000000000000) : BF 110 (lowF t b) :=
  lowF_BF (by omega) (Nat.lt_of_le_of_lt (show _ ≤ 10 ^ 16 by omega) (by decide +kernel)) (Nat.lt_of_le_of_lt (show _ ≤ 10 ^ 16 by omega) (by decide +kernel))
theorem atI_last {α : Type} {xs : List α} (h : 1 ≤ xs.length) : ∃ x, x ∈ xs ∧ atI xs (-1) = some x := by
  have hl : xs.length - 1 < xs.length := by omega
  refine ⟨xs[xs.length - 1], List.getElem_mem hl, ?_⟩
  have e : ixN xs.length (-1) = some (xs.length - 1) := by
    unfold ixN
    rw [if_neg (by decide), if_pos (by omega)]
    congr 1
    omega
  unfold atI
  rw [e]
  exact List.getElem?_eq_getElem hl
theorem spread_one {w : Nat} {r : RC} (hc : 1 ≤ r.2) : spreadI w [r] = (0, 1) := by
  have h0 : ∀ p, partI [r] p = 0 := fun p => by
    unfold partI sqI numI sumI
    simp only [List.map_cons, List.map_nil, List.sum_cons, List.sum_nil, Int.add_zero]
    grind
  have ht : topI w [r] = 0 := by
    unfold topI
    have : ∀ k, ((List.range k).map (partI [r])).sum = 0 := fun k => by
      induction k with
      | zero => rfl
      | succ k ih => rw [spreadS, ih, h0]; rfl
    exact this w
  have hs : sumI [r] = r.2 := by
    unfold sumI
    rw [List.map_cons, List.map_nil, List.sum_cons, List.sum_nil, Int.add_zero]
  unfold spreadI
  rw [ht, hs]
  exact lowF_zero (by omega)
theorem asmid_at {o : List Int} (k : Nat) : mT (o.map fun n => (n, 1)) k = o.getD k 0 ∧ mB (o.map fun n => (n, 1)) k = 1 := by
  unfold mT mB
  rw [List.getD_eq_getElem?_getD, List.getD_eq_getElem?_getD, List.getElem?_map]
  cases o[k]? with
  | none => exact ⟨rfl, rfl⟩
  | some n => exact ⟨rfl, rfl⟩
theorem botM_one {o : List Int} : ∀ k, botM (o.map fun n => (n, 1)) k = 1
  | 0 => rfl
  | k + 1 => by
    show botM _ k * _ = 1
    rw [botM_one k, (asmid_at k).2]; rfl
theorem farN_one {q o : List Int} (hl : o.length = q.length) : ∀ k, k ≤ q.length → farN (o.map fun n => (n, 1)) q k = (((q.zip o).take k).map fun p => (p.1 - p.2) * (p.1 - p.2)).sum
  | 0, _ => rfl
  | k + 1, hk => by
    have ih := farN_one hl k (by omega)
    have hx : (q.zip o)[k]? = some (q.getD k 0, o.getD k 0) := by
      rw [List.getElem?_zip_eq_some]
      refine ⟨?_, ?_⟩
      · show q[k]? = some (q.getD k 0)
        rw [List.getD_eq_getElem?_getD, List.getElem?_eq_getElem (by omega)]; rfl
      · show o[k]? = some (o.getD k 0)
        rw [List.getD_eq_getElem?_getD, List.getElem?_eq_getElem (by omega)]; rfl
    show farN _ q k * _ + _ * botM _ k = _
    rw [ih, botM_one, (asmid_at k).1, (asmid_at k).2, List.take_add_one, hx, List.map_append, List.sum_append]
    simp only [Option.toList_some, List.map_cons, List.map_nil, List.sum_cons, List.sum_nil, Int.add_zero, Int.mul_one]
theorem farI_one {q o : List Int} (hl : o.length = q.length) : farI q (o.map fun n => (n, 1)) = (apartI q o, 1) := by
  rw [farI_low (fun p hp => by obtain ⟨n, _, rfl⟩ := List.mem_map.mp hp; exact Int.zero_lt_one) (by rw [List.length_map]; exact hl), farN_one hl _ (Nat.le_refl _), botM_one, List.take_of_length_le (by rw [List.length_zip]; omega)]
  exact (lowF_eq (t := apartI q o) (b := 1) (p := (apartI q o, 1)) (by decide) ⟨Int.zero_lt_one, rfl, Int.gcd_one⟩).symm
theorem mid_one {o : List Int} (h : ColB o) : MidOk (o.map fun n => (n, 1)) := ⟨by rw [List.length_map]; exact h.1, fun p hp => by
  obtain ⟨n, hn, rfl⟩ := List.mem_map.mp hp
  have := h.2 n hn
  exact ⟨Int.zero_lt_one, (PB.small (by show _ < n ∧ n < _; omega)).mono (by decide), (PB.small (i := 1) (by decide)).mono (by decide)⟩⟩
theorem cutD_mem {α : Type} {xs : List α} {lo hi : Option Int} {x : α} (h : x ∈ cutD xs lo hi) : x ∈ xs := by
  unfold cutD at h
  exact List.mem_of_mem_drop (List.mem_of_mem_take h)
end DL
namespace DL
open PySem PySem.Spec L2
/-! ### sorted of lists -/
def SrtL (ds : List D) : Prop := ds.length ≤ 1000000 ∧ isDatas ds = true ∧ PySem.W.AllAlike (ds.map py) ∧ PySem.W.Sortable (ds.map py) ∧ ∀ d ∈ ds, (py d).depth ≤ 60
def dSortL : RN := fun dks Q => match dks with
  | [(.lst ds, k)] => SrtL ds ∧ Q (.lst (ds.mergeSort leD)) k
  | _ => False
section
variable {K : PySem.W.Frag} {F : Addr → Prop} {H : Hp}
theorem rps_zipL : ∀ {ds : List D} {vs : List V} {fp : List Addr}, Rps K F H ds vs fp → ∃ bs : List (V × D × List Addr), bs.map (·.1) = vs ∧ bs.map (·.2.1) = ds ∧ (bs.map (·.2.2)).flatten = fp ∧ ∀ b ∈ bs, Rp K F H b.2.1 b.1 b.2.2
  | [], _, _, ⟨e, ef⟩ => ⟨[], e.symm, rfl, ef.symm, fun _ h => nomatch h⟩
  | d :: ds, _, _, ⟨v, vr, f, g, e, ef, r, rs⟩ => by
    obtain ⟨bs, h1, h2, h4, h3⟩ := rps_zipL rs
    refine ⟨(v, d, f) :: bs, by rw [List.map_cons, h1, e], by rw [List.map_cons, h2], by rw [List.map_cons, List.flatten_cons, h4, ef], fun b hb => ?_⟩
    rcases List.mem_cons.mp hb with rfl | hb
    · exact r
    · exact h3 b hb
theorem rps_unzipL : ∀ {bs : List (V × D × List Addr)}, (∀ b ∈ bs, Rp K F H b.2.1 b.1 b.2.2) → Rps K F H (bs.map (·.2.1)) (bs.map (·.1)) (bs.map (·.2.2)).flatten
  | [], _ => ⟨rfl, rfl⟩
  | b :: bs, h => ⟨_, _, _, _, rfl, by rw [List.map_cons, List.flatten_cons], h b List.mem_cons_self, rps_unzipL (bs := bs) fun x hx => h x (List.mem_cons_of_mem _ hx)⟩
theorem KOk.perm {B : Bx} {Hs : Hp} {f g : List Addr} {k : Kd} (h : KOk B Hs f k) (p : f.Perm g) : KOk B Hs g k := by
  cases k with
  | R is => exact ⟨p.nodup_iff.mp h.1, fun a ha => h.2 a (p.mem_iff.mpr ha)⟩
  | S => exact fun a ha => h a (p.mem_iff.mpr ha)
  | B => exact fun a ha => h a (p.mem_iff.mpr ha)
theorem KOk.tl {B : Bx} {Hs : Hp} {a : Addr} {f : List Addr} {k : Kd} (h : KOk B Hs (a :: f) k) : KOk B Hs f k := by
  cases k with
  | R is => exact ⟨(List.nodup_cons.mp h.1).2, fun b hb => h.2 b (List.mem_cons_of_mem _ hb)⟩
  | S => exact fun b hb => h b (List.mem_cons_of_mem _ hb)
  | B => exact fun b hb => h b (List.mem_cons_of_mem _ hb)
theorem v_sortL : VN K (rSortDt K) dSortL := by
  intro B Hs H c vs dks fp Qd Q A ar h f
  unfold dSortL at h
  split at h
  · rename_i ds _
    obtain ⟨⟨hl, hd, ha, hs, hdp⟩, q⟩ := h
    obtain ⟨x, rfl, r, n1, o1⟩ := ar.one
    obtain ⟨a, us, g, rfl, e, rfl, rs⟩ := r.lst
    obtain ⟨bs, e1, e2, e3, hb⟩ := rps_zipL rs
    have m1 : (bs.map fun b => (b.1, py b.2.1)).map (·.1) = us := by rw [List.map_map, ← e1]; rfl
    have m2 : (bs.map fun b => (b.1, py b.2.1)).map (·.2) = ds.map py := by rw [List.map_map, ← e2, List.map_map]; rfl
    refine ⟨a, bs.map fun b => (b.1, py b.2.1), rfl, ?_, ?_, ?_, ?_, ?_, fun p hp => ?_⟩
    · rw [m1]; exact SqL.of e
    · rw [m1, m2, ← pys_map]; exact dps_of hd rs
    · rw [m2]; exact ha
    · rw [m2]; exact hs
    · intro b hb
      obtain ⟨z, hz, rfl⟩ := List.mem_map.mp hb
      exact hdp z.2.1 (by rw [← e2]; exact List.mem_map.mpr ⟨z, hz, rfl⟩)
    · have s1 : ((bs.map fun b => (b.1, py b.2.1)).mergeSort fun x y => leB x.2 y.2) = (bs.mergeSort fun x y => leD x.2.1 y.2.1).map fun b => (b.1, py b.2.1) := by
        rw [List.map_mergeSort]
        intro x _ y _; rfl
      have s2 : ds.mergeSort leD = (bs.mergeSort fun x y => leD x.2.1 y.2.1).map (·.2.1) := by
        rw [← e2, List.map_mergeSort]
        intro x _ y _; rfl
      have pm : g.Perm ((bs.mergeSort fun x y => leD x.2.1 y.2.1).map (·.2.2)).flatten := by
        rw [← e3]
        exact ((List.mergeSort_perm bs _).symm.map _).flatten
      rw [s1, List.map_map]
      have rr := rps_unzipL (K := K) (F := B.F) (H := H) (bs := bs.mergeSort fun x y => leD x.2.1 y.2.1) fun b hb' => hb b (List.mem_mergeSort.mp hb')
      rw [← s2] at rr
      exact f _ _ _ _ (same_upd hp) (A.newL hp rr (fun b hb => n1 b (List.mem_cons_of_mem _ (pm.mem_iff.mpr hb))) (KOk.perm o1.tl pm)) q
  · exact h.elim
end
theorem u_sortL {ds : List D} {k : Kd} {P : D → Kd → Prop} : dSortL [(.lst ds, k)] P = (SrtL ds ∧ P (.lst (ds.mergeSort leD)) k) := rfl
/-! ### nought, as it stands in the module, or reckoned -/
def eFM (b : Bool) (p : Int × Int) : D := if b = true then .mt [.int p.1, .int p.2] else eF p
def S_plusM : FS (((Int × Int) × (Int × Int)) × Bool) where
  ks := [.nl, .nl]
  args p := [eFM p.2 p.1.1, eF p.1.2]
  pre p c := 0 < p.1.1.2 ∧ 0 < p.1.2.2 ∧ PB 3000 p.1.1.1 ∧ PB 3000 p.1.1.2 ∧ PB 3000 p.1.2.1 ∧ PB 3000 p.1.2.2
  res p c d c' := d = eF (addF p.1.1 p.1.2) ∧ c' = c
theorem plusM_call {b : Bool} {p q : Int × Int} {c : Nat} {P : D → Nat → Prop} (hp : BF 3000 p) (hq : BF 3000 q) (h : P (eF (addF p q)) c) : ∃ a, S_plusM.args a = [eFM b p, eF q] ∧ S_plusM.pre a c ∧ ∀ d c', S_plusM.res a c d c' → P d c' :=
  ⟨((p, q), b), rfl, ⟨hp.1, hq.1, hp.2.1, hp.2.2, hq.2.1, hq.2.2⟩, fun d c' ⟨e1, e2⟩ => by rw [e1, e2]; exact h⟩
theorem noL_FM (b : Bool) (p : Int × Int) : noL (eFM b p) = true := by cases b <;> rfl
end DL
namespace DL
open PySem PySem.Spec L2
/-! ### groups of rows -/
theorem alike_RCs : ∀ a b : List RC, PySem.W.alikeAll ((a.map eRC).map py) ((b.map eRC).map py) = true
  | [], _ => by simp [PySem.W.alikeAll]
  | _ :: _, [] => by simp [PySem.W.alikeAll]
  | x :: xs, y :: ys => by
    show PySem.W.alikeAll (py (eRC x) :: (xs.map eRC).map py) (py (eRC y) :: (ys.map eRC).map py) = true
    rw [PySem.W.alikeAll, alike_RCs xs ys, py_RC, py_RC]
    simp only [PySem.W.alike, PySem.W.alikeAll, PySem.W.alike_ints, Bool.and_self]
theorem py_rows (g : List RC) : py (eRows g) = .list ((g.map eRC).map py) := by
  show PyData.list (pys (g.map eRC)) = _
  rw [pys_map]
def eGroups (gs : List (List RC)) : D := .lst (gs.map eRows)
theorem srtL_groups {gs : List (List RC)} (hl : gs.length ≤ 1000000) (hd : ∀ g ∈ gs, okD (eRows g) = true) : SrtL (gs.map eRows) := by
  have hdat : isDatas (gs.map eRows) = true := by
    clear hl
    induction gs with
    | nil => rfl
    | cons g gs ih =>
      show (isData (eRows g) && isDatas (gs.map eRows)) = true
      rw [okD_data (hd g List.mem_cons_self), ih fun g hg => hd g (List.mem_cons_of_mem _ hg)]; rfl
  refine ⟨by rw [List.length_map]; exact hl, hdat, ?_, ?_, fun d hdm => ?_⟩
  · intro d hd d' hd'
    obtain ⟨x, hx, rfl⟩ := List.mem_map.mp hd
    obtain ⟨y, hy, rfl⟩ := List.mem_map.mp hd'
    obtain ⟨g, _, rfl⟩ := List.mem_map.mp hx
    obtain ⟨g', _, rfl⟩ := List.mem_map.mp hy
    rw [py_rows, py_rows, PySem.W.alike]
    exact alike_RCs g g'
  · refine .inr fun d hd => ?_
    obtain ⟨x, hx, rfl⟩ := List.mem_map.mp hd
    obtain ⟨g, _, rfl⟩ := List.mem_map.mp hx
    rw [py_rows]
    exact ⟨nofun, fun _ => nofun⟩
  · obtain ⟨g, hg, rfl⟩ := List.mem_map.mp hdm
    exact Nat.le_trans (dep_py (okD_data (hd g hg))) (Nat.le_trans (dep_rows g) (by decide))
theorem perm_map_inv {α β : Type} {f : α → β} {xs : List α} {ys : List β} (h : ys.Perm (xs.map f)) : ∃ zs : List α, zs.Perm xs ∧ ys = zs.map f := by
  generalize e : xs.map f = ws at h
  induction h generalizing xs with
  | nil =>
    obtain rfl := List.map_eq_nil_iff.mp e
    exact ⟨[], .nil, rfl⟩
  | cons a p ih =>
    obtain ⟨x, xs', rfl, rfl, e3⟩ := List.map_eq_cons_iff.mp e
    obtain ⟨zs, h1, h2⟩ := ih e3
    exact ⟨x :: zs, h1.cons x, by rw [List.map_cons, h2]⟩
  | swap a b l =>
    obtain ⟨x, xs', rfl, rfl, e3⟩ := List.map_eq_cons_iff.mp e
    obtain ⟨y, xs'', rfl, rfl, e4⟩ := List.map_eq_cons_iff.mp e3
    exact ⟨y :: x :: xs'', .swap _ _ _, by rw [List.map_cons, List.map_cons, e4]⟩
  | trans p q ih1 ih2 =>
    obtain ⟨zs, h1, h2⟩ := ih2 e
    obtain ⟨us, h3, h4⟩ := ih1 h2.symm
    exact ⟨us, h3.trans h1, h4⟩
def GrOk (rs : List RC) (gs : List (List RC)) : Prop := 1 ≤ gs.length ∧ gs.length ≤ 8 ∧ ∀ g ∈ gs, 1 ≤ g.length ∧ g.length ≤ rs.length ∧ ∀ r ∈ g, r ∈ rs
def S_groups : FS (Nat × List RC) where
  ks := [.nl, .sh]
  args p := [.gen, eRows p.2]
  pre p c := RowsB p.1 p.2 ∧ p.2.length ≤ 60 ∧ c + 100 < LIM
  res p c d c' := ∃ gs, d = eGroups gs ∧ GrOk p.2 gs ∧ c ≤ c' ∧ c' ≤ c + 100
noncomputable def foldF (ps : List (Int × Int)) : Int × Int := ps.foldl addF (0, 1)
theorem foldF_take {ps : List (Int × Int)} {i : Nat} {p : Int × Int} (h : ps[i]? = some p) : foldF (ps.take (i + 1)) = addF (foldF (ps.take i)) p := by
  unfold foldF
  rw [List.take_add_one, h, List.foldl_append]; rfl
def FoldOk (ps : List (Int × Int)) : Prop := 1 ≤ ps.length ∧ ps.length ≤ 1000 ∧ (∀ p ∈ ps, BF 200 p) ∧ ∀ k, BF 2700 (foldF (ps.take k))
def S_sumOf : FS (List (Int × Int)) where
  ks := [.sh]
  args ps := [.lst (ps.map eF)]
  pre ps c := FoldOk ps
  res ps c d c' := d = eF (foldF ps) ∧ c' = c
theorem sumOf_call {ps : List (Int × Int)} {c : Nat} {P : D → Nat → Prop} (h : FoldOk ps) (hP : P (eF (foldF ps)) c) : ∃ a, S_sumOf.args a = [.lst (ps.map eF)] ∧ S_sumOf.pre a c ∧ ∀ d c', S_sumOf.res a c d c' → P d c' :=
  ⟨ps, rfl, h, fun d c' ⟨e1, e2⟩ => by rw [e1, e2]; exact hP⟩
noncomputable def totG (w : Nat) (gs : List (List RC)) : Int × Int := foldF (gs.map (spreadI w))
def TotOk (w : Nat) (gs : List (List RC)) : Prop := (∀ g ∈ gs, RowsB w g) ∧ FoldOk (gs.map (spreadI w))
def S_total : FS (Nat × List (List RC)) where
  ks := [.sh]
  args p := [eGroups p.2]
  pre p c := TotOk p.1 p.2
  res p c d c' := d = eF (totG p.1 p.2) ∧ c' = c
theorem total_call {w : Nat} {gs : List (List RC)} {c : Nat} {P : D → Nat → Prop} (h : TotOk w gs) (hP : P (eF (totG w gs)) c) : ∃ a, S_total.args a = [eGroups gs] ∧ S_total.pre a c ∧ ∀ d c', S_total.res a c d c' → P d c' :=
  ⟨(w, gs), rfl, h, fun d c' ⟨e1, e2⟩ => by rw [e1, e2]; exact hP⟩
theorem noLs_groups {gs : List (List RC)} {g : List RC} (h : g ∈ gs) : noLs (gs.map eRows) = false := noLs_false (fun _ => rfl) h
theorem spreadI_BF {w : Nat} {rs : List RC} (h : RowsB w rs) : BF 200 (spreadI w rs) := spread_BF h w h.2.2.1
theorem fold_BF {ps : List (Int × Int)} (h : ∀ p ∈ ps, BF 200 p) : ∀ k, BF (1 + 201 * k) (foldF (ps.take k))
  | 0 => ⟨Int.zero_lt_one, by show (0 : Int).natAbs < 2 ^ 1; decide, by show (1 : Int).natAbs < 2 ^ 1; decide⟩
  | k + 1 => by
    have ih := fold_BF h k
    cases e : ps[k]? with
    | none =>
      have : ps.take (k + 1) = ps.take k := by rw [List.take_add_one, e]; simp
      rw [this]; exact ih.mono (by omega)
    | some p =>
      rw [foldF_take e]
      exact (addF_BF ih (h p (List.mem_of_getElem? e))).mono (by omega)
theorem fold_few {ps : List (Int × Int)} (h1 : 1 ≤ ps.length) (h2 : ps.length ≤ 10) (h : ∀ p ∈ ps, BF 200 p) : FoldOk ps := by
  refine ⟨h1, by omega, h, fun k => ?_⟩
  by_cases hk : k ≤ 10
  · exact (fold_BF h k).mono (by omega)
  · rw [List.take_of_length_le (by omega), ← List.take_of_length_le (show ps.length ≤ 10 from h2)]
    exact (fold_BF h 10).mono (by omega)
theorem fold_ones {ps : List (Int × Int)} (h : ∀ p ∈ ps, p = (0, 1)) : ∀ k, foldF (ps.take k) = (0, 1)
  | 0 => rfl
  | k + 1 => by
    have ih := fold_ones h k
    cases e : ps[k]? with
    | none =>
      have : ps.take (k + 1) = ps.take k := by rw [List.take_add_one, e]; simp
      rw [this]; exact ih
    | some p =>
      rw [foldF_take e, ih, h p (List.mem_of_getElem? e)]
      have := addF_low2 (a := 0) (b := 0) (n := 1) (by decide)
      rw [lowF_zero (by decide)] at this
      exact this.trans (lowF_zero (by decide))
theorem tot_few {w : Nat} {rs : List RC} {gs : List (List RC)} (hB : RowsB w rs) (h : GrOk rs gs) : TotOk w gs :=
  have hg : ∀ g ∈ gs, RowsB w g := fun g hg => hB.sub (h.2.2 g hg).1 (h.2.2 g hg).2.1 (h.2.2 g hg).2.2
  ⟨hg, fold_few (by rw [List.length_map]; exact h.1) (by rw [List.length_map]; have := h.2.1; omega) fun p hp => by
    obtain ⟨g, hg', rfl⟩ := List.mem_map.mp hp
    exact spreadI_BF (hg g hg')⟩
theorem tot_ones {w : Nat} {rs : List RC} (hB : RowsB w rs) : TotOk w (rs.map fun r => [r]) ∧ totG w (rs.map fun r => [r]) = (0, 1) := by
  have h1 : ∀ p ∈ (rs.map fun r => [r]).map (spreadI w), p = (0, 1) := fun p hp => by
    obtain ⟨g, hg, rfl⟩ := List.mem_map.mp hp
    obtain ⟨r, hr, rfl⟩ := List.mem_map.mp hg
    exact spread_one (hB.2.2.2 r hr).2.2.1
  have h01 : ∀ k : Nat, BF (k + 1) (0, 1) := fun k => ⟨Int.zero_lt_one, PB.one, by unfold PB; exact Nat.one_lt_two_pow (Nat.succ_ne_zero k)⟩
  refine ⟨⟨fun g hg => ?_, by rw [List.length_map, List.length_map]; exact hB.1, by rw [List.length_map, List.length_map]; exact hB.2.1, fun p hp => by rw [h1 p hp]; exact h01 199, fun k => by rw [fold_ones h1 k]; exact h01 2699⟩, ?_⟩
  · obtain ⟨r, hr, rfl⟩ := List.mem_map.mp hg
    exact hB.sub (Nat.le_refl 1) hB.1 fun s hs => by cases List.mem_singleton.mp hs; exact hr
  · have := fold_ones h1 (rs.map fun r => [r]).length
    rw [List.take_of_length_le (by rw [List.length_map]; exact Nat.le_refl _)] at this
    exact this
end DL
namespace DL
open PySem PySem.Spec L2
theorem rep_groups (m : Nat) : ((List.range m).map fun _ => D.lst []) = (List.replicate m ([] : List RC)).map eRows := by
  rw [List.map_replicate]
  exact List.eq_replicate_of_mem (fun x hx => by obtain ⟨_, _, rfl⟩ := List.mem_map.mp hx; rfl) |>.trans (by rw [List.length_map, List.length_range]; rfl)
end DL
namespace DL
open PySem PySem.Spec L2
theorem rows_ne (g : List RC) : (!PyData.eqv (py (eRows g)) (py (D.lst []))) = decide (g ≠ []) := by
  have h := eqv_iff (nbD_rows g) (nbD_rows [])
  by_cases e : g = []
  · subst e
    rw [show PyData.eqv (py (eRows [])) (py (D.lst [])) = true from h.mpr rfl]; rfl
  · rw [decide_eq_true e]
    cases hv : PyData.eqv (py (eRows g)) (py (D.lst [])) with
    | false => rfl
    | true =>
      have := h.mp hv
      exact absurd (List.map_eq_nil_iff.mp (D.lst.inj this)) e
theorem filt_rows (gs : List (List RC)) : (gs.map eRows).filter (fun d => !PyData.eqv (py d) (py (D.lst []))) = (gs.filter fun g => decide (g ≠ [])).map eRows := by
  rw [List.filter_map]
  congr 1
  exact List.filter_congr fun g _ => rows_ne g
theorem eqOk_nil : EqOk (.lst []) := eqOk_rows (rs := []) (Nat.zero_le _) fun _ h => (nomatch h)
end DL
namespace DL
open PySem PySem.Spec L2
theorem groups_call {w : Nat} {rs : List RC} {c : Nat} {P : D → Nat → Prop} (h : RowsB w rs) (hl : rs.length ≤ 60) (hc : c + 100 < LIM) (hP : ∀ gs c', GrOk rs gs → c ≤ c' → c' ≤ c + 100 → P (eGroups gs) c') :
    ∃ a, S_groups.args a = [.gen, eRows rs] ∧ S_groups.pre a c ∧ ∀ d c', S_groups.res a c d c' → P d c' := ⟨(w, rs), rfl, ⟨h, hl, hc⟩, by rintro d c' ⟨gs, rfl, h1, h2, h3⟩; exact hP gs c' h1 h2 h3⟩
theorem noL_groups {gs : List (List RC)} : noL (eGroups gs) = false := id rfl
theorem ng_groups {p : List (List RC)} : (eGroups p ≠ .gen) = True := propext ⟨fun _ => trivial, fun _ => nofun⟩
theorem nsD_groups {gs : List (List RC)} : nsD (eGroups gs) = true := nsDs_all (fun g => nsD_rows g) gs
theorem nbD_groups (gs : List (List RC)) : nbD (eGroups gs) = true := nbDs_map nbD_rows gs
theorem okD_groups {gs : List (List RC)} (hl : gs.length ≤ 1000000) (h : ∀ g ∈ gs, okD (eRows g) = true) : okD (eGroups gs) = true := okD_lst (by rw [List.length_map]; exact hl) (okDs_map gs h)
theorem dep_groups (gs : List (List RC)) : dep (eGroups gs) ≤ 4 := Nat.succ_le_succ (deps_leM dep_rows gs)
end DL
namespace DL
theorem rFor_ev {ri : RI} {rg : RG} {rb : RS} {Dd : EndsD} {Γ : GE} {c : Nat} (h : ri Γ c fun ds nl st c1 => rFor (fun _ _ P => P ds nl st c1) rg rb Dd Γ c) : rFor ri rg rb Dd Γ c := h
end DL
namespace DL
open PySem PySem.Spec L2
theorem TotOk.okD {w : Nat} {gs : List (List RC)} (h : TotOk w gs) : okD (eGroups gs) = true := okD_groups (by have := h.2.2.1; rw [List.length_map] at this; omega) fun g hg => (h.1 g hg).okD
theorem TotOk.len {w : Nat} {gs : List (List RC)} (h : TotOk w gs) : gs.length ≤ 1000 := by have := h.2.2.1; rwa [List.length_map] at this
theorem sameFF_call {n : Nat} {x : Int × Int} {c : Nat} {P : D → Nat → Prop} (h : P (.bl true) c) :
    ∃ a, (S_same (n + 3)).args a = [.lst [eF x, eF x], .lst [eF x, eF x]] ∧ (S_same (n + 3)).pre a c ∧ ∀ d c', (S_same (n + 3)).res a c d c' → P d c' :=
  sameT_call rfl rfl (show 2 ≤ 60 by decide) (show 2 < n + 3 by omega) h
theorem nbD_F (x : Int × Int) : nbD (eF x) = true := rfl
theorem eqOk_F (x : Int × Int) : EqOk (eF x) := eqOk_of rfl (show 1 ≤ 64 by decide)
end DL
namespace DL
open PySem PySem.Spec L2
/-! ### constants of the module -/
def tupOf (o : Obj) (ns : List Int) : Bool := match o.cls, o.data with
  | .type s, .seq its _ => decide (s = "tuple") && decide (its.size ≤ 1000) && decide (its.toList.map (fun v => match v with | .int i _ => some i | _ => none) = ns.map some)
  | _, _ => false
def constIn (K : PySem.W.Frag) (t : Addr) (ns : List Int) : Bool := match K.lookup t with
  | some o => tupOf o ns
  | none => false
theorem vals_ints : ∀ {us : List Value} {ns : List Int}, us.map (fun v => match v with | .int i _ => some i | _ => none) = ns.map some → Vals (ns.map V.int) us
  | [], [], _ => .nil
  | u :: us, n :: ns, h => by
    rw [List.map_cons, List.map_cons] at h
    obtain ⟨h1, h2⟩ := List.cons.inj h
    refine .cons ?_ (vals_ints h2)
    cases u with
    | int i t =>
      cases h1
      exact ⟨t, rfl⟩
    | _ => cases h1
theorem const_mt {K : PySem.W.Frag} {t : Addr} {ns : List Int} (h : constIn K t ns = true) (F : Addr → Prop) (H : Hp) : Rp K F H (.mt (ns.map .int)) (.ref t) [] := by
  unfold constIn at h
  cases hk : K.lookup t with
  | none => rw [hk] at h; cases h
  | some o =>
    rw [hk] at h
    have h : tupOf o ns = true := h
    unfold tupOf at h
    split at h
    · rename_i s its n hc hd
      rw [Bool.and_eq_true, Bool.and_eq_true, decide_eq_true_iff, decide_eq_true_iff, decide_eq_true_iff] at h
      obtain ⟨⟨h1, h2⟩, h3⟩ := h
      rw [Rp]
      exact ⟨rfl, t, ns.map V.int, rfl, .inr ⟨o, its, n, hk, by rw [hc, h1], hd, Nat.le_trans h2 (by decide), vals_ints h3⟩, rps_of_ints⟩
    · cases h
end DL
namespace DL
open PySem PySem.Spec L2
/-! ### the nearest, as a function -/
theorem isMin_ex : ∀ {ps : List (Int × Int)}, ps ≠ [] → ∃ m, IsMin ps m
  | [], h => absurd rfl h
  | [p], _ => ⟨p, List.mem_cons_self, fun q hq => by cases List.mem_singleton.mp hq; exact leP_refl _⟩
  | p :: q :: r, _ => by
    obtain ⟨m, hm, hl⟩ := isMin_ex (ps := q :: r) (by simp)
    rcases (show leP p m ∨ leP m p by unfold leP; omega) with h | h
    · exact ⟨p, List.mem_cons_self, fun x hx => (List.mem_cons.mp hx).elim (fun e => e ▸ leP_refl _) fun hx => leP_trans h (hl x hx)⟩
    · exact ⟨m, List.mem_cons_of_mem _ hm, fun x hx => (List.mem_cons.mp hx).elim (fun e => e ▸ h) fun hx => hl x hx⟩
open Classical in
noncomputable def nearN (cs : List (List Int)) (q : List Int) : Nat := if h : ∃ m, IsMin (pairsF q cs) m then h.choose.2.toNat else 0
theorem nearN_eq {cs : List (List Int)} {q : List Int} {m : Int × Int} (h : IsMin (pairsF q cs) m) : m.2 = (nearN cs q : Nat) := by
  have hx : ∃ m, IsMin (pairsF q cs) m := ⟨m, h⟩
  unfold nearN
  rw [dif_pos hx, ← h.eq hx.choose_spec]
  have := near_ix h
  omega
theorem nearN_lt {cs : List (List Int)} {q : List Int} (h : 0 < cs.length) : nearN cs q < cs.length := by
  obtain ⟨m, hm⟩ := isMin_ex (pairsF_ne (q := q) h)
  have h1 := nearN_eq hm
  have h2 := near_ix hm
  omega
theorem nearN_call {cs : List (List Int)} {q : List Int} {c : Nat} {P : D → Nat → Prop} (h : PalOk cs q) (hl : 0 < cs.length) (hP : P (.int (nearN cs q : Nat)) c) :
    ∃ a, S_near.args a = [.lst (cs.map eCol), eCol q] ∧ S_near.pre a c ∧ ∀ r c', S_near.res a c r c' → P r c' := near_call h hl fun m hm => by rw [nearN_eq hm]; exact hP
noncomputable def numP (cs : List (List Int)) (p : List (List (List Int))) : List (List Nat) := p.map fun r => r.map (nearN cs)
/-- a picture, not too great -/
def PicS (p : List (List (List Int))) : Prop := p.length ≤ 100 ∧ ∀ r ∈ p, r.length ≤ 100 ∧ ∀ ns ∈ r, ns.length ≤ 1000 ∧ ∀ n ∈ ns, -10000000 ≤ n ∧ n ≤ 10000000
theorem PicS.ok {p : List (List (List Int))} (h : PicS p) : PicOk p := ⟨by have := h.1; omega, fun r hr => ⟨by have := (h.2 r hr).1; omega, (h.2 r hr).2⟩⟩
def PalS (cs : List (List Int)) : Prop := 1 ≤ cs.length ∧ cs.length ≤ 1000 ∧ ∀ ns ∈ cs, ns.length ≤ 1000 ∧ ∀ n ∈ ns, -10000000 ≤ n ∧ n ≤ 10000000
theorem PalS.ok {cs : List (List Int)} {q : List Int} (h : PalS cs) (hq : ∀ n ∈ q, -10000000 ≤ n ∧ n ≤ 10000000) : PalOk cs q := ⟨h.2.1, h.2.2, hq⟩
noncomputable def S_numbers : FS (List (List (List Int)) × List (List Int)) where
  ks := [.sh, .sh]
  args p := [ePic p.1, .lst (p.2.map eCol)]
  pre p c := PicS p.1 ∧ PalS p.2
  res p c d c' := d = eNums (numP p.2 p.1) ∧ c' = c
theorem numbers_call {p : List (List (List Int))} {cs : List (List Int)} {c : Nat} {P : D → Nat → Prop} (h : PicS p) (hs : PalS cs) (hP : P (eNums (numP cs p)) c) :
    ∃ a, S_numbers.args a = [ePic p, .lst (cs.map eCol)] ∧ S_numbers.pre a c ∧ ∀ d c', S_numbers.res a c d c' → P d c' := ⟨(p, cs), rfl, ⟨h, hs⟩, fun d c' ⟨e1, e2⟩ => by rw [e1, e2]; exact hP⟩
theorem kix_C (c : List Int) : ∀ ps : List RC, (kix (ps.map fun p => kC p.1) (kC c)).isSome = (aget ps c).isSome := fun ps => by
  rw [kix_kC]
  induction ps with
  | nil => rfl
  | cons p r ih =>
    obtain ⟨d, m⟩ := p
    rw [List.map_cons, kix]
    unfold aget
    by_cases e : d = c
    · rw [if_pos e, if_pos e]; rfl
    · rw [if_neg e, if_neg e, ← ih]
      cases kix (r.map (·.1)) c <;> rfl
theorem aget_aput {c q : List Int} {n : Int} : ∀ {ps : List RC}, aget (aput ps c n) q = if c = q then some n else aget ps q
  | [] => by unfold aput aget; rfl
  | (d, m) :: r => by
    unfold aput
    by_cases e : d = c
    · subst e
      rw [if_pos rfl]
      unfold aget
      by_cases e2 : d = q
      · rw [if_pos e2, if_pos e2]
      · rw [if_neg e2, if_neg e2, if_neg e2]
    · rw [if_neg e]
      have ih := aget_aput (c := c) (q := q) (n := n) (ps := r)
      unfold aget
      rw [ih]
      by_cases e2 : d = q
      · subst e2
        rw [if_pos rfl, if_neg (fun z => e z.symm), if_pos rfl]
      · rw [if_neg e2, if_neg e2]
end DL
namespace DL
theorem nsD_eNums {p : List (List Nat)} : nsD (eNums p) = true := nsDs_all (fun _ => nsD_eNum) p
end DL
namespace DL
open PySem PySem.Spec L2
/-! ### colours counted -/
theorem perm_sum {α : Type} {f : α → Int} {xs ys : List α} (h : xs.Perm ys) : (xs.map f).sum = (ys.map f).sum := by
  induction h with
  | nil => rfl
  | cons a p ih => rw [List.map_cons, List.map_cons, List.sum_cons, List.sum_cons, ih]
  | swap a b l => rw [List.map_cons, List.map_cons, List.map_cons, List.map_cons, List.sum_cons, List.sum_cons, List.sum_cons, List.sum_cons]; omega
  | trans p q ih1 ih2 => exact ih1.trans ih2
theorem aput_sum (f : List Int → Int) (c : List Int) (n : Int) : ∀ ps : List RC, ((aput ps c n).map fun r => r.2 * f r.1).sum = (ps.map fun r => r.2 * f r.1).sum + (n - (aget ps c).getD 0) * f c
  | [] => by
    unfold aput aget
    simp
  | (d, m) :: r => by
    have ih := aput_sum f c n r
    unfold aput aget
    by_cases e : d = c
    · subst e
      rw [if_pos rfl, if_pos rfl]
      simp only [List.map_cons, List.sum_cons, Option.getD_some]
      grind
    · rw [if_neg e, if_neg e]
      simp only [List.map_cons, List.sum_cons]
      rw [ih]
      omega
/-- the counts of a picture's colours -/
def CntOk (p : List (List (List Int))) (rs : List RC) : Prop := (∀ r ∈ rs, r.1 ∈ p.flatten ∧ 1 ≤ r.2) ∧ (rs.map (·.1)).Nodup ∧ ∀ f : List Int → Int, (rs.map fun r => r.2 * f r.1).sum = (p.flatten.map f).sum
theorem CntOk.put {xs : List (List Int)} {rs : List RC} {q : List Int} (h1 : ∀ r ∈ rs, r.1 ∈ xs ∧ 1 ≤ r.2) (h2 : (rs.map (·.1)).Nodup) (h3 : ∀ f : List Int → Int, (rs.map fun r => r.2 * f r.1).sum = (xs.map f).sum) :
    (∀ r ∈ aput rs q ((aget rs q).getD 0 + 1), r.1 ∈ xs ++ [q] ∧ 1 ≤ r.2) ∧ ((aput rs q ((aget rs q).getD 0 + 1)).map (·.1)).Nodup ∧ ∀ f : List Int → Int, ((aput rs q ((aget rs q).getD 0 + 1)).map fun r => r.2 * f r.1).sum = ((xs ++ [q]).map f).sum := by
  have hg : ∀ {rs : List RC}, (∀ r ∈ rs, r.1 ∈ xs ∧ 1 ≤ r.2) → 0 ≤ (aget rs q).getD 0 := fun {rs} h => by
    induction rs with
    | nil => exact Int.le_refl _
    | cons r rs ih =>
      obtain ⟨d, m⟩ := r
      unfold aget
      by_cases e : d = q
      · rw [if_pos e]
        have := (h _ List.mem_cons_self).2
        show 0 ≤ m
        have : 1 ≤ m := this
        omega
      · rw [if_neg e]
        exact ih fun r hr => h r (List.mem_cons_of_mem _ hr)
  refine ⟨fun r hr => ?_, aput_nodup h2, fun f => ?_⟩
  · rcases aput_mem hr with rfl | hr
    · exact ⟨List.mem_append_right _ (List.mem_singleton.mpr rfl), by have := hg h1; show 1 ≤ _ + 1; omega⟩
    · exact ⟨List.mem_append_left _ (h1 r hr).1, (h1 r hr).2⟩
  · rw [aput_sum, h3, List.map_append, List.sum_append]
    simp only [List.map_cons, List.map_nil, List.sum_cons, List.sum_nil]
    grind
def S_countsIn : FS (List (List (List Int))) where
  ks := [.sh]
  args p := [ePic p]
  pre p c := PicS p
  res p c d c' := ∃ rs, d = eRows rs ∧ CntOk p rs ∧ c' = c
theorem countsIn_call {p : List (List (List Int))} {c : Nat} {P : D → Nat → Prop} (h : PicS p) (hP : ∀ rs, CntOk p rs → P (eRows rs) c) : ∃ a, S_countsIn.args a = [ePic p] ∧ S_countsIn.pre a c ∧ ∀ d c', S_countsIn.res a c d c' → P d c' :=
  ⟨p, rfl, h, by rintro d c' ⟨rs, rfl, h1, rfl⟩; exact hP rs h1⟩
theorem flat_len {p : List (List (List Int))} : ∀ {n : Nat}, (∀ r ∈ p, r.length ≤ n) → p.flatten.length ≤ p.length * n := fun {n} h => by
  induction p with
  | nil => simp
  | cons r p ih =>
    rw [List.flatten_cons, List.length_append, List.length_cons, Nat.add_mul, Nat.one_mul]
    have h1 := h r List.mem_cons_self
    have h2 := ih fun x hx => h x (List.mem_cons_of_mem _ hx)
    omega
theorem PicS.flat {p : List (List (List Int))} (h : PicS p) : p.flatten.length ≤ 10000 ∧ ∀ ns ∈ p.flatten, ns.length ≤ 1000 ∧ ∀ n ∈ ns, -10000000 ≤ n ∧ n ≤ 10000000 := by
  refine ⟨Nat.le_trans (flat_len (n := 100) fun r hr => (h.2 r hr).1) (by have := h.1; omega), fun ns hn => ?_⟩
  obtain ⟨r, hr, hn⟩ := List.mem_flatten.mp hn
  exact (h.2 r hr).2 ns hn
theorem sum_ge_len {rs : List RC} (h : ∀ r ∈ rs, 1 ≤ r.2) : (rs.length : Int) ≤ (rs.map fun r => r.2 * 1).sum ∧ ∀ r ∈ rs, r.2 ≤ (rs.map fun r => r.2 * 1).sum := by
  induction rs with
  | nil => exact ⟨Int.le_refl _, fun _ h => (nomatch h)⟩
  | cons r rs ih =>
    have h1 := h r List.mem_cons_self
    obtain ⟨h2, h3⟩ := ih fun x hx => h x (List.mem_cons_of_mem _ hx)
    rw [List.map_cons, List.sum_cons, List.length_cons]
    refine ⟨by omega, fun x hx => ?_⟩
    rcases List.mem_cons.mp hx with rfl | hx
    · omega
    · have := h3 x hx; omega
theorem CntOk.len {p : List (List (List Int))} {rs : List RC} (h : CntOk p rs) : rs.length ≤ p.flatten.length ∧ (1 ≤ p.flatten.length → 1 ≤ rs.length) ∧ ∀ r ∈ rs, r.2 ≤ p.flatten.length := by
  have h1 := h.2.2 fun _ => 1
  have e : ∀ xs : List (List Int), (xs.map fun _ => (1 : Int)).sum = xs.length := fun xs => by
    induction xs with
    | nil => rfl
    | cons x xs ih => rw [List.map_cons, List.sum_cons, List.length_cons, ih]; omega
  rw [e] at h1
  obtain ⟨h2, h3⟩ := sum_ge_len fun r hr => (h.1 r hr).2
  refine ⟨by omega, fun hp => ?_, fun r hr => by have := h3 r hr; omega⟩
  cases rs with
  | nil =>
    have h1 : (0 : Int) = _ := h1
    omega
  | cons r rs => simp
end DL
namespace DL
open PySem PySem.Spec L2
/-- a number, a colour -/
def eIC (r : RC) : D := .tup [.int r.2, eCol r.1]
theorem noL_IC (r : RC) : noL (eIC r) = true := by
  show (true && (noL (eCol r.1) && true)) = true
  rw [noL_col]; rfl
theorem py_IC (p : RC) : py (eIC p) = .tuple [.int p.2, .tuple (p.1.map .int)] := by
  show PyData.tuple [.int p.2, py (eCol p.1)] = _
  rw [py_col]
theorem srtOk_IC {ps : List RC} (hl : ps.length ≤ 1000000) : SrtOk (ps.map eIC) := by
  have hpy : (ps.map eIC).map py = ps.map fun p => PyData.tuple [.int p.2, .tuple (p.1.map .int)] := by
    rw [List.map_map]
    exact List.map_congr_left fun p _ => py_IC p
  refine ⟨by rw [List.length_map]; exact hl, isDatas_map (fun p => ?_) ps, noLs_map noL_IC ps, ?_, ?_, fun d hd => ?_⟩
  · show (true && (isData (eCol p.1) && true)) = true
    rw [isData_col]; rfl
  · rw [hpy]
    exact PySem.W.AllAlike.of (enc := fun p : RC => PyData.tuple [.int p.2, .tuple (p.1.map .int)]) fun p q => by
      simp only [PySem.W.alike, PySem.W.alikeAll, PySem.W.alike_ints, Bool.and_self]
  · rw [hpy]
    exact PySem.W.Sortable.tuples (enc := fun p : RC => PyData.tuple [.int p.2, .tuple (p.1.map .int)]) fun p => ⟨_, _, rfl⟩
  · obtain ⟨p, _, rfl⟩ := List.mem_map.mp hd
    rw [py_IC]
    simp only [PyData.depth, PyData.depthAll, PySem.W.depth_ints]
    decide
theorem ng_IC {p : RC} : (eIC p ≠ .gen) = True := propext ⟨fun _ => trivial, fun _ => nofun⟩
theorem tup2I {r s : RG} {p : RC} {k : Kd} {Γ : GE} {Q : GE → Prop} : rgTup 2 (rgCons r (rgCons s rgNil)) (eIC p) k Γ Q = r (.int p.2) k Γ fun Γ1 => s (eCol p.1) k Γ1 Q := tup2
def S_most : FS (List (List (List Int)) × Nat) where
  ks := [.sh, .nl]
  args p := [ePic p.1, .int (p.2 : Nat)]
  pre p c := PicS p.1 ∧ p.2 ≤ 1000
  res p c d c' := ∃ us : List (List Int), d = .lst (us.map eCol) ∧ us.length ≤ p.2 ∧ (1 ≤ p.1.flatten.length → 1 ≤ p.2 → 1 ≤ us.length) ∧ (∀ u ∈ us, u ∈ p.1.flatten) ∧ c' = c
theorem most_call {p : List (List (List Int))} {m : Nat} {c : Nat} {P : D → Nat → Prop} (h : PicS p) (hm : m ≤ 1000) (hP : ∀ us : List (List Int), us.length ≤ m → (1 ≤ p.flatten.length → 1 ≤ m → 1 ≤ us.length) → (∀ u ∈ us, u ∈ p.flatten) → P (.lst (us.map eCol)) c) :
    ∃ a, S_most.args a = [ePic p, .int (m : Nat)] ∧ S_most.pre a c ∧ ∀ d c', S_most.res a c d c' → P d c' := ⟨(p, m), rfl, ⟨h, hm⟩, by rintro d c' ⟨us, rfl, h1, h2, h3, rfl⟩; exact hP us h1 h2 h3⟩
end DL
namespace DL
theorem rLc_ev {vs : List Nat} {ri : RI} {rg : RG} {rt : RT} {re : RE} {Γ : GE} {c : Nat} {Q : D → Kd → Nat → Prop} (h : ri Γ c fun ds nl st c1 => rLc vs (fun _ _ P => P ds nl st c1) rg rt re Γ c Q) : rLc vs ri rg rt re Γ c Q := h
end DL
namespace DL
theorem cutD_upto {α : Type} {xs : List α} {m : Nat} : cutD xs none (some (m : Nat)) = xs.take m := by
  by_cases h : m ≤ xs.length
  · exact cutD_take h
  · rw [List.take_of_length_le (by omega)]
    unfold cutD
    have e1 : HT.sIx xs.length 0 none = 0 := rfl
    have e2 : HT.sIx xs.length xs.length (some ((m : Nat) : Int)) = xs.length := by rw [HT.sIx_nat]; omega
    rw [e1, e2, List.drop_zero, Nat.sub_zero, List.take_length]
end DL
namespace DL
open PySem PySem.Spec L2
theorem enumC_get : ∀ {n : Nat} {cs : List (List Int)} {p : Int × List Int}, p ∈ enumC n cs → ∃ j : Nat, p.1 = ((n + j : Nat) : Int) ∧ cs[j]? = some p.2
  | _, [], _, h => (nomatch h)
  | n, c :: cs, p, h => by
    rcases List.mem_cons.mp h with rfl | h
    · exact ⟨0, rfl, rfl⟩
    · obtain ⟨j, h1, h2⟩ := enumC_get h
      exact ⟨j + 1, by rw [h1]; congr 1; omega, h2⟩
def colAt (cs : List (List Int)) (k : Nat) : List Int := cs.getD k []
/-- how far the nearest is -/
noncomputable def nearA (cs : List (List Int)) (q : List Int) : Int := apartI q (colAt cs (nearN cs q))
theorem isMin_at {cs : List (List Int)} {q : List Int} {m : Int × Int} (h : IsMin (pairsF q cs) m) : m = (nearA cs q, ((nearN cs q : Nat) : Int)) := by
  have e2 := nearN_eq h
  obtain ⟨p, hp, rfl⟩ := List.mem_map.mp h.1
  obtain ⟨j, h1, h2⟩ := enumC_get hp
  have e2 : p.1 = ((nearN cs q : Nat) : Int) := e2
  have ej : j = nearN cs q := by omega
  refine Prod.ext ?_ e2
  show apartI p.2 q = apartI q (colAt cs (nearN cs q))
  unfold colAt
  rw [← ej, List.getD_eq_getElem?_getD, h2]
  exact apartI_symm _ _
theorem nearA_le {cs : List (List Int)} {q : List Int} {k : Nat} (h : k < cs.length) : nearA cs q ≤ apartI q (colAt cs k) ∧ (apartI q (colAt cs k) = nearA cs q → nearN cs q ≤ k) := by
  obtain ⟨m, hm⟩ := isMin_ex (pairsF_ne (q := q) (cs := cs) (by omega))
  have e := isMin_at hm
  have hmem : ((apartI (colAt cs k) q, (k : Int)) : Int × Int) ∈ pairsF q cs := by
    have : ∀ {n : Nat} {cs : List (List Int)} {j : Nat}, j < cs.length → (((n + j : Nat) : Int), cs.getD j []) ∈ enumC n cs := by
      intro n cs
      induction cs generalizing n with
      | nil => intro j h; exact absurd h (Nat.not_lt_zero _)
      | cons c cs ih =>
        intro j h
        cases j with
        | zero => exact List.mem_cons_self
        | succ j =>
          have := ih (n := n + 1) (j := j) (by rw [List.length_cons] at h; omega)
          rw [show n + 1 + j = n + (j + 1) by omega] at this
          exact List.mem_cons_of_mem _ this
    have h1 := this (n := 0) h
    rw [Nat.zero_add] at h1
    exact List.mem_map.mpr ⟨_, h1, rfl⟩
  have h2 := hm.2 _ hmem
  rw [e] at h2
  unfold leP at h2
  rw [apartI_symm q (colAt cs k)]
  have h2 : nearA cs q < apartI (colAt cs k) q ∨ (nearA cs q = apartI (colAt cs k) q ∧ ((nearN cs q : Nat) : Int) ≤ k) := h2
  constructor
  · omega
  · intro h; omega
theorem zip_mapE {α β : Type} (f : α → β) : ∀ xs : List α, xs.zip (xs.map f) = xs.map fun x => (x, f x)
  | [] => rfl
  | x :: xs => by rw [List.map_cons, List.zip_cons_cons, zip_mapE f xs, List.map_cons]
noncomputable def S_noOther : FS (List (List (List Int)) × List (List Int)) where
  ks := [.sh, .sh, .sh]
  args p := [ePic p.1, .lst (p.2.map eCol), eNums (numP p.2 p.1)]
  pre p c := PicS p.1 ∧ PalS p.2
  res p c d c' := d = .bl true ∧ c' = c
theorem noOther_call {p : List (List (List Int))} {cs : List (List Int)} {c : Nat} {P : D → Nat → Prop} (h : PicS p) (hs : PalS cs) (hP : P (.bl true) c) :
    ∃ a, S_noOther.args a = [ePic p, .lst (cs.map eCol), eNums (numP cs p)] ∧ S_noOther.pre a c ∧ ∀ d c', S_noOther.res a c d c' → P d c' := ⟨(p, cs), rfl, ⟨h, hs⟩, fun d c' ⟨e1, e2⟩ => by rw [e1, e2]; exact hP⟩
theorem nearA_pal {cs : List (List Int)} (hs : PalS cs) (q : List Int) : colAt cs (nearN cs q) ∈ cs ∧ atI (cs.map eCol) ((nearN cs q : Nat) : Int) = some (eCol (colAt cs (nearN cs q))) := by
  have hl := nearN_lt (cs := cs) (q := q) hs.1
  refine ⟨?_, atI_map eCol (atI_getD hl [])⟩
  unfold colAt
  rw [List.getD_eq_getElem?_getD, List.getElem?_eq_getElem hl]
  exact List.getElem_mem hl
theorem pairsF_symm (q : List Int) (cs : List (List Int)) : (enumC 0 cs).map (fun p => eF (apartI q p.2, p.1)) = (pairsF q cs).map eF := by
  unfold pairsF
  rw [List.map_map]
  exact List.map_congr_left fun p _ => by rw [apartI_symm]; rfl
end DL
namespace DL
open PySem PySem.Spec L2
theorem PicD.s {w : Int} {p : List (List (List Int))} (h : PicD w p) (hw : w ≤ 5) : PicS p := by
  obtain ⟨h1, h2, n, h3, h4, h5⟩ := h
  refine ⟨by omega, fun r hr => ⟨by have := (h5 r hr).1; omega, fun ns hn => ?_⟩⟩
  have := (h5 r hr).2 ns hn
  exact ⟨by have := this.1; omega, fun n hn => by have := this.2 n hn; omega⟩
theorem PicD.col {w : Int} {p : List (List (List Int))} (h : PicD w p) : (∀ ns ∈ p.flatten, Col w ns) ∧ 1 ≤ p.flatten.length := by
  obtain ⟨h1, h2, n, h3, h4, h5⟩ := h
  refine ⟨fun ns hn => ?_, ?_⟩
  · obtain ⟨r, hr, hn⟩ := List.mem_flatten.mp hn
    exact (h5 r hr).2 ns hn
  · cases p with
    | nil => exact absurd h1 (by decide)
    | cons r p =>
      rw [List.flatten_cons, List.length_append]
      have := (h5 r List.mem_cons_self).1
      omega
theorem PalS.of {w : Int} {cs : List (List Int)} (h1 : 1 ≤ cs.length) (h2 : cs.length ≤ 1000) (hw : w ≤ 5) (h : ∀ ns ∈ cs, Col w ns) : PalS cs :=
  ⟨h1, h2, fun ns hn => ⟨by have := (h ns hn).1; omega, fun n hm => by have := (h ns hn).2 n hm; omega⟩⟩
/-- the picture told by the palette -/
noncomputable def toldP (cs : List (List Int)) (p : List (List (List Int))) : List (List (List Int)) := p.map fun r => r.map fun q => colAt cs (nearN cs q)
theorem paint_told (cs : List (List Int)) (p : List (List (List Int))) : paintI cs (numP cs p) = toldP cs p := by
  unfold paintI numP toldP
  rw [List.map_map]
  exact List.map_congr_left fun r _ => by
    show (r.map (nearN cs)).map _ = _
    rw [List.map_map]; rfl
theorem numP_ok {cs : List (List Int)} {p : List (List (List Int))} (hp : PicS p) (hs : PalS cs) : NumOk cs.length (numP cs p) := by
  refine ⟨by unfold numP; rw [List.length_map]; have := hp.1; omega, fun r hr => ?_⟩
  unfold numP at hr
  obtain ⟨x, hx, rfl⟩ := List.mem_map.mp hr
  refine ⟨by rw [List.length_map]; have := (hp.2 x hx).1; omega, fun n hn => ?_⟩
  obtain ⟨q, hq, rfl⟩ := List.mem_map.mp hn
  exact nearN_lt hs.1
theorem told_ok {cs : List (List Int)} {p : List (List (List Int))} (hp : PicS p) (hs : PalS cs) : PicS (toldP cs p) := by
  refine ⟨by unfold toldP; rw [List.length_map]; exact hp.1, fun r hr => ?_⟩
  unfold toldP at hr
  obtain ⟨x, hx, rfl⟩ := List.mem_map.mp hr
  refine ⟨by rw [List.length_map]; exact (hp.2 x hx).1, fun ns hn => ?_⟩
  obtain ⟨q, hq, rfl⟩ := List.mem_map.mp hn
  exact hs.2.2 _ (nearA_pal hs q).1
theorem lostR_told (cs : List (List Int)) (r : List (List Int)) : lostR r (r.map fun q => colAt cs (nearN cs q)) = (r.map (nearA cs)).sum := by
  unfold lostR
  rw [zip_mapE, List.map_map]; rfl
theorem lost_told (cs : List (List Int)) (p : List (List (List Int))) : lostI p (toldP cs p) = (p.flatten.map (nearA cs)).sum := by
  unfold lostI toldP
  rw [zip_mapE, List.map_map]
  induction p with
  | nil => rfl
  | cons r p ih =>
    rw [List.map_cons, List.sum_cons, List.flatten_cons, List.map_append, List.sum_append, ih]
    congr 1
    exact lostR_told cs r
theorem near_in {w : Int} {us : List (List Int)} {q : List Int} (hu : ∀ u ∈ us, (u.length : Int) = w) (h : q ∈ us) : colAt us (nearN us q) = q := by
  obtain ⟨k, hk, e⟩ := List.getElem_of_mem h
  have ek : colAt us k = q := by
    unfold colAt
    rw [List.getD_eq_getElem?_getD, List.getElem?_eq_getElem hk, e]; rfl
  have h1 := (nearA_le (q := q) hk).1
  rw [ek, apartI_self] at h1
  have h2 : 0 ≤ nearA us q := apartI_nn _ _
  have h3 : apartI q (colAt us (nearN us q)) = 0 := by show nearA us q = 0; omega
  have hl : (colAt us (nearN us q)).length = q.length := by
    have hlt := nearN_lt (cs := us) (q := q) (by omega)
    have hm : colAt us (nearN us q) ∈ us := by
      unfold colAt
      rw [List.getD_eq_getElem?_getD, List.getElem?_eq_getElem hlt]
      exact List.getElem_mem hlt
    have a := hu _ hm
    have b := hu q h
    omega
  exact (apartI_zero hl.symm h3).symm
theorem any_col {us : List (List Int)} {q : List Int} (h : ((us.map eCol).any fun z => PyData.eqv (py z) (py (eCol q))) = true) : q ∈ us := by
  rw [List.any_map, List.any_eq_true] at h
  obtain ⟨u, hu, h⟩ := h
  have := (eqv_iff (nbD_col u) (nbD_col q)).mp h
  have : u.map D.int = q.map D.int := D.tup.inj this
  rw [← ints_inj this]; exact hu
noncomputable def S_countsRight : FS ((Int × List (List (List Int))) × List (List Int)) where
  ks := [.sh, .sh, .nl]
  args p := [ePic p.1.2, .lst (p.2.map eCol), .int (lostI p.1.2 (toldP p.2 p.1.2))]
  pre p c := PicD p.1.1 p.1.2 ∧ p.1.1 ≤ 5 ∧ PalS p.2
  res p c d c' := d = .bl true ∧ c' = c
theorem countsRight_call {w : Int} {p : List (List (List Int))} {cs : List (List Int)} {c : Nat} {P : D → Nat → Prop} (h : PicD w p) (hw : w ≤ 5) (hs : PalS cs) (hP : P (.bl true) c) :
    ∃ a, S_countsRight.args a = [ePic p, .lst (cs.map eCol), .int (lostI p (toldP cs p))] ∧ S_countsRight.pre a c ∧ ∀ d c', S_countsRight.res a c d c' → P d c' := ⟨((w, p), cs), rfl, ⟨h, hw, hs⟩, fun d c' ⟨e1, e2⟩ => by rw [e1, e2]; exact hP⟩
theorem told_call {p : List (List (List Int))} {cs : List (List Int)} {c : Nat} {P : D → Nat → Prop} (hp : PicS p) (hs : PalS cs) (hP : P (ePic (toldP cs p)) c) :
    ∃ a, S_painted.args a = [eNums (numP cs p), .lst (cs.map eCol)] ∧ S_painted.pre a c ∧ ∀ d c', S_painted.res a c d c' → P d c' := painted_call (numP_ok hp hs) (by rw [paint_told]; exact hP)
end DL
namespace DL
open PySem PySem.Spec L2
/-! ### all tellings; the first of the least -/
def tellT (w : Nat) : Nat → List (List Nat)
  | 0 => [[]]
  | k + 1 => (tellT w k).flatMap fun one => (List.range w).map fun n => one ++ [n]
theorem tellT_len {w : Nat} : ∀ {k : Nat} {ns : List Nat}, ns ∈ tellT w k → ns.length = k ∧ ∀ n ∈ ns, n < w
  | 0, ns, h => by cases List.mem_singleton.mp h; exact ⟨rfl, fun _ h => (nomatch h)⟩
  | k + 1, ns, h => by
    obtain ⟨one, h1, h2⟩ := List.mem_flatMap.mp h
    obtain ⟨n, hn, rfl⟩ := List.mem_map.mp h2
    obtain ⟨l, b⟩ := tellT_len h1
    refine ⟨by rw [List.length_append, l]; rfl, fun x hx => ?_⟩
    rcases List.mem_append.mp hx with hx | hx
    · exact b x hx
    · cases List.mem_singleton.mp hx; exact List.mem_range.mp hn
theorem tellT_size {w : Nat} : ∀ k : Nat, (tellT w k).length = w ^ k
  | 0 => rfl
  | k + 1 => by
    have ih := tellT_size (w := w) k
    show ((tellT w k).flatMap _).length = _
    rw [List.length_flatMap]
    have : ((tellT w k).map fun one => ((List.range w).map fun n => one ++ [n]).length) = List.replicate (w ^ k) w := by
      rw [← ih]
      generalize tellT w k = xs
      induction xs with
      | nil => rfl
      | cons x xs ih2 => rw [List.map_cons, ih2, List.length_map, List.length_range]; rfl
    rw [this, List.sum_replicate_nat, Nat.pow_succ]
def FirstMin {α : Type} (L : α → Int) (xs : List α) (b : α) : Prop := ∃ pre post, xs = pre ++ b :: post ∧ (∀ y ∈ pre, L b < L y) ∧ ∀ y ∈ post, L b ≤ L y
theorem FirstMin.snoc {α : Type} {L : α → Int} {xs : List α} {b x : α} (h : FirstMin L xs b) : (L x < L b → FirstMin L (xs ++ [x]) x) ∧ (¬ L x < L b → FirstMin L (xs ++ [x]) b) := by
  obtain ⟨pre, post, rfl, h1, h2⟩ := h
  refine ⟨fun hl => ⟨pre ++ b :: post, [], rfl, fun y hy => ?_, fun _ h => (nomatch h)⟩, fun hl => ⟨pre, post ++ [x], by rw [List.append_assoc]; rfl, h1, fun y hy => ?_⟩⟩
  · rcases List.mem_append.mp hy with hy | hy
    · have := h1 y hy; omega
    · rcases List.mem_cons.mp hy with rfl | hy
      · exact hl
      · have := h2 y hy; omega
  · rcases List.mem_append.mp hy with hy | hy
    · exact h2 y hy
    · cases List.mem_singleton.mp hy; omega
theorem FirstMin.uniq {α : Type} {L : α → Int} {xs : List α} {b c : α} (h : FirstMin L xs b) (g : FirstMin L xs c) : b = c := by
  obtain ⟨pre, post, e1, h1, h2⟩ := h
  obtain ⟨pre', post', e2, g1, g2⟩ := g
  have hb : xs[pre.length]? = some b := by rw [e1, List.getElem?_append_right (Nat.le_refl _), Nat.sub_self]; rfl
  have hc : xs[pre'.length]? = some c := by rw [e2, List.getElem?_append_right (Nat.le_refl _), Nat.sub_self]; rfl
  have key : ∀ {pre post : List α} {b : α} {j : Nat} {x : α}, xs = pre ++ b :: post → xs[j]? = some x → (j < pre.length → x ∈ pre) ∧ (pre.length < j → x ∈ post) := fun {pre post b j x} e hx => by
    refine ⟨fun hj => ?_, fun hj => ?_⟩
    · rw [e, List.getElem?_append_left hj] at hx
      exact List.mem_of_getElem? hx
    · rw [e, List.getElem?_append_right (by omega), show j - pre.length = (j - pre.length - 1) + 1 by omega, List.getElem?_cons_succ] at hx
      exact List.mem_of_getElem? hx
  rcases Nat.lt_trichotomy pre.length pre'.length with hlt | heq | hgt
  · have a := g1 b ((key e2 hb).1 hlt)
    have b' := h2 c ((key e1 hc).2 hlt)
    omega
  · rw [heq, hc] at hb
    exact (Option.some.inj hb).symm
  · have a := h1 c ((key e1 hc).1 hgt)
    have b' := g2 b ((key e2 hb).2 hgt)
    omega
theorem FirstMin.block {w : Nat} {L1 L : List Nat → Int} {xs : List (List Nat)} {v : List Nat} {a : Nat → Int} {n0 : Nat} (h : FirstMin L1 xs v) (hL : ∀ one ∈ xs, ∀ n, L (one ++ [n]) = L1 one + a n)
    (h0 : n0 < w) (ha : ∀ n, n < w → a n0 ≤ a n ∧ (a n = a n0 → n0 ≤ n)) : FirstMin L (xs.flatMap fun one => (List.range w).map fun n => one ++ [n]) (v ++ [n0]) := by
  obtain ⟨pre, post, e, h1, h2⟩ := h
  have hv : v ∈ xs := by rw [e]; exact List.mem_append_right _ List.mem_cons_self
  have hr : (List.range w).map (fun n => v ++ [n]) = (List.range n0).map (fun n => v ++ [n]) ++ (v ++ [n0]) :: ((List.range (w - n0 - 1)).map fun i => v ++ [n0 + 1 + i]) := by
    have : List.range w = List.range n0 ++ (n0 :: (List.range (w - n0 - 1)).map (n0 + 1 + ·)) := by
      have e1 : w = n0 + (1 + (w - n0 - 1)) := by omega
      rw [e1, List.range_add, List.range_add]
      simp only [List.map_append, List.map_map]
      congr 1
      rw [show n0 + (1 + (w - n0 - 1)) - n0 - 1 = w - n0 - 1 by omega]
      show [n0 + 0] ++ _ = _
      rw [Nat.add_zero]
      show n0 :: _ = n0 :: _
      congr 1
      refine List.map_congr_left fun i _ => ?_
      show n0 + (1 + i) = n0 + 1 + i
      omega
    rw [this, List.map_append, List.map_cons, List.map_map]; rfl
  refine ⟨(pre.flatMap fun one => (List.range w).map fun n => one ++ [n]) ++ (List.range n0).map (fun n => v ++ [n]), ((List.range (w - n0 - 1)).map fun i => v ++ [n0 + 1 + i]) ++ post.flatMap fun one => (List.range w).map fun n => one ++ [n], ?_, fun y hy => ?_, fun y hy => ?_⟩
  · rw [e, List.flatMap_append, List.flatMap_cons, hr]
    simp only [List.append_assoc, List.cons_append]
  · rcases List.mem_append.mp hy with hy | hy
    · obtain ⟨u, hu, hy⟩ := List.mem_flatMap.mp hy
      obtain ⟨n, hn, rfl⟩ := List.mem_map.mp hy
      rw [hL v hv, hL u (by rw [e]; exact List.mem_append_left _ hu)]
      have := h1 u hu
      have := (ha n (List.mem_range.mp hn)).1
      omega
    · obtain ⟨n, hn, rfl⟩ := List.mem_map.mp hy
      have hn := List.mem_range.mp hn
      rw [hL v hv, hL v hv]
      have h3 := ha n (by omega)
      have : a n ≠ a n0 := fun z => by have := h3.2 z; omega
      omega
  · rcases List.mem_append.mp hy with hy | hy
    · obtain ⟨i, hi, rfl⟩ := List.mem_map.mp hy
      have hi := List.mem_range.mp hi
      rw [hL v hv, hL v hv]
      have := (ha (n0 + 1 + i) (by omega)).1
      omega
    · obtain ⟨u, hu, hy⟩ := List.mem_flatMap.mp hy
      obtain ⟨n, hn, rfl⟩ := List.mem_map.mp hy
      rw [hL v hv, hL u (by rw [e]; exact List.mem_append_right _ (List.mem_cons_of_mem _ hu))]
      have := h2 u hu
      have := (ha n (List.mem_range.mp hn)).1
      omega
/-- what a telling loses -/
def lossT (cs : List (List Int)) (s : List (List Int)) (ns : List Nat) : Int := lostR s (ns.map (colAt cs))
theorem first_near {cs : List (List Int)} (hs : 0 < cs.length) (s : List (List Int)) : ∀ k, k ≤ s.length → FirstMin (lossT cs (s.take k)) (tellT cs.length k) ((s.take k).map (nearN cs))
  | 0, _ => ⟨[], [], rfl, fun _ h => (nomatch h), fun _ h => (nomatch h)⟩
  | k + 1, hk => by
    have ih := first_near hs s k (by omega)
    have hx : s[k]? = some (s[k]'(by omega)) := List.getElem?_eq_getElem (by omega)
    generalize s[k]'(by omega) = q at hx
    have e : s.take (k + 1) = s.take k ++ [q] := by rw [List.take_add_one, hx]; rfl
    rw [e, List.map_append]
    refine ih.block (a := fun n => apartI q (colAt cs n)) (fun one h1 n => ?_) (nearN_lt hs) fun n hn => nearA_le hn
    have hl := (tellT_len h1).1
    unfold lossT lostR
    rw [List.map_append, List.zip_append (by rw [List.length_take, List.length_map, hl]; omega), List.map_append, List.sum_append]
    simp only [List.map_cons, List.map_nil, List.zip_cons_cons, List.zip_nil_right, List.sum_cons, List.sum_nil, Int.add_zero]
def S_tellings : FS (Nat × Nat) where
  ks := [.nl, .nl]
  args p := [.int (p.1 : Nat), .int (p.2 : Nat)]
  pre p c := p.1 ≤ 4 ∧ p.2 ≤ 3 ∧ 1 ≤ p.2
  res p c d c' := d = eNums (tellT p.2 p.1) ∧ c' = c
theorem tellings_call {m w : Nat} {c : Nat} {P : D → Nat → Prop} (h1 : m ≤ 4) (h2 : w ≤ 3) (h3 : 1 ≤ w) (hP : P (eNums (tellT w m)) c) :
    ∃ a, S_tellings.args a = [.int (m : Nat), .int (w : Nat)] ∧ S_tellings.pre a c ∧ ∀ d c', S_tellings.res a c d c' → P d c' := ⟨(m, w), rfl, ⟨h1, h2, h3⟩, fun d c' ⟨e1, e2⟩ => by rw [e1, e2]; exact hP⟩
def S_piece : FS (List (List Int) × List (List Int)) where
  ks := [.sh, .sh]
  args p := [eRow p.1, .lst (p.2.map eCol)]
  pre p c := 1 ≤ p.1.length ∧ p.1.length ≤ 4 ∧ p.2.length ≤ 3 ∧ PicS [p.1] ∧ PalS p.2
  res p c d c' := d = .bl true ∧ c' = c
theorem piece_call {s cs : List (List Int)} {c : Nat} {P : D → Nat → Prop} (h1 : 1 ≤ s.length) (h2 : s.length ≤ 4) (h3 : cs.length ≤ 3) (hp : PicS [s]) (hs : PalS cs) (hP : P (.bl true) c) :
    ∃ a, S_piece.args a = [eRow s, .lst (cs.map eCol)] ∧ S_piece.pre a c ∧ ∀ d c', S_piece.res a c d c' → P d c' := ⟨(s, cs), rfl, ⟨h1, h2, h3, hp, hs⟩, fun d c' ⟨e1, e2⟩ => by rw [e1, e2]; exact hP⟩
end DL
namespace DL
theorem noL_eNums {p : List (List Nat)} : noL (eNums p) = false := id rfl
end DL
namespace DL
open PySem PySem.Spec L2
theorem paintS {cs : List (List Int)} {p : List (List Nat)} (h : NumOk cs.length p) (hs : PalS cs) : PicOk (paintI cs p) := by
  refine ⟨by unfold paintI; rw [List.length_map]; exact h.1, fun r hr => ?_⟩
  obtain ⟨r1, hr1, rfl⟩ := List.mem_map.mp hr
  refine ⟨by rw [List.length_map]; exact (h.2 r1 hr1).1, fun ns hn => ?_⟩
  obtain ⟨n1, hn1, rfl⟩ := List.mem_map.mp hn
  have hc := (h.2 r1 hr1).2 n1 hn1
  have : cs.getD n1 [] ∈ cs := by rw [List.getD_eq_getElem?_getD, List.getElem?_eq_getElem hc]; exact List.getElem_mem hc
  exact hs.2.2 _ this
theorem loss_one (cs s : List (List Int)) (ns : List Nat) : lostI [s] (paintI cs [ns]) = lossT cs s ns := Int.add_zero _
theorem okD_eNum {ns : List Nat} (h : ns.length ≤ 1000000) : okD (eNum ns) = true := okD_lst (by rw [List.length_map]; exact h) (okDs_map ns fun _ _ => rfl)
end DL
/-! ### list(reversed(a list)) -/
namespace DL
open PySem PySem.Spec PyProof.Rows
section
variable {prog : Program} {w : World} {A : Around} {E : Value → Shared → Prop} {s : Shared}
theorem list_rev {it l : Addr} {items : Array Value} {Q : Value → Shared → Prop} (hh : A.handled = none) (hit : s.heap.IsRevIter it l ((items.size : Int) - 1)) (hl : s.heap.IsList l items) (hne : l ≠ it) (hn : items.size ≤ sizeLine)
    (hQ : ∀ (h' : Heap) (tk : Nat) (acc : Array Value) (c' : Nat), (∀ b o, b ≠ it → s.heap.get? b = some o → h'.get? b = some o) → h'.get? s.heap.objs.size = some { cls := .type "list", dict := none, data := .seq acc c', slots := #[] } →
      ItemsOf (fun i v => items[items.size - 1 - i]? = some v) acc items.size → Q (.ref s.heap.objs.size) { s with heap := h', toks := tk }) :
    wpAny (model prog w) A (call (.type "list") [.ref it]) Q E s := by
  have W := (Walks.listRev (prog := prog) (w := w) (A := A.in1.in1) hh it l hne items).toS
  obtain ⟨oi, hoi, _⟩ := id hit
  obtain ⟨ol, hol, _⟩ := id hl
  have hSi : s.heap.objs.size ≠ it := Nat.ne_of_gt (Heap.lt_size hoi)
  have hSl : s.heap.objs.size ≠ l := Nat.ne_of_gt (Heap.lt_size hol)
  refine callType_codes (Q₁ := fun obj s₁ => obj = .ref s.heap.objs.size ∧ s₁ = { s with heap := s.heap.push { cls := .type "list", data := .seq #[] } }) F.called_list (F.typeCall_list_1 _) F.entry_list_init
    (code_list_new _ ⟨rfl, rfl⟩) fun obj s₁ h₁ => ?_
  obtain ⟨rfl, rfl⟩ := h₁
  have hS : (s.heap.push { cls := .type "list", data := .seq #[] }).get? s.heap.objs.size = some { cls := .type "list", data := .seq #[] } := Heap.get?_push_size _ rfl
  refine ⟨⟨_, hS, rfl⟩, F.args_list_init_2 _ _, ?_⟩
  have hit1 : (s.heap.push { cls := .type "list", data := .seq #[] }).IsRevIter it l ((items.size : Int) - 1) := hit.at fun o e => Heap.get?_push_of_some _ e
  have hl1 : (s.heap.push { cls := .type "list", data := .seq #[] }).IsList l items := hl.push _
  have keep0 : ∀ b o, s.heap.get? b = some o → (s.heap.push { cls := .type "list", data := .seq #[] }).get? b = some o := fun b o e => Heap.get?_push_of_some _ e
  have fresh : ∀ b o, s.heap.get? b = some o → b ≠ s.heap.objs.size := fun b o e => Nat.ne_of_lt (Heap.lt_size e)
  generalize s.heap.objs.size = S at *
  generalize s.heap.push { cls := .type "list", data := .seq #[] } = h0 at *
  have hSf : S ∉ [it, l] := by simp only [List.mem_cons, List.not_mem_nil, or_false, not_or]; exact ⟨hSi, hSl⟩
  show wpAny _ _ (do let old ← Builtin.List.listItems (.ref S); Builtin.List.listUpdate (.ref S) (fun _ => #[]); letGo old.toList.reverse; Builtin.List.listExtendWith (.ref S) (.ref it) .none) _ _ _
  refine wpAny_bind ?_
  unfold Builtin.List.listItems
  refine wpAny_bind (wpAny_seqItems (s := { s with heap := h0 }) hS rfl (wpAny_pure ?_))
  show wpAny _ _ (updateSeq S (fun _ => #[]) >>= fun _ => letGo (#[] : Array Value).toList.reverse >>= fun _ => Builtin.List.listExtendWith (.ref S) (.ref it) .none) _ _ _
  refine wpAny_bind (wpAny_updateSeq (s := { s with heap := h0 }) hS rfl ?_)
  have hS2 := Heap.get?_update_self (Obj.mapSeq (fun _ => (#[] : Array Value))) hS rfl
  have oth : ∀ b o, b ≠ S → h0.get? b = some o → (h0.update S (Obj.mapSeq (fun _ => (#[] : Array Value)))).get? b = some o :=
    fun b o hb e => (Heap.get?_update_other _ _ (Ne.symm hb)).trans e
  refine wpAny_bind (wpAny_letGo ?_)
  have hit2 : (h0.update S (Obj.mapSeq (fun _ => (#[] : Array Value)))).IsRevIter it l ((items.size : Int) - 1) := hit1.at fun o e => oth it o (Ne.symm hSi) e
  have hl2 : (h0.update S (Obj.mapSeq (fun _ => (#[] : Array Value)))).IsList l items := by
    obtain ⟨o, e, r⟩ := hl1
    exact ⟨o, oth l o (Ne.symm hSl) e, r⟩
  generalize h0.update S (Obj.mapSeq (fun _ => (#[] : Array Value))) = h2 at *
  have hT : ({ s with heap := h2 } : Shared).TypeIs (.ref it) "list_reverseiterator" := Heap.IsRevIter.typeIs (s := { s with heap := h2 }) hit2
  have h1 : Builtin.List.listSameRef (.ref S) (.ref it) = false := by simp [Builtin.List.listSameRef, hSi]
  unfold Builtin.List.listExtendWith
  refine wpAny_bind (wpAny_typeOf hT ?_)
  rw [if_neg (by rw [h1]; decide)]
  refine wpAny_bind (wpAny_pyIter_revIter (s := { s with heap := h2 }) hit2 ?_)
  refine wpAny_bind (wpAny_holding ?_)
  unfold Builtin.List.listLengthHint
  refine wpAny_bind (wpAny_specialOf hT RT.nolen_lri ?_)
  show wpAny _ _ (specialOf (Value.ref it) (Str.ofString "__length_hint__") >>= _) _ _ _
  refine wpAny_bind (wpAny_specialOf hT RT.hint_lri ?_)
  generalize hid : ("list_reverseiterator.__length_hint__" : String) = id0
  wp_delta
  rw [show splitId id0 = some ("list_reverseiterator", "__length_hint__") from by subst hid; decide +kernel]
  subst hid
  refine wpAny_bind (wpAny_isInstance (b := true) hT (by rw [isSubtype_type]; kernel_rfl) ?_)
  refine wpAny_pure ?_
  rw [if_neg (by decide)]
  have e0 : ((items.size : Nat) : Int) - 1 - ((0 : Nat) : Int) = (items.size : Int) - 1 := by omega
  refine wpAny_pure ⟨plainId_quiet F.plain_extend_loop _, codeAny_extend_loopS W hn _ hSf _ items.size 0 _ _ _ rfl (Nat.zero_le _) ⟨Nat.zero_le _, by rw [e0]; exact hit2, hl2⟩ hS2 (ItemsOf.nil _) fun s' acc' c' hm hS' hacc => ?_⟩
  rw [Moved.eq_with hm]
  refine ⟨rfl, hQ s'.heap s'.toks acc' c' (fun b o hb e => hm.heap b o (fun hmem => ?_) ?_) hS' hacc⟩
  · rcases List.mem_cons.mp hmem with e' | hmem
    · exact fresh b o e e'
    · exact hb (List.mem_singleton.mp hmem)
  · exact oth b o (fresh b o e) (keep0 b o e)
end
end DL
namespace DL
open PySem PySem.Spec PyProof.Rows L2
section
variable {X : Cx}
/-- list(reversed(a list)) -/
theorem pe_lstRev {e : Expr} {te : TE} {p p2 pos pos2 : Pos} (hc : X.calm = true) (hg : Gl X "list") (hm : X.mg "list" = none) (hg2 : Gl X "reversed") (hm2 : X.mg "reversed" = none) (he : PE X e te)
    (hs : starEach [e] X.env = (false, eval e X.env) :: starEach [] X.env := by rfl)
    (hs2 : starEach [.Call (.Name "reversed" p2) [e] [] pos2] X.env = (false, eval (.Call (.Name "reversed" p2) [e] [] pos2) X.env) :: starEach [] X.env := by rfl) :
    PE X (.Call (.Name "list" p) [.Call (.Name "reversed" p2) [e] [] pos2] [] pos) (tRevL X.K te) := by
  refine ⟨fun pins s σ H Q I h => ?_⟩
  refine Call_ (ld_blt I hg hm boot_list (PyProof.Rows.callWith_type1 (args_cons (Call_ (ld_blt I hg2 hm2 PyProof.Rows.boot_reversed (PyProof.Rows.callWith_type1 (args_cons (thn (he.run pins s σ H _ I h) fun u s1 ⟨v, H1, I1, r1, q1⟩ => args_nil ?_) hs) hs rfl))) hs2) hs2 rfl))
  obtain ⟨a, xs, ev, hq, q⟩ := q1
  subst ev
  obtain rfl : u = Value.ref a := r1
  obtain ⟨its, rv, p', hz⟩ := I1.list hq
  refine call_reversed_list p'.isList (args_nil ?_)
  have hl := p'.isList
  obtain ⟨ol, hol, _⟩ := id hl
  have hne : a ≠ s1.heap.objs.size := Nat.ne_of_lt (Heap.lt_size hol)
  have hn : its.toArray.size ≤ sizeLine := by rw [List.size_toArray, ← rv.length]; exact hz
  have hle : s1.heap.objs.size ≤ (s1.heap.push (revObj a ((its.toArray.size : Int) - 1))).objs.size := by
    show _ ≤ (s1.heap.objs.push _).size
    rw [Array.size_push]
    exact Nat.le_succ _
  refine list_rev (s := { s1 with heap := s1.heap.push (revObj a ((its.toArray.size : Int) - 1)) }) (I1.ok.hd hc) ⟨_, Heap.get?_push_size _ rfl, rfl, rfl⟩ (hl.push _) hne hn fun h' tk acc c' hk e' hi => ?_
  refine ⟨.ref (s1.heap.push (revObj a ((its.toArray.size : Int) - 1))).objs.size, upd H1 (s1.heap.push (revObj a ((its.toArray.size : Int) - 1))).objs.size (.lst xs.reverse), I1.laid (t' := tk) (fun b o e => hk b o (Nat.ne_of_lt (Heap.lt_size e)) (Heap.get?_push_of_some _ e)) hle (show ObjOk X.prog X.w _ _ _ (.lst xs.reverse) from ⟨by rw [List.length_reverse]; exact hz, acc.toList, c', RT.vals_rev rv hi, ?_⟩), rfl, q _ (I1.hok.fresh hle)⟩
  rw [Array.toArray_toList]
  exact e'
end
end DL
namespace DL
open PySem PySem.Spec L2
theorem nearN_of {cs : List (List Int)} {q : List Int} {k : Nat} (hk : k < cs.length) (h : ∀ j, j < cs.length → apartI q (colAt cs k) ≤ apartI q (colAt cs j) ∧ (apartI q (colAt cs j) = apartI q (colAt cs k) → k ≤ j)) : nearN cs q = k := by
  have h1 := nearA_le (q := q) hk
  have hn := nearN_lt (cs := cs) (q := q) (by omega)
  have h2 := h _ hn
  have e : nearA cs q = apartI q (colAt cs (nearN cs q)) := rfl
  have a := h1.2 (by omega)
  have b := h2.2 (by omega)
  omega
theorem colAt_app {cs : List (List Int)} {d : List Int} {j : Nat} : colAt (cs ++ [d]) j = if j < cs.length then colAt cs j else if j = cs.length then d else [] := by
  unfold colAt
  rw [List.getD_eq_getElem?_getD, List.getD_eq_getElem?_getD]
  by_cases h : j < cs.length
  · rw [if_pos h, List.getElem?_append_left h]
  · rw [if_neg h, List.getElem?_append_right (by omega)]
    by_cases e : j = cs.length
    · rw [if_pos e, e, Nat.sub_self]; rfl
    · rw [if_neg e, List.getElem?_eq_none (by rw [List.length_singleton]; omega)]; rfl
theorem nearN_app {cs : List (List Int)} {d q : List Int} (hs : 0 < cs.length) : nearN (cs ++ [d]) q = if apartI q d < apartI q (colAt cs (nearN cs q)) then cs.length else nearN cs q := by
  have hn := nearN_lt (cs := cs) (q := q) hs
  have hle : ∀ j, j < cs.length → nearA cs q ≤ apartI q (colAt cs j) ∧ (apartI q (colAt cs j) = nearA cs q → nearN cs q ≤ j) := fun j hj => nearA_le hj
  have e : nearA cs q = apartI q (colAt cs (nearN cs q)) := rfl
  rw [← e]
  split
  · rename_i hlt
    refine nearN_of (by rw [List.length_append, List.length_singleton]; omega) fun j hj => ?_
    rw [List.length_append, List.length_singleton] at hj
    rw [colAt_app, colAt_app, if_neg (Nat.lt_irrefl _), if_pos rfl]
    by_cases h : j < cs.length
    · rw [if_pos h]
      have := (hle j h).1
      omega
    · rw [if_neg h, if_pos (by omega)]
      exact ⟨Int.le_refl _, fun _ => by omega⟩
  · rename_i hlt
    refine nearN_of (by rw [List.length_append, List.length_singleton]; omega) fun j hj => ?_
    rw [List.length_append, List.length_singleton] at hj
    rw [colAt_app, colAt_app, if_pos hn, ← e]
    by_cases h : j < cs.length
    · rw [if_pos h]; exact hle j h
    · rw [if_neg h, if_pos (by omega)]
      exact ⟨by omega, fun _ => by omega⟩
theorem colAt_rev {cs : List (List Int)} {j : Nat} (h : j < cs.length) : colAt cs.reverse j = colAt cs (cs.length - 1 - j) := by
  unfold colAt
  rw [List.getD_eq_getElem?_getD, List.getD_eq_getElem?_getD, List.getElem?_reverse h]
theorem nearA_rev {cs : List (List Int)} {q : List Int} (hs : 0 < cs.length) : nearA cs.reverse q = nearA cs q := by
  have h1 := nearN_lt (cs := cs) (q := q) hs
  have h2 := nearN_lt (cs := cs.reverse) (q := q) (by rw [List.length_reverse]; exact hs)
  rw [List.length_reverse] at h2
  have a := (nearA_le (cs := cs.reverse) (q := q) (k := cs.length - 1 - nearN cs q) (by rw [List.length_reverse]; omega)).1
  have b := (nearA_le (cs := cs) (q := q) (k := cs.length - 1 - nearN cs.reverse q) (by omega)).1
  rw [colAt_rev (by omega), show cs.length - 1 - (cs.length - 1 - nearN cs q) = nearN cs q by omega] at a
  rw [← colAt_rev h2] at b
  have e1 : nearA cs q = apartI q (colAt cs (nearN cs q)) := rfl
  have e2 : nearA cs.reverse q = apartI q (colAt cs.reverse (nearN cs.reverse q)) := rfl
  omega
theorem PalS.rev {cs : List (List Int)} (h : PalS cs) : PalS cs.reverse := ⟨by rw [List.length_reverse]; exact h.1, by rw [List.length_reverse]; exact h.2.1, fun ns hn => h.2.2 ns (List.mem_reverse.mp hn)⟩
theorem told_all {w : Int} {us : List (List Int)} {p : List (List (List Int))} (hu : ∀ u ∈ us, (u.length : Int) = w) (h : ∀ q ∈ p.flatten, q ∈ us) : toldP us p = p := by
  unfold toldP
  have : ∀ r ∈ p, (r.map fun q => colAt us (nearN us q)) = r := fun r hr => by
    have : (r.map fun q => colAt us (nearN us q)) = r.map id := List.map_congr_left fun q hq => near_in hu (h q (List.mem_flatten.mpr ⟨r, hr, hq⟩))
    rw [this, List.map_id]
  have h2 : (p.map fun r => r.map fun q => colAt us (nearN us q)) = p.map id := List.map_congr_left this
  rw [h2, List.map_id]
theorem told_told {w : Int} {cs : List (List Int)} (hs : PalS cs) (hu : ∀ u ∈ cs, (u.length : Int) = w) (p : List (List (List Int))) : toldP cs (toldP cs p) = toldP cs p :=
  told_all hu fun q hq => by
    obtain ⟨r, hr, hq⟩ := List.mem_flatten.mp hq
    unfold toldP at hr
    obtain ⟨x, _, rfl⟩ := List.mem_map.mp hr
    obtain ⟨y, _, rfl⟩ := List.mem_map.mp hq
    exact (nearA_pal hs y).1
theorem lost_rev {cs : List (List Int)} (hs : PalS cs) (p : List (List (List Int))) : lostI p (toldP cs.reverse p) = lostI p (toldP cs p) := by
  rw [lost_told, lost_told]
  exact sum_congr fun q _ => nearA_rev hs.1
/-- the squares between pictures -/
def eSq (p q : List (List (List Int))) : D := .lst ((p.zip q).map fun x => .lst ((x.1.zip x.2).map fun y => .int (apartI y.1 y.2)))
theorem sq_rev {cs : List (List Int)} (hs : PalS cs) (p : List (List (List Int))) : eSq p (toldP cs.reverse p) = eSq p (toldP cs p) := by
  unfold eSq toldP
  rw [zip_mapE, zip_mapE, List.map_map, List.map_map]
  congr 1
  refine List.map_congr_left fun r _ => ?_
  show D.lst ((r.zip (r.map _)).map _) = D.lst ((r.zip (r.map _)).map _)
  rw [zip_mapE, zip_mapE, List.map_map, List.map_map]
  congr 1
  refine List.map_congr_left fun q _ => ?_
  show D.int (nearA cs.reverse q) = D.int (nearA cs q)
  rw [nearA_rev hs.1]
theorem cnt_mem {p : List (List (List Int))} {rs : List RC} (h : CntOk p rs) {q : List Int} (hq : q ∈ p.flatten) : ∃ r ∈ rs, r.1 = q := by
  have e := h.2.2 fun x => if x = q then 1 else 0
  have h1 : 1 ≤ (p.flatten.map fun x => if x = q then (1 : Int) else 0).sum := by
    generalize p.flatten = xs at hq
    induction xs with
    | nil => exact (nomatch hq)
    | cons x xs ih =>
      have hn := (sum0 (f := fun x : List Int => if x = q then (1 : Int) else 0) (fun x => by split <;> omega) xs).1
      rw [List.map_cons, List.sum_cons]
      rcases List.mem_cons.mp hq with rfl | hq
      · rw [if_pos rfl]; omega
      · have := ih hq
        split <;> omega
  rw [← e] at h1
  by_cases hx : ∃ r ∈ rs, r.1 = q
  · exact hx
  · have : (rs.map fun r => r.2 * (if r.1 = q then (1 : Int) else 0)).sum = 0 := by
      have : ∀ xs : List RC, (∀ r ∈ xs, r.1 ≠ q) → (xs.map fun r => r.2 * (if r.1 = q then (1 : Int) else 0)).sum = 0 := fun xs => by
        induction xs with
        | nil => intro _; rfl
        | cons r xs ih =>
          intro hn
          rw [List.map_cons, List.sum_cons, ih fun r hr => hn r (List.mem_cons_of_mem _ hr), if_neg (hn r List.mem_cons_self)]
          omega
      exact this rs fun r hr z => hx ⟨r, hr, z⟩
    omega
def S_sqP : FS (List (List (List Int)) × List (List (List Int))) where
  ks := [.sh, .sh]
  args p := [ePic p.1, ePic p.2]
  pre p c := PicOk p.1 ∧ PicOk p.2
  res p c d c' := d = eSq p.1 p.2 ∧ c' = c
theorem sqP_call {p q : List (List (List Int))} {c : Nat} {P : D → Nat → Prop} (hp : PicOk p) (hq : PicOk q) (hP : P (eSq p q) c) :
    ∃ a, S_sqP.args a = [ePic p, ePic q] ∧ S_sqP.pre a c ∧ ∀ d c', S_sqP.res a c d c' → P d c' := ⟨(p, q), rfl, ⟨hp, hq⟩, fun d c' ⟨e1, e2⟩ => by rw [e1, e2]; exact hP⟩
noncomputable def S_more : FS ((List (List (List Int)) × List (List Int)) × List Int) where
  ks := [.sh, .sh, .sh, .nl]
  args p := [ePic p.1.1, .lst (p.1.2.map eCol), eNums (numP p.1.2 p.1.1), eCol p.2]
  pre p c := PicS p.1.1 ∧ PalS p.1.2 ∧ PalS (p.1.2 ++ [p.2])
  res p c d c' := d = .bl true ∧ c' = c
theorem more_call {p : List (List (List Int))} {cs : List (List Int)} {d : List Int} {c : Nat} {P : D → Nat → Prop} (hp : PicS p) (hs : PalS cs) (hd : PalS (cs ++ [d])) (hP : P (.bl true) c) :
    ∃ a, S_more.args a = [ePic p, .lst (cs.map eCol), eNums (numP cs p), eCol d] ∧ S_more.pre a c ∧ ∀ r c', S_more.res a c r c' → P r c' := ⟨((p, cs), d), rfl, ⟨hp, hs, hd⟩, fun d c' ⟨e1, e2⟩ => by rw [e1, e2]; exact hP⟩
end DL
namespace DL
open PySem PySem.Spec L2
theorem ite_both {c : Prop} [Decidable c] {A B : Prop} (hb : B) (h : B → c → A) : if c then A else B := by
  split
  · rename_i hc; exact h hb hc
  · exact hb
theorem okD_sq {p q : List (List (List Int))} (hp : PicOk p) : okD (eSq p q) = true := by
  refine okD_lst (by rw [List.length_map, List.length_zip]; have := hp.1; omega) (okDs_map _ fun x hx => ?_)
  refine okD_lst (by rw [List.length_map, List.length_zip]; have := (hp.2 _ (List.of_mem_zip hx).1).1; omega) (okDs_map _ fun _ _ => rfl)
theorem dep_sq (p q : List (List (List Int))) : dep (eSq p q) ≤ 2 := Nat.succ_le_succ (deps_leM (fun _ => Nat.succ_le_succ (deps_leM (fun _ => Nat.le_refl 0) _)) _)
theorem nbD_sq (p q : List (List (List Int))) : nbD (eSq p q) = true := by
  have h : ∀ x : List (List Int) × List (List Int), nbD (D.lst ((x.1.zip x.2).map fun y => D.int (apartI y.1 y.2))) = true := fun x => nbDs_map (f := fun y : List Int × List Int => D.int (apartI y.1 y.2)) (fun _ => rfl) _
  exact nbDs_map (f := fun x : List (List Int) × List (List Int) => D.lst ((x.1.zip x.2).map fun y => D.int (apartI y.1 y.2))) h _
theorem PalS.app {w : Int} {cs : List (List Int)} {d : List Int} (hw : w ≤ 5) (h1 : 1 ≤ cs.length) (h2 : cs.length ≤ 999) (h : ∀ ns ∈ cs, Col w ns) (hd : Col w d) : PalS (cs ++ [d]) :=
  PalS.of (w := w) (by rw [List.length_append]; omega) (by rw [List.length_append, List.length_singleton]; omega) hw fun ns hn => (List.mem_append.mp hn).elim (h ns) fun hn => by cases List.mem_singleton.mp hn; exact hd
end DL
namespace DL
theorem zip3E {α β γ : Type} (f : α → β) (g : α → γ) : ∀ xs : List α, xs.zip ((xs.map f).zip (xs.map g)) = xs.map fun x => (x, f x, g x)
  | [] => rfl
  | x :: xs => by rw [List.map_cons, List.map_cons, List.zip_cons_cons, List.zip_cons_cons, zip3E f g xs, List.map_cons]
end DL
/-! ### the law's call, from a promise that is kept where nothing is being shown -/
namespace DL
open PySem PySem.Spec PyProof.Rows L2
/-- the one thing tracked: the script's list, where it is none of the module's own -/
def oneH (K : PySem.W.Frag) (a : Addr) (o : Obj) (xs : List V) : Hp := fun b => if b = a ∧ K.lookup a = none then some (.frz o (.lst xs)) else none
theorem oneH_inv {K : PySem.W.Frag} {a b : Addr} {o : Obj} {xs : List V} {u : HO} (h : oneH K a o xs b = some u) : b = a ∧ K.lookup a = none ∧ u = .frz o (.lst xs) := by
  unfold oneH at h
  split at h
  · rename_i z
    cases h
    exact ⟨z.1, z.2, rfl⟩
  · cases h
theorem law_run {P : Program} {w : World} {K : PySem.W.Frag} {mg mb : Str → Option Value} {k : Nat} {fa a : Addr} {fd : FuncData} {x : Str} {sp : Sp} {t : Shared} {vs : List Value} {ns : List Int}
    (kin : K.In t.heap) (gl : t.heap.Ns mainGlobals mg) (bl : t.heap.Ns builtinsNs mb) (bb : ∀ x : Str, x ≠ "__name__" → mb x = bootBuiltins x) (nl : t.heap.NoLimit) (ng : t.gens = #[])
    (ea : t.heap.get? a = some { cls := .type "list", data := .seq vs.toArray }) (iv : IntsAre vs ns) (le : ns.length ≤ sizeLine) (hr : Room k callerA)
    (T : ∀ base : Heap, K.In base → base.Ns mainGlobals mg → FnG P w K mg base CX0 k fa fd [x] sp) (bd : ∀ (s : Shared) (u : Value), BindsTo s fd ⟨[u], []⟩ [(x, u)])
    (hs : ∀ H : Hp, Only H → SqL K H a (ns.map V.int) → sp [.ref a] H (fun v _ => v = .bl true) fun _ _ _ => False) :
    codeAny (model P w) callerA (.call (.ref fa) ⟨[.ref a], []⟩) (fun r s' => r = .ok (.ret (.bool true)) ∧ OldK t.heap s'.heap ∧ s'.os = t.os ∧ AllBare s'.gens) t := by
  have rv := L2.vals_ints iv
  have lv := iv.length
  have inv : ∀ {b u}, oneH K a { cls := .type "list", data := .seq vs.toArray } (ns.map V.int) b = some u → b = a ∧ K.lookup a = none ∧ u = .frz { cls := .type "list", data := .seq vs.toArray } (.lst (ns.map V.int)) := oneH_inv
  have hS : SqL K (oneH K a { cls := .type "list", data := .seq vs.toArray } (ns.map V.int)) a (ns.map V.int) := by
    cases e : K.lookup a with
    | some o =>
      have e2 := kin a o e
      rw [ea] at e2
      cases e2
      exact .inr ⟨_, vs.toArray, _, e, rfl, rfl, rfl, by rw [List.size_toArray, lv]; exact le, by simpa using rv⟩
    | none => exact .inl (.inr ⟨{ cls := .type "list", data := .seq vs.toArray }, if_pos ⟨rfl, e⟩⟩)
  generalize oneH K a { cls := .type "list", data := .seq vs.toArray } (ns.map V.int) = H at inv hS
  have hO : Only H := fun b => by
    cases e : H b with
    | none => exact .inl rfl
    | some u => exact .inr ⟨_, _, by rw [(inv e).2.2]⟩
  have ok : HOk P w H t.heap := fun b u e => by
    obtain ⟨rfl, _, rfl⟩ := inv e
    exact ⟨ea, by rw [List.length_map]; exact le, vs, _, rv, ea⟩
  have far : ∀ {b : Addr}, b ≠ a → H b = none := fun {b} h => by
    cases e : H b with
    | none => rfl
    | some u => exact absurd (inv e).1 h
  have dct : ∀ {b : Addr} {o : Obj} {es : Array DictEntry} {n : Nat}, t.heap.get? b = some o → o.data = .dict es n → H b = none := fun {b o es n} e d => far fun z => by
    subst z
    rw [ea] at e
    cases e
    exact Data.noConfusion d
  have hid : ∀ {b : Addr} {m : Str → Option Value}, t.heap.Ns b m → (hidT t.heap H).Ns b m := fun {b m} ⟨o, es, n, e, d, r⟩ => ⟨o, es, n, hidT_get e (dct e d), d, r⟩
  have kin' : K.In (hidT t.heap H) := fun b o e => hidT_get (kin b o e) (by
    cases q : H b with
    | none => rfl
    | some u =>
      obtain ⟨rfl, n, _⟩ := inv q
      rw [n] at e
      cases e)
  obtain ⟨mc, c1, c2⟩ := nl
  have en : Env0 P w K mg (hidT t.heap H) callerA [] t H := ⟨rfl, ⟨kin', hid gl, ⟨mb, hid bl, bb⟩, ⟨mc, hid c1, c2⟩⟩, fun _ _ e => of_hidT e, Nat.le_of_eq (hidT_size _ _), trivial, fun b hb => absurd hb List.not_mem_nil, ok, .of_eq ng⟩
  refine codeAny_mono ((T _ kin' (hid gl)).run callerA [] t H ⟨[.ref a], []⟩ [.ref a] [.ref a] _ _ ⟨hr, rfl⟩ en (bd t (.ref a)) (.cons rfl .nil) (hs H hO hS)) fun out u hu => ?_
  match out, hu with
  | .error _, hu => exact hu.elim
  | .ok .next, hu => exact hu.elim
  | .ok .brk, hu => exact hu.elim
  | .ok .cont, hu => exact hu.elim
  | .ok (.ret y), hu =>
    obtain ⟨v, H2, h1, h2, h3, h4, h5, h6⟩ := hu
    have h6 : v = .bl true := h6
    subst h6
    have h5 : y = Value.bool true := h5
    subst h5
    refine ⟨rfl, OldK.of_keep fun b o e => ?_, h1, h2⟩
    cases q : H b with
    | none => exact h3.keep b o e q (fun z => absurd z List.not_mem_nil) List.not_mem_nil
    | some z =>
      obtain ⟨_, _, rfl⟩ := inv q
      have z1 := (ok b _ q).1
      have z2 := (h4 b _ (h3.frzs b _ _ q)).1
      rw [e] at z1
      rw [z2, z1]
theorem walk_ofG {l : PySem.W.OpenLaw} {n k : Nat} {q : Program} {loose : List Str} {XP : (Str → Option Value) → Heap → Prop} {YP : World → Heap → Prop} {d : DefRec} {K : Params → PySem.W.Frag} {sp : World → Sp} {x : Str}
    (hn : l.most = some n) (hz : n ≤ sizeLine) (nd : d.params.defaults = []) (hr : Room k callerA) (hY : ∀ (w : World) (h : Heap), YP w h → (K w.params).In h)
    (T : ∀ (w : World) (mg : Str → Option Value) (fa : Addr) (h : Heap), (K w.params).In h → h.Ns mainGlobals mg → mg d.name = some (.ref fa) →
      ∃ fd : FuncData, (∀ (s : Shared) (u : Value), BindsTo s fd ⟨[u], []⟩ [(x, u)]) ∧ ∀ base : Heap, (K w.params).In base → base.Ns mainGlobals mg → FnG l.prog w (K w.params) mg base CX0 k fa fd [x] (sp w))
    (hs : ∀ (w : World) (H : Hp) (a : Addr) (ns : List Int), ns.length ≤ n → Only H → SqL (K w.params) H a (ns.map V.int) → sp w [.ref a] H (fun v _ => v = .bl true) fun _ _ _ => False) :
    PySem.W.WalkO q loose XP YP l.row.toRowW d [] (fun f vs => PySem.call f vs) := by
  apply Att.attach_call hn nd
  intro w _ t mg mb fa o pm cd dc a vs ns G Y _ _ _ hmg ea iv le ng
  obtain ⟨fd, bd, T'⟩ := T w mg fa _ (hY w _ Y) G.T.g hmg
  exact law_run (hY w _ Y) G.T.g G.T.b G.T.builtins G.T.nolimit ng ea iv (Nat.le_trans le hz) hr T' bd fun H hO hS => hs w H a ns le hO hS
end DL
/-! ### str of a thing -/
namespace DL
open PySem PySem.Spec PyProof.Rows L2
mutual
/-- all numbers within are of at most n bits -/
def inB (n : Nat) : D → Bool
  | .int i => decide (i.natAbs.log2 < n)
  | .lst ds => inBs n ds
  | .tup ds => inBs n ds
  | .non => true
  | .bl _ => true
  | .str _ => true
  | _ => false
def inBs (n : Nat) : List D → Bool
  | [] => true
  | d :: ds => inB n d && inBs n ds
end
mutual
/-- how long its text is at most -/
def wS (n : Nat) : D → Nat
  | .int _ => n + 1
  | .lst ds => wSs n ds + 3
  | .tup ds => wSs n ds + 3
  | .str x => (reprText x).length
  | _ => 5
def wSs (n : Nat) : List D → Nat
  | [] => 0
  | d :: ds => wS n d + 2 + wSs n ds
end
mutual
theorem show_ok {n : Nat} (hn : 0 < n) (hn2 : n ≤ 1920) : ∀ {d : D}, isData d = true → inB n d = true → (py d).showable = true ∧ (py d).shown.length ≤ wS n d
  | .non, _, _ => ⟨rfl, by show (PyData.shown .none).length ≤ 5; decide⟩
  | .bl b, _, _ => ⟨rfl, by show (PyData.shown (.bool b)).length ≤ 5; cases b <;> decide⟩
  | .int i, _, h => by
    have h : decide (i.natAbs.log2 < n) = true := h
    have h := of_decide_eq_true h
    refine ⟨?_, ?_⟩
    · show PyData.showable (.int i) = true
      unfold PyData.showable
      exact decide_eq_true (by omega)
    · show (Str.ofString (toString i)).length ≤ n + 1
      rw [PySem.ofString_length]
      exact int_text_length_le hn h
  | .str x, _, _ => ⟨rfl, Nat.le_refl _⟩
  | .lst ds, h, g => by
    obtain ⟨a, b⟩ := shows_ok hn hn2 (ds := ds) h g
    have h2 := listText_len_le (PyData.shownAll (pys ds))
    refine ⟨?_, ?_⟩
    · show PyData.showable (.list (pys ds)) = true
      unfold PyData.showable
      exact a
    · show (PyData.shown (.list (pys ds))).length ≤ wSs n ds + 3
      unfold PyData.shown
      omega
  | .tup ds, h, g => by
    obtain ⟨a, b⟩ := shows_ok hn hn2 (ds := ds) h g
    have h2 := tupleText_len_le (PyData.shownAll (pys ds))
    refine ⟨?_, ?_⟩
    · show PyData.showable (.tuple (pys ds)) = true
      unfold PyData.showable
      exact a
    · show (PyData.shown (.tuple (pys ds))).length ≤ wSs n ds + 3
      unfold PyData.shown
      omega
  | .ty _, h, _ => nomatch h
  | .scr _, h, _ => nomatch h
  | .gen, h, _ => nomatch h
  | .dct _ _ _, h, _ => nomatch h
  | .mt _, h, _ => nomatch h
  | .obj _ _ _, h, _ => nomatch h
  | .shr _, h, _ => nomatch h
theorem shows_ok {n : Nat} (hn : 0 < n) (hn2 : n ≤ 1920) : ∀ {ds : List D}, isDatas ds = true → inBs n ds = true → PyData.showableAll (pys ds) = true ∧ ((PyData.shownAll (pys ds)).map (·.length)).sum + 2 * (PyData.shownAll (pys ds)).length ≤ wSs n ds
  | [], _, _ => ⟨rfl, by show _ ≤ 0; simp [pys, PyData.shownAll]⟩
  | d :: ds, h, g => by
    have h' : (isData d && isDatas ds) = true := h
    have g' : (inB n d && inBs n ds) = true := g
    rw [Bool.and_eq_true] at h' g'
    obtain ⟨a1, a2⟩ := show_ok hn hn2 h'.1 g'.1
    obtain ⟨b1, b2⟩ := shows_ok hn hn2 h'.2 g'.2
    refine ⟨?_, ?_⟩
    · show PyData.showableAll (py d :: pys ds) = true
      unfold PyData.showableAll
      rw [a1, b1]; rfl
    · show ((PyData.shownAll (py d :: pys ds)).map (·.length)).sum + 2 * (PyData.shownAll (py d :: pys ds)).length ≤ wS n d + 2 + wSs n ds
      simp only [PyData.shownAll, List.map_cons, List.sum_cons, List.length_cons]
      omega
end
/-- str may be asked of it -/
def StrOk (d : D) : Prop := EqOk d ∧ ∃ n, 0 < n ∧ n ≤ 1920 ∧ inB n d = true ∧ wS n d ≤ 16000000
def shownD (d : D) : Str := (py d).shown
def isSeqD : D → Bool
  | .lst _ => true
  | .tup _ => true
  | _ => false
def dStr : RN := fun dks Q => match dks with
  | [(.int i, _)] => i.natAbs.log2 < 1920 ∧ Q (.str (toString i)) (.R [])
  | [(d, _)] => isSeqD d = true ∧ StrOk d ∧ Q (.str (shownD d)) (.R [])
  | _ => False
def rStrD (K : PySem.W.Frag) : List V → Hp → VK → Prop := fun xs H Q => (∃ i, xs = [.int i] ∧ i.natAbs.log2 < 1920 ∧ Q (.str (toString i)) H) ∨
  ∃ a d, xs = [.ref a] ∧ Dp K H (.ref a) d ∧ SeqAt.shaped d = true ∧ d.showable = true ∧ d.shown.length ≤ sizeLine ∧ Q (.str d.shown) H
theorem call_strD {X : Cx} (hg : X.A.guards = some []) (hu : X.A.units + 200 < cLine) : CallR X (.type "str") (rStrD X.K) := by
  refine call_str_int.or ?_
  intro pins s σ H xs us Q I r h
  obtain ⟨a, d, rfl, hd, sd, hs, hl, q⟩ := h
  cases r with
  | cons r1 rt =>
    cases rt
    obtain ⟨as, rd⟩ := Dp.reads I d _ _ hd r1
    cases r1
    have dl := SeqAt.depth_of_shaped sd
    refine str_of_reads (h₀ := s.heap) rd hs (PyData.noDict_hsm (PyData.hasDict_of_canLay d (SeqAt.canLay_of_shaped sd))) hg (by omega) (fun _ _ e => e) (fun h' u tk hk => ?_) hl
    exact ⟨.str d.shown, H, I.un (Un.kept hk) (I.hok.kept hk), ⟨u, rfl⟩, q⟩
section
variable {K : PySem.W.Frag}
theorem v_str : VN K (rStrD K) dStr := by
  intro B Hs H c vs dks fp Qd Q A ar h f
  unfold dStr at h
  split at h
  · obtain ⟨v, vr, f1, g1, rfl, rfl, r, _, _, _, t⟩ := ar.inv
    obtain rfl := t.inv0
    exact .inl ⟨_, by rw [r.int], h.1, f _ H _ _ (Same.refl _) (A.flat rp_str) h.2⟩
  · rename_i dd kk0 _
    obtain ⟨v, vr, f1, g1, rfl, rfl, r, _, _, _, t⟩ := ar.inv
    obtain rfl := t.inv0
    obtain ⟨hq, ⟨⟨he1, he2⟩, n, n0, n1, hb, hw⟩, q⟩ := h
    have r' := r.rp (isData_ng he1)
    obtain ⟨s1, s2⟩ := show_ok n0 n1 he1 hb
    have rf : ∃ a, v = .ref a := by
      cases dd with
      | lst ds => rw [Rp] at r'; obtain ⟨a, _, _, e, _⟩ := r'; exact ⟨a, e⟩
      | tup ds => rw [Rp] at r'; obtain ⟨a, _, e, _⟩ := r'; exact ⟨a, e⟩
      | _ => cases hq
    obtain ⟨a, rfl⟩ := rf
    exact .inr ⟨a, py dd, rfl, dp_of he1 r', he2, s1, by rw [sizeLine_eq]; omega, f _ H _ _ (Same.refl _) (A.flat rp_str) q⟩
  · exact h.elim
theorem inBs_map {α : Type} {n : Nat} {f : α → D} {xs : List α} (h : ∀ x ∈ xs, inB n (f x) = true) : inBs n (xs.map f) = true := by
  induction xs with
  | nil => rfl
  | cons x r ih =>
    show (inB n (f x) && inBs n (r.map f)) = true
    rw [h x List.mem_cons_self, ih fun y hy => h y (List.mem_cons_of_mem _ hy)]; rfl
theorem wSs_map {α : Type} {n m : Nat} {f : α → D} {xs : List α} (h : ∀ x ∈ xs, wS n (f x) ≤ m) : wSs n (xs.map f) ≤ xs.length * (m + 2) := by
  induction xs with
  | nil => exact Nat.zero_le _
  | cons x r ih =>
    show wS n (f x) + 2 + wSs n (r.map f) ≤ (r.length + 1) * (m + 2)
    have := h x List.mem_cons_self
    have := ih fun y hy => h y (List.mem_cons_of_mem _ hy)
    rw [Nat.add_mul]; omega
theorem PB.log {n : Nat} {i : Int} (h : PB n i) (hn : 0 < n) : i.natAbs.log2 < n := by
  unfold PB at h
  by_cases z : i.natAbs = 0
  · rw [z]; exact hn
  · exact (Nat.log2_lt z).mpr h
theorem inB_int {n : Nat} {i : Int} (hn : 0 < n) (h : PB n i) : inB n (.int i) = true := decide_eq_true (h.log hn)
theorem wS_lst {n : Nat} {ds : List D} : wS n (.lst ds) = wSs n ds + 3 := id rfl
theorem wS_tup {n : Nat} {ds : List D} : wS n (.tup ds) = wSs n ds + 3 := id rfl
end
theorem RoomG.u200 {k : Nat} {A : Around} (r : RoomG k A) : A.units + 200 < cLine := by have := r.toRoom.un; omega
section
variable {P : D → Kd → Prop} {ds : List D} {k : Kd} {i : Int}
theorem u_strI : dStr [(.int i, k)] P = (i.natAbs.log2 < 1920 ∧ P (.str (toString i)) (.R [])) := rfl
theorem u_strL : dStr [(.lst ds, k)] P = (StrOk (.lst ds) ∧ P (.str (shownD (.lst ds))) (.R [])) := propext ⟨fun h => h.2, fun h => ⟨rfl, h⟩⟩
theorem u_strT : dStr [(.tup ds, k)] P = (StrOk (.tup ds) ∧ P (.str (shownD (.tup ds))) (.R [])) := propext ⟨fun h => h.2, fun h => ⟨rfl, h⟩⟩
end
theorem strOk_of {d : D} (n : Nat) (h : EqOk d) (h0 : 0 < n) (h1 : n ≤ 1920) (hb : inB n d = true) (hw : wS n d ≤ 16000000) : StrOk d := ⟨h, n, h0, h1, hb, hw⟩
theorem eqOk_str {x : Str} (h : EqOk (.str x)) : EqOk (.str x) := h
/-! ### == and != of texts -/
def rEqS : R2 := fun x y H Q => ∃ a b, x = .str a ∧ y = .str b ∧ Q (.bl (a == b)) H
def rNeS : R2 := fun x y H Q => ∃ a b, x = .str a ∧ y = .str b ∧ Q (.bl (a != b)) H
theorem op_eqS {X : Cx} : OpR X (compareOp .Eq) rEqS := by
  intro pins s σ H x y v u Q I rx ry h
  obtain ⟨a, b, rfl, rfl, q⟩ := h
  obtain ⟨t, rfl⟩ := (show ∃ t, v = Value.str a t from rx)
  obtain ⟨t', rfl⟩ := (show ∃ t, u = Value.str b t from ry)
  exact PyProof.Rows.eq_str ⟨.bl _, H, I, rfl, q⟩
theorem op_neS {X : Cx} : OpR X (compareOp .NotEq) rNeS := by
  intro pins s σ H x y v u Q I rx ry h
  obtain ⟨a, b, rfl, rfl, q⟩ := h
  obtain ⟨t, rfl⟩ := (show ∃ t, v = Value.str a t from rx)
  obtain ⟨t', rfl⟩ := (show ∃ t, u = Value.str b t from ry)
  exact PyProof.Rows.ne_str ⟨.bl _, H, I, rfl, q⟩
def dEqS : RD2 := fun x _ y _ Q => match x, y with
  | .str a, .str b => Q (.bl (a == b)) (.R [])
  | _, _ => False
def dNeS : RD2 := fun x _ y _ Q => match x, y with
  | .str a, .str b => Q (.bl (a != b)) (.R [])
  | _, _ => False
section
variable {K : PySem.W.Frag}
theorem v_eqS : V2 K rEqS dEqS := by
  intro B Hs H c x y dx kx dy ky fp Qd Q A ar h f
  unfold dEqS at h
  split at h
  · obtain ⟨⟨_, r⟩, _, r2⟩ := ar.two
    exact ⟨_, _, r.str, r2.str, f _ H _ _ (Same.refl _) (A.flat rp_bl) h⟩
  · exact h.elim
theorem v_neS : V2 K rNeS dNeS := by
  intro B Hs H c x y dx kx dy ky fp Qd Q A ar h f
  unfold dNeS at h
  split at h
  · obtain ⟨⟨_, r⟩, _, r2⟩ := ar.two
    exact ⟨_, _, r.str, r2.str, f _ H _ _ (Same.refl _) (A.flat rp_bl) h⟩
  · exact h.elim
end
section
variable {P : D → Kd → Prop} {k k' : Kd} {a b : Str}
theorem u_eqSS : dEqS (.str a) k (.str b) k' P = P (.bl (a == b)) (.R []) := rfl
theorem u_neSS : dNeS (.str a) k (.str b) k' P = P (.bl (a != b)) (.R []) := rfl
end
end DL
/-! ### how deep, how long, of how many bits a thing is: all at once -/
namespace DL
open PySem PySem.Spec L2
/-- deep: m at most; numbers of n bits at most; its text of k signs at most -/
structure Sh (m n k : Nat) (d : D) : Prop where
  ok : okD d = true
  dp : dep d ≤ m
  ib : inB n d = true
  ws : wS n d ≤ k
theorem Sh.mono {m n k m' k' : Nat} {d : D} (h : Sh m n k d) (h1 : m ≤ m') (h2 : k ≤ k') : Sh m' n k' d := ⟨h.ok, Nat.le_trans h.dp h1, h.ib, Nat.le_trans h.ws h2⟩
theorem Sh.int {n : Nat} {i : Int} (hn : 0 < n) (h : PB n i) : Sh 0 n (n + 1) (.int i) := ⟨rfl, Nat.le_refl _, inB_int hn h, Nat.le_refl _⟩
theorem Sh.non {n : Nat} : Sh 0 n 5 .non := ⟨rfl, Nat.le_refl _, rfl, Nat.le_refl _⟩
theorem Sh.bl {n : Nat} {b : Bool} : Sh 0 n 5 (.bl b) := ⟨rfl, Nat.le_refl _, rfl, Nat.le_refl _⟩
theorem deps_mapM {α : Type} {f : α → D} {m : Nat} : ∀ {xs : List α}, (∀ x ∈ xs, dep (f x) ≤ m) → deps (xs.map f) ≤ m
  | [], _ => Nat.zero_le _
  | x :: r, h => Nat.max_le.mpr ⟨h x List.mem_cons_self, deps_mapM fun y hy => h y (List.mem_cons_of_mem _ hy)⟩
theorem okDs_mapM {α : Type} {f : α → D} {xs : List α} (h : ∀ x ∈ xs, okD (f x) = true) : okDs (xs.map f) = true := okDs_map xs h
theorem Sh.lstM {α : Type} {f : α → D} {m n k : Nat} {xs : List α} (L : Nat) (hl : xs.length ≤ L) (hL : L ≤ 1000000) (h : ∀ x ∈ xs, Sh m n k (f x)) : Sh (m + 1) n (L * (k + 2) + 3) (.lst (xs.map f)) := by
  refine ⟨okD_lst (by rw [List.length_map]; omega) (okDs_mapM fun x hx => (h x hx).ok), Nat.succ_le_succ (deps_mapM fun x hx => (h x hx).dp), inBs_map fun x hx => (h x hx).ib, ?_⟩
  have := wSs_map (n := n) (m := k) (f := f) (xs := xs) fun x hx => (h x hx).ws
  have := Nat.mul_le_mul_right (k + 2) hl
  rw [wS_lst]; omega
theorem Sh.tupM {α : Type} {f : α → D} {m n k : Nat} {xs : List α} (L : Nat) (hl : xs.length ≤ L) (hL : L ≤ 1000000) (h : ∀ x ∈ xs, Sh m n k (f x)) : Sh (m + 1) n (L * (k + 2) + 3) (.tup (xs.map f)) := by
  refine ⟨okD_tup (by rw [List.length_map]; omega) (okDs_mapM fun x hx => (h x hx).ok), Nat.succ_le_succ (deps_mapM fun x hx => (h x hx).dp), inBs_map fun x hx => (h x hx).ib, ?_⟩
  have := wSs_map (n := n) (m := k) (f := f) (xs := xs) fun x hx => (h x hx).ws
  have := Nat.mul_le_mul_right (k + 2) hl
  rw [wS_tup]; omega
/-- a row of things, their texts together -/
structure Shs (m n k : Nat) (ds : List D) : Prop where
  ok : okDs ds = true
  dp : deps ds ≤ m
  ib : inBs n ds = true
  ws : wSs n ds ≤ k
theorem Shs.nil {m n : Nat} : Shs m n 0 [] := ⟨rfl, Nat.zero_le _, rfl, Nat.le_refl _⟩
theorem Shs.cons {m n k j : Nat} {d : D} {ds : List D} (h : Sh m n k d) (g : Shs m n j ds) : Shs m n (k + 2 + j) (d :: ds) := by
  refine ⟨?_, Nat.max_le.mpr ⟨h.dp, g.dp⟩, ?_, Nat.add_le_add (Nat.add_le_add_right h.ws 2) g.ws⟩
  · show (okD d && okDs ds) = true
    rw [h.ok, g.ok]; rfl
  · show (inB n d && inBs n ds) = true
    rw [h.ib, g.ib]; rfl
theorem Shs.lst {m n k : Nat} {ds : List D} (h : Shs m n k ds) (hl : ds.length ≤ 1000000) : Sh (m + 1) n (k + 3) (.lst ds) := ⟨okD_lst hl h.ok, Nat.succ_le_succ h.dp, h.ib, by rw [wS_lst]; have := h.ws; omega⟩
theorem Shs.tup {m n k : Nat} {ds : List D} (h : Shs m n k ds) (hl : ds.length ≤ 1000000) : Sh (m + 1) n (k + 3) (.tup ds) := ⟨okD_tup hl h.ok, Nat.succ_le_succ h.dp, h.ib, by rw [wS_tup]; have := h.ws; omega⟩
theorem Sh.eq {m n k : Nat} {d : D} (h : Sh m n k d) (hm : m ≤ 64) : EqOk d := eqOk_of h.ok (Nat.le_trans h.dp hm)
theorem Sh.str {m n k : Nat} {d : D} (h : Sh m n k d) (hm : m ≤ 64) (h0 : 0 < n) (hn : n ≤ 1920) (hk : k ≤ 16000000) : StrOk d := ⟨h.eq hm, n, h0, hn, h.ib, Nat.le_trans h.ws hk⟩
theorem Sh.two {m n k j : Nat} {d e : D} (h : Sh m n k d) (g : Sh m n j e) : Sh (m + 1) n (k + 2 + (j + 2 + 0) + 3) (.lst [d, e]) := (Shs.cons h (.cons g .nil)).lst (by decide : 2 ≤ 1000000)
theorem Sh.twoT {m n k j : Nat} {d e : D} (h : Sh m n k d) (g : Sh m n j e) : Sh (m + 1) n (k + 2 + (j + 2 + 0) + 3) (.tup [d, e]) := (Shs.cons h (.cons g .nil)).tup (by decide : 2 ≤ 1000000)
theorem Sh.col {w : Nat} {ns : List Int} (hl : ns.length ≤ w) (hw : w ≤ 1000) (h : ∀ n ∈ ns, -10000000 ≤ n ∧ n ≤ 10000000) : Sh 1 62 (w * 65 + 3) (eCol ns) :=
  Sh.tupM (k := 63) w hl (by omega) fun n hn => Sh.int (by decide) (PB.small (by have := h n hn; omega))
/-- a drawn picture and a palette -/
theorem sh_pic {w : Int} {p : List (List (List Int))} (h : PicD w p) (hw : w ≤ 5) : Sh 3 62 90000 (ePic p) := by
  obtain ⟨h1, h2, n, h3, h4, h5⟩ := h
  refine (Sh.lstM (k := 16 * (5 * 65 + 3 + 2) + 3) 16 h2 (by decide) fun r hr => Sh.lstM (k := 5 * 65 + 3) 16 (by have := (h5 r hr).1; omega) (by decide) fun c hc => ?_).mono (Nat.le_refl _) (by decide)
  have := (h5 r hr).2 c hc
  exact Sh.col (by have := this.1; omega) (by decide) fun n hn => by have := this.2 n hn; omega
theorem sh_pal {w : Int} {cs : List (List Int)} (h : ∀ ns ∈ cs, Col w ns) (hl : cs.length ≤ 60) (hw : w ≤ 5) : Sh 2 62 20000 (.lst (cs.map eCol)) := by
  refine (Sh.lstM (k := 5 * 65 + 3) 60 hl (by decide) fun c hc => ?_).mono (Nat.le_refl _) (by decide)
  exact Sh.col (by have := (h c hc).1; omega) (by decide) fun n hn => by have := (h c hc).2 n hn; omega
theorem strNe (x : Str) : (x != x) = false := by simp
theorem strEq (x : Str) : (x == x) = true := by simp
end DL
/-! ### objects of the text's own classes -/
namespace DL
open PySem PySem.Spec L2
/-- a class: where it stands, its attributes in the order in which they are stored -/
structure OC where
  C : Addr
  as : List Str
/-- an object with its first attributes -/
def oD (T : OC) (ds : List D) : D := .obj T.C (T.as.take ds.length) ds
/-- what of the text a class must have -/
structure ClsK (K : PySem.W.Frag) (T : OC) : Prop where
  cl : Cls K T.C
  na : ∀ f ∈ T.as, NoAttr K T.C f
  nd : T.as.Nodup
  sz : T.as.length ≤ 100
theorem oD_inj {T : OC} {ds es : List D} (h : oD T ds = oD T es) : ds = es := by injection h
theorem noL_oD {T : OC} {ds : List D} : noL (oD T ds) = false := id rfl
theorem nsD_oD {T : OC} {ds : List D} : nsD (oD T ds) = nsDs ds := id rfl
theorem ng_oD {T : OC} {ds : List D} : (oD T ds ≠ .gen) = True := propext ⟨fun _ => trivial, fun _ => nofun⟩
theorem zip_lookup : ∀ {ns : List Str} {us : List V} {j : Nat} {f : Str}, ns.Nodup → ns[j]? = some f → ns.length = us.length → (ns.zip us).lookup f = us[j]?
  | [], _, _, _, _, h, _ => by simp at h
  | n :: ns, [], _, _, _, _, h => by cases h
  | n :: ns, u :: us, 0, f, _, h, _ => by
    cases h
    show List.lookup n ((n, u) :: ns.zip us) = some u
    simp [List.lookup]
  | n :: ns, u :: us, j + 1, f, nd, h, hl => by
    have hn := List.nodup_cons.mp nd
    have hm : f ∈ ns := List.mem_of_getElem? h
    show List.lookup f ((n, u) :: ns.zip us) = us[j]?
    have : (f == n) = false := by
      rw [beq_eq_false_iff_ne]
      exact fun e => hn.1 (e ▸ hm)
    rw [List.lookup, this]
    exact zip_lookup (j := j) hn.2 h (Nat.succ.inj hl)
theorem zip_lookup_no : ∀ {ns : List Str} {us : List V} {m : Str}, m ∉ ns → (ns.zip us).lookup m = none
  | [], _, _, _ => rfl
  | n :: ns, [], _, _ => rfl
  | n :: ns, u :: us, m, h => by
    show List.lookup m ((n, u) :: ns.zip us) = none
    have : (m == n) = false := by
      rw [beq_eq_false_iff_ne]
      exact fun e => h (e ▸ List.mem_cons_self)
    rw [List.lookup, this]
    exact zip_lookup_no fun z => h (List.mem_cons_of_mem _ z)
theorem putF_yes {n f : Str} {u y : V} {r : List (Str × V)} (h : n = f) : putF f y ((n, u) :: r) = (n, y) :: r := if_pos h
theorem putF_no {n f : Str} {u y : V} {r : List (Str × V)} (h : n ≠ f) : putF f y ((n, u) :: r) = (n, u) :: putF f y r := if_neg h
theorem putF_set : ∀ {ns : List Str} {us : List V} {j : Nat} {f : Str} {y : V}, ns.Nodup → ns[j]? = some f → ns.length = us.length → putF f y (ns.zip us) = ns.zip (us.set j y)
  | [], _, _, _, _, _, h, _ => by simp at h
  | n :: ns, [], _, _, _, _, _, h => by cases h
  | n :: ns, u :: us, 0, f, y, _, h, _ => by
    cases h
    exact putF_yes rfl
  | n :: ns, u :: us, j + 1, f, y, nd, h, hl => by
    have hn := List.nodup_cons.mp nd
    have hm : f ∈ ns := List.mem_of_getElem? h
    have e := putF_no (u := u) (y := y) (r := ns.zip us) (show n ≠ f from fun e => hn.1 (by rw [e]; exact hm))
    rw [putF_set (j := j) hn.2 h (Nat.succ.inj hl)] at e
    exact e
theorem putF_new : ∀ {ns : List Str} {us : List V} {f : Str} {y : V}, f ∉ ns → ns.length = us.length → putF f y (ns.zip us) = (ns ++ [f]).zip (us ++ [y])
  | [], [], _, _, _, _ => rfl
  | [], _ :: _, _, _, _, h => by cases h
  | n :: ns, [], _, _, _, h => by cases h
  | n :: ns, u :: us, f, y, h, hl => by
    have e := putF_no (u := u) (y := y) (r := ns.zip us) (show n ≠ f from fun e => h (by rw [e]; exact List.mem_cons_self))
    rw [putF_new (fun z => h (List.mem_cons_of_mem _ z)) (Nat.succ.inj hl)] at e
    exact e
section
variable {K : PySem.W.Frag} {B : Bx} {Γ : GE} {σ σ' : L2.St} {Hs H H' : Hp} {c c' : Nat} {fp : List Addr} {k : Kd} {d e : D} {v u : V} {ds : List D} {vs : List V} {sk : SK} {i : Nat} {T : OC}
theorem RpG.oD {F G : Addr → Prop} (r : RpG K F G H (DL.oD T ds) v fp) : ∃ a dx us f, v = .ref a ∧ H a = some (.ins T.C dx ((T.as.take ds.length).zip us)) ∧ H dx = some (.own a) ∧ fp = a :: dx :: f ∧ (T.as.take ds.length).length = us.length ∧ us.length = ds.length ∧ Rps K F H ds us f := by
  obtain ⟨a, dx, us, f, h1, h2, h3, h4, h5, h6⟩ := RpG.obj (C := T.C) (ns := T.as.take ds.length) r
  exact ⟨a, dx, us, f, h1, h2, h3, h4, h5, h6.length, h6⟩
/-! o.f -/
/-- what is read of an attribute: a shared thing as such -/
def fldQ (e : D) (k : Kd) (P : D → Kd → Prop) : Prop := match e with
  | .shr e' => P e' .S
  | e => P e k
def dFld (T : OC) (j : Nat) : D → Kd → (D → Kd → Prop) → Prop := fun d k P => ∃ ds e, d = DL.oD T ds ∧ ds[j]? = some e ∧ fldQ e k P
def rFldV (K : PySem.W.Frag) (f : Str) : V → Hp → VK → Prop := fun x H Q => ∃ a C dx fs v, x = .ref a ∧ H a = some (.ins C dx fs) ∧ Cls K C ∧ NoAttr K C f ∧ fs.lookup f = some v ∧ Q v H
theorem take_get {α : Type} {xs : List α} {n j : Nat} {x : α} (h : xs[j]? = some x) (hj : j < n) : (xs.take n)[j]? = some x := by
  rw [List.getElem?_take_of_lt hj]; exact h
theorem v_fld {j : Nat} {f : Str} (X : ClsK K T) (hf : T.as[j]? = some f) : V1 K (rFldV K f) (dFld T j) := by
  intro B Hs H c x dx kx fp Qd Q A ar h g
  obtain ⟨ds, e, rfl, he, q⟩ := h
  obtain ⟨x', vr, f1, g1, e1, rfl, r, ng, ko, _, t⟩ := ar.inv
  cases e1
  obtain ⟨a, dx', us, f0, rfl, ea, ed, rfl, hl, hu, rs⟩ := r.oD
  obtain ⟨w, f2, hw, rw_, sub⟩ := rs.get he
  have hj : j < ds.length := (List.getElem?_eq_some_iff.mp he).1
  have lk : ((T.as.take ds.length).zip us).lookup f = some w := by
    rw [zip_lookup (X.nd.sublist (List.take_sublist _ _)) (take_get hf hj) hl]; exact hw
  refine ⟨a, T.C, dx', _, w, rfl, ea, X.cl, X.na f (List.mem_of_getElem? hf), lk, ?_⟩
  unfold fldQ at q
  split at q
  · rw [Rp] at rw_
    obtain ⟨_, f3, r3, h3⟩ := rw_
    exact g w H _ .S (Same.refl _) ⟨A.ext, A.gens, f3, .inl r3, fun a ha => by
      obtain ⟨Γ0, σ0, c0, E0⟩ := A.env
      exact E0.fg a (h3 a ha), fun a ha => .inl (h3 a ha)⟩ q
  · exact g w H _ kx (Same.refl _) ⟨A.ext, A.gens, f2, .inl rw_, fun a ha => ng a (List.mem_cons_of_mem _ (List.mem_cons_of_mem _ (sub.subset ha))), ko.sub ((sub.cons _).cons _)⟩ q
theorem ed_fld {te : TE} {re : RE} {j : Nat} {f : Str} (X : ClsK K T) (hf : T.as[j]? = some f) (he : ED K te re) : ED K (tFld K te f) (rUn (dFld T j) re) := ed_un (v_fld X hf) he
theorem u_fld {j : Nat} {P : D → Kd → Prop} : dFld T j (DL.oD T ds) k P = ∃ e, ds[j]? = some e ∧ fldQ e k P := propext ⟨fun ⟨es, e, h1, h2⟩ => by rw [oD_inj h1]; exact ⟨e, h2⟩, fun ⟨e, h⟩ => ⟨ds, e, rfl, h⟩⟩
/-! o.f as a place -/
def rpFld (T : OC) (j : Nat) (rp : RP) : RP := fun Γ c Q => rp Γ c fun d put sk c1 => ∃ ds e, d = DL.oD T ds ∧ ds[j]? = some e ∧ Q e (fun x => put (DL.oD T (ds.set j x))) sk c1
theorem pd_fld {t : TE} {rp : RP} {j : Nat} {f : Str} (X : ClsK K T) (hf : T.as[j]? = some f) (hp : PD K i t rp) : PD K i (tFld K t f) (rpFld T j rp) := by
  intro B Γ c σ H Qd Q E h g
  refine hp B Γ c σ H _ _ E h fun u H1 d put sk c1 e1 g1 p1 q => ?_
  obtain ⟨ds, e, rfl, he, q⟩ := q
  have E1 := E.ext e1 g1
  obtain ⟨g0, rg, _⟩ := p1.rp E1
  obtain ⟨a, dx', us, f0, rfl, ea, ed, rfl, hl, hu, rs⟩ := (show RpG K B.F B.G H1 (DL.oD T ds) u g0 from .inl rg).oD
  obtain ⟨w, f2, hw, rw_, sub⟩ := rs.get he
  have hj : j < ds.length := (List.getElem?_eq_some_iff.mp he).1
  have lk : ((T.as.take ds.length).zip us).lookup f = some w := by
    rw [zip_lookup (X.nd.sublist (List.take_sublist _ _)) (take_get hf hj) hl]; exact hw
  refine ⟨a, T.C, dx', _, w, rfl, ea, X.cl, X.na f (List.mem_of_getElem? hf), lk, ?_⟩
  refine g w H1 e _ sk c1 e1 g1 (p1.kid E1 ⟨a, rfl, .inr (.inr (.inr (.inl ⟨T.C, dx', _, ea, by rw [zip_snd hl]; exact hw⟩)))⟩ (by show (ds[j]?).bind _ = _; rw [he]; exact by cases e <;> rfl)) ?_
  have ep : (fun x => put (putD (DL.oD T ds) [j] x)) = fun x => put (DL.oD T (ds.set j x)) := by
    funext x
    show put (.obj T.C (T.as.take ds.length) (ds.set j (putD (ds.getD j .non) [] x))) = put (.obj T.C (T.as.take (ds.set j x).length) (ds.set j x))
    have : putD (ds.getD j .non) [] x = x := by cases (ds.getD j .non) <;> rfl
    rw [this, List.length_set]
  rw [ep]; exact q
end
end DL
/-! ### methods that only read, and objects made -/
namespace DL
open PySem PySem.Spec L2
section
variable {X : Cx} {Cx : CXT} {n : Nat} {f C : Addr} {fd : FuncData} {ps : List Str} {sp : Sp} {E : XK}
/-- o.m(e, ..) -/
theorem pe_methG {m : Str} {o e : Expr} {es : List Expr} {pos apos : Pos} {ta : TE} {t : TA} {pl : Sem Bool} (he : PE X o ta) (cl : Cls X.K C) (hm : Meth X.K C m f) (T : FnG X.prog X.w X.K X.mg X.base Cx n f fd ps sp) (hr : RoomG n X.A) (hb : Binds X.K fd ps []) (hx : Passes Cx X E) (ha : PA X (e :: es) t)
    (d1 : starEach (e :: es) X.env = (false, eval e X.env) :: starEach es X.env := by rfl) (d2 : (backTo pos (starEach es X.env)).any (·.1) = false := by rfl)
    (ht : eval (.Call (.Attribute o m apos) (e :: es) [] pos) X.env = (do
      let ov ← eval o X.env
      standAt apos.atName
      let (f, first) ← holding [ov] (getMethod ov m pl)
      callWith pos f first (backTo pos (starEach (e :: es) X.env)) (backToKw pos (keywordEach [] X.env))) := by rfl) :
    PE X (.Call (.Attribute o m apos) (e :: es) [] pos) (tMeth C m sp [] E ta t) := by
  constructor
  intro pins s σ H Q I h
  refine PySem.W.methodCall_KW (pl := pl) (thn (he.run pins s σ H _ I h) ?_) ht
  rintro u s1 ⟨x, H1, I1, rx, a, dx, fs, rfl, ea, l, q⟩
  have rx : u = Value.ref a := rx
  subst rx
  refine getmeth_ok I1 ea cl hm l (PySem.W.callWith_K (first := [.ref a]) (h₀ := X.base) I.ok.mod.kin hm.kp (thn (ha.run pos pins s1 σ H1 _ I1 q) ?_) d1 d2)
  rintro us s2 ⟨vs, H2, I2, r, q2⟩
  rw [List.append_nil] at q2
  exact ⟨I2.kIn, T.go (us := .ref a :: us) (vs := .ref a :: vs) hr hb hx I2 (.cons rfl r) q2⟩
/-- o.m() -/
theorem pe_methG0 {m : Str} {o : Expr} {pos apos : Pos} {ta : TE} {pl : Sem Bool} (he : PE X o ta) (cl : Cls X.K C) (hm : Meth X.K C m f) (T : FnG X.prog X.w X.K X.mg X.base Cx n f fd ps sp) (hr : RoomG n X.A) (hb : Binds X.K fd ps []) (hx : Passes Cx X E)
    (ht : eval (.Call (.Attribute o m apos) [] [] pos) X.env = (do
      let ov ← eval o X.env
      standAt apos.atName
      let (f, first) ← holding [ov] (getMethod ov m pl)
      callWith pos f first (backTo pos (starEach [] X.env)) (backToKw pos (keywordEach [] X.env))) := by rfl) :
    PE X (.Call (.Attribute o m apos) [] [] pos) (tMeth C m sp [] E ta tNil) := by
  constructor
  intro pins s σ H Q I h
  refine PySem.W.methodCall_KW (pl := pl) (thn (he.run pins s σ H _ I h) ?_) ht
  rintro u s1 ⟨x, H1, I1, rx, a, dx, fs, rfl, ea, l, q⟩
  have rx : u = Value.ref a := rx
  subst rx
  exact getmeth_ok I1 ea cl hm l (PySem.W.callWith_K0 (first := [.ref a]) I1.kIn hm.kp (T.go (us := [.ref a]) (vs := [.ref a]) hr hb hx I1 (.cons rfl .nil) q))
theorem make_guards {A : Around} {C : Addr} {us : List Value} {kw : List (Str × Value)} (h : A.guards = some []) : (A.under (.builtin "type.__call__" ⟨.ref C :: us, kw⟩)).guards = some [] := by
  simp [Around.under, Code.guards, Code.isGuard, guardIds, pushGuards, h]
theorem RoomG.make {k : Nat} {A : Around} (r : RoomG (k + 1) A) (C : Addr) (us : List Value) (kw : List (Str × Value)) : RoomG k (A.under (.builtin "type.__call__" ⟨.ref C :: us, kw⟩)) := ⟨r.toRoom.make C us kw, make_guards r.gd⟩
/-- the new instance is laid, __init__ runs -/
theorem FnG.made {pins : List (Addr × Obj)} {σ : L2.St} {H : Hp} {s : Shared} {Q : VK} {us : List Value} {vs : List V} (M : Mk X.K C f) (T : FnG X.prog X.w X.K X.mg X.base Cx n f fd ps sp) (hr : RoomG (n + 1) X.A) (hb : Binds X.K fd ps []) (hx : Passes Cx X E) (I : Inv X pins σ H s) (r : Vals vs us)
    (h : ∀ x dx, H x = none → H dx = none → dx ≠ x → sp (.ref x :: (vs ++ [])) (upd (upd H dx (.own x)) x (.ins C dx [])) (fun v H2 => v = .non ∧ Q (.ref x) H2) E) : wpAny (model X.prog X.w) X.A (call (.ref C) us) (EP X pins σ Q) X.xe s := by
  have I2 := Inv.made (C := C) I
  have q := h (s.heap.objs.size + 1) s.heap.objs.size (I.hok.fresh (Nat.le_succ _)) (I.hok.fresh (Nat.le_refl _)) (Nat.ne_of_lt (Nat.lt_succ_self _))
  rw [List.append_nil] at q
  have rr : Vals (V.ref (s.heap.objs.size + 1) :: vs) (Value.ref (s.heap.objs.size + 1) :: us) := .cons rfl r
  have le : ((Value.ref (s.heap.objs.size + 1) :: us) ++ []).length = ps.length := by
    rw [List.append_nil, ← rr.length]
    exact T.len _ _ _ _ q
  have bd := hb _ (Value.ref (s.heap.objs.size + 1) :: us) I2.kIn le
  rw [List.append_nil] at bd
  refine wpAny_call (make_map (f := f) I.kIn M.makes M.init (beq_iff_eq.mp M.fn) (codeAny_mono (T.run _ X.stack _ _ ⟨Value.ref (s.heap.objs.size + 1) :: us, []⟩ _ _ _ E (hr.make C us []) (I2.env0.make C us []) bd rr q) ?_))
  intro out t z
  match out, z with
  | .error e, z => exact hx pins σ _ _ e t I2 z
  | .ok (.ret u), z =>
    obtain ⟨v, H', I3, rv, ev, q3⟩ := I2.after z
    subst ev
    exact ⟨rv, ⟨V.ref (s.heap.objs.size + 1), H', I3, rfl, q3⟩⟩
  | .ok .next, z => exact z.elim
  | .ok .brk, z => exact z.elim
  | .ok .cont, z => exact z.elim
theorem pe_makeG {x : Str} {p pos : Pos} {e : Expr} {es : List Expr} {t : TA} (M : Mk X.K C f) (T : FnG X.prog X.w X.K X.mg X.base Cx n f fd ps sp) (hr : RoomG (n + 1) X.A) (hg : Gl X x) (hm : X.mg x = some (.ref C)) (hb : Binds X.K fd ps []) (hx : Passes Cx X E) (ha : PA X (e :: es) t)
    (d0 : (x == ("__debug__" : Str)) = false := by decide) (d1 : starEach (e :: es) X.env = (false, eval e X.env) :: starEach es X.env := by rfl) (d2 : (backTo pos (starEach es X.env)).any (·.1) = false := by rfl) :
    PE X (.Call (.Name x p) (e :: es) [] pos) (tMake C sp [] E t) := by
  constructor
  intro pins s σ H Q I h
  apply wpAny_Call_Name_kw
  apply ld_glob I hg hm (hd := d0)
  refine PySem.W.callWith_K (h₀ := X.base) I.ok.mod.kin M.kp (thn (ha.run pos pins s σ H _ I h) ?_) d1 d2
  rintro us t ⟨vs, H1, I1, hv, q⟩
  exact ⟨I1.kIn, T.made M hr hb hx I1 hv q⟩
theorem pe_makeG0 {x : Str} {p pos : Pos} (M : Mk X.K C f) (T : FnG X.prog X.w X.K X.mg X.base Cx n f fd ps sp) (hr : RoomG (n + 1) X.A) (hg : Gl X x) (hm : X.mg x = some (.ref C)) (hb : Binds X.K fd ps []) (hx : Passes Cx X E) (d0 : (x == ("__debug__" : Str)) = false := by decide) :
    PE X (.Call (.Name x p) [] [] pos) (tMake C sp [] E tNil) := by
  constructor
  intro pins s σ H Q I h
  apply wpAny_Call_Name_kw
  apply ld_glob I hg hm (hd := d0)
  exact PySem.W.callWith_K0 I.kIn M.kp (T.made (us := []) (vs := []) M hr hb hx I .nil h)
end
section
variable {K : PySem.W.Frag} {B : Bx} {Γ : GE} {σ σ' : L2.St} {Hs H H' : Hp} {c c' : Nat} {fp : List Addr} {k : Kd} {d e : D} {v u : V} {ds : List D} {vs : List V} {sk : SK} {i : Nat} {T : OC}
/-- o.m(..), m only reads -/
def rMeth {α : Type} (T : OC) (S : FS α) (re : RE) (ra : RA) : RE := fun Γ c Q => re Γ c fun d k c1 => (∃ ds, d = oD T ds) ∧ ra Γ c1 fun dks c2 => ∃ a, S.args a = d :: dks.map (·.1) ∧ S.pre a c2 ∧ ∀ d' c', S.res a c2 d' c' → Q d' (.R []) c'
theorem oD_at {F G : Addr → Prop} (r : RpG K F G H (oD T ds) v fp) {m : Str} (hm : m ∉ T.as) : ∃ a dx fs, v = .ref a ∧ H a = some (.ins T.C dx fs) ∧ fs.lookup m = none := by
  obtain ⟨a, dx, us, f, rfl, ea, _, _, hl, _, _⟩ := r.oD
  exact ⟨a, dx, _, rfl, ea, zip_lookup_no fun z => hm (List.mem_of_mem_take z)⟩
theorem ed_meth {α : Type} {S : FS α} {m : Str} {te : TE} {re : RE} {ta : TA} {ra : RA} {E' : XK} (hm : m ∉ T.as) (he : ED K te re) (ha : AD K ta ra) : ED K (tMeth T.C m (SpF K S) [] E' te ta) (rMeth T S re ra) := by
  intro B Γ c σ H Qd Q E h f
  refine he B Γ c σ H _ _ E h fun v H1 d k c1 x q => ?_
  obtain ⟨⟨ds, rfl⟩, q⟩ := q
  have E1 := E.ext x.ext x.gens
  obtain ⟨fp, r, n, ok⟩ := x.rp
  obtain ⟨a0, dx, fs, rfl, ea, lk⟩ := oD_at r hm
  refine ⟨a0, dx, fs, rfl, ea, lk, ?_⟩
  refine ha B Γ c1 σ H1 _ _ E1 q fun vs H2 dks c2 fr e2 g2 ar q2 => ?_
  obtain ⟨a, es, hp, q2⟩ := q2
  rw [List.append_nil]
  have E2 := E1.ext e2 g2
  have r2 := r.ext x.gens.lsts E.fg e2 n
  refine ⟨a, c2, B.F, B.G, fp ++ fr, hp, g2, by rw [es]; exact .cons r2 ar.rpsG, fun y hy => (List.mem_append.mp hy).elim (n y) (ar.ng y), fun y hy => ⟨E2.fl y hy, E.fg y hy⟩, fun v' H3 d' c3 fp' hr e3 g3 rp nd nw ns => ?_⟩
  refine f v' H3 d' (.R []) c3 ⟨(x.ext.trans e2).trans e3, g3, fp', .inl (rp.monoF fun _ h => h.elim), fun y hy z => ?_, nd, fun y hy => .inl (new_back E (x.ext.trans e2) g2.lsts (nw y hy))⟩ (q2 d' c3 hr)
  obtain ⟨o, ex, _⟩ := g2.lsts y z
  rw [nw y hy] at ex; cases ex
theorem ed_meth0 {α : Type} {S : FS α} {m : Str} {te : TE} {re : RE} {E' : XK} (hm : m ∉ T.as) (he : ED K te re) : ED K (tMeth T.C m (SpF K S) [] E' te tNil) (rMeth T S re rNil) := ed_meth hm he ad_nil
/-- .. that tells a shared thing -/
def rMethS {α : Type} (T : OC) (S : FS α) (re : RE) (ra : RA) : RE := fun Γ c Q => re Γ c fun d k c1 => (∃ ds, d = oD T ds) ∧ stK0 k = true ∧ ra Γ c1 fun dks c2 => shOk dks = true ∧ ∃ a, S.args a = d :: dks.map (·.1) ∧ S.pre a c2 ∧ ∀ d' c', S.res a c2 d' c' → Q d' (if noL d' then .R [] else .S) c'
theorem KOk.sh (ok : KOk B H fp k) (h : stK0 k = true) : ∀ a ∈ fp, B.F a ∨ H a = none := fun a ha => by
  cases k with
  | R is =>
    cases is with
    | nil => exact .inr ((ok.2 a ha).elim id fun ⟨_, z, _⟩ => nomatch z)
    | cons _ _ => cases h
  | S => exact ok a ha
  | B => cases h
theorem ed_methS {α : Type} {S : FS α} {m : Str} {te : TE} {re : RE} {ta : TA} {ra : RA} {E' : XK} (hm : m ∉ T.as) (he : ED K te re) (ha : AD K ta ra) : ED K (tMeth T.C m (SpS K S) [] E' te ta) (rMethS T S re ra) := by
  intro B Γ c σ H Qd Q E h f
  refine he B Γ c σ H _ _ E h fun v H1 d k c1 x q => ?_
  obtain ⟨⟨ds, rfl⟩, sk, q⟩ := q
  have E1 := E.ext x.ext x.gens
  obtain ⟨fp, r, n, ok⟩ := x.rp
  obtain ⟨a0, dx, fs, rfl, ea, lk⟩ := oD_at r hm
  refine ⟨a0, dx, fs, rfl, ea, lk, ?_⟩
  refine ha B Γ c1 σ H1 _ _ E1 q fun vs H2 dks c2 fr e2 g2 ar q2 => ?_
  obtain ⟨sh, a, es, hp, q2⟩ := q2
  rw [List.append_nil]
  have E2 := E1.ext e2 g2
  have r2 := r.ext x.gens.lsts E.fg e2 n
  refine ⟨a, c2, B.F, B.G, fp ++ fr, hp, g2, by rw [es]; exact .cons r2 ar.rpsG, fun y hy => (List.mem_append.mp hy).elim (n y) (ar.ng y), fun y hy => ⟨E2.fl y hy, E.fg y hy⟩, fun v' H3 d' c3 fp' hr e3 g3 rp nw ng ns => ?_⟩
  have key : ∀ y ∈ fp', B.F y ∨ H y = none := fun y hy => by
    rcases nw y hy with (z | z) | z
    · exact .inl z
    · rcases List.mem_append.mp z with z | z
      · exact ok.sh sk y z
      · exact (ar.sh sh y z).imp id (new_back E x.ext x.gens.lsts)
    · exact .inr (new_back E (x.ext.trans e2) g2.lsts z)
  refine f v' H3 d' _ c3 ⟨(x.ext.trans e2).trans e3, g3, fp', .inl (rp.monoF fun _ h => h.elim), ng, ?_⟩ (q2 d' c3 hr)
  cases e : noL d' with
  | true =>
    have e0 := rp.nol e
    subst e0
    rw [if_pos rfl]
    exact ⟨List.nodup_nil, fun _ h => nomatch h⟩
  | false =>
    rw [if_neg Bool.false_ne_true]
    exact key
/-! ### objects made -/
/-- what __init__ promises: args: what is handed in behind self; res: the object's attributes -/
structure FI (α : Type) where
  ks : List SK
  args : α → List D
  pre : α → Nat → Prop
  res : α → Nat → List D → Nat → Prop
  hl : ∀ a, (args a).length = ks.length := by intros; rfl
def SpI {α : Type} (K : PySem.W.Frag) (T : OC) (S : FI α) : Sp := fun vs H Q _ => ∃ (a : α) (c : Nat) (F G : Addr → Prop) (fp : List Addr) (x dx : Addr) (vr : List V), vs = .ref x :: vr ∧ dx ≠ x ∧ H x = some (.ins T.C dx []) ∧ H dx = some (.own x) ∧ S.pre a c ∧ GensOk G H c ∧ RpsG K F G H (S.args a) vr fp ∧
  (∀ y ∈ fp, ¬ G y ∧ y ≠ x ∧ y ≠ dx) ∧ (¬ G x ∧ ¬ G dx) ∧ (∀ y, F y → (∃ o, H y = some o) ∧ ¬ G y ∧ y ≠ x ∧ y ≠ dx) ∧
  ∀ H' ds c' fp', S.res a c ds c' → Ext (fun y => G y ∨ y = x ∨ y = dx) H H' → GensOk G H' c' → Rp K (fun _ => False) H' (oD T ds) (.ref x) fp' → (∀ y ∈ fp', (F y ∨ y ∈ fp) ∨ y = x ∨ y = dx ∨ H y = none) → (∀ y ∈ fp', ¬ G y) → nsDs ds = true → Q .non H'
/-- C(..), the object shared from here on -/
def rMake {α : Type} (T : OC) (S : FI α) (ra : RA) : RE := fun Γ c Q => ra Γ c fun dks c1 => shOk dks = true ∧ ∃ a, S.args a = dks.map (·.1) ∧ S.pre a c1 ∧ ∀ ds c', S.res a c1 ds c' → Q (oD T ds) .S c'
theorem ed_make {α : Type} {S : FI α} {ta : TA} {ra : RA} {E' : XK} (ha : AD K ta ra) : ED K (tMake T.C (SpI K T S) [] E' ta) (rMake T S ra) := by
  intro B Γ c σ H Qd Q E h f
  refine ha B Γ c σ H _ _ E h fun vs H1 dks c1 fp e g ar q => ?_
  obtain ⟨sh, a, ea, hp, q⟩ := q
  intro x dx nx ndx ne
  rw [List.append_nil]
  have E1 := E.ext e g
  have s1 : Same H1 (upd (upd H1 dx (.own x)) x (.ins T.C dx [])) := fun b o z => by
    rw [upd_ne (ne_of_none z nx), upd_ne (ne_of_none z ndx)]; exact z
  have not : ∀ {y : Addr}, (∃ o, H1 y = some o) → y ≠ x ∧ y ≠ dx := fun {y} ⟨o, z⟩ => ⟨ne_of_none z nx, ne_of_none z ndx⟩
  have gat : ∀ {y : Addr}, B.G y → ∃ o, H1 y = some o := fun {y} z => let ⟨o, w, _⟩ := g.lsts y z; ⟨o, w⟩
  refine ⟨a, c1, B.F, B.G, fp, x, dx, vs, rfl, ne, upd_same, by rw [upd_ne ne]; exact upd_same, hp, g.same s1, by rw [ea]; exact (ar.ext g.lsts E.fg (Ext.same s1)).rpsG, fun y hy => ⟨ar.ng y hy, not (let ⟨o, z, _⟩ := ar.rpsG.at y hy; ⟨o, z⟩)⟩, ⟨fun z => (not (gat z)).1 rfl, fun z => (not (gat z)).2 rfl⟩, fun y hy => ⟨let ⟨o, z⟩ := E1.fl y hy; ⟨o, s1 _ _ z⟩, E.fg y hy, not (E1.fl y hy)⟩, fun H2 ds c2 fp' hr e2 g2 rp nw ng ns => ⟨rfl, ?_⟩⟩
  have e3 : Ext B.G H H2 := fun b o z ng => by
    have z1 := e b o z ng
    exact e2 b o (s1 b o z1) fun w => w.elim ng fun w => w.elim (fun w => (not ⟨o, z1⟩).1 w) fun w => (not ⟨o, z1⟩).2 w
  refine f _ H2 _ .S c2 ⟨e3, g2, fp', .inl (rp.monoF fun _ h => h.elim), ng, fun y hy => ?_⟩ (q ds c2 hr)
  have nb : ∀ {y : Addr}, H1 y = none → H y = none := fun z => new_back E e g.lsts z
  rcases nw y hy with (z | z) | z | z | z
  · exact .inl z
  · exact ar.sh sh y z
  · exact .inr (nb (z ▸ nx))
  · exact .inr (nb (z ▸ ndx))
  · refine .inr (nb ?_)
    cases w : H1 y with
    | none => rfl
    | some o => rw [s1 y o w] at z; cases z
end
end DL
/-! ### o.f = e, and what __init__ promises -/
namespace DL
open PySem PySem.Spec L2
/-- the kind in which a value goes into an own thing; shared ones as such -/
def IntoF (Γ : GE) (i : Nat) (e : D) (k : Kd) (P : GE → D → Prop) : Prop := if noL e = true then P Γ e else match k with
  | .R is => i ∉ is ∧ P (kills is Γ) e
  | .S => P Γ (.shr e)
  | .B => False
def rSetF (T : OC) (j : Nat) (rp : RP) (i : Nat) (re : RE) : RS := fun Dd Γ c => re Γ c fun e k c1 => rp Γ c1 fun d put sk c2 => e ≠ .gen ∧ ∃ ds, d = oD T ds ∧ j ≤ ds.length ∧
  IntoF Γ i e k fun Γ' e' => Dd.nx (gset Γ' i (some ⟨sk, put (oD T (if j < ds.length then ds.set j e' else ds ++ [e']))⟩)) c2
section
variable {K : PySem.W.Frag} {B : Bx} {Γ : GE} {σ σ' : L2.St} {Hs H H' : Hp} {c c' : Nat} {fp : List Addr} {k : Kd} {d e : D} {v u : V} {ds : List D} {vs : List V} {sk : SK} {i : Nat} {T : OC}
/-- the object at a place, its attributes changed -/
theorem Plc.obj {put : D → D} (E : Env K B Γ c σ H) (p : Plc B Γ σ H i u (oD T ds) put sk) : ∃ a dx us f, u = .ref a ∧ H a = some (.ins T.C dx ((T.as.take ds.length).zip us)) ∧ (T.as.take ds.length).length = us.length ∧ us.length = ds.length ∧ Rps K B.F H ds us f ∧ (a :: dx :: f).Nodup ∧ (∀ x ∈ f, B.O i x) ∧
    ∀ (ds' : List D) (us' : List V) (f' fe : List Addr) (is : List Nat), Inc B H i is fe → (∀ x ∈ fe, ∃ o, H x = some o) → Rps K B.F H ds' us' f' → f'.Nodup → (∀ x ∈ f', x ∈ f ∨ x ∈ fe) → (T.as.take ds'.length).length = us'.length →
    ∃ B', Like B B' ∧ Env K B' (gset (kills is Γ) i (some ⟨sk, put (oD T ds')⟩)) c σ (upd H a (.ins T.C dx ((T.as.take ds'.length).zip us'))) := by
  obtain ⟨g, rg, nd, og, mk⟩ := p.rp E
  obtain ⟨a, dx, us, f, rfl, ea, ed, rfl, hl, hu, rs⟩ := (show RpG K B.F B.G H (oD T ds) u g from .inl rg).oD
  have nd' := List.nodup_cons.mp nd
  have nd2 := List.nodup_cons.mp nd'.2
  have oa := og a List.mem_cons_self
  have od := og dx (List.mem_cons_of_mem _ List.mem_cons_self)
  have of : ∀ x ∈ f, B.O i x := fun x hx => og x (List.mem_cons_of_mem _ (List.mem_cons_of_mem _ hx))
  refine ⟨a, dx, us, f, rfl, ea, hl, hu, rs, nd, of, fun ds' us' f' fe is inc fat rs' ndf sub hl' => ?_⟩
  have at' : ∀ {x : Addr}, (∃ o, H x = some o) → ∃ o, upd H a (.ins T.C dx ((T.as.take ds'.length).zip us')) x = some o := fun {x} ⟨o, e⟩ => by
    by_cases z : x = a
    · subst z; exact ⟨_, upd_same⟩
    · exact ⟨o, by rw [upd_ne z]; exact e⟩
  have nax : dx ≠ a := fun z => nd'.1 (z ▸ List.mem_cons_self)
  have na : ∀ x ∈ f', x ≠ a ∧ x ≠ dx := fun x hx => by
    rcases sub x hx with w | w
    · exact ⟨fun z => nd'.1 (List.mem_cons_of_mem _ (z ▸ w)), fun z => nd2.1 (z ▸ w)⟩
    · exact ⟨fun z => inc.no x w (z ▸ oa), fun z => inc.no x w (z ▸ od)⟩
  have lD : Lsts (fun b => b = a) H := fun x z => by subst z; exact ⟨_, ea, rfl⟩
  have fD : ∀ x, B.F x → ¬ x = a := fun x fx z => (E.ol i a oa).2.1 (z ▸ fx)
  obtain ⟨B', b1, b3, b4, b5⟩ := mk (upd H a (.ins T.C dx ((T.as.take ds'.length).zip us'))) (oD T ds') (a :: dx :: f') fe is inc (fun x hx => at' (fat x hx)) (fun b o e n => by
    rw [upd_ne fun z => n (by rw [z]; exact List.mem_cons_self)]; exact e) (fun x hx => at' (E.ol i x (og x hx)).1) (by
      show Rp K B.F _ (.obj T.C (T.as.take ds'.length) ds') (.ref a) _
      rw [Rp]
      exact ⟨a, dx, us', f', rfl, upd_same, by rw [upd_ne nax]; exact ed, rfl, hl', rs'.ext lD fD ext_upd fun x hx => (na x hx).1⟩)
      (List.nodup_cons.mpr ⟨fun z => (List.mem_cons.mp z).elim (fun z => nax z.symm) fun z => (na a z).1 rfl, List.nodup_cons.mpr ⟨fun z => (na dx z).2 rfl, ndf⟩⟩)
      (fun x hx => (List.mem_cons.mp hx).elim (fun z => .inl (z ▸ List.mem_cons_self)) fun hx => (List.mem_cons.mp hx).elim (fun z => .inl (z ▸ List.mem_cons_of_mem _ List.mem_cons_self)) fun z => (sub x z).imp (fun w => List.mem_cons_of_mem _ (List.mem_cons_of_mem _ w)) id)
  exact ⟨B', b1, b3⟩
theorem IntoF.or {P : GE → D → Prop} (h : IntoF Γ i e k P) : (∃ Q : GE → Prop, IntoOk Γ i e k Q ∧ ∀ Γ', Q Γ' → P Γ' e) ∨ (k = .S ∧ P Γ (.shr e)) := by
  unfold IntoF at h
  by_cases n : noL e = true
  · rw [if_pos n] at h
    exact .inl ⟨fun Γ' => P Γ' e, by unfold IntoOk; rw [if_pos n]; exact h, fun _ z => z⟩
  · rw [if_neg n] at h
    cases k with
    | R is => exact .inl ⟨fun Γ' => P Γ' e, by unfold IntoOk; rw [if_neg n]; exact h, fun _ z => z⟩
    | S => exact .inr ⟨rfl, h⟩
    | B => exact h.elim
theorem sd_setF {t te : TE} {rp : RP} {re : RE} {j : Nat} {f : Str} (X : ClsK K T) (hf : T.as[j]? = some f) (hp : PD K i t rp) (he : ED K te re) : SD K (sFld K t te f) (rSetF T j rp i re) := by
  intro en hd Dd D L B Γ c σ H h1 h3 E q
  refine he B Γ c σ H _ _ E q fun w H1 e k c1 x q => ?_
  have E1 := E.ext x.ext x.gens
  refine hp B Γ c1 σ H1 _ _ E1 q fun u H2 d put sk c2 e2 g2 p2 q => ?_
  obtain ⟨ng, ds, rfl, hj, q⟩ := q
  have E2 := E1.ext e2 g2
  obtain ⟨fe, re, nge, ok⟩ := x.rp
  have re := re.rp ng
  have re2 : Rp K B.F H2 e w fe := re.ext x.gens.lsts E.fg e2 nge
  have jl : j < T.as.length := (List.getElem?_eq_some_iff.mp hf).1
  have fat : ∀ x ∈ fe, ∃ o, H2 x = some o := fun x hx => let ⟨o, z, _⟩ := re2.at x hx; ⟨o, z⟩
  -- the change, from any shape of what comes in
  have go : ∀ (B : Bx) (Γ : GE) (e' : DL.D) (fe' : List Addr) (is : List Nat) (P : GE → Prop), Env K B Γ c2 σ H2 → B.en = en → B.held = hd → Plc B Γ σ H2 i u (oD T ds) put sk → Rp K B.F H2 e' w fe' → Inc B H2 i is fe' → (∀ x ∈ fe', ∃ o, H2 x = some o) → Dd.nx (gset (kills is Γ) i (some ⟨sk, put (oD T (if j < ds.length then ds.set j e' else ds ++ [e']))⟩)) c2 →
      ∃ a C dx fs, u = .ref a ∧ H2 a = some (.ins C dx fs) ∧ Cls K C ∧ NoAttr K C f ∧ fs.length < 1000 ∧ D.nx σ (upd H2 a (.ins C dx (putF f w fs))) := by
    intro B Γ e' fe' is P E2 h1 h3 p2 re2 inc fat q
    obtain ⟨a, dx, us, f0, rfl, ea, hl, hu, rs, nd, of, mk⟩ := p2.obj E2
    have hz : ((T.as.take ds.length).zip us).length < 1000 := by
      rw [List.length_zip, ← hl, Nat.min_self, List.length_take]
      have := X.sz
      omega
    refine ⟨a, T.C, dx, _, rfl, ea, X.cl, X.na f (List.mem_of_getElem? hf), hz, ?_⟩
    have n1 := (List.nodup_cons.mp (List.nodup_cons.mp nd).2).2
    by_cases hlt : j < ds.length
    · rw [if_pos hlt] at q
      rw [putF_set (X.nd.sublist (List.take_sublist _ _)) (take_get hf hlt) hl]
      obtain ⟨v0, f1, f2, f3, hv0, rv0, rfl, clo⟩ := rs.get3 (List.getElem?_eq_getElem hlt)
      have rs' := clo H2 e' w fe' (fun _ _ _ _ r => r) re2
      have n1 := List.nodup_append.mp n1
      have n2 := List.nodup_append.mp n1.2.1
      obtain ⟨B', b1, b3⟩ := mk (ds.set j e') (us.set j w) (f1 ++ (fe' ++ f3)) fe' is inc fat rs'
        (List.nodup_append.mpr ⟨n1.1, List.nodup_append.mpr ⟨inc.nd, n2.2.1, fun x hx y hy z => inc.no x hx (z ▸ of y (List.mem_append_right _ (List.mem_append_right _ hy)))⟩, fun x hx y hy z => by
          subst z
          rcases List.mem_append.mp hy with hy | hy
          · exact inc.no x hy (of x (List.mem_append_left _ hx))
          · exact n1.2.2 x hx x (List.mem_append_right _ hy) rfl⟩)
        (fun x hx => by
          rcases List.mem_append.mp hx with hx | hx
          · exact .inl (List.mem_append_left _ hx)
          · rcases List.mem_append.mp hx with hx | hx
            · exact .inr hx
            · exact .inl (List.mem_append_right _ (List.mem_append_right _ hx))) (by rw [List.length_set, List.length_set]; exact hl)
      obtain ⟨w1, w3⟩ := b1.to h1 h3
      rw [List.length_set] at b3
      exact L.nx B' _ c2 σ _ w1 w3 b3 q
    · have ej : j = ds.length := by omega
      subst ej
      rw [if_neg hlt] at q
      have et : T.as.take (ds.length + 1) = T.as.take ds.length ++ [f] := by rw [List.take_add_one, hf]; rfl
      have nf : f ∉ T.as.take ds.length := fun z => by
        have n0 := X.nd.sublist (List.take_sublist (ds.length + 1) T.as)
        rw [et] at n0
        exact (List.nodup_append.mp n0).2.2 f z f List.mem_cons_self rfl
      rw [putF_new nf hl]
      obtain ⟨B', b1, b3⟩ := mk (ds ++ [e']) (us ++ [w]) (f0 ++ fe') fe' is inc fat (rs.append (Rps.one re2))
        (List.nodup_append.mpr ⟨n1, inc.nd, fun x hx y hy z => inc.no y hy (z ▸ of x hx)⟩) (fun x hx => List.mem_append.mp hx) (by
          rw [List.length_append, List.length_append]
          show (T.as.take (ds.length + 1)).length = us.length + 1
          rw [et, List.length_append, hl]; rfl)
      obtain ⟨w1, w3⟩ := b1.to h1 h3
      rw [show (ds ++ [e']).length = ds.length + 1 by rw [List.length_append]; rfl, et] at b3
      exact L.nx B' _ c2 σ _ w1 w3 b3 q
  rcases q.or with ⟨Q, q1, q2⟩ | ⟨rfl, q5⟩
  · obtain ⟨is, inc, pq⟩ := into_inc E re nge ok q1
    exact go B Γ e fe is (fun _ => True) E2 h1 h3 p2 re2 ⟨inc.ni, inc.nd, inc.ok, inc.no⟩ fat (q2 _ pq)
  · have st := KOk.st E ok nge
    have E3 := E2.moreF (F' := fun a => a ∈ fe) (fun a ha => ⟨fat a ha, (st a ha).1⟩) fun a ha => (st a ha).2
    refine go { B with F := fun a => B.F a ∨ a ∈ fe } Γ (.shr e) [] [] (fun _ => True) E3 h1 h3 ⟨p2.plc⟩ ?_ Inc.nil (fun _ h => nomatch h) q5
    rw [Rp]
    exact ⟨rfl, fe, re2.monoF fun _ => .inl, fun a ha => .inr ha⟩
/-! ### __init__ keeps its promise -/
def unS : D → D
  | .shr d => d
  | d => d
theorem rp_unS {F : Addr → Prop} : ∀ {d : D} {v : V} {fp : List Addr}, Rp K F H d v fp → nsD (unS d) = true → ∃ f', Rp K (fun _ => False) H (unS d) v f' ∧ ∀ y ∈ f', y ∈ fp ∨ F y := fun {d v fp} r n => by
  cases d with
  | shr d =>
    rw [Rp] at r
    obtain ⟨rfl, g, r, hg⟩ := r
    exact ⟨g, r.anyF n, fun y hy => .inr (hg y hy)⟩
  | _ => exact ⟨fp, r.anyF n, fun y hy => .inl hy⟩
theorem rps_unS {F : Addr → Prop} : ∀ {ds : List D} {vs : List V} {fp : List Addr}, Rps K F H ds vs fp → nsDs (ds.map unS) = true → ∃ f', Rps K (fun _ => False) H (ds.map unS) vs f' ∧ ∀ y ∈ f', y ∈ fp ∨ F y
  | [], _, _, ⟨e, ef⟩, _ => ⟨[], ⟨e, rfl⟩, fun _ h => nomatch h⟩
  | d :: ds, _, _, ⟨v, vr, f, g, e, ef, r, rs⟩, n => by
    have n' : (nsD (unS d) && nsDs (ds.map unS)) = true := n
    rw [Bool.and_eq_true] at n'
    obtain ⟨f1, r1, h1⟩ := rp_unS r n'.1
    obtain ⟨f2, r2, h2⟩ := rps_unS rs n'.2
    subst e; subst ef
    refine ⟨f1 ++ f2, ⟨v, vr, f1, f2, rfl, rfl, r1, r2⟩, fun y hy => ?_⟩
    rcases List.mem_append.mp hy with hy | hy
    · exact (h1 y hy).imp (List.mem_append_left _) id
    · exact (h2 y hy).imp (List.mem_append_right _) id
/-- what is wanted at the end of __init__ -/
def endI (T : OC) (R : List D → Nat → Prop) : GE → Nat → Prop := fun Γ c => ∃ ds, gat Γ 0 = some ⟨.byr, oD T ds⟩ ∧ nsDs (ds.map unS) = true ∧ R (ds.map unS) c
theorem fn_okI {α : Type} {S : FI α} {P : Program} {w : World} {K : PySem.W.Frag} {mg : Str → Option Value} {base : Heap} {x qual : Str} {st : Stmt} {f : Addr} {fd : FuncData} {N ps : List Str} {k : Nat} (F : Fun K x qual st f fd) (sc : FnScope N ps (defScope st))
    (hn : S.ks.length + 1 = ps.length) (hN : ps.length ≤ N.length) (hk : ∀ a c, S.pre a c → nlOk S.ks (S.args a))
    (hbody : ∀ (cdv : Value) (A : Around) (outer : List PySem.Env) (s : Shared) (H : Hp) (Q : VK) (E : XK), RoomG k (A.deeper (PyProof.Rows.envOfC qual (defScope st) s.heap.objs.size f cdv)) →
      ∃ t r, PSs (cxOf CX0 P w K mg base N qual (defScope st) f cdv A outer s H E).nox (defBody st) t ∧ SD K t r ∧ ∀ a c, S.pre a c → r { nx := endI T (S.res a c), rt := fun Γ d c' => d = .non ∧ endI T (S.res a c) Γ c' } (some ⟨.byr, oD T []⟩ :: Γ0 S.ks (S.args a) (N.length - 1)) c) :
    FnG P w K mg base CX0 (k + 1) f fd ps (SpI K T S) := by
  refine fn_body F sc (fun vs H Q E h => ?_) (fun cdv A outer s H vs Q E hr h => ?_)
  · obtain ⟨a, c, F, G, fp, x, dx, vr, rfl, _, _, _, _, _, r, _⟩ := h
    rw [List.length_cons, r.length, S.hl, hn]
  · obtain ⟨t, r, h1, h2, h3⟩ := hbody cdv A outer s H Q E hr
    obtain ⟨a, c, F0, G, fp, x, dx, vr, rfl, ne, ex, ed, hp, g, rs, ng, gx, hF, q⟩ := h
    refine ⟨t, h1, ?_⟩
    have hlen : (V.ref x :: vr).length = ps.length := by rw [List.length_cons, rs.length, S.hl, hn]
    have hst : (L2.start N (V.ref x :: vr)).length = N.length := by
      unfold L2.start
      rw [List.length_append, List.length_map, List.length_replicate]
      omega
    let en : En := ⟨fun a => F0 a ∨ a ∈ fp, G, H, fun y => y = x ∨ y = dx, fun n => if n = 0 then some (.ref x) else none⟩
    have fin : ∀ (B : Bx) (Γ : GE) (c' : Nat) (σ : L2.St) (H' : Hp), B.en = en → Env K B Γ c' σ H' → endI T (S.res a c) Γ c' → Q .non H' := by
      intro B Γ c' σ H' w1 E ⟨ds, es, hns, hres⟩
      obtain ⟨v, fp1, hv, r, so⟩ := E.slot 0 _ es
      have hrt : B.en.rt 0 = some v := so.2
      rw [w1] at hrt
      have ev : v = .ref x := by
        have hrt : some (V.ref x) = some v := hrt
        cases hrt; rfl
      subst ev
      obtain ⟨a1, dx1, us, f1, e1, ea, ed1, rfl, hl, hu, rs1⟩ := r.oD
      cases e1
      obtain ⟨f2, r2, hf2⟩ := rps_unS rs1 hns
      have own : ∀ y ∈ x :: dx1 :: f1, B.O 0 y := so.1.2
      have fromP : ∀ y, B.O 0 y → H y = none ∨ y = x ∨ y = dx := fun y oy => by
        have := (E.ol 0 y oy).2.2.2.1
        rw [w1] at this
        exact this
      have fromF : ∀ y, B.F y → (F0 y ∨ y ∈ fp) ∨ H y = none ∨ y = x ∨ y = dx := fun y fy => by
        have := E.fn y fy
        rw [w1] at this
        exact this
      refine q H' (ds.map unS) c' (x :: dx1 :: f2) hres ?_ (E.gens.sub fun y hy => E.gsub y (by rw [w1]; exact hy)) ?_ (fun y hy => ?_) (fun y hy gy => ?_) hns
      · have := E.ext0; rw [w1] at this; exact this.mono fun y z => z
      · show Rp K _ H' (.obj T.C (T.as.take (ds.map unS).length) (ds.map unS)) (.ref x) _
        rw [Rp, List.length_map]
        exact ⟨x, dx1, us, f2, rfl, ea, ed1, rfl, hl, r2⟩
      · have key : B.O 0 y ∨ B.F y := by
          rcases List.mem_cons.mp hy with rfl | hy
          · exact .inl (own _ List.mem_cons_self)
          · rcases List.mem_cons.mp hy with rfl | hy
            · exact .inl (own _ (List.mem_cons_of_mem _ List.mem_cons_self))
            · exact (hf2 y hy).imp (fun z => own y (List.mem_cons_of_mem _ (List.mem_cons_of_mem _ z))) id
        rcases key with z | z
        · rcases fromP y z with z | z | z
          · exact .inr (.inr (.inr z))
          · exact .inr (.inl z)
          · exact .inr (.inr (.inl z))
        · rcases fromF y z with z | z | z | z
          · exact .inl z
          · exact .inr (.inr (.inr z))
          · exact .inr (.inl z)
          · exact .inr (.inr (.inl z))
      · have gy : B.G y := E.gsub y (by rw [w1]; exact gy)
        rcases List.mem_cons.mp hy with rfl | hy
        · exact (E.ol 0 _ (own _ List.mem_cons_self)).2.2.1 gy
        · rcases List.mem_cons.mp hy with rfl | hy
          · exact (E.ol 0 _ (own _ (List.mem_cons_of_mem _ List.mem_cons_self))).2.2.1 gy
          · rcases hf2 y hy with z | z
            · exact (E.ol 0 _ (own _ (List.mem_cons_of_mem _ (List.mem_cons_of_mem _ z)))).2.2.1 gy
            · exact E.fg y z gy
    refine h2 en [] _ _ ⟨?_, ?_, ?_, ?_, fun _ _ _ _ _ _ _ _ _ _ _ _ _ h => False.elim h⟩ { F := fun a => F0 a ∨ a ∈ fp, G := G, en := en, O := fun i y => i = 0 ∧ (y = x ∨ y = dx), held := [] } (some ⟨.byr, oD T []⟩ :: Γ0 S.ks (S.args a) (N.length - 1)) c (L2.start N (V.ref x :: vr)) H rfl rfl ⟨?_, g, Ext.refl H, fun _ h => h, fun _ h => .inl h, fun y hy => hy.elim (fun z => (hF y z).2.1) fun z => (ng y z).1, fun y hy => hy.elim (fun z => (hF y z).1) fun hy => ?_, fun _ h => .inl h, fun y hy => ?_, fun i y hy => ?_, fun _ h => (nomatch h), fun i s e => ?_⟩ (h3 a c hp)
    · exact fun B Γ c' σ H' w1 _ E q' => fin B Γ c' σ H' w1 E q'
    · exact fun _ _ _ _ _ _ _ _ h => h.elim
    · exact fun _ _ _ _ _ _ _ _ h => h.elim
    · intro B Γ c' σ H' v d fp' is w1 E r st ns hr
      obtain ⟨rfl, ds, es, h5⟩ := hr
      rw [Rp] at r
      rw [r.1]
      exact fin B Γ c' σ H' w1 E ⟨ds, (gat_kills es).2, h5⟩
    · rw [hst, List.length_cons, Γ0_length]
      omega
    · obtain ⟨o, e, _⟩ := rs.at y hy
      exact ⟨_, e⟩
    · rcases hy with rfl | rfl
      · exact ⟨_, ex⟩
      · exact ⟨_, ed⟩
    · obtain ⟨rfl, hy⟩ := hy
      have nF : ∀ y, (y = x ∨ y = dx) → ¬ (F0 y ∨ y ∈ fp) := fun y hy z => by
        rcases z with z | z
        · exact hy.elim (hF y z).2.2.1 (hF y z).2.2.2
        · exact hy.elim (ng y z).2.1 (ng y z).2.2
      refine ⟨?_, nF y hy, ?_, .inr hy, fun m z => z.1⟩
      · rcases hy with rfl | rfl
        · exact ⟨_, ex⟩
        · exact ⟨_, ed⟩
      · rcases hy with rfl | rfl
        · exact gx.1
        · exact gx.2
    · cases i with
      | zero =>
        cases e
        refine ⟨.ref x, [x, dx], ?_, .inl ?_, ⟨?_, fun y hy => ⟨rfl, ?_⟩⟩, rfl⟩
        · rfl
        · show Rp K _ H (.obj T.C (T.as.take 0) []) (.ref x) _
          rw [Rp]
          refine ⟨x, dx, [], [], rfl, ?_, ed, rfl, rfl, rfl, rfl⟩
          rw [ex]; rfl
        · exact List.nodup_cons.mpr ⟨fun z => ne (List.mem_singleton.mp z).symm, List.nodup_cons.mpr ⟨List.not_mem_nil, List.nodup_nil⟩⟩
        · rcases List.mem_cons.mp hy with z | hy
          · exact .inl z
          · exact .inr (List.mem_singleton.mp hy)
      | succ i =>
        obtain ⟨v, f, e1, e2, e3, e4⟩ := Γ0_slot rs (hk a c hp) (show gat (Γ0 S.ks (S.args a) (N.length - 1)) i = some s from e)
        refine ⟨v, f, ?_, e2.monoF fun _ => .inl, ?_⟩
        · show ((V.ref x :: vr).map some ++ _)[i + 1]? = _
          have hi : i < (vr.map some).length := by
            by_cases z : i < (vr.map some).length
            · exact z
            · rw [List.getElem?_eq_none (by omega)] at e1; cases e1
          rw [List.map_cons, List.cons_append, List.getElem?_cons_succ, List.getElem?_append_left hi]; exact e1
        · obtain ⟨sk, sd⟩ := s
          rcases e4 with ⟨z, z2⟩ | z
          · cases z; exact z2
          · cases z; exact fun a ha => .inr (e3 a ha)
end
end DL
/-! ### objects: the readings as equations -/
namespace DL
open PySem PySem.Spec L2
/-- a method of the text, at its class -/
structure MethAt (P : Program) (w : World) (K : PySem.W.Frag) (mg : Str → Option Value) (base : Heap) (k : Nat) (C : Addr) (m : Str) (ps : List Str) (sp : Sp) (f : Addr) (fd : FuncData) : Prop where
  ok : FnG P w K mg base CX0 k f fd ps sp
  me : Meth K C m f
  b : Binds K fd ps []
structure InitAt (P : Program) (w : World) (K : PySem.W.Frag) (mg : Str → Option Value) (base : Heap) (k : Nat) (C : Addr) (ps : List Str) (sp : Sp) (f : Addr) (fd : FuncData) : Prop where
  ok : FnG P w K mg base CX0 k f fd ps sp
  maker : Mk K C f
  b : Binds K fd ps []
def methX {α : Type} (S : FS α) (d : D) (dks : List DK) (c : Nat) (A : D → Nat → Prop) : Prop := ∃ a, S.args a = d :: dks.map (·.1) ∧ S.pre a c ∧ ∀ d' c', S.res a c d' c' → A d' c'
def makeX {α : Type} (S : FI α) (dks : List DK) (c : Nat) (A : List D → Nat → Prop) : Prop := ∃ a, S.args a = dks.map (·.1) ∧ S.pre a c ∧ ∀ ds c', S.res a c ds c' → A ds c'
def isO (T : OC) (d : D) : Prop := ∃ ds, d = oD T ds
def fldP (T : OC) (j : Nat) (d : D) (A : List D → D → Prop) : Prop := ∃ ds e, d = oD T ds ∧ ds[j]? = some e ∧ A ds e
def setX (T : OC) (j : Nat) (d : D) (A : List D → Prop) : Prop := ∃ ds, d = oD T ds ∧ j ≤ ds.length ∧ A ds
def setL : List D → Nat → D → List D
  | [], _, e => [e]
  | _ :: xs, 0, e => e :: xs
  | x :: xs, j + 1, e => x :: setL xs j e
theorem setL_eq : ∀ {ds : List D} {j : Nat} {e : D}, (if j < ds.length then ds.set j e else ds ++ [e]) = setL ds j e
  | [], j, e => by rw [if_neg (show ¬ j < ([] : List D).length from Nat.not_lt_zero _)]; rfl
  | x :: xs, 0, e => by rw [if_pos (by rw [List.length_cons]; omega)]; rfl
  | x :: xs, j + 1, e => by
    have ih := setL_eq (ds := xs) (j := j) (e := e)
    show _ = x :: setL xs j e
    rw [← ih]
    by_cases h : j < xs.length
    · rw [if_pos h, if_pos (by rw [List.length_cons]; omega)]; rfl
    · rw [if_neg h, if_neg (by rw [List.length_cons]; omega)]; rfl
section
variable {Γ : GE} {c i j : Nat} {Q : D → Kd → Nat → Prop} {P : D → Kd → Prop} {d e : D} {k k' : Kd} {Dd : EndsD} {T : OC} {ds : List D}
theorem u_rMeth {α : Type} {S : FS α} {re : RE} {ra : RA} : rMeth T S re ra Γ c Q = re Γ c fun d k c1 => isO T d ∧ ra Γ c1 fun dks c2 => methX S d dks c2 fun d' c' => Q d' (.R []) c' := rfl
theorem u_rMethS {α : Type} {S : FS α} {re : RE} {ra : RA} : rMethS T S re ra Γ c Q = re Γ c fun d k c1 => isO T d ∧ stK0 k = true ∧ ra Γ c1 fun dks c2 => shOk dks = true ∧ methX S d dks c2 fun d' c' => Q d' (if noL d' then .R [] else .S) c' := rfl
theorem u_isO : isO T (oD T ds) = True := propext ⟨fun _ => trivial, fun _ => ⟨_, rfl⟩⟩
theorem u_rMake {α : Type} {S : FI α} {ra : RA} : rMake T S ra Γ c Q = ra Γ c fun dks c1 => shOk dks = true ∧ makeX S dks c1 fun ds c' => Q (oD T ds) .S c' := rfl
theorem u_g0 {x : D} {xs : List D} {A : D → Prop} : (∃ e, (x :: xs)[0]? = some e ∧ A e) = A x := propext ⟨fun ⟨e, h1, h2⟩ => by cases h1; exact h2, fun h => ⟨x, rfl, h⟩⟩
theorem u_gS {x : D} {xs : List D} {A : D → Prop} : (∃ e, (x :: xs)[j + 1]? = some e ∧ A e) = ∃ e, xs[j]? = some e ∧ A e := rfl
theorem u_fldP {A : List D → D → Prop} : fldP T j (oD T ds) A = ∃ e, ds[j]? = some e ∧ A ds e := propext ⟨fun ⟨es, e, h1, h2⟩ => by rw [oD_inj h1]; exact ⟨e, h2⟩, fun ⟨e, h⟩ => ⟨ds, e, rfl, h⟩⟩
theorem u_rpFld {rp : RP} {A : D → (D → D) → SK → Nat → Prop} : rpFld T j rp Γ c A = rp Γ c fun d put sk c1 => fldP T j d fun ds e => A e (fun x => put (oD T (ds.set j x))) sk c1 := rfl
theorem u_setX {A : List D → Prop} : setX T j (oD T ds) A = (j ≤ ds.length ∧ A ds) := propext ⟨fun ⟨es, h1, h2⟩ => by rw [oD_inj h1]; exact h2, fun h => ⟨ds, rfl, h⟩⟩
theorem u_rSetF {rp : RP} {re : RE} : rSetF T j rp i re Dd Γ c = re Γ c fun e k c1 => rp Γ c1 fun d put sk c2 => e ≠ .gen ∧ setX T j d fun ds => IntoF Γ i e k fun Γ' e' => Dd.nx (gset Γ' i (some ⟨sk, put (oD T (setL ds j e'))⟩)) c2 := by
  unfold rSetF setX
  simp only [setL_eq]
def isShr : D → Bool
  | .shr _ => true
  | _ => false
theorem fldQ_no (h : isShr e = false) : fldQ e k P = P e k := by
  cases e with
  | shr _ => cases h
  | _ => rfl
theorem fldQ_shr : fldQ (.shr e) k P = P e .S := rfl
theorem isShr_int {n : Int} : isShr (.int n) = false := id rfl
theorem isShr_lst : isShr (.lst ds) = false := id rfl
theorem isShr_tup : isShr (.tup ds) = false := id rfl
theorem isShr_non : isShr .non = false := id rfl
theorem isShr_bl {b : Bool} : isShr (.bl b) = false := id rfl
theorem isShr_str {x : Str} : isShr (.str x) = false := id rfl
theorem isShr_dct {t : Bool} {kk : List (List Key)} : isShr (.dct t kk ds) = false := id rfl
theorem isShr_oD : isShr (oD T ds) = false := id rfl
theorem intoF_nl {A : GE → D → Prop} (h : noL e = true) : IntoF Γ i e k A = A Γ e := by unfold IntoF; rw [if_pos h]
theorem intoF_own {A : GE → D → Prop} {is : List Nat} (h : noL e = false) : IntoF Γ i e (.R is) A = (i ∉ is ∧ A (kills is Γ) e) := by unfold IntoF; rw [if_neg (by rw [h]; decide)]
theorem intoF_S {A : GE → D → Prop} (h : noL e = false) : IntoF Γ i e .S A = A Γ (.shr e) := by unfold IntoF; rw [if_neg (by rw [h]; decide)]
theorem noL_shr : noL (.shr e) = false := id rfl
theorem endI_mk {R : List D → Nat → Prop} {r : GE} (h1 : nsDs (ds.map unS) = true) (h2 : R (ds.map unS) c) : endI T R (some ⟨.byr, oD T ds⟩ :: r) c := ⟨ds, rfl, h1, h2⟩
theorem setL0 : setL [] j e = [e] := rfl
theorem setLz {x : D} : setL (x :: ds) 0 e = e :: ds := rfl
theorem setLs {x : D} : setL (x :: ds) (j + 1) e = x :: setL ds j e := rfl
theorem unS_shr : unS (.shr e) = e := rfl
theorem unS_int {n : Int} : unS (.int n) = .int n := rfl
theorem unS_lst : unS (.lst ds) = .lst ds := rfl
theorem unS_tup : unS (.tup ds) = .tup ds := rfl
theorem unS_oD : unS (oD T ds) = oD T ds := rfl
theorem meth_pre {α : Type} {S : FS α} {dks : List DK} {A : D → Nat → Prop} (h : ∃ a, S.args a = d :: dks.map (·.1) ∧ S.pre a c ∧ ∀ d' c', S.res a c d' c' → A d' c') : methX S d dks c A := h
end
theorem stK0_Sd : stK0 .S = true := id rfl
end DL
/-! ### <, <=, >, >= of any alike data -/
namespace DL
open PySem PySem.Spec L2
def ltD (x y : D) : Bool := PySem.W.dataLt (py x) (py y)
/-- data that may be compared -/
def CmpOk (x y : D) : Prop := EqOk x ∧ EqOk y ∧ PySem.W.alike (py x) (py y) = true ∧ py x ≠ .none
def rCmpD (K : PySem.W.Frag) (g : PyData → PyData → Bool) : R2 := fun x y H Q => ∃ d e, Dp K H x d ∧ Dp K H y e ∧ d.depth ≤ 64 ∧ PySem.W.alike d e = true ∧ d ≠ .none ∧ Q (.bl (g d e)) H
def dCmpD (g : D → D → Bool) : RD2 := fun x _ y _ Q => CmpOk x y ∧ Q (.bl (g x y)) (.R [])
section
variable {X : Cx}
theorem op_ltD (hu : X.A.units + 64 < cLine) : OpR X (compareOp .Lt) (rCmpD X.K PySem.W.dataLt) := by
  intro pins s σ H x y v u Q I rx ry h
  obtain ⟨d, e, hd, he, dp, al, nn, q⟩ := h
  obtain ⟨as, r1⟩ := Dp.reads I d x v hd rx
  obtain ⟨bs, r2⟩ := Dp.reads I e y u he ry
  exact PySem.W.lt_data r1 r2 al nn (by have := Nat.min_le_left d.depth e.depth; omega) ⟨.bl _, H, I, rfl, q⟩
theorem op_leD (hu : X.A.units + 64 < cLine) : OpR X (compareOp .LtE) (rCmpD X.K fun d e => !PySem.W.dataLt e d) := by
  intro pins s σ H x y v u Q I rx ry h
  obtain ⟨d, e, hd, he, dp, al, nn, q⟩ := h
  obtain ⟨as, r1⟩ := Dp.reads I d x v hd rx
  obtain ⟨bs, r2⟩ := Dp.reads I e y u he ry
  exact PySem.W.le_data r1 r2 al nn (by have := Nat.min_le_left d.depth e.depth; omega) ⟨.bl _, H, I, rfl, q⟩
theorem op_gtD (hu : X.A.units + 64 < cLine) : OpR X (compareOp .Gt) (rCmpD X.K fun d e => PySem.W.dataLt e d) := by
  intro pins s σ H x y v u Q I rx ry h
  obtain ⟨d, e, hd, he, dp, al, nn, q⟩ := h
  obtain ⟨as, r1⟩ := Dp.reads I d x v hd rx
  obtain ⟨bs, r2⟩ := Dp.reads I e y u he ry
  exact PySem.W.gt_data r1 r2 al nn (by have := Nat.min_le_left d.depth e.depth; omega) ⟨.bl _, H, I, rfl, q⟩
end
section
variable {K : PySem.W.Frag}
theorem v_cmpD {g : PyData → PyData → Bool} : V2 K (rCmpD K g) (dCmpD fun x y => g (py x) (py y)) := by
  intro B Hs H c x y dx kx dy ky fp Qd Q A ar h f
  obtain ⟨f1, f2, rfl, r1, r2, n1, n2, o1, o2, cr⟩ := ar.one2
  obtain ⟨⟨⟨a1, a2⟩, ⟨b1, b2⟩, al, nn⟩, q⟩ := h
  exact ⟨_, _, dp_of a1 (r1.rp (isData_ng a1)), dp_of b1 (r2.rp (isData_ng b1)), SeqAt.depth_of_shaped a2, al, nn, f _ H _ _ (Same.refl _) (A.flat rp_bl) q⟩
end
section
variable {P : D → Kd → Prop} {d e : D} {k k' : Kd} {g : D → D → Bool}
theorem u_cmpD : dCmpD g d k e k' P = (CmpOk d e ∧ P (.bl (g d e)) (.R [])) := rfl
/-- numbers in a row: the first difference decides -/
def lexI : List Int → List Int → Bool
  | [], [] => false
  | [], _ :: _ => true
  | _ :: _, [] => false
  | x :: xs, y :: ys => if x = y then lexI xs ys else decide (x < y)
theorem listLt_lexI : ∀ xs ys : List Int, PySem.W.listLt xs ys = lexI xs ys
  | [], [] => rfl
  | [], _ :: _ => rfl
  | _ :: _, [] => rfl
  | x :: xs, y :: ys => by
    show (if x = y then PySem.W.listLt xs ys else decide (x < y)) = _
    rw [listLt_lexI xs ys]; rfl
theorem pys_ints (xs : List Int) : pys (xs.map D.int) = xs.map PyData.int := by
  induction xs with
  | nil => rfl
  | cons x r ih => show py (.int x) :: pys (r.map D.int) = _; rw [ih]; rfl
theorem ltD_ints (xs ys : List Int) : ltD (.lst (xs.map .int)) (.lst (ys.map .int)) = lexI xs ys := by
  unfold ltD
  show PySem.W.dataLt (.list (pys (xs.map D.int))) (.list (pys (ys.map D.int))) = _
  rw [pys_ints, pys_ints, ← listLt_lexI]
  exact (PySem.W.DatumOrd.lt_eq (α := List Int) xs ys)
theorem alike_ints (xs ys : List Int) : PySem.W.alike (py (.lst (xs.map .int))) (py (.lst (ys.map .int))) = true := by
  show PySem.W.alike (.list (pys (xs.map D.int))) (.list (pys (ys.map D.int))) = true
  rw [pys_ints, pys_ints]
  exact PySem.W.DatumOrd.alike (α := List Int) xs ys
theorem eqOk_ints {xs : List Int} (h : xs.length ≤ 1000000) : EqOk (.lst (xs.map .int)) := eqOk_of (okD_lst (by rw [List.length_map]; exact h) (okDs_map xs fun _ _ => rfl)) (Nat.succ_le_of_lt (Nat.lt_of_le_of_lt (deps_leM (fun _ => Nat.le_refl 0) xs) (by decide)))
theorem cmpOk_ints {xs ys : List Int} (h : xs.length ≤ 1000000) (h' : ys.length ≤ 1000000) : CmpOk (.lst (xs.map .int)) (.lst (ys.map .int)) := ⟨eqOk_ints h, eqOk_ints h', alike_ints xs ys, nofun⟩
end
end DL
/-! ### the best stretches of a line -/
namespace DL
open PySem PySem.Spec L2
/-- rows on a line -/
def LineB (rs : List RC) : Prop := 1 ≤ rs.length ∧ rs.length ≤ 100 ∧ ∀ r ∈ rs, (∃ n, r.1 = [n] ∧ 0 ≤ n ∧ n ≤ 10000) ∧ 1 ≤ r.2 ∧ r.2 ≤ 10000
/-- sums ahead of each place -/
def preL (f : List RC → Int) (rs : List RC) (k : Nat) : List Int := (List.range (k + 1)).map fun j => f (rs.take j)
theorem preL_len {f : List RC → Int} {rs : List RC} {k : Nat} : (preL f rs k).length = k + 1 := by unfold preL; rw [List.length_map, List.length_range]
theorem preL_get {f : List RC → Int} {rs : List RC} {k j : Nat} (h : j ≤ k) : (preL f rs k)[j]? = some (f (rs.take j)) := by
  unfold preL
  rw [List.getElem?_map, List.getElem?_range (by omega)]; rfl
theorem preL_at {f : List RC → Int} {rs : List RC} {k j : Nat} (h : j ≤ k) : atI ((preL f rs k).map D.int) (j : Nat) = some (.int (f (rs.take j))) := by
  refine atI_nat ?_
  rw [List.getElem?_map, preL_get h]; rfl
theorem preL_snoc {f : List RC → Int} {rs : List RC} {k : Nat} : preL f rs (k + 1) = preL f rs k ++ [f (rs.take (k + 1))] := by
  unfold preL
  rw [List.range_succ, List.map_append]; rfl
theorem preL_zero {f : List RC → Int} {rs : List RC} : preL f rs 0 = [f []] := rfl
theorem ixN_last {n : Nat} : ixN (n + 1) (-1) = some n := by
  unfold ixN
  rw [if_neg (by decide), if_pos (by omega)]
  congr 1; omega
theorem preL_last {f : List RC → Int} {rs : List RC} {k : Nat} : atI ((preL f rs k).map D.int) (-1) = some (.int (f (rs.take k))) := by
  unfold atI
  rw [List.length_map, preL_len, ixN_last]
  show ((preL f rs k).map D.int)[k]? = _
  rw [List.getElem?_map, preL_get (Nat.le_refl _)]; rfl
def mL (rs : List RC) (b e : Nat) : Int := sumI (rs.take e) - sumI (rs.take b)
def nL (rs : List RC) (b e : Nat) : Int := numI 0 (rs.take e) - numI 0 (rs.take b)
def qL (rs : List RC) (b e : Nat) : Int := sqI 0 (rs.take e) - sqI 0 (rs.take b)
noncomputable def sprL (rs : List RC) (b e : Nat) : Int × Int := lowF (qL rs b e * mL rs b e - nL rs b e * nL rs b e) (mL rs b e)
theorem sums_snoc {rs : List RC} {k : Nat} {r : RC} {n : Int} (h : rs[k]? = some r) (e : r.1 = [n]) : sumI (rs.take (k + 1)) = sumI (rs.take k) + r.2 ∧ numI 0 (rs.take (k + 1)) = numI 0 (rs.take k) + r.2 * n ∧ sqI 0 (rs.take (k + 1)) = sqI 0 (rs.take k) + r.2 * n * n := by
  unfold sumI numI sqI
  rw [List.take_add_one, h]
  simp only [Option.toList_some, List.map_append, List.sum_append, List.map_cons, List.map_nil, List.sum_cons, List.sum_nil, e]
  exact ⟨by omega, by show _ + (r.2 * n + 0) = _; omega, by show _ + (r.2 * n * n + 0) = _; omega⟩
theorem mL_pos {rs : List RC} (h : LineB rs) {b e : Nat} (h1 : b < e) (h2 : e ≤ rs.length) : 1 ≤ mL rs b e ∧ mL rs b e ≤ 1000000 := by
  unfold mL
  have key : ∀ k, b + k ≤ rs.length → (k : Int) ≤ sumI (rs.take (b + k)) - sumI (rs.take b) ∧ sumI (rs.take (b + k)) - sumI (rs.take b) ≤ 10000 * k := by
    intro k
    induction k with
    | zero => intro _; simp
    | succ k ih =>
      intro hk
      obtain ⟨r, hr⟩ : ∃ r, rs[b + k]? = some r := ⟨_, List.getElem?_eq_getElem (by omega)⟩
      obtain ⟨⟨n, en, _⟩, l1, l2⟩ := h.2.2 r (List.mem_of_getElem? hr)
      have := (sums_snoc hr en).1
      have := ih (by omega)
      rw [show b + (k + 1) = b + k + 1 by omega]
      omega
  have := key (e - b) (by omega)
  rw [show b + (e - b) = e by omega] at this
  have := h.2.1
  omega
theorem sums_bd {rs : List RC} (h : LineB rs) : ∀ k, k ≤ rs.length → (0 ≤ sumI (rs.take k) ∧ sumI (rs.take k) ≤ 10000 * k) ∧ (0 ≤ numI 0 (rs.take k) ∧ numI 0 (rs.take k) ≤ 100000000 * k) ∧ 0 ≤ sqI 0 (rs.take k) ∧ sqI 0 (rs.take k) ≤ 1000000000000 * k := by
  intro k
  induction k with
  | zero => intro _; simp [sumI, numI, sqI]
  | succ k ih =>
    intro hk
    obtain ⟨r, hr⟩ : ∃ r, rs[k]? = some r := ⟨_, List.getElem?_eq_getElem (by omega)⟩
    obtain ⟨⟨n, en, n0, n1⟩, l1, l2⟩ := h.2.2 r (List.mem_of_getElem? hr)
    obtain ⟨e1, e2, e3⟩ := sums_snoc hr en
    have := ih (by omega)
    have p0 : 0 ≤ r.2 * n := Int.mul_nonneg (by omega) n0
    have p1 : r.2 * n ≤ 10000 * 10000 := Int.mul_le_mul l2 n1 n0 (by decide)
    have p2 : 0 ≤ r.2 * n * n := Int.mul_nonneg p0 n0
    have p3 : r.2 * n * n ≤ 10000 * 10000 * 10000 := Int.mul_le_mul p1 n1 n0 (by decide)
    rw [e1, e2, e3]
    omega
theorem qL_bd {rs : List RC} (h : LineB rs) {b e : Nat} (h1 : b < e) (h2 : e ≤ rs.length) : (-10000000000 ≤ nL rs b e ∧ nL rs b e ≤ 10000000000) ∧ -100000000000000 ≤ qL rs b e ∧ qL rs b e ≤ 100000000000000 := by
  have a := sums_bd h e h2
  have c := sums_bd h b (by omega)
  have := h.2.1
  unfold nL qL
  omega
theorem spr_PB {rs : List RC} (h : LineB rs) {b e : Nat} (h1 : b < e) (h2 : e ≤ rs.length) : PB 130 (qL rs b e * mL rs b e - nL rs b e * nL rs b e) ∧ PB 62 (mL rs b e) := by
  have hm := mL_pos h h1 h2
  have hq := qL_bd h h1 h2
  have p1 : PB 62 (mL rs b e) := PB.small (by omega)
  have p2 : PB 62 (qL rs b e) := PB.small (by omega)
  have p3 : PB 62 (nL rs b e) := PB.small (by omega)
  exact ⟨(PB.sub (p2.mul p1) (p3.mul p3)).mono (by decide), p1⟩
theorem spr_BF {rs : List RC} (h : LineB rs) {b e : Nat} (h1 : b < e) (h2 : e ≤ rs.length) : BF 130 (sprL rs b e) := by
  have hm := mL_pos h h1 h2
  have hp := spr_PB h h1 h2
  exact lowF_BF (by omega) hp.1 (hp.2.mono (by decide))
/-! the table from the last row on -/
abbrev Bst := Option ((Int × Int) × List Int)
def eB : Bst → D
  | none => .non
  | some p => .tup [eF p.1, .lst (p.2.map .int)]
def betterL (p q : (Int × Int) × List Int) : Bool := lessF p.1 q.1 || (decide (p.1 = q.1) && lexI p.2 q.2)
noncomputable def stepL (rs : List RC) (best : List Bst) (b : Nat) (acc : Bst) (e : Nat) : Bst := match best.getD e none with
  | none => acc
  | some p => match acc with
    | none => some (addF (sprL rs b e) p.1, (b : Int) :: p.2)
    | some l => if betterL (addF (sprL rs b e) p.1, (b : Int) :: p.2) l = true then some (addF (sprL rs b e) p.1, (b : Int) :: p.2) else some l
noncomputable def upL (rs : List RC) (best : List Bst) (b k : Nat) : Bst := ((List.range k).map (b + 1 + ·)).foldl (stepL rs best b) none
theorem upL_succ {rs : List RC} {best : List Bst} {b k : Nat} : upL rs best b (k + 1) = stepL rs best b (upL rs best b k) (b + 1 + k) := by
  unfold upL
  rw [List.range_succ, List.map_append, List.foldl_append]; rfl
noncomputable def oneMore (rs : List RC) (best : List Bst) : List Bst := ((List.range rs.length).map fun b => upL rs best b (rs.length - b)) ++ [some ((0, 1), [])]
noncomputable def lineT (rs : List RC) : Nat → List Bst
  | 0 => List.replicate rs.length none ++ [some ((0, 1), [])]
  | t + 1 => oneMore rs (lineT rs t)
/-- of such sizes -/
def BstOk (n k : Nat) (best : List Bst) : Prop := best.length = n + 1 ∧ best[n]? = some (some ((0, 1), [])) ∧ ∀ p, some p ∈ best → BF k p.1 ∧ p.2.length ≤ k
theorem BstOk.get {n k : Nat} {best : List Bst} (h : BstOk n k best) {e : Nat} (he : e ≤ n) : best[e]? = some (best.getD e none) := by
  rw [List.getD_eq_getElem?_getD, List.getElem?_eq_getElem (by have := h.1; omega)]; rfl
theorem BstOk.at {n k : Nat} {best : List Bst} (h : BstOk n k best) {e : Nat} (he : e ≤ n) : atI (best.map eB) (e : Nat) = some (eB (best.getD e none)) := by
  refine atI_nat ?_
  rw [List.getElem?_map, h.get he]; rfl
theorem BstOk.bf {n k : Nat} {best : List Bst} (h : BstOk n k best) {e : Nat} {p : (Int × Int) × List Int} (he : e ≤ n) (hp : best.getD e none = some p) : BF k p.1 ∧ p.2.length ≤ k := by
  have := h.get he
  rw [hp] at this
  exact h.2.2 p (List.mem_of_getElem? this)
/-- what is found so far -/
def AccOk (k : Nat) (a : Bst) : Prop := ∀ p, a = some p → BF k p.1 ∧ p.2.length ≤ k
theorem stepL_ok {rs : List RC} {best : List Bst} {b e k : Nat} {a : Bst} (h : LineB rs) (hb : BstOk rs.length k best) (h1 : b < e) (h2 : e ≤ rs.length) (ha : AccOk (k + 131) a) : AccOk (k + 131) (stepL rs best b a e) := by
  intro p hp
  unfold stepL at hp
  cases hx : best.getD e none with
  | none => rw [hx] at hp; exact ha p hp
  | some q =>
    rw [hx] at hp
    have hq := hb.bf h2 hx
    have new : BF (k + 131) (addF (sprL rs b e) q.1) ∧ ((b : Int) :: q.2).length ≤ k + 131 := ⟨(addF_BF (spr_BF h h1 h2) hq.1).mono (by omega), by rw [List.length_cons]; omega⟩
    cases a with
    | none => cases hp; exact new
    | some l =>
      by_cases z : betterL (addF (sprL rs b e) q.1, (b : Int) :: q.2) l = true
      · have hp : (if betterL (addF (sprL rs b e) q.1, (b : Int) :: q.2) l = true then some (addF (sprL rs b e) q.1, (b : Int) :: q.2) else some l) = some p := hp
        rw [if_pos z] at hp; cases hp; exact new
      · have hp : (if betterL (addF (sprL rs b e) q.1, (b : Int) :: q.2) l = true then some (addF (sprL rs b e) q.1, (b : Int) :: q.2) else some l) = some p := hp
        rw [if_neg z] at hp; cases hp; exact ha _ rfl
theorem upL_ok {rs : List RC} {best : List Bst} {b k : Nat} (h : LineB rs) (hb : BstOk rs.length k best) : ∀ m, b + m ≤ rs.length → AccOk (k + 131) (upL rs best b m)
  | 0, _ => fun p hp => nomatch hp
  | m + 1, hm => by
    rw [upL_succ]
    exact stepL_ok h hb (by omega) (by omega) (upL_ok h hb m (by omega))
theorem oneMore_ok {rs : List RC} {best : List Bst} {k : Nat} (h : LineB rs) (hb : BstOk rs.length k best) : BstOk rs.length (k + 131) (oneMore rs best) := by
  unfold oneMore
  refine ⟨by rw [List.length_append, List.length_map, List.length_range]; rfl, ?_, fun p hp => ?_⟩
  · rw [List.getElem?_append_right (by rw [List.length_map, List.length_range]; exact Nat.le_refl _), List.length_map, List.length_range, Nat.sub_self]; rfl
  · rcases List.mem_append.mp hp with hp | hp
    · obtain ⟨b, hb', e⟩ := List.mem_map.mp hp
      have := List.mem_range.mp hb'
      exact upL_ok h hb (rs.length - b) (by omega) p e
    · have e := List.mem_singleton.mp hp
      cases e
      have z0 : ∀ i : Int, i.natAbs < 2 → PB (k + 131) i := fun i hi => by unfold PB; exact Nat.lt_of_lt_of_le hi (Nat.pow_le_pow_right (n := 2) (by decide) (show 1 ≤ k + 131 by omega))
      exact ⟨⟨Int.zero_lt_one, z0 0 (by decide), z0 1 (by decide)⟩, Nat.zero_le _⟩
theorem lineT_ok {rs : List RC} (h : LineB rs) : ∀ t, BstOk rs.length (62 + 131 * t) (lineT rs t)
  | 0 => by
    unfold lineT
    refine ⟨by rw [List.length_append, List.length_replicate]; rfl, ?_, fun p hp => ?_⟩
    · rw [List.getElem?_append_right (by rw [List.length_replicate]; exact Nat.le_refl _), List.length_replicate, Nat.sub_self]; rfl
    · rcases List.mem_append.mp hp with hp | hp
      · cases (List.mem_replicate.mp hp).2
      · have e := List.mem_singleton.mp hp
        cases e
        exact ⟨⟨Int.zero_lt_one, PB.small (i := 0) (by decide), PB.small (i := 1) (by decide)⟩, Nat.zero_le _⟩
  | t + 1 => (oneMore_ok h (lineT_ok h t))
theorem stepL_some {rs : List RC} {best : List Bst} {b e : Nat} {a : Bst} (h : a.isSome = true ∨ (best.getD e none).isSome = true) : (stepL rs best b a e).isSome = true := by
  unfold stepL
  cases hx : best.getD e none with
  | none =>
    rw [hx] at h
    exact h.elim id fun z => nomatch z
  | some q =>
    cases a with
    | none => rfl
    | some l =>
      show (if _ then some _ else some l).isSome = true
      split <;> rfl
theorem lineT_some {rs : List RC} (h : LineB rs) {t b : Nat} (hb : b ≤ rs.length) : ((lineT rs (t + 1)).getD b none).isSome = true := by
  have hk := lineT_ok h t
  have e : lineT rs (t + 1) = oneMore rs (lineT rs t) := rfl
  rw [e]
  unfold oneMore
  by_cases hb2 : b = rs.length
  · subst hb2
    rw [List.getD_eq_getElem?_getD, List.getElem?_append_right (by rw [List.length_map, List.length_range]; exact Nat.le_refl _), List.length_map, List.length_range, Nat.sub_self]; rfl
  · rw [List.getD_eq_getElem?_getD, List.getElem?_append_left (by rw [List.length_map, List.length_range]; omega), List.getElem?_map, List.getElem?_range (by omega)]
    show (upL rs (lineT rs t) b (rs.length - b)).isSome = true
    rw [show rs.length - b = rs.length - b - 1 + 1 by omega, upL_succ]
    refine stepL_some (.inr ?_)
    rw [show b + 1 + (rs.length - b - 1) = rs.length by omega, List.getD_eq_getElem?_getD, hk.2.1]; rfl
/-! ### promises -/
def S_stretches : FI (List RC) where
  ks := [.sh]
  args rs := [eRows rs]
  pre rs c := LineB rs
  res rs c ds c' := ds = [.lst ((preL sumI rs rs.length).map .int), .lst ((preL (numI 0) rs rs.length).map .int), .lst ((preL (sqI 0) rs rs.length).map .int)] ∧ c' = c
def eStr (T : OC) (rs : List RC) : D := oD T [.lst ((preL sumI rs rs.length).map .int), .lst ((preL (numI 0) rs rs.length).map .int), .lst ((preL (sqI 0) rs rs.length).map .int)]
def S_spreadFrom (T : OC) : FS (List RC × Nat × Nat) where
  ks := [.sh, .nl, .nl]
  args p := [eStr T p.1, .int p.2.1, .int p.2.2]
  pre p c := LineB p.1 ∧ p.2.1 < p.2.2 ∧ p.2.2 ≤ p.1.length
  res p c d c' := d = eF (sprL p.1 p.2.1 p.2.2) ∧ c' = c
theorem spreadFrom_call {T : OC} {rs : List RC} {b e : Nat} {k1 k2 : Kd} {c : Nat} {P : D → Nat → Prop} (h : LineB rs) (h1 : b < e) (h2 : e ≤ rs.length) (hP : P (eF (sprL rs b e)) c) : methX (S_spreadFrom T) (eStr T rs) [(.int b, k1), (.int e, k2)] c P :=
  ⟨(rs, b, e), rfl, ⟨h, h1, h2⟩, by rintro d c' ⟨rfl, rfl⟩; exact hP⟩
theorem stretches_call {rs : List RC} {k1 : Kd} {c : Nat} {P : List D → Nat → Prop} (h : LineB rs) (hP : P [.lst ((preL sumI rs rs.length).map .int), .lst ((preL (numI 0) rs rs.length).map .int), .lst ((preL (sqI 0) rs rs.length).map .int)] c) : makeX S_stretches [(eRows rs, k1)] c P :=
  ⟨rs, rfl, h, by rintro d c' ⟨rfl, rfl⟩; exact hP⟩
/-- a total with begins, kept -/
abbrev Bst1 := (Int × Int) × List Int
def eB1 (p : Bst1) : D := .tup [eF p.1, .lst (p.2.map .int)]
def S_better : FS (Bst1 × Bst1) where
  ks := [.sh, .sh]
  args p := [eB1 p.1, eB1 p.2]
  pre p c := BF 3900 p.1.1 ∧ BF 3900 p.2.1 ∧ p.1.2.length ≤ 10000 ∧ p.2.2.length ≤ 10000
  res p c d c' := d = .bl (betterL p.1 p.2) ∧ c' = c
theorem better_call {p q : Bst1} {c : Nat} {P : D → Nat → Prop} (h1 : BF 3900 p.1) (h2 : BF 3900 q.1) (h3 : p.2.length ≤ 10000) (h4 : q.2.length ≤ 10000) (hP : P (.bl (betterL p q)) c) : ∃ a, S_better.args a = [eB1 p, eB1 q] ∧ S_better.pre a c ∧ ∀ d c', S_better.res a c d c' → P d c' :=
  ⟨(p, q), rfl, ⟨h1, h2, h3, h4⟩, by rintro d c' ⟨rfl, rfl⟩; exact hP⟩
theorem eB_some {p : Bst1} : eB (some p) = eB1 p := rfl
theorem noL_eB1 {p : Bst1} : noL (eB1 p) = false := id rfl
theorem nsD_eB1 {p : Bst1} : nsD (eB1 p) = true := by
  show (nsD (eF p.1) && (nsDs (p.2.map D.int) && true)) = true
  rw [nsDs_ints]; rfl
theorem ng_eB1 {p : Bst1} : (eB1 p ≠ .gen) = True := propext ⟨fun _ => trivial, fun _ => nofun⟩
theorem ng_eB {p : Bst} : eB p ≠ .gen := by cases p <;> nofun
theorem nsD_eB {p : Bst} : nsD (eB p) = true := by
  cases p with
  | none => rfl
  | some p => exact nsD_eB1
def S_oneMore (T : OC) : FS (List RC × List Bst) where
  ks := [.sh, .sh, .nl]
  args p := [eStr T p.1, .lst (p.2.map eB), .int p.1.length]
  pre p c := LineB p.1 ∧ ∃ k, k ≤ 2000 ∧ BstOk p.1.length k p.2
  res p c d c' := d = .lst ((oneMore p.1 p.2).map eB) ∧ c' = c
theorem oneMore_call {T : OC} {rs : List RC} {best : List Bst} {k c : Nat} {P : D → Nat → Prop} (h : LineB rs) (hk : k ≤ 2000) (hb : BstOk rs.length k best) (hP : P (.lst ((oneMore rs best).map eB)) c) : ∃ a, (S_oneMore T).args a = [eStr T rs, .lst (best.map eB), .int rs.length] ∧ (S_oneMore T).pre a c ∧ ∀ d c', (S_oneMore T).res a c d c' → P d c' :=
  ⟨(rs, best), rfl, ⟨h, k, hk, hb⟩, by rintro d c' ⟨rfl, rfl⟩; exact hP⟩
noncomputable def bestL (rs : List RC) (m : Nat) : Bst1 := ((lineT rs m).getD 0 none).getD ((0, 1), [])
theorem bestL_eq {rs : List RC} (h : LineB rs) {m : Nat} (hm : 1 ≤ m) : (lineT rs m).getD 0 none = some (bestL rs m) := by
  have := lineT_some h (t := m - 1) (b := 0) (Nat.zero_le _)
  rw [show m - 1 + 1 = m by omega] at this
  unfold bestL
  obtain ⟨x, hx⟩ := Option.isSome_iff_exists.mp this
  rw [hx]; rfl
theorem bestL_ok {rs : List RC} (h : LineB rs) {m : Nat} (hm : 1 ≤ m) : BF (62 + 131 * m) (bestL rs m).1 ∧ (bestL rs m).2.length ≤ 62 + 131 * m := (lineT_ok h m).bf (Nat.zero_le _) (bestL_eq h hm)
def S_bestLine : FS (List RC × Nat) where
  ks := [.sh, .nl]
  args p := [eRows p.1, .int p.2]
  pre p c := LineB p.1 ∧ 1 ≤ p.2 ∧ p.2 ≤ 10
  res p c d c' := d = eB1 (bestL p.1 p.2) ∧ c' = c
theorem bestLine_call {rs : List RC} {m c : Nat} {P : D → Nat → Prop} (h : LineB rs) (h1 : 1 ≤ m) (h2 : m ≤ 10) (hP : P (eB1 (bestL rs m)) c) : ∃ a, S_bestLine.args a = [eRows rs, .int m] ∧ S_bestLine.pre a c ∧ ∀ d c', S_bestLine.res a c d c' → P d c' :=
  ⟨(rs, m), rfl, ⟨h, h1, h2⟩, by rintro d c' ⟨rfl, rfl⟩; exact hP⟩
theorem eqvF (p q : Int × Int) : PyData.eqv (py (eF p)) (py (eF q)) = decide (p = q) := by
  have h := eqv_iff (nbD_F p) (nbD_F q)
  have inj : eF p = eF q ↔ p = q := by
    refine ⟨fun e => ?_, fun e => by rw [e]⟩
    have e : ([.int p.1, .int p.2] : List D) = [.int q.1, .int q.2] := D.tup.inj e
    simp only [List.cons.injEq, D.int.injEq, and_true] at e
    exact Prod.ext e.1 e.2
  rw [inj] at h
  cases z : PyData.eqv (py (eF p)) (py (eF q)) with
  | true => rw [z] at h; rw [decide_eq_true (h.mp rfl)]
  | false => rw [z] at h; rw [decide_eq_false fun w => nomatch h.mpr w]
def slB : Bst → Sl
  | none => ⟨.nl, .non⟩
  | some p => ⟨.own, eB1 p⟩
theorem isNon_eB1 {p : Bst1} : DL.isNon (eB1 p) = false := id rfl
theorem isNon_non : DL.isNon .non = true := id rfl
theorem isO_str {T : OC} {rs : List RC} : isO T (eStr T rs) = True := u_isO
theorem rngS {b n : Nat} : intsFrom ((b : Int) + 1) n = (List.range n).map fun m : Nat => .int ((b + 1 + m : Nat) : Int) := by
  unfold intsFrom
  apply List.map_congr_left
  intro m _
  rw [show (b : Int) + 1 + (m : Int) = ((b + 1 + m : Nat) : Int) by omega]
theorem stepL_of {rs : List RC} {best : List Bst} {b e : Nat} {p : Bst1} (hp : best.getD e none = some p) : stepL rs best b none e = some (addF (sprL rs b e) p.1, (b : Int) :: p.2) := by unfold stepL; rw [hp]
theorem stepL_or {rs : List RC} {best : List Bst} {b e : Nat} {p l : Bst1} (hp : best.getD e none = some p) : stepL rs best b (some l) e = if betterL (addF (sprL rs b e) p.1, (b : Int) :: p.2) l = true then some (addF (sprL rs b e) p.1, (b : Int) :: p.2) else some l := by unfold stepL; rw [hp]
theorem stepL_no {rs : List RC} {best : List Bst} {b e : Nat} {a : Bst} (hp : best.getD e none = none) : stepL rs best b a e = a := by unfold stepL; rw [hp]
theorem rep_none {n : Nat} : (List.replicate (n : Int).toNat [D.non]).flatten ++ [D.tup [D.tup [D.int 0, D.int 1], D.lst []]] = (List.replicate n (none : Bst) ++ [some ((0, 1), [])]).map eB := by
  rw [Int.toNat_natCast, List.map_append, List.map_replicate]
  congr 1
  induction n with
  | zero => rfl
  | succ n ih => rw [List.replicate_succ, List.flatten_cons, ih, List.replicate_succ]; rfl
theorem rep_len {n : Nat} : (List.replicate (n : Int).toNat [D.non]).flatten.length = n := by
  rw [Int.toNat_natCast]
  induction n with
  | zero => rfl
  | succ n ih => rw [List.replicate_succ, List.flatten_cons, List.length_append, ih]; show 1 + n = n + 1; omega
/-- drawn rows on a line, rising -/
def LineD (rs : List RC) : Prop := rs.length ≤ 60 ∧ 1 ≤ rs.length ∧ (∀ r ∈ rs, (∃ n, r.1 = [n] ∧ 0 ≤ n ∧ n ≤ 1000) ∧ 1 ≤ r.2 ∧ r.2 ≤ 1000)
theorem LineD.b {rs : List RC} (h : LineD rs) : LineB rs := ⟨h.2.1, by have := h.1; omega, fun r hr => by
  obtain ⟨⟨n, e, n0, n1⟩, h1, h2⟩ := h.2.2 r hr
  exact ⟨⟨n, e, n0, by omega⟩, h1, by omega⟩⟩
def S_lineRows : FS Bool where
  ks := [.nl, .nl]
  args b := [.gen, .bl b]
  pre b c := c + 200 < LIM
  res b c d c' := ∃ rs, d = eRows rs ∧ LineD rs ∧ c ≤ c' ∧ c' ≤ c + 200
theorem lineRows_call {b : Bool} {c : Nat} {P : D → Nat → Prop} (hc : c + 200 < LIM) (hP : ∀ rs c', LineD rs → c ≤ c' → c' ≤ c + 200 → P (eRows rs) c') : ∃ a, S_lineRows.args a = [.gen, .bl b] ∧ S_lineRows.pre a c ∧ ∀ d c', S_lineRows.res a c d c' → P d c' :=
  ⟨b, rfl, hc, by rintro d c' ⟨rs, rfl, h1, h2, h3⟩; exact hP rs c' h1 h2 h3⟩
theorem unl3 {r s q : RG} {d e g : D} {k : Kd} {Γ : GE} {Q : GE → Prop} : rgUnl 3 (rgCons r (rgCons s (rgCons q rgNil))) (.lst [d, e, g]) k Γ Q = r d k Γ fun Γ1 => s e k Γ1 fun Γ2 => q g k Γ2 Q := by
  unfold rgUnl rgCons rgNil
  simp only [List.length_cons, List.length_nil, Nat.reduceAdd, true_and]
def eA (rs : List RC) (k : Nat) : D := .lst ((List.range (k + 1)).map fun j => .lst [.int (sumI (rs.take j)), .int (numI 0 (rs.take j)), .int (sqI 0 (rs.take j))])
theorem eA_at {rs : List RC} {k j : Nat} (h : j ≤ k) : atI ((List.range (k + 1)).map fun j => D.lst [.int (sumI (rs.take j)), .int (numI 0 (rs.take j)), .int (sqI 0 (rs.take j))]) (j : Nat) = some (.lst [.int (sumI (rs.take j)), .int (numI 0 (rs.take j)), .int (sqI 0 (rs.take j))]) := by
  refine atI_nat ?_
  rw [List.getElem?_map, List.getElem?_range (by omega)]; rfl
theorem eA_last {rs : List RC} {k : Nat} : atI ((List.range (k + 1)).map fun j => D.lst [.int (sumI (rs.take j)), .int (numI 0 (rs.take j)), .int (sqI 0 (rs.take j))]) (-1) = some (.lst [.int (sumI (rs.take k)), .int (numI 0 (rs.take k)), .int (sqI 0 (rs.take k))]) := by
  unfold atI
  rw [List.length_map, List.length_range, ixN_last]
  show ((List.range (k + 1)).map _)[k]? = _
  rw [List.getElem?_map, List.getElem?_range (by omega)]; rfl
theorem eA_snoc {rs : List RC} {k : Nat} : (List.range (k + 1 + 1)).map (fun j => D.lst [.int (sumI (rs.take j)), .int (numI 0 (rs.take j)), .int (sqI 0 (rs.take j))]) = (List.range (k + 1)).map (fun j => D.lst [.int (sumI (rs.take j)), .int (numI 0 (rs.take j)), .int (sqI 0 (rs.take j))]) ++ [D.lst [.int (sumI (rs.take (k + 1))), .int (numI 0 (rs.take (k + 1))), .int (sqI 0 (rs.take (k + 1)))]] := by
  rw [List.range_succ, List.map_append]; rfl
/-- the ends at which something is kept -/
def endsL (best : List Bst) (b n : Nat) : List Nat := ((List.range (n - b)).map (b + 1 + ·)).filter fun e => (best.getD e none).isSome
theorem endsL_mem {best : List Bst} {b n e : Nat} (h : e ∈ endsL best b n) (hb : b < n) : b < e ∧ e ≤ n ∧ (best.getD e none).isSome = true := by
  obtain ⟨h1, h2⟩ := List.mem_filter.mp h
  obtain ⟨m, hm, rfl⟩ := List.mem_map.mp h1
  have := List.mem_range.mp hm
  exact ⟨by omega, by omega, h2⟩
theorem fold_filter {rs : List RC} {best : List Bst} {b : Nat} : ∀ (xs : List Nat) (a : Bst), (xs.filter fun e => (best.getD e none).isSome).foldl (stepL rs best b) a = xs.foldl (stepL rs best b) a
  | [], _ => rfl
  | e :: xs, a => by
    cases h : (best.getD e none).isSome with
    | true =>
      rw [List.filter_cons_of_pos (p := fun e => (best.getD e none).isSome) h, List.foldl_cons, List.foldl_cons]
      exact fold_filter xs _
    | false =>
      rw [List.filter_cons_of_neg (p := fun e => (best.getD e none).isSome) (by rw [h]; decide), List.foldl_cons, stepL_no (Option.not_isSome_iff_eq_none.mp (by rw [h]; decide))]
      exact fold_filter xs a
theorem endsL_fold {rs : List RC} {best : List Bst} {b : Nat} : (endsL best b rs.length).foldl (stepL rs best b) none = upL rs best b (rs.length - b) := fold_filter _ _
theorem fold_ok {rs : List RC} {best : List Bst} {b k : Nat} (h : LineB rs) (hb : BstOk rs.length k best) : ∀ (xs : List Nat) (a : Bst), (∀ e ∈ xs, b < e ∧ e ≤ rs.length) → AccOk (k + 131) a → AccOk (k + 131) (xs.foldl (stepL rs best b) a)
  | [], _, _, ha => ha
  | e :: xs, a, hx, ha => by
    rw [List.foldl_cons]
    exact fold_ok h hb xs _ (fun e he => hx e (List.mem_cons_of_mem _ he)) (stepL_ok h hb (hx e List.mem_cons_self).1 (hx e List.mem_cons_self).2 ha)
theorem isNon_eB {x : Bst} : DL.isNon (eB x) = !x.isSome := by cases x <;> rfl
theorem okD_eB1 {p : Bst1} (h : p.2.length ≤ 10000) : okD (eB1 p) = true := by
  show (true && (okD (eF p.1) && (okD (.lst (p.2.map .int)) && true))) = true
  rw [show okD (.lst (p.2.map .int)) = true from okD_lst (by rw [List.length_map]; omega) (okDs_map p.2 fun _ _ => rfl)]; rfl
theorem dep_eB1 (p : Bst1) : dep (eB1 p) ≤ 2 := by
  have : deps (p.2.map D.int) ≤ 0 := deps_leM (fun _ => Nat.le_refl 0) p.2
  show max (dep (eF p.1)) (max (deps (p.2.map D.int) + 1) 0) + 1 ≤ 2
  have : dep (eF p.1) = 1 := rfl
  omega
theorem LineD.w {rs : List RC} (h : LineD rs) : EqOk (eRows rs) := eqOk_rows (by have := h.1; omega) fun r hr => by
  obtain ⟨⟨n, e, _⟩, _⟩ := h.2.2 r hr
  rw [e]; show 1 ≤ 1000000; decide
end DL
/-! ### fractions in lowest terms, by Lean's rationals -/
namespace DL
open PySem PySem.Spec L2
def frR (q : Rat) : Int × Int := (q.num, (q.den : Int))
def fQ (p : Int × Int) : Rat := (p.1 : Rat) / (p.2 : Rat)
theorem castNe {b : Int} (h : b ≠ 0) : (b : Rat) ≠ 0 := by
  intro e
  have e : (b : Rat) = ((0 : Int) : Rat) := e
  exact h (Rat.intCast_inj.mp e)
theorem castPos {b : Int} (h : 0 < b) : (0 : Rat) < (b : Rat) := by
  have : ((0 : Int) : Rat) < (b : Rat) := Rat.intCast_lt_intCast.mpr h
  exact this
theorem frR_pos (q : Rat) : 0 < (frR q).2 := by
  show (0 : Int) < (q.den : Int)
  have := q.den_pos
  omega
theorem num_eq (q : Rat) : (q.num : Rat) = q * ((q.den : Int) : Rat) := by
  have h : ((q.den : Int) : Rat) ≠ 0 := castNe (Int.ne_of_gt (frR_pos q))
  have e : (q.num : Rat) / ((q.den : Int) : Rat) = q := by
    rw [← Rat.divInt_eq_div]
    exact Rat.num_divInt_den q
  grind
theorem fQ_frR (q : Rat) : fQ (frR q) = q := by
  have h : ((q.den : Int) : Rat) ≠ 0 := castNe (Int.ne_of_gt (frR_pos q))
  show (q.num : Rat) / ((q.den : Int) : Rat) = q
  rw [num_eq q]
  grind
theorem frR_inj {x y : Rat} : frR x = frR y ↔ x = y := ⟨fun h => by rw [← fQ_frR x, h, fQ_frR], fun h => by rw [h]⟩
theorem low_rat {t b : Int} (hb : b ≠ 0) : Low t b (frR ((t : Rat) / (b : Rat))) := by
  refine ⟨frR_pos _, ?_, ?_⟩
  · have h1 := num_eq ((t : Rat) / (b : Rat))
    have h2 := castNe hb
    have h3 : ((((t : Rat) / (b : Rat)).num * b : Int) : Rat) = ((t * (((t : Rat) / (b : Rat)).den : Int) : Int) : Rat) := by
      rw [Rat.intCast_mul, Rat.intCast_mul, h1]
      grind
    exact Rat.intCast_inj.mp h3
  · exact ((t : Rat) / (b : Rat)).reduced
theorem lowF_rat {t b : Int} (hb : b ≠ 0) : lowF t b = frR ((t : Rat) / (b : Rat)) := (lowF_eq hb (low_rat hb)).symm
theorem addF_rat {p q : Int × Int} (hp : 0 < p.2) (hq : 0 < q.2) : addF p q = frR (fQ p + fQ q) := by
  unfold addF
  rw [lowF_rat (Int.ne_of_gt (Int.mul_pos hp hq))]
  congr 1
  have h1 := castNe (Int.ne_of_gt hp)
  have h2 := castNe (Int.ne_of_gt hq)
  unfold fQ
  rw [Rat.intCast_add, Rat.intCast_mul, Rat.intCast_mul, Rat.intCast_mul]
  grind
theorem mulF_rat {p q : Int × Int} (hp : 0 < p.2) (hq : 0 < q.2) : mulF p q = frR (fQ p * fQ q) := by
  unfold mulF
  rw [lowF_rat (Int.ne_of_gt (Int.mul_pos hp hq))]
  congr 1
  have h1 := castNe (Int.ne_of_gt hp)
  have h2 := castNe (Int.ne_of_gt hq)
  unfold fQ
  rw [Rat.intCast_mul, Rat.intCast_mul]
  grind
theorem addF_R (x y : Rat) : addF (frR x) (frR y) = frR (x + y) := by rw [addF_rat (frR_pos x) (frR_pos y), fQ_frR, fQ_frR]
theorem mulF_R (x y : Rat) : mulF (frR x) (frR y) = frR (x * y) := by rw [mulF_rat (frR_pos x) (frR_pos y), fQ_frR, fQ_frR]
theorem frR_int (n : Int) : frR (n : Rat) = (n, 1) := rfl
theorem lessF_rat {p q : Int × Int} (hp : 0 < p.2) (hq : 0 < q.2) : lessF p q = decide (fQ p < fQ q) := by
  unfold lessF
  have a1 := castPos hp
  have a2 := castPos hq
  have e1 : (p.1 : Rat) = fQ p * (p.2 : Rat) := by unfold fQ; grind
  have e2 : (q.1 : Rat) = fQ q * (q.2 : Rat) := by unfold fQ; grind
  have key : p.1 * q.2 < q.1 * p.2 ↔ fQ p < fQ q := by
    rw [← Rat.intCast_lt_intCast, Rat.intCast_mul, Rat.intCast_mul, e1, e2]
    have e3 : fQ p * (p.2 : Rat) * (q.2 : Rat) = fQ p * ((p.2 : Rat) * (q.2 : Rat)) := by grind
    have e4 : fQ q * (q.2 : Rat) * (p.2 : Rat) = fQ q * ((p.2 : Rat) * (q.2 : Rat)) := by grind
    rw [e3, e4]
    have pp : (0 : Rat) < (p.2 : Rat) * (q.2 : Rat) := Rat.mul_pos a1 a2
    constructor
    · intro h
      exact Rat.lt_of_mul_lt_mul_right h (Rat.le_of_lt pp)
    · intro h
      exact Rat.mul_lt_mul_of_pos_right h pp
  by_cases h : fQ p < fQ q
  · rw [decide_eq_true h, decide_eq_true (key.mpr h)]
  · rw [decide_eq_false h, decide_eq_false (fun z => h (key.mp z))]
theorem lessF_R (x y : Rat) : lessF (frR x) (frR y) = decide (x < y) := by rw [lessF_rat (frR_pos x) (frR_pos y), fQ_frR, fQ_frR]
/-- q is a whole number over D, of at most so many bits -/
def RB (D : Int) (k : Nat) (q : Rat) : Prop := ∃ n : Int, q * (D : Rat) = (n : Rat) ∧ PB k n
theorem RB.bf {D : Int} {k j : Nat} {q : Rat} (h : RB D k q) (hD : 0 < D) (hp : PB j D) (hj : j ≤ k) : BF k (frR q) := by
  obtain ⟨n, e, hn⟩ := h
  have h2 := castNe (Int.ne_of_gt hD)
  have : q = (n : Rat) / (D : Rat) := by rw [← e]; grind
  rw [this, ← lowF_rat (Int.ne_of_gt hD)]
  exact lowF_BF (Int.ne_of_gt hD) hn (hp.mono hj)
theorem RB.mono {D : Int} {k j : Nat} {q : Rat} (h : RB D k q) (hj : k ≤ j) : RB D j q := let ⟨n, e, hn⟩ := h; ⟨n, e, hn.mono hj⟩
theorem RB.add {D : Int} {k : Nat} {x y : Rat} (h : RB D k x) (g : RB D k y) : RB D (k + 1) (x + y) := by
  obtain ⟨n, e, hn⟩ := h
  obtain ⟨m, e', hm⟩ := g
  refine ⟨n + m, ?_, hn.add hm⟩
  rw [Rat.intCast_add, ← e, ← e']; grind
theorem RB.zero {D : Int} {k : Nat} : RB D k 0 := ⟨0, by grind, PB.one⟩
theorem RB.smul {D : Int} {k j : Nat} {x : Rat} {c : Int} (h : RB D k x) (hc : PB j c) : RB D (j + k) ((c : Rat) * x) := by
  obtain ⟨n, e, hn⟩ := h
  refine ⟨c * n, ?_, hc.mul hn⟩
  rw [Rat.intCast_mul, ← e]; grind
end DL
/-! ### rows shared out among middles -/
namespace DL
open PySem PySem.Spec L2
abbrev Mid := List (Int × Int)
/-- the rows that are nearest to middle j -/
noncomputable def shareM (ms : List Mid) (rs : List RC) (j : Nat) : List RC := rs.filter fun r => decide (nearM r.1 ms = j)
noncomputable def sharesM (ms : List Mid) (rs : List RC) : List (List RC) := (List.range ms.length).map (shareM ms rs)
noncomputable def movedM (w : Nat) (ms : List Mid) (rs : List RC) : List Mid := (ms.zip (sharesM ms rs)).map fun x => if x.2 = [] then x.1 else midI w x.2
theorem nearM_lt {q : List Int} {ms : List Mid} (h : 0 < ms.length) : nearM q ms < ms.length := by
  unfold nearM
  have := firstLeast_lt (ms.map fun m => farI q m) ms.length (by rw [List.length_map]; exact Nat.le_refl _) (by rw [List.length_map]; exact h)
  rw [List.length_map] at this
  exact this
theorem shareM_snoc {ms : List Mid} {rs : List RC} {r : RC} {k j : Nat} (h : rs[k]? = some r) : shareM ms (rs.take (k + 1)) j = if nearM r.1 ms = j then shareM ms (rs.take k) j ++ [r] else shareM ms (rs.take k) j := by
  unfold shareM
  rw [List.take_add_one, h, List.filter_append]
  show _ ++ List.filter _ [r] = _
  by_cases e : nearM r.1 ms = j
  · rw [if_pos e, List.filter_cons_of_pos (by exact decide_eq_true e), List.filter_nil]
  · rw [if_neg e, List.filter_cons_of_neg (by rw [decide_eq_false e]; decide), List.filter_nil, List.append_nil]
theorem sharesM_set {ms : List Mid} {rs : List RC} {r : RC} {k : Nat} (h : rs[k]? = some r) (h0 : 0 < ms.length) : sharesM ms (rs.take (k + 1)) = (sharesM ms (rs.take k)).set (nearM r.1 ms) (shareM ms (rs.take k) (nearM r.1 ms) ++ [r]) := by
  have hn := nearM_lt (q := r.1) h0
  apply List.ext_getElem?
  intro i
  unfold sharesM
  by_cases hi : i < ms.length
  · rw [List.getElem?_map, List.getElem?_range hi, List.getElem?_set]
    show some (shareM ms (rs.take (k + 1)) i) = _
    rw [shareM_snoc h]
    by_cases e : nearM r.1 ms = i
    · subst e
      rw [if_pos rfl, if_pos rfl, if_pos (by rw [List.length_map, List.length_range]; exact hi)]
    · rw [if_neg e, if_neg e, List.getElem?_map, List.getElem?_range hi]; rfl
  · rw [List.getElem?_eq_none (by rw [List.length_map, List.length_range]; omega), List.getElem?_eq_none (by rw [List.length_set, List.length_map, List.length_range]; omega)]
theorem sharesM_get {ms : List Mid} {rs : List RC} {j : Nat} (h : j < ms.length) : (sharesM ms rs)[j]? = some (shareM ms rs j) := by
  unfold sharesM
  rw [List.getElem?_map, List.getElem?_range h]; rfl
theorem sharesM_nil {ms : List Mid} : sharesM ms [] = ms.map fun _ => [] := by
  apply List.ext_getElem?
  intro i
  by_cases hi : i < ms.length
  · rw [sharesM_get hi, List.getElem?_map, List.getElem?_eq_getElem hi]; rfl
  · rw [List.getElem?_eq_none (by unfold sharesM; rw [List.length_map, List.length_range]; omega), List.getElem?_eq_none (by rw [List.length_map]; omega)]
/-- rows and middles of one width -/
def ResB (w : Nat) (rs : List RC) (ms : List Mid) : Prop := RowsB w rs ∧ rs.length ≤ 200 ∧ 1 ≤ ms.length ∧ ms.length ≤ 100 ∧ ∀ m ∈ ms, MidOk m ∧ m.length = w
theorem ResB.share {w : Nat} {rs : List RC} {ms : List Mid} (h : ResB w rs ms) {j : Nat} (hs : shareM ms rs j ≠ []) : RowsB w (shareM ms rs j) := by
  obtain ⟨⟨h1, h2, h3, h4⟩, _⟩ := h
  refine ⟨List.length_pos_iff.mpr hs, Nat.le_trans (List.length_filter_le _ _) h2, h3, fun r hr => h4 r (List.mem_filter.mp hr).1⟩
theorem midI_len {w : Nat} {rs : List RC} : (midI w rs).length = w := by unfold midI; rw [List.length_map, List.length_range]
theorem movedM_len {w : Nat} {ms : List Mid} {rs : List RC} : (movedM w ms rs).length = ms.length := by
  unfold movedM sharesM
  rw [List.length_map, List.length_zip, List.length_map, List.length_range, Nat.min_self]
theorem ResB.moved {w : Nat} {rs : List RC} {ms : List Mid} (h : ResB w rs ms) : ResB w rs (movedM w ms rs) := by
  refine ⟨h.1, h.2.1, by rw [movedM_len]; exact h.2.2.1, by rw [movedM_len]; exact h.2.2.2.1, fun m hm => ?_⟩
  unfold movedM at hm
  obtain ⟨x, hx, rfl⟩ := List.mem_map.mp hm
  obtain ⟨h1, h2⟩ := List.of_mem_zip hx
  unfold sharesM at h2
  obtain ⟨j, hj, e⟩ := List.mem_map.mp h2
  by_cases z : x.2 = []
  · rw [if_pos z]; exact h.2.2.2.2 _ h1
  · rw [if_neg z]
    rw [← e] at z ⊢
    exact ⟨(h.share z).mid, midI_len⟩
theorem ResB.near {w : Nat} {rs : List RC} {ms : List Mid} (h : ResB w rs ms) {q : List Int} (hq : ColB q) {c : Nat} {P : D → Nat → Prop} (hP : P (.int (nearM q ms)) c) : ∃ a, S_nearM.args a = [.lst (ms.map eMid), eCol q] ∧ S_nearM.pre a c ∧ ∀ d c', S_nearM.res a c d c' → P d c' :=
  nearM_call (by have := h.2.2.1; omega) (by have := h.2.2.2.1; omega) (fun m hm => (h.2.2.2.2 m hm).1) hq hP
def S_shares : FS ((Nat × List RC) × List Mid) where
  ks := [.sh, .sh]
  args p := [eRows p.1.2, .lst (p.2.map eMid)]
  pre p c := ResB p.1.1 p.1.2 p.2
  res p c d c' := d = eGroups (sharesM p.2 p.1.2) ∧ c' = c
theorem shares_call {w : Nat} {rs : List RC} {ms : List Mid} {c : Nat} {P : D → Nat → Prop} (h : ResB w rs ms) (hP : P (eGroups (sharesM ms rs)) c) : ∃ a, S_shares.args a = [eRows rs, .lst (ms.map eMid)] ∧ S_shares.pre a c ∧ ∀ d c', S_shares.res a c d c' → P d c' :=
  ⟨((w, rs), ms), rfl, h, by rintro d c' ⟨rfl, rfl⟩; exact hP⟩
def S_moved : FS ((Nat × List RC) × List Mid) where
  ks := [.sh, .sh]
  args p := [eRows p.1.2, .lst (p.2.map eMid)]
  pre p c := ResB p.1.1 p.1.2 p.2
  res p c d c' := d = .lst ((movedM p.1.1 p.2 p.1.2).map eMid) ∧ c' = c
theorem moved_call {w : Nat} {rs : List RC} {ms : List Mid} {c : Nat} {P : D → Nat → Prop} (h : ResB w rs ms) (hP : P (.lst ((movedM w ms rs).map eMid)) c) : ∃ a, S_moved.args a = [eRows rs, .lst (ms.map eMid)] ∧ S_moved.pre a c ∧ ∀ d c', S_moved.res a c d c' → P d c' :=
  ⟨((w, rs), ms), rfl, h, by rintro d c' ⟨rfl, rfl⟩; exact hP⟩
def S_resting : FS ((Nat × List RC) × List Mid) where
  ks := [.sh, .sh]
  args p := [eRows p.1.2, .lst (p.2.map eMid)]
  pre p c := ResB p.1.1 p.1.2 p.2
  res p c d c' := d = .bl (decide (movedM p.1.1 p.2 p.1.2 = p.2)) ∧ c' = c
theorem resting_call {w : Nat} {rs : List RC} {ms : List Mid} {c : Nat} {P : D → Nat → Prop} (h : ResB w rs ms) (hP : P (.bl (decide (movedM w ms rs = ms))) c) : ∃ a, S_resting.args a = [eRows rs, .lst (ms.map eMid)] ∧ S_resting.pre a c ∧ ∀ d c', S_resting.res a c d c' → P d c' :=
  ⟨((w, rs), ms), rfl, h, by rintro d c' ⟨rfl, rfl⟩; exact hP⟩
theorem eF_inj {p q : Int × Int} (e : eF p = eF q) : p = q := by
  have e : ([.int p.1, .int p.2] : List D) = [.int q.1, .int q.2] := D.tup.inj e
  simp only [List.cons.injEq, D.int.injEq, and_true] at e
  exact Prod.ext e.1 e.2
theorem map_inj {α : Type} {f : α → D} (hf : ∀ x y, f x = f y → x = y) : ∀ {xs ys : List α}, xs.map f = ys.map f → xs = ys
  | [], [], _ => rfl
  | [], _ :: _, h => by cases h
  | _ :: _, [], h => by cases h
  | x :: xs, y :: ys, h => by
    rw [List.map_cons, List.map_cons, List.cons.injEq] at h
    rw [hf x y h.1, map_inj hf h.2]
theorem eMid_inj {p q : Mid} (e : eMid p = eMid q) : p = q := map_inj (fun _ _ => eF_inj) (D.tup.inj e)
theorem eqv_dec {d e : D} {p : Prop} [Decidable p] (hd : nbD d = true) (he : nbD e = true) (h : d = e ↔ p) : (py d).eqv (py e) = decide p := by
  have := eqv_iff hd he
  rw [h] at this
  by_cases z : p
  · rw [decide_eq_true z]; exact this.mpr z
  · rw [decide_eq_false z]
    cases w : (py d).eqv (py e) with
    | true => exact absurd (this.mp w) z
    | false => rfl
theorem eqv_mids {ms ns : List Mid} : (py (.lst (ms.map eMid))).eqv (py (.lst (ns.map eMid))) = decide (ms = ns) :=
  eqv_dec (nbD_mids ms) (nbD_mids ns) ⟨fun e => map_inj (fun _ _ => eMid_inj) (D.lst.inj e), fun e => by rw [e]⟩
/-- drawn middles -/
def S_middlesM : FS (Int × Int) where
  ks := [.nl, .nl]
  args p := [.gen, .tup [.int p.1, .int p.2]]
  pre p c := 1 ≤ p.1 ∧ p.1 ≤ 5 ∧ 1 ≤ p.2 ∧ p.2 ≤ 1000 ∧ c + 2000 < LIM
  res p c d c' := ∃ ms : List Mid, d = .lst (ms.map eMid) ∧ 1 ≤ ms.length ∧ ms.length ≤ 12 ∧ (∀ m ∈ ms, (m.length : Int) = p.1 ∧ ∀ x ∈ m, BF 30 x ∧ Int.gcd x.1 x.2 = 1 ∧ x.2 ≤ 1000) ∧ c ≤ c' ∧ c' ≤ c + 2000
end DL
namespace DL
open PySem PySem.Spec L2
theorem middlesM_call {w s : Int} {c : Nat} {P : D → Nat → Prop} (h : 1 ≤ w ∧ w ≤ 5 ∧ 1 ≤ s ∧ s ≤ 1000) (hc : c + 2000 < LIM) (hP : ∀ (ms : List Mid) c', 1 ≤ ms.length → ms.length ≤ 12 → (∀ m ∈ ms, (m.length : Int) = w ∧ ∀ x ∈ m, BF 30 x ∧ Int.gcd x.1 x.2 = 1 ∧ x.2 ≤ 1000) → c ≤ c' → c' ≤ c + 2000 → P (.lst (ms.map eMid)) c') :
    ∃ a, S_middlesM.args a = [.gen, .tup [.int w, .int s]] ∧ S_middlesM.pre a c ∧ ∀ d c', S_middlesM.res a c d c' → P d c' :=
  ⟨(w, s), rfl, ⟨h.1, h.2.1, h.2.2.1, h.2.2.2, hc⟩, by rintro d c' ⟨ms, rfl, h1, h2, h3, h4, h5⟩; exact hP ms c' h1 h2 h3 h4 h5⟩
/-- a drawn fraction -/
def FrD (x : Int × Int) : Prop := BF 30 x ∧ Int.gcd x.1 x.2 = 1 ∧ x.2 ≤ 1000
theorem frD_low {t b : Int} (hb : 0 < b) (hb2 : b ≤ 1000) (ht : -100000000 ≤ t ∧ t ≤ 100000000) : FrD (lowF t b) := by
  have hl := lowF_low (t := t) (Int.ne_of_gt hb)
  have hs := lowF_size (t := t) (Int.ne_of_gt hb)
  have e : (2 : Nat) ^ 30 = 1073741824 := by decide
  refine ⟨⟨hl.1, by unfold PB; omega, by unfold PB; omega⟩, hl.2.2, ?_⟩
  have := hl.1
  omega
theorem frD_int {n : Int} (h : -100000000 ≤ n ∧ n ≤ 100000000) : FrD (n, 1) := by
  have e : (2 : Nat) ^ 30 = 1073741824 := by decide
  refine ⟨⟨Int.zero_lt_one, ?_, ?_⟩, Int.gcd_one_right _, (by decide : (1 : Int) ≤ 1000)⟩
  · show n.natAbs < _; omega
  · show (1 : Int).natAbs < _; decide
theorem midOk_D {w : Int} {m : Mid} (hw : w ≤ 5) (h : (m.length : Int) = w ∧ ∀ x ∈ m, FrD x) : MidOk m := ⟨by omega, fun x hx => (h.2 x hx).1.mono (by decide)⟩
/-- (kind, rows) -/
def S_someRows : FS Unit where
  ks := [.nl]
  args _ := [.gen]
  pre _ c := c + 4000 < LIM
  res _ c d c' := ∃ (w s : Int) (rs : List RC), d = .tup [.tup [.int w, .int s], eRows rs] ∧ (1 ≤ w ∧ w ≤ 5 ∧ 1 ≤ s ∧ s ≤ 1000) ∧ RowsD w 30 rs ∧ c ≤ c' ∧ c' ≤ c + 4000
theorem someRows_call {c : Nat} {P : D → Nat → Prop} (hc : c + 4000 < LIM) (hP : ∀ (w s : Int) rs c', (1 ≤ w ∧ w ≤ 5 ∧ 1 ≤ s ∧ s ≤ 1000) → RowsD w 30 rs → c ≤ c' → c' ≤ c + 4000 → P (.tup [.tup [.int w, .int s], eRows rs]) c') : ∃ a, S_someRows.args a = [.gen] ∧ S_someRows.pre a c ∧ ∀ d c', S_someRows.res a c d c' → P d c' :=
  ⟨(), rfl, hc, by rintro d c' ⟨w, s, rs, rfl, h1, h2, h3, h4⟩; exact hP w s rs c' h1 h2 h3 h4⟩
end DL
/-! ### rows and middles shown -/
namespace DL
open PySem PySem.Spec L2
theorem Sh.intS {n : Nat} {i : Int} (hn : 62 ≤ n) (h : -100000000 ≤ i ∧ i ≤ 100000000) : Sh 0 n (n + 1) (.int i) := Sh.int (by omega) ((PB.small (by omega)).mono hn)
theorem Sh.colN {w n : Nat} {ns : List Int} (hn : 62 ≤ n) (hl : ns.length ≤ w) (hw : w ≤ 1000) (h : ∀ x ∈ ns, -10000000 ≤ x ∧ x ≤ 10000000) : Sh 1 n (w * (n + 3) + 3) (eCol ns) :=
  Sh.tupM (k := n + 1) w hl (by omega) fun x hx => Sh.intS hn (by have := h x hx; omega)
theorem sh_rowsB {w : Nat} {rs : List RC} (h : RowsB w rs) (hl : rs.length ≤ 200) : Sh 3 110 200000 (eRows rs) := by
  refine (Sh.lstM (k := 5 * 113 + 3 + 2 + (110 + 1 + 2 + 0) + 3) 200 hl (by decide) fun r hr => ?_).mono (Nat.le_refl _) (by decide)
  obtain ⟨h1, h2, h3⟩ := h.2.2.2 r hr
  have hw := h.2.2.1
  exact (Sh.twoT (m := 1) (k := 5 * 113 + 3) (j := 110 + 1) (Sh.colN (w := 5) (by decide) (by omega) (by decide) fun x hx => h2 x hx) ((Sh.intS (by decide) (by omega)).mono (Nat.zero_le _) (Nat.le_refl _)))
theorem sh_F {n : Nat} {x : Int × Int} (h0 : 0 < n) (h : BF n x) : Sh 1 n (n + 1 + 2 + (n + 1 + 2 + 0) + 3) (eF x) := Sh.twoT (Sh.int h0 h.2.1) (Sh.int h0 h.2.2)
theorem sh_midsM {ms : List Mid} (h : ∀ m ∈ ms, MidOk m) (hl : ms.length ≤ 100) : Sh 3 110 200000 (.lst (ms.map eMid)) := by
  refine (Sh.lstM (k := 5 * (110 + 1 + 2 + (110 + 1 + 2 + 0) + 3 + 2) + 3) 100 hl (by decide) fun m hm => Sh.tupM 5 (h m hm).1 (by decide) fun x hx => sh_F (by decide) ((h m hm).2 x hx)).mono (Nat.le_refl _) (by decide)
theorem ResB.shr {w : Nat} {rs : List RC} {ms : List Mid} (h : ResB w rs ms) : Sh 3 110 200000 (eRows rs) := sh_rowsB h.1 h.2.1
theorem ResB.shm {w : Nat} {rs : List RC} {ms : List Mid} (h : ResB w rs ms) : Sh 3 110 200000 (.lst (ms.map eMid)) := sh_midsM (fun m hm => (h.2.2.2.2 m hm).1) h.2.2.2.1
theorem ResB.str {w : Nat} {rs : List RC} {ms : List Mid} (h : ResB w rs ms) : StrOk (.lst [eRows rs, .lst (ms.map eMid)]) := (h.shr.two h.shm).str (by decide) (by decide) (by decide) (by decide)
theorem ResB.sh {w : Nat} {rs : List RC} {ms : List Mid} (h : ResB w rs ms) : Sh 4 110 500000 (.lst [eRows rs, .lst (ms.map eMid)]) := (h.shr.two h.shm).mono (by decide) (by decide)
end DL
/-! ### what is lost by middles -/
namespace DL
open PySem PySem.Spec L2
def sumQ : List Rat → Rat
  | [] => 0
  | x :: r => x + sumQ r
theorem sumQ_snoc (x : Rat) : ∀ xs, sumQ (xs ++ [x]) = sumQ xs + x
  | [] => by simp only [List.nil_append, sumQ]; grind
  | y :: r => by
    rw [List.cons_append]
    simp only [sumQ]
    rw [sumQ_snoc x r]
    grind
def sqQ (n : Int) (x : Int × Int) : Rat := ((n : Rat) - fQ x) * ((n : Rat) - fQ x)
def farQ (q : List Int) (m : Mid) : Rat := sumQ ((q.zip m).map fun x => sqQ x.1 x.2)
theorem fQ_int (n : Int) : fQ (n, 1) = (n : Rat) := by
  show (n : Rat) / ((1 : Int) : Rat) = n
  have : ((1 : Int) : Rat) = 1 := rfl
  rw [this]; grind
theorem stepF_R {n : Int} {x : Int × Int} (h : 0 < x.2) : stepF n x = frR (sqQ n x) := by
  have e : fQ (-x.1, x.2) = - fQ x := by
    show ((-x.1 : Int) : Rat) / (x.2 : Rat) = - ((x.1 : Rat) / (x.2 : Rat))
    rw [Rat.intCast_neg]
    have := castNe (Int.ne_of_gt h)
    grind
  unfold stepF
  rw [addF_rat (p := (n, 1)) (q := (-x.1, x.2)) (by decide : (0:Int) < 1) h, mulF_R, fQ_int, e]
  congr 1
  unfold sqQ
  grind
theorem farL_R {xs : List (Int × (Int × Int))} (h : ∀ x ∈ xs, 0 < x.2.2) : ∀ i, farL (xs.take i) = frR (sumQ ((xs.take i).map fun x => sqQ x.1 x.2))
  | 0 => by rw [List.take_zero]; rfl
  | i + 1 => by
    cases e : xs[i]? with
    | none =>
      have hl : xs.length ≤ i := List.getElem?_eq_none_iff.mp e
      have := farL_R h i
      rw [List.take_of_length_le hl] at this
      rw [List.take_of_length_le (by omega)]
      exact this
    | some x =>
      rw [farL_take e, farL_R h i, stepF_R (h x (List.mem_of_getElem? e)), addF_R, List.take_add_one, e, List.map_append]
      show _ = frR (sumQ (_ ++ [_]))
      rw [sumQ_snoc]
theorem farI_R {q : List Int} {m : Mid} (h : ∀ x ∈ m, 0 < x.2) : farI q m = frR (farQ q m) := by
  have := farL_R (xs := q.zip m) (fun x hx => h _ (List.of_mem_zip hx).2) (q.zip m).length
  rw [List.take_length] at this
  exact this
/-- the least of them -/
noncomputable def leastQ (q : List Int) (ms : List Mid) : Rat := farQ q (ms.getD (nearM q ms) [])
theorem firstLeast_Q (xs : List Rat) : ∀ n, n ≤ xs.length → ∀ j, j < n → xs.getD (firstLeast (xs.map frR) n) 0 ≤ xs.getD j 0
  | 0, _, j, h => absurd h (Nat.not_lt_zero j)
  | n + 1, hn, j, hj => by
    have gd : ∀ i, i < xs.length → (xs.map frR).getD i (0, 1) = frR (xs.getD i 0) := fun i hi => by
      rw [List.getD_eq_getElem?_getD, List.getD_eq_getElem?_getD, List.getElem?_map, List.getElem?_eq_getElem hi]; rfl
    have fl : firstLeast (xs.map frR) n < xs.length := by
      have := firstLeast_lt (xs.map frR) n (by rw [List.length_map]; omega) (by rw [List.length_map]; omega)
      rw [List.length_map] at this
      exact this
    have ih := firstLeast_Q xs n (by omega)
    unfold firstLeast
    rw [gd n (by omega), gd _ fl, lessF_R]
    by_cases c : xs.getD n 0 < xs.getD (firstLeast (xs.map frR) n) 0
    · rw [if_pos (decide_eq_true c)]
      by_cases e : j = n
      · subst e; exact Rat.le_refl
      · have := ih j (by omega)
        grind
    · rw [if_neg (by rw [decide_eq_false c]; decide)]
      by_cases e : j = n
      · subst e; exact Rat.not_lt.mp c
      · exact ih j (by omega)
theorem leastQ_le {q : List Int} {ms : List Mid} (h : ∀ m ∈ ms, ∀ x ∈ m, 0 < x.2) {m : Mid} (hm : m ∈ ms) : leastQ q ms ≤ farQ q m := by
  obtain ⟨j, hj, rfl⟩ := List.getElem_of_mem hm
  have e : (ms.map fun m => farI q m) = (ms.map fun m => farQ q m).map frR := by
    rw [List.map_map]
    exact List.map_congr_left fun m hm => farI_R (h m hm)
  have := firstLeast_Q (ms.map fun m => farQ q m) ms.length (by rw [List.length_map]; exact Nat.le_refl _) j hj
  rw [← e] at this
  have hl := nearM_lt (q := q) (ms := ms) (by omega)
  rw [show firstLeast (ms.map fun m => farI q m) ms.length = nearM q ms from rfl] at this
  unfold leastQ
  rw [List.getD_eq_getElem?_getD, List.getElem?_eq_getElem hl]
  rw [List.getD_eq_getElem?_getD, List.getElem?_map, List.getElem?_eq_getElem hl, List.getD_eq_getElem?_getD, List.getElem?_map, List.getElem?_eq_getElem hj] at this
  exact this
theorem leastQ_mem {q : List Int} {ms : List Mid} (h : 0 < ms.length) : ∃ m, m ∈ ms ∧ ms[nearM q ms]? = some m ∧ leastQ q ms = farQ q m := by
  have hl := nearM_lt (q := q) h
  refine ⟨_, List.getElem_mem hl, List.getElem?_eq_getElem hl, ?_⟩
  unfold leastQ
  rw [List.getD_eq_getElem?_getD, List.getElem?_eq_getElem hl]; rfl
theorem leastQ_sub {q : List Int} {ms ns : List Mid} (h : ∀ m ∈ ns, ∀ x ∈ m, 0 < x.2) (h0 : 0 < ms.length) (hs : ∀ m ∈ ms, m ∈ ns) : leastQ q ns ≤ leastQ q ms := by
  obtain ⟨m, hm, _, e⟩ := leastQ_mem (q := q) h0
  rw [e]
  exact leastQ_le h (hs m hm)
noncomputable def lossQ (rs : List RC) (ms : List Mid) : Rat := sumQ (rs.map fun r => (r.2 : Rat) * leastQ r.1 ms)
noncomputable def lostM (rs : List RC) (ms : List Mid) : Int × Int := frR (lossQ rs ms)
theorem sumQ_le {α : Type} {f g : α → Rat} : ∀ {xs : List α}, (∀ x ∈ xs, f x ≤ g x) → sumQ (xs.map f) ≤ sumQ (xs.map g)
  | [], _ => Rat.le_refl
  | x :: r, h => by
    have h1 := h x List.mem_cons_self
    have h2 := sumQ_le (xs := r) fun y hy => h y (List.mem_cons_of_mem _ hy)
    simp only [List.map_cons, sumQ]
    grind
theorem sumQ_zero {α : Type} {f : α → Rat} : ∀ {xs : List α}, (∀ x ∈ xs, f x = 0) → sumQ (xs.map f) = 0
  | [], _ => rfl
  | x :: r, h => by
    have h1 := h x List.mem_cons_self
    have h2 := sumQ_zero (xs := r) fun y hy => h y (List.mem_cons_of_mem _ hy)
    simp only [List.map_cons, sumQ]
    grind
theorem smul_le {c : Int} {x y : Rat} (hc : 0 ≤ c) (h : x ≤ y) : (c : Rat) * x ≤ (c : Rat) * y := by
  have : (0 : Rat) ≤ (c : Rat) := by
    have : ((0 : Int) : Rat) ≤ (c : Rat) := Rat.intCast_le_intCast.mpr hc
    exact this
  exact Rat.mul_le_mul_of_nonneg_left h this
theorem lossQ_sub {rs : List RC} {ms ns : List Mid} (hr : ∀ r ∈ rs, 1 ≤ r.2) (h : ∀ m ∈ ns, ∀ x ∈ m, 0 < x.2) (h0 : 0 < ms.length) (hs : ∀ m ∈ ms, m ∈ ns) : lossQ rs ns ≤ lossQ rs ms :=
  sumQ_le fun r hrr => smul_le (by have := hr r hrr; omega) (leastQ_sub h h0 hs)
theorem lostM_perm {rs : List RC} {ms ns : List Mid} (hr : ∀ r ∈ rs, 1 ≤ r.2) (h : ∀ m ∈ ms, ∀ x ∈ m, 0 < x.2) (h0 : 0 < ms.length) (hs : ∀ m, m ∈ ms ↔ m ∈ ns) : lostM rs ns = lostM rs ms := by
  have h' : ∀ m ∈ ns, ∀ x ∈ m, 0 < x.2 := fun m hm => h m ((hs m).mpr hm)
  have h0' : 0 < ns.length := by
    cases ms with
    | nil => exact absurd h0 (Nat.lt_irrefl 0)
    | cons m r => exact List.length_pos_of_mem ((hs m).mp List.mem_cons_self)
  unfold lostM
  congr 1
  have a := lossQ_sub hr h' h0 fun m hm => (hs m).mp hm
  have b := lossQ_sub hr h h0' fun m hm => (hs m).mpr hm
  exact Rat.le_antisymm a b
theorem lostM_take {rs : List RC} {ms : List Mid} {k : Nat} {r : RC} (h : rs[k]? = some r) : lostM (rs.take (k + 1)) ms = frR (lossQ (rs.take k) ms + (r.2 : Rat) * leastQ r.1 ms) := by
  unfold lostM lossQ
  rw [List.take_add_one, h, List.map_append]
  congr 1
  exact sumQ_snoc _ _
/-- all bottoms squared divide one number -/
def ComD (j : Nat) (ms : List Mid) : Prop := ∃ D : Int, 0 < D ∧ PB j D ∧ ∀ m ∈ ms, ∀ x ∈ m, x.2 * x.2 ∣ D
theorem sqQ_RB {n : Int} {x : Int × Int} {D : Int} {j : Nat} (hn : -10000000 ≤ n ∧ n ≤ 10000000) (hx : BF 110 x) (hD : 0 < D) (hp : PB j D) (hd : x.2 * x.2 ∣ D) : RB D (346 + j) (sqQ n x) := by
  obtain ⟨e, rfl⟩ := hd
  have hb := hx.1
  have h0 := castNe (Int.ne_of_gt hb)
  have hnn : PB 62 n := PB.small (by show _ < n ∧ n < _; omega)
  have hstep : PB 173 (n * x.2 - x.1) := (PB.sub (hnn.mul hx.2.2) (hx.2.1.mono (by decide))).mono (by decide)
  have he : PB j e := by
    unfold PB at hp ⊢
    refine Nat.lt_of_le_of_lt ?_ hp
    rw [Int.natAbs_mul]
    exact Nat.le_mul_of_pos_left _ (by have := Int.mul_pos hb hb; omega)
  refine ⟨(n * x.2 - x.1) * (n * x.2 - x.1) * e, ?_, (hstep.mul hstep).mul he⟩
  unfold sqQ fQ
  rw [Rat.intCast_mul, Rat.intCast_mul, Rat.intCast_mul, Rat.intCast_mul, Rat.intCast_sub, Rat.intCast_mul]
  grind
theorem RB.sum {α : Type} {f : α → Rat} {D : Int} {k : Nat} : ∀ {xs : List α}, (∀ x ∈ xs, RB D k (f x)) → RB D (k + xs.length) (sumQ (xs.map f))
  | [], _ => RB.zero
  | x :: r, h => by
    have h1 := h x List.mem_cons_self
    have h2 := RB.sum (xs := r) fun y hy => h y (List.mem_cons_of_mem _ hy)
    rw [List.map_cons, List.length_cons, ← Nat.add_assoc]
    exact (h1.mono (Nat.le_add_right _ _)).add h2
/-- rows and middles whose loss can be reckoned -/
def LossB (w : Nat) (rs : List RC) (ms : List Mid) : Prop := ResB w rs ms ∧ ComD 2000 ms
theorem LossB.rb {w : Nat} {rs : List RC} {ms : List Mid} (h : LossB w rs ms) : ∃ D : Int, 0 < D ∧ PB 2000 D ∧ (∀ r ∈ rs, RB D 2351 (leastQ r.1 ms)) ∧ ∀ k, RB D 2613 (lossQ (rs.take k) ms) := by
  obtain ⟨hR, D, hD, hp, hd⟩ := h
  have h1 : ∀ r ∈ rs, RB D 2351 (leastQ r.1 ms) := fun r hr => by
    obtain ⟨m, hm, _, e⟩ := leastQ_mem (q := r.1) (ms := ms) (by have := hR.2.2.1; omega)
    have hmo := (hR.2.2.2.2 m hm).1
    have hcb := hR.1.cb hr
    rw [e]
    have hl : (r.1.zip m).length ≤ 5 := by rw [List.length_zip]; have := hmo.1; omega
    refine (DL.RB.sum (k := 346 + 2000) fun x hx => sqQ_RB (hcb.2 _ (List.of_mem_zip hx).1) (hmo.2 _ (List.of_mem_zip hx).2) hD hp (hd m hm _ (List.of_mem_zip hx).2)).mono (by omega)
  refine ⟨D, hD, hp, h1, fun k => ?_⟩
  have hl := hR.2.1
  refine (DL.RB.sum (k := 62 + 2351) fun r hr => ?_).mono (by rw [List.length_take]; omega)
  have hr := List.mem_of_mem_take hr
  have hc := (hR.1.2.2.2 r hr).2.2
  exact (h1 r hr).smul (PB.small (by show _ < r.2 ∧ r.2 < _; omega))
theorem LossB.bf {w : Nat} {rs : List RC} {ms : List Mid} (h : LossB w rs ms) (k : Nat) : BF 2613 (lostM (rs.take k) ms) := by
  obtain ⟨D, hD, hp, _, h2⟩ := h.rb
  exact (h2 k).bf hD hp (by decide)
theorem LossB.bf1 {w : Nat} {rs : List RC} {ms : List Mid} (h : LossB w rs ms) {r : RC} (hr : r ∈ rs) : BF 2351 (frR (leastQ r.1 ms)) := by
  obtain ⟨D, hD, hp, h1, _⟩ := h.rb
  exact (h1 r hr).bf hD hp (by decide)
theorem LossB.bf2 {w : Nat} {rs : List RC} {ms : List Mid} (h : LossB w rs ms) {r : RC} (hr : r ∈ rs) : BF 2413 (frR ((r.2 : Rat) * leastQ r.1 ms)) := by
  obtain ⟨D, hD, hp, h1, _⟩ := h.rb
  have hc := (h.1.1.2.2.2 r hr).2.2
  exact ((h1 r hr).smul (j := 62) (PB.small (by show _ < r.2 ∧ r.2 < _; omega))).bf hD hp (by decide)
def S_lostM : FS ((Nat × List RC) × List Mid) where
  ks := [.sh, .sh]
  args p := [eRows p.1.2, .lst (p.2.map eMid)]
  pre p c := LossB p.1.1 p.1.2 p.2
  res p c d c' := d = eF (lostM p.1.2 p.2) ∧ c' = c
theorem lostM_call {w : Nat} {rs : List RC} {ms : List Mid} {c : Nat} {P : D → Nat → Prop} (h : LossB w rs ms) (hP : P (eF (lostM rs ms)) c) : ∃ a, S_lostM.args a = [eRows rs, .lst (ms.map eMid)] ∧ S_lostM.pre a c ∧ ∀ d c', S_lostM.res a c d c' → P d c' :=
  ⟨((w, rs), ms), rfl, h, by rintro d c' ⟨rfl, rfl⟩; exact hP⟩
/-- one row's loss, the law's way and the program's -/
theorem part_R {c : Int} {x : Rat} : lowF (c * (frR x).1) (frR x).2 = frR ((c : Rat) * x) := by
  rw [lowF_rat (Int.ne_of_gt (frR_pos x)), Rat.intCast_mul]
  have := castNe (Int.ne_of_gt (frR_pos x))
  have e := num_eq x
  congr 1
  show (c : Rat) * (x.num : Rat) / ((x.den : Int) : Rat) = _
  have h : ((x.den : Int) : Rat) ≠ 0 := this
  rw [e]
  grind
theorem times_R {c : Int} {x : Rat} : mulF (c, 1) (frR x) = frR ((c : Rat) * x) := by rw [← frR_int, mulF_R]
theorem comD_list : ∀ (k : Nat) (bs : List Int), (∀ b ∈ bs, 0 < b ∧ PB k b) → ∃ D : Int, 0 < D ∧ PB ((k + k) * bs.length + 1) D ∧ ∀ b ∈ bs, b * b ∣ D
  | k, [], _ => ⟨1, by decide, by show (1 : Nat) < 2 ^ 1; decide, nofun⟩
  | k, b :: r, h => by
    obtain ⟨D, h1, h2, h3⟩ := comD_list k r fun x hx => h x (List.mem_cons_of_mem _ hx)
    obtain ⟨hb, hk⟩ := h b List.mem_cons_self
    refine ⟨b * b * D, Int.mul_pos (Int.mul_pos hb hb) h1, ?_, fun x hx => ?_⟩
    · rw [List.length_cons, Nat.mul_add, Nat.mul_one, Nat.add_comm _ (k + k), Nat.add_assoc]
      exact (hk.mul hk).mul h2
    · rcases List.mem_cons.mp hx with rfl | hx
      · exact ⟨D, rfl⟩
      · exact Int.dvd_trans (h3 x hx) ⟨b * b, Int.mul_comm _ _⟩
end DL
/-! ### hairs -/
namespace DL
open PySem PySem.Spec L2
def MsD (w : Int) (ms : List Mid) : Prop := ∀ m ∈ ms, (m.length : Int) = w ∧ ∀ x ∈ m, FrD x
theorem MsD.com {w : Int} {ms : List Mid} (h : MsD w ms) (hw : w ≤ 5) (hl : ms.length ≤ 12) : ComD 1201 ms := by
  have hb : ∀ b ∈ ms.flatMap (fun m => m.map (·.2)), 0 < b ∧ PB 10 b := fun b hb => by
    obtain ⟨m, hm, hb⟩ := List.mem_flatMap.mp hb
    obtain ⟨x, hx, rfl⟩ := List.mem_map.mp hb
    have := (h m hm).2 x hx
    have h1 := this.1.1
    have h2 := this.2.2
    refine ⟨h1, ?_⟩
    show x.2.natAbs < 2 ^ 10
    have e : (2 : Nat) ^ 10 = 1024 := by decide
    omega
  obtain ⟨D, h1, h2, h3⟩ := comD_list 10 _ hb
  have hll : ∀ (ms : List Mid), MsD w ms → (ms.flatMap (fun m => m.map (·.2))).length ≤ ms.length * 5 := fun ms => by
    induction ms with
    | nil => intro _; exact Nat.le_refl _
    | cons m r ih =>
      intro h
      rw [List.flatMap_cons, List.length_append, List.length_map, List.length_cons]
      have := ih fun m hm => h m (List.mem_cons_of_mem _ hm)
      have := (h m List.mem_cons_self).1
      omega
  refine ⟨D, h1, h2.mono ?_, fun m hm x hx => h3 _ (List.mem_flatMap.mpr ⟨m, hm, List.mem_map.mpr ⟨x, hx, rfl⟩⟩)⟩
  have := hll ms h
  omega
/-- middles that the law asks of -/
def MsB (w : Int) (ms : List Mid) : Prop := 1 ≤ ms.length ∧ ms.length ≤ 13 ∧ (∀ m ∈ ms, MidOk m ∧ (m.length : Int) = w) ∧ ComD 1900 ms
theorem MsD.b {w : Int} {ms : List Mid} (h : MsD w ms) (hw : w ≤ 5) (h1 : 1 ≤ ms.length) (h2 : ms.length ≤ 12) : MsB w ms :=
  ⟨h1, by omega, fun m hm => ⟨midOk_D hw (h m hm), (h m hm).1⟩, let ⟨D, a, b, c⟩ := h.com hw h2; ⟨D, a, b.mono (by decide), c⟩⟩
theorem MsB.loss {w : Nat} {rs : List RC} {ms : List Mid} (h : MsB (w : Int) ms) (hr : RowsB w rs) (hl : rs.length ≤ 200) : LossB w rs ms :=
  ⟨⟨hr, hl, h.1, by have := h.2.1; omega, fun m hm => ⟨(h.2.2.1 m hm).1, by have := (h.2.2.1 m hm).2; omega⟩⟩, let ⟨D, a, b, c⟩ := h.2.2.2; ⟨D, a, b.mono (by decide), c⟩⟩
theorem MsB.pos {w : Int} {ms : List Mid} (h : MsB w ms) : ∀ m ∈ ms, ∀ x ∈ m, 0 < x.2 := fun m hm x hx => ((h.2.2.1 m hm).1.2 x hx).1
theorem MsB.rev {w : Int} {ms : List Mid} (h : MsB w ms) : MsB w ms.reverse :=
  ⟨by rw [List.length_reverse]; exact h.1, by rw [List.length_reverse]; exact h.2.1, fun m hm => h.2.2.1 m (List.mem_reverse.mp hm), let ⟨D, a, b, c⟩ := h.2.2.2; ⟨D, a, b, fun m hm => c m (List.mem_reverse.mp hm)⟩⟩
def oneM (q : List Int) : Mid := q.map fun n => (n, 1)
theorem oneM_ok {w : Int} {q : List Int} (hw : w ≤ 5) (h : (q.length : Int) = w) (hb : ∀ n ∈ q, -10000000 ≤ n ∧ n ≤ 10000000) : MidOk (oneM q) ∧ ((oneM q).length : Int) = w :=
  ⟨mid_one ⟨by omega, hb⟩, by unfold oneM; rw [List.length_map]; exact h⟩
theorem MsB.one {w : Int} {ms : List Mid} {q : List Int} (h : MsB w ms) (hw : w ≤ 5) (hl : ms.length ≤ 12) (hq : Col w q) : MsB w (ms ++ [oneM q]) := by
  obtain ⟨h1, h2, h3, D, a, b, c⟩ := h
  refine ⟨by rw [List.length_append]; omega, by rw [List.length_append]; show ms.length + 1 ≤ 13; omega, fun m hm => ?_, D, a, b, fun m hm x hx => ?_⟩
  · rcases List.mem_append.mp hm with hm | hm
    · exact h3 m hm
    · cases List.mem_singleton.mp hm
      exact oneM_ok hw hq.1 fun n hn => by have := hq.2 n hn; omega
  · rcases List.mem_append.mp hm with hm | hm
    · exact c m hm x hx
    · cases List.mem_singleton.mp hm
      obtain ⟨n, _, rfl⟩ := List.mem_map.mp hx
      exact ⟨D, by omega⟩
theorem ones_b {w : Int} {qs : List (List Int)} (hw : w ≤ 5) (h1 : 1 ≤ qs.length) (h2 : qs.length ≤ 13) (hq : ∀ q ∈ qs, Col w q) : MsB w (qs.map oneM) := by
  refine ⟨by rw [List.length_map]; exact h1, by rw [List.length_map]; exact h2, fun m hm => ?_, 1, by decide, (PB.small (i := 1) (by decide)).mono (by decide), fun m hm x hx => ?_⟩
  · obtain ⟨q, hqm, rfl⟩ := List.mem_map.mp hm
    exact oneM_ok hw (hq q hqm).1 fun n hn => by have := (hq q hqm).2 n hn; omega
  · obtain ⟨q, hqm, rfl⟩ := List.mem_map.mp hm
    obtain ⟨n, _, rfl⟩ := List.mem_map.mp hx
    exact ⟨1, rfl⟩
theorem farQ_self : ∀ q : List Int, farQ q (oneM q) = 0
  | [] => rfl
  | n :: r => by
    have := farQ_self r
    unfold farQ oneM at this ⊢
    rw [List.map_cons, List.zip_cons_cons, List.map_cons]
    simp only [sumQ]
    rw [this]
    unfold sqQ
    rw [fQ_int]
    grind
theorem sqQ_nn {n : Int} {x : Int × Int} : (0 : Rat) ≤ sqQ n x := by
  unfold sqQ
  generalize ((n : Rat) - fQ x) = y
  rcases (Rat.le_total : (0 : Rat) ≤ y ∨ y ≤ 0) with h | h
  · exact Rat.mul_nonneg h h
  · have : (0 : Rat) ≤ -y := by grind
    have := Rat.mul_nonneg this this
    grind
theorem sumQ_nn {α : Type} {f : α → Rat} : ∀ {xs : List α}, (∀ x ∈ xs, 0 ≤ f x) → 0 ≤ sumQ (xs.map f)
  | [], _ => Rat.le_refl
  | x :: r, h => by
    have h1 := h x List.mem_cons_self
    have h2 := sumQ_nn (xs := r) fun y hy => h y (List.mem_cons_of_mem _ hy)
    simp only [List.map_cons, sumQ]
    grind
theorem farQ_nn {q : List Int} {m : Mid} : (0 : Rat) ≤ farQ q m := sumQ_nn fun _ _ => sqQ_nn
theorem leastQ_nn {q : List Int} {ms : List Mid} (h : 0 < ms.length) : (0 : Rat) ≤ leastQ q ms := by
  obtain ⟨m, _, _, e⟩ := leastQ_mem (q := q) h
  rw [e]; exact farQ_nn
theorem lostM_own {rs : List RC} {ms : List Mid} (h0 : 0 < rs.length) (hm : ms = rs.map fun r => oneM r.1) : lostM rs ms = (0, 1) := by
  unfold lostM lossQ
  rw [sumQ_zero fun r hr => ?_]
  · rfl
  · have hp : ∀ m ∈ ms, ∀ x ∈ m, 0 < x.2 := fun m hmm x hx => by
      subst hm
      obtain ⟨q, _, rfl⟩ := List.mem_map.mp hmm
      obtain ⟨n, _, rfl⟩ := List.mem_map.mp hx
      exact Int.zero_lt_one
    have a := leastQ_le (q := r.1) hp (m := oneM r.1) (by rw [hm]; exact List.mem_map.mpr ⟨r, hr, rfl⟩)
    have b := leastQ_nn (q := r.1) (ms := ms) (by rw [hm, List.length_map]; exact h0)
    rw [farQ_self] at a
    have : leastQ r.1 ms = 0 := Rat.le_antisymm a b
    rw [this]; grind
theorem lostM_more {rs : List RC} {ms : List Mid} {m : Mid} (hr : ∀ r ∈ rs, 1 ≤ r.2) (h : ∀ m' ∈ ms ++ [m], ∀ x ∈ m', 0 < x.2) (h0 : 0 < ms.length) : lessF (lostM rs ms) (lostM rs (ms ++ [m])) = false := by
  have := lossQ_sub hr h h0 fun m hm => List.mem_append_left _ hm
  unfold lostM
  rw [lessF_R]
  exact decide_eq_false (by grind)
/-- two hairs beside a colour -/
def HairOk (h : Int × Int) : Prop := h = (0, 1) ∨ h = (1, 1000000000000000009) ∨ h = (-1, 1000000000000000009) ∨ h = (1, 1000000000000000000000000000057)
theorem hairs_b {w : Int} {ms ns : List Mid} {q : List Int} {n s : Int} {h : Int × Int} (hm : MsD w ms) (hw : w ≤ 5) (hl : ms.length ≤ 10) (hq : Col w (n :: q)) (hs : 1 ≤ s ∧ s ≤ 3) (hh : HairOk h)
    (h1 : 1 ≤ ns.length) (h2 : ns.length ≤ 13) (hn : ∀ m ∈ ns, m ∈ ms ∨ m = addF (n + s, 1) h :: oneM q ∨ m = (n - s, 1) :: oneM q) : MsB w ns := by
  have e110 : (2 : Nat) ^ 110 = 1298074214633706907132624082305024 := by decide
  have hn0 := hq.2 n List.mem_cons_self
  have hb : 0 < h.2 ∧ PB 110 h.2 ∧ PB 110 ((n + s) * h.2 + h.1 * 1) := by
    unfold PB
    rcases hh with rfl | rfl | rfl | rfl <;> exact ⟨by decide, by rw [e110]; decide, by rw [e110]; dsimp only; omega⟩
  have hA : BF 110 (addF (n + s, 1) h) ∧ (addF (n + s, 1) h).2 ∣ h.2 := by
    unfold addF
    rw [show (1 : Int) * h.2 = h.2 from Int.one_mul _]
    refine ⟨lowF_BF (Int.ne_of_gt hb.1) hb.2.2 hb.2.1, ?_⟩
    have hlow := lowF_low (t := (n + s) * h.2 + h.1 * 1) (Int.ne_of_gt hb.1)
    obtain ⟨a, b, c⟩ := hlow
    generalize lowF ((n + s, 1).1 * h.2 + h.1 * (n + s, 1).2) h.2 = p at a b c ⊢
    have b : p.1 * h.2 = ((n + s) * h.2 + h.1 * 1) * p.2 := b
    have : p.2 ∣ p.1 * h.2 := ⟨_, by rw [b]; exact Int.mul_comm _ _⟩
    have h2 := Int.natAbs_dvd_natAbs.mpr this
    rw [Int.natAbs_mul] at h2
    have c2 : Nat.Coprime p.2.natAbs p.1.natAbs := by
      show Nat.gcd _ _ = 1
      rw [Nat.gcd_comm]; exact c
    exact Int.natAbs_dvd_natAbs.mp (c2.dvd_of_dvd_mul_left h2)
  obtain ⟨D, d1, d2, d3⟩ := hm.com hw (by omega)
  have hlen : ((q.length + 1 : Nat) : Int) = w := hq.1
  have hqb : ∀ x ∈ oneM q, BF 110 x ∧ x.2 = 1 := fun x hx => by
    obtain ⟨y, hy, rfl⟩ := List.mem_map.mp hx
    have := hq.2 y (List.mem_cons_of_mem _ hy)
    exact ⟨⟨Int.zero_lt_one, (PB.small (by show _ < y ∧ y < _; omega)).mono (by decide), (PB.small (i := 1) (by decide)).mono (by decide)⟩, rfl⟩
  have hol : (oneM q).length = q.length := List.length_map _
  refine ⟨h1, h2, fun m hmm => ?_, D * (h.2 * h.2), Int.mul_pos d1 (Int.mul_pos hb.1 hb.1), (d2.mul (hb.2.1.mul hb.2.1)).mono (by decide), fun m hmm x hx => ?_⟩
  · rcases hn m hmm with z | rfl | rfl
    · exact ⟨midOk_D hw (hm m z), (hm m z).1⟩
    · refine ⟨⟨by rw [List.length_cons, hol]; omega, fun x hx => ?_⟩, by rw [List.length_cons, hol]; exact hlen⟩
      rcases List.mem_cons.mp hx with rfl | hx
      · exact hA.1
      · exact (hqb x hx).1
    · refine ⟨⟨by rw [List.length_cons, hol]; omega, fun x hx => ?_⟩, by rw [List.length_cons, hol]; exact hlen⟩
      rcases List.mem_cons.mp hx with rfl | hx
      · exact ⟨Int.zero_lt_one, (PB.small (by show _ < n - s ∧ n - s < _; omega)).mono (by decide), (PB.small (i := 1) (by decide)).mono (by decide)⟩
      · exact (hqb x hx).1
  · rcases hn m hmm with z | rfl | rfl
    · exact Int.dvd_trans (d3 m z x hx) ⟨_, rfl⟩
    · rcases List.mem_cons.mp hx with rfl | hx
      · exact Int.dvd_trans (Int.mul_dvd_mul hA.2 hA.2) ⟨D, Int.mul_comm _ _⟩
      · rw [(hqb x hx).2]; exact ⟨_, (Int.one_mul _).symm⟩
    · rcases List.mem_cons.mp hx with rfl | hx
      · exact ⟨_, (Int.one_mul _).symm⟩
      · rw [(hqb x hx).2]; exact ⟨_, (Int.one_mul _).symm⟩
def S_hairs : FS ((Int × List RC) × List Mid) where
  ks := [.nl, .sh, .sh]
  args p := [.gen, eRows p.1.2, .lst (p.2.map eMid)]
  pre p c := 1 ≤ p.1.1 ∧ p.1.1 ≤ 5 ∧ RowsD p.1.1 30 p.1.2 ∧ (1 ≤ p.2.length ∧ p.2.length ≤ 12) ∧ MsD p.1.1 p.2 ∧ c + 10 < LIM
  res p c d c' := ∃ ns : List Mid, d = .lst (ns.map eMid) ∧ MsB p.1.1 ns ∧ ns.length ≤ 12 ∧ c ≤ c' ∧ c' ≤ c + 10
theorem hairs_call {w : Int} {rs : List RC} {ms : List Mid} {c : Nat} {P : D → Nat → Prop} (h : 1 ≤ w ∧ w ≤ 5) (hr : RowsD w 30 rs) (hl : 1 ≤ ms.length ∧ ms.length ≤ 12) (hm : MsD w ms) (hc : c + 10 < LIM)
    (hP : ∀ ns c', MsB w ns → ns.length ≤ 12 → c ≤ c' → c' ≤ c + 10 → P (.lst (ns.map eMid)) c') : ∃ a, S_hairs.args a = [.gen, eRows rs, .lst (ms.map eMid)] ∧ S_hairs.pre a c ∧ ∀ d c', S_hairs.res a c d c' → P d c' :=
  ⟨((w, rs), ms), rfl, ⟨h.1, h.2, hr, hl, hm, hc⟩, by rintro d c' ⟨ns, rfl, h1, h2, h3, h4⟩; exact hP ns c' h1 h2 h3 h4⟩
end DL
/-! ### xs.append((a, ys.pop(n))) -/
namespace DL
open PySem PySem.Spec L2
section
variable {K : PySem.W.Frag} {i j a : Nat}
def rAppPop (i a j : Nat) (re : RE) : RS := fun Dd Γ c => ∃ (xs fs : List D) (n : Int), gat Γ i = some ⟨.own, .lst xs⟩ ∧ gat Γ j = some ⟨.own, .lst fs⟩ ∧ gat Γ a = some ⟨.nl, .int n⟩ ∧ i ≠ j ∧ xs.length < 1000000 ∧
  re Γ c fun y _ c2 => match y with
    | .int z => -(2 ^ 63) ≤ z ∧ z < 2 ^ 63 ∧ ∃ k e, ixN fs.length z = some k ∧ fs[k]? = some (.int e) ∧ Dd.nx (gset (gset Γ j (some ⟨.own, .lst (fs.eraseIdx k)⟩)) i (some ⟨.own, .lst (xs ++ [.tup [.int n, .int e]])⟩)) c2
    | _ => False
theorem plc_own {B : Bx} {Γ : GE} {c : Nat} {σ : L2.St} {H : Hp} {v : V} {xs : List D} (_ : Env K B Γ c σ H) (gi : gat Γ i = some ⟨.own, .lst xs⟩) (hv : σ[i]? = some (some v)) : Plc B Γ σ H i v (.lst xs) (fun x => x) .own := ⟨.lst xs, v, [], gi, rfl, nofun, hv, rfl, rfl, fun _ => rfl⟩
theorem sd_appPop {te : TE} {re : RE} (he : ED K te re) : SD K (tDrop (tBM K "list" L2.rAppend (tVar i) (tCons (tTup (tCons (tVar a) (tCons (tBM K "list" rPopAt (tVar j) (tCons te tNil)) tNil))) tNil))) (rAppPop i a j re) := by
  intro en hd Dd D L B Γ c σ H h1 h3 E q
  obtain ⟨xs, fs, n, gi, gj, ga, ij, hlen, q⟩ := q
  obtain ⟨v, fv, hv, rv, _⟩ := E.slot i _ gi
  have pi : Plc B Γ σ H i v (.lst xs) (fun x => x) .own := ⟨.lst xs, v, [], gi, rfl, nofun, hv, rfl, rfl, fun _ => rfl⟩
  obtain ⟨ai, vi, fi, evi, eai, _⟩ := pi.lst E
  obtain ⟨w, fw, hw, rw_, _⟩ := E.slot a _ ga
  obtain ⟨u, fu, hu, ru, _⟩ := E.slot j _ gj
  have pj : Plc B Γ σ H j u (.lst fs) (fun x => x) .own := ⟨.lst fs, u, [], gj, rfl, nofun, hu, rfl, rfl, fun _ => rfl⟩
  obtain ⟨aj, vj, fj, evj, eaj, _⟩ := pj.lst E
  subst evi; subst evj
  refine ⟨_, hv, .inl ⟨rfl, vi, SqL.of eai⟩, w, hw, _, hu, .inl ⟨rfl, vj, SqL.of eaj⟩, ?_⟩
  refine he B Γ c σ H _ _ E q fun y H2 dy ky c2 x q => ?_
  have E2 := E.ext x.ext x.gens
  have p2 := pj.ext E x.ext
  obtain ⟨fy, ry, _⟩ := x.rp
  split at q
  · rename_i z
    obtain ⟨q1, q2, k, e, hk, hke, q⟩ := q
    obtain ⟨a', vs', w', f0, ea', eb, hl, hw', B', b1, b2, b3, b4⟩ := p2.take E2 hke
    cases ea'
    refine ⟨aj, vs', z, k, w', rfl, by rw [ry.int], eb, q1, q2, by rw [hl]; exact seqIx_of hk, hw', ?_⟩
    refine ⟨by show 2 ≤ sizeLine; rw [sizeLine_eq]; decide, fun p hp => ?_⟩
    have E4 := b2.ext (Ext.same (same_upd hp (o := .tup [w, w']))) (b2.gens.same (same_upd hp))
    have gi4 : gat (gset Γ j (some ⟨.own, .lst (fs.eraseIdx k)⟩)) i = some ⟨.own, .lst xs⟩ := by rw [gat_gset_ne ij]; exact gi
    obtain ⟨v4, fv4, hv4, _, _⟩ := E4.slot i _ gi4
    cases hv.symm.trans hv4
    have p4 := plc_own E4 gi4 hv
    obtain ⟨a4, vs4, f4, e4, eb4, rs4, nd4, of4, oa4, mk4⟩ := p4.lst E4
    cases e4
    have rw1 : w = .int n := rw_.int
    have rw2 : w' = .int e := b3.1
    subst rw1; subst rw2
    have re4 : Rp K B'.F (upd (upd H2 aj (.lst (vs'.eraseIdx k))) p (.tup [.int n, .int e])) (.tup [.int n, .int e]) (.ref p) [] := by
      rw [Rp]
      exact ⟨p, _, rfl, upd_same, ⟨_, _, [], [], rfl, rfl, by rw [Rp]; exact ⟨rfl, rfl⟩, ⟨_, _, [], [], rfl, rfl, by rw [Rp]; exact ⟨rfl, rfl⟩, ⟨rfl, rfl⟩⟩⟩⟩
    obtain ⟨B5, c1, c3, _⟩ := mk4 (xs ++ [.tup [.int n, .int e]]) (vs4 ++ [.ref p]) f4 [] [] Inc.nil (fun _ h => nomatch h) (by have := rs4.append (Rps.one re4); rwa [List.append_nil] at this) (List.nodup_cons.mp nd4).2 (fun x hx => .inl hx)
    obtain ⟨w1, w3⟩ := (b1.trans c1).to h1 h3
    exact ⟨_, vs4, .ref p, rfl, rfl, eb4, by rw [rs4.length]; have := sizeLine_eq; omega, L.nx B5 _ c2 σ _ w1 w3 c3 q⟩
  · exact q.elim
end
end DL
/-! ### the price of a change of palettes -/
namespace DL
open PySem PySem.Spec L2
def ColsD (w : Int) (m : Nat) (cs : List (List Int)) : Prop := 1 ≤ cs.length ∧ cs.length ≤ m ∧ ∀ ns ∈ cs, Col w ns
def S_fewC : FS ((Int × Int) × Int) where
  ks := [.nl, .nl, .nl]
  args p := [.gen, .tup [.int p.1.1, .int p.1.2], .int p.2]
  pre p c := (1 ≤ p.1.1 ∧ p.1.1 ≤ 5 ∧ 1 ≤ p.1.2 ∧ p.1.2 ≤ 1000) ∧ (1 ≤ p.2 ∧ p.2 ≤ 20) ∧ c + 400 < LIM
  res p c d c' := ∃ cs, d = .lst (cs.map eCol) ∧ ColsD p.1.1 p.2.toNat cs ∧ c ≤ c' ∧ c' ≤ c + 400
theorem fewC_call {w s m : Int} {c : Nat} {P : D → Nat → Prop} (h : 1 ≤ w ∧ w ≤ 5 ∧ 1 ≤ s ∧ s ≤ 1000) (hm : 1 ≤ m ∧ m ≤ 20) (hc : c + 400 < LIM) (hP : ∀ cs c', ColsD w m.toNat cs → c ≤ c' → c' ≤ c + 400 → P (.lst (cs.map eCol)) c') :
    ∃ a, S_fewC.args a = [.gen, .tup [.int w, .int s], .int m] ∧ S_fewC.pre a c ∧ ∀ d c', S_fewC.res a c d c' → P d c' :=
  ⟨((w, s), m), rfl, ⟨h, hm, hc⟩, by rintro d c' ⟨cs, rfl, h1, h2, h3⟩; exact hP cs c' h1 h2 h3⟩
def S_twoC : FS Int where
  ks := [.nl, .nl]
  args m := [.gen, .int m]
  pre m c := (1 ≤ m ∧ m ≤ 20) ∧ c + 1000 < LIM
  res m c d c' := ∃ (w : Int) (os qs : List (List Int)), d = .tup [.lst (os.map eCol), .lst (qs.map eCol)] ∧ (1 ≤ w ∧ w ≤ 5) ∧ ColsD w m.toNat os ∧ ColsD w m.toNat qs ∧ c ≤ c' ∧ c' ≤ c + 1000
theorem twoC_call {m : Int} {c : Nat} {P : D → Nat → Prop} (hm : 1 ≤ m ∧ m ≤ 20) (hc : c + 1000 < LIM) (hP : ∀ (w : Int) os qs c', (1 ≤ w ∧ w ≤ 5) → ColsD w m.toNat os → ColsD w m.toNat qs → c ≤ c' → c' ≤ c + 1000 → P (.tup [.lst (os.map eCol), .lst (qs.map eCol)]) c') :
    ∃ a, S_twoC.args a = [.gen, .int m] ∧ S_twoC.pre a c ∧ ∀ d c', S_twoC.res a c d c' → P d c' :=
  ⟨m, rfl, ⟨hm, hc⟩, by rintro d c' ⟨w, os, qs, rfl, h1, h2, h3, h4, h5⟩; exact hP w os qs c' h1 h2 h3 h4 h5⟩
/-- two palettes of one width -/
def TwoB (w : Int) (os qs : List (List Int)) : Prop := (1 ≤ w ∧ w ≤ 5) ∧ ColsD w 20 os ∧ ColsD w 20 qs
def S_price : FS ((Int × List (List Int)) × List (List Int)) where
  ks := [.nl, .sh, .sh]
  args p := [.gen, .lst (p.1.2.map eCol), .lst (p.2.map eCol)]
  pre p c := TwoB p.1.1 p.1.2 p.2 ∧ c + 10 < LIM
  res p c d c' := ∃ n : Int, d = .int n ∧ 0 ≤ n ∧ n ≤ 10000000 ∧ c ≤ c' ∧ c' ≤ c + 10
theorem price_call {w : Int} {os qs : List (List Int)} {c : Nat} {P : D → Nat → Prop} (h : TwoB w os qs) (hc : c + 10 < LIM) (hP : ∀ n c', 0 ≤ n ∧ n ≤ 10000000 → c ≤ c' → c' ≤ c + 10 → P (.int n) c') :
    ∃ a, S_price.args a = [.gen, .lst (os.map eCol), .lst (qs.map eCol)] ∧ S_price.pre a c ∧ ∀ d c', S_price.res a c d c' → P d c' :=
  ⟨((w, os), qs), rfl, ⟨h, hc⟩, by rintro d c' ⟨n, rfl, h1, h2, h3, h4⟩; exact hP n c' ⟨h1, h2⟩ h3 h4⟩
abbrev Prs := List (Nat × Nat)
def ePr (p : Nat × Nat) : D := .tup [.int p.1, .int p.2]
def ePrs (ps : Prs) : D := .lst (ps.map ePr)
theorem noL_Pr (p : Nat × Nat) : noL (ePr p) = true := id rfl
theorem noLs_Prs (ps : Prs) : noLs (ps.map ePr) = true := noLs_map noL_Pr ps
def PrsB (os qs : List (List Int)) (ps : Prs) : Prop := ps.length ≤ os.length ∧ ∀ p ∈ ps, p.1 < os.length ∧ p.2 < qs.length
def trnI (os qs : List (List Int)) (p : Nat × Nat) : Int := apartI (os.getD p.1 []) (qs.getD p.2 [])
def costI (os qs : List (List Int)) (n : Int) (ps : Prs) : Int := (ps.map (trnI os qs)).sum + n * ((os.length : Int) + qs.length - 2 * ps.length)
def S_costI : FS (((Int × Int) × Prs) × (List (List Int) × List (List Int))) where
  ks := [.sh, .sh, .nl, .sh]
  args p := [.lst (p.2.1.map eCol), .lst (p.2.2.map eCol), .int p.1.1.2, ePrs p.1.2]
  pre p c := TwoB p.1.1.1 p.2.1 p.2.2 ∧ (0 ≤ p.1.1.2 ∧ p.1.1.2 ≤ 10000000) ∧ PrsB p.2.1 p.2.2 p.1.2
  res p c d c' := d = .int (costI p.2.1 p.2.2 p.1.1.2 p.1.2) ∧ c' = c
theorem costI_call {w n : Int} {os qs : List (List Int)} {ps : Prs} {c : Nat} {P : D → Nat → Prop} (h : TwoB w os qs) (hn : 0 ≤ n ∧ n ≤ 10000000) (hp : PrsB os qs ps) (hP : P (.int (costI os qs n ps)) c) :
    ∃ a, S_costI.args a = [.lst (os.map eCol), .lst (qs.map eCol), .int n, ePrs ps] ∧ S_costI.pre a c ∧ ∀ d c', S_costI.res a c d c' → P d c' :=
  ⟨(((w, n), ps), (os, qs)), rfl, ⟨h, hn, hp⟩, by rintro d c' ⟨rfl, rfl⟩; exact hP⟩
def S_pairs : FS (List (List Int) × List (List Int)) where
  ks := [.nl, .sh, .sh]
  args p := [.gen, .lst (p.1.map eCol), .lst (p.2.map eCol)]
  pre p c := p.1.length ≤ 20 ∧ p.2.length ≤ 20 ∧ c + 100 < LIM
  res p c d c' := ∃ ps, d = ePrs ps ∧ PrsB p.1 p.2 ps ∧ c ≤ c' ∧ c' ≤ c + 100
theorem pairs_call {os qs : List (List Int)} {c : Nat} {P : D → Nat → Prop} (h1 : os.length ≤ 20) (h2 : qs.length ≤ 20) (hc : c + 100 < LIM) (hP : ∀ ps c', PrsB os qs ps → c ≤ c' → c' ≤ c + 100 → P (ePrs ps) c') :
    ∃ a, S_pairs.args a = [.gen, .lst (os.map eCol), .lst (qs.map eCol)] ∧ S_pairs.pre a c ∧ ∀ d c', S_pairs.res a c d c' → P d c' :=
  ⟨(os, qs), rfl, ⟨h1, h2, hc⟩, by rintro d c' ⟨ps, rfl, h1, h2, h3⟩; exact hP ps c' h1 h2 h3⟩
theorem atI_cols {cs : List (List Int)} {k : Nat} (h : k < cs.length) : atI (cs.map eCol) (k : Nat) = some (eCol (cs.getD k [])) := by
  unfold atI ixN
  rw [List.length_map, if_pos (by omega), if_pos (by omega), Int.toNat_natCast]
  show (cs.map eCol)[k]? = _
  rw [List.getElem?_map, List.getD_eq_getElem?_getD, List.getElem?_eq_getElem h]; rfl
theorem getD_col {w : Int} {cs : List (List Int)} {k : Nat} (hc : ∀ ns ∈ cs, Col w ns) (h : k < cs.length) : Col w (cs.getD k []) := by
  rw [List.getD_eq_getElem?_getD, List.getElem?_eq_getElem h]
  exact hc _ (List.getElem_mem h)
theorem sqsum_le {m : Nat} : ∀ {xs : List (Int × Int)}, xs.length ≤ m → (∀ p ∈ xs, 0 ≤ p.1 ∧ p.1 ≤ 1000 ∧ 0 ≤ p.2 ∧ p.2 ≤ 1000) → 0 ≤ (xs.map fun p => (p.1 - p.2) * (p.1 - p.2)).sum ∧ (xs.map fun p => (p.1 - p.2) * (p.1 - p.2)).sum ≤ 1000000 * xs.length
  | [], _, _ => ⟨Int.le_refl _, Int.le_refl _⟩
  | p :: r, hl, h => by
    obtain ⟨h1, h2⟩ := sqsum_le (m := m) (xs := r) (by rw [List.length_cons] at hl; omega) fun q hq => h q (List.mem_cons_of_mem _ hq)
    obtain ⟨a1, a2, a3, a4⟩ := h p List.mem_cons_self
    rw [List.map_cons, List.sum_cons, List.length_cons]
    have e1 : 0 ≤ (p.1 - p.2) * (p.1 - p.2) := by
      rcases Int.le_total 0 (p.1 - p.2) with z | z
      · exact Int.mul_nonneg z z
      · exact Int.mul_nonneg_of_nonpos_of_nonpos z z
    have e2 : (p.1 - p.2) * (p.1 - p.2) ≤ 1000 * 1000 := by
      rcases Int.le_total 0 (p.1 - p.2) with z | z
      · exact Int.mul_le_mul (by omega) (by omega) z (by decide)
      · have := Int.mul_le_mul (a := p.2 - p.1) (b := p.2 - p.1) (c := 1000) (d := 1000) (by omega) (by omega) (by omega) (by decide)
        have e : (p.1 - p.2) * (p.1 - p.2) = (p.2 - p.1) * (p.2 - p.1) := by grind
        omega
    generalize (p.1 - p.2) * (p.1 - p.2) = z at e1 e2
    omega
theorem apartI_bd {w : Int} {x y : List Int} (hw : w ≤ 5) (hx : Col w x) (hy : Col w y) : 0 ≤ apartI x y ∧ apartI x y ≤ 5000000 := by
  have hl : (x.zip y).length ≤ 5 := by rw [List.length_zip]; have := hx.1; omega
  have := sqsum_le (m := 5) hl fun p hp => by
    have h1 := hx.2 _ (List.of_mem_zip hp).1
    have h2 := hy.2 _ (List.of_mem_zip hp).2
    omega
  unfold apartI
  omega
end DL
namespace DL
open PySem PySem.Spec L2
theorem sh_nats {fs : List Nat} {n : Nat} (h : ∀ x ∈ fs, x < n) (hl : fs.length ≤ 20) (hn : n ≤ 20) : Sh 1 62 2000 (.lst (fs.map fun x : Nat => .int x)) :=
  (Sh.lstM (k := 63) 20 hl (by decide) fun x hx => Sh.int (by decide) (PB.small (by have := h x hx; omega))).mono (Nat.le_refl _) (by decide)
theorem eqOk_prs {os qs : List (List Int)} {ps : Prs} (h : PrsB os qs ps) (h1 : os.length ≤ 20) (h2 : qs.length ≤ 20) : Sh 2 62 5000 (ePrs ps) :=
  (Sh.lstM (k := 62 + 1 + 2 + (62 + 1 + 2 + 0) + 3) 20 (by have := h.1; omega) (by decide) fun p hp => Sh.twoT (Sh.int (by decide) (PB.small (by have := (h.2 p hp).1; omega))) (Sh.int (by decide) (PB.small (by have := (h.2 p hp).2; omega)))).mono (Nat.le_refl _) (by decide)
end DL
namespace DL
theorem eraseIdx_mapD {α : Type} (f : α → D) : ∀ (xs : List α) (k : Nat), (xs.map f).eraseIdx k = (xs.eraseIdx k).map f
  | [], _ => rfl
  | _ :: _, 0 => rfl
  | x :: r, k + 1 => by
    rw [List.map_cons, List.eraseIdx_cons_succ, List.eraseIdx_cons_succ, List.map_cons, eraseIdx_mapD f r k]
end DL
namespace DL
open PySem PySem.Spec L2
theorem nbD_prs (ps : Prs) : nbD (.lst (ps.map ePr)) = true := nbDs_map (f := ePr) (fun _ => rfl) ps
theorem nbD_two (os qs : List (List Int)) : nbD (.tup [.lst (os.map eCol), .lst (qs.map eCol)]) = true := by
  show (nbD (.lst (os.map eCol)) && (nbD (.lst (qs.map eCol)) && true)) = true
  rw [nbD_cols, nbD_cols]; rfl
theorem TwoB.sh {w : Int} {os qs : List (List Int)} (h : TwoB w os qs) : EqOk (.tup [.lst (os.map eCol), .lst (qs.map eCol)]) :=
  (Sh.twoT (sh_pal h.2.1.2.2 (by have := h.2.1.2.1; omega) h.1.2) (sh_pal h.2.2.2.2 (by have := h.2.2.2.1; omega) h.1.2)).eq (by decide)
end DL
namespace LW
open PySem PySem.Spec L2 DL
local macro_rules | `(tactic| solve_by_elim [$[$xs:term],*]) => `(tactic| simp (maxSteps := 3000000) only [↓u_rVar, ↓rvr_nl, ↓rvr_sh, ↓rvr_own, ↓rvr_byr, ↓rvr_s, ↓u_gat0, ↓u_gatS, ↓u_gset0, ↓u_gsetS, ↓u_kills0, ↓u_killsS, ↓u_rC, ↓u_rOp, ↓u_rUn, ↓u_rCB, ↓u_rNil, ↓u_rCons, ↓u_rCall, ↓u_rCallS, ↓u_rTup, ↓u_rLst, ↓u_rTest, ↓u_rtAnd, ↓u_rtOr, ↓u_rtNot, ↓u_rAndV, ↓u_rOrV, ↓u_rNotV, ↓u_rIf, ↓u_rChain, ↓u_rSl, ↓u_roNone, ↓u_roSome, ↓u_rRev, ↓u_rLRng1, ↓u_rLRng2, ↓u_rPick, ↓u_rDNew, ↓u_rDGet2, ↓u_rDGet1, ↓u_rSortIt, ↓u_rIdx, ↓u_rYes, ↓u_rIxG, ↓u_rSetG, ↓u_rNext, ↓u_rBreak, ↓u_rCont, ↓u_rRet, ↓u_rRetS, ↓u_rRetN, ↓u_rDrop, ↓u_rIfS, ↓u_rAsg, ↓u_rAug, ↓u_rFrz, ↓u_rPar, ↓u_rParR, ↓u_rPar3, ↓u_rMkGen, ↓u_rpVar, ↓pvr_own, ↓pvr_byr, ↓pvr_s, ↓u_rpIx, ↓u_rApp, ↓u_rpApp, ↓u_rpSetA, ↓u_rRvs, ↓u_rpRvs, ↓u_rpPopAt, ↓u_rpPop, ↓u_rpIns, ↓u_rpExt, ↓u_rpClr, ↓u_rgDrop, ↓u_rgName, ↓sto_nl, ↓sto_own, ↓sto_S, ↓into_nl, ↓into_own, ↓u_dI, ↓u_dI0, ↓u_dU, ↓u_addI, ↓u_addL, ↓u_addT, ↓u_addS, ↓u_mulI, ↓u_mulL, ↓u_mulS, ↓u_div, ↓u_mod, ↓u_ixL, ↓u_ixT, ↓u_ixM, ↓u_ixR, ↓u_ixD, ↓u_ixF0, ↓u_ixF1, ↓u_ixRC0, ↓u_ixRC1, ↓u_ixC, ↓u_at0, ↓u_at1, ↓u_at2, ↓u_at3, ↓u_slL, ↓u_slT, ↓u_slC, ↓u_slR, ↓u_slS, ↓u_eqI, ↓u_neI, ↓u_eqB, ↓u_neB, ↓u_isN, ↓u_isB, ↓u_inL, ↓u_inT, ↓u_inM, ↓u_inD, ↓u_lenL, ↓u_lenT, ↓u_lenC, ↓u_lenM, ↓u_lenR, ↓u_lenS, ↓u_n1, ↓u_n2, ↓u_intI, ↓u_intB, ↓u_intS, ↓u_sum, ↓u_sumA, ↓u_all, ↓u_listL, ↓u_listT, ↓u_listC, ↓u_listR, ↓u_tupL, ↓u_tupT, ↓u_isi, ↓u_isi2, ↓u_sortG, ↓u_riRng1, ↓u_riRng2, ↓u_riSeq, ↓u_riZip, ↓u_riZip3, ↓u_riEnum, ↓u_pick, ↓u_mix, ↓u_shOk0, ↓u_shOk, ↓unl2, ↓u_rTupN, ↓u_rLstN, ↓u_sortL, ↓tup2I, ↓u_strI, ↓u_strL, ↓u_strT, ↓u_eqSS, ↓u_neSS, ↓u_rMeth, ↓u_rMethS, ↓u_rMake, ↓u_rpFld, ↓u_rSetF, ↓u_fldP, ↓u_setX, ↓u_fld, ↓u_isO, ↓u_g0, ↓u_gS, ↓fldQ_no, ↓fldQ_shr, ↓intoF_nl, ↓intoF_own, ↓intoF_S, ↓u_cmpD, ↓tup1, ↓tup2, ↓tup2F, ↓tup2R, ↓tup3, frz_at, stK_S, stK_R, stK0_R, kR_R, isR_S, noL_int, noL_bl, noL_str, noL_non, noL_gen, noL_scr, noL_tup, noL_mt, noL_lst, noL_dct, noLs_nil, noLs_cons, nsD_int, nsD_bl, nsD_str, nsD_non, nsD_tup, nsD_lst, nsDs_nil, nsDs_cons, seqD_l, seqD_t, seqD_c, seqD_m, seqD_r, seqS_l, seqS_t, seqS_c, seqS_m, seqS_r, ng_int, NG_nil, NG_cons, ng_col, ng_mid, ng_F, ng_RC, nsD_F, cmb_RRi, noLs_rng, stK_Rc, noL_eF, noL_eRow, noL_ePic, itK_ft, itK_ff, itK_t, EqOkT, eqv_int, EqOkB, eqvB, beq_self_eq_true, noL_eNum, noLs_num, nsD_eRow, nsD_ePic, nsD_eNum, ng_pic, ng_eRow, ng_eNums, ng_eNum, ng_rows, ng_box, noL_eT, noLs_F, noL_FM, noL_groups, ng_groups, nsD_groups, noL_IC, ng_IC, noL_eNums, nsD_eNums, strNe, strEq, noL_oD, nsD_oD, ng_oD, isShr_int, isShr_lst, isShr_tup, isShr_non, isShr_bl, isShr_str, isShr_dct, isShr_oD, setL0, setLz, setLs, noL_shr, List.set_cons_zero, List.set_cons_succ, List.not_mem_nil, stK0_Sd, noL_rows, u_eq, u_ne, noLs_ints, noL_col, noL_mid, noLs_mid, noLs_cols, noLs_mids, noL_F, noL_RC, noLs_RC, noL_box, nsD_box, nsD_col, nsD_mid, nsDs_ints, nsDs_mid, nsDs_cols, nsD_RC, nsDs_RC, noLs_mapA, nsDs_mapA, allT, List.length_cons, List.length_nil, List.length_map, List.map_cons, List.map_nil, if_true, if_false, Bool.true_and, Bool.and_true, Bool.true_or, Bool.or_true, Bool.false_or, Bool.or_false, Bool.false_and, Bool.and_false, ne_eq, reduceCtorEq, not_false_eq_true, not_true_eq_false, true_and, and_true, and_self, forall_const, cmbs_nil, cmbs_R, cmbs_S, cmb_RR, cmb_SS, cmb_RS, cmb_SR, isR_R, Nat.reduceAdd, Nat.reduceLeDiff, Nat.zero_add, Nat.reduceEqDiff, Bool.false_eq_true, reduceIte, Bool.not_true, Bool.not_false, decide_eq_true_eq, implies_true, zip_typ, zip3_typ, enum_typ, isi_tuple, isi_list, isi_int, isi_bool, isi_str, okTy_tuple, okTy_list, okTy_int, okTy_bool, okTy_str, decide_true, decide_false, Bool.not_eq_true, $[$xs:term],*])
local macro_rules | `(tactic| solve_by_elim* [$[$xs:term],*]) => `(tactic| simp (maxSteps := 3000000) only [↓u_rVar, ↓rvr_nl, ↓rvr_sh, ↓rvr_own, ↓rvr_byr, ↓rvr_s, ↓u_gat0, ↓u_gatS, ↓u_gset0, ↓u_gsetS, ↓u_kills0, ↓u_killsS, ↓u_rC, ↓u_rOp, ↓u_rUn, ↓u_rCB, ↓u_rNil, ↓u_rCons, ↓u_rCall, ↓u_rCallS, ↓u_rTup, ↓u_rLst, ↓u_rTest, ↓u_rtAnd, ↓u_rtOr, ↓u_rtNot, ↓u_rAndV, ↓u_rOrV, ↓u_rNotV, ↓u_rIf, ↓u_rChain, ↓u_rSl, ↓u_roNone, ↓u_roSome, ↓u_rRev, ↓u_rLRng1, ↓u_rLRng2, ↓u_rPick, ↓u_rDNew, ↓u_rDGet2, ↓u_rDGet1, ↓u_rSortIt, ↓u_rIdx, ↓u_rYes, ↓u_rIxG, ↓u_rSetG, ↓u_rNext, ↓u_rBreak, ↓u_rCont, ↓u_rRet, ↓u_rRetS, ↓u_rRetN, ↓u_rDrop, ↓u_rIfS, ↓u_rAsg, ↓u_rAug, ↓u_rFrz, ↓u_rPar, ↓u_rParR, ↓u_rPar3, ↓u_rMkGen, ↓u_rpVar, ↓pvr_own, ↓pvr_byr, ↓pvr_s, ↓u_rpIx, ↓u_rApp, ↓u_rpApp, ↓u_rpSetA, ↓u_rRvs, ↓u_rpRvs, ↓u_rpPopAt, ↓u_rpPop, ↓u_rpIns, ↓u_rpExt, ↓u_rpClr, ↓u_rgDrop, ↓u_rgName, ↓sto_nl, ↓sto_own, ↓sto_S, ↓into_nl, ↓into_own, ↓u_dI, ↓u_dI0, ↓u_dU, ↓u_addI, ↓u_addL, ↓u_addT, ↓u_addS, ↓u_mulI, ↓u_mulL, ↓u_mulS, ↓u_div, ↓u_mod, ↓u_ixL, ↓u_ixT, ↓u_ixM, ↓u_ixR, ↓u_ixD, ↓u_ixF0, ↓u_ixF1, ↓u_ixRC0, ↓u_ixRC1, ↓u_ixC, ↓u_at0, ↓u_at1, ↓u_at2, ↓u_at3, ↓u_slL, ↓u_slT, ↓u_slC, ↓u_slR, ↓u_slS, ↓u_eqI, ↓u_neI, ↓u_eqB, ↓u_neB, ↓u_isN, ↓u_isB, ↓u_inL, ↓u_inT, ↓u_inM, ↓u_inD, ↓u_lenL, ↓u_lenT, ↓u_lenC, ↓u_lenM, ↓u_lenR, ↓u_lenS, ↓u_n1, ↓u_n2, ↓u_intI, ↓u_intB, ↓u_intS, ↓u_sum, ↓u_sumA, ↓u_all, ↓u_listL, ↓u_listT, ↓u_listC, ↓u_listR, ↓u_tupL, ↓u_tupT, ↓u_isi, ↓u_isi2, ↓u_sortG, ↓u_riRng1, ↓u_riRng2, ↓u_riSeq, ↓u_riZip, ↓u_riZip3, ↓u_riEnum, ↓u_pick, ↓u_mix, ↓u_shOk0, ↓u_shOk, ↓unl2, ↓u_rTupN, ↓u_rLstN, ↓u_sortL, ↓tup2I, ↓u_strI, ↓u_strL, ↓u_strT, ↓u_eqSS, ↓u_neSS, ↓u_rMeth, ↓u_rMethS, ↓u_rMake, ↓u_rpFld, ↓u_rSetF, ↓u_fldP, ↓u_setX, ↓u_fld, ↓u_isO, ↓u_g0, ↓u_gS, ↓fldQ_no, ↓fldQ_shr, ↓intoF_nl, ↓intoF_own, ↓intoF_S, ↓u_cmpD, ↓tup1, ↓tup2, ↓tup2F, ↓tup2R, ↓tup3, frz_at, stK_S, stK_R, stK0_R, kR_R, isR_S, noL_int, noL_bl, noL_str, noL_non, noL_gen, noL_scr, noL_tup, noL_mt, noL_lst, noL_dct, noLs_nil, noLs_cons, nsD_int, nsD_bl, nsD_str, nsD_non, nsD_tup, nsD_lst, nsDs_nil, nsDs_cons, seqD_l, seqD_t, seqD_c, seqD_m, seqD_r, seqS_l, seqS_t, seqS_c, seqS_m, seqS_r, ng_int, NG_nil, NG_cons, ng_col, ng_mid, ng_F, ng_RC, nsD_F, cmb_RRi, noLs_rng, stK_Rc, noL_eF, noL_eRow, noL_ePic, itK_ft, itK_ff, itK_t, EqOkT, eqv_int, EqOkB, eqvB, beq_self_eq_true, noL_eNum, noLs_num, nsD_eRow, nsD_ePic, nsD_eNum, ng_pic, ng_eRow, ng_eNums, ng_eNum, ng_rows, ng_box, noL_eT, noLs_F, noL_FM, noL_groups, ng_groups, nsD_groups, noL_IC, ng_IC, noL_eNums, nsD_eNums, strNe, strEq, noL_oD, nsD_oD, ng_oD, isShr_int, isShr_lst, isShr_tup, isShr_non, isShr_bl, isShr_str, isShr_dct, isShr_oD, setL0, setLz, setLs, noL_shr, List.set_cons_zero, List.set_cons_succ, List.not_mem_nil, stK0_Sd, noL_rows, u_eq, u_ne, noLs_ints, noL_col, noL_mid, noLs_mid, noLs_cols, noLs_mids, noL_F, noL_RC, noLs_RC, noL_box, nsD_box, nsD_col, nsD_mid, nsDs_ints, nsDs_mid, nsDs_cols, nsD_RC, nsDs_RC, nsDs_mapA, allT, List.length_cons, List.length_nil, List.length_map, List.map_cons, List.map_nil, if_true, if_false, Bool.true_and, Bool.and_true, Bool.true_or, Bool.or_true, Bool.false_or, Bool.or_false, Bool.false_and, Bool.and_false, ne_eq, reduceCtorEq, not_false_eq_true, not_true_eq_false, true_and, and_true, and_self, forall_const, cmbs_nil, cmbs_R, cmbs_S, cmb_RR, cmb_SS, cmb_RS, cmb_SR, isR_R, Nat.reduceAdd, Nat.reduceLeDiff, Nat.zero_add, Nat.reduceEqDiff, Bool.false_eq_true, reduceIte, Bool.not_true, Bool.not_false, decide_eq_true_eq, implies_true, zip_typ, zip3_typ, enum_typ, isi_tuple, isi_list, isi_int, isi_bool, isi_str, okTy_tuple, okTy_list, okTy_int, okTy_bool, okTy_str, decide_true, decide_false, Bool.not_eq_true, $[$xs:term],*])
def topS (i : Nat) : Stmt := PySem.Challenge.pw_fewcolours_k68_what_a_change_costs.main.body.getD i (.Pass ⟨0, 0, 0, 0⟩)
section
variable {P : Program} {w : World} {K : PySem.W.Frag} {mg : Str → Option Value} {base : Heap}
abbrev s__law_left : Stmt := topS 6
theorem sc__law_left : FnScope ["script", "k", "cell"] ["script", "k"] (defScope s__law_left) := ⟨rfl, rfl, rfl, by decide +kernel, rfl, by decide +kernel, by decide +kernel⟩
theorem ok__law_left {f : Addr} {fd : FuncData} (F : Fun K "_law_left" "_law_left" s__law_left f fd) (NB : Bn mg) : FnG P w K mg base CX0 1 f fd ["script", "k"] (SpF K S_left) := by
  refine fn_ok F sc__law_left rfl (by decide) (fun a c h => ?_) (fun cdv A outer s H Q E hr => ⟨_, _, (pss_cons (ps_set (i := 2) sc__law_left.nd rfl (by first | exact Or.inl rfl | exact Or.inr rfl) (pe_ifExp (pt_cmpR op_lt (pv 1) (pe_callB call_len (by rfl) (NB "len" (by decide)) (by decide +kernel) (pa_cons (pv 0) pa_nil)) (nomark _)) (pe_ix (ix_any hr.units) (pv 0) (pv 1) (fun _ _ => rfl)) pe_int))
      (pss_one (ps_ret (pe_lst (pa_cons (pe_op op_mulA (pe_callB call_abs (by rfl) (NB "abs" (by decide)) (by decide +kernel) (pa_cons (pv 2) pa_nil)) (pe_callTy call_intA (by rfl) (NB "int" (by decide)) (by decide +kernel) (pa_cons (pe_cmpR op_ge (pe_callB call_abs (by rfl) (NB "abs" (by decide)) (by decide +kernel) (pa_cons (pv 2) pa_nil)) (pe_op op_pow pe_int pe_int) (nomark _)) pa_nil))) (pa_cons (pe_op op_addA (pv 2) (pe_op op_mulA pe_int (pv 1))) (pa_cons pe_int pa_nil))))))),
    (sd_seq (sd_asg (ed_if (td_test (ed_op v_rB0 (ed_var 1) (ed_cb v_len (ad_cons (ed_var 0) ad_nil)))) (ed_op v_ix (ed_var 0) (ed_var 1)) ed_int) (gd_name 2))
      (sd_ret (ed_lst (ad_cons (ed_op v_mul (ed_cb v_n1 (ad_cons (ed_var 2) ad_nil)) (ed_cb v_int (ad_cons (ed_op v_rB0 (ed_cb v_n1 (ad_cons (ed_var 2) ad_nil)) (ed_op v_rI ed_int ed_int)) ad_nil))) (ad_cons (ed_op v_add (ed_var 2) (ed_op v_mul ed_int (ed_var 1))) (ad_cons ed_int ad_nil)))))), fun a c h => ?_⟩)
  · exact ⟨rfl, rfl, trivial⟩
  · obtain ⟨ns, k⟩ := a
    obtain ⟨h0, h1⟩ := h
    have h0 : 0 ≤ k := h0
    have h1 : k < 1000000000 := h1
    simp only [rSeq, rAsg, rOp, rUn, rVar, rC, rCB, rNil, rCons, rCall, rTup, rLst, rRet, rRetN, rNext, rIfS, rTest, rtAnd, rtOr, rtNot, rAndV, rOrV, rNotV, rIf, rAug, rDrop, rPar, rIxG, rSetG, rApp, IntoOk, riSeq, riRng1, riRng2, riZip, riEnum, rSl, roNone, roSome, dSl, dLen, dInt, dN1, dN2, dSum, dAllA, dTuple, dList, dIsiA, dEq, dNe, dIsN, DL.isNon, rChain, rBreak, rCont, gat, gset, kills, frz, dIsB, rPar3, Γ0, dMod, dDiv, dI, dI0, dMul, dAdd, dU, dIx, rgName, tup1, tup2, tup3, tup2F, stoInt, stoF, stoC, stoM, StoreOk, noL, noLs, itK, stK, List.length_cons, List.length_nil, List.map_cons, List.map_nil, List.replicate, if_true, if_false, Bool.true_and, Bool.and_true, Bool.true_or, Bool.or_true, Bool.false_or, Bool.or_false, ne_eq, reduceCtorEq, not_false_eq_true, true_and, and_true, cmbs_nil, cmbs_R, isR_R, elOk_R, Nat.reduceAdd, Nat.reduceLeDiff, Nat.zero_add, NG, isData, isDatas, eF, noLs_ints, noL_col, noLs_mid, noL_mid, noLs_cols, Bool.false_eq_true, reduceIte, Bool.not_true, Bool.not_false, false_and, and_self, forall_const, imp_self, false_implies, Nat.reduceEqDiff, decide_eq_true_eq, implies_true, mix_iff, pick_iff, eqOk_int, eqOk_bl, eqv_int, eqv_bl, isi_tuple, isi_list, isi_int, isi_bool, isi_str, okTy_tuple, okTy_list, okTy_int, okTy_bool, okTy_str, at0, at1, rRev, dMinA, dMinL, dMinP, dSortP, rRvs, rpRvs, rpVar, rpApp, rpIx, seqD_lst, seqD_tup, seqD_scr, seqS_lst, seqS_tup, seqS_scr, riZip3, nsD, nsDs, nsDs_ints, nsD_col, nsD_mid, nsDs_mid, nsDs_cols, kR, nsDs_mapA, allT, seqD_col, seqD_mid, seqS_col, seqS_mid, noLs_mids, zip_typ, zip3_typ, enum_typ, rLRng1, rLRng2, rpSet, rpSetA, rDNew, rDGet1, rDGet2, rSortIt, dSortG, rIdx, rpPopAt, rpPop, rpIns, rpExt, rpClr, rgDrop, rPick, rFrz, rMkGen, Bool.false_and, Bool.and_false, noL_box, nsD_box, rParR, kk, cmb_RR, cmb_SS, cmb_RS, cmb_SR, cmbs_S, rRetS, rCallS, shOk, stK0, List.getD_cons_zero, List.getD_cons_succ, S_left]
    have p2 : (2:Int)^64 = 18446744073709551616 := by decide
    have cp : CPow 10 18 := by unfold CPow; decide
    have go : ∀ cell : Int, DL.MulB (if cell < 0 then -cell else cell) (if (10:Int) ^ Int.toNat 18 ≤ if cell < 0 then -cell else cell then 1 else 0) ∧ DL.MulB 1000003 k ∧
        ∃ x y, D.lst [.int ((if cell < 0 then -cell else cell) * (if (10:Int) ^ Int.toNat 18 ≤ if cell < 0 then -cell else cell then 1 else 0)), .int (cell + 1000003 * k), .int 0] = .lst [.int x, .int y, .int 0] ∧ 0 ≤ x := fun cell => by
      refine ⟨.inl (.inr ?_), .inl (.inl (by omega)), _, _, rfl, ?_⟩
      · split <;> omega
      · apply Int.mul_nonneg
        · split <;> omega
        · split <;> omega
    split
    · rename_i hk
      obtain ⟨n, hn, e⟩ := atI_mem h0 hk
      exact ⟨n, e, cp, go n⟩
    · exact ⟨cp, go 0⟩
abbrev s__law_mix : Stmt := topS 5
theorem sc__law_mix : FnScope ["cell", "k", "m"] ["cell", "k"] (defScope s__law_mix) := ⟨rfl, rfl, rfl, by decide +kernel, rfl, by decide +kernel, by decide +kernel⟩
theorem ok__law_mix {f : Addr} {fd : FuncData} (F : Fun K "_law_mix" "_law_mix" s__law_mix f fd) (NB : Bn mg) : FnG P w K mg base CX0 1 f fd ["cell", "k"] (SpF K S_mix) := by
  refine fn_ok F sc__law_mix rfl (by decide) (fun a c h => ?_) (fun cdv A outer s H Q E hr => ⟨_, _, (pss_cons (ps_set (i := 2) sc__law_mix.nd rfl (by first | exact Or.inl rfl | exact Or.inr rfl) (pe_op op_mod (pe_op op_mulA (pe_op op_addA (pe_op op_addA (pe_op op_mod (pv 0) pe_int) (pe_op op_mulA (pe_op op_mulA (pv 1) (pv 1)) pe_int)) pe_int) pe_int) pe_int))
      (pss_one (ps_ret (pe_op op_mod (pe_op op_mulA (pv 2) (pv 2)) pe_int)))),
    (sd_seq (sd_asg (ed_op v_mod (ed_op v_mul (ed_op v_add (ed_op v_add (ed_op v_mod (ed_var 0) ed_int) (ed_op v_mul (ed_op v_mul (ed_var 1) (ed_var 1)) ed_int)) ed_int) ed_int) ed_int) (gd_name 2))
      (sd_ret (ed_op v_mod (ed_op v_mul (ed_var 2) (ed_var 2)) ed_int))), fun a c h => ?_⟩)
  · exact ⟨rfl, rfl, trivial⟩
  · obtain ⟨x, k⟩ := a
    obtain ⟨h0, h1⟩ := h
    have h0 : 0 ≤ k := h0
    have h1 : k < 2000000000000000000 := h1
    simp only [rSeq, rAsg, rOp, rUn, rVar, rC, rCB, rNil, rCons, rCall, rTup, rLst, rRet, rRetN, rNext, rIfS, rTest, rtAnd, rtOr, rtNot, rAndV, rOrV, rNotV, rIf, rAug, rDrop, rPar, rIxG, rSetG, rApp, IntoOk, riSeq, riRng1, riRng2, riZip, riEnum, rSl, roNone, roSome, dSl, dLen, dInt, dN1, dN2, dSum, dAllA, dTuple, dList, dIsiA, dEq, dNe, dIsN, DL.isNon, rChain, rBreak, rCont, gat, gset, kills, frz, dIsB, rPar3, Γ0, dMod, dDiv, dI, dI0, dMul, dAdd, dU, dIx, rgName, tup1, tup2, tup3, tup2F, stoInt, stoF, stoC, stoM, StoreOk, noL, noLs, itK, stK, List.length_cons, List.length_nil, List.map_cons, List.map_nil, List.replicate, if_true, if_false, Bool.true_and, Bool.and_true, Bool.true_or, Bool.or_true, Bool.false_or, Bool.or_false, ne_eq, reduceCtorEq, not_false_eq_true, true_and, and_true, cmbs_nil, cmbs_R, isR_R, elOk_R, Nat.reduceAdd, Nat.reduceLeDiff, Nat.zero_add, NG, isData, isDatas, eF, noLs_ints, noL_col, noLs_mid, noL_mid, noLs_cols, Bool.false_eq_true, reduceIte, Bool.not_true, Bool.not_false, false_and, and_self, forall_const, imp_self, false_implies, Nat.reduceEqDiff, decide_eq_true_eq, implies_true, mix_iff, pick_iff, eqOk_int, eqOk_bl, eqv_int, eqv_bl, isi_tuple, isi_list, isi_int, isi_bool, isi_str, okTy_tuple, okTy_list, okTy_int, okTy_bool, okTy_str, at0, at1, rRev, dMinA, dMinL, dMinP, dSortP, rRvs, rpRvs, rpVar, rpApp, rpIx, seqD_lst, seqD_tup, seqD_scr, seqS_lst, seqS_tup, seqS_scr, riZip3, nsD, nsDs, nsDs_ints, nsD_col, nsD_mid, nsDs_mid, nsDs_cols, kR, nsDs_mapA, allT, seqD_col, seqD_mid, seqS_col, seqS_mid, noLs_mids, zip_typ, zip3_typ, enum_typ, rLRng1, rLRng2, rpSet, rpSetA, rDNew, rDGet1, rDGet2, rSortIt, dSortG, rIdx, rpPopAt, rpPop, rpIns, rpExt, rpClr, rgDrop, rPick, rFrz, rMkGen, Bool.false_and, Bool.and_false, noL_box, nsD_box, rParR, kk, cmb_RR, cmb_SS, cmb_RS, cmb_SR, cmbs_S, rRetS, rCallS, shOk, stK0, List.getD_cons_zero, List.getD_cons_succ, S_mix, DivOk, DL.MulB]
    have hkk : 0 ≤ k * k := Int.mul_nonneg h0 h0
    have p2 : (2:Int)^64 = 18446744073709551616 := by decide
    refine ⟨by decide, .inl (.inl (by omega)), .inl (.inr (by omega)), .inl (.inr (by omega)), by decide, .inl (.inl (by omega)), by decide, _, rfl, ?_, ?_⟩
    · exact Int.emod_nonneg _ (by decide)
    · exact Int.emod_lt_of_pos _ (by decide)
abbrev s__law_pick : Stmt := topS 7
theorem sc__law_pick : FnScope ["left", "many", "digit"] ["left", "many"] (defScope s__law_pick) := ⟨rfl, rfl, rfl, by decide +kernel, rfl, by decide +kernel, by decide +kernel⟩
theorem ok__law_pick {f : Addr} {fd : FuncData} (F : Fun K "_law_pick" "_law_pick" s__law_pick f fd) {f__law_mix : Addr} {fd__law_mix : FuncData} (A__law_mix : FnAt P w K mg base 1 "_law_mix" ["cell", "k"] (SpF K S_mix) f__law_mix fd__law_mix) (NB : Bn mg) : FnG P w K mg base CX0 2 f fd ["left", "many"] (SpF K S_pick) := by
  refine fn_ok F sc__law_pick rfl (by decide) (fun a c h => ?_) (fun cdv A outer s H Q E hr => ⟨_, _, (pss_cons (ps_asg (pe_op op_addA (pe_ix (ix_any hr.units) (pv 0) pe_int (fun _ _ => rfl)) pe_int) (pg_sub (pv 0) pe_int set_list))
      (pss_cons (ps_if (pt_cmpR op_gt (pe_ix (ix_any hr.units) (pv 0) pe_int (fun _ _ => rfl)) pe_int (nomark _)) (pss_cons (ps_set (i := 2) sc__law_pick.nd rfl (by first | exact Or.inl rfl | exact Or.inr rfl) (pe_op op_mod (pe_ix (ix_any hr.units) (pv 0) pe_int (fun _ _ => rfl)) (pv 1)))
      (pss_cons (ps_asg (pe_op op_divA (pe_ix (ix_any hr.units) (pv 0) pe_int (fun _ _ => rfl)) (pv 1)) (pg_sub (pv 0) pe_int set_list))
      (pss_one (ps_ret (pv 2))))) pss_nil)
      (pss_one (ps_ret (pe_op op_mod (pe_op op_divA (pe_callG A__law_mix.ok (hr.mono (by decide)) (by rfl) A__law_mix.g A__law_mix.kp A__law_mix.b pass0 (pa_cons (pe_callG A__law_mix.ok (hr.mono (by decide)) (by rfl) A__law_mix.g A__law_mix.kp A__law_mix.b pass0 (pa_cons (pe_ix (ix_any hr.units) (pv 0) pe_int (fun _ _ => rfl)) (pa_cons (pe_ix (ix_any hr.units) (pv 0) pe_int (fun _ _ => rfl)) pa_nil))) (pa_cons (pe_op op_addA (pe_ix (ix_any hr.units) (pv 0) pe_int (fun _ _ => rfl)) pe_int) pa_nil))) pe_int) (pv 1)))))),
    (sd_seq (sd_setG (i := 0) (j := 2) (by decide) (ed_op v_add (ed_ixG (i := 0) (j := 2) (by decide)) ed_int))
      (sd_seq (sd_if (td_test (ed_op v_rB0 (ed_ixG (i := 0) (j := 0) (by decide)) ed_int)) (sd_seq (sd_asg (ed_op v_mod (ed_ixG (i := 0) (j := 0) (by decide)) (ed_var 1)) (gd_name 2))
      (sd_seq (sd_setG (i := 0) (j := 0) (by decide) (ed_op v_div (ed_ixG (i := 0) (j := 0) (by decide)) (ed_var 1)))
      (sd_ret (ed_var 2)))) sd_next)
      (sd_ret (ed_op v_mod (ed_op v_div (ed_call (ad_cons (ed_call (ad_cons (ed_ixG (i := 0) (j := 1) (by decide)) (ad_cons (ed_ixG (i := 0) (j := 2) (by decide)) ad_nil))) (ad_cons (ed_op v_add (ed_ixG (i := 0) (j := 2) (by decide)) ed_int) ad_nil))) ed_int) (ed_var 1))))), fun a c h => ?_⟩)
  · exact ⟨rfl, rfl, trivial⟩
  · obtain ⟨h0, h1, h2⟩ := h
    simp only [rSeq, rAsg, rOp, rUn, rVar, rC, rCB, rNil, rCons, rCall, rTup, rLst, rRet, rRetN, rNext, rIfS, rTest, rtAnd, rtOr, rtNot, rAndV, rOrV, rNotV, rIf, rAug, rDrop, rPar, rIxG, rSetG, rApp, IntoOk, riSeq, riRng1, riRng2, riZip, riEnum, rSl, roNone, roSome, dSl, dLen, dInt, dN1, dN2, dSum, dAllA, dTuple, dList, dIsiA, dEq, dNe, dIsN, DL.isNon, rChain, rBreak, rCont, gat, gset, kills, frz, dIsB, rPar3, Γ0, dMod, dDiv, dI, dI0, dMul, dAdd, dU, dIx, rgName, tup1, tup2, tup3, tup2F, stoInt, stoF, stoC, stoM, StoreOk, noL, noLs, itK, stK, List.length_cons, List.length_nil, List.map_cons, List.map_nil, List.replicate, if_true, if_false, Bool.true_and, Bool.and_true, Bool.true_or, Bool.or_true, Bool.false_or, Bool.or_false, ne_eq, reduceCtorEq, not_false_eq_true, true_and, and_true, cmbs_nil, cmbs_R, isR_R, elOk_R, Nat.reduceAdd, Nat.reduceLeDiff, Nat.zero_add, NG, isData, isDatas, eF, noLs_ints, noL_col, noLs_mid, noL_mid, noLs_cols, Bool.false_eq_true, reduceIte, Bool.not_true, Bool.not_false, false_and, and_self, forall_const, imp_self, false_implies, Nat.reduceEqDiff, decide_eq_true_eq, implies_true, mix_iff, pick_iff, eqOk_int, eqOk_bl, eqv_int, eqv_bl, isi_tuple, isi_list, isi_int, isi_bool, isi_str, okTy_tuple, okTy_list, okTy_int, okTy_bool, okTy_str, at0, at1, rRev, dMinA, dMinL, dMinP, dSortP, rRvs, rpRvs, rpVar, rpApp, rpIx, seqD_lst, seqD_tup, seqD_scr, seqS_lst, seqS_tup, seqS_scr, riZip3, nsD, nsDs, nsDs_ints, nsD_col, nsD_mid, nsDs_mid, nsDs_cols, kR, nsDs_mapA, allT, seqD_col, seqD_mid, seqS_col, seqS_mid, noLs_mids, zip_typ, zip3_typ, enum_typ, rLRng1, rLRng2, rpSet, rpSetA, rDNew, rDGet1, rDGet2, rSortIt, dSortG, rIdx, rpPopAt, rpPop, rpIns, rpExt, rpClr, rgDrop, rPick, rFrz, rMkGen, Bool.false_and, Bool.and_false, noL_box, nsD_box, rParR, kk, cmb_RR, cmb_SS, cmb_RS, cmb_SR, cmbs_S, rRetS, rCallS, shOk, stK0, List.getD_cons_zero, List.getD_cons_succ, S_pick]
    have hL : LIM = 1000000000000000000 := rfl
    rintro n ⟨n0, n1⟩
    refine ⟨by omega, c + 1, by omega, by omega, fun x x0 => ?_⟩
    have hd : DivOk a := ⟨h0, .inl h1⟩
    split
    · exact fun y y0 => ⟨h0, fun z z0 => ⟨hd, Int.ediv_nonneg z0 (by omega), c + 1, by omega, _, rfl, Int.emod_nonneg _ (by omega), Int.emod_lt_of_pos _ h0, rfl⟩⟩
    · rintro y ⟨y0, y1⟩
      refine ⟨y0, by omega, fun r r0 r1 => ?_⟩
      rintro z ⟨z0, z1⟩
      refine ⟨by omega, by omega, fun q q0 q1 => ⟨⟨by decide, .inl (by decide)⟩, h0, _, rfl, Int.emod_nonneg _ (by omega), Int.emod_lt_of_pos _ h0, rfl⟩⟩
abbrev s__law_kind : Stmt := topS 8
theorem sc__law_kind : FnScope ["left"] ["left"] (defScope s__law_kind) := ⟨rfl, rfl, rfl, by decide +kernel, rfl, by decide +kernel, by decide +kernel⟩
theorem ok__law_kind {f : Addr} {fd : FuncData} (F : Fun K "_law_kind" "_law_kind" s__law_kind f fd) {f__law_pick : Addr} {fd__law_pick : FuncData} (A__law_pick : FnAt P w K mg base 2 "_law_pick" ["left", "many"] (SpF K S_pick) f__law_pick fd__law_pick) (NB : Bn mg) : FnG P w K mg base CX0 3 f fd ["left"] (SpF K S_kind) := by
  refine fn_ok F sc__law_kind rfl (by decide) (fun a c h => ?_) (fun cdv A outer s H Q E hr => ⟨_, _, (pss_one (ps_ret (pe_tup (pa_cons (pe_ix (ix_any hr.units) (pe_lst (pa_cons pe_int (pa_cons pe_int (pa_cons pe_int (pa_cons pe_int (pa_cons pe_int (pa_cons pe_int (pa_cons pe_int (pa_cons pe_int pa_nil))))))))) (pe_callG A__law_pick.ok (hr.mono (by decide)) (by rfl) A__law_pick.g A__law_pick.kp A__law_pick.b pass0 (pa_cons (pv 0) (pa_cons pe_int pa_nil))) (fun _ _ => rfl)) (pa_cons (pe_ix (ix_any hr.units) (pe_lst (pa_cons pe_int (pa_cons pe_int (pa_cons pe_int (pa_cons pe_int (pa_cons pe_int (pa_cons pe_int pa_nil))))))) (pe_callG A__law_pick.ok (hr.mono (by decide)) (by rfl) A__law_pick.g A__law_pick.kp A__law_pick.b pass0 (pa_cons (pv 0) (pa_cons pe_int pa_nil))) (fun _ _ => rfl)) pa_nil))))),
    (sd_ret (ed_tup (ad_cons (ed_op v_ix (ed_lst (ad_cons ed_int (ad_cons ed_int (ad_cons ed_int (ad_cons ed_int (ad_cons ed_int (ad_cons ed_int (ad_cons ed_int (ad_cons ed_int ad_nil))))))))) (ed_call (ad_cons (ed_var 0) (ad_cons ed_int ad_nil)))) (ad_cons (ed_op v_ix (ed_lst (ad_cons ed_int (ad_cons ed_int (ad_cons ed_int (ad_cons ed_int (ad_cons ed_int (ad_cons ed_int ad_nil))))))) (ed_call (ad_cons (ed_var 0) (ad_cons ed_int ad_nil)))) ad_nil)))), fun a c h => ?_⟩)
  · exact ⟨rfl, trivial⟩
  · have h : c + 2 < LIM := h
    simp only [rSeq, rAsg, rOp, rUn, rVar, rC, rCB, rNil, rCons, rCall, rTup, rLst, rRet, rRetN, rNext, rIfS, rTest, rtAnd, rtOr, rtNot, rAndV, rOrV, rNotV, rIf, rAug, rDrop, rPar, rIxG, rSetG, rApp, IntoOk, riSeq, riRng1, riRng2, riZip, riEnum, rSl, roNone, roSome, dSl, dLen, dInt, dN1, dN2, dSum, dAllA, dTuple, dList, dIsiA, dEq, dNe, dIsN, DL.isNon, rChain, rBreak, rCont, gat, gset, kills, frz, dIsB, rPar3, Γ0, dMod, dDiv, dI, dI0, dMul, dAdd, dU, dIx, rgName, tup1, tup2, tup3, tup2F, stoInt, stoF, stoC, stoM, StoreOk, noL, noLs, itK, stK, List.length_cons, List.length_nil, List.map_cons, List.map_nil, List.replicate, if_true, if_false, Bool.true_and, Bool.and_true, Bool.true_or, Bool.or_true, Bool.false_or, Bool.or_false, ne_eq, reduceCtorEq, not_false_eq_true, true_and, and_true, cmbs_nil, cmbs_R, isR_R, elOk_R, Nat.reduceAdd, Nat.reduceLeDiff, Nat.zero_add, NG, isData, isDatas, eF, noLs_ints, noL_col, noLs_mid, noL_mid, noLs_cols, Bool.false_eq_true, reduceIte, Bool.not_true, Bool.not_false, false_and, and_self, forall_const, imp_self, false_implies, Nat.reduceEqDiff, decide_eq_true_eq, implies_true, mix_iff, pick_iff, eqOk_int, eqOk_bl, eqv_int, eqv_bl, isi_tuple, isi_list, isi_int, isi_bool, isi_str, okTy_tuple, okTy_list, okTy_int, okTy_bool, okTy_str, at0, at1, rRev, dMinA, dMinL, dMinP, dSortP, rRvs, rpRvs, rpVar, rpApp, rpIx, seqD_lst, seqD_tup, seqD_scr, seqS_lst, seqS_tup, seqS_scr, riZip3, nsD, nsDs, nsDs_ints, nsD_col, nsD_mid, nsDs_mid, nsDs_cols, kR, nsDs_mapA, allT, seqD_col, seqD_mid, seqS_col, seqS_mid, noLs_mids, zip_typ, zip3_typ, enum_typ, rLRng1, rLRng2, rpSet, rpSetA, rDNew, rDGet1, rDGet2, rSortIt, dSortG, rIdx, rpPopAt, rpPop, rpIns, rpExt, rpClr, rgDrop, rPick, rFrz, rMkGen, Bool.false_and, Bool.and_false, noL_box, nsD_box, rParR, kk, cmb_RR, cmb_SS, cmb_RS, cmb_SR, cmbs_S, rRetS, rCallS, shOk, stK0, List.getD_cons_zero, List.getD_cons_succ, S_kind]
    refine ⟨by decide, by decide, by omega, fun r r0 r1 => ?_⟩
    obtain ⟨w, hw, e⟩ := atI_ints (ns := [1, 2, 3, 3, 3, 4, 5, 2]) r0 r1
    refine ⟨_, e, by decide, by decide, by omega, fun q q0 q1 => ?_⟩
    obtain ⟨s, hs, e⟩ := atI_ints (ns := [3, 6, 20, 256, 1000, 10]) q0 q1
    refine ⟨_, e, ⟨(fun z => by cases z), (fun z => by cases z)⟩, ?_⟩
    simp only [List.mem_cons, List.not_mem_nil, or_false] at hw hs
    exact ⟨rfl, w, s, rfl, by omega, by omega, by omega, by omega⟩
abbrev s__law_colour : Stmt := topS 9
theorem sc__law_colour : FnScope ["left", "kind", "wide", "span", "place"] ["left", "kind"] (defScope s__law_colour) := ⟨rfl, rfl, rfl, by decide +kernel, rfl, by decide +kernel, by decide +kernel⟩
theorem ok__law_colour {f : Addr} {fd : FuncData} (F : Fun K "_law_colour" "_law_colour" s__law_colour f fd) {f__law_pick : Addr} {fd__law_pick : FuncData} (A__law_pick : FnAt P w K mg base 2 "_law_pick" ["left", "many"] (SpF K S_pick) f__law_pick fd__law_pick) (NB : Bn mg) : FnG P w K mg base CX0 3 f fd ["left", "kind"] (SpF K S_colour) := by
  refine fn_ok F sc__law_colour rfl (by decide) (fun a c h => ?_) (fun cdv A outer s H Q E hr => ⟨_, _, (pss_cons (ps_asg (pv 1) (pg_tup (n := 2) rfl (pgs_cons (pg_name (i := 2) sc__law_colour.nd rfl (by first | exact Or.inl rfl | exact Or.inr rfl)) (pgs_cons (pg_name (i := 3) sc__law_colour.nd rfl (by first | exact Or.inl rfl | exact Or.inr rfl)) pgs_nil))))
      (pss_one (ps_ret (pe_callTy call_tuple_of (by rfl) (NB "tuple" (by decide)) (by decide +kernel) (pa_cons (pe_lc (own := [("place", 4)]) (g := gName 4) rfl sc__law_colour.nd (pi_range1 (by rfl) (NB "range" (by decide)) (pa_cons (pv 2) pa_nil)) (blkOk_by (N := ["left", "kind", "wide", "span", "place"]) (sc := defScope s__law_colour) (by decide +kernel)) (fun _ _ _ _ _ => (pg_name (i := 4) sc__law_colour.nd rfl (by first | exact Or.inl rfl | exact Or.inr rfl))) (fun _ _ _ _ _ => pts_nil) (fun _ _ _ _ _ => (pe_ix (ix_any hr.units) (pe_lst (pa_cons (pe_callG A__law_pick.ok (hr.mono (by decide)) (by rfl) A__law_pick.g A__law_pick.kp A__law_pick.b pass0 (pa_cons (pv 0) (pa_cons (pv 3) pa_nil))) (pa_cons pe_int pa_nil))) (pe_callTy call_intA (by rfl) (NB "int" (by decide)) (by decide +kernel) (pa_cons (pe_cmpR (op_eqD hr.units) (pe_callG A__law_pick.ok (hr.mono (by decide)) (by rfl) A__law_pick.g A__law_pick.kp A__law_pick.b pass0 (pa_cons (pv 0) (pa_cons pe_int pa_nil))) pe_int (nomark _)) pa_nil)) (fun _ _ => rfl)))) pa_nil))))),
    (sd_seq (sd_asg (ed_var 1) (gd_tup (gds_cons (gd_name 2) (gds_cons (gd_name 3) gds_nil))))
      (sd_ret (ed_cb v_tuple (ad_cons (ed_lc (id_rng1 (ad_cons (ed_var 2) ad_nil)) (gd_name 4) td_yes (ed_op v_ix (ed_lst (ad_cons (ed_call (ad_cons (ed_var 0) (ad_cons (ed_var 3) ad_nil))) (ad_cons ed_int ad_nil))) (ed_cb v_int (ad_cons (ed_op v_eq (ed_call (ad_cons (ed_var 0) (ad_cons ed_int ad_nil))) ed_int) ad_nil))) (by decide)) ad_nil)))), fun a c h => ?_⟩)
  · exact ⟨rfl, rfl, trivial⟩
  · obtain ⟨w, z⟩ := a
    have h : 1 ≤ w ∧ w ≤ 5 ∧ 1 ≤ z ∧ z ≤ 1000 ∧ c + 10 < LIM := h
    obtain ⟨w1, w5, z1, z2, hc⟩ := h
    have hw := Int.toNat_of_nonneg (show 0 ≤ w by omega)
    unfold S_colour Γ0
    dsimp only
    (rw [rSeq_eq]; simp (maxSteps := 3000000) only [rAsg, rOp, rUn, rVar, rC, rCB, rNil, rCons, rCall, rTup, rLst, rRet, rRetN, rNext, rIfS, rTest, rtAnd, rtOr, rtNot, rAndV, rOrV, rNotV, rIf, rAug, rDrop, rPar, rIxG, rSetG, rApp, IntoOk, riSeq, riRng1, riRng2, riZip, riEnum, rSl, roNone, roSome, dSl, dLen, dInt, dN1, dN2, dSum, dAllA, dTuple, dList, dIsiA, dEq, dNe, dIsN, DL.isNon, rChain, rBreak, rCont, gat, gset, kills, frz, dIsB, rPar3, Γ0, dMod, dDiv, dI, dI0, dMul, dAdd, dU, dIx, rgName, tup1, tup2, tup3, tup2F, stoInt, stoF, stoC, stoM, StoreOk, noL, noLs, itK, stK, List.length_cons, List.length_nil, List.map_cons, List.map_nil, List.replicate, if_true, if_false, Bool.true_and, Bool.and_true, Bool.true_or, Bool.or_true, Bool.false_or, Bool.or_false, ne_eq, reduceCtorEq, not_false_eq_true, true_and, and_true, cmbs_nil, cmbs_R, isR_R, elOk_R, Nat.reduceAdd, Nat.reduceLeDiff, Nat.zero_add, NG, isData, isDatas, eF, noLs_ints, noL_col, noLs_mid, noL_mid, noLs_cols, Bool.false_eq_true, reduceIte, Bool.not_true, Bool.not_false, false_and, and_self, forall_const, imp_self, false_implies, Nat.reduceEqDiff, decide_eq_true_eq, implies_true, mix_iff, pick_iff, eqOk_int, eqOk_bl, eqv_int, eqv_bl, isi_tuple, isi_list, isi_int, isi_bool, isi_str, okTy_tuple, okTy_list, okTy_int, okTy_bool, okTy_str, at0, at1, rRev, dMinA, dMinL, dMinP, dSortP, rRvs, rpRvs, rpVar, rpApp, rpIx, seqD_lst, seqD_tup, seqD_scr, seqS_lst, seqS_tup, seqS_scr, riZip3, nsD, nsDs, nsDs_ints, nsD_col, nsD_mid, nsDs_mid, nsDs_cols, kR, nsDs_mapA, allT, seqD_col, seqD_mid, seqS_col, seqS_mid, noLs_mids, zip_typ, zip3_typ, enum_typ, rLRng1, rLRng2, rpSet, rpSetA, rDNew, rDGet1, rDGet2, rSortIt, dSortG, rIdx, rpPopAt, rpPop, rpIns, rpExt, rpClr, rgDrop, rPick, rFrz, rMkGen, Bool.false_and, Bool.and_false, noL_box, nsD_box, rParR, kk, cmb_RR, cmb_SS, cmb_RS, cmb_SR, cmbs_S, rRetS, rCallS, shOk, stK0, List.getD_cons_zero, List.getD_cons_succ])
    refine rLc_draw w.toNat (intsFrom 0 w.toNat) D.int (fun n => 0 ≤ n ∧ n ≤ 1000) true c 2 (fun P h => ?_) (rng_len _) (by omega) (fun i d hd c3 h5 h6 P h => ?_) (fun _ z => by cases z) fun ns hns hR c3 h5 h6 => ?_
    · simp (maxSteps := 3000000) only [rAsg, rOp, rUn, rVar, rC, rCB, rNil, rCons, rCall, rTup, rLst, rRet, rRetN, rNext, rIfS, rTest, rtAnd, rtOr, rtNot, rAndV, rOrV, rNotV, rIf, rAug, rDrop, rPar, rIxG, rSetG, rApp, IntoOk, riSeq, riRng1, riRng2, riZip, riEnum, rSl, roNone, roSome, dSl, dLen, dInt, dN1, dN2, dSum, dAllA, dTuple, dList, dIsiA, dEq, dNe, dIsN, DL.isNon, rChain, rBreak, rCont, gat, gset, kills, frz, dIsB, rPar3, Γ0, dMod, dDiv, dI, dI0, dMul, dAdd, dU, dIx, rgName, tup1, tup2, tup3, tup2F, stoInt, stoF, stoC, stoM, StoreOk, noL, noLs, itK, stK, List.length_cons, List.length_nil, List.map_cons, List.map_nil, List.replicate, if_true, if_false, Bool.true_and, Bool.and_true, Bool.true_or, Bool.or_true, Bool.false_or, Bool.or_false, ne_eq, reduceCtorEq, not_false_eq_true, true_and, and_true, cmbs_nil, cmbs_R, isR_R, elOk_R, Nat.reduceAdd, Nat.reduceLeDiff, Nat.zero_add, NG, isData, isDatas, eF, noLs_ints, noL_col, noLs_mid, noL_mid, noLs_cols, Bool.false_eq_true, reduceIte, Bool.not_true, Bool.not_false, false_and, and_self, forall_const, imp_self, false_implies, Nat.reduceEqDiff, decide_eq_true_eq, implies_true, mix_iff, pick_iff, eqOk_int, eqOk_bl, eqv_int, eqv_bl, isi_tuple, isi_list, isi_int, isi_bool, isi_str, okTy_tuple, okTy_list, okTy_int, okTy_bool, okTy_str, at0, at1, rRev, dMinA, dMinL, dMinP, dSortP, rRvs, rpRvs, rpVar, rpApp, rpIx, seqD_lst, seqD_tup, seqD_scr, seqS_lst, seqS_tup, seqS_scr, riZip3, nsD, nsDs, nsDs_ints, nsD_col, nsD_mid, nsDs_mid, nsDs_cols, kR, nsDs_mapA, allT, seqD_col, seqD_mid, seqS_col, seqS_mid, noLs_mids, zip_typ, zip3_typ, enum_typ, rLRng1, rLRng2, rpSet, rpSetA, rDNew, rDGet1, rDGet2, rSortIt, dSortG, rIdx, rpPopAt, rpPop, rpIns, rpExt, rpClr, rgDrop, rPick, rFrz, rMkGen, Bool.false_and, Bool.and_false, noL_box, nsD_box, rParR, kk, cmb_RR, cmb_SS, cmb_RS, cmb_SR, cmbs_S, rRetS, rCallS, shOk, stK0, List.getD_cons_zero, List.getD_cons_succ]
      exact ⟨by omega, by omega, h⟩
    · obtain ⟨_, rfl⟩ := intsFrom_get hd
      simp (maxSteps := 3000000) only [rAsg, rOp, rUn, rVar, rC, rCB, rNil, rCons, rCall, rTup, rLst, rRet, rRetN, rNext, rIfS, rTest, rtAnd, rtOr, rtNot, rAndV, rOrV, rNotV, rIf, rAug, rDrop, rPar, rIxG, rSetG, rApp, IntoOk, riSeq, riRng1, riRng2, riZip, riEnum, rSl, roNone, roSome, dSl, dLen, dInt, dN1, dN2, dSum, dAllA, dTuple, dList, dIsiA, dEq, dNe, dIsN, DL.isNon, rChain, rBreak, rCont, gat, gset, kills, frz, dIsB, rPar3, Γ0, dMod, dDiv, dI, dI0, dMul, dAdd, dU, dIx, rgName, tup1, tup2, tup3, tup2F, stoInt, stoF, stoC, stoM, StoreOk, noL, noLs, itK, stK, List.length_cons, List.length_nil, List.map_cons, List.map_nil, List.replicate, if_true, if_false, Bool.true_and, Bool.and_true, Bool.true_or, Bool.or_true, Bool.false_or, Bool.or_false, ne_eq, reduceCtorEq, not_false_eq_true, true_and, and_true, cmbs_nil, cmbs_R, isR_R, elOk_R, Nat.reduceAdd, Nat.reduceLeDiff, Nat.zero_add, NG, isData, isDatas, eF, noLs_ints, noL_col, noLs_mid, noL_mid, noLs_cols, Bool.false_eq_true, reduceIte, Bool.not_true, Bool.not_false, false_and, and_self, forall_const, imp_self, false_implies, Nat.reduceEqDiff, decide_eq_true_eq, implies_true, mix_iff, pick_iff, eqOk_int, eqOk_bl, eqv_int, eqv_bl, isi_tuple, isi_list, isi_int, isi_bool, isi_str, okTy_tuple, okTy_list, okTy_int, okTy_bool, okTy_str, at0, at1, rRev, dMinA, dMinL, dMinP, dSortP, rRvs, rpRvs, rpVar, rpApp, rpIx, seqD_lst, seqD_tup, seqD_scr, seqS_lst, seqS_tup, seqS_scr, riZip3, nsD, nsDs, nsDs_ints, nsD_col, nsD_mid, nsDs_mid, nsDs_cols, kR, nsDs_mapA, allT, seqD_col, seqD_mid, seqS_col, seqS_mid, noLs_mids, zip_typ, zip3_typ, enum_typ, rLRng1, rLRng2, rpSet, rpSetA, rDNew, rDGet1, rDGet2, rSortIt, dSortG, rIdx, rpPopAt, rpPop, rpIns, rpExt, rpClr, rgDrop, rPick, rFrz, rMkGen, Bool.false_and, Bool.and_false, noL_box, nsD_box, rParR, kk, cmb_RR, cmb_SS, cmb_RS, cmb_SR, cmbs_S, rRetS, rCallS, shOk, stK0, List.getD_cons_zero, List.getD_cons_succ]
      refine ⟨by omega, by omega, by omega, fun r r0 r1 => ⟨by decide, by decide, by omega, fun q q0 q1 => ?_⟩⟩
      obtain ⟨x, hx, e⟩ := atI_ints (ns := [r, 999]) (i := if q = 0 then 1 else 0) (by split <;> omega) (by split <;> (simp only [List.length_cons, List.length_nil]; omega))
      simp only [List.mem_cons, List.not_mem_nil, or_false] at hx
      exact ⟨.int x, e, h x _ (by omega) (by omega) (by omega)⟩
    · simp (maxSteps := 3000000) only [rAsg, rOp, rUn, rVar, rC, rCB, rNil, rCons, rCall, rTup, rLst, rRet, rRetN, rNext, rIfS, rTest, rtAnd, rtOr, rtNot, rAndV, rOrV, rNotV, rIf, rAug, rDrop, rPar, rIxG, rSetG, rApp, IntoOk, riSeq, riRng1, riRng2, riZip, riEnum, rSl, roNone, roSome, dSl, dLen, dInt, dN1, dN2, dSum, dAllA, dTuple, dList, dIsiA, dEq, dNe, dIsN, DL.isNon, rChain, rBreak, rCont, gat, gset, kills, frz, dIsB, rPar3, Γ0, dMod, dDiv, dI, dI0, dMul, dAdd, dU, dIx, rgName, tup1, tup2, tup3, tup2F, stoInt, stoF, stoC, stoM, StoreOk, noL, noLs, itK, stK, List.length_cons, List.length_nil, List.map_cons, List.map_nil, List.replicate, if_true, if_false, Bool.true_and, Bool.and_true, Bool.true_or, Bool.or_true, Bool.false_or, Bool.or_false, ne_eq, reduceCtorEq, not_false_eq_true, true_and, and_true, cmbs_nil, cmbs_R, isR_R, elOk_R, Nat.reduceAdd, Nat.reduceLeDiff, Nat.zero_add, NG, isData, isDatas, eF, noLs_ints, noL_col, noLs_mid, noL_mid, noLs_cols, Bool.false_eq_true, reduceIte, Bool.not_true, Bool.not_false, false_and, and_self, forall_const, imp_self, false_implies, Nat.reduceEqDiff, decide_eq_true_eq, implies_true, mix_iff, pick_iff, eqOk_int, eqOk_bl, eqv_int, eqv_bl, isi_tuple, isi_list, isi_int, isi_bool, isi_str, okTy_tuple, okTy_list, okTy_int, okTy_bool, okTy_str, at0, at1, rRev, dMinA, dMinL, dMinP, dSortP, rRvs, rpRvs, rpVar, rpApp, rpIx, seqD_lst, seqD_tup, seqD_scr, seqS_lst, seqS_tup, seqS_scr, riZip3, nsD, nsDs, nsDs_ints, nsD_col, nsD_mid, nsDs_mid, nsDs_cols, kR, nsDs_mapA, allT, seqD_col, seqD_mid, seqS_col, seqS_mid, noLs_mids, zip_typ, zip3_typ, enum_typ, rLRng1, rLRng2, rpSet, rpSetA, rDNew, rDGet1, rDGet2, rSortIt, dSortG, rIdx, rpPopAt, rpPop, rpIns, rpExt, rpClr, rgDrop, rPick, rFrz, rMkGen, Bool.false_and, Bool.and_false, noL_box, nsD_box, rParR, kk, cmb_RR, cmb_SS, cmb_RS, cmb_SR, cmbs_S, rRetS, rCallS, shOk, stK0, List.getD_cons_zero, List.getD_cons_succ]
      exact ⟨ns, rfl, ⟨by omega, hR⟩, by omega, by omega⟩
abbrev s__law_few : Stmt := topS 12
theorem sc__law_few : FnScope ["left", "kind", "most", "found", "k", "colour"] ["left", "kind", "most"] (defScope s__law_few) := ⟨rfl, rfl, rfl, by decide +kernel, rfl, by decide +kernel, by decide +kernel⟩
theorem ok__law_few {f : Addr} {fd : FuncData} (F : Fun K "_law_few" "_law_few" s__law_few f fd) {f__law_pick : Addr} {fd__law_pick : FuncData} (A__law_pick : FnAt P w K mg base 2 "_law_pick" ["left", "many"] (SpF K S_pick) f__law_pick fd__law_pick) {f__law_colour : Addr} {fd__law_colour : FuncData} (A__law_colour : FnAt P w K mg base 3 "_law_colour" ["left", "kind"] (SpF K S_colour) f__law_colour fd__law_colour) (NB : Bn mg) : FnG P w K mg base CX0 4 f fd ["left", "kind", "most"] (SpF K S_fewC) := by
  refine fn_ok F sc__law_few rfl (by decide) (fun a c h => ?_) (fun cdv A outer s H Q E hr => ⟨_, _, (pss_cons (ps_set (i := 3) sc__law_few.nd rfl (by first | exact Or.inl rfl | exact Or.inr rfl) (pe_lst pa_nil))
      (pss_cons (ps_for PassesOwn.never rfl (pi_range1 (by rfl) (NB "range" (by decide)) (pa_cons (pe_op op_addA pe_int (pe_callG A__law_pick.ok (hr.mono (by decide)) (by rfl) A__law_pick.g A__law_pick.kp A__law_pick.b pass0 (pa_cons (pv 0) (pa_cons (pv 2) pa_nil)))) pa_nil)) (pg_name (i := 4) sc__law_few.nd rfl (by first | exact Or.inl rfl | exact Or.inr rfl)) (pss_cons (ps_set (i := 5) sc__law_few.nd rfl (by first | exact Or.inl rfl | exact Or.inr rfl) (pe_callG A__law_colour.ok (hr.mono (by decide)) (by rfl) A__law_colour.g A__law_colour.kp A__law_colour.b pass0 (pa_cons (pv 0) (pa_cons (pv 1) pa_nil))))
      (pss_cons (ps_if (PW.pt (pw_and (pt_cmpR (op_neD hr.units) (pv 3) (pe_lst pa_nil) (nomark _)) (pw_and1 (pt_cmpR (op_eqD hr.units) (pe_callG A__law_pick.ok (hr.mono (by decide)) (by rfl) A__law_pick.g A__law_pick.kp A__law_pick.b pass0 (pa_cons (pv 0) (pa_cons pe_int pa_nil))) pe_int (nomark _))))) (pss_one (ps_set (i := 5) sc__law_few.nd rfl (by first | exact Or.inl rfl | exact Or.inr rfl) (pe_ix (ix_any hr.units) (pv 3) (pe_callG A__law_pick.ok (hr.mono (by decide)) (by rfl) A__law_pick.g A__law_pick.kp A__law_pick.b pass0 (pa_cons (pv 0) (pa_cons (pe_callB call_len (by rfl) (NB "len" (by decide)) (by decide +kernel) (pa_cons (pv 3) pa_nil)) pa_nil))) (fun _ _ => rfl)))) pss_nil)
      (pss_one (ps_expr (pe_bm PySem.F.plainAttrs_list PySem.F.slot_list_append PySem.F.type_list_append mt_append (pv 3) (pa_cons (pv 5) pa_nil)))))))
      (pss_one (ps_ret (pv 3))))),
    (sd_seq (sd_asg (ed_lstN ad_nil) (gd_name 3))
      (sd_seq (sd_for (id_rng1 (ad_cons (ed_op v_add ed_int (ed_call (ad_cons (ed_var 0) (ad_cons (ed_var 2) ad_nil)))) ad_nil)) (gd_name 4) (sd_seq (sd_asg (ed_call (ad_cons (ed_var 0) (ad_cons (ed_var 1) ad_nil))) (gd_name 5))
      (sd_seq (sd_if (td_and (td_test (ed_op v_ne (ed_var 3) (ed_lstN ad_nil))) (td_test (ed_op v_eq (ed_call (ad_cons (ed_var 0) (ad_cons ed_int ad_nil))) ed_int))) (sd_asg (ed_op v_ix (ed_var 3) (ed_call (ad_cons (ed_var 0) (ad_cons (ed_cb v_len (ad_cons (ed_var 3) ad_nil)) ad_nil)))) (gd_name 5)) sd_next)
      (sd_append (i := 3) (ed_var 5)))))
      (sd_ret (ed_var 3)))), fun a c h => ?_⟩)
  · exact ⟨rfl, rfl, rfl, trivial⟩
  · obtain ⟨⟨w, s⟩, m⟩ := a
    obtain ⟨hk, ⟨m1, m2⟩, hc⟩ := h
    have hk : 1 ≤ w ∧ w ≤ 5 ∧ 1 ≤ s ∧ s ≤ 1000 := hk
    have m1 : 1 ≤ m := m1
    have m2 : m ≤ 20 := m2
    have hc : c + 400 < LIM := hc
    have hL : LIM = 1000000000000000000 := rfl
    (unfold S_fewC; dsimp only; simp only [Γ0, List.length_cons, List.length_nil, Nat.reduceAdd, List.replicate])
    (refine rSeq_op fun nx hnx => ?_); solve_by_elim []
    refine hnx _ _ ?_; clear nx hnx
    rw [rSeq_eq]
    refine rFor_drawn m.toNat 1 12 (fun n => 1 ≤ n ∧ n ≤ m.toNat) (fun i Γ => ∃ cs : List (List Int), (cs.length = i ∧ ∀ ns ∈ cs, Col w ns) ∧ ∃ s4 s5, Γ = [some ⟨.nl, .gen⟩, some ⟨.nl, .tup [.int w, .int s]⟩, some ⟨.nl, .int m⟩, some ⟨.own, .lst (cs.map eCol)⟩, s4, s5]) (fun P h => ?_) ⟨[], ⟨rfl, nofun⟩, _, _, rfl⟩ (fun n i Γ' c' hR hi hI h1 h2 f hf => ?_) fun n Γ' c' hR hI h1 h2 => ?_
    · (try solve_by_elim [])
      refine ⟨by omega, by omega, by omega, fun r r0 r1 => ?_⟩
      exact ⟨by omega, by omega, h _ _ ⟨by omega, by omega⟩ (by omega) (by omega) (by omega)⟩
    · obtain ⟨cs, ⟨l1, hcs⟩, s4, s5, rfl⟩ := hI
      (try solve_by_elim [])
      (refine rSeq_op fun nx hnx => ?_); solve_by_elim []
      refine colour_call hk (by omega) fun q c2 hq g1 g2 => ?_
      (try solve_by_elim [])
      refine hnx _ _ ?_; clear nx hnx
      (refine rSeq_op fun nx hnx => ?_); solve_by_elim []
      have go : ∀ (q : List Int) (c4 : Nat), Col w q → c' ≤ c4 → c4 ≤ c' + 12 → nx [some ⟨.nl, .gen⟩, some ⟨.nl, .tup [.int w, .int s]⟩, some ⟨.nl, .int m⟩, some ⟨.own, .lst (cs.map eCol)⟩, some ⟨.nl, .int (i : Nat)⟩, some ⟨.nl, eCol q⟩] c4 := fun q c4 hq g5 g6 => by
        refine hnx _ _ ?_; clear nx hnx
        (try solve_by_elim [])
        refine ⟨by omega, ?_⟩
        refine hf _ _ ⟨cs ++ [q], ⟨by rw [List.length_append, l1]; rfl, fun x hx => ?_⟩, ?_⟩ (by omega) (by omega)
        · rcases List.mem_append.mp hx with hx | hx
          · exact hcs x hx
          · cases List.mem_singleton.mp hx; exact hq
        · rw [List.map_append]
          exact ⟨_, _, rfl⟩
      refine ⟨eqOk_cols (by omega) fun ns hn => by have := (hcs ns hn).1; omega, eqOk_nil, ?_⟩
      rw [eqv_nil, List.isEmpty_map]
      cases cs with
      | nil => exact go q c2 hq (by omega) (by omega)
      | cons m0 mr =>
        rw [if_pos (show (!(m0 :: mr).isEmpty) = true from rfl)]
        refine ⟨by decide, by decide, by omega, fun r r0 r1 => ?_⟩
        split
        · refine ⟨by rw [List.length_cons]; omega, by omega, by omega, fun u u0 u1 => ?_⟩
          obtain ⟨m2, hm2, e⟩ := atI_mem (xs := m0 :: mr) u0 u1
          refine ⟨eCol m2, atI_map eCol e, ?_⟩
          (try solve_by_elim [])
          exact go m2 _ (hcs m2 hm2) (by omega) (by omega)
        · exact go q _ hq (by omega) (by omega)
    · obtain ⟨cs, ⟨l1, hcs⟩, s4, s5, rfl⟩ := hI
      (try solve_by_elim [])
      exact ⟨cs, rfl, ⟨by have := hR.1; omega, by have := hR.2; omega, hcs⟩, by omega, by omega⟩
abbrev s__law_two : Stmt := topS 13
theorem sc__law_two : FnScope ["left", "most", "kind", "k", "one", "other"] ["left", "most"] (defScope s__law_two) := ⟨rfl, rfl, rfl, by decide +kernel, rfl, by decide +kernel, by decide +kernel⟩
theorem ok__law_two {f : Addr} {fd : FuncData} (F : Fun K "_law_two" "_law_two" s__law_two f fd) {f__law_kind : Addr} {fd__law_kind : FuncData} (A__law_kind : FnAt P w K mg base 3 "_law_kind" ["left"] (SpF K S_kind) f__law_kind fd__law_kind) {f__law_few : Addr} {fd__law_few : FuncData} (A__law_few : FnAt P w K mg base 4 "_law_few" ["left", "kind", "most"] (SpF K S_fewC) f__law_few fd__law_few) {f__law_pick : Addr} {fd__law_pick : FuncData} (A__law_pick : FnAt P w K mg base 2 "_law_pick" ["left", "many"] (SpF K S_pick) f__law_pick fd__law_pick) (NB : Bn mg) : FnG P w K mg base CX0 5 f fd ["left", "most"] (SpF K S_twoC) := by
  refine fn_ok F sc__law_two rfl (by decide) (fun a c h => ?_) (fun cdv A outer s H Q E hr => ⟨_, _, (pss_cons (ps_set (i := 2) sc__law_two.nd rfl (by first | exact Or.inl rfl | exact Or.inr rfl) (pe_callG A__law_kind.ok (hr.mono (by decide)) (by rfl) A__law_kind.g A__law_kind.kp A__law_kind.b pass0 (pa_cons (pv 0) pa_nil)))
      (pss_cons (ps_par (by rfl) sc__law_two.nd (i := 4) (j := 5) rfl rfl (by decide) rfl rfl (pa_cons (pe_callG A__law_few.ok (hr.mono (by decide)) (by rfl) A__law_few.g A__law_few.kp A__law_few.b pass0 (pa_cons (pv 0) (pa_cons (pv 2) (pa_cons (pv 1) pa_nil)))) (pa_cons (pe_callG A__law_few.ok (hr.mono (by decide)) (by rfl) A__law_few.g A__law_few.kp A__law_few.b pass0 (pa_cons (pv 0) (pa_cons (pv 2) (pa_cons (pv 1) pa_nil)))) pa_nil)) (by rfl))
      (pss_cons (ps_for PassesOwn.never rfl (pi_range1 (by rfl) (NB "range" (by decide)) (pa_cons (pe_callB call_len (by rfl) (NB "len" (by decide)) (by decide +kernel) (pa_cons (pv 5) pa_nil)) pa_nil)) (pg_name (i := 3) sc__law_two.nd rfl (by first | exact Or.inl rfl | exact Or.inr rfl)) (pss_one (ps_if (pt_cmpR (op_eqD hr.units) (pe_callG A__law_pick.ok (hr.mono (by decide)) (by rfl) A__law_pick.g A__law_pick.kp A__law_pick.b pass0 (pa_cons (pv 0) (pa_cons pe_int pa_nil))) pe_int (nomark _)) (pss_one (ps_asg (pe_ix (ix_any hr.units) (pv 4) (pe_callG A__law_pick.ok (hr.mono (by decide)) (by rfl) A__law_pick.g A__law_pick.kp A__law_pick.b pass0 (pa_cons (pv 0) (pa_cons (pe_callB call_len (by rfl) (NB "len" (by decide)) (by decide +kernel) (pa_cons (pv 4) pa_nil)) pa_nil))) (fun _ _ => rfl)) (pg_sub (pv 5) (pv 3) (set_any hr.units)))) pss_nil)))
      (pss_one (ps_ret (pe_tup (pa_cons (pv 4) (pa_cons (pv 5) pa_nil)))))))),
    (sd_seq (sd_asg (ed_call (ad_cons (ed_var 0) ad_nil)) (gd_name 2))
      (sd_seq (sd_parR 4 5 (ad_cons (ed_call (ad_cons (ed_var 0) (ad_cons (ed_var 2) (ad_cons (ed_var 1) ad_nil)))) (ad_cons (ed_call (ad_cons (ed_var 0) (ad_cons (ed_var 2) (ad_cons (ed_var 1) ad_nil)))) ad_nil)))
      (sd_seq (sd_for (id_rng1 (ad_cons (ed_cb v_len (ad_cons (ed_var 5) ad_nil)) ad_nil)) (gd_name 3) (sd_if (td_test (ed_op v_eq (ed_call (ad_cons (ed_var 0) (ad_cons ed_int ad_nil))) ed_int)) (sd_psetA (i := 5) (pd_var 5) (ed_var 3) (ed_op v_ix (ed_var 4) (ed_call (ad_cons (ed_var 0) (ad_cons (ed_cb v_len (ad_cons (ed_var 4) ad_nil)) ad_nil))))) sd_next))
      (sd_ret (ed_tupN (ad_cons (ed_var 4) (ad_cons (ed_var 5) ad_nil))))))), fun a c h => ?_⟩)
  · exact ⟨rfl, rfl, trivial⟩
  · obtain ⟨⟨m1, m2⟩, hc⟩ := h
    have m1 : 1 ≤ a := m1
    have m2 : a ≤ 20 := m2
    have hc : c + 1000 < LIM := hc
    have hL : LIM = 1000000000000000000 := rfl
    (unfold S_twoC; dsimp only; simp only [Γ0, List.length_cons, List.length_nil, Nat.reduceAdd, List.replicate])
    (refine rSeq_op fun nx hnx => ?_); solve_by_elim []
    refine kind_call (by omega) fun w s w1 w5 s3 s4 => ?_
    have hk : 1 ≤ w ∧ w ≤ 5 ∧ 1 ≤ s ∧ s ≤ 1000 := ⟨w1, w5, by omega, s4⟩
    (try solve_by_elim [])
    refine hnx _ _ ?_; clear nx hnx
    (refine rSeq_op fun nx hnx => ?_); solve_by_elim []
    refine fewC_call hk ⟨m1, m2⟩ (by omega) fun os c2 hos g1 g2 => ?_
    refine fewC_call hk ⟨m1, m2⟩ (by omega) fun qs c3 hqs g3 g4 => ?_
    have ec : cmb (kk (D.lst (os.map eCol)) (.R [])) (kk (D.lst (qs.map eCol)) (.R [])) = .R [] := rfl
    rw [ec]
    refine ⟨rfl, ?_⟩
    (try solve_by_elim [])
    refine hnx _ _ ?_; clear nx hnx
    rw [rSeq_eq]
    have hql := hqs.2.1
    have hol := hos.2.1
    have ho1 := hos.1
    refine rFor_rng qs.length 20 2 (fun Γ => ∃ ps : List (List Int), (ps.length = qs.length ∧ ∀ ns ∈ ps, Col w ns) ∧ ∃ s3, Γ = [some ⟨.nl, .gen⟩, some ⟨.nl, .int a⟩, some ⟨.nl, .tup [.int w, .int s]⟩, s3, some ⟨.own, .lst (os.map eCol)⟩, some ⟨.own, .lst (ps.map eCol)⟩]) (fun P h => ?_) (by omega) ⟨qs, ⟨rfl, hqs.2.2⟩, _, rfl⟩ (fun i Γ' c' hi hM h1 h2 f hf => ?_) fun Γ' c' hM h1 h2 => ?_
    · (try solve_by_elim [])
      exact ⟨by omega, by omega, h⟩
    · obtain ⟨ps, ⟨lp, hps⟩, s3, rfl⟩ := hM
      (try solve_by_elim [])
      refine ⟨by decide, by decide, by omega, fun r r0 r1 => ?_⟩
      split
      · refine ⟨by omega, by omega, by omega, fun u u0 u1 => ?_⟩
        obtain ⟨q, hq, e⟩ := atI_mem (xs := os) u0 u1
        refine ⟨eCol q, atI_map eCol e, ?_⟩
        (try solve_by_elim [])
        refine ⟨i, by unfold ixN; rw [if_pos (by omega), if_pos (by omega), Int.toNat_natCast], ?_⟩
        rw [← List.map_set]
        refine hf _ _ ⟨ps.set i q, ⟨by rw [List.length_set]; exact lp, fun x hx => ?_⟩, _, rfl⟩ (by omega) (by omega)
        rcases List.mem_or_eq_of_mem_set hx with hx | rfl
        · exact hps x hx
        · exact hos.2.2 _ hq
      · exact hf _ _ ⟨ps, ⟨lp, hps⟩, _, rfl⟩ (by omega) (by omega)
    · obtain ⟨ps, ⟨lp, hps⟩, s3, rfl⟩ := hM
      (try solve_by_elim [])
      exact ⟨rfl, w, os, ps, rfl, ⟨w1, w5⟩, hos, ⟨by have := hqs.1; omega, by omega, hps⟩, by omega, by omega⟩
abbrev s__law_apart : Stmt := topS 10
theorem sc__law_apart : FnScope ["one", "other", "a", "b"] ["one", "other"] (defScope s__law_apart) := ⟨rfl, rfl, rfl, by decide +kernel, rfl, by decide +kernel, by decide +kernel⟩
theorem ok__law_apart {f : Addr} {fd : FuncData} (F : Fun K "_law_apart" "_law_apart" s__law_apart f fd) (NB : Bn mg) : FnG P w K mg base CX0 1 f fd ["one", "other"] (SpF K S_apart) := by
  refine fn_ok F sc__law_apart rfl (by decide) (fun a c h => ?_) (fun cdv A outer s H Q E hr => ⟨_, _, (pss_one (ps_ret (pe_callB (cr_sum rfl) (by rfl) (NB "sum" (by decide)) (by decide +kernel) (pa_cons (pe_lc (own := [("a", 2), ("b", 3)]) (g := gTup K 2 (gCons (gName 2) (gCons (gName 3) (gNil)))) rfl sc__law_apart.nd (WK.pi_zip2 (by rfl) (NB "zip" (by decide)) (pa_cons (pv 0) (pa_cons (pv 1) pa_nil))) (blkOk_by (N := ["one", "other", "a", "b"]) (sc := defScope s__law_apart) (by decide +kernel)) (fun _ _ _ _ _ => (pg_tup (n := 2) rfl (pgs_cons (pg_name (i := 2) sc__law_apart.nd rfl (by first | exact Or.inl rfl | exact Or.inr rfl)) (pgs_cons (pg_name (i := 3) sc__law_apart.nd rfl (by first | exact Or.inl rfl | exact Or.inr rfl)) pgs_nil)))) (fun _ _ _ _ _ => pts_nil) (fun _ _ _ _ _ => (pe_op op_mulA (pe_op op_sub (pv 2) (pv 3)) (pe_op op_sub (pv 2) (pv 3))))) pa_nil)))),
    (sd_ret (ed_cb v_sum (ad_cons (ed_lc (id_zip (ad_cons (ed_var 0) (ad_cons (ed_var 1) ad_nil))) (gd_tup (gds_cons (gd_name 2) (gds_cons (gd_name 3) gds_nil))) td_yes (ed_op v_mul (ed_op v_rI0 (ed_var 2) (ed_var 3)) (ed_op v_rI0 (ed_var 2) (ed_var 3))) (by decide)) ad_nil))), fun a c h => ?_⟩)
  · exact ⟨noL_col _, noL_col _, trivial⟩
  · obtain ⟨x, y⟩ := a
    obtain ⟨h1, h2, h3⟩ := h
    have h1 : x.length ≤ 1000 := h1
    have h2 : ∀ n ∈ x, -10000000 ≤ n ∧ n ≤ 10000000 := h2
    have h3 : ∀ n ∈ y, -10000000 ≤ n ∧ n ≤ 10000000 := h3
    unfold S_apart Γ0
    dsimp only
    simp (maxSteps := 3000000) only [rAsg, rOp, rUn, rVar, rC, rCB, rNil, rCons, rCall, rTup, rLst, rRet, rRetN, rNext, rIfS, rTest, rtAnd, rtOr, rtNot, rAndV, rOrV, rNotV, rIf, rAug, rDrop, rPar, rIxG, rSetG, rApp, IntoOk, riSeq, riRng1, riRng2, riZip, riEnum, rSl, roNone, roSome, dSl, dLen, dInt, dN1, dN2, dSum, dAllA, dTuple, dList, dIsiA, dEq, dNe, dIsN, DL.isNon, rChain, rBreak, rCont, gat, gset, kills, frz, dIsB, rPar3, Γ0, dMod, dDiv, dI, dI0, dMul, dAdd, dU, dIx, rgName, tup1, tup2, tup3, tup2F, stoInt, stoF, stoC, stoM, StoreOk, noL, noLs, itK, stK, List.length_cons, List.length_nil, List.map_cons, List.map_nil, List.replicate, if_true, if_false, Bool.true_and, Bool.and_true, Bool.true_or, Bool.or_true, Bool.false_or, Bool.or_false, ne_eq, reduceCtorEq, not_false_eq_true, true_and, and_true, cmbs_nil, cmbs_R, isR_R, elOk_R, Nat.reduceAdd, Nat.reduceLeDiff, Nat.zero_add, NG, isData, isDatas, eF, noLs_ints, noL_col, noLs_mid, noL_mid, noLs_cols, Bool.false_eq_true, reduceIte, Bool.not_true, Bool.not_false, false_and, and_self, forall_const, imp_self, false_implies, Nat.reduceEqDiff, decide_eq_true_eq, implies_true, mix_iff, pick_iff, eqOk_int, eqOk_bl, eqv_int, eqv_bl, isi_tuple, isi_list, isi_int, isi_bool, isi_str, okTy_tuple, okTy_list, okTy_int, okTy_bool, okTy_str, at0, at1, rRev, dMinA, dMinL, dMinP, dSortP, rRvs, rpRvs, rpVar, rpApp, rpIx, seqD_lst, seqD_tup, seqD_scr, seqS_lst, seqS_tup, seqS_scr, riZip3, nsD, nsDs, nsDs_ints, nsD_col, nsD_mid, nsDs_mid, nsDs_cols, kR, nsDs_mapA, allT, seqD_col, seqD_mid, seqS_col, seqS_mid, noLs_mids, zip_typ, zip3_typ, enum_typ, rLRng1, rLRng2, rpSet, rpSetA, rDNew, rDGet1, rDGet2, rSortIt, dSortG, rIdx, rpPopAt, rpPop, rpIns, rpExt, rpClr, rgDrop, rPick, rFrz, rMkGen, Bool.false_and, Bool.and_false, noL_box, nsD_box, rParR, kk, cmb_RR, cmb_SS, cmb_RS, cmb_SR, cmbs_S, rRetS, rCallS, shOk, stK0, List.getD_cons_zero, List.getD_cons_succ]
    refine rLc_typ (x.zip y) eF (fun p => .int ((p.1 - p.2) * (p.1 - p.2))) true c (fun P h => ?_) (by rw [List.length_zip]; omega) (fun p hp P h => ?_) (fun _ z => by cases z) ?_
    · simp (maxSteps := 3000000) only [rAsg, rOp, rUn, rVar, rC, rCB, rNil, rCons, rCall, rTup, rLst, rRet, rRetN, rNext, rIfS, rTest, rtAnd, rtOr, rtNot, rAndV, rOrV, rNotV, rIf, rAug, rDrop, rPar, rIxG, rSetG, rApp, IntoOk, riSeq, riRng1, riRng2, riZip, riEnum, rSl, roNone, roSome, dSl, dLen, dInt, dN1, dN2, dSum, dAllA, dTuple, dList, dIsiA, dEq, dNe, dIsN, DL.isNon, rChain, rBreak, rCont, gat, gset, kills, frz, dIsB, rPar3, Γ0, dMod, dDiv, dI, dI0, dMul, dAdd, dU, dIx, rgName, tup1, tup2, tup3, tup2F, stoInt, stoF, stoC, stoM, StoreOk, noL, noLs, itK, stK, List.length_cons, List.length_nil, List.map_cons, List.map_nil, List.replicate, if_true, if_false, Bool.true_and, Bool.and_true, Bool.true_or, Bool.or_true, Bool.false_or, Bool.or_false, ne_eq, reduceCtorEq, not_false_eq_true, true_and, and_true, cmbs_nil, cmbs_R, isR_R, elOk_R, Nat.reduceAdd, Nat.reduceLeDiff, Nat.zero_add, NG, isData, isDatas, eF, noLs_ints, noL_col, noLs_mid, noL_mid, noLs_cols, Bool.false_eq_true, reduceIte, Bool.not_true, Bool.not_false, false_and, and_self, forall_const, imp_self, false_implies, Nat.reduceEqDiff, decide_eq_true_eq, implies_true, mix_iff, pick_iff, eqOk_int, eqOk_bl, eqv_int, eqv_bl, isi_tuple, isi_list, isi_int, isi_bool, isi_str, okTy_tuple, okTy_list, okTy_int, okTy_bool, okTy_str, at0, at1, rRev, dMinA, dMinL, dMinP, dSortP, rRvs, rpRvs, rpVar, rpApp, rpIx, seqD_lst, seqD_tup, seqD_scr, seqS_lst, seqS_tup, seqS_scr, riZip3, nsD, nsDs, nsDs_ints, nsD_col, nsD_mid, nsDs_mid, nsDs_cols, kR, nsDs_mapA, allT, seqD_col, seqD_mid, seqS_col, seqS_mid, noLs_mids, zip_typ, zip3_typ, enum_typ, rLRng1, rLRng2, rpSet, rpSetA, rDNew, rDGet1, rDGet2, rSortIt, dSortG, rIdx, rpPopAt, rpPop, rpIns, rpExt, rpClr, rgDrop, rPick, rFrz, rMkGen, Bool.false_and, Bool.and_false, noL_box, nsD_box, rParR, kk, cmb_RR, cmb_SS, cmb_RS, cmb_SR, cmbs_S, rRetS, rCallS, shOk, stK0, List.getD_cons_zero, List.getD_cons_succ, eCol, zip_ints]
      exact h
    · have q1 := h2 _ (List.of_mem_zip hp).1
      have q2 := h3 _ (List.of_mem_zip hp).2
      simp (maxSteps := 3000000) only [rAsg, rOp, rUn, rVar, rC, rCB, rNil, rCons, rCall, rTup, rLst, rRet, rRetN, rNext, rIfS, rTest, rtAnd, rtOr, rtNot, rAndV, rOrV, rNotV, rIf, rAug, rDrop, rPar, rIxG, rSetG, rApp, IntoOk, riSeq, riRng1, riRng2, riZip, riEnum, rSl, roNone, roSome, dSl, dLen, dInt, dN1, dN2, dSum, dAllA, dTuple, dList, dIsiA, dEq, dNe, dIsN, DL.isNon, rChain, rBreak, rCont, gat, gset, kills, frz, dIsB, rPar3, Γ0, dMod, dDiv, dI, dI0, dMul, dAdd, dU, dIx, rgName, tup1, tup2, tup3, tup2F, stoInt, stoF, stoC, stoM, StoreOk, noL, noLs, itK, stK, List.length_cons, List.length_nil, List.map_cons, List.map_nil, List.replicate, if_true, if_false, Bool.true_and, Bool.and_true, Bool.true_or, Bool.or_true, Bool.false_or, Bool.or_false, ne_eq, reduceCtorEq, not_false_eq_true, true_and, and_true, cmbs_nil, cmbs_R, isR_R, elOk_R, Nat.reduceAdd, Nat.reduceLeDiff, Nat.zero_add, NG, isData, isDatas, eF, noLs_ints, noL_col, noLs_mid, noL_mid, noLs_cols, Bool.false_eq_true, reduceIte, Bool.not_true, Bool.not_false, false_and, and_self, forall_const, imp_self, false_implies, Nat.reduceEqDiff, decide_eq_true_eq, implies_true, mix_iff, pick_iff, eqOk_int, eqOk_bl, eqv_int, eqv_bl, isi_tuple, isi_list, isi_int, isi_bool, isi_str, okTy_tuple, okTy_list, okTy_int, okTy_bool, okTy_str, at0, at1, rRev, dMinA, dMinL, dMinP, dSortP, rRvs, rpRvs, rpVar, rpApp, rpIx, seqD_lst, seqD_tup, seqD_scr, seqS_lst, seqS_tup, seqS_scr, riZip3, nsD, nsDs, nsDs_ints, nsD_col, nsD_mid, nsDs_mid, nsDs_cols, kR, nsDs_mapA, allT, seqD_col, seqD_mid, seqS_col, seqS_mid, noLs_mids, zip_typ, zip3_typ, enum_typ, rLRng1, rLRng2, rpSet, rpSetA, rDNew, rDGet1, rDGet2, rSortIt, dSortG, rIdx, rpPopAt, rpPop, rpIns, rpExt, rpClr, rgDrop, rPick, rFrz, rMkGen, Bool.false_and, Bool.and_false, noL_box, nsD_box, rParR, kk, cmb_RR, cmb_SS, cmb_RS, cmb_SR, cmbs_S, rRetS, rCallS, shOk, stK0, List.getD_cons_zero, List.getD_cons_succ]
      exact ⟨MulB.l (by omega), h⟩
    · simp (maxSteps := 3000000) only [rAsg, rOp, rUn, rVar, rC, rCB, rNil, rCons, rCall, rTup, rLst, rRet, rRetN, rNext, rIfS, rTest, rtAnd, rtOr, rtNot, rAndV, rOrV, rNotV, rIf, rAug, rDrop, rPar, rIxG, rSetG, rApp, IntoOk, riSeq, riRng1, riRng2, riZip, riEnum, rSl, roNone, roSome, dSl, dLen, dInt, dN1, dN2, dSum, dAllA, dTuple, dList, dIsiA, dEq, dNe, dIsN, DL.isNon, rChain, rBreak, rCont, gat, gset, kills, frz, dIsB, rPar3, Γ0, dMod, dDiv, dI, dI0, dMul, dAdd, dU, dIx, rgName, tup1, tup2, tup3, tup2F, stoInt, stoF, stoC, stoM, StoreOk, noL, noLs, itK, stK, List.length_cons, List.length_nil, List.map_cons, List.map_nil, List.replicate, if_true, if_false, Bool.true_and, Bool.and_true, Bool.true_or, Bool.or_true, Bool.false_or, Bool.or_false, ne_eq, reduceCtorEq, not_false_eq_true, true_and, and_true, cmbs_nil, cmbs_R, isR_R, elOk_R, Nat.reduceAdd, Nat.reduceLeDiff, Nat.zero_add, NG, isData, isDatas, eF, noLs_ints, noL_col, noLs_mid, noL_mid, noLs_cols, Bool.false_eq_true, reduceIte, Bool.not_true, Bool.not_false, false_and, and_self, forall_const, imp_self, false_implies, Nat.reduceEqDiff, decide_eq_true_eq, implies_true, mix_iff, pick_iff, eqOk_int, eqOk_bl, eqv_int, eqv_bl, isi_tuple, isi_list, isi_int, isi_bool, isi_str, okTy_tuple, okTy_list, okTy_int, okTy_bool, okTy_str, at0, at1, rRev, dMinA, dMinL, dMinP, dSortP, rRvs, rpRvs, rpVar, rpApp, rpIx, seqD_lst, seqD_tup, seqD_scr, seqS_lst, seqS_tup, seqS_scr, riZip3, nsD, nsDs, nsDs_ints, nsD_col, nsD_mid, nsDs_mid, nsDs_cols, kR, nsDs_mapA, allT, seqD_col, seqD_mid, seqS_col, seqS_mid, noLs_mids, zip_typ, zip3_typ, enum_typ, rLRng1, rLRng2, rpSet, rpSetA, rDNew, rDGet1, rDGet2, rSortIt, dSortG, rIdx, rpPopAt, rpPop, rpIns, rpExt, rpClr, rgDrop, rPick, rFrz, rMkGen, Bool.false_and, Bool.and_false, noL_box, nsD_box, rParR, kk, cmb_RR, cmb_SS, cmb_RS, cmb_SR, cmbs_S, rRetS, rCallS, shOk, stK0, List.getD_cons_zero, List.getD_cons_succ]
      exact ⟨(x.zip y).map fun p => (p.1 - p.2) * (p.1 - p.2), by rw [List.map_map]; rfl, rfl⟩
abbrev s__law_price : Stmt := topS 14
theorem sc__law_price : FnScope ["left", "one", "other", "near", "some", "i", "j"] ["left", "one", "other"] (defScope s__law_price) := ⟨rfl, rfl, rfl, by decide +kernel, rfl, by decide +kernel, by decide +kernel⟩
theorem ok__law_price {f : Addr} {fd : FuncData} (F : Fun K "_law_price" "_law_price" s__law_price f fd) {f__law_pick : Addr} {fd__law_pick : FuncData} (A__law_pick : FnAt P w K mg base 2 "_law_pick" ["left", "many"] (SpF K S_pick) f__law_pick fd__law_pick) {f__law_apart : Addr} {fd__law_apart : FuncData} (A__law_apart : FnAt P w K mg base 1 "_law_apart" ["one", "other"] (SpF K S_apart) f__law_apart fd__law_apart) (NB : Bn mg) : FnG P w K mg base CX0 3 f fd ["left", "one", "other"] (SpF K S_price) := by
  refine fn_ok F sc__law_price rfl (by decide) (fun a c h => ?_) (fun cdv A outer s H Q E hr => ⟨_, _, (pss_cons (ps_par (by rfl) sc__law_price.nd (i := 5) (j := 6) rfl rfl (by decide) rfl rfl (pa_cons (pe_callG A__law_pick.ok (hr.mono (by decide)) (by rfl) A__law_pick.g A__law_pick.kp A__law_pick.b pass0 (pa_cons (pv 0) (pa_cons (pe_callB call_len (by rfl) (NB "len" (by decide)) (by decide +kernel) (pa_cons (pv 1) pa_nil)) pa_nil))) (pa_cons (pe_callG A__law_pick.ok (hr.mono (by decide)) (by rfl) A__law_pick.g A__law_pick.kp A__law_pick.b pass0 (pa_cons (pv 0) (pa_cons (pe_callB call_len (by rfl) (NB "len" (by decide)) (by decide +kernel) (pa_cons (pv 2) pa_nil)) pa_nil))) pa_nil)) (by rfl))
      (pss_cons (ps_set (i := 3) sc__law_price.nd rfl (by first | exact Or.inl rfl | exact Or.inr rfl) (pe_callG A__law_apart.ok (hr.mono (by decide)) (by rfl) A__law_apart.g A__law_apart.kp A__law_apart.b pass0 (pa_cons (pe_ix (ix_any hr.units) (pv 1) (pv 5) (fun _ _ => rfl)) (pa_cons (pe_ix (ix_any hr.units) (pv 2) (pv 6) (fun _ _ => rfl)) pa_nil))))
      (pss_cons (ps_set (i := 4) sc__law_price.nd rfl (by first | exact Or.inl rfl | exact Or.inr rfl) (pe_lst (pa_cons pe_int (pa_cons (pe_op op_addA pe_int (pe_callG A__law_pick.ok (hr.mono (by decide)) (by rfl) A__law_pick.g A__law_pick.kp A__law_pick.b pass0 (pa_cons (pv 0) (pa_cons pe_int pa_nil)))) (pa_cons (pe_op op_addA (pe_op op_divA (pv 3) pe_int) (pe_callG A__law_pick.ok (hr.mono (by decide)) (by rfl) A__law_pick.g A__law_pick.kp A__law_pick.b pass0 (pa_cons (pv 0) (pa_cons pe_int pa_nil)))) pa_nil)))))
      (pss_cons (ps_set (i := 4) sc__law_price.nd rfl (by first | exact Or.inl rfl | exact Or.inr rfl) (pe_op op_addA (pv 4) (pe_lst (pa_cons (pv 3) (pa_cons (pe_callG A__law_pick.ok (hr.mono (by decide)) (by rfl) A__law_pick.g A__law_pick.kp A__law_pick.b pass0 (pa_cons (pv 0) (pa_cons (pe_op op_pow pe_int pe_int) pa_nil))) (pa_cons (pe_op op_pow pe_int pe_int) pa_nil))))))
      (pss_one (ps_ret (pe_callB (call_min2 rfl) (by rfl) (NB "min" (by decide)) (by decide +kernel) (pa_cons (pe_op op_pow pe_int pe_int) (pa_cons (pe_ix (ix_any hr.units) (pv 4) (pe_callG A__law_pick.ok (hr.mono (by decide)) (by rfl) A__law_pick.g A__law_pick.kp A__law_pick.b pass0 (pa_cons (pv 0) (pa_cons pe_int pa_nil))) (fun _ _ => rfl)) pa_nil))))))))),
    (sd_seq (sd_par 5 6 (ad_cons (ed_call (ad_cons (ed_var 0) (ad_cons (ed_cb v_len (ad_cons (ed_var 1) ad_nil)) ad_nil))) (ad_cons (ed_call (ad_cons (ed_var 0) (ad_cons (ed_cb v_len (ad_cons (ed_var 2) ad_nil)) ad_nil))) ad_nil)))
      (sd_seq (sd_asg (ed_call (ad_cons (ed_op v_ix (ed_var 1) (ed_var 5)) (ad_cons (ed_op v_ix (ed_var 2) (ed_var 6)) ad_nil))) (gd_name 3))
      (sd_seq (sd_asg (ed_lstN (ad_cons ed_int (ad_cons (ed_op v_add ed_int (ed_call (ad_cons (ed_var 0) (ad_cons ed_int ad_nil)))) (ad_cons (ed_op v_add (ed_op v_div (ed_var 3) ed_int) (ed_call (ad_cons (ed_var 0) (ad_cons ed_int ad_nil)))) ad_nil)))) (gd_name 4))
      (sd_seq (sd_asg (ed_op v_add (ed_var 4) (ed_lstN (ad_cons (ed_var 3) (ad_cons (ed_call (ad_cons (ed_var 0) (ad_cons (ed_op v_rI ed_int ed_int) ad_nil))) (ad_cons (ed_op v_rI ed_int ed_int) ad_nil))))) (gd_name 4))
      (sd_ret (ed_cb v_n2 (ad_cons (ed_op v_rI ed_int ed_int) (ad_cons (ed_op v_ix (ed_var 4) (ed_call (ad_cons (ed_var 0) (ad_cons ed_int ad_nil)))) ad_nil)))))))), fun a c h => ?_⟩)
  · exact ⟨rfl, trivial⟩
  · obtain ⟨⟨w, os⟩, qs⟩ := a
    obtain ⟨hT, hc⟩ := h
    have hT : TwoB w os qs := hT
    obtain ⟨⟨w1, w5⟩, ⟨o1, o2, ho⟩, ⟨q1, q2, hq⟩⟩ := hT
    have hc : c + 10 < LIM := hc
    have hL : LIM = 1000000000000000000 := rfl
    (unfold S_price; dsimp only; simp only [Γ0, List.length_cons, List.length_nil, Nat.reduceAdd, List.replicate])
    (refine rSeq_op fun nx hnx => ?_); solve_by_elim []
    refine ⟨by omega, by omega, by omega, fun i i0 i1 => ⟨by omega, by omega, by omega, fun j j0 j1 => ?_⟩⟩
    obtain ⟨i, rfl⟩ := Int.eq_ofNat_of_zero_le i0
    obtain ⟨j, rfl⟩ := Int.eq_ofNat_of_zero_le j0
    have hoi := getD_col ho (show i < os.length by omega)
    have hqj := getD_col hq (show j < qs.length by omega)
    have hbd := apartI_bd w5 hoi hqj
    refine hnx _ _ ?_; clear nx hnx
    (refine rSeq_op fun nx hnx => ?_); solve_by_elim []
    refine ⟨_, atI_cols (by omega), _, atI_cols (by omega), ?_⟩
    refine apart_call (by have := hoi.1; omega) (fun x hx => by have := hoi.2 x hx; omega) (fun x hx => by have := hqj.2 x hx; omega) ?_
    generalize apartI (os.getD i []) (qs.getD j []) = near at hbd ⊢
    (try solve_by_elim [])
    refine hnx _ _ ?_; clear nx hnx
    (refine rSeq_op fun nx hnx => ?_); solve_by_elim []
    refine ⟨by decide, by decide, by omega, fun x x0 x1 => ?_⟩
    have hdo : DivOk 2 := DivOk.s (by decide)
    refine ⟨hdo, by decide, by decide, by omega, fun y y0 y1 => ?_⟩
    refine hnx _ _ ?_; clear nx hnx
    (refine rSeq_op fun nx hnx => ?_); solve_by_elim []
    have c5 : CPow 10 5 := by unfold CPow; decide
    have c7 : CPow 10 7 := by unfold CPow; decide
    have e5 : (10 : Int) ^ Int.toNat 5 = 100000 := by decide
    have e7 : (10 : Int) ^ Int.toNat 7 = 10000000 := by decide
    rw [e5, e7]
    refine ⟨c5, by decide, by decide, by omega, fun z z0 z1 => ⟨c7, ?_⟩⟩
    refine hnx _ _ ?_; clear nx hnx
    (try solve_by_elim [])
    rw [e7]
    refine ⟨c7, by decide, by decide, by omega, fun u u0 u1 => ?_⟩
    obtain ⟨m, hm, e⟩ := atI_ints (ns := [0, 1 + x, near / 2 + y, near, z, 10000000]) u0 u1
    have hm : 0 ≤ m := by
      simp only [List.mem_cons, List.not_mem_nil, or_false] at hm
      omega
    refine ⟨_, e, ?_⟩
    clear e
    (try solve_by_elim [])
    exact ⟨_, rfl, by split <;> omega, by split <;> omega, by omega, by omega⟩
abbrev s_apart : Stmt := topS 1
theorem sc_apart : FnScope ["one", "other", "a", "b"] ["one", "other"] (defScope s_apart) := ⟨rfl, rfl, rfl, by decide +kernel, rfl, by decide +kernel, by decide +kernel⟩
theorem ok_apart {f : Addr} {fd : FuncData} (F : Fun K "apart" "apart" s_apart f fd) (NB : Bn mg) : FnG P w K mg base CX0 1 f fd ["one", "other"] (SpF K S_apart) := by
  refine fn_ok F sc_apart rfl (by decide) (fun a c h => ?_) (fun cdv A outer s H Q E hr => ⟨_, _, (pss_one (ps_ret (pe_callB (cr_sum rfl) (by rfl) (NB "sum" (by decide)) (by decide +kernel) (pa_cons (pe_lc (own := [("a", 2), ("b", 3)]) (g := gTup K 2 (gCons (gName 2) (gCons (gName 3) (gNil)))) rfl sc_apart.nd (WK.pi_zip2 (by rfl) (NB "zip" (by decide)) (pa_cons (pv 0) (pa_cons (pv 1) pa_nil))) (blkOk_by (N := ["one", "other", "a", "b"]) (sc := defScope s_apart) (by decide +kernel)) (fun _ _ _ _ _ => (pg_tup (n := 2) rfl (pgs_cons (pg_name (i := 2) sc_apart.nd rfl (by first | exact Or.inl rfl | exact Or.inr rfl)) (pgs_cons (pg_name (i := 3) sc_apart.nd rfl (by first | exact Or.inl rfl | exact Or.inr rfl)) pgs_nil)))) (fun _ _ _ _ _ => pts_nil) (fun _ _ _ _ _ => (pe_op op_mulA (pe_op op_sub (pv 2) (pv 3)) (pe_op op_sub (pv 2) (pv 3))))) pa_nil)))),
    (sd_ret (ed_cb v_sum (ad_cons (ed_lc (id_zip (ad_cons (ed_var 0) (ad_cons (ed_var 1) ad_nil))) (gd_tup (gds_cons (gd_name 2) (gds_cons (gd_name 3) gds_nil))) td_yes (ed_op v_mul (ed_op v_rI0 (ed_var 2) (ed_var 3)) (ed_op v_rI0 (ed_var 2) (ed_var 3))) (by decide)) ad_nil))), fun a c h => ?_⟩)
  · exact ⟨noL_col _, noL_col _, trivial⟩
  · obtain ⟨x, y⟩ := a
    obtain ⟨h1, h2, h3⟩ := h
    have h1 : x.length ≤ 1000 := h1
    have h2 : ∀ n ∈ x, -10000000 ≤ n ∧ n ≤ 10000000 := h2
    have h3 : ∀ n ∈ y, -10000000 ≤ n ∧ n ≤ 10000000 := h3
    unfold S_apart Γ0
    dsimp only
    simp (maxSteps := 3000000) only [rAsg, rOp, rUn, rVar, rC, rCB, rNil, rCons, rCall, rTup, rLst, rRet, rRetN, rNext, rIfS, rTest, rtAnd, rtOr, rtNot, rAndV, rOrV, rNotV, rIf, rAug, rDrop, rPar, rIxG, rSetG, rApp, IntoOk, riSeq, riRng1, riRng2, riZip, riEnum, rSl, roNone, roSome, dSl, dLen, dInt, dN1, dN2, dSum, dAllA, dTuple, dList, dIsiA, dEq, dNe, dIsN, DL.isNon, rChain, rBreak, rCont, gat, gset, kills, frz, dIsB, rPar3, Γ0, dMod, dDiv, dI, dI0, dMul, dAdd, dU, dIx, rgName, tup1, tup2, tup3, tup2F, stoInt, stoF, stoC, stoM, StoreOk, noL, noLs, itK, stK, List.length_cons, List.length_nil, List.map_cons, List.map_nil, List.replicate, if_true, if_false, Bool.true_and, Bool.and_true, Bool.true_or, Bool.or_true, Bool.false_or, Bool.or_false, ne_eq, reduceCtorEq, not_false_eq_true, true_and, and_true, cmbs_nil, cmbs_R, isR_R, elOk_R, Nat.reduceAdd, Nat.reduceLeDiff, Nat.zero_add, NG, isData, isDatas, eF, noLs_ints, noL_col, noLs_mid, noL_mid, noLs_cols, Bool.false_eq_true, reduceIte, Bool.not_true, Bool.not_false, false_and, and_self, forall_const, imp_self, false_implies, Nat.reduceEqDiff, decide_eq_true_eq, implies_true, mix_iff, pick_iff, eqOk_int, eqOk_bl, eqv_int, eqv_bl, isi_tuple, isi_list, isi_int, isi_bool, isi_str, okTy_tuple, okTy_list, okTy_int, okTy_bool, okTy_str, at0, at1, rRev, dMinA, dMinL, dMinP, dSortP, rRvs, rpRvs, rpVar, rpApp, rpIx, seqD_lst, seqD_tup, seqD_scr, seqS_lst, seqS_tup, seqS_scr, riZip3, nsD, nsDs, nsDs_ints, nsD_col, nsD_mid, nsDs_mid, nsDs_cols, kR, nsDs_mapA, allT, seqD_col, seqD_mid, seqS_col, seqS_mid, noLs_mids, zip_typ, zip3_typ, enum_typ, rLRng1, rLRng2, rpSet, rpSetA, rDNew, rDGet1, rDGet2, rSortIt, dSortG, rIdx, rpPopAt, rpPop, rpIns, rpExt, rpClr, rgDrop, rPick, rFrz, rMkGen, Bool.false_and, Bool.and_false, noL_box, nsD_box, rParR, kk, cmb_RR, cmb_SS, cmb_RS, cmb_SR, cmbs_S, rRetS, rCallS, shOk, stK0, List.getD_cons_zero, List.getD_cons_succ]
    refine rLc_typ (x.zip y) eF (fun p => .int ((p.1 - p.2) * (p.1 - p.2))) true c (fun P h => ?_) (by rw [List.length_zip]; omega) (fun p hp P h => ?_) (fun _ z => by cases z) ?_
    · simp (maxSteps := 3000000) only [rAsg, rOp, rUn, rVar, rC, rCB, rNil, rCons, rCall, rTup, rLst, rRet, rRetN, rNext, rIfS, rTest, rtAnd, rtOr, rtNot, rAndV, rOrV, rNotV, rIf, rAug, rDrop, rPar, rIxG, rSetG, rApp, IntoOk, riSeq, riRng1, riRng2, riZip, riEnum, rSl, roNone, roSome, dSl, dLen, dInt, dN1, dN2, dSum, dAllA, dTuple, dList, dIsiA, dEq, dNe, dIsN, DL.isNon, rChain, rBreak, rCont, gat, gset, kills, frz, dIsB, rPar3, Γ0, dMod, dDiv, dI, dI0, dMul, dAdd, dU, dIx, rgName, tup1, tup2, tup3, tup2F, stoInt, stoF, stoC, stoM, StoreOk, noL, noLs, itK, stK, List.length_cons, List.length_nil, List.map_cons, List.map_nil, List.replicate, if_true, if_false, Bool.true_and, Bool.and_true, Bool.true_or, Bool.or_true, Bool.false_or, Bool.or_false, ne_eq, reduceCtorEq, not_false_eq_true, true_and, and_true, cmbs_nil, cmbs_R, isR_R, elOk_R, Nat.reduceAdd, Nat.reduceLeDiff, Nat.zero_add, NG, isData, isDatas, eF, noLs_ints, noL_col, noLs_mid, noL_mid, noLs_cols, Bool.false_eq_true, reduceIte, Bool.not_true, Bool.not_false, false_and, and_self, forall_const, imp_self, false_implies, Nat.reduceEqDiff, decide_eq_true_eq, implies_true, mix_iff, pick_iff, eqOk_int, eqOk_bl, eqv_int, eqv_bl, isi_tuple, isi_list, isi_int, isi_bool, isi_str, okTy_tuple, okTy_list, okTy_int, okTy_bool, okTy_str, at0, at1, rRev, dMinA, dMinL, dMinP, dSortP, rRvs, rpRvs, rpVar, rpApp, rpIx, seqD_lst, seqD_tup, seqD_scr, seqS_lst, seqS_tup, seqS_scr, riZip3, nsD, nsDs, nsDs_ints, nsD_col, nsD_mid, nsDs_mid, nsDs_cols, kR, nsDs_mapA, allT, seqD_col, seqD_mid, seqS_col, seqS_mid, noLs_mids, zip_typ, zip3_typ, enum_typ, rLRng1, rLRng2, rpSet, rpSetA, rDNew, rDGet1, rDGet2, rSortIt, dSortG, rIdx, rpPopAt, rpPop, rpIns, rpExt, rpClr, rgDrop, rPick, rFrz, rMkGen, Bool.false_and, Bool.and_false, noL_box, nsD_box, rParR, kk, cmb_RR, cmb_SS, cmb_RS, cmb_SR, cmbs_S, rRetS, rCallS, shOk, stK0, List.getD_cons_zero, List.getD_cons_succ, eCol, zip_ints]
      exact h
    · have q1 := h2 _ (List.of_mem_zip hp).1
      have q2 := h3 _ (List.of_mem_zip hp).2
      simp (maxSteps := 3000000) only [rAsg, rOp, rUn, rVar, rC, rCB, rNil, rCons, rCall, rTup, rLst, rRet, rRetN, rNext, rIfS, rTest, rtAnd, rtOr, rtNot, rAndV, rOrV, rNotV, rIf, rAug, rDrop, rPar, rIxG, rSetG, rApp, IntoOk, riSeq, riRng1, riRng2, riZip, riEnum, rSl, roNone, roSome, dSl, dLen, dInt, dN1, dN2, dSum, dAllA, dTuple, dList, dIsiA, dEq, dNe, dIsN, DL.isNon, rChain, rBreak, rCont, gat, gset, kills, frz, dIsB, rPar3, Γ0, dMod, dDiv, dI, dI0, dMul, dAdd, dU, dIx, rgName, tup1, tup2, tup3, tup2F, stoInt, stoF, stoC, stoM, StoreOk, noL, noLs, itK, stK, List.length_cons, List.length_nil, List.map_cons, List.map_nil, List.replicate, if_true, if_false, Bool.true_and, Bool.and_true, Bool.true_or, Bool.or_true, Bool.false_or, Bool.or_false, ne_eq, reduceCtorEq, not_false_eq_true, true_and, and_true, cmbs_nil, cmbs_R, isR_R, elOk_R, Nat.reduceAdd, Nat.reduceLeDiff, Nat.zero_add, NG, isData, isDatas, eF, noLs_ints, noL_col, noLs_mid, noL_mid, noLs_cols, Bool.false_eq_true, reduceIte, Bool.not_true, Bool.not_false, false_and, and_self, forall_const, imp_self, false_implies, Nat.reduceEqDiff, decide_eq_true_eq, implies_true, mix_iff, pick_iff, eqOk_int, eqOk_bl, eqv_int, eqv_bl, isi_tuple, isi_list, isi_int, isi_bool, isi_str, okTy_tuple, okTy_list, okTy_int, okTy_bool, okTy_str, at0, at1, rRev, dMinA, dMinL, dMinP, dSortP, rRvs, rpRvs, rpVar, rpApp, rpIx, seqD_lst, seqD_tup, seqD_scr, seqS_lst, seqS_tup, seqS_scr, riZip3, nsD, nsDs, nsDs_ints, nsD_col, nsD_mid, nsDs_mid, nsDs_cols, kR, nsDs_mapA, allT, seqD_col, seqD_mid, seqS_col, seqS_mid, noLs_mids, zip_typ, zip3_typ, enum_typ, rLRng1, rLRng2, rpSet, rpSetA, rDNew, rDGet1, rDGet2, rSortIt, dSortG, rIdx, rpPopAt, rpPop, rpIns, rpExt, rpClr, rgDrop, rPick, rFrz, rMkGen, Bool.false_and, Bool.and_false, noL_box, nsD_box, rParR, kk, cmb_RR, cmb_SS, cmb_RS, cmb_SR, cmbs_S, rRetS, rCallS, shOk, stK0, List.getD_cons_zero, List.getD_cons_succ]
      exact ⟨MulB.l (by omega), h⟩
    · simp (maxSteps := 3000000) only [rAsg, rOp, rUn, rVar, rC, rCB, rNil, rCons, rCall, rTup, rLst, rRet, rRetN, rNext, rIfS, rTest, rtAnd, rtOr, rtNot, rAndV, rOrV, rNotV, rIf, rAug, rDrop, rPar, rIxG, rSetG, rApp, IntoOk, riSeq, riRng1, riRng2, riZip, riEnum, rSl, roNone, roSome, dSl, dLen, dInt, dN1, dN2, dSum, dAllA, dTuple, dList, dIsiA, dEq, dNe, dIsN, DL.isNon, rChain, rBreak, rCont, gat, gset, kills, frz, dIsB, rPar3, Γ0, dMod, dDiv, dI, dI0, dMul, dAdd, dU, dIx, rgName, tup1, tup2, tup3, tup2F, stoInt, stoF, stoC, stoM, StoreOk, noL, noLs, itK, stK, List.length_cons, List.length_nil, List.map_cons, List.map_nil, List.replicate, if_true, if_false, Bool.true_and, Bool.and_true, Bool.true_or, Bool.or_true, Bool.false_or, Bool.or_false, ne_eq, reduceCtorEq, not_false_eq_true, true_and, and_true, cmbs_nil, cmbs_R, isR_R, elOk_R, Nat.reduceAdd, Nat.reduceLeDiff, Nat.zero_add, NG, isData, isDatas, eF, noLs_ints, noL_col, noLs_mid, noL_mid, noLs_cols, Bool.false_eq_true, reduceIte, Bool.not_true, Bool.not_false, false_and, and_self, forall_const, imp_self, false_implies, Nat.reduceEqDiff, decide_eq_true_eq, implies_true, mix_iff, pick_iff, eqOk_int, eqOk_bl, eqv_int, eqv_bl, isi_tuple, isi_list, isi_int, isi_bool, isi_str, okTy_tuple, okTy_list, okTy_int, okTy_bool, okTy_str, at0, at1, rRev, dMinA, dMinL, dMinP, dSortP, rRvs, rpRvs, rpVar, rpApp, rpIx, seqD_lst, seqD_tup, seqD_scr, seqS_lst, seqS_tup, seqS_scr, riZip3, nsD, nsDs, nsDs_ints, nsD_col, nsD_mid, nsDs_mid, nsDs_cols, kR, nsDs_mapA, allT, seqD_col, seqD_mid, seqS_col, seqS_mid, noLs_mids, zip_typ, zip3_typ, enum_typ, rLRng1, rLRng2, rpSet, rpSetA, rDNew, rDGet1, rDGet2, rSortIt, dSortG, rIdx, rpPopAt, rpPop, rpIns, rpExt, rpClr, rgDrop, rPick, rFrz, rMkGen, Bool.false_and, Bool.and_false, noL_box, nsD_box, rParR, kk, cmb_RR, cmb_SS, cmb_RS, cmb_SR, cmbs_S, rRetS, rCallS, shOk, stK0, List.getD_cons_zero, List.getD_cons_succ]
      exact ⟨(x.zip y).map fun p => (p.1 - p.2) * (p.1 - p.2), by rw [List.map_map]; rfl, rfl⟩
abbrev s_cost_of : Stmt := topS 3
theorem sc_cost_of : FnScope ["one", "other", "price", "pairs", "turned", "i", "j"] ["one", "other", "price", "pairs"] (defScope s_cost_of) := ⟨rfl, rfl, rfl, by decide +kernel, rfl, by decide +kernel, by decide +kernel⟩
theorem ok_cost_of {f : Addr} {fd : FuncData} (F : Fun K "cost_of" "cost_of" s_cost_of f fd) {f_apart : Addr} {fd_apart : FuncData} (A_apart : FnAt P w K mg base 1 "apart" ["one", "other"] (SpF K S_apart) f_apart fd_apart) (NB : Bn mg) : FnG P w K mg base CX0 2 f fd ["one", "other", "price", "pairs"] (SpF K S_costI) := by
  refine fn_ok F sc_cost_of rfl (by decide) (fun a c h => ?_) (fun cdv A outer s H Q E hr => ⟨_, _, (pss_cons (ps_set (i := 4) sc_cost_of.nd rfl (by first | exact Or.inl rfl | exact Or.inr rfl) (pe_callB (cr_sum rfl) (by rfl) (NB "sum" (by decide)) (by decide +kernel) (pa_cons (pe_lc (own := [("i", 5), ("j", 6)]) (g := gTup K 2 (gCons (gName 5) (gCons (gName 6) (gNil)))) rfl sc_cost_of.nd (pi_seqA (pv 3)) (blkOk_by (N := ["one", "other", "price", "pairs", "turned", "i", "j"]) (sc := defScope s_cost_of) (by decide +kernel)) (fun _ _ _ _ _ => (pg_tup (n := 2) rfl (pgs_cons (pg_name (i := 5) sc_cost_of.nd rfl (by first | exact Or.inl rfl | exact Or.inr rfl)) (pgs_cons (pg_name (i := 6) sc_cost_of.nd rfl (by first | exact Or.inl rfl | exact Or.inr rfl)) pgs_nil)))) (fun _ _ _ _ _ => pts_nil) (fun _ _ _ _ _ => (pe_callG A_apart.ok (hr.mono (by decide)) (by rfl) A_apart.g A_apart.kp A_apart.b pass0 (pa_cons (pe_ix (ix_any hr.units) (pv 0) (pv 5) (fun _ _ => rfl)) (pa_cons (pe_ix (ix_any hr.units) (pv 1) (pv 6) (fun _ _ => rfl)) pa_nil))))) pa_nil)))
      (pss_one (ps_ret (pe_op op_addA (pv 4) (pe_op op_mulA (pv 2) (pe_op op_sub (pe_op op_addA (pe_callB call_len (by rfl) (NB "len" (by decide)) (by decide +kernel) (pa_cons (pv 0) pa_nil)) (pe_callB call_len (by rfl) (NB "len" (by decide)) (by decide +kernel) (pa_cons (pv 1) pa_nil))) (pe_op op_mulA pe_int (pe_callB call_len (by rfl) (NB "len" (by decide)) (by decide +kernel) (pa_cons (pv 3) pa_nil))))))))),
    (sd_seq (sd_asg (ed_cb v_sum (ad_cons (ed_lc (id_seq (ed_var 3)) (gd_tup (gds_cons (gd_name 5) (gds_cons (gd_name 6) gds_nil))) td_yes (ed_call (ad_cons (ed_op v_ix (ed_var 0) (ed_var 5)) (ad_cons (ed_op v_ix (ed_var 1) (ed_var 6)) ad_nil))) (by decide)) ad_nil)) (gd_name 4))
      (sd_ret (ed_op v_add (ed_var 4) (ed_op v_mul (ed_var 2) (ed_op v_rI0 (ed_op v_add (ed_cb v_len (ad_cons (ed_var 0) ad_nil)) (ed_cb v_len (ad_cons (ed_var 1) ad_nil))) (ed_op v_mul ed_int (ed_cb v_len (ad_cons (ed_var 3) ad_nil)))))))), fun a c h => ?_⟩)
  · exact ⟨rfl, trivial⟩
  · obtain ⟨⟨⟨w, n⟩, ps⟩, os, qs⟩ := a
    obtain ⟨hT, ⟨n1, n2⟩, hp1, hp⟩ := h
    have hT : TwoB w os qs := hT
    obtain ⟨⟨w1, w5⟩, ⟨o1, o2, ho⟩, ⟨q1, q2, hq⟩⟩ := hT
    have n1 : 0 ≤ n := n1
    have n2 : n ≤ 10000000 := n2
    have hp1 : ps.length ≤ os.length := hp1
    have hp : ∀ p ∈ ps, p.1 < os.length ∧ p.2 < qs.length := hp
    (unfold S_costI; dsimp only; simp only [Γ0, List.length_cons, List.length_nil, Nat.reduceAdd, List.replicate])
    (refine rSeq_op fun nx hnx => ?_); solve_by_elim []
    refine rLcA ps ePr (fun p => .int (trnI os qs p)) true true c (fun P h => ?_) (by omega) (fun p hpm P h => ?_) ?_ (fun _ _ => ⟨nofun, rfl⟩)
    · (try solve_by_elim* [ePrs, noLs_Prs])
      try exact h
    · obtain ⟨p1, p2⟩ := hp p hpm
      have c1 := getD_col ho p1
      have c2 := getD_col hq p2
      (try solve_by_elim [ePr])
      refine ⟨_, atI_cols p1, _, atI_cols p2, ?_⟩
      refine apart_call (by have := c1.1; omega) (fun x hx => by have := c1.2 x hx; omega) (fun x hx => by have := c2.2 x hx; omega) ?_
      try exact h
    (try solve_by_elim [ePrs])
    refine hnx _ _ ?_; clear nx hnx
    have ht : ∀ ps : Prs, (∀ p ∈ ps, p.1 < os.length ∧ p.2 < qs.length) → 0 ≤ (ps.map (trnI os qs)).sum ∧ (ps.map (trnI os qs)).sum ≤ 5000000 * ps.length := fun ps => by
      induction ps with
      | nil => intro _; exact ⟨Int.le_refl _, Int.le_refl _⟩
      | cons p r ih =>
        intro hp
        have := ih fun q hq => hp q (List.mem_cons_of_mem _ hq)
        obtain ⟨h1, h2⟩ := hp p List.mem_cons_self
        have := apartI_bd w5 (getD_col ho h1) (getD_col hq h2)
        rw [List.map_cons, List.sum_cons, List.length_cons, show trnI os qs p = apartI (os.getD p.1 []) (qs.getD p.2 []) from rfl]
        omega
    have htb := ht ps hp
    (try solve_by_elim [])
    exact ⟨MulB.l (by decide), MulB.l (by omega), rfl⟩
abbrev s__law_pairs : Stmt := topS 15
theorem sc__law_pairs : FnScope ["left", "one", "other", "free", "found", "i"] ["left", "one", "other"] (defScope s__law_pairs) := ⟨rfl, rfl, rfl, by decide +kernel, rfl, by decide +kernel, by decide +kernel⟩
theorem ok__law_pairs {f : Addr} {fd : FuncData} (F : Fun K "_law_pairs" "_law_pairs" s__law_pairs f fd) {f__law_pick : Addr} {fd__law_pick : FuncData} (A__law_pick : FnAt P w K mg base 2 "_law_pick" ["left", "many"] (SpF K S_pick) f__law_pick fd__law_pick) (NB : Bn mg) : FnG P w K mg base CX0 3 f fd ["left", "one", "other"] (SpF K S_pairs) := by
  refine fn_ok F sc__law_pairs rfl (by decide) (fun a c h => ?_) (fun cdv A outer s H Q E hr => ⟨_, _, (pss_cons (ps_set (i := 3) sc__law_pairs.nd rfl (by first | exact Or.inl rfl | exact Or.inr rfl) (pe_listRg (by rfl) (by rfl) (NB "list" (by decide)) (prg_1 (by rfl) (NB "range" (by decide)) (pe_callB call_len (by rfl) (NB "len" (by decide)) (by decide +kernel) (pa_cons (pv 2) pa_nil)))))
      (pss_cons (ps_set (i := 4) sc__law_pairs.nd rfl (by first | exact Or.inl rfl | exact Or.inr rfl) (pe_lst pa_nil))
      (pss_cons (ps_for PassesOwn.never rfl (pi_range1 (by rfl) (NB "range" (by decide)) (pa_cons (pe_callB call_len (by rfl) (NB "len" (by decide)) (by decide +kernel) (pa_cons (pv 1) pa_nil)) pa_nil)) (pg_name (i := 5) sc__law_pairs.nd rfl (by first | exact Or.inl rfl | exact Or.inr rfl)) (pss_one (ps_if (PW.pt (pw_and (pt_cmpR (op_neD hr.units) (pv 3) (pe_lst pa_nil) (nomark _)) (pw_and1 (pt_cmpR op_gt (pe_callG A__law_pick.ok (hr.mono (by decide)) (by rfl) A__law_pick.g A__law_pick.kp A__law_pick.b pass0 (pa_cons (pv 0) (pa_cons pe_int pa_nil))) pe_int (nomark _))))) (pss_one (ps_expr (pe_bm PySem.F.plainAttrs_list PySem.F.slot_list_append PySem.F.type_list_append mt_append (pv 4) (pa_cons (pe_tup (pa_cons (pv 5) (pa_cons (pe_bm PySem.F.plainAttrs_list PySem.F.slot_list_pop PySem.F.type_list_pop mt_popAt (pv 3) (pa_cons (pe_callG A__law_pick.ok (hr.mono (by decide)) (by rfl) A__law_pick.g A__law_pick.kp A__law_pick.b pass0 (pa_cons (pv 0) (pa_cons (pe_callB call_len (by rfl) (NB "len" (by decide)) (by decide +kernel) (pa_cons (pv 3) pa_nil)) pa_nil))) pa_nil)) pa_nil))) pa_nil)))) pss_nil)))
      (pss_one (ps_ret (pv 4)))))),
    (sd_seq (sd_asg (ed_lrng1 (ed_cb v_len (ad_cons (ed_var 2) ad_nil))) (gd_name 3))
      (sd_seq (sd_asg (ed_lstN ad_nil) (gd_name 4))
      (sd_seq (sd_for (id_rng1 (ad_cons (ed_cb v_len (ad_cons (ed_var 1) ad_nil)) ad_nil)) (gd_name 5) (sd_if (td_and (td_test (ed_op v_ne (ed_var 3) (ed_lstN ad_nil))) (td_test (ed_op v_rB0 (ed_call (ad_cons (ed_var 0) (ad_cons ed_int ad_nil))) ed_int))) (sd_appPop (i := 4) (j := 3) (a := 5) (ed_call (ad_cons (ed_var 0) (ad_cons (ed_cb v_len (ad_cons (ed_var 3) ad_nil)) ad_nil)))) sd_next))
      (sd_ret (ed_var 4))))), fun a c h => ?_⟩)
  · exact ⟨rfl, trivial⟩
  · obtain ⟨os, qs⟩ := a
    obtain ⟨h1, h2, hc⟩ := h
    have h1 : os.length ≤ 20 := h1
    have h2 : qs.length ≤ 20 := h2
    have hc : c + 100 < LIM := hc
    have hL : LIM = 1000000000000000000 := rfl
    (unfold S_pairs; dsimp only; simp only [Γ0, List.length_cons, List.length_nil, Nat.reduceAdd, List.replicate])
    (refine rSeq_op fun nx hnx => ?_); solve_by_elim []
    refine ⟨by omega, by omega, ?_⟩
    rw [show DL.intsFrom 0 ((qs.length : Nat) : Int).toNat = (List.range qs.length).map fun x : Nat => D.int x by unfold DL.intsFrom; rw [Int.toNat_natCast]; exact List.map_congr_left fun x _ => by rw [Int.zero_add]]
    refine hnx _ _ ?_; clear nx hnx
    (refine rSeq_op fun nx hnx => ?_); solve_by_elim []
    refine hnx _ _ ?_; clear nx hnx
    rw [rSeq_eq]
    refine rFor_rngI os.length 2 (fun k Γ => ∃ (fs : List Nat) (ps : Prs), (fs.length ≤ 20 ∧ (∀ x ∈ fs, x < qs.length) ∧ ps.length ≤ k ∧ ∀ p ∈ ps, p.1 < os.length ∧ p.2 < qs.length) ∧ ∃ s5, Γ = [some ⟨.nl, .gen⟩, some ⟨.sh, .lst (os.map eCol)⟩, some ⟨.sh, .lst (qs.map eCol)⟩, some ⟨.own, .lst (fs.map fun x : Nat => .int x)⟩, some ⟨.own, .lst (ps.map ePr)⟩, s5]) (fun P h => ?_) ⟨List.range qs.length, [], ⟨by rw [List.length_range]; exact h2, fun x hx => List.mem_range.mp hx, Nat.zero_le _, nofun⟩, _, rfl⟩ (fun i Γ' c' hi hM g1 g2 f hf => ?_) fun Γ' c' hM g1 g2 => ?_
    · (try solve_by_elim [])
      exact ⟨by omega, by omega, h⟩
    · obtain ⟨fs, ps, ⟨lf, hfs, hpl, hps⟩, s5, rfl⟩ := hM
      (try solve_by_elim [])
      refine ⟨(sh_nats hfs lf h2).eq (by decide), eqOk_nil, ?_⟩
      rw [eqv_nil, List.isEmpty_map]
      have no : f [some ⟨.nl, .gen⟩, some ⟨.sh, .lst (os.map eCol)⟩, some ⟨.sh, .lst (qs.map eCol)⟩, some ⟨.own, .lst (fs.map fun x : Nat => .int x)⟩, some ⟨.own, .lst (ps.map ePr)⟩, some ⟨.nl, .int (i : Nat)⟩] c' := hf _ _ ⟨fs, ps, ⟨lf, hfs, by omega, hps⟩, _, rfl⟩ (by omega) (by omega)
      have no1 : f [some ⟨.nl, .gen⟩, some ⟨.sh, .lst (os.map eCol)⟩, some ⟨.sh, .lst (qs.map eCol)⟩, some ⟨.own, .lst (fs.map fun x : Nat => .int x)⟩, some ⟨.own, .lst (ps.map ePr)⟩, some ⟨.nl, .int (i : Nat)⟩] (c' + 1) := hf _ _ ⟨fs, ps, ⟨lf, hfs, by omega, hps⟩, _, rfl⟩ (by omega) (by omega)
      by_cases hfe : fs = []
      · subst hfe
        exact no
      · have hfl := List.length_pos_iff.mpr hfe
        rw [if_pos (by cases fs with | nil => exact absurd rfl hfe | cons x r => rfl)]
        refine ⟨by decide, by decide, by omega, fun r r0 r1 => ?_⟩
        split
        · refine ⟨ps.map ePr, fs.map fun x : Nat => .int x, i, rfl, rfl, rfl, by decide, by rw [List.length_map]; omega, ?_⟩
          (try solve_by_elim [])
          refine ⟨by omega, by omega, by omega, fun u u0 u1 => ?_⟩
          obtain ⟨k, rfl⟩ := Int.eq_ofNat_of_zero_le u0
          have hk : k < fs.length := by omega
          refine ⟨by omega, by omega, k, ((fs[k] : Nat) : Int), ?_, ?_, ?_⟩
          · unfold ixN
            rw [if_pos (by omega), if_pos (by omega), Int.toNat_natCast]
          · rw [List.getElem?_map, List.getElem?_eq_getElem hk]; rfl
          rw [eraseIdx_mapD]
          rw [show ps.map ePr ++ [D.tup [D.int (i : Nat), D.int ((fs[k] : Nat) : Int)]] = (ps ++ [(i, fs[k])]).map ePr by rw [List.map_append]; rfl]
          have hke := List.length_eraseIdx_le fs k
          refine hf _ _ ⟨fs.eraseIdx k, ps ++ [(i, fs[k])], ⟨by omega, fun x hx => hfs x (List.mem_of_mem_eraseIdx hx), by rw [List.length_append]; show ps.length + 1 ≤ i + 1; omega, fun p hp => ?_⟩, _, rfl⟩ (by omega) (by omega)
          rcases List.mem_append.mp hp with hp | hp
          · exact hps p hp
          · cases List.mem_singleton.mp hp
            exact ⟨hi, hfs _ (List.getElem_mem hk)⟩
        · exact no1
    · obtain ⟨fs, ps, ⟨lf, hfs, hps⟩, s5, rfl⟩ := hM
      (try solve_by_elim [])
      exact ⟨List.all_eq_true.mpr fun x _ => rfl, ps, rfl, hps, by omega, by omega⟩
abbrev s__law_same : Stmt := topS 11
theorem sc__law_same : FnScope ["found", "due", "one", "other"] ["found", "due"] (defScope s__law_same) := ⟨rfl, rfl, rfl, by decide +kernel, rfl, by decide +kernel, by decide +kernel⟩
theorem step__law_same {n : Nat} {f : Addr} {fd : FuncData} (F : Fun K "_law_same" "_law_same" s__law_same f fd) (A__law_same : FnAt P w K mg base (0 + n) "_law_same" ["found", "due"] (SpF K (S_same n)) f fd) (NB : Bn mg) : FnG P w K mg base CX0 (0 + (n + 1)) f fd ["found", "due"] (SpF K (S_same (n + 1))) := by
  refine fn_ok (k := 0 + n) F sc__law_same rfl (by decide) (fun a c h => ?_) (fun cdv A outer s H Q E hr => ⟨_, _, (pss_cons (ps_if (pt_val (pe_callB call_isiA (by rfl) (NB "isinstance" (by decide)) (by decide +kernel) (pa_cons (pv 1) (pa_cons (pe_tup (pa_cons (pe_bltn (v := .ty "list") (by rfl) (NB "list" (by decide)) (by decide +kernel) rfl) (pa_cons (pe_bltn (v := .ty "tuple") (by rfl) (NB "tuple" (by decide)) (by decide +kernel) rfl) pa_nil))) pa_nil)))) (pss_cons (ps_if (PW.pt (pw_or (pt_cmpR (op_neD hr.units) (pe_callB call_isiA (by rfl) (NB "isinstance" (by decide)) (by decide +kernel) (pa_cons (pv 0) (pa_cons (pe_bltn (v := .ty "list") (by rfl) (NB "list" (by decide)) (by decide +kernel) rfl) pa_nil))) (pe_callB call_isiA (by rfl) (NB "isinstance" (by decide)) (by decide +kernel) (pa_cons (pv 1) (pa_cons (pe_bltn (v := .ty "list") (by rfl) (NB "list" (by decide)) (by decide +kernel) rfl) pa_nil))) (nomark _)) (pw_or1 (pt_cmpR (op_neD hr.units) (pe_callB call_isiA (by rfl) (NB "isinstance" (by decide)) (by decide +kernel) (pa_cons (pv 0) (pa_cons (pe_bltn (v := .ty "tuple") (by rfl) (NB "tuple" (by decide)) (by decide +kernel) rfl) pa_nil))) (pe_callB call_isiA (by rfl) (NB "isinstance" (by decide)) (by decide +kernel) (pa_cons (pv 1) (pa_cons (pe_bltn (v := .ty "tuple") (by rfl) (NB "tuple" (by decide)) (by decide +kernel) rfl) pa_nil))) (nomark _))))) (pss_one (ps_ret pe_bl)) pss_nil)
      (pss_one (ps_ret (pe_and (pe_cmpR (op_eqD hr.units) (pe_callB call_len (by rfl) (NB "len" (by decide)) (by decide +kernel) (pa_cons (pv 0) pa_nil)) (pe_callB call_len (by rfl) (NB "len" (by decide)) (by decide +kernel) (pa_cons (pv 1) pa_nil)) (nomark _)) (pe_one (pe_callB (cr_all rfl) (by rfl) (NB "all" (by decide)) (by decide +kernel) (pa_cons (pe_lc (own := [("one", 2), ("other", 3)]) (g := gTup K 2 (gCons (gName 2) (gCons (gName 3) (gNil)))) rfl sc__law_same.nd (WK.pi_zip2 (by rfl) (NB "zip" (by decide)) (pa_cons (pv 0) (pa_cons (pv 1) pa_nil))) (blkOk_by (N := ["found", "due", "one", "other"]) (sc := defScope s__law_same) (by decide +kernel)) (fun _ _ _ _ _ => (pg_tup (n := 2) rfl (pgs_cons (pg_name (i := 2) sc__law_same.nd rfl (by first | exact Or.inl rfl | exact Or.inr rfl)) (pgs_cons (pg_name (i := 3) sc__law_same.nd rfl (by first | exact Or.inl rfl | exact Or.inr rfl)) pgs_nil)))) (fun _ _ _ _ _ => pts_nil) (fun _ _ _ _ _ => (pe_callG A__law_same.ok (hr.mono (by omega)) (by rfl) A__law_same.g A__law_same.kp A__law_same.b pass0 (pa_cons (pv 2) (pa_cons (pv 3) pa_nil))))) pa_nil))))))) pss_nil)
      (pss_cons (ps_if (PW.pt (pw_or (pt_cmpR op_isN (pv 1) pe_non (nomark _)) (pw_or1 (pt_val (pe_callB call_isiA (by rfl) (NB "isinstance" (by decide)) (by decide +kernel) (pa_cons (pv 1) (pa_cons (pe_bltn (v := .ty "str") (by rfl) (NB "str" (by decide)) (by decide +kernel) rfl) pa_nil))))))) (pss_one (ps_ret (pe_and (pe_cmpR (op_eqD hr.units) (pv 0) (pv 1) (nomark _)) (pe_one (pe_cmpR (op_eqD hr.units) (pe_callB call_isiA (by rfl) (NB "isinstance" (by decide)) (by decide +kernel) (pa_cons (pv 0) (pa_cons (pe_bltn (v := .ty "str") (by rfl) (NB "str" (by decide)) (by decide +kernel) rfl) pa_nil))) (pe_callB call_isiA (by rfl) (NB "isinstance" (by decide)) (by decide +kernel) (pa_cons (pv 1) (pa_cons (pe_bltn (v := .ty "str") (by rfl) (NB "str" (by decide)) (by decide +kernel) rfl) pa_nil))) (nomark _)))))) pss_nil)
      (pss_cons (ps_if (pt_val (pe_callB call_isiA (by rfl) (NB "isinstance" (by decide)) (by decide +kernel) (pa_cons (pv 1) (pa_cons (pe_bltn (v := .ty "bool") (by rfl) (NB "bool" (by decide)) (by decide +kernel) rfl) pa_nil)))) (pss_one (ps_ret (pe_and (pe_callB call_isiA (by rfl) (NB "isinstance" (by decide)) (by decide +kernel) (pa_cons (pv 0) (pa_cons (pe_bltn (v := .ty "bool") (by rfl) (NB "bool" (by decide)) (by decide +kernel) rfl) pa_nil))) (pe_one (pe_cmpR (op_eqD hr.units) (pv 0) (pv 1) (nomark _)))))) pss_nil)
      (pss_one (ps_ret (pe_and (pe_callB call_isiA (by rfl) (NB "isinstance" (by decide)) (by decide +kernel) (pa_cons (pv 0) (pa_cons (pe_bltn (v := .ty "int") (by rfl) (NB "int" (by decide)) (by decide +kernel) rfl) pa_nil))) (pe_and (pe_not (pe_callB call_isiA (by rfl) (NB "isinstance" (by decide)) (by decide +kernel) (pa_cons (pv 0) (pa_cons (pe_bltn (v := .ty "bool") (by rfl) (NB "bool" (by decide)) (by decide +kernel) rfl) pa_nil)))) (pe_one (pe_cmpR (op_eqD hr.units) (pv 0) (pv 1) (nomark _)))))))))),
    (sd_seq (sd_if (td_B (ed_cb v_isiA (ad_cons (ed_var 1) (ad_cons (ed_tup (ad_cons ed_ty (ad_cons ed_ty ad_nil))) ad_nil)))) (sd_seq (sd_if (td_or (td_test (ed_op v_ne (ed_cb v_isiA (ad_cons (ed_var 0) (ad_cons ed_ty ad_nil))) (ed_cb v_isiA (ad_cons (ed_var 1) (ad_cons ed_ty ad_nil))))) (td_test (ed_op v_ne (ed_cb v_isiA (ad_cons (ed_var 0) (ad_cons ed_ty ad_nil))) (ed_cb v_isiA (ad_cons (ed_var 1) (ad_cons ed_ty ad_nil)))))) (sd_ret ed_bl) sd_next)
      (sd_ret (ed_andV (ed_op v_eq (ed_cb v_len (ad_cons (ed_var 0) ad_nil)) (ed_cb v_len (ad_cons (ed_var 1) ad_nil))) (ed_cb v_allA (ad_cons (ed_lc (id_zip (ad_cons (ed_var 0) (ad_cons (ed_var 1) ad_nil))) (gd_tup (gds_cons (gd_name 2) (gds_cons (gd_name 3) gds_nil))) td_yes (ed_call (ad_cons (ed_var 2) (ad_cons (ed_var 3) ad_nil))) (by decide)) ad_nil))))) sd_next)
      (sd_seq (sd_if (td_or (td_test (ed_op v_isN (ed_var 1) ed_non)) (td_B (ed_cb v_isiA (ad_cons (ed_var 1) (ad_cons ed_ty ad_nil))))) (sd_ret (ed_andV (ed_op v_eq (ed_var 0) (ed_var 1)) (ed_op v_eq (ed_cb v_isiA (ad_cons (ed_var 0) (ad_cons ed_ty ad_nil))) (ed_cb v_isiA (ad_cons (ed_var 1) (ad_cons ed_ty ad_nil)))))) sd_next)
      (sd_seq (sd_if (td_B (ed_cb v_isiA (ad_cons (ed_var 1) (ad_cons ed_ty ad_nil)))) (sd_ret (ed_andV (ed_cb v_isiA (ad_cons (ed_var 0) (ad_cons ed_ty ad_nil))) (ed_op v_eq (ed_var 0) (ed_var 1)))) sd_next)
      (sd_ret (ed_andV (ed_cb v_isiA (ad_cons (ed_var 0) (ad_cons ed_ty ad_nil))) (ed_andV (ed_notV (ed_cb v_isiA (ad_cons (ed_var 0) (ad_cons ed_ty ad_nil)))) (ed_op v_eq (ed_var 0) (ed_var 1)))))))), fun a c h => ?_⟩)
  · exact trivial
  · obtain ⟨x, y⟩ := a
    have h' : okD x = true ∧ dep x ≤ 60 ∧ okD y = true ∧ dep y ≤ 60 ∧ dep y < n + 1 := h
    clear h
    obtain ⟨h1, h2, h3, h4, h5⟩ := h'
    have d1 := okD_data h1
    have d3 := okD_data h3
    have e1 := eqOk_of h1 (by omega)
    have e3 := eqOk_of h3 (by omega)
    cases y with
    | lst es =>
     cases x with
     | lst fs =>
      have ⟨l1, k1⟩ := okD_seq h1
      have ⟨l3, k3⟩ := okD_seq h3
      have d1 := okDs_data k1
      have d3 := okDs_data k3
      simp only [rSeq, rAsg, rOp, rUn, rVar, rC, rCB, rNil, rCons, rCall, rTup, rLst, rRet, rRetN, rNext, rIfS, rTest, rtAnd, rtOr, rtNot, rAndV, rOrV, rNotV, rIf, rAug, rDrop, rPar, rIxG, rSetG, rApp, IntoOk, riSeq, riRng1, riRng2, riZip, riEnum, rSl, roNone, roSome, dSl, dLen, dInt, dN1, dN2, dSum, dAllA, dTuple, dList, dIsiA, dEq, dNe, dIsN, DL.isNon, rChain, rBreak, rCont, gat, gset, kills, frz, dIsB, rPar3, Γ0, dMod, dDiv, dI, dI0, dMul, dAdd, dU, dIx, rgName, tup1, tup2, tup3, tup2F, stoInt, stoF, stoC, stoM, StoreOk, noL, noLs, itK, stK, List.length_cons, List.length_nil, List.map_cons, List.map_nil, List.replicate, if_true, if_false, Bool.true_and, Bool.and_true, Bool.true_or, Bool.or_true, Bool.false_or, Bool.or_false, ne_eq, reduceCtorEq, not_false_eq_true, true_and, and_true, cmbs_nil, cmbs_R, isR_R, elOk_R, Nat.reduceAdd, Nat.reduceLeDiff, Nat.zero_add, NG, isData, isDatas, eF, noLs_ints, noL_col, noLs_mid, noL_mid, noLs_cols, Bool.false_eq_true, reduceIte, Bool.not_true, Bool.not_false, false_and, and_self, forall_const, imp_self, false_implies, Nat.reduceEqDiff, decide_eq_true_eq, implies_true, mix_iff, pick_iff, eqOk_int, eqOk_bl, eqv_int, eqv_bl, isi_tuple, isi_list, isi_int, isi_bool, isi_str, okTy_tuple, okTy_list, okTy_int, okTy_bool, okTy_str, at0, at1, rRev, dMinA, dMinL, dMinP, dSortP, rRvs, rpRvs, rpVar, rpApp, rpIx, seqD_lst, seqD_tup, seqD_scr, seqS_lst, seqS_tup, seqS_scr, riZip3, nsD, nsDs, nsDs_ints, nsD_col, nsD_mid, nsDs_mid, nsDs_cols, kR, nsDs_mapA, allT, seqD_col, seqD_mid, seqS_col, seqS_mid, noLs_mids, zip_typ, zip3_typ, enum_typ, rLRng1, rLRng2, rpSet, rpSetA, rDNew, rDGet1, rDGet2, rSortIt, dSortG, rIdx, rpPopAt, rpPop, rpIns, rpExt, rpClr, rgDrop, rPick, rFrz, rMkGen, Bool.false_and, Bool.and_false, noL_box, nsD_box, rParR, kk, cmb_RR, cmb_SS, cmb_RS, cmb_SR, cmbs_S, rRetS, rCallS, shOk, stK0, List.getD_cons_zero, List.getD_cons_succ, isLst, isTup, isStr, isBl, isIntB, DL.isNon, same_res, same_args, same_ks, decide_true, decide_false, eq_self, Bool.true_eq_false, Bool.false_eq_true, or_self, or_false, false_or, iff_false, false_iff]
      simp only [d1, d3, true_and]
      split
      · rename_i hl
        have hl : fs.length = es.length := by omega
        refine rLc_rel (zipD fs es) (noLs fs && noLs es) true c D.bl (fun d b => ∀ x y, d = .tup [x, y] → (b = true ↔ x = y)) (fun P h => ?_) (by unfold zipD; rw [List.length_zipWith]; omega) (fun i d hd P h => ?_) (fun _ z => by cases z) (fun bs hb hR => ?_)
        · simp only [rSeq, rAsg, rOp, rUn, rVar, rC, rCB, rNil, rCons, rCall, rTup, rLst, rRet, rRetN, rNext, rIfS, rTest, rtAnd, rtOr, rtNot, rAndV, rOrV, rNotV, rIf, rAug, rDrop, rPar, rIxG, rSetG, rApp, IntoOk, riSeq, riRng1, riRng2, riZip, riEnum, rSl, roNone, roSome, dSl, dLen, dInt, dN1, dN2, dSum, dAllA, dTuple, dList, dIsiA, dEq, dNe, dIsN, DL.isNon, rChain, rBreak, rCont, gat, gset, kills, frz, dIsB, rPar3, Γ0, dMod, dDiv, dI, dI0, dMul, dAdd, dU, dIx, rgName, tup1, tup2, tup3, tup2F, stoInt, stoF, stoC, stoM, StoreOk, noL, noLs, itK, stK, List.length_cons, List.length_nil, List.map_cons, List.map_nil, List.replicate, if_true, if_false, Bool.true_and, Bool.and_true, Bool.true_or, Bool.or_true, Bool.false_or, Bool.or_false, ne_eq, reduceCtorEq, not_false_eq_true, true_and, and_true, cmbs_nil, cmbs_R, isR_R, elOk_R, Nat.reduceAdd, Nat.reduceLeDiff, Nat.zero_add, NG, isData, isDatas, eF, noLs_ints, noL_col, noLs_mid, noL_mid, noLs_cols, Bool.false_eq_true, reduceIte, Bool.not_true, Bool.not_false, false_and, and_self, forall_const, imp_self, false_implies, Nat.reduceEqDiff, decide_eq_true_eq, implies_true, mix_iff, pick_iff, eqOk_int, eqOk_bl, eqv_int, eqv_bl, isi_tuple, isi_list, isi_int, isi_bool, isi_str, okTy_tuple, okTy_list, okTy_int, okTy_bool, okTy_str, at0, at1, rRev, dMinA, dMinL, dMinP, dSortP, rRvs, rpRvs, rpVar, rpApp, rpIx, seqD_lst, seqD_tup, seqD_scr, seqS_lst, seqS_tup, seqS_scr, riZip3, nsD, nsDs, nsDs_ints, nsD_col, nsD_mid, nsDs_mid, nsDs_cols, kR, nsDs_mapA, allT, seqD_col, seqD_mid, seqS_col, seqS_mid, noLs_mids, zip_typ, zip3_typ, enum_typ, rLRng1, rLRng2, rpSet, rpSetA, rDNew, rDGet1, rDGet2, rSortIt, dSortG, rIdx, rpPopAt, rpPop, rpIns, rpExt, rpClr, rgDrop, rPick, rFrz, rMkGen, Bool.false_and, Bool.and_false, noL_box, nsD_box, rParR, kk, cmb_RR, cmb_SS, cmb_RS, cmb_SR, cmbs_S, rRetS, rCallS, shOk, stK0, List.getD_cons_zero, List.getD_cons_succ]
          exact h
        · obtain ⟨x, y, hx, hy, rfl⟩ := zipD_get hd
          simp only [rgTup, rgCons, rgNil, rgName, List.length_cons, List.length_nil]
          refine ⟨by decide, store_any (itK_st _) fun s1 => store_any (itK_st _) fun s2 => ⟨trivial, ?_⟩⟩
          simp only [rCall, rCons, rNil]
          refine rVar_any (i := 2) (s := s1) (d := x) ?_ ?_
          · rfl
          intro k
          refine rVar_any (i := 3) (s := s2) (d := y) ?_ ?_
          · rfl
          intro k
          refine ⟨(x, y), rfl, ⟨okDs_get k1 hx, ?_, okDs_get k3 hy, ?_, ?_⟩, fun d c' hr => ?_⟩
          · have := deps_get hx; simp only [dep] at h2; show dep x ≤ 60; omega
          · have := deps_get hy; simp only [dep] at h4; show dep y ≤ 60; omega
          · have := deps_get hy; simp only [dep] at h5; show dep y < n; omega
          · obtain ⟨b, rfl, hb, rfl⟩ := hr
            exact h b fun x' y' e => by cases e; exact hb
        · refine ⟨bs, rfl, _, rfl, ?_, rfl⟩
          rw [zip_all hl hb hR]
          exact ⟨fun e => by rw [e], fun e => by cases e; rfl⟩
      · rename_i hl
        refine ⟨_, rfl, ?_⟩
        exact ⟨fun z => (nomatch z), fun e => by cases e; exact absurd rfl hl⟩
     | _ =>
      first
        | exact absurd d1 Bool.false_ne_true
        | (simp only [rSeq, rAsg, rOp, rUn, rVar, rC, rCB, rNil, rCons, rCall, rTup, rLst, rRet, rRetN, rNext, rIfS, rTest, rtAnd, rtOr, rtNot, rAndV, rOrV, rNotV, rIf, rAug, rDrop, rPar, rIxG, rSetG, rApp, IntoOk, riSeq, riRng1, riRng2, riZip, riEnum, rSl, roNone, roSome, dSl, dLen, dInt, dN1, dN2, dSum, dAllA, dTuple, dList, dIsiA, dEq, dNe, dIsN, DL.isNon, rChain, rBreak, rCont, gat, gset, kills, frz, dIsB, rPar3, Γ0, dMod, dDiv, dI, dI0, dMul, dAdd, dU, dIx, rgName, tup1, tup2, tup3, tup2F, stoInt, stoF, stoC, stoM, StoreOk, noL, noLs, itK, stK, List.length_cons, List.length_nil, List.map_cons, List.map_nil, List.replicate, if_true, if_false, Bool.true_and, Bool.and_true, Bool.true_or, Bool.or_true, Bool.false_or, Bool.or_false, ne_eq, reduceCtorEq, not_false_eq_true, true_and, and_true, cmbs_nil, cmbs_R, isR_R, elOk_R, Nat.reduceAdd, Nat.reduceLeDiff, Nat.zero_add, NG, isData, isDatas, eF, noLs_ints, noL_col, noLs_mid, noL_mid, noLs_cols, Bool.false_eq_true, reduceIte, Bool.not_true, Bool.not_false, false_and, and_self, forall_const, imp_self, false_implies, Nat.reduceEqDiff, decide_eq_true_eq, implies_true, mix_iff, pick_iff, eqOk_int, eqOk_bl, eqv_int, eqv_bl, isi_tuple, isi_list, isi_int, isi_bool, isi_str, okTy_tuple, okTy_list, okTy_int, okTy_bool, okTy_str, at0, at1, rRev, dMinA, dMinL, dMinP, dSortP, rRvs, rpRvs, rpVar, rpApp, rpIx, seqD_lst, seqD_tup, seqD_scr, seqS_lst, seqS_tup, seqS_scr, riZip3, nsD, nsDs, nsDs_ints, nsD_col, nsD_mid, nsDs_mid, nsDs_cols, kR, nsDs_mapA, allT, seqD_col, seqD_mid, seqS_col, seqS_mid, noLs_mids, zip_typ, zip3_typ, enum_typ, rLRng1, rLRng2, rpSet, rpSetA, rDNew, rDGet1, rDGet2, rSortIt, dSortG, rIdx, rpPopAt, rpPop, rpIns, rpExt, rpClr, rgDrop, rPick, rFrz, rMkGen, Bool.false_and, Bool.and_false, noL_box, nsD_box, rParR, kk, cmb_RR, cmb_SS, cmb_RS, cmb_SR, cmbs_S, rRetS, rCallS, shOk, stK0, List.getD_cons_zero, List.getD_cons_succ, isLst, isTup, isStr, isBl, isIntB, DL.isNon, same_res, same_args, same_ks, decide_true, decide_false, eq_self, Bool.true_eq_false, Bool.false_eq_true, or_self, or_false, false_or, iff_false, false_iff]
           simp only [isData] at d1 d3
           try simp [d1, d3, e1, e3, py, PyData.eqv]
           done)
    | tup es =>
     cases x with
     | tup fs =>
      have ⟨l1, k1⟩ := okD_seq h1
      have ⟨l3, k3⟩ := okD_seq h3
      have d1 := okDs_data k1
      have d3 := okDs_data k3
      simp only [rSeq, rAsg, rOp, rUn, rVar, rC, rCB, rNil, rCons, rCall, rTup, rLst, rRet, rRetN, rNext, rIfS, rTest, rtAnd, rtOr, rtNot, rAndV, rOrV, rNotV, rIf, rAug, rDrop, rPar, rIxG, rSetG, rApp, IntoOk, riSeq, riRng1, riRng2, riZip, riEnum, rSl, roNone, roSome, dSl, dLen, dInt, dN1, dN2, dSum, dAllA, dTuple, dList, dIsiA, dEq, dNe, dIsN, DL.isNon, rChain, rBreak, rCont, gat, gset, kills, frz, dIsB, rPar3, Γ0, dMod, dDiv, dI, dI0, dMul, dAdd, dU, dIx, rgName, tup1, tup2, tup3, tup2F, stoInt, stoF, stoC, stoM, StoreOk, noL, noLs, itK, stK, List.length_cons, List.length_nil, List.map_cons, List.map_nil, List.replicate, if_true, if_false, Bool.true_and, Bool.and_true, Bool.true_or, Bool.or_true, Bool.false_or, Bool.or_false, ne_eq, reduceCtorEq, not_false_eq_true, true_and, and_true, cmbs_nil, cmbs_R, isR_R, elOk_R, Nat.reduceAdd, Nat.reduceLeDiff, Nat.zero_add, NG, isData, isDatas, eF, noLs_ints, noL_col, noLs_mid, noL_mid, noLs_cols, Bool.false_eq_true, reduceIte, Bool.not_true, Bool.not_false, false_and, and_self, forall_const, imp_self, false_implies, Nat.reduceEqDiff, decide_eq_true_eq, implies_true, mix_iff, pick_iff, eqOk_int, eqOk_bl, eqv_int, eqv_bl, isi_tuple, isi_list, isi_int, isi_bool, isi_str, okTy_tuple, okTy_list, okTy_int, okTy_bool, okTy_str, at0, at1, rRev, dMinA, dMinL, dMinP, dSortP, rRvs, rpRvs, rpVar, rpApp, rpIx, seqD_lst, seqD_tup, seqD_scr, seqS_lst, seqS_tup, seqS_scr, riZip3, nsD, nsDs, nsDs_ints, nsD_col, nsD_mid, nsDs_mid, nsDs_cols, kR, nsDs_mapA, allT, seqD_col, seqD_mid, seqS_col, seqS_mid, noLs_mids, zip_typ, zip3_typ, enum_typ, rLRng1, rLRng2, rpSet, rpSetA, rDNew, rDGet1, rDGet2, rSortIt, dSortG, rIdx, rpPopAt, rpPop, rpIns, rpExt, rpClr, rgDrop, rPick, rFrz, rMkGen, Bool.false_and, Bool.and_false, noL_box, nsD_box, rParR, kk, cmb_RR, cmb_SS, cmb_RS, cmb_SR, cmbs_S, rRetS, rCallS, shOk, stK0, List.getD_cons_zero, List.getD_cons_succ, isLst, isTup, isStr, isBl, isIntB, DL.isNon, same_res, same_args, same_ks, decide_true, decide_false, eq_self, Bool.true_eq_false, Bool.false_eq_true, or_self, or_false, false_or, iff_false, false_iff]
      simp only [d1, d3, true_and]
      split
      · rename_i hl
        have hl : fs.length = es.length := by omega
        refine rLc_rel (zipD fs es) (noLs fs && noLs es) true c D.bl (fun d b => ∀ x y, d = .tup [x, y] → (b = true ↔ x = y)) (fun P h => ?_) (by unfold zipD; rw [List.length_zipWith]; omega) (fun i d hd P h => ?_) (fun _ z => by cases z) (fun bs hb hR => ?_)
        · simp only [rSeq, rAsg, rOp, rUn, rVar, rC, rCB, rNil, rCons, rCall, rTup, rLst, rRet, rRetN, rNext, rIfS, rTest, rtAnd, rtOr, rtNot, rAndV, rOrV, rNotV, rIf, rAug, rDrop, rPar, rIxG, rSetG, rApp, IntoOk, riSeq, riRng1, riRng2, riZip, riEnum, rSl, roNone, roSome, dSl, dLen, dInt, dN1, dN2, dSum, dAllA, dTuple, dList, dIsiA, dEq, dNe, dIsN, DL.isNon, rChain, rBreak, rCont, gat, gset, kills, frz, dIsB, rPar3, Γ0, dMod, dDiv, dI, dI0, dMul, dAdd, dU, dIx, rgName, tup1, tup2, tup3, tup2F, stoInt, stoF, stoC, stoM, StoreOk, noL, noLs, itK, stK, List.length_cons, List.length_nil, List.map_cons, List.map_nil, List.replicate, if_true, if_false, Bool.true_and, Bool.and_true, Bool.true_or, Bool.or_true, Bool.false_or, Bool.or_false, ne_eq, reduceCtorEq, not_false_eq_true, true_and, and_true, cmbs_nil, cmbs_R, isR_R, elOk_R, Nat.reduceAdd, Nat.reduceLeDiff, Nat.zero_add, NG, isData, isDatas, eF, noLs_ints, noL_col, noLs_mid, noL_mid, noLs_cols, Bool.false_eq_true, reduceIte, Bool.not_true, Bool.not_false, false_and, and_self, forall_const, imp_self, false_implies, Nat.reduceEqDiff, decide_eq_true_eq, implies_true, mix_iff, pick_iff, eqOk_int, eqOk_bl, eqv_int, eqv_bl, isi_tuple, isi_list, isi_int, isi_bool, isi_str, okTy_tuple, okTy_list, okTy_int, okTy_bool, okTy_str, at0, at1, rRev, dMinA, dMinL, dMinP, dSortP, rRvs, rpRvs, rpVar, rpApp, rpIx, seqD_lst, seqD_tup, seqD_scr, seqS_lst, seqS_tup, seqS_scr, riZip3, nsD, nsDs, nsDs_ints, nsD_col, nsD_mid, nsDs_mid, nsDs_cols, kR, nsDs_mapA, allT, seqD_col, seqD_mid, seqS_col, seqS_mid, noLs_mids, zip_typ, zip3_typ, enum_typ, rLRng1, rLRng2, rpSet, rpSetA, rDNew, rDGet1, rDGet2, rSortIt, dSortG, rIdx, rpPopAt, rpPop, rpIns, rpExt, rpClr, rgDrop, rPick, rFrz, rMkGen, Bool.false_and, Bool.and_false, noL_box, nsD_box, rParR, kk, cmb_RR, cmb_SS, cmb_RS, cmb_SR, cmbs_S, rRetS, rCallS, shOk, stK0, List.getD_cons_zero, List.getD_cons_succ]
          exact h
        · obtain ⟨x, y, hx, hy, rfl⟩ := zipD_get hd
          simp only [rgTup, rgCons, rgNil, rgName, List.length_cons, List.length_nil]
          refine ⟨by decide, store_any (itK_st _) fun s1 => store_any (itK_st _) fun s2 => ⟨trivial, ?_⟩⟩
          simp only [rCall, rCons, rNil]
          refine rVar_any (i := 2) (s := s1) (d := x) ?_ ?_
          · rfl
          intro k
          refine rVar_any (i := 3) (s := s2) (d := y) ?_ ?_
          · rfl
          intro k
          refine ⟨(x, y), rfl, ⟨okDs_get k1 hx, ?_, okDs_get k3 hy, ?_, ?_⟩, fun d c' hr => ?_⟩
          · have := deps_get hx; simp only [dep] at h2; show dep x ≤ 60; omega
          · have := deps_get hy; simp only [dep] at h4; show dep y ≤ 60; omega
          · have := deps_get hy; simp only [dep] at h5; show dep y < n; omega
          · obtain ⟨b, rfl, hb, rfl⟩ := hr
            exact h b fun x' y' e => by cases e; exact hb
        · refine ⟨bs, rfl, _, rfl, ?_, rfl⟩
          rw [zip_all hl hb hR]
          exact ⟨fun e => by rw [e], fun e => by cases e; rfl⟩
      · rename_i hl
        refine ⟨_, rfl, ?_⟩
        exact ⟨fun z => (nomatch z), fun e => by cases e; exact absurd rfl hl⟩
     | _ =>
      first
        | exact absurd d1 Bool.false_ne_true
        | (simp only [rSeq, rAsg, rOp, rUn, rVar, rC, rCB, rNil, rCons, rCall, rTup, rLst, rRet, rRetN, rNext, rIfS, rTest, rtAnd, rtOr, rtNot, rAndV, rOrV, rNotV, rIf, rAug, rDrop, rPar, rIxG, rSetG, rApp, IntoOk, riSeq, riRng1, riRng2, riZip, riEnum, rSl, roNone, roSome, dSl, dLen, dInt, dN1, dN2, dSum, dAllA, dTuple, dList, dIsiA, dEq, dNe, dIsN, DL.isNon, rChain, rBreak, rCont, gat, gset, kills, frz, dIsB, rPar3, Γ0, dMod, dDiv, dI, dI0, dMul, dAdd, dU, dIx, rgName, tup1, tup2, tup3, tup2F, stoInt, stoF, stoC, stoM, StoreOk, noL, noLs, itK, stK, List.length_cons, List.length_nil, List.map_cons, List.map_nil, List.replicate, if_true, if_false, Bool.true_and, Bool.and_true, Bool.true_or, Bool.or_true, Bool.false_or, Bool.or_false, ne_eq, reduceCtorEq, not_false_eq_true, true_and, and_true, cmbs_nil, cmbs_R, isR_R, elOk_R, Nat.reduceAdd, Nat.reduceLeDiff, Nat.zero_add, NG, isData, isDatas, eF, noLs_ints, noL_col, noLs_mid, noL_mid, noLs_cols, Bool.false_eq_true, reduceIte, Bool.not_true, Bool.not_false, false_and, and_self, forall_const, imp_self, false_implies, Nat.reduceEqDiff, decide_eq_true_eq, implies_true, mix_iff, pick_iff, eqOk_int, eqOk_bl, eqv_int, eqv_bl, isi_tuple, isi_list, isi_int, isi_bool, isi_str, okTy_tuple, okTy_list, okTy_int, okTy_bool, okTy_str, at0, at1, rRev, dMinA, dMinL, dMinP, dSortP, rRvs, rpRvs, rpVar, rpApp, rpIx, seqD_lst, seqD_tup, seqD_scr, seqS_lst, seqS_tup, seqS_scr, riZip3, nsD, nsDs, nsDs_ints, nsD_col, nsD_mid, nsDs_mid, nsDs_cols, kR, nsDs_mapA, allT, seqD_col, seqD_mid, seqS_col, seqS_mid, noLs_mids, zip_typ, zip3_typ, enum_typ, rLRng1, rLRng2, rpSet, rpSetA, rDNew, rDGet1, rDGet2, rSortIt, dSortG, rIdx, rpPopAt, rpPop, rpIns, rpExt, rpClr, rgDrop, rPick, rFrz, rMkGen, Bool.false_and, Bool.and_false, noL_box, nsD_box, rParR, kk, cmb_RR, cmb_SS, cmb_RS, cmb_SR, cmbs_S, rRetS, rCallS, shOk, stK0, List.getD_cons_zero, List.getD_cons_succ, isLst, isTup, isStr, isBl, isIntB, DL.isNon, same_res, same_args, same_ks, decide_true, decide_false, eq_self, Bool.true_eq_false, Bool.false_eq_true, or_self, or_false, false_or, iff_false, false_iff]
           simp only [isData] at d1 d3
           try simp [d1, d3, e1, e3, py, PyData.eqv]
           done)
    | gen => cases h3
    | dct _ _ _ => cases h3
    | mt _ => cases h3
    | obj _ _ _ => cases h3
    | shr _ => cases h3
    | ty _ => cases h3
    | scr _ => cases h3
    | non => cases x with
     | _ =>
      first
        | exact absurd d1 Bool.false_ne_true
        | (simp only [rSeq, rAsg, rOp, rUn, rVar, rC, rCB, rNil, rCons, rCall, rTup, rLst, rRet, rRetN, rNext, rIfS, rTest, rtAnd, rtOr, rtNot, rAndV, rOrV, rNotV, rIf, rAug, rDrop, rPar, rIxG, rSetG, rApp, IntoOk, riSeq, riRng1, riRng2, riZip, riEnum, rSl, roNone, roSome, dSl, dLen, dInt, dN1, dN2, dSum, dAllA, dTuple, dList, dIsiA, dEq, dNe, dIsN, DL.isNon, rChain, rBreak, rCont, gat, gset, kills, frz, dIsB, rPar3, Γ0, dMod, dDiv, dI, dI0, dMul, dAdd, dU, dIx, rgName, tup1, tup2, tup3, tup2F, stoInt, stoF, stoC, stoM, StoreOk, noL, noLs, itK, stK, List.length_cons, List.length_nil, List.map_cons, List.map_nil, List.replicate, if_true, if_false, Bool.true_and, Bool.and_true, Bool.true_or, Bool.or_true, Bool.false_or, Bool.or_false, ne_eq, reduceCtorEq, not_false_eq_true, true_and, and_true, cmbs_nil, cmbs_R, isR_R, elOk_R, Nat.reduceAdd, Nat.reduceLeDiff, Nat.zero_add, NG, isData, isDatas, eF, noLs_ints, noL_col, noLs_mid, noL_mid, noLs_cols, Bool.false_eq_true, reduceIte, Bool.not_true, Bool.not_false, false_and, and_self, forall_const, imp_self, false_implies, Nat.reduceEqDiff, decide_eq_true_eq, implies_true, mix_iff, pick_iff, eqOk_int, eqOk_bl, eqv_int, eqv_bl, isi_tuple, isi_list, isi_int, isi_bool, isi_str, okTy_tuple, okTy_list, okTy_int, okTy_bool, okTy_str, at0, at1, rRev, dMinA, dMinL, dMinP, dSortP, rRvs, rpRvs, rpVar, rpApp, rpIx, seqD_lst, seqD_tup, seqD_scr, seqS_lst, seqS_tup, seqS_scr, riZip3, nsD, nsDs, nsDs_ints, nsD_col, nsD_mid, nsDs_mid, nsDs_cols, kR, nsDs_mapA, allT, seqD_col, seqD_mid, seqS_col, seqS_mid, noLs_mids, zip_typ, zip3_typ, enum_typ, rLRng1, rLRng2, rpSet, rpSetA, rDNew, rDGet1, rDGet2, rSortIt, dSortG, rIdx, rpPopAt, rpPop, rpIns, rpExt, rpClr, rgDrop, rPick, rFrz, rMkGen, Bool.false_and, Bool.and_false, noL_box, nsD_box, rParR, kk, cmb_RR, cmb_SS, cmb_RS, cmb_SR, cmbs_S, rRetS, rCallS, shOk, stK0, List.getD_cons_zero, List.getD_cons_succ, isLst, isTup, isStr, isBl, isIntB, DL.isNon, same_res, same_args, same_ks, decide_true, decide_false, eq_self, Bool.true_eq_false, Bool.false_eq_true, or_self, or_false, false_or, iff_false, false_iff]
           simp only [isData] at d1 d3
           try simp [d1, d3, e1, e3, py, PyData.eqv]
           done)
    | bl _ => cases x with
     | _ =>
      first
        | exact absurd d1 Bool.false_ne_true
        | (simp only [rSeq, rAsg, rOp, rUn, rVar, rC, rCB, rNil, rCons, rCall, rTup, rLst, rRet, rRetN, rNext, rIfS, rTest, rtAnd, rtOr, rtNot, rAndV, rOrV, rNotV, rIf, rAug, rDrop, rPar, rIxG, rSetG, rApp, IntoOk, riSeq, riRng1, riRng2, riZip, riEnum, rSl, roNone, roSome, dSl, dLen, dInt, dN1, dN2, dSum, dAllA, dTuple, dList, dIsiA, dEq, dNe, dIsN, DL.isNon, rChain, rBreak, rCont, gat, gset, kills, frz, dIsB, rPar3, Γ0, dMod, dDiv, dI, dI0, dMul, dAdd, dU, dIx, rgName, tup1, tup2, tup3, tup2F, stoInt, stoF, stoC, stoM, StoreOk, noL, noLs, itK, stK, List.length_cons, List.length_nil, List.map_cons, List.map_nil, List.replicate, if_true, if_false, Bool.true_and, Bool.and_true, Bool.true_or, Bool.or_true, Bool.false_or, Bool.or_false, ne_eq, reduceCtorEq, not_false_eq_true, true_and, and_true, cmbs_nil, cmbs_R, isR_R, elOk_R, Nat.reduceAdd, Nat.reduceLeDiff, Nat.zero_add, NG, isData, isDatas, eF, noLs_ints, noL_col, noLs_mid, noL_mid, noLs_cols, Bool.false_eq_true, reduceIte, Bool.not_true, Bool.not_false, false_and, and_self, forall_const, imp_self, false_implies, Nat.reduceEqDiff, decide_eq_true_eq, implies_true, mix_iff, pick_iff, eqOk_int, eqOk_bl, eqv_int, eqv_bl, isi_tuple, isi_list, isi_int, isi_bool, isi_str, okTy_tuple, okTy_list, okTy_int, okTy_bool, okTy_str, at0, at1, rRev, dMinA, dMinL, dMinP, dSortP, rRvs, rpRvs, rpVar, rpApp, rpIx, seqD_lst, seqD_tup, seqD_scr, seqS_lst, seqS_tup, seqS_scr, riZip3, nsD, nsDs, nsDs_ints, nsD_col, nsD_mid, nsDs_mid, nsDs_cols, kR, nsDs_mapA, allT, seqD_col, seqD_mid, seqS_col, seqS_mid, noLs_mids, zip_typ, zip3_typ, enum_typ, rLRng1, rLRng2, rpSet, rpSetA, rDNew, rDGet1, rDGet2, rSortIt, dSortG, rIdx, rpPopAt, rpPop, rpIns, rpExt, rpClr, rgDrop, rPick, rFrz, rMkGen, Bool.false_and, Bool.and_false, noL_box, nsD_box, rParR, kk, cmb_RR, cmb_SS, cmb_RS, cmb_SR, cmbs_S, rRetS, rCallS, shOk, stK0, List.getD_cons_zero, List.getD_cons_succ, isLst, isTup, isStr, isBl, isIntB, DL.isNon, same_res, same_args, same_ks, decide_true, decide_false, eq_self, Bool.true_eq_false, Bool.false_eq_true, or_self, or_false, false_or, iff_false, false_iff]
           simp only [isData] at d1 d3
           try simp [d1, d3, e1, e3, py, PyData.eqv]
           done)
    | int _ => cases x with
     | _ =>
      first
        | exact absurd d1 Bool.false_ne_true
        | (simp only [rSeq, rAsg, rOp, rUn, rVar, rC, rCB, rNil, rCons, rCall, rTup, rLst, rRet, rRetN, rNext, rIfS, rTest, rtAnd, rtOr, rtNot, rAndV, rOrV, rNotV, rIf, rAug, rDrop, rPar, rIxG, rSetG, rApp, IntoOk, riSeq, riRng1, riRng2, riZip, riEnum, rSl, roNone, roSome, dSl, dLen, dInt, dN1, dN2, dSum, dAllA, dTuple, dList, dIsiA, dEq, dNe, dIsN, DL.isNon, rChain, rBreak, rCont, gat, gset, kills, frz, dIsB, rPar3, Γ0, dMod, dDiv, dI, dI0, dMul, dAdd, dU, dIx, rgName, tup1, tup2, tup3, tup2F, stoInt, stoF, stoC, stoM, StoreOk, noL, noLs, itK, stK, List.length_cons, List.length_nil, List.map_cons, List.map_nil, List.replicate, if_true, if_false, Bool.true_and, Bool.and_true, Bool.true_or, Bool.or_true, Bool.false_or, Bool.or_false, ne_eq, reduceCtorEq, not_false_eq_true, true_and, and_true, cmbs_nil, cmbs_R, isR_R, elOk_R, Nat.reduceAdd, Nat.reduceLeDiff, Nat.zero_add, NG, isData, isDatas, eF, noLs_ints, noL_col, noLs_mid, noL_mid, noLs_cols, Bool.false_eq_true, reduceIte, Bool.not_true, Bool.not_false, false_and, and_self, forall_const, imp_self, false_implies, Nat.reduceEqDiff, decide_eq_true_eq, implies_true, mix_iff, pick_iff, eqOk_int, eqOk_bl, eqv_int, eqv_bl, isi_tuple, isi_list, isi_int, isi_bool, isi_str, okTy_tuple, okTy_list, okTy_int, okTy_bool, okTy_str, at0, at1, rRev, dMinA, dMinL, dMinP, dSortP, rRvs, rpRvs, rpVar, rpApp, rpIx, seqD_lst, seqD_tup, seqD_scr, seqS_lst, seqS_tup, seqS_scr, riZip3, nsD, nsDs, nsDs_ints, nsD_col, nsD_mid, nsDs_mid, nsDs_cols, kR, nsDs_mapA, allT, seqD_col, seqD_mid, seqS_col, seqS_mid, noLs_mids, zip_typ, zip3_typ, enum_typ, rLRng1, rLRng2, rpSet, rpSetA, rDNew, rDGet1, rDGet2, rSortIt, dSortG, rIdx, rpPopAt, rpPop, rpIns, rpExt, rpClr, rgDrop, rPick, rFrz, rMkGen, Bool.false_and, Bool.and_false, noL_box, nsD_box, rParR, kk, cmb_RR, cmb_SS, cmb_RS, cmb_SR, cmbs_S, rRetS, rCallS, shOk, stK0, List.getD_cons_zero, List.getD_cons_succ, isLst, isTup, isStr, isBl, isIntB, DL.isNon, same_res, same_args, same_ks, decide_true, decide_false, eq_self, Bool.true_eq_false, Bool.false_eq_true, or_self, or_false, false_or, iff_false, false_iff]
           simp only [isData] at d1 d3
           try simp [d1, d3, e1, e3, py, PyData.eqv]
           done)
    | str _ => cases x with
     | _ =>
      first
        | exact absurd d1 Bool.false_ne_true
        | (simp only [rSeq, rAsg, rOp, rUn, rVar, rC, rCB, rNil, rCons, rCall, rTup, rLst, rRet, rRetN, rNext, rIfS, rTest, rtAnd, rtOr, rtNot, rAndV, rOrV, rNotV, rIf, rAug, rDrop, rPar, rIxG, rSetG, rApp, IntoOk, riSeq, riRng1, riRng2, riZip, riEnum, rSl, roNone, roSome, dSl, dLen, dInt, dN1, dN2, dSum, dAllA, dTuple, dList, dIsiA, dEq, dNe, dIsN, DL.isNon, rChain, rBreak, rCont, gat, gset, kills, frz, dIsB, rPar3, Γ0, dMod, dDiv, dI, dI0, dMul, dAdd, dU, dIx, rgName, tup1, tup2, tup3, tup2F, stoInt, stoF, stoC, stoM, StoreOk, noL, noLs, itK, stK, List.length_cons, List.length_nil, List.map_cons, List.map_nil, List.replicate, if_true, if_false, Bool.true_and, Bool.and_true, Bool.true_or, Bool.or_true, Bool.false_or, Bool.or_false, ne_eq, reduceCtorEq, not_false_eq_true, true_and, and_true, cmbs_nil, cmbs_R, isR_R, elOk_R, Nat.reduceAdd, Nat.reduceLeDiff, Nat.zero_add, NG, isData, isDatas, eF, noLs_ints, noL_col, noLs_mid, noL_mid, noLs_cols, Bool.false_eq_true, reduceIte, Bool.not_true, Bool.not_false, false_and, and_self, forall_const, imp_self, false_implies, Nat.reduceEqDiff, decide_eq_true_eq, implies_true, mix_iff, pick_iff, eqOk_int, eqOk_bl, eqv_int, eqv_bl, isi_tuple, isi_list, isi_int, isi_bool, isi_str, okTy_tuple, okTy_list, okTy_int, okTy_bool, okTy_str, at0, at1, rRev, dMinA, dMinL, dMinP, dSortP, rRvs, rpRvs, rpVar, rpApp, rpIx, seqD_lst, seqD_tup, seqD_scr, seqS_lst, seqS_tup, seqS_scr, riZip3, nsD, nsDs, nsDs_ints, nsD_col, nsD_mid, nsDs_mid, nsDs_cols, kR, nsDs_mapA, allT, seqD_col, seqD_mid, seqS_col, seqS_mid, noLs_mids, zip_typ, zip3_typ, enum_typ, rLRng1, rLRng2, rpSet, rpSetA, rDNew, rDGet1, rDGet2, rSortIt, dSortG, rIdx, rpPopAt, rpPop, rpIns, rpExt, rpClr, rgDrop, rPick, rFrz, rMkGen, Bool.false_and, Bool.and_false, noL_box, nsD_box, rParR, kk, cmb_RR, cmb_SS, cmb_RS, cmb_SR, cmbs_S, rRetS, rCallS, shOk, stK0, List.getD_cons_zero, List.getD_cons_succ, isLst, isTup, isStr, isBl, isIntB, DL.isNon, same_res, same_args, same_ks, decide_true, decide_false, eq_self, Bool.true_eq_false, Bool.false_eq_true, or_self, or_false, false_or, iff_false, false_iff]
           simp only [isData] at d1 d3
           try simp [d1, d3, e1, e3, py, PyData.eqv]
           done)
theorem ok__law_same {f : Addr} {fd : FuncData} (F : Fun K "_law_same" "_law_same" s__law_same f fd) (g : mg "_law_same" = some (.ref f)) (NB : Bn mg) : ∀ n, FnG P w K mg base CX0 (0 + n) f fd ["found", "due"] (SpF K (S_same n))
  | 0 => fn_vac fun a c h => by exact absurd h.2.2.2.2 (Nat.not_lt_zero _)
  | n + 1 => step__law_same F  ⟨ok__law_same F  g NB n, g, F.kp, F.binds (ps := ["found", "due"]) fun _ _ _ _ _ _ us hl => match us, hl with | [_, _], _ => rfl⟩ NB
abbrev s__law_cost : Stmt := topS 16
theorem sc__law_cost : FnScope ["one", "other", "price", "pairs", "turned", "lonely", "i", "j"] ["one", "other", "price", "pairs"] (defScope s__law_cost) := ⟨rfl, rfl, rfl, by decide +kernel, rfl, by decide +kernel, by decide +kernel⟩
theorem ok__law_cost {f : Addr} {fd : FuncData} (F : Fun K "_law_cost" "_law_cost" s__law_cost f fd) {f__law_apart : Addr} {fd__law_apart : FuncData} (A__law_apart : FnAt P w K mg base 1 "_law_apart" ["one", "other"] (SpF K S_apart) f__law_apart fd__law_apart) (NB : Bn mg) : FnG P w K mg base CX0 2 f fd ["one", "other", "price", "pairs"] (SpF K S_costI) := by
  refine fn_ok F sc__law_cost rfl (by decide) (fun a c h => ?_) (fun cdv A outer s H Q E hr => ⟨_, _, (pss_cons (ps_set (i := 4) sc__law_cost.nd rfl (by first | exact Or.inl rfl | exact Or.inr rfl) (pe_callB (cr_sum rfl) (by rfl) (NB "sum" (by decide)) (by decide +kernel) (pa_cons (pe_lc (own := [("i", 6), ("j", 7)]) (g := gTup K 2 (gCons (gName 6) (gCons (gName 7) (gNil)))) rfl sc__law_cost.nd (pi_seqA (pv 3)) (blkOk_by (N := ["one", "other", "price", "pairs", "turned", "lonely", "i", "j"]) (sc := defScope s__law_cost) (by decide +kernel)) (fun _ _ _ _ _ => (pg_tup (n := 2) rfl (pgs_cons (pg_name (i := 6) sc__law_cost.nd rfl (by first | exact Or.inl rfl | exact Or.inr rfl)) (pgs_cons (pg_name (i := 7) sc__law_cost.nd rfl (by first | exact Or.inl rfl | exact Or.inr rfl)) pgs_nil)))) (fun _ _ _ _ _ => pts_nil) (fun _ _ _ _ _ => (pe_callG A__law_apart.ok (hr.mono (by decide)) (by rfl) A__law_apart.g A__law_apart.kp A__law_apart.b pass0 (pa_cons (pe_ix (ix_any hr.units) (pv 0) (pv 6) (fun _ _ => rfl)) (pa_cons (pe_ix (ix_any hr.units) (pv 1) (pv 7) (fun _ _ => rfl)) pa_nil))))) pa_nil)))
      (pss_cons (ps_set (i := 5) sc__law_cost.nd rfl (by first | exact Or.inl rfl | exact Or.inr rfl) (pe_op op_sub (pe_op op_addA (pe_op op_sub (pe_callB call_len (by rfl) (NB "len" (by decide)) (by decide +kernel) (pa_cons (pv 0) pa_nil)) (pe_callB call_len (by rfl) (NB "len" (by decide)) (by decide +kernel) (pa_cons (pv 3) pa_nil))) (pe_callB call_len (by rfl) (NB "len" (by decide)) (by decide +kernel) (pa_cons (pv 1) pa_nil))) (pe_callB call_len (by rfl) (NB "len" (by decide)) (by decide +kernel) (pa_cons (pv 3) pa_nil))))
      (pss_one (ps_ret (pe_op op_addA (pv 4) (pe_op op_mulA (pv 2) (pv 5))))))),
    (sd_seq (sd_asg (ed_cb v_sum (ad_cons (ed_lc (id_seq (ed_var 3)) (gd_tup (gds_cons (gd_name 6) (gds_cons (gd_name 7) gds_nil))) td_yes (ed_call (ad_cons (ed_op v_ix (ed_var 0) (ed_var 6)) (ad_cons (ed_op v_ix (ed_var 1) (ed_var 7)) ad_nil))) (by decide)) ad_nil)) (gd_name 4))
      (sd_seq (sd_asg (ed_op v_rI0 (ed_op v_add (ed_op v_rI0 (ed_cb v_len (ad_cons (ed_var 0) ad_nil)) (ed_cb v_len (ad_cons (ed_var 3) ad_nil))) (ed_cb v_len (ad_cons (ed_var 1) ad_nil))) (ed_cb v_len (ad_cons (ed_var 3) ad_nil))) (gd_name 5))
      (sd_ret (ed_op v_add (ed_var 4) (ed_op v_mul (ed_var 2) (ed_var 5)))))), fun a c h => ?_⟩)
  · exact ⟨rfl, trivial⟩
  · obtain ⟨⟨⟨w, n⟩, ps⟩, os, qs⟩ := a
    obtain ⟨hT, ⟨n1, n2⟩, hp1, hp⟩ := h
    have hT : TwoB w os qs := hT
    obtain ⟨⟨w1, w5⟩, ⟨o1, o2, ho⟩, ⟨q1, q2, hq⟩⟩ := hT
    have n1 : 0 ≤ n := n1
    have n2 : n ≤ 10000000 := n2
    have hp1 : ps.length ≤ os.length := hp1
    have hp : ∀ p ∈ ps, p.1 < os.length ∧ p.2 < qs.length := hp
    (unfold S_costI; dsimp only; simp only [Γ0, List.length_cons, List.length_nil, Nat.reduceAdd, List.replicate])
    (refine rSeq_op fun nx hnx => ?_); solve_by_elim []
    refine rLcA ps ePr (fun p => .int (trnI os qs p)) true true c (fun P h => ?_) (by omega) (fun p hpm P h => ?_) ?_ (fun _ _ => ⟨nofun, rfl⟩)
    · (try solve_by_elim* [ePrs, noLs_Prs])
      try exact h
    · obtain ⟨p1, p2⟩ := hp p hpm
      have c1 := getD_col ho p1
      have c2 := getD_col hq p2
      (try solve_by_elim [ePr])
      refine ⟨_, atI_cols p1, _, atI_cols p2, ?_⟩
      refine apart_call (by have := c1.1; omega) (fun x hx => by have := c1.2 x hx; omega) (fun x hx => by have := c2.2 x hx; omega) ?_
      try exact h
    (try solve_by_elim [ePrs])
    refine hnx _ _ ?_; clear nx hnx
    have ht : ∀ ps : Prs, (∀ p ∈ ps, p.1 < os.length ∧ p.2 < qs.length) → 0 ≤ (ps.map (trnI os qs)).sum ∧ (ps.map (trnI os qs)).sum ≤ 5000000 * ps.length := fun ps => by
      induction ps with
      | nil => intro _; exact ⟨Int.le_refl _, Int.le_refl _⟩
      | cons p r ih =>
        intro hp
        have := ih fun q hq => hp q (List.mem_cons_of_mem _ hq)
        obtain ⟨h1, h2⟩ := hp p List.mem_cons_self
        have := apartI_bd w5 (getD_col ho h1) (getD_col hq h2)
        rw [List.map_cons, List.sum_cons, List.length_cons, show trnI os qs p = apartI (os.getD p.1 []) (qs.getD p.2 []) from rfl]
        omega
    have htb := ht ps hp
    (refine rSeq_op fun nx hnx => ?_); solve_by_elim []
    refine hnx _ _ ?_; clear nx hnx
    (try solve_by_elim [])
    refine ⟨MulB.l (by omega), ?_⟩
    show D.int _ = D.int _
    congr 1
    show _ = _ + n * _
    congr 2
    omega
abbrev s_law : Stmt := topS 17
theorem sc_law : FnScope ["script", "k", "left", "kept", "turn", "one", "other", "price", "pairs", "handed", "again", "found"] ["script"] (defScope s_law) := ⟨rfl, rfl, rfl, by decide +kernel, rfl, by decide +kernel, by decide +kernel⟩
theorem ok_law {f : Addr} {fd : FuncData} (F : Fun K "law" "law" s_law f fd) {f__law_left : Addr} {fd__law_left : FuncData} (A__law_left : FnAt P w K mg base 1 "_law_left" ["script", "k"] (SpF K S_left) f__law_left fd__law_left) {f__law_two : Addr} {fd__law_two : FuncData} (A__law_two : FnAt P w K mg base 5 "_law_two" ["left", "most"] (SpF K S_twoC) f__law_two fd__law_two) {f__law_pick : Addr} {fd__law_pick : FuncData} (A__law_pick : FnAt P w K mg base 2 "_law_pick" ["left", "many"] (SpF K S_pick) f__law_pick fd__law_pick) {f__law_price : Addr} {fd__law_price : FuncData} (A__law_price : FnAt P w K mg base 3 "_law_price" ["left", "one", "other"] (SpF K S_price) f__law_price fd__law_price) {f__law_pairs : Addr} {fd__law_pairs : FuncData} (A__law_pairs : FnAt P w K mg base 3 "_law_pairs" ["left", "one", "other"] (SpF K S_pairs) f__law_pairs fd__law_pairs) {f_cost_of : Addr} {fd_cost_of : FuncData} (A_cost_of : FnAt P w K mg base 2 "cost_of" ["one", "other", "price", "pairs"] (SpF K S_costI) f_cost_of fd_cost_of) {f__law_same : Addr} {fd__law_same : FuncData} (A__law_same : FnAt P w K mg base 61 "_law_same" ["found", "due"] (SpF K (S_same 61)) f__law_same fd__law_same) {f__law_cost : Addr} {fd__law_cost : FuncData} (A__law_cost : FnAt P w K mg base 2 "_law_cost" ["one", "other", "price", "pairs"] (SpF K S_costI) f__law_cost fd__law_cost) (NB : Bn mg) : FnG P w K mg base CX0 62 f fd ["script"] (SpF K S_law) := by
  refine fn_ok F sc_law rfl (by decide) (fun a c h => ?_) (fun cdv A outer s H Q E hr => ⟨_, _, (pss_cons (ps_for PassesOwn.never rfl (pi_range1 (by rfl) (NB "range" (by decide)) (pa_cons (pe_callB (call_max2 rfl) (by rfl) (NB "max" (by decide)) (by decide +kernel) (pa_cons pe_int (pa_cons (pe_callB (call_min2 rfl) (by rfl) (NB "min" (by decide)) (by decide +kernel) (pa_cons (pe_callB call_len (by rfl) (NB "len" (by decide)) (by decide +kernel) (pa_cons (pv 0) pa_nil)) (pa_cons pe_int pa_nil))) pa_nil))) pa_nil)) (pg_name (i := 1) sc_law.nd rfl (by first | exact Or.inl rfl | exact Or.inr rfl)) (pss_cons (ps_set (i := 2) sc_law.nd rfl (by first | exact Or.inl rfl | exact Or.inr rfl) (pe_callG A__law_left.ok (hr.mono (by decide)) (by rfl) A__law_left.g A__law_left.kp A__law_left.b pass0 (pa_cons (pv 0) (pa_cons (pv 1) pa_nil))))
      (pss_cons (ps_asg (pe_callG A__law_two.ok (hr.mono (by decide)) (by rfl) A__law_two.g A__law_two.kp A__law_two.b pass0 (pa_cons (pv 2) (pa_cons (pe_ix (ix_any hr.units) (pe_lst (pa_cons pe_int (pa_cons pe_int pa_nil))) (pe_callTy call_intA (by rfl) (NB "int" (by decide)) (by decide +kernel) (pa_cons (pe_cmpR (op_eqD hr.units) (pe_callG A__law_pick.ok (hr.mono (by decide)) (by rfl) A__law_pick.g A__law_pick.kp A__law_pick.b pass0 (pa_cons (pv 2) (pa_cons pe_int pa_nil))) pe_int (nomark _)) pa_nil)) (fun _ _ => rfl)) pa_nil))) (pg_tup (n := 2) rfl (pgs_cons (pg_name (i := 5) sc_law.nd rfl (by first | exact Or.inl rfl | exact Or.inr rfl)) (pgs_cons (pg_name (i := 6) sc_law.nd rfl (by first | exact Or.inl rfl | exact Or.inr rfl)) pgs_nil))))
      (pss_cons (ps_set (i := 3) sc_law.nd rfl (by first | exact Or.inl rfl | exact Or.inr rfl) (pe_tup (pa_cons (pe_callTy call_list_of (by rfl) (NB "list" (by decide)) (by decide +kernel) (pa_cons (pv 5) pa_nil)) (pa_cons (pe_callTy call_list_of (by rfl) (NB "list" (by decide)) (by decide +kernel) (pa_cons (pv 6) pa_nil)) pa_nil))))
      (pss_one (ps_for PassesOwn.never rfl (pi_range1 (by rfl) (NB "range" (by decide)) (pa_cons pe_int pa_nil)) (pg_name (i := 4) sc_law.nd rfl (by first | exact Or.inl rfl | exact Or.inr rfl)) (pss_cons (ps_set (i := 7) sc_law.nd rfl (by first | exact Or.inl rfl | exact Or.inr rfl) (pe_callG A__law_price.ok (hr.mono (by decide)) (by rfl) A__law_price.g A__law_price.kp A__law_price.b pass0 (pa_cons (pv 2) (pa_cons (pv 5) (pa_cons (pv 6) pa_nil)))))
      (pss_cons (ps_set (i := 8) sc_law.nd rfl (by first | exact Or.inl rfl | exact Or.inr rfl) (pe_ix (ix_any hr.units) (pe_lst (pa_cons (pe_callG A__law_pairs.ok (hr.mono (by decide)) (by rfl) A__law_pairs.g A__law_pairs.kp A__law_pairs.b pass0 (pa_cons (pv 2) (pa_cons (pv 5) (pa_cons (pv 6) pa_nil)))) (pa_cons (pe_lst pa_nil) pa_nil))) (pe_callTy call_intA (by rfl) (NB "int" (by decide)) (by decide +kernel) (pa_cons (pe_cmpR (op_eqD hr.units) (pe_callG A__law_pick.ok (hr.mono (by decide)) (by rfl) A__law_pick.g A__law_pick.kp A__law_pick.b pass0 (pa_cons (pv 2) (pa_cons pe_int pa_nil))) pe_int (nomark _)) pa_nil)) (fun _ _ => rfl)))
      (pss_cons (ps_set (i := 9) sc_law.nd rfl (by first | exact Or.inl rfl | exact Or.inr rfl) (pe_callTy call_list_of (by rfl) (NB "list" (by decide)) (by decide +kernel) (pa_cons (pv 8) pa_nil)))
      (pss_cons (ps_for PassesOwn.never rfl (pi_range1 (by rfl) (NB "range" (by decide)) (pa_cons pe_int pa_nil)) (pg_name (i := 10) sc_law.nd rfl (by first | exact Or.inl rfl | exact Or.inr rfl)) (pss_cons (ps_set (i := 11) sc_law.nd rfl (by first | exact Or.inl rfl | exact Or.inr rfl) (pe_callG A_cost_of.ok (hr.mono (by decide)) (by rfl) A_cost_of.g A_cost_of.kp A_cost_of.b pass0 (pa_cons (pv 5) (pa_cons (pv 6) (pa_cons (pv 7) (pa_cons (pv 9) pa_nil))))))
      (pss_one (ps_if (pt_not (pt_val (pe_callG A__law_same.ok (hr.mono (by decide)) (by rfl) A__law_same.g A__law_same.kp A__law_same.b pass0 (pa_cons (pv 11) (pa_cons (pe_callG A__law_cost.ok (hr.mono (by decide)) (by rfl) A__law_cost.g A__law_cost.kp A__law_cost.b pass0 (pa_cons (pv 5) (pa_cons (pv 6) (pa_cons (pv 7) (pa_cons (pv 8) pa_nil))))) pa_nil))))) (pss_one (ps_ret pe_bl)) pss_nil))))
      (pss_one (ps_if (PW.pt (pw_or (pt_cmpR (op_neD hr.units) (pv 9) (pv 8) (nomark _)) (pw_or1 (pt_cmpR (op_neD hr.units) (pe_tup (pa_cons (pv 5) (pa_cons (pv 6) pa_nil))) (pv 3) (nomark _))))) (pss_one (ps_ret pe_bl)) pss_nil))))))))))))
      (pss_one (ps_ret pe_bl))),
    (sd_seq (sd_for (id_rng1 (ad_cons (ed_cb v_n2 (ad_cons ed_int (ad_cons (ed_cb v_n2 (ad_cons (ed_cb v_len (ad_cons (ed_var 0) ad_nil)) (ad_cons ed_int ad_nil))) ad_nil))) ad_nil)) (gd_name 1) (sd_seq (sd_asg (ed_call (ad_cons (ed_var 0) (ad_cons (ed_var 1) ad_nil))) (gd_name 2))
      (sd_mkGen 2 (sd_seq (sd_asg (ed_call (ad_cons (ed_var 2) (ad_cons (ed_op v_ix (ed_lstN (ad_cons ed_int (ad_cons ed_int ad_nil))) (ed_cb v_int (ad_cons (ed_op v_eq (ed_call (ad_cons (ed_var 2) (ad_cons ed_int ad_nil))) ed_int) ad_nil))) ad_nil))) (gd_tup (gds_cons (gd_name 5) (gds_cons (gd_name 6) gds_nil))))
      (sd_seq (sd_frz 6 (sd_frz 5 (sd_asg (ed_tupN (ad_cons (ed_cb v_list (ad_cons (ed_var 5) ad_nil)) (ad_cons (ed_cb v_list (ad_cons (ed_var 6) ad_nil)) ad_nil))) (gd_name 3))))
      (sd_for (id_rng1 (ad_cons ed_int ad_nil)) (gd_name 4) (sd_seq (sd_asg (ed_call (ad_cons (ed_var 2) (ad_cons (ed_var 5) (ad_cons (ed_var 6) ad_nil)))) (gd_name 7))
      (sd_seq (sd_asg (ed_op v_ix (ed_lstN (ad_cons (ed_call (ad_cons (ed_var 2) (ad_cons (ed_var 5) (ad_cons (ed_var 6) ad_nil)))) (ad_cons (ed_lstN ad_nil) ad_nil))) (ed_cb v_int (ad_cons (ed_op v_eq (ed_call (ad_cons (ed_var 2) (ad_cons ed_int ad_nil))) ed_int) ad_nil))) (gd_name 8))
      (sd_seq (sd_asg (ed_cb v_list (ad_cons (ed_var 8) ad_nil)) (gd_name 9))
      (sd_seq (sd_for (id_rng1 (ad_cons ed_int ad_nil)) (gd_name 10) (sd_seq (sd_asg (ed_call (ad_cons (ed_var 5) (ad_cons (ed_var 6) (ad_cons (ed_var 7) (ad_cons (ed_var 9) ad_nil))))) (gd_name 11))
      (sd_if (td_not (td_B (ed_call (ad_cons (ed_var 11) (ad_cons (ed_call (ad_cons (ed_var 5) (ad_cons (ed_var 6) (ad_cons (ed_var 7) (ad_cons (ed_var 8) ad_nil))))) ad_nil))))) (sd_ret ed_bl) sd_next)))
      (sd_if (td_or (td_test (ed_op v_ne (ed_var 9) (ed_var 8))) (td_test (ed_op v_ne (ed_tupN (ad_cons (ed_var 5) (ad_cons (ed_var 6) ad_nil))) (ed_var 3)))) (sd_ret ed_bl) sd_next)))))))))))
      (sd_ret ed_bl)), fun a c h => ?_⟩)
  · exact ⟨rfl, trivial⟩
  · obtain ⟨hlen, rfl⟩ := h
    have hL : LIM = 1000000000000000000 := rfl
    (unfold S_law; dsimp only; simp only [Γ0, List.length_cons, List.length_nil, Nat.reduceAdd, List.replicate])
    rw [rSeq_eq]
    refine rFor_rng (max 1 (min a.length 3)) 3 9000 (fun Γ => ∃ s1 s2 s3 s4 s5 s6 s7 s8 s9 s10 s11, Γ = [some ⟨.nl, .scr a⟩, s1, s2, s3, s4, s5, s6, s7, s8, s9, s10, s11]) (fun P h => ?_) (by omega) ⟨_, _, _, _, _, _, _, _, _, _, _, rfl⟩ (fun i Γ' c' hi hM h1 h2 f hf => ?_) fun Γ' c' _ _ _ => ?_
    · (try solve_by_elim [])
      have e : (if (if 3 < (a.length : Int) then (3 : Int) else (a.length : Int)) > 1 then if 3 < (a.length : Int) then (3 : Int) else (a.length : Int) else 1).toNat = max 1 (min a.length 3) := by
        split <;> split <;> omega
      rw [e]
      refine ⟨?_, ?_, h⟩
      · split <;> split <;> omega
      · split <;> split <;> omega
    · obtain ⟨s1, s2, s3, s4, s5, s6, s7, s8, s9, s10, s11, rfl⟩ := hM
      (try solve_by_elim [])
      (refine rSeq_op fun nx hnx => ?_); solve_by_elim []
      refine left_call (by omega) (by omega) fun x y hx => ?_
      (try solve_by_elim [])
      refine hnx _ _ ?_; clear nx hnx
      show rMkGen _ _ _ _ _
      (try solve_by_elim [])
      refine mkGen_ok rfl hx ?_
      (refine rSeq_op fun nx hnx => ?_); solve_by_elim []
      refine ⟨by decide, by decide, by omega, fun r r0 r1 => ?_⟩
      obtain ⟨m, hm, e⟩ := atI_two (a := (9 : Int)) (b := 12) (p := r = 0)
      refine ⟨_, e, ?_⟩
      clear e
      refine twoC_call (by omega) (by omega) fun w os qs c2 hw hos hqs g1 g2 => ?_
      have hm20 : m.toNat ≤ 20 := by omega
      have hT : TwoB w os qs := ⟨hw, ⟨hos.1, Nat.le_trans hos.2.1 hm20, hos.2.2⟩, ⟨hqs.1, Nat.le_trans hqs.2.1 hm20, hqs.2.2⟩⟩
      have hol := hT.2.1.2.1
      have hql := hT.2.2.2.1
      (try solve_by_elim [])
      refine hnx _ _ ?_; clear nx hnx
      (refine rSeq_op fun nx hnx => ?_); solve_by_elim []
      refine hnx _ _ ?_; clear nx hnx
      (try solve_by_elim [])
      refine rFor_num 4 c2 (fun k Γ c' => (c2 ≤ c' ∧ c' ≤ c2 + k * 200) ∧ ∃ s1 s4 s7 s8 s9 s10 s11, Γ = [some ⟨.nl, .scr a⟩, s1, some ⟨.nl, .gen⟩, some ⟨.own, .tup [.lst (os.map eCol), .lst (qs.map eCol)]⟩, s4, some ⟨.sh, .lst (os.map eCol)⟩, some ⟨.sh, .lst (qs.map eCol)⟩, s7, s8, s9, s10, s11]) (fun P h => ?_) ⟨⟨Nat.le_refl _, by omega⟩, _, _, _, _, _, _, _, rfl⟩ (fun k Γ3 c6 hx hI g hg => ?_) (fun Γ3 c6 hI => ?_)
      · (try solve_by_elim [])
        exact ⟨by decide, by decide, h⟩
      · obtain ⟨⟨g3, g4⟩, s1, s4, s7, s8, s9, s10, s11, rfl⟩ := hI
        (try solve_by_elim [])
        (refine rSeq_op fun nx hnx => ?_); solve_by_elim []
        refine price_call hT (by omega) fun n c7 hn g5 g6 => ?_
        (try solve_by_elim [])
        refine hnx _ _ ?_; clear nx hnx
        (refine rSeq_op fun nx hnx => ?_); solve_by_elim []
        refine pairs_call hol hql (by omega) fun ps c8 hps g7 g8 => ?_
        have go : ∀ ps : Prs, PrsB os qs ps → nx [some ⟨.nl, .scr a⟩, s1, some ⟨.nl, .gen⟩, some ⟨.own, .tup [.lst (os.map eCol), .lst (qs.map eCol)]⟩, some ⟨.nl, .int (k : Nat)⟩, some ⟨.sh, .lst (os.map eCol)⟩, some ⟨.sh, .lst (qs.map eCol)⟩, some ⟨.nl, .int n⟩, some ⟨.own, .lst (ps.map ePr)⟩, s9, s10, s11] (c8 + 1) := fun ps hps => by
          have hsp := eqOk_prs hps hol hql
          refine hnx _ _ ?_; clear nx hnx
          (refine rSeq_op fun nx hnx => ?_); solve_by_elim* [noLs_Prs]
          refine hnx _ _ ?_; clear nx hnx
          rw [rSeq_eq]
          refine rFor_num 2 (c8 + 1) (fun j Γ c' => c' = c8 + 1 ∧ ∃ s1 s4 s10 s11, Γ = [some ⟨.nl, .scr a⟩, s1, some ⟨.nl, .gen⟩, some ⟨.own, .tup [.lst (os.map eCol), .lst (qs.map eCol)]⟩, s4, some ⟨.sh, .lst (os.map eCol)⟩, some ⟨.sh, .lst (qs.map eCol)⟩, some ⟨.nl, .int n⟩, some ⟨.own, .lst (ps.map ePr)⟩, some ⟨.own, .lst (ps.map ePr)⟩, s10, s11]) (fun P h => ?_) ⟨rfl, _, _, _, _, rfl⟩ (fun j Γ4 c9 hx hI g2 hg2 => ?_) (fun Γ4 c9 hI => ?_)
          · (try solve_by_elim [])
            exact ⟨by decide, by decide, h⟩
          · obtain ⟨rfl, s1, s4, s10, s11, rfl⟩ := hI
            (try solve_by_elim [])
            (refine rSeq_op fun nx hnx => ?_); solve_by_elim []
            refine costI_call (ps := ps) hT hn hps ?_
            (try solve_by_elim [])
            refine hnx _ _ ?_; clear nx hnx
            (try solve_by_elim [])
            refine costI_call (ps := ps) hT hn hps ?_
            refine sameT_call rfl rfl (Nat.zero_le _) (Nat.zero_lt_succ _) ?_
            (try solve_by_elim [])
            exact hg2 _ _ ⟨rfl, _, _, _, _, rfl⟩
          · obtain ⟨rfl, s1, s4, s10, s11, rfl⟩ := hI
            dsimp only
            (try solve_by_elim [])
            refine ⟨hsp.eq (by decide), hsp.eq (by decide), ?_⟩
            rw [eqv_self (nbD_prs ps), if_neg (by decide)]
            refine ⟨hT.sh, hT.sh, ?_⟩
            rw [eqv_self (nbD_two os qs), if_neg (by decide)]
            exact hg _ _ ⟨⟨by omega, by omega⟩, _, _, _, _, _, _, _, rfl⟩
        refine ⟨nofun, by decide, by decide, by omega, fun r r0 r1 => ?_⟩
        by_cases z : r = 0
        · rw [if_pos z]
          refine ⟨ePrs [], rfl, ?_⟩
          (try solve_by_elim [ePrs])
          exact go [] ⟨Nat.zero_le _, nofun⟩
        · rw [if_neg z]
          refine ⟨ePrs ps, rfl, ?_⟩
          (try solve_by_elim* [ePrs, noLs_Prs])
          exact go ps hps
      · obtain ⟨⟨g3, g4⟩, s1, s4, s7, s8, s9, s10, s11, rfl⟩ := hI
        exact hf _ _ ⟨_, _, _, _, _, _, _, _, _, _, _, rfl⟩ (by omega) (by omega)
    · (try solve_by_elim [])
end
end LW
namespace LW
open PySem PySem.Spec L2 DL
theorem all_mk {l : PySem.W.OpenLaw} {w : World} {K : PySem.W.Frag} {h : Heap} {mg : Str → Option Value} {fa : Addr} (X : K.In h) (G : h.Ns mainGlobals mg) (hfa : mg "law" = some (.ref fa))
    {f0 : Addr} {od0 an0 : Option Addr} {sl0 : Array (Option Value)} {oc0 kV0 dc0 pm0 cd0 ct0 : Value}
    {f1 : Addr} {od1 an1 : Option Addr} {sl1 : Array (Option Value)} {oc1 kV1 dc1 pm1 cd1 ct1 : Value}
    {f2 : Addr} {od2 an2 : Option Addr} {sl2 : Array (Option Value)} {oc2 kV2 dc2 pm2 cd2 ct2 : Value}
    {f3 : Addr} {od3 an3 : Option Addr} {sl3 : Array (Option Value)} {oc3 kV3 dc3 pm3 cd3 ct3 : Value}
    {f4 : Addr} {od4 an4 : Option Addr} {sl4 : Array (Option Value)} {oc4 kV4 dc4 pm4 cd4 ct4 : Value}
    {f5 : Addr} {od5 an5 : Option Addr} {sl5 : Array (Option Value)} {oc5 kV5 dc5 pm5 cd5 ct5 : Value}
    {f6 : Addr} {od6 an6 : Option Addr} {sl6 : Array (Option Value)} {oc6 kV6 dc6 pm6 cd6 ct6 : Value}
    {f7 : Addr} {od7 an7 : Option Addr} {sl7 : Array (Option Value)} {oc7 kV7 dc7 pm7 cd7 ct7 : Value}
    {f8 : Addr} {od8 an8 : Option Addr} {sl8 : Array (Option Value)} {oc8 kV8 dc8 pm8 cd8 ct8 : Value}
    {f9 : Addr} {od9 an9 : Option Addr} {sl9 : Array (Option Value)} {oc9 kV9 dc9 pm9 cd9 ct9 : Value}
    {f10 : Addr} {od10 an10 : Option Addr} {sl10 : Array (Option Value)} {oc10 kV10 dc10 pm10 cd10 ct10 : Value}
    {f11 : Addr} {od11 an11 : Option Addr} {sl11 : Array (Option Value)} {oc11 kV11 dc11 pm11 cd11 ct11 : Value}
    {f12 : Addr} {od12 an12 : Option Addr} {sl12 : Array (Option Value)} {oc12 kV12 dc12 pm12 cd12 ct12 : Value}
    {f13 : Addr} {od13 an13 : Option Addr} {sl13 : Array (Option Value)} {oc13 kV13 dc13 pm13 cd13 ct13 : Value}
    {f14 : Addr} {od14 an14 : Option Addr} {sl14 : Array (Option Value)} {oc14 kV14 dc14 pm14 cd14 ct14 : Value}
    (a0 : PySem.W.nsIn K mainGlobals "_law_left" = some (some (.ref f0))) (l0 : K.lookup f0 = some ⟨oc0, od0, .func (PySem.W.fnOf "_law_left" "_law_left" (defArgs s__law_left) (defBody s__law_left) (defScope s__law_left) .none kV0 dc0 pm0 an0 cd0 ct0), sl0⟩) (c0 : PySem.W.codeIn K cd0 "_law_left" = true) (k0 : PySem.W.keepIn K (.ref f0) = true)
    (a1 : PySem.W.nsIn K mainGlobals "_law_mix" = some (some (.ref f1))) (l1 : K.lookup f1 = some ⟨oc1, od1, .func (PySem.W.fnOf "_law_mix" "_law_mix" (defArgs s__law_mix) (defBody s__law_mix) (defScope s__law_mix) .none kV1 dc1 pm1 an1 cd1 ct1), sl1⟩) (c1 : PySem.W.codeIn K cd1 "_law_mix" = true) (k1 : PySem.W.keepIn K (.ref f1) = true)
    (a2 : PySem.W.nsIn K mainGlobals "_law_pick" = some (some (.ref f2))) (l2 : K.lookup f2 = some ⟨oc2, od2, .func (PySem.W.fnOf "_law_pick" "_law_pick" (defArgs s__law_pick) (defBody s__law_pick) (defScope s__law_pick) .none kV2 dc2 pm2 an2 cd2 ct2), sl2⟩) (c2 : PySem.W.codeIn K cd2 "_law_pick" = true) (k2 : PySem.W.keepIn K (.ref f2) = true)
    (a3 : PySem.W.nsIn K mainGlobals "_law_kind" = some (some (.ref f3))) (l3 : K.lookup f3 = some ⟨oc3, od3, .func (PySem.W.fnOf "_law_kind" "_law_kind" (defArgs s__law_kind) (defBody s__law_kind) (defScope s__law_kind) .none kV3 dc3 pm3 an3 cd3 ct3), sl3⟩) (c3 : PySem.W.codeIn K cd3 "_law_kind" = true) (k3 : PySem.W.keepIn K (.ref f3) = true)
    (a4 : PySem.W.nsIn K mainGlobals "_law_colour" = some (some (.ref f4))) (l4 : K.lookup f4 = some ⟨oc4, od4, .func (PySem.W.fnOf "_law_colour" "_law_colour" (defArgs s__law_colour) (defBody s__law_colour) (defScope s__law_colour) .none kV4 dc4 pm4 an4 cd4 ct4), sl4⟩) (c4 : PySem.W.codeIn K cd4 "_law_colour" = true) (k4 : PySem.W.keepIn K (.ref f4) = true)
    (a5 : PySem.W.nsIn K mainGlobals "_law_few" = some (some (.ref f5))) (l5 : K.lookup f5 = some ⟨oc5, od5, .func (PySem.W.fnOf "_law_few" "_law_few" (defArgs s__law_few) (defBody s__law_few) (defScope s__law_few) .none kV5 dc5 pm5 an5 cd5 ct5), sl5⟩) (c5 : PySem.W.codeIn K cd5 "_law_few" = true) (k5 : PySem.W.keepIn K (.ref f5) = true)
    (a6 : PySem.W.nsIn K mainGlobals "_law_two" = some (some (.ref f6))) (l6 : K.lookup f6 = some ⟨oc6, od6, .func (PySem.W.fnOf "_law_two" "_law_two" (defArgs s__law_two) (defBody s__law_two) (defScope s__law_two) .none kV6 dc6 pm6 an6 cd6 ct6), sl6⟩) (c6 : PySem.W.codeIn K cd6 "_law_two" = true) (k6 : PySem.W.keepIn K (.ref f6) = true)
    (a7 : PySem.W.nsIn K mainGlobals "_law_apart" = some (some (.ref f7))) (l7 : K.lookup f7 = some ⟨oc7, od7, .func (PySem.W.fnOf "_law_apart" "_law_apart" (defArgs s__law_apart) (defBody s__law_apart) (defScope s__law_apart) .none kV7 dc7 pm7 an7 cd7 ct7), sl7⟩) (c7 : PySem.W.codeIn K cd7 "_law_apart" = true) (k7 : PySem.W.keepIn K (.ref f7) = true)
    (a8 : PySem.W.nsIn K mainGlobals "_law_price" = some (some (.ref f8))) (l8 : K.lookup f8 = some ⟨oc8, od8, .func (PySem.W.fnOf "_law_price" "_law_price" (defArgs s__law_price) (defBody s__law_price) (defScope s__law_price) .none kV8 dc8 pm8 an8 cd8 ct8), sl8⟩) (c8 : PySem.W.codeIn K cd8 "_law_price" = true) (k8 : PySem.W.keepIn K (.ref f8) = true)
    (a9 : PySem.W.nsIn K mainGlobals "apart" = some (some (.ref f9))) (l9 : K.lookup f9 = some ⟨oc9, od9, .func (PySem.W.fnOf "apart" "apart" (defArgs s_apart) (defBody s_apart) (defScope s_apart) .none kV9 dc9 pm9 an9 cd9 ct9), sl9⟩) (c9 : PySem.W.codeIn K cd9 "apart" = true) (k9 : PySem.W.keepIn K (.ref f9) = true)
    (a10 : PySem.W.nsIn K mainGlobals "cost_of" = some (some (.ref f10))) (l10 : K.lookup f10 = some ⟨oc10, od10, .func (PySem.W.fnOf "cost_of" "cost_of" (defArgs s_cost_of) (defBody s_cost_of) (defScope s_cost_of) .none kV10 dc10 pm10 an10 cd10 ct10), sl10⟩) (c10 : PySem.W.codeIn K cd10 "cost_of" = true) (k10 : PySem.W.keepIn K (.ref f10) = true)
    (a11 : PySem.W.nsIn K mainGlobals "_law_pairs" = some (some (.ref f11))) (l11 : K.lookup f11 = some ⟨oc11, od11, .func (PySem.W.fnOf "_law_pairs" "_law_pairs" (defArgs s__law_pairs) (defBody s__law_pairs) (defScope s__law_pairs) .none kV11 dc11 pm11 an11 cd11 ct11), sl11⟩) (c11 : PySem.W.codeIn K cd11 "_law_pairs" = true) (k11 : PySem.W.keepIn K (.ref f11) = true)
    (a12 : PySem.W.nsIn K mainGlobals "_law_same" = some (some (.ref f12))) (l12 : K.lookup f12 = some ⟨oc12, od12, .func (PySem.W.fnOf "_law_same" "_law_same" (defArgs s__law_same) (defBody s__law_same) (defScope s__law_same) .none kV12 dc12 pm12 an12 cd12 ct12), sl12⟩) (c12 : PySem.W.codeIn K cd12 "_law_same" = true) (k12 : PySem.W.keepIn K (.ref f12) = true)
    (a13 : PySem.W.nsIn K mainGlobals "_law_cost" = some (some (.ref f13))) (l13 : K.lookup f13 = some ⟨oc13, od13, .func (PySem.W.fnOf "_law_cost" "_law_cost" (defArgs s__law_cost) (defBody s__law_cost) (defScope s__law_cost) .none kV13 dc13 pm13 an13 cd13 ct13), sl13⟩) (c13 : PySem.W.codeIn K cd13 "_law_cost" = true) (k13 : PySem.W.keepIn K (.ref f13) = true)
    (a14 : PySem.W.nsIn K mainGlobals "law" = some (some (.ref f14))) (l14 : K.lookup f14 = some ⟨oc14, od14, .func (PySem.W.fnOf "law" "law" (defArgs s_law) (defBody s_law) (defScope s_law) .none kV14 dc14 pm14 an14 cd14 ct14), sl14⟩) (c14 : PySem.W.codeIn K cd14 "law" = true) (k14 : PySem.W.keepIn K (.ref f14) = true)
    (z0 : PySem.W.nsIn K mainGlobals "int" = some none)
    (z1 : PySem.W.nsIn K mainGlobals "bool" = some none)
    (z2 : PySem.W.nsIn K mainGlobals "list" = some none)
    (z3 : PySem.W.nsIn K mainGlobals "tuple" = some none)
    (z4 : PySem.W.nsIn K mainGlobals "str" = some none)
    (z5 : PySem.W.nsIn K mainGlobals "set" = some none)
    (z6 : PySem.W.nsIn K mainGlobals "dict" = some none)
    (z7 : PySem.W.nsIn K mainGlobals "len" = some none)
    (z8 : PySem.W.nsIn K mainGlobals "abs" = some none)
    (z9 : PySem.W.nsIn K mainGlobals "max" = some none)
    (z10 : PySem.W.nsIn K mainGlobals "min" = some none)
    (z11 : PySem.W.nsIn K mainGlobals "sum" = some none)
    (z12 : PySem.W.nsIn K mainGlobals "all" = some none)
    (z13 : PySem.W.nsIn K mainGlobals "any" = some none)
    (z14 : PySem.W.nsIn K mainGlobals "isinstance" = some none)
    (z15 : PySem.W.nsIn K mainGlobals "range" = some none)
    (z16 : PySem.W.nsIn K mainGlobals "zip" = some none)
    (z17 : PySem.W.nsIn K mainGlobals "enumerate" = some none)
    (z18 : PySem.W.nsIn K mainGlobals "sorted" = some none)
    (z19 : PySem.W.nsIn K mainGlobals "reversed" = some none)
    : ∃ fd : FuncData, (∀ (s : Shared) (v : Value), BindsTo s fd ⟨[v], []⟩ [("script", v)]) ∧ ∀ base : Heap, K.In base → base.Ns mainGlobals mg → FnG l.prog w K mg base CX0 62 fa fd ["script"] (SpF K S_law) := by
  have e := hfa.symm.trans (PySem.W.mg_of X G a14)
  cases e
  have NB : Bn mg := fun x hx => by
    simp only [bNames, List.mem_cons, List.not_mem_nil, or_false] at hx
    rcases hx with rfl | rfl | rfl | rfl | rfl | rfl | rfl | rfl | rfl | rfl | rfl | rfl | rfl | rfl | rfl | rfl | rfl | rfl | rfl | rfl
    · exact PySem.W.mg_none_of X G z0
    · exact PySem.W.mg_none_of X G z1
    · exact PySem.W.mg_none_of X G z2
    · exact PySem.W.mg_none_of X G z3
    · exact PySem.W.mg_none_of X G z4
    · exact PySem.W.mg_none_of X G z5
    · exact PySem.W.mg_none_of X G z6
    · exact PySem.W.mg_none_of X G z7
    · exact PySem.W.mg_none_of X G z8
    · exact PySem.W.mg_none_of X G z9
    · exact PySem.W.mg_none_of X G z10
    · exact PySem.W.mg_none_of X G z11
    · exact PySem.W.mg_none_of X G z12
    · exact PySem.W.mg_none_of X G z13
    · exact PySem.W.mg_none_of X G z14
    · exact PySem.W.mg_none_of X G z15
    · exact PySem.W.mg_none_of X G z16
    · exact PySem.W.mg_none_of X G z17
    · exact PySem.W.mg_none_of X G z18
    · exact PySem.W.mg_none_of X G z19
  refine ⟨PySem.W.fnOf "law" "law" (defArgs s_law) (defBody s_law) (defScope s_law) .none kV14 dc14 pm14 an14 cd14 ct14, fun s v => .of_eq rfl, fun base _ _ => ?_⟩
  have F0 := fun_mk (st := s__law_left) l0 c0 k0
  have A__law_left : FnAt l.prog w K mg base 1 "_law_left" ["script", "k"] (SpF K S_left) f0 _ := ⟨ok__law_left F0  NB, PySem.W.mg_of X G a0, k0, F0.binds (ps := ["script", "k"]) fun _ _ _ _ _ _ us hl => match us, hl with | [_, _], _ => rfl⟩
  have F1 := fun_mk (st := s__law_mix) l1 c1 k1
  have A__law_mix : FnAt l.prog w K mg base 1 "_law_mix" ["cell", "k"] (SpF K S_mix) f1 _ := ⟨ok__law_mix F1  NB, PySem.W.mg_of X G a1, k1, F1.binds (ps := ["cell", "k"]) fun _ _ _ _ _ _ us hl => match us, hl with | [_, _], _ => rfl⟩
  have F2 := fun_mk (st := s__law_pick) l2 c2 k2
  have A__law_pick : FnAt l.prog w K mg base 2 "_law_pick" ["left", "many"] (SpF K S_pick) f2 _ := ⟨ok__law_pick F2 A__law_mix NB, PySem.W.mg_of X G a2, k2, F2.binds (ps := ["left", "many"]) fun _ _ _ _ _ _ us hl => match us, hl with | [_, _], _ => rfl⟩
  have F3 := fun_mk (st := s__law_kind) l3 c3 k3
  have A__law_kind : FnAt l.prog w K mg base 3 "_law_kind" ["left"] (SpF K S_kind) f3 _ := ⟨ok__law_kind F3 A__law_pick NB, PySem.W.mg_of X G a3, k3, F3.binds (ps := ["left"]) fun _ _ _ _ _ _ us hl => match us, hl with | [_], _ => rfl⟩
  have F4 := fun_mk (st := s__law_colour) l4 c4 k4
  have A__law_colour : FnAt l.prog w K mg base 3 "_law_colour" ["left", "kind"] (SpF K S_colour) f4 _ := ⟨ok__law_colour F4 A__law_pick NB, PySem.W.mg_of X G a4, k4, F4.binds (ps := ["left", "kind"]) fun _ _ _ _ _ _ us hl => match us, hl with | [_, _], _ => rfl⟩
  have F5 := fun_mk (st := s__law_few) l5 c5 k5
  have A__law_few : FnAt l.prog w K mg base 4 "_law_few" ["left", "kind", "most"] (SpF K S_fewC) f5 _ := ⟨ok__law_few F5 A__law_pick A__law_colour NB, PySem.W.mg_of X G a5, k5, F5.binds (ps := ["left", "kind", "most"]) fun _ _ _ _ _ _ us hl => match us, hl with | [_, _, _], _ => rfl⟩
  have F6 := fun_mk (st := s__law_two) l6 c6 k6
  have A__law_two : FnAt l.prog w K mg base 5 "_law_two" ["left", "most"] (SpF K S_twoC) f6 _ := ⟨ok__law_two F6 A__law_kind A__law_few A__law_pick NB, PySem.W.mg_of X G a6, k6, F6.binds (ps := ["left", "most"]) fun _ _ _ _ _ _ us hl => match us, hl with | [_, _], _ => rfl⟩
  have F7 := fun_mk (st := s__law_apart) l7 c7 k7
  have A__law_apart : FnAt l.prog w K mg base 1 "_law_apart" ["one", "other"] (SpF K S_apart) f7 _ := ⟨ok__law_apart F7  NB, PySem.W.mg_of X G a7, k7, F7.binds (ps := ["one", "other"]) fun _ _ _ _ _ _ us hl => match us, hl with | [_, _], _ => rfl⟩
  have F8 := fun_mk (st := s__law_price) l8 c8 k8
  have A__law_price : FnAt l.prog w K mg base 3 "_law_price" ["left", "one", "other"] (SpF K S_price) f8 _ := ⟨ok__law_price F8 A__law_pick A__law_apart NB, PySem.W.mg_of X G a8, k8, F8.binds (ps := ["left", "one", "other"]) fun _ _ _ _ _ _ us hl => match us, hl with | [_, _, _], _ => rfl⟩
  have F9 := fun_mk (st := s_apart) l9 c9 k9
  have A_apart : FnAt l.prog w K mg base 1 "apart" ["one", "other"] (SpF K S_apart) f9 _ := ⟨ok_apart F9  NB, PySem.W.mg_of X G a9, k9, F9.binds (ps := ["one", "other"]) fun _ _ _ _ _ _ us hl => match us, hl with | [_, _], _ => rfl⟩
  have F10 := fun_mk (st := s_cost_of) l10 c10 k10
  have A_cost_of : FnAt l.prog w K mg base 2 "cost_of" ["one", "other", "price", "pairs"] (SpF K S_costI) f10 _ := ⟨ok_cost_of F10 A_apart NB, PySem.W.mg_of X G a10, k10, F10.binds (ps := ["one", "other", "price", "pairs"]) fun _ _ _ _ _ _ us hl => match us, hl with | [_, _, _, _], _ => rfl⟩
  have F11 := fun_mk (st := s__law_pairs) l11 c11 k11
  have A__law_pairs : FnAt l.prog w K mg base 3 "_law_pairs" ["left", "one", "other"] (SpF K S_pairs) f11 _ := ⟨ok__law_pairs F11 A__law_pick NB, PySem.W.mg_of X G a11, k11, F11.binds (ps := ["left", "one", "other"]) fun _ _ _ _ _ _ us hl => match us, hl with | [_, _, _], _ => rfl⟩
  have F12 := fun_mk (st := s__law_same) l12 c12 k12
  have A__law_same : FnAt l.prog w K mg base 61 "_law_same" ["found", "due"] (SpF K (S_same 61)) f12 _ := ⟨ok__law_same F12  (PySem.W.mg_of X G a12) NB 61, PySem.W.mg_of X G a12, k12, F12.binds (ps := ["found", "due"]) fun _ _ _ _ _ _ us hl => match us, hl with | [_, _], _ => rfl⟩
  have F13 := fun_mk (st := s__law_cost) l13 c13 k13
  have A__law_cost : FnAt l.prog w K mg base 2 "_law_cost" ["one", "other", "price", "pairs"] (SpF K S_costI) f13 _ := ⟨ok__law_cost F13 A__law_apart NB, PySem.W.mg_of X G a13, k13, F13.binds (ps := ["one", "other", "price", "pairs"]) fun _ _ _ _ _ _ us hl => match us, hl with | [_, _, _, _], _ => rfl⟩
  have F14 := fun_mk (st := s_law) l14 c14 k14
  exact ok_law F14 A__law_left A__law_two A__law_pick A__law_price A__law_pairs A_cost_of A__law_same A__law_cost NB
end LW
open PySem PySem.W PyProof.Rows
set_option maxHeartbeats 0 in
theorem PySem.Challenge.cw_fewcolours_k68_what_a_change_costs_holds : PySem.Challenge.rw_fewcolours_k68_what_a_change_costs.Holds := by
  w_on; o_law; k_head; (case hw => w_witness2)
  k_fill
  refine DL.walk_ofG (l := PySem.Challenge.rw_fewcolours_k68_what_a_change_costs) (n := 63) (k := 62) (x := "script") (sp := fun w => DL.SpF _ DL.S_law) rfl (by decide) rfl ⟨rfl, by decide, by decide⟩ (fun w h Y => PySem.W.kIn_of Y) ?F (fun _ _ a ns hl ho hS => DL.law_sp hl ho hS)
  case F =>
    intro w mg fa h KX G hmg
    refine' LW.all_mk KX G hmg ?a0 ?l0 ?c0 ?k0 ?a1 ?l1 ?c1 ?k1 ?a2 ?l2 ?c2 ?k2 ?a3 ?l3 ?c3 ?k3 ?a4 ?l4 ?c4 ?k4 ?a5 ?l5 ?c5 ?k5 ?a6 ?l6 ?c6 ?k6 ?a7 ?l7 ?c7 ?k7 ?a8 ?l8 ?c8 ?k8 ?a9 ?l9 ?c9 ?k9 ?a10 ?l10 ?c10 ?k10 ?a11 ?l11 ?c11 ?k11 ?a12 ?l12 ?c12 ?k12 ?a13 ?l13 ?c13 ?k13 ?a14 ?l14 ?c14 ?k14 ?z0 ?z1 ?z2 ?z3 ?z4 ?z5 ?z6 ?z7 ?z8 ?z9 ?z10 ?z11 ?z12 ?z13 ?z14 ?z15 ?z16 ?z17 ?z18 ?z19
    (case a0 => k_is); (case l0 => k_is); (case c0 => k_is); (case k0 => k_is); (case a1 => k_is); (case l1 => k_is); (case c1 => k_is); (case k1 => k_is); (case a2 => k_is); (case l2 => k_is); (case c2 => k_is); (case k2 => k_is); (case a3 => k_is); (case l3 => k_is); (case c3 => k_is); (case k3 => k_is); (case a4 => k_is); (case l4 => k_is); (case c4 => k_is); (case k4 => k_is); (case a5 => k_is); (case l5 => k_is); (case c5 => k_is); (case k5 => k_is); (case a6 => k_is); (case l6 => k_is); (case c6 => k_is); (case k6 => k_is); (case a7 => k_is); (case l7 => k_is); (case c7 => k_is); (case k7 => k_is); (case a8 => k_is); (case l8 => k_is); (case c8 => k_is); (case k8 => k_is); (case a9 => k_is); (case l9 => k_is); (case c9 => k_is); (case k9 => k_is); (case a10 => k_is); (case l10 => k_is); (case c10 => k_is); (case k10 => k_is); (case a11 => k_is); (case l11 => k_is); (case c11 => k_is); (case k11 => k_is); (case a12 => k_is); (case l12 => k_is); (case c12 => k_is); (case k12 => k_is); (case a13 => k_is); (case l13 => k_is); (case c13 => k_is); (case k13 => k_is); (case a14 => k_is); (case l14 => k_is); (case c14 => k_is); (case k14 => k_is); (case z0 => k_is); (case z1 => k_is); (case z2 => k_is); (case z3 => k_is); (case z4 => k_is); (case z5 => k_is); (case z6 => k_is); (case z7 => k_is); (case z8 => k_is); (case z9 => k_is); (case z10 => k_is); (case z11 => k_is); (case z12 => k_is); (case z13 => k_is); (case z14 => k_is); (case z15 => k_is); (case z16 => k_is); (case z17 => k_is); (case z18 => k_is); (case z19 => k_is)

