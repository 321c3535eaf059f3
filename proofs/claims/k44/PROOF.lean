import PyProof.Rows.All
import Wide.All
import OpenK.AllK
import Wide.FinOn
import HandS.ForMost
import HandS.Exc
import HandS.TryOnly
import HandS.ExcOwn
import HandS.WordsExc
import HandS.ExcInit
import HandS.Defaults
import HandS.HeadHook1
import HandS.Wide
import HandS.TupAny
import HandS.Style
import HandS.Text
import HandS.Walk
import HandS.Comp
import HandS.IsInst
import HandS.FStr
import HandS.RaiseMore
import HandS.OwnEq
import HandS.ExcIs
import HandS.ExcField
import KE.KExcIs
import HandS.Head0
import HandS.Head1
import HandS.Head2
import HandS.HeadEnd
import HandS.HeadHook2
import HandS.HeadHook3
import HandS.HeadHook4
import PySem.Challenge.RW_rankedjoins_k44_shares
set_option Elab.async false
set_option linter.all false
set_option maxRecDepth 100000
-- Dv0
set_option maxHeartbeats 4000000
/-! Dv: values as trees (frozen D, owned O), how they stand in the abstract heap, and what a piece of code computes on them. -/
namespace Dv
open PySem PySem.Spec L2
abbrev Fg := PySem.W.Frag

/-- a caught exception: its place, its dict's place, its class -/
structure XP where
  a : Addr
  d : Addr
  c : Str
  deriving DecidableEq
/-- a frozen value: a tree that nobody changes any more -/
inductive D where
  | non | bl (b : Bool) | int (i : Int) | str (s : Str) | glo (x : Str) | ty (n : String)
  | tup (xs : List D) | lst (xs : List D) | dic (t : Nat) (kvs : List (D × D)) | ins (c : Str) (fs : List (Str × D)) | exn (x : XP) (fs : List (Str × D))
instance : Inhabited D := ⟨.non⟩
/-- a value that one name owns: its lists, dicts, instances may still change -/
inductive O where
  | fz (d : D) | lst (xs : List O) | dic (t : Nat) (kvs : List (D × O)) | ins (c : Str) (fs : List (Str × O))
instance : Inhabited O := ⟨.fz .non⟩
mutual
def O.fr : O → D
  | .fz d => d
  | .lst xs => .lst (O.frs xs)
  | .dic t kvs => .dic t (O.frk kvs)
  | .ins c fs => .ins c (O.frf fs)
def O.frs : List O → List D
  | [] => []
  | o :: r => o.fr :: O.frs r
def O.frk : List (D × O) → List (D × D)
  | [] => []
  | (k, o) :: r => (k, o.fr) :: O.frk r
def O.frf : List (Str × O) → List (Str × D)
  | [] => []
  | (k, o) :: r => (k, o.fr) :: O.frf r
end
/-- keys of dicts -/
def dkey : D → Option Key
  | .int i => some (.inl i)
  | .str s => some (.inr s)
  | _ => none
def dkeys : List D → Option (List Key)
  | [] => some []
  | d :: r => (dkey d).bind fun k => (dkeys r).map fun ks => k :: ks
def dkeyT : D → Option (List Key)
  | .tup xs => dkeys xs
  | _ => none

section
variable (K : Fg)
mutual
def R (F : Hp) : D → V → Prop
  | .non, v => v = .non
  | .bl b, v => v = .bl b
  | .int i, v => v = .int i
  | .str s, v => v = .str s
  | .glo x, v => v = .ref (He.ga K x)
  | .ty n, v => v = .ty n
  | .tup xs, v => ∃ a vs, v = .ref a ∧ F a = some (.tup vs) ∧ Rs F xs vs
  | .lst xs, v => ∃ a vs, v = .ref a ∧ SqL K F a vs ∧ Rs F xs vs
  | .dic t kvs, v => ∃ a, v = .ref a ∧ ((∃ ks, t = 0 ∧ F a = some (.dK ks) ∧ Rk F kvs ks) ∨ ∃ ks, t = 1 ∧ F a = some (.dT ks) ∧ Rt F kvs ks)
  | .ins c fs, v => ∃ a dx us, v = .ref a ∧ F a = some (.ins (He.ga K c) dx us) ∧ Rf F fs us
  | .exn x fs, v => ∃ us, v = .ref x.a ∧ F x.d = some (.xd us) ∧ Rf F fs us
def Rs (F : Hp) : List D → List V → Prop
  | [], vs => vs = []
  | d :: r, vs => ∃ v w, vs = v :: w ∧ R F d v ∧ Rs F r w
def Rk (F : Hp) : List (D × D) → List (Key × V) → Prop
  | [], vs => vs = []
  | (k, d) :: r, vs => ∃ q v w, vs = (q, v) :: w ∧ dkey k = some q ∧ R F d v ∧ Rk F r w
def Rt (F : Hp) : List (D × D) → List (List Key × V) → Prop
  | [], vs => vs = []
  | (k, d) :: r, vs => ∃ q v w, vs = (q, v) :: w ∧ dkeyT k = some q ∧ R F d v ∧ Rt F r w
def Rf (F : Hp) : List (Str × D) → List (Str × V) → Prop
  | [], vs => vs = []
  | (f, d) :: r, vs => ∃ v w, vs = (f, v) :: w ∧ R F d v ∧ Rf F r w
end
mutual
def RO (F H : Hp) : O → V → List Addr → Prop
  | .fz d, v, fp => fp = [] ∧ R K F d v
  | .lst xs, v, fp => ∃ a vs fq, v = .ref a ∧ H a = some (.lst vs) ∧ fp = a :: fq ∧ ROs F H xs vs fq
  | .dic t kvs, v, fp => ∃ a fq, v = .ref a ∧ fp = a :: fq ∧ ((∃ ks, t = 0 ∧ H a = some (.dK ks) ∧ ROk F H kvs ks fq) ∨ ∃ ks, t = 1 ∧ H a = some (.dT ks) ∧ ROt F H kvs ks fq)
  | .ins c fs, v, fp => ∃ a dx us fq, v = .ref a ∧ H a = some (.ins (He.ga K c) dx us) ∧ fp = a :: fq ∧ ROf F H fs us fq
def ROs (F H : Hp) : List O → List V → List Addr → Prop
  | [], vs, fp => vs = [] ∧ fp = []
  | o :: r, vs, fp => ∃ v w f1 f2, vs = v :: w ∧ fp = f1 ++ f2 ∧ RO F H o v f1 ∧ ROs F H r w f2
def ROk (F H : Hp) : List (D × O) → List (Key × V) → List Addr → Prop
  | [], vs, fp => vs = [] ∧ fp = []
  | (k, o) :: r, vs, fp => ∃ q v w f1 f2, vs = (q, v) :: w ∧ fp = f1 ++ f2 ∧ dkey k = some q ∧ RO F H o v f1 ∧ ROk F H r w f2
def ROt (F H : Hp) : List (D × O) → List (List Key × V) → List Addr → Prop
  | [], vs, fp => vs = [] ∧ fp = []
  | (k, o) :: r, vs, fp => ∃ q v w f1 f2, vs = (q, v) :: w ∧ fp = f1 ++ f2 ∧ dkeyT k = some q ∧ RO F H o v f1 ∧ ROt F H r w f2
def ROf (F H : Hp) : List (Str × O) → List (Str × V) → List Addr → Prop
  | [], vs, fp => vs = [] ∧ fp = []
  | (f, o) :: r, vs, fp => ∃ v w f1 f2, vs = (f, v) :: w ∧ fp = f1 ++ f2 ∧ RO F H o v f1 ∧ ROf F H r w f2
end
end
section
variable {K : Fg} {F F' H H' : Hp}
theorem same_t {a : Addr} {xs : List V} (e : Same F F') (h : SqT K F a xs) : SqT K F' a xs := by
  rcases h with (h | ⟨o, h⟩) | h
  · exact .inl (.inl (e _ _ h))
  · exact .inl (.inr ⟨o, e _ _ h⟩)
  · exact .inr h
mutual
theorem R.mono (e : Same F F') : ∀ (d : D) {v : V}, R K F d v → R K F' d v
  | .non, _, h => h
  | .bl _, _, h => h
  | .int _, _, h => h
  | .str _, _, h => h
  | .glo _, _, h => h
  | .ty _, _, h => h
  | .tup xs, _, ⟨a, vs, h1, h2, h3⟩ => ⟨a, vs, h1, e _ _ h2, Rs.mono e xs h3⟩
  | .lst xs, _, ⟨a, vs, h1, h2, h3⟩ => ⟨a, vs, h1, e.seq h2, Rs.mono e xs h3⟩
  | .dic _ kvs, _, ⟨a, h1, .inl ⟨ks, ht, h2, h3⟩⟩ => ⟨a, h1, .inl ⟨ks, ht, e _ _ h2, Rk.mono e kvs h3⟩⟩
  | .dic _ kvs, _, ⟨a, h1, .inr ⟨ks, ht, h2, h3⟩⟩ => ⟨a, h1, .inr ⟨ks, ht, e _ _ h2, Rt.mono e kvs h3⟩⟩
  | .ins _ fs, _, ⟨a, dx, us, h1, h2, h3⟩ => ⟨a, dx, us, h1, e _ _ h2, Rf.mono e fs h3⟩
  | .exn _ fs, _, ⟨us, h1, h2, h3⟩ => ⟨us, h1, e _ _ h2, Rf.mono e fs h3⟩
theorem Rs.mono (e : Same F F') : ∀ (d : List D) {v : List V}, Rs K F d v → Rs K F' d v
  | [], _, h => h
  | d :: r, _, ⟨v, w, h1, h2, h3⟩ => ⟨v, w, h1, R.mono e d h2, Rs.mono e r h3⟩
theorem Rk.mono (e : Same F F') : ∀ (d : List (D × D)) {v : List (Key × V)}, Rk K F d v → Rk K F' d v
  | [], _, h => h
  | (k, d) :: r, _, ⟨q, v, w, h1, h0, h2, h3⟩ => ⟨q, v, w, h1, h0, R.mono e d h2, Rk.mono e r h3⟩
theorem Rt.mono (e : Same F F') : ∀ (d : List (D × D)) {v : List (List Key × V)}, Rt K F d v → Rt K F' d v
  | [], _, h => h
  | (k, d) :: r, _, ⟨q, v, w, h1, h0, h2, h3⟩ => ⟨q, v, w, h1, h0, R.mono e d h2, Rt.mono e r h3⟩
theorem Rf.mono (e : Same F F') : ∀ (d : List (Str × D)) {v : List (Str × V)}, Rf K F d v → Rf K F' d v
  | [], _, h => h
  | (f, d) :: r, _, ⟨v, w, h1, h2, h3⟩ => ⟨v, w, h1, R.mono e d h2, Rf.mono e r h3⟩
end
/-- the heap keeps what stands at fp -/
def Kp (H H' : Hp) (fp : List Addr) : Prop := ∀ a ∈ fp, ∀ o, H a = some o → H' a = some o
theorem Kp.l {f1 f2 : List Addr} (k : Kp H H' (f1 ++ f2)) : Kp H H' f1 := fun a h => k a (List.mem_append_left _ h)
theorem Kp.r {f1 f2 : List Addr} (k : Kp H H' (f1 ++ f2)) : Kp H H' f2 := fun a h => k a (List.mem_append_right _ h)
theorem Kp.hd {a : Addr} {f : List Addr} (k : Kp H H' (a :: f)) {o : HO} (h : H a = some o) : H' a = some o := k a (List.mem_cons_self ..) o h
theorem Kp.tl {a : Addr} {f : List Addr} (k : Kp H H' (a :: f)) : Kp H H' f := fun b h => k b (List.mem_cons_of_mem _ h)
theorem Same.kp {fp : List Addr} (e : Same H H') : Kp H H' fp := fun a _ o h => e a o h
mutual
theorem RO.mono (e : Same F F') : ∀ (o : O) {v : V} {fp : List Addr}, Kp H H' fp → RO K F H o v fp → RO K F' H' o v fp
  | .fz d, _, _, _, ⟨h1, h2⟩ => ⟨h1, R.mono e d h2⟩
  | .lst xs, _, _, k, ⟨a, vs, fq, h1, h2, h3, h4⟩ => by subst h3; exact ⟨a, vs, fq, h1, k.hd h2, rfl, ROs.mono e xs k.tl h4⟩
  | .dic _ kvs, _, _, k, ⟨a, fq, h1, h3, .inl ⟨ks, ht, h2, h4⟩⟩ => by subst h3; exact ⟨a, fq, h1, rfl, .inl ⟨ks, ht, k.hd h2, ROk.mono e kvs k.tl h4⟩⟩
  | .dic _ kvs, _, _, k, ⟨a, fq, h1, h3, .inr ⟨ks, ht, h2, h4⟩⟩ => by subst h3; exact ⟨a, fq, h1, rfl, .inr ⟨ks, ht, k.hd h2, ROt.mono e kvs k.tl h4⟩⟩
  | .ins c fs, _, _, k, ⟨a, dx, us, fq, h1, h2, h3, h4⟩ => by subst h3; exact ⟨a, dx, us, fq, h1, k.hd h2, rfl, ROf.mono e fs k.tl h4⟩
theorem ROs.mono (e : Same F F') : ∀ (o : List O) {v : List V} {fp : List Addr}, Kp H H' fp → ROs K F H o v fp → ROs K F' H' o v fp
  | [], _, _, _, h => h
  | o :: r, _, _, k, ⟨v, w, f1, f2, h1, h2, h3, h4⟩ => by subst h2; exact ⟨v, w, f1, f2, h1, rfl, RO.mono e o k.l h3, ROs.mono e r k.r h4⟩
theorem ROk.mono (e : Same F F') : ∀ (o : List (D × O)) {v : List (Key × V)} {fp : List Addr}, Kp H H' fp → ROk K F H o v fp → ROk K F' H' o v fp
  | [], _, _, _, h => h
  | (q, o) :: r, _, _, k, ⟨q', v, w, f1, f2, h1, h2, h0, h3, h4⟩ => by subst h2; exact ⟨q', v, w, f1, f2, h1, rfl, h0, RO.mono e o k.l h3, ROk.mono e r k.r h4⟩
theorem ROt.mono (e : Same F F') : ∀ (o : List (D × O)) {v : List (List Key × V)} {fp : List Addr}, Kp H H' fp → ROt K F H o v fp → ROt K F' H' o v fp
  | [], _, _, _, h => h
  | (q, o) :: r, _, _, k, ⟨q', v, w, f1, f2, h1, h2, h0, h3, h4⟩ => by subst h2; exact ⟨q', v, w, f1, f2, h1, rfl, h0, RO.mono e o k.l h3, ROt.mono e r k.r h4⟩
theorem ROf.mono (e : Same F F') : ∀ (o : List (Str × O)) {v : List (Str × V)} {fp : List Addr}, Kp H H' fp → ROf K F H o v fp → ROf K F' H' o v fp
  | [], _, _, _, h => h
  | (q, o) :: r, _, _, k, ⟨v, w, f1, f2, h1, h2, h3, h4⟩ => by subst h2; exact ⟨v, w, f1, f2, h1, rfl, RO.mono e o k.l h3, ROf.mono e r k.r h4⟩
end
/-- what is owned stands in the heap -/
def Mu : HO → Bool
  | .tup _ => false
  | .frz _ _ => false
  | _ => true
def In (H : Hp) (fp : List Addr) : Prop := ∀ a ∈ fp, ∃ o, H a = some o ∧ Mu o = true
theorem In.app {f1 f2 : List Addr} (a : In H f1) (b : In H f2) : In H (f1 ++ f2) := fun x h => (List.mem_append.mp h).elim (a x) (b x)
theorem In.cons {a : Addr} {f : List Addr} {o : HO} (h : H a = some o) (b : In H f) (m : Mu o = true := by rfl) : In H (a :: f) := fun x h' => by
  rcases List.mem_cons.mp h' with rfl | h'
  · exact ⟨o, h, m⟩
  · exact b x h'
theorem In.nil : In H [] := fun _ h => nomatch h
mutual
theorem RO.inn : ∀ (o : O) {v : V} {fp : List Addr}, RO K F H o v fp → In H fp
  | .fz d, _, _, ⟨h1, h2⟩ => by subst h1; exact In.nil
  | .lst xs, _, _, ⟨a, vs, fq, h1, h2, h3, h4⟩ => by subst h3; exact In.cons h2 (ROs.inn xs h4)
  | .dic _ kvs, _, _, ⟨a, fq, h1, h3, .inl ⟨ks, ht, h2, h4⟩⟩ => by subst h3; exact In.cons h2 (ROk.inn kvs h4)
  | .dic _ kvs, _, _, ⟨a, fq, h1, h3, .inr ⟨ks, ht, h2, h4⟩⟩ => by subst h3; exact In.cons h2 (ROt.inn kvs h4)
  | .ins c fs, _, _, ⟨a, dx, us, fq, h1, h2, h3, h4⟩ => by subst h3; exact In.cons h2 (ROf.inn fs h4)
theorem ROs.inn : ∀ (o : List O) {v : List V} {fp : List Addr}, ROs K F H o v fp → In H fp
  | [], _, _, h => by rw [h.2]; exact In.nil
  | o :: r, _, _, ⟨v, w, f1, f2, h1, h2, h3, h4⟩ => by subst h2; exact (RO.inn o h3).app (ROs.inn r h4)
theorem ROk.inn : ∀ (o : List (D × O)) {v : List (Key × V)} {fp : List Addr}, ROk K F H o v fp → In H fp
  | [], _, _, h => by rw [h.2]; exact In.nil
  | (q, o) :: r, _, _, ⟨q', v, w, f1, f2, h1, h2, h0, h3, h4⟩ => by subst h2; exact (RO.inn o h3).app (ROk.inn r h4)
theorem ROt.inn : ∀ (o : List (D × O)) {v : List (List Key × V)} {fp : List Addr}, ROt K F H o v fp → In H fp
  | [], _, _, h => by rw [h.2]; exact In.nil
  | (q, o) :: r, _, _, ⟨q', v, w, f1, f2, h1, h2, h0, h3, h4⟩ => by subst h2; exact (RO.inn o h3).app (ROt.inn r h4)
theorem ROf.inn : ∀ (o : List (Str × O)) {v : List (Str × V)} {fp : List Addr}, ROf K F H o v fp → In H fp
  | [], _, _, h => by rw [h.2]; exact In.nil
  | (q, o) :: r, _, _, ⟨v, w, f1, f2, h1, h2, h3, h4⟩ => by subst h2; exact (RO.inn o h3).app (ROf.inn r h4)
end
/-- freezing: F and what stands at fp -/
def frzH (F H : Hp) (fp : List Addr) : Hp := fun a => if a ∈ fp then H a else F a
theorem frzH_in {fp : List Addr} {a : Addr} (h : a ∈ fp) : frzH F H fp a = H a := if_pos h
theorem frzH_out {fp : List Addr} {a : Addr} (h : a ∉ fp) : frzH F H fp a = F a := if_neg h
theorem frzH_ff {fp : List Addr} (nf : ∀ a ∈ fp, F a = none) : Same F (frzH F H fp) := fun a o e => by
  rw [frzH_out fun h => by rw [nf a h] at e; cases e]; exact e
theorem frzH_fh {fp : List Addr} (e : Same F H) : Same (frzH F H fp) H := fun a o q => by
  by_cases h : a ∈ fp
  · rw [frzH_in h] at q; exact q
  · rw [frzH_out h] at q; exact e _ _ q
/-- G holds what H holds at fp -/
def Hd (H G : Hp) (fp : List Addr) : Prop := ∀ a ∈ fp, G a = H a
theorem Hd.l {G : Hp} {f1 f2 : List Addr} (k : Hd H G (f1 ++ f2)) : Hd H G f1 := fun a h => k a (List.mem_append_left _ h)
theorem Hd.r {G : Hp} {f1 f2 : List Addr} (k : Hd H G (f1 ++ f2)) : Hd H G f2 := fun a h => k a (List.mem_append_right _ h)
theorem Hd.hd {G : Hp} {a : Addr} {f : List Addr} (k : Hd H G (a :: f)) {o : HO} (h : H a = some o) : G a = some o := (k a (List.mem_cons_self ..)).trans h
theorem Hd.tl {G : Hp} {a : Addr} {f : List Addr} (k : Hd H G (a :: f)) : Hd H G f := fun b h => k b (List.mem_cons_of_mem _ h)
mutual
theorem RO.frz {G : Hp} (e : Same F G) : ∀ (o : O) {v : V} {fp : List Addr}, Hd H G fp → RO K F H o v fp → R K G o.fr v
  | .fz d, _, _, _, ⟨h1, h2⟩ => R.mono e d h2
  | .lst xs, _, _, k, ⟨a, vs, fq, h1, h2, h3, h4⟩ => by subst h3; exact ⟨a, vs, h1, .inl (.inl (k.hd h2)), ROs.frz e xs k.tl h4⟩
  | .dic _ kvs, _, _, k, ⟨a, fq, h1, h3, .inl ⟨ks, ht, h2, h4⟩⟩ => by subst h3; exact ⟨a, h1, .inl ⟨ks, ht, k.hd h2, ROk.frz e kvs k.tl h4⟩⟩
  | .dic _ kvs, _, _, k, ⟨a, fq, h1, h3, .inr ⟨ks, ht, h2, h4⟩⟩ => by subst h3; exact ⟨a, h1, .inr ⟨ks, ht, k.hd h2, ROt.frz e kvs k.tl h4⟩⟩
  | .ins c fs, _, _, k, ⟨a, dx, us, fq, h1, h2, h3, h4⟩ => by subst h3; exact ⟨a, dx, us, h1, k.hd h2, ROf.frz e fs k.tl h4⟩
theorem ROs.frz {G : Hp} (e : Same F G) : ∀ (o : List O) {v : List V} {fp : List Addr}, Hd H G fp → ROs K F H o v fp → Rs K G (O.frs o) v
  | [], _, _, _, h => h.1
  | o :: r, _, _, k, ⟨v, w, f1, f2, h1, h2, h3, h4⟩ => by subst h2; exact ⟨v, w, h1, RO.frz e o k.l h3, ROs.frz e r k.r h4⟩
theorem ROk.frz {G : Hp} (e : Same F G) : ∀ (o : List (D × O)) {v : List (Key × V)} {fp : List Addr}, Hd H G fp → ROk K F H o v fp → Rk K G (O.frk o) v
  | [], _, _, _, h => h.1
  | (q, o) :: r, _, _, k, ⟨q', v, w, f1, f2, h1, h2, h0, h3, h4⟩ => by subst h2; exact ⟨q', v, w, h1, h0, RO.frz e o k.l h3, ROk.frz e r k.r h4⟩
theorem ROt.frz {G : Hp} (e : Same F G) : ∀ (o : List (D × O)) {v : List (List Key × V)} {fp : List Addr}, Hd H G fp → ROt K F H o v fp → Rt K G (O.frk o) v
  | [], _, _, _, h => h.1
  | (q, o) :: r, _, _, k, ⟨q', v, w, f1, f2, h1, h2, h0, h3, h4⟩ => by subst h2; exact ⟨q', v, w, h1, h0, RO.frz e o k.l h3, ROt.frz e r k.r h4⟩
theorem ROf.frz {G : Hp} (e : Same F G) : ∀ (o : List (Str × O)) {v : List (Str × V)} {fp : List Addr}, Hd H G fp → ROf K F H o v fp → Rf K G (O.frf o) v
  | [], _, _, _, h => h.1
  | (q, o) :: r, _, _, k, ⟨v, w, f1, f2, h1, h2, h3, h4⟩ => by subst h2; exact ⟨v, w, h1, RO.frz e o k.l h3, ROf.frz e r k.r h4⟩
end
end

/-! ### slots -/
abbrev Env := List (Option O)
section
variable (K : Fg)
def RE (F H : Hp) : Env → St → List Addr → Prop
  | [], σ, fp => σ = [] ∧ fp = []
  | none :: e, σ, fp => ∃ x r, σ = x :: r ∧ RE F H e r fp
  | some o :: e, σ, fp => ∃ v r f1 f2, σ = some v :: r ∧ fp = f1 ++ f2 ∧ RO K F H o v f1 ∧ RE F H e r f2
/-- the state: F what is frozen, fp what the slots own -/
structure SR (F H : Hp) (fp : List Addr) (env : Env) (σ : St) : Prop where
  fh : Same F H
  nd : fp.Nodup
  nf : ∀ a ∈ fp, F a = none
  re : RE K F H env σ fp
end
/-- from one state to a later one: what neither owns is as it was -/
structure Stp (F H : Hp) (fp : List Addr) (F' H' : Hp) (fp' : List Addr) : Prop where
  ff : Same F F'
  out : ∀ a o, Mu o = true → H a = some o → a ∉ fp → F a = none → H' a = some o ∧ F' a = none ∧ a ∉ fp'
/-- nothing is changed, new things may stand -/
structure Qt (F H F' H' : Hp) : Prop where
  ff : Same F F'
  fh : Same F' H'
  hh : Same H H'
  nf : ∀ a o, Mu o = true → H a = some o → F a = none → F' a = none
section
variable {K : Fg} {F F' F'' H H' H'' : Hp} {fp fp' fp'' : List Addr} {env : Env} {σ : St}
theorem RE.mono (e : Same F F') : ∀ (en : Env) {σ : St} {fp : List Addr}, Kp H H' fp → RE K F H en σ fp → RE K F' H' en σ fp
  | [], _, _, _, h => h
  | none :: en, _, _, k, ⟨x, r, h1, h2⟩ => ⟨x, r, h1, RE.mono e en k h2⟩
  | some o :: en, _, _, k, ⟨v, r, f1, f2, h1, h2, h3, h4⟩ => by subst h2; exact ⟨v, r, f1, f2, h1, rfl, RO.mono e o k.l h3, RE.mono e en k.r h4⟩
theorem RE.inn : ∀ (en : Env) {σ : St} {fp : List Addr}, RE K F H en σ fp → In H fp
  | [], _, _, h => by rw [h.2]; exact In.nil
  | none :: en, _, _, ⟨x, r, h1, h2⟩ => RE.inn en h2
  | some o :: en, _, _, ⟨v, r, f1, f2, h1, h2, h3, h4⟩ => by subst h2; exact (RO.inn o h3).app (RE.inn en h4)
theorem RE.len : ∀ (en : Env) {σ : St} {fp : List Addr}, RE K F H en σ fp → en.length = σ.length
  | [], _, _, h => by rw [h.1]; rfl
  | none :: en, _, _, ⟨x, r, h1, h2⟩ => by rw [h1]; exact congrArg Nat.succ (RE.len en h2)
  | some o :: en, _, _, ⟨v, r, f1, f2, h1, h2, h3, h4⟩ => by rw [h1]; exact congrArg Nat.succ (RE.len en h4)
theorem Qt.refl (e : Same F H) : Qt F H F H := ⟨Same.refl _, e, Same.refl _, fun _ _ _ _ h => h⟩
theorem Qt.trans (a : Qt F H F' H') (b : Qt F' H' F'' H'') : Qt F H F'' H'' :=
  ⟨a.ff.trans b.ff, b.fh, a.hh.trans b.hh, fun x o m h n => b.nf x o m (a.hh x o h) (a.nf x o m h n)⟩
theorem Qt.stp (a : Qt F H F' H') (h : In H fp) (nf : ∀ a ∈ fp, F a = none) : Stp F H fp F' H' fp :=
  ⟨a.ff, fun x o m e n z => ⟨a.hh x o e, a.nf x o m e z, n⟩⟩
theorem Stp.refl : Stp F H fp F H fp := ⟨Same.refl _, fun _ _ _ e n z => ⟨e, z, n⟩⟩
theorem Stp.trans (a : Stp F H fp F' H' fp') (b : Stp F' H' fp' F'' H'' fp'') : Stp F H fp F'' H'' fp'' :=
  ⟨a.ff.trans b.ff, fun x o m e n z => let ⟨e1, z1, n1⟩ := a.out x o m e n z; b.out x o m e1 n1 z1⟩
theorem SR.qt (s : SR K F H fp env σ) (q : Qt F H F' H') : SR K F' H' fp env σ :=
  ⟨q.fh, s.nd, fun a h => let ⟨o, e, m⟩ := RE.inn env s.re a h; q.nf a o m e (s.nf a h), RE.mono q.ff env (Same.kp q.hh) s.re⟩
theorem SR.stp (s : SR K F H fp env σ) (q : Qt F H F' H') : Stp F H fp F' H' fp := q.stp (RE.inn env s.re) s.nf
/-- a value held apart from what changed -/
theorem Stp.held (a : Stp F H fp F' H' fp') {fv : List Addr} (hi : In H fv) (nf : ∀ a ∈ fv, F a = none) (nd : ∀ a ∈ fv, a ∉ fp) : Kp H H' fv ∧ (∀ a ∈ fv, F' a = none) ∧ ∀ a ∈ fv, a ∉ fp' :=
  ⟨fun x h o e => let ⟨o', e', m⟩ := hi x h; by rw [e] at e'; cases e'; exact (a.out x o m e (nd x h) (nf x h)).1, fun x h => let ⟨o, e, m⟩ := hi x h; (a.out x o m e (nd x h) (nf x h)).2.1, fun x h => let ⟨o, e, m⟩ := hi x h; (a.out x o m e (nd x h) (nf x h)).2.2⟩
/-- a new frozen object -/
theorem Qt.new {p : Addr} {o : HO} (e : Same F H) (hp : H p = none) : Qt F H (upd F p o) (upd H p o) := by
  have fp0 : F p = none := e.free hp
  refine ⟨fun b u q => ?_, fun b u q => ?_, fun b u q => ?_, fun b u _ q n => ?_⟩
  · rw [upd_ne (ne_of_none q fp0)]; exact q
  · by_cases h : b = p
    · subst h; rw [upd_same] at q ⊢; exact q
    · rw [upd_ne h] at q ⊢; exact e _ _ q
  · rw [upd_ne (ne_of_none q hp)]; exact q
  · rw [upd_ne (ne_of_none q hp)]; exact n
end
end Dv

-- Dv1
set_option maxHeartbeats 4000000
namespace Dv
open PySem PySem.Spec L2
/-! ### lists of addresses -/
theorem nd_mid {a b c : List Addr} : (a ++ b ++ c).Nodup ↔ ((a ++ c) ++ b).Nodup := by
  refine List.Perm.nodup_iff ?_
  rw [List.append_assoc, List.append_assoc]
  exact List.Perm.append_left a List.perm_append_comm
theorem nd_app {a b : List Addr} : (a ++ b).Nodup ↔ a.Nodup ∧ b.Nodup ∧ ∀ x ∈ b, x ∉ a := by
  rw [List.nodup_append]
  exact ⟨fun ⟨h1, h2, h3⟩ => ⟨h1, h2, fun x hb ha => h3 x ha x hb rfl⟩, fun ⟨h1, h2, h3⟩ => ⟨h1, h2, fun x ha y hb e => h3 y hb (e ▸ ha)⟩⟩
theorem mem_mid {a b c : List Addr} {x : Addr} : x ∈ a ++ b ++ c ↔ x ∈ a ++ c ∨ x ∈ b := by
  simp only [List.mem_append]; constructor
  · rintro ((h | h) | h)
    · exact .inl (.inl h)
    · exact .inr h
    · exact .inl (.inr h)
  · rintro ((h | h) | h)
    · exact .inl (.inl h)
    · exact .inr h
    · exact .inl (.inr h)
section
variable {K : Fg} {F F' H H' : Hp} {fp fp' : List Addr} {env : Env} {σ : L2.St}
/-- a slot, as a lens -/
theorem RE.lens : ∀ {env : Env} {σ : L2.St} {fp : List Addr} {i : Nat} {o : O}, RE K F H env σ fp → env[i]? = some (some o) → ∃ v f1 f2 f3, fp = f1 ++ f2 ++ f3 ∧ σ[i]? = some (some v) ∧ RO K F H o v f2 ∧
    ∀ F' H' o' f2', Same F F' → Kp H H' (f1 ++ f3) → RO K F' H' o' v f2' → RE K F' H' (env.set i (some o')) σ (f1 ++ f2' ++ f3)
  | [], _, _, _, _, _, e => by simp at e
  | none :: en, _, _, 0, _, _, e => by simp at e
  | none :: en, _, _, i + 1, o, ⟨x, r, h1, h2⟩, e => by
    obtain ⟨v, f1, f2, f3, e1, e2, e3, e4⟩ := RE.lens (i := i) h2 (by simpa using e)
    subst h1
    exact ⟨v, f1, f2, f3, e1, by simpa using e2, e3, fun F' H' o' f2' a b c => ⟨x, r, rfl, e4 F' H' o' f2' a b c⟩⟩
  | some p :: en, _, _, 0, o, ⟨v, r, g1, g2, h1, h2, h3, h4⟩, e => by
    simp at e; subst e; subst h1; subst h2
    exact ⟨v, [], g1, g2, rfl, rfl, h3, fun F' H' o' f2' a b c => ⟨v, r, f2', g2, rfl, rfl, c, RE.mono a en b h4⟩⟩
  | some p :: en, _, _, i + 1, o, ⟨v, r, g1, g2, h1, h2, h3, h4⟩, e => by
    obtain ⟨w, f1, f2, f3, e1, e2, e3, e4⟩ := RE.lens (i := i) h4 (by simpa using e)
    subst h1; subst h2
    refine ⟨w, g1 ++ f1, f2, f3, by rw [e1]; simp [List.append_assoc], by simpa using e2, e3, fun F' H' o' f2' a b c => ⟨v, r, g1, f1 ++ f2' ++ f3, rfl, by simp [List.append_assoc], RO.mono a p (fun x hx => b x (by simp [hx])) h3, e4 F' H' o' f2' a (fun x hx => b x (by
      simp only [List.mem_append] at hx ⊢; rcases hx with hx | hx
      · exact .inl (.inr hx)
      · exact .inr hx)) c⟩⟩
/-- a slot is stored -/
theorem RE.store : ∀ {env : Env} {σ : L2.St} {fp : List Addr} {i : Nat}, RE K F H env σ fp → i < env.length → ∃ f1 f2 f3, fp = f1 ++ f2 ++ f3 ∧
    ∀ o v fv, RO K F H o v fv → RE K F H (env.set i (some o)) (σ.set i (some v)) (f1 ++ fv ++ f3)
  | [], _, _, _, _, h => by simp at h
  | none :: en, _, _, 0, ⟨x, r, h1, h2⟩, _ => by
    subst h1
    exact ⟨[], [], _, rfl, fun o v fv h => ⟨v, r, fv, _, rfl, rfl, h, h2⟩⟩
  | none :: en, _, _, i + 1, ⟨x, r, h1, h2⟩, l => by
    obtain ⟨f1, f2, f3, e1, e2⟩ := RE.store (i := i) h2 (by simpa using l)
    subst h1
    exact ⟨f1, f2, f3, e1, fun o v fv h => ⟨x, _, rfl, e2 o v fv h⟩⟩
  | some p :: en, _, _, 0, ⟨v, r, g1, g2, h1, h2, h3, h4⟩, _ => by
    subst h1; subst h2
    exact ⟨[], g1, g2, rfl, fun o v fv h => ⟨v, r, fv, g2, rfl, rfl, h, h4⟩⟩
  | some p :: en, _, _, i + 1, ⟨v, r, g1, g2, h1, h2, h3, h4⟩, l => by
    obtain ⟨f1, f2, f3, e1, e2⟩ := RE.store (i := i) h4 (by simpa using l)
    subst h1; subst h2
    exact ⟨g1 ++ f1, f2, f3, by rw [e1]; simp [List.append_assoc], fun o w fv h => ⟨v, _, g1, f1 ++ fv ++ f3, rfl, by simp [List.append_assoc], h3, e2 o w fv h⟩⟩
/-- a slot is forgotten -/
theorem RE.drop : ∀ {env : Env} {σ : L2.St} {fp : List Addr} {i : Nat}, RE K F H env σ fp → ∃ f1 f2 f3, fp = f1 ++ f2 ++ f3 ∧
    ∀ x, RE K F H (env.set i none) (σ.set i x) (f1 ++ f3)
  | [], _, _, i, h => ⟨[], [], [], by simp [h.2], fun x => by rw [h.1]; exact ⟨rfl, rfl⟩⟩
  | none :: en, _, _, 0, ⟨x, r, h1, h2⟩ => by
    subst h1
    exact ⟨[], [], _, rfl, fun y => ⟨y, r, rfl, h2⟩⟩
  | none :: en, _, _, i + 1, ⟨x, r, h1, h2⟩ => by
    obtain ⟨f1, f2, f3, e1, e2⟩ := RE.drop (i := i) h2
    subst h1
    exact ⟨f1, f2, f3, e1, fun y => ⟨x, _, rfl, e2 y⟩⟩
  | some p :: en, _, _, 0, ⟨v, r, g1, g2, h1, h2, h3, h4⟩ => by
    subst h1; subst h2
    exact ⟨[], g1, g2, rfl, fun y => ⟨y, r, rfl, h4⟩⟩
  | some p :: en, _, _, i + 1, ⟨v, r, g1, g2, h1, h2, h3, h4⟩ => by
    obtain ⟨f1, f2, f3, e1, e2⟩ := RE.drop (i := i) h4
    subst h1; subst h2
    exact ⟨g1 ++ f1, f2, f3, by rw [e1]; simp [List.append_assoc], fun y => ⟨v, _, g1, f1 ++ f3, rfl, by simp [List.append_assoc], h3, e2 y⟩⟩
/-- a slot's value is taken out -/
theorem RE.take : ∀ {env : Env} {σ : L2.St} {fp : List Addr} {i : Nat} {o : O}, RE K F H env σ fp → env[i]? = some (some o) → ∃ v f1 f2 f3, fp = f1 ++ f2 ++ f3 ∧ σ[i]? = some (some v) ∧ RO K F H o v f2 ∧ RE K F H (env.set i none) σ (f1 ++ f3)
  | [], _, _, _, _, _, e => by simp at e
  | none :: en, _, _, 0, _, _, e => by simp at e
  | none :: en, _, _, i + 1, o, ⟨x, r, h1, h2⟩, e => by
    obtain ⟨v, f1, f2, f3, e1, e2, e3, e4⟩ := RE.take (i := i) h2 (by simpa using e)
    subst h1
    exact ⟨v, f1, f2, f3, e1, by simpa using e2, e3, x, r, rfl, e4⟩
  | some p :: en, _, _, 0, o, ⟨v, r, g1, g2, h1, h2, h3, h4⟩, e => by
    simp at e; subst e; subst h1; subst h2
    exact ⟨v, [], g1, g2, rfl, rfl, h3, some v, r, rfl, h4⟩
  | some p :: en, _, _, i + 1, o, ⟨v, r, g1, g2, h1, h2, h3, h4⟩, e => by
    obtain ⟨w, f1, f2, f3, e1, e2, e3, e4⟩ := RE.take (i := i) h4 (by simpa using e)
    subst h1; subst h2
    exact ⟨w, g1 ++ f1, f2, f3, by rw [e1]; simp [List.append_assoc], by simpa using e2, e3, v, r, g1, f1 ++ f3, rfl, by simp [List.append_assoc], h3, e4⟩
/-- a value is held beside the slots -/
structure HV (K : Fg) (F H : Hp) (fp : List Addr) (o : O) (v : V) (fv : List Addr) : Prop where
  ro : RO K F H o v fv
  nd : fv.Nodup
  nf : ∀ a ∈ fv, F a = none
  dj : ∀ a ∈ fv, a ∉ fp
theorem HV.fz {d : D} {v : V} (h : R K F d v) : HV K F H fp (.fz d) v [] := ⟨⟨rfl, h⟩, List.nodup_nil, (fun _ h => nomatch h), (fun _ h => nomatch h)⟩
theorem HV.app {o : O} {v : V} {fv : List Addr} (s : SR K F H fp env σ) (h : HV K F H fp o v fv) : (fp ++ fv).Nodup := nd_app.mpr ⟨s.nd, h.nd, h.dj⟩
/-- it is held on -/
theorem HV.on {o : O} {v : V} {fv : List Addr} (h : HV K F H fp o v fv) (st : Stp F H fp F' H' fp') : HV K F' H' fp' o v fv :=
  let ⟨k1, k2, k3⟩ := st.held (RO.inn o h.ro) h.nf h.dj
  { ro := RO.mono st.ff o k1 h.ro, nd := h.nd, nf := k2, dj := k3 }
theorem HV.qt {o : O} {v : V} {fv : List Addr} (h : HV K F H fp o v fv) (q : Qt F H F' H') : HV K F' H' fp o v fv :=
  ⟨RO.mono q.ff o (Same.kp q.hh) h.ro, h.nd, fun a m => let ⟨u, e, mu⟩ := RO.inn o h.ro a m; q.nf a u mu e (h.nf a m), h.dj⟩
/-- a held value is frozen -/
theorem HV.frz {o : O} {v : V} {fv : List Addr} (s : SR K F H fp env σ) (h : HV K F H fp o v fv) : ∃ F', SR K F' H fp env σ ∧ R K F' o.fr v ∧ Stp F H (fp ++ fv) F' H fp ∧ Same F F' ∧ ∀ a, a ∉ fv → F' a = F a := by
  refine ⟨frzH F H fv, ⟨frzH_fh s.fh, s.nd, fun a m => ?_, RE.mono (frzH_ff h.nf) env (Same.kp (Same.refl H)) s.re⟩, RO.frz (frzH_ff h.nf) o (fun a m => frzH_in m) h.ro, ⟨frzH_ff h.nf, fun a u _ e n z => ?_⟩, frzH_ff h.nf, fun a n => frzH_out n⟩
  · rw [frzH_out fun k => h.dj a k m]; exact s.nf a m
  · have n2 : a ∉ fv := fun k => n (List.mem_append_right _ k)
    exact ⟨e, by rw [frzH_out n2]; exact z, fun k => n (List.mem_append_left _ k)⟩
/-- the slot's own value is frozen where it lies -/
theorem SR.frzSlot {i : Nat} {o : O} (s : SR K F H fp env σ) (e : env[i]? = some (some o)) : ∃ v F' fp', σ[i]? = some (some v) ∧ SR K F' H fp' (env.set i (some (.fz o.fr))) σ ∧ R K F' o.fr v ∧ Stp F H fp F' H fp' := by
  obtain ⟨v, f1, f2, f3, rfl, e2, e3, e4⟩ := RE.lens s.re e
  have nf2 : ∀ a ∈ f2, F a = none := fun a m => s.nf a (mem_mid.mpr (.inr m))
  have nd := nd_app.mp (nd_mid.mp s.nd)
  have r := RO.frz (K := K) (frzH_ff nf2) o (fun a m => frzH_in m) e3
  refine ⟨v, frzH F H f2, f1 ++ f3, e2, ⟨frzH_fh s.fh, nd.1, fun a m => ?_, ?_⟩, r, ⟨frzH_ff nf2, fun a u _ q n z => ?_⟩⟩
  · rw [frzH_out fun k => nd.2.2 a k m]; exact s.nf a (mem_mid.mpr (.inl m))
  · have := e4 (frzH F H f2) H (.fz o.fr) [] (frzH_ff nf2) (Same.kp (Same.refl H)) ⟨rfl, r⟩
    simpa using this
  · have n2 : a ∉ f2 := fun k => n (mem_mid.mpr (.inr k))
    exact ⟨q, by rw [frzH_out n2]; exact z, fun k => n (mem_mid.mpr (.inl k))⟩
/-- storing a held value -/
theorem SR.store {i : Nat} {o : O} {v : V} {fv : List Addr} (s : SR K F H fp env σ) (h : HV K F H fp o v fv) (hi : i < env.length) : ∃ fp', SR K F H fp' (env.set i (some o)) (σ.set i (some v)) ∧ Stp F H (fp ++ fv) F H fp' := by
  obtain ⟨f1, f2, f3, rfl, e⟩ := RE.store s.re hi
  have nd := nd_app.mp (nd_mid.mp s.nd)
  refine ⟨f1 ++ fv ++ f3, ⟨s.fh, nd_mid.mpr (nd_app.mpr ⟨nd.1, h.nd, fun x m k => h.dj x m (mem_mid.mpr (.inl k))⟩), fun a m => ?_, e o v fv h.ro⟩, ⟨Same.refl _, fun a u _ q n z => ⟨q, z, fun k => ?_⟩⟩⟩
  · rcases mem_mid.mp m with m | m
    · exact s.nf a (mem_mid.mpr (.inl m))
    · exact h.nf a m
  · rcases mem_mid.mp k with k | k
    · exact n (List.mem_append_left _ (mem_mid.mpr (.inl k)))
    · exact n (List.mem_append_right _ k)
theorem SR.take {i : Nat} {o : O} (s : SR K F H fp env σ) (e : env[i]? = some (some o)) : ∃ v fp' fv, σ[i]? = some (some v) ∧ SR K F H fp' (env.set i none) σ ∧ HV K F H fp' o v fv ∧ Stp F H fp F H (fp' ++ fv) := by
  obtain ⟨v, f1, f2, f3, rfl, e2, ro, re⟩ := RE.take s.re e
  have nd := nd_app.mp (nd_mid.mp s.nd)
  refine ⟨v, f1 ++ f3, f2, e2, ⟨s.fh, nd.1, fun a m => s.nf a (mem_mid.mpr (.inl m)), re⟩, ⟨ro, nd.2.1, fun a m => s.nf a (mem_mid.mpr (.inr m)), nd.2.2⟩, ⟨Same.refl _, fun a u _ q n z => ⟨q, z, fun k => n (mem_mid.mpr (List.mem_append.mp k))⟩⟩⟩
theorem SR.forget {i : Nat} (s : SR K F H fp env σ) (x : Option V) : ∃ fp', SR K F H fp' (env.set i none) (σ.set i x) ∧ Stp F H fp F H fp' := by
  obtain ⟨f1, f2, f3, rfl, e⟩ := RE.drop (i := i) s.re
  have nd := nd_app.mp (nd_mid.mp s.nd)
  exact ⟨f1 ++ f3, ⟨s.fh, nd.1, fun a m => s.nf a (mem_mid.mpr (.inl m)), e x⟩, ⟨Same.refl _, fun a u _ q n z => ⟨q, z, fun k => n (mem_mid.mpr (.inl k))⟩⟩⟩
end

/-! ### what a piece of code computes -/
inductive Rz (α : Type) where
  | ok (a : α) | ex (c : Str) (fs : List (Str × D))
inductive Fl where
  | nx | bk | ct | rt (o : O) | ex (c : Str) (fs : List (Str × D))
abbrev PM := Env → Option O
abbrev EM := Env → Option (Rz O × Env)
abbrev TM := Env → Option (Rz Bool × Env)
abbrev AM := Env → Option (Rz (List O) × Env)
abbrev SM := Env → Option (Fl × Env)
def bindR {α β : Type} (m : Option (Rz α × Env)) (k : α → Env → Option (Rz β × Env)) : Option (Rz β × Env) := match m with
  | some (.ok o, e) => k o e
  | some (.ex c fs, e) => some (.ex c fs, e)
  | none => none
def bindS {α : Type} (m : Option (Rz α × Env)) (k : α → Env → Option (Fl × Env)) : Option (Fl × Env) := match m with
  | some (.ok o, e) => k o e
  | some (.ex c fs, e) => some (.ex c fs, e)
  | none => none
@[simp] theorem bindR_ok {α β : Type} {o : α} {e : Env} {k : α → Env → Option (Rz β × Env)} : bindR (some (.ok o, e)) k = k o e := rfl
@[simp] theorem bindR_ex {α β : Type} {c fs} {e : Env} {k : α → Env → Option (Rz β × Env)} : bindR (some (.ex c fs, e)) k = some (.ex c fs, e) := rfl
@[simp] theorem bindS_ok {α : Type} {o : α} {e : Env} {k : α → Env → Option (Fl × Env)} : bindS (some (.ok o, e)) k = k o e := rfl
@[simp] theorem bindS_ex {α : Type} {c fs} {e : Env} {k : α → Env → Option (Fl × Env)} : bindS (some (.ex c fs, e)) k = some (.ex c fs, e) := rfl
theorem bindR_some {α β : Type} {m : Option (Rz α × Env)} {k : α → Env → Option (Rz β × Env)} {r} (h : bindR m k = some r) : (∃ o e, m = some (.ok o, e) ∧ k o e = some r) ∨ ∃ c fs e, m = some (.ex c fs, e) ∧ r = (.ex c fs, e) := by
  rcases m with _ | ⟨r1, e⟩
  · cases h
  · cases r1 with
    | ok o => exact .inl ⟨o, e, rfl, h⟩
    | ex c fs => exact .inr ⟨c, fs, e, rfl, (Option.some.inj h).symm⟩
theorem bindS_some {α : Type} {m : Option (Rz α × Env)} {k : α → Env → Option (Fl × Env)} {r} (h : bindS m k = some r) : (∃ o e, m = some (.ok o, e) ∧ k o e = some r) ∨ ∃ c fs e, m = some (.ex c fs, e) ∧ r = (.ex c fs, e) := by
  rcases m with _ | ⟨r1, e⟩
  · cases h
  · cases r1 with
    | ok o => exact .inl ⟨o, e, rfl, h⟩
    | ex c fs => exact .inr ⟨c, fs, e, rfl, (Option.some.inj h).symm⟩
/-- the protected slots stay -/
def Kpr (pr : Nat → Bool) (σ σ' : L2.St) : Prop := σ'.length = σ.length ∧ ∀ i, pr i = true → σ'[i]? = σ[i]?
theorem Kpr.refl {pr : Nat → Bool} {σ : L2.St} : Kpr pr σ σ := ⟨rfl, fun _ _ => rfl⟩
theorem Kpr.trans {pr : Nat → Bool} {a b c : L2.St} (h : Kpr pr a b) (k : Kpr pr b c) : Kpr pr a c := ⟨k.1.trans h.1, fun i e => (k.2 i e).trans (h.2 i e)⟩
theorem Kpr.set {pr : Nat → Bool} {σ : L2.St} {i : Nat} {x : Option V} (h : pr i = false) : Kpr pr σ (σ.set i x) := ⟨List.length_set, fun j e => by
  refine List.getElem?_set_ne fun q => ?_
  rw [q] at h; rw [h] at e; cases e⟩
section
variable (K : Fg)
/-- quiet: a value that may be read -/
def dP (p : PM) : TE := fun σ H Q => ∃ F fp env o, SR K F H fp env σ ∧ p env = some o ∧ ∀ v F' H' fv, Qt F H F' H' → RO K F' H' o v fv → Q v H'
/-- what an exception leaves -/
def exW (W : WX) (F H : Hp) (fp : List Addr) (env' : Env) (σ : L2.St) (c : Str) (fs : List (Str × D)) : Prop :=
  ∀ d F' H' fp' us, SR K F' H' fp' env' σ → F' d = some (.xd us) → Rf K F' fs us → Stp F H fp F' H' fp' → W (.ref (He.ga K c)) (some d) σ H'
def dE (W : WX) (m : EM) : TE := fun σ H Q => ∃ F fp env r env', SR K F H fp env σ ∧ m env = some (r, env') ∧ match r with
  | .ok o => ∀ v F' H' fp' fv, SR K F' H' fp' env' σ → HV K F' H' fp' o v fv → Stp F H fp F' H' (fp' ++ fv) → Q v H'
  | .ex c fs => exW K W F H fp env' σ c fs
def dT (W : WX) (m : TM) : TT := fun σ H Q => ∃ F fp env r env', SR K F H fp env σ ∧ m env = some (r, env') ∧ match r with
  | .ok b => ∀ F' H' fp', SR K F' H' fp' env' σ → Stp F H fp F' H' fp' → Q b H'
  | .ex c fs => exW K W F H fp env' σ c fs
/-- values held beside the slots -/
structure HVs (F H : Hp) (fp : List Addr) (os : List O) (vs : List V) (fv : List Addr) : Prop where
  ro : ROs K F H os vs fv
  nd : fv.Nodup
  nf : ∀ a ∈ fv, F a = none
  dj : ∀ a ∈ fv, a ∉ fp
def dA (W : WX) (m : AM) : TA := fun σ H Q => ∃ F fp env r env', SR K F H fp env σ ∧ m env = some (r, env') ∧ match r with
  | .ok os => ∀ vs F' H' fp' fv, SR K F' H' fp' env' σ → HVs K F' H' fp' os vs fv → Stp F H fp F' H' (fp' ++ fv) → Q vs H'
  | .ex c fs => exW K W F H fp env' σ c fs
def dS (W : WX) (pr : Nat → Bool) (m : SM) : TS := fun E σ H => ∃ F fp env fl env', SR K F H fp env σ ∧ m env = some (fl, env') ∧ match fl with
  | .nx => ∀ σ' F' H' fp', SR K F' H' fp' env' σ' → Stp F H fp F' H' fp' → Kpr pr σ σ' → E.nx σ' H'
  | .bk => ∀ σ' F' H' fp', SR K F' H' fp' env' σ' → Stp F H fp F' H' fp' → Kpr pr σ σ' → E.bk σ' H'
  | .ct => ∀ σ' F' H' fp', SR K F' H' fp' env' σ' → Stp F H fp F' H' fp' → Kpr pr σ σ' → E.ct σ' H'
  | .rt o => ∀ v σ' F' H' fp' fv, SR K F' H' fp' env' σ' → HV K F' H' fp' o v fv → Stp F H fp F' H' (fp' ++ fv) → Kpr pr σ σ' → E.rt v H'
  | .ex c fs => ∀ σ' d F' H' fp' us, SR K F' H' fp' env' σ' → F' d = some (.xd us) → Rf K F' fs us → Stp F H fp F' H' fp' → Kpr pr σ σ' → W (.ref (He.ga K c)) (some d) σ' H'
end
section
variable {X : Cx} {e : Expr} {W : WX}
abbrev PV (X : Cx) (e : Expr) (p : PM) : Prop := PE X e (dP X.K p)
abbrev EV (X : Cx) (W : WX) (e : Expr) (m : EM) : Prop := PE X e (dE X.K W m)
abbrev TV (X : Cx) (W : WX) (e : Expr) (m : TM) : Prop := PT X e (dT X.K W m)
abbrev AV (X : Cx) (W : WX) (es : List Expr) (m : AM) : Prop := PA X es (dA X.K W m)
abbrev SV (X : Cx) (W : WX) (pr : Nat → Bool) (st : Stmt) (m : SM) : Prop := PS X st (dS X.K W pr m)
abbrev BV (X : Cx) (W : WX) (pr : Nat → Bool) (st : List Stmt) (m : SM) : Prop := PSs X st (dS X.K W pr m)
theorem pe_imp {t t' : TE} (h : PE X e t) (i : ∀ σ H Q, t' σ H Q → t σ H Q) : PE X e t' := ⟨fun pins s σ H Q I q => h.run pins s σ H Q I (i σ H Q q)⟩
theorem pt_imp {t t' : TT} (h : PT X e t) (i : ∀ σ H Q, t' σ H Q → t σ H Q) : PT X e t' := ⟨fun pins s σ H Q I q => h.run pins s σ H Q I (i σ H Q q)⟩
theorem pw_imp {t t' : TT} (h : PW X e t) (i : ∀ σ H Q, t' σ H Q → t σ H Q) : PW X e t' := ⟨fun wh pins s σ H Q I q => h.run wh pins s σ H Q I (i σ H Q q)⟩
theorem pa_imp {es : List Expr} {t t' : TA} (h : PA X es t) (i : ∀ σ H Q, t' σ H Q → t σ H Q) : PA X es t' := ⟨fun pos pins s σ H Q I q => h.run pos pins s σ H Q I (i σ H Q q)⟩
theorem ps_imp {st : Stmt} {t t' : TS} (h : PS X st t) (i : ∀ E σ H, t' E σ H → t E σ H) : PS X st t' := ⟨fun pins s σ H E I q => h.run pins s σ H E I (i E σ H q)⟩
theorem pss_imp {st : List Stmt} {t t' : TS} (h : PSs X st t) (i : ∀ E σ H, t' E σ H → t E σ H) : PSs X st t' := ⟨fun pins s σ H E I q => h.run pins s σ H E I (i E σ H q)⟩
end
end Dv

-- Dv2
set_option maxHeartbeats 4000000
namespace Dv
open PySem PySem.Spec L2
/-! ### how a reading is run -/
section
variable {K : Fg} {F F' F'' H H' H'' : Hp} {fp fp' fp'' fv : List Addr} {env env' : Env} {σ : L2.St} {W : WX}
theorem Stp.wl (h : Stp F H fp F' H' fp') : Stp F H (fp ++ fv) F' H' fp' := ⟨h.ff, fun a o mu e n z => h.out a o mu e (fun k => n (List.mem_append_left _ k)) z⟩
theorem Stp.wr (h : Stp F H fp F' H' (fp' ++ fv)) : Stp F H fp F' H' fp' := ⟨h.ff, fun a o mu e n z => let ⟨x, y, w⟩ := h.out a o mu e n z; ⟨x, y, fun k => w (List.mem_append_left _ k)⟩⟩
theorem Stp.nl (h : Stp F H fp F' H' fp') : Stp F H fp F' H' (fp' ++ []) := by rw [List.append_nil]; exact h
theorem Stp.qt (h : Stp F H fp F' H' fp') (s : SR K F' H' fp' env σ) (q : Qt F' H' F'' H'') : Stp F H fp F'' H'' fp' := h.trans (s.stp q)
theorem exW.on {c fs} (h : exW K W F H fp env σ c fs) (st : Stp F H fp F' H' (fp' ++ fv)) : exW K W F' H' fp' env σ c fs :=
  fun d G H1 f us a b r s => h d G H1 f us a b r (st.wr.trans s)
theorem exW.qt {c fs} (h : exW K W F H fp env σ c fs) (st : Stp F H fp F' H' fp') : exW K W F' H' fp' env σ c fs :=
  fun d G H1 f us a b r s => h d G H1 f us a b r (st.trans s)
theorem RO.rd {o : O} {v : V} (e : Same F H) (h : RO K F H o v fv) : R K H o.fr v := RO.frz e o (fun _ _ => rfl) h
theorem ROs.rd {o : List O} {v : List V} (e : Same F H) (h : ROs K F H o v fv) : Rs K H (O.frs o) v := ROs.frz e o (fun _ _ => rfl) h
theorem RE.get {i : Nat} {o : O} (h : RE K F H env σ fp) (e : env[i]? = some (some o)) : ∃ v fv, σ[i]? = some (some v) ∧ RO K F H o v fv :=
  let ⟨v, _, f2, _, _, a, b, _⟩ := RE.lens h e; ⟨v, f2, a, b⟩
end
section
variable {X : Cx} {W : WX} {a b c e : Expr} {pos : Pos}
/-- run a quiet reading -/
theorem dP_run {K : Fg} {p : PM} {F H : Hp} {fp env σ o} {Q : VK} (s : SR K F H fp env σ) (h : p env = some o) (hk : ∀ v F' H' fv, Qt F H F' H' → RO K F' H' o v fv → Q v H') : dP K p σ H Q := ⟨F, fp, env, o, s, h, hk⟩
/-- run an effectful reading whose answer is bound -/
theorem dE_run {K : Fg} {β : Type} {m : EM} {k : O → Env → Option (Rz β × Env)} {F H : Hp} {fp env σ} {r : Rz β × Env} {Q : VK} (s : SR K F H fp env σ) (h : bindR (m env) k = some r) (hx : ∀ c fs e, r = (.ex c fs, e) → exW K W F H fp e σ c fs)
    (hk : ∀ o e1 v F' H' fp' fv, SR K F' H' fp' e1 σ → HV K F' H' fp' o v fv → Stp F H fp F' H' (fp' ++ fv) → (∀ c fs e, r = (.ex c fs, e) → exW K W F' H' fp' e σ c fs) → k o e1 = some r → Q v H') : dE K W m σ H Q := by
  rcases bindR_some h with ⟨o, e1, h1, h2⟩ | ⟨c, fs, e1, h1, h2⟩
  · exact ⟨F, fp, env, .ok o, e1, s, h1, fun v F' H' fp' fv s' hv st => hk o e1 v F' H' fp' fv s' hv st (fun c fs e q => (hx c fs e q).on st) h2⟩
  · exact ⟨F, fp, env, .ex c fs, e1, s, h1, hx c fs e1 h2⟩
theorem dE_runS {K : Fg} {m : EM} {k : O → Env → Option (Fl × Env)} {F H : Hp} {fp env σ} {r : Fl × Env} {Q : VK} (s : SR K F H fp env σ) (h : bindS (m env) k = some r) (hx : ∀ c fs e, r = (.ex c fs, e) → exW K W F H fp e σ c fs)
    (hk : ∀ o e1 v F' H' fp' fv, SR K F' H' fp' e1 σ → HV K F' H' fp' o v fv → Stp F H fp F' H' (fp' ++ fv) → (∀ c fs e, r = (.ex c fs, e) → exW K W F' H' fp' e σ c fs) → k o e1 = some r → Q v H') : dE K W m σ H Q := by
  rcases bindS_some h with ⟨o, e1, h1, h2⟩ | ⟨c, fs, e1, h1, h2⟩
  · exact ⟨F, fp, env, .ok o, e1, s, h1, fun v F' H' fp' fv s' hv st => hk o e1 v F' H' fp' fv s' hv st (fun c fs e q => (hx c fs e q).on st) h2⟩
  · exact ⟨F, fp, env, .ex c fs, e1, s, h1, hx c fs e1 h2⟩
theorem dT_runS {K : Fg} {m : TM} {k : Bool → Env → Option (Fl × Env)} {F H : Hp} {fp env σ} {r : Fl × Env} {Q : Bool → Hp → Prop} (s : SR K F H fp env σ) (h : bindS (m env) k = some r) (hx : ∀ c fs e, r = (.ex c fs, e) → exW K W F H fp e σ c fs)
    (hk : ∀ o e1 F' H' fp', SR K F' H' fp' e1 σ → Stp F H fp F' H' fp' → (∀ c fs e, r = (.ex c fs, e) → exW K W F' H' fp' e σ c fs) → k o e1 = some r → Q o H') : dT K W m σ H Q := by
  rcases bindS_some h with ⟨o, e1, h1, h2⟩ | ⟨c, fs, e1, h1, h2⟩
  · exact ⟨F, fp, env, .ok o, e1, s, h1, fun F' H' fp' s' st => hk o e1 F' H' fp' s' st (fun c fs e q => (hx c fs e q).qt st) h2⟩
  · exact ⟨F, fp, env, .ex c fs, e1, s, h1, hx c fs e1 h2⟩
theorem dT_run {K : Fg} {β : Type} {m : TM} {k : Bool → Env → Option (Rz β × Env)} {F H : Hp} {fp env σ} {r : Rz β × Env} {Q : Bool → Hp → Prop} (s : SR K F H fp env σ) (h : bindR (m env) k = some r) (hx : ∀ c fs e, r = (.ex c fs, e) → exW K W F H fp e σ c fs)
    (hk : ∀ o e1 F' H' fp', SR K F' H' fp' e1 σ → Stp F H fp F' H' fp' → (∀ c fs e, r = (.ex c fs, e) → exW K W F' H' fp' e σ c fs) → k o e1 = some r → Q o H') : dT K W m σ H Q := by
  rcases bindR_some h with ⟨o, e1, h1, h2⟩ | ⟨c, fs, e1, h1, h2⟩
  · exact ⟨F, fp, env, .ok o, e1, s, h1, fun F' H' fp' s' st => hk o e1 F' H' fp' s' st (fun c fs e q => (hx c fs e q).qt st) h2⟩
  · exact ⟨F, fp, env, .ex c fs, e1, s, h1, hx c fs e1 h2⟩
theorem dA_run {K : Fg} {β : Type} {m : AM} {k : List O → Env → Option (Rz β × Env)} {F H : Hp} {fp env σ} {r : Rz β × Env} {Q : List V → Hp → Prop} (s : SR K F H fp env σ) (h : bindR (m env) k = some r) (hx : ∀ c fs e, r = (.ex c fs, e) → exW K W F H fp e σ c fs)
    (hk : ∀ o e1 v F' H' fp' fv, SR K F' H' fp' e1 σ → HVs K F' H' fp' o v fv → Stp F H fp F' H' (fp' ++ fv) → (∀ c fs e, r = (.ex c fs, e) → exW K W F' H' fp' e σ c fs) → k o e1 = some r → Q v H') : dA K W m σ H Q := by
  rcases bindR_some h with ⟨o, e1, h1, h2⟩ | ⟨c, fs, e1, h1, h2⟩
  · exact ⟨F, fp, env, .ok o, e1, s, h1, fun v F' H' fp' fv s' hv st => hk o e1 v F' H' fp' fv s' hv st (fun c fs e q => (hx c fs e q).on st) h2⟩
  · exact ⟨F, fp, env, .ex c fs, e1, s, h1, hx c fs e1 h2⟩
/-- the post of an effectful reading, folded up -/
def PE' (K : Fg) (W : WX) (F H : Hp) (fp : List Addr) (σ : L2.St) (r : Rz O × Env) (Q : VK) : Prop := match r with
  | (.ok o, env') => ∀ v F' H' fp' fv, SR K F' H' fp' env' σ → HV K F' H' fp' o v fv → Stp F H fp F' H' (fp' ++ fv) → Q v H'
  | (.ex c fs, env') => exW K W F H fp env' σ c fs
theorem dE_out {K : Fg} {m : EM} {σ : L2.St} {H : Hp} {Q : VK} (h : dE K W m σ H Q) : ∃ F fp env r, SR K F H fp env σ ∧ m env = some r ∧ PE' K W F H fp σ r Q := by
  obtain ⟨F, fp, env, r, env', s, hm, post⟩ := h
  refine ⟨F, fp, env, (r, env'), s, hm, ?_⟩
  cases r with
  | ok o => exact post
  | ex c fs => exact post
theorem dE_in {K : Fg} {m : EM} {σ : L2.St} {F H : Hp} {fp env r} {Q : VK} (s : SR K F H fp env σ) (h : m env = some r) (p : PE' K W F H fp σ r Q) : dE K W m σ H Q := by
  obtain ⟨r, env'⟩ := r
  exact ⟨F, fp, env, r, env', s, h, by cases r with
    | ok o => exact p
    | ex c fs => exact p⟩
theorem PE'.ex {K : Fg} {F H : Hp} {fp σ r} {Q : VK} (p : PE' K W F H fp σ r Q) : ∀ c fs e, r = (.ex c fs, e) → exW K W F H fp e σ c fs := fun c fs e q => by
  subst q; exact p
theorem PE'.ok {K : Fg} {F H : Hp} {fp σ} {o : O} {e : Env} {Q : VK} (p : PE' K W F H fp σ (.ok o, e) Q) {v F' H' fp' fv} (s : SR K F' H' fp' e σ) (h : HV K F' H' fp' o v fv) (st : Stp F H fp F' H' (fp' ++ fv)) : Q v H' := p v F' H' fp' fv s h st
/-- a frozen answer -/
theorem PE'.fz {K : Fg} {F H : Hp} {fp σ} {d : D} {e : Env} {Q : VK} (p : PE' K W F H fp σ (.ok (.fz d), e) Q) {v F' H' fp'} (s : SR K F' H' fp' e σ) (h : R K F' d v) (st : Stp F H fp F' H' fp') : Q v H' := p v F' H' fp' [] s (HV.fz h) st.nl

/-! ### names, constants -/
def pN (i : Nat) : PM := fun env => (env[i]?).join
theorem pv_name (i : Nat) {x : Str} (hN : X.N[i]? = some x := by rfl) (hv : Vis X.env.scope x := by first | exact Or.inl rfl | exact Or.inr (Or.inl rfl) | exact Or.inr (Or.inr rfl)) (hd : (x == ("__debug__" : Str)) = false := by decide)
    (hcd : (x == ("__classdict__" : Str)) = false := by decide) : PV X (.Name x pos) (pN i) := by
  refine pe_imp (pe_var hN hv hd hcd) fun σ H Q h => ?_
  obtain ⟨F, fp, env, o, s, hp, k⟩ := h
  have e : env[i]? = some (some o) := by
    unfold pN at hp
    cases q : env[i]? with
    | none => rw [q] at hp; cases hp
    | some z => rw [q] at hp; exact congrArg some hp
  obtain ⟨v, fv, e2, ro⟩ := s.re.get e
  exact ⟨v, e2, k v F H fv (Qt.refl s.fh) ro⟩
def pC (d : D) : PM := fun _ => some (.fz d)
theorem pv_c {v : V} {d : D} (h : PE X e (tC v)) (r : ∀ F, R X.K F d v) : PV X e (pC d) := by
  refine pe_imp h fun σ H Q h => ?_
  obtain ⟨F, fp, env, o, s, hp, k⟩ := h
  cases hp
  exact k v F H [] (Qt.refl s.fh) ⟨rfl, r F⟩
theorem pv_int {i j} : PV X (.Constant (.int i) j pos) (pC (.int i)) := pv_c pe_int fun _ => rfl
theorem pv_bl {i j} : PV X (.Constant (.bool i) j pos) (pC (.bl i)) := pv_c pe_bl fun _ => rfl
theorem pv_non {j} : PV X (.Constant .none j pos) (pC .non) := pv_c pe_non fun _ => rfl
theorem pv_str {i j} : PV X (.Constant (.str i) j pos) (pC (.str i)) := pv_c pe_str fun _ => rfl
/-- a def or class of the module as a value -/
theorem pv_glo {x : Str} (hg : Gl X x) (hm : X.mg x = some (.ref (He.ga X.K x))) (hd : (x == ("__debug__" : Str)) = false := by decide) : PV X (.Name x pos) (pC (.glo x)) := pv_c (pe_glob (v := .ref (He.ga X.K x)) hg hm rfl hd) fun _ => rfl
/-- a module's int, text -/
theorem pv_gint {x : Str} {i : Int} (hg : Gl X x) (hm : ∃ t, X.mg x = some (.int i t)) (hd : (x == ("__debug__" : Str)) = false := by decide) : PV X (.Name x pos) (pC (.int i)) := by
  obtain ⟨t, hm⟩ := hm
  exact pv_c (pe_glob (v := .int i) hg hm ⟨t, rfl⟩ hd) fun _ => rfl
theorem pv_gstr {x : Str} {i : Str} (hg : Gl X x) (hm : ∃ t, X.mg x = some (.str i t)) (hd : (x == ("__debug__" : Str)) = false := by decide) : PV X (.Name x pos) (pC (.str i)) := by
  obtain ⟨t, hm⟩ := hm
  exact pv_c (pe_glob (v := .str i) hg hm ⟨t, rfl⟩ hd) fun _ => rfl
theorem pv_type {x : Str} {n : String} (hg : Gl X x) (hm : X.mg x = none) (hv : bootBuiltins x = some (.type n)) (hn : x ≠ "__name__" := by decide) (hd : (x == ("__debug__" : Str)) = false := by decide) : PV X (.Name x pos) (pC (.ty n)) :=
  pv_c (pe_bltn (v := .ty n) hg hm hv rfl hn hd) fun _ => rfl
/-- quiet, frozen: as an effectful one -/
def eP (p : PM) : EM := fun env => match p env with
  | some (.fz d) => some (.ok (.fz d), env)
  | _ => none
theorem eP_some {p : PM} {env : Env} {r} (h : eP p env = some r) : ∃ d, p env = some (.fz d) ∧ r = (.ok (.fz d), env) := by
  unfold eP at h
  split at h
  · rename_i d e; exact ⟨d, e, (Option.some.inj h).symm⟩
  · cases h
theorem ev_p {p : PM} (h : PV X e p) : EV X W e (eP p) := by
  refine pe_imp h fun σ H Q h => ?_
  obtain ⟨F, fp, env, r, s, hm, post⟩ := dE_out h
  obtain ⟨d, e1, rfl⟩ := eP_some hm
  exact dP_run s e1 fun v F' H' fv q ro => post.fz (s.qt q) ro.2 (s.stp q)
/-- the own value of a name, frozen as it is handed on -/
def eN (i : Nat) : EM := fun env => match (env[i]?).join with
  | some o => some (.ok (.fz o.fr), env.set i (some (.fz o.fr)))
  | none => none
theorem ev_name (i : Nat) {x : Str} (hN : X.N[i]? = some x := by rfl) (hv : Vis X.env.scope x := by first | exact Or.inl rfl | exact Or.inr (Or.inl rfl) | exact Or.inr (Or.inr rfl)) (hd : (x == ("__debug__" : Str)) = false := by decide)
    (hcd : (x == ("__classdict__" : Str)) = false := by decide) : EV X W (.Name x pos) (eN i) := by
  refine pe_imp (pe_var hN hv hd hcd) fun σ H Q h => ?_
  obtain ⟨F, fp, env, r, s, hm, post⟩ := dE_out h
  unfold eN at hm
  cases q : (env[i]?).join with
  | none => rw [q] at hm; cases hm
  | some o =>
    rw [q] at hm
    cases hm
    have e : env[i]? = some (some o) := by
      cases z : env[i]? with
      | none => rw [z] at q; cases q
      | some y => rw [z] at q; exact congrArg some q
    obtain ⟨v, F', fp', e2, s', r', st⟩ := s.frzSlot e
    exact ⟨v, e2, post.fz s' r' st⟩
/-- .. moved out of a name that is not read again -/
def eMv (i : Nat) : EM := fun env => match (env[i]?).join with
  | some o => some (.ok o, env.set i none)
  | none => none
theorem ev_move (i : Nat) {x : Str} (hN : X.N[i]? = some x := by rfl) (hv : Vis X.env.scope x := by first | exact Or.inl rfl | exact Or.inr (Or.inl rfl) | exact Or.inr (Or.inr rfl)) (hd : (x == ("__debug__" : Str)) = false := by decide)
    (hcd : (x == ("__classdict__" : Str)) = false := by decide) : EV X W (.Name x pos) (eMv i) := by
  refine pe_imp (pe_var hN hv hd hcd) fun σ H Q h => ?_
  obtain ⟨F, fp, env, r, s, hm, post⟩ := dE_out h
  unfold eMv at hm
  cases q : (env[i]?).join with
  | none => rw [q] at hm; cases hm
  | some o =>
    rw [q] at hm
    cases hm
    have e : env[i]? = some (some o) := by
      cases z : env[i]? with
      | none => rw [z] at q; cases q
      | some y => rw [z] at q; exact congrArg some q
    obtain ⟨v, fp', fv, e2, s', hv, st⟩ := s.take e
    exact ⟨v, e2, post.ok s' hv st⟩
end
end Dv

-- Dv3
set_option maxHeartbeats 4000000
namespace Dv
open PySem PySem.Spec L2
/-- the answer of an operation: frozen, nothing changed -/
abbrev Ans (K : Fg) (F H : Hp) (d : D) (Q : VK) : Prop := ∀ v F' H', Qt F H F' H' → R K F' d v → Q v H'
theorem Ans.at {K : Fg} {F H : Hp} {d : D} {Q : VK} (a : Ans K F H d Q) (e : Same F H) {v : V} (r : R K F d v) : Q v H := a v F H (Qt.refl e) r
/-- a new tuple of frozen things -/
theorem Ans.tup {K : Fg} {F H : Hp} {ds : List D} {vs : List V} {Q : VK} (a : Ans K F H (.tup ds) Q) (e : Same F H) (r : Rs K F ds vs) {p : Addr} (hp : H p = none) : Q (.ref p) (upd H p (.tup vs)) :=
  a _ (upd F p (.tup vs)) _ (Qt.new e hp) ⟨p, vs, rfl, upd_same, Rs.mono (Qt.new e hp).ff ds r⟩
theorem Ans.lst {K : Fg} {F H : Hp} {ds : List D} {vs : List V} {Q : VK} (a : Ans K F H (.lst ds) Q) (e : Same F H) (r : Rs K F ds vs) {p : Addr} (hp : H p = none) : Q (.ref p) (upd H p (.lst vs)) :=
  a _ (upd F p (.lst vs)) _ (Qt.new e hp) ⟨p, vs, rfl, .inl (.inl upd_same), Rs.mono (Qt.new e hp).ff ds r⟩
def OpO (K : Fg) (r : R2) (g : O → O → Option D) : Prop := ∀ F H x y v w fx fy d Q, Same F H → RO K F H x v fx → RO K F H y w fy → g x y = some d → Ans K F H d Q → r v w H Q
def UnO (K : Fg) (r : V → Hp → VK → Prop) (g : O → Option D) : Prop := ∀ F H x v fx d Q, Same F H → RO K F H x v fx → g x = some d → Ans K F H d Q → r v H Q
/-- a call of a built-in on values -/
def CaO (K : Fg) (r : List V → Hp → VK → Prop) (g : List O → Option D) : Prop := ∀ F H xs vs fx d Q, Same F H → ROs K F H xs vs fx → g xs = some d → Ans K F H d Q → r vs H Q
section
variable {X : Cx} {W : WX} {a b c e : Expr} {pos : Pos} {r r' : R2} {g g' : O → O → Option D}
theorem OpO.or {K : Fg} (h : OpO K r g) (h' : OpO K r' g') : OpO K (fun x y H Q => r x y H Q ∨ r' x y H Q) (fun x y => (g x y).or (g' x y)) := fun F H x y v w fx fy d Q e a b hd q => by
  have hd : (g x y).or (g' x y) = some d := hd
  cases z : g x y with
  | some u =>
    rw [z] at hd
    exact .inl (h F H x y v w fx fy d Q e a b (by rw [z]; exact hd) q)
  | none =>
    rw [z] at hd
    exact .inr (h' F H x y v w fx fy d Q e a b hd q)
def pOp (g : O → O → Option D) (p q : PM) : PM := fun env => (p env).bind fun x => (q env).bind fun y => (g x y).map .fz
def eOp (g : O → O → Option D) (p q : EM) : EM := fun env => bindR (p env) fun x e1 => bindR (q e1) fun y e2 => (g x y).map fun d => (.ok (.fz d), e2)
/-- two quiet operands -/
theorem two_p {K : Fg} (ho : OpO K r g) {p q : PM} {σ H Q} (h : dP K (pOp g p q) σ H Q) : tOp r (dP K p) (dP K q) σ H Q := by
  obtain ⟨F, fp, env, o, s, hp, k⟩ := h
  unfold pOp at hp
  cases h1 : p env with
  | none => rw [h1] at hp; cases hp
  | some x =>
    rw [h1] at hp
    cases h2 : q env with
    | none => rw [h2] at hp; cases hp
    | some y =>
      rw [h2] at hp
      obtain ⟨d, hd, rfl⟩ := Option.map_eq_some_iff.mp hp
      refine dP_run s h1 fun v F1 H1 f1 q1 r1 => dP_run (s.qt q1) h2 fun w F2 H2 f2 q2 r2 => ?_
      exact ho F2 H2 x y v w f1 f2 d Q q2.fh (RO.mono q2.ff x (Same.kp q2.hh) r1) r2 hd fun u F3 H3 q3 r3 => k u F3 H3 [] ((q1.trans q2).trans q3) ⟨rfl, r3⟩
theorem two_e {K : Fg} (ho : OpO K r g) {p q : EM} {σ H Q} (h : dE K W (eOp g p q) σ H Q) : tOp r (dE K W p) (dE K W q) σ H Q := by
  obtain ⟨F, fp, env, re, s, hm, post⟩ := dE_out h
  refine dE_run s hm post.ex fun x e1 v F1 H1 fp1 f1 s1 h1 st1 ex1 hm1 => dE_run s1 hm1 ex1 fun y e2 w F2 H2 fp2 f2 s2 h2 st2 ex2 hm2 => ?_
  obtain ⟨d, hd, rfl⟩ := Option.map_eq_some_iff.mp hm2
  have hx := (h1.on st2)
  refine ho F2 H2 x y v w f1 f2 d Q s2.fh hx.ro h2.ro hd fun u F3 H3 q3 r3 => post.fz (s2.qt q3) r3 ?_
  exact ((st1.wr.trans st2).wr).qt s2 q3
theorem pv_op {op : Operator} (h : OpR X (binaryOp op) r) (ho : OpO X.K r g) {p q : PM} (ha : PV X a p) (hb : PV X b q) : PV X (.BinOp a op b pos) (pOp g p q) := pe_imp (pe_op h ha hb) fun _ _ _ z => two_p ho z
theorem ev_op {op : Operator} (h : OpR X (binaryOp op) r) (ho : OpO X.K r g) {p q : EM} (ha : EV X W a p) (hb : EV X W b q) : EV X W (.BinOp a op b pos) (eOp g p q) := pe_imp (pe_op h ha hb) fun _ _ _ z => two_e ho z
theorem pv_cmp {op : CmpOp} (h : OpR X (compareOp op) r) (ho : OpO X.K r g) {p q : PM} (ha : PV X a p) (hb : PV X b q) (hm : behindInMarks op b = false) : PV X (.Compare a [op] [b] pos) (pOp g p q) := pe_imp (pe_cmpR h ha hb hm) fun _ _ _ z => two_p ho z
theorem ev_cmp {op : CmpOp} (h : OpR X (compareOp op) r) (ho : OpO X.K r g) {p q : EM} (ha : EV X W a p) (hb : EV X W b q) (hm : behindInMarks op b = false) : EV X W (.Compare a [op] [b] pos) (eOp g p q) := pe_imp (pe_cmpR h ha hb hm) fun _ _ _ z => two_e ho z
/-! ### tests -/
def boolO : O → Option Bool
  | .fz (.bl b) => some b
  | _ => none
/-- a bool as a test -/
def tE (m : EM) : TM := fun env => bindR (m env) fun o e1 => (boolO o).map fun b => (.ok b, e1)
def PT' (K : Fg) (W : WX) (F H : Hp) (fp : List Addr) (σ : L2.St) (r : Rz Bool × Env) (Q : Bool → Hp → Prop) : Prop := match r with
  | (.ok b, env') => ∀ F' H' fp', SR K F' H' fp' env' σ → Stp F H fp F' H' fp' → Q b H'
  | (.ex c fs, env') => exW K W F H fp env' σ c fs
theorem dT_out {K : Fg} {m : TM} {σ : L2.St} {H : Hp} {Q} (h : dT K W m σ H Q) : ∃ F fp env r, SR K F H fp env σ ∧ m env = some r ∧ PT' K W F H fp σ r Q := by
  obtain ⟨F, fp, env, r, env', s, hm, post⟩ := h
  refine ⟨F, fp, env, (r, env'), s, hm, ?_⟩
  cases r with
  | ok o => exact post
  | ex c fs => exact post
theorem dT_in {K : Fg} {m : TM} {σ : L2.St} {F H : Hp} {fp env r} {Q} (s : SR K F H fp env σ) (h : m env = some r) (p : PT' K W F H fp σ r Q) : dT K W m σ H Q := by
  obtain ⟨r, env'⟩ := r
  exact ⟨F, fp, env, r, env', s, h, by cases r with
    | ok o => exact p
    | ex c fs => exact p⟩
theorem PT'.ex {K : Fg} {F H : Hp} {fp σ r} {Q} (p : PT' K W F H fp σ r Q) : ∀ c fs e, r = (.ex c fs, e) → exW K W F H fp e σ c fs := fun c fs e q => by
  subst q; exact p
theorem PT'.ok {K : Fg} {F H : Hp} {fp σ} {b : Bool} {e : Env} {Q} (p : PT' K W F H fp σ (.ok b, e) Q) {F' H' fp'} (s : SR K F' H' fp' e σ) (st : Stp F H fp F' H' fp') : Q b H' := p F' H' fp' s st
theorem boolO_some {o : O} {b : Bool} (h : boolO o = some b) : o = .fz (.bl b) := by
  unfold boolO at h
  split at h
  · cases h; rfl
  · cases h
theorem tE_of {K : Fg} {m : EM} {σ H Q} (h : dT K W (tE m) σ H Q) : dE K W m σ H fun x H1 => ∃ c, x = .bl c ∧ Q c H1 := by
  obtain ⟨F, fp, env, re, s, hm, post⟩ := dT_out h
  refine dE_run s hm post.ex fun x e1 v F1 H1 fp1 f1 s1 h1 st1 ex1 hm1 => ?_
  obtain ⟨b, hb, rfl⟩ := Option.map_eq_some_iff.mp hm1
  have := boolO_some hb
  subst this
  exact ⟨b, h1.ro.2, post.ok s1 st1.wr⟩
theorem tv_val {m : EM} (h : EV X W e m) (he : ∀ whole, isTrue e X.env whole = (do let v ← whole; standAt e.pos; holding [v] (truthy v)) := by intro _; rfl) : TV X W e (tE m) := pt_imp (pt_val h he) fun _ _ _ z => tE_of z
theorem tv_cmp {op : CmpOp} (h : OpR X (compareOp op) r) (ho : OpO X.K r g) {p q : EM} (ha : EV X W a p) (hb : EV X W b q) (hm : behindInMarks op b = false) : TV X W (.Compare a [op] [b] pos) (tE (eOp g p q)) := by
  refine pt_imp (pt_cmpR h ha hb hm) fun σ H Q z => ?_
  exact two_e ho (tE_of z)
def eChain (g g' : O → O → Option D) (p q t : EM) : EM := fun env => bindR (p env) fun x e1 => bindR (q e1) fun y e2 => (g x y).bind fun d => match d with
  | .bl true => bindR (t e2) fun z e3 => (g' y z).map fun d => (.ok (.fz d), e3)
  | .bl false => some (.ok (.fz (.bl false)), e2)
  | _ => none
theorem chain_e {K : Fg} (ho : OpO K r g) (ho' : OpO K r' g') {p q t : EM} {σ H Q} (h : dE K W (eChain g g' p q t) σ H Q) : tChain r r' (dE K W p) (dE K W q) (dE K W t) σ H Q := by
  obtain ⟨F, fp, env, re, s, hm, post⟩ := dE_out h
  refine dE_run s hm post.ex fun x e1 v F1 H1 fp1 f1 s1 h1 st1 ex1 hm1 => dE_run s1 hm1 ex1 fun y e2 w F2 H2 fp2 f2 s2 h2 st2 ex2 hm2 => ?_
  obtain ⟨d, hd, hm3⟩ := Option.bind_eq_some_iff.mp hm2
  have hx := (h1.on st2)
  refine ho F2 H2 x y v w f1 f2 d _ s2.fh hx.ro h2.ro hd fun u F3 H3 q3 r3 => ?_
  have st3 := st1.wr.trans st2
  cases d with
  | bl k =>
    cases k with
    | true =>
      refine ⟨true, r3, ?_⟩
      rw [if_pos rfl]
      have h2' := h2.qt q3
      refine dE_run (s2.qt q3) hm3 (fun c fs e q => (ex2 c fs e q).qt (s2.stp q3)) fun z e3 w2 F4 H4 fp4 f4 s4 h4 st4 ex4 hm4 => ?_
      obtain ⟨d, hd, rfl⟩ := Option.map_eq_some_iff.mp hm4
      refine ho' F4 H4 y z w w2 f2 f4 d Q s4.fh (h2'.on st4).ro h4.ro hd fun u F5 H5 q5 r5 => post.fz (s4.qt q5) r5 ?_
      exact (((st3.wr.qt s2 q3).trans st4).wr).qt s4 q5
    | false =>
      cases hm3
      refine ⟨false, r3, ?_⟩
      rw [if_neg Bool.false_ne_true]
      exact post.fz (s2.qt q3) (d := .bl false) rfl (st3.wr.qt s2 q3)
  | _ => cases hm3
theorem ev_chain {op op' : CmpOp} (h : OpR X (compareOp op) r) (ho : OpO X.K r g) (h' : OpR X (compareOp op') r') (ho' : OpO X.K r' g') {p q t : EM} (ha : EV X W a p) (hb : EV X W b q) (hc : EV X W c t) (hm : lastMarks [op, op'] [b, c] = false := by with_unfolding_all rfl) :
    EV X W (.Compare a [op, op'] [b, c] pos) (eChain g g' p q t) := pe_imp (pe_chain h h' ha hb hc hm) fun _ _ _ z => chain_e ho ho' z
theorem tv_chain {op op' : CmpOp} (h : OpR X (compareOp op) r) (ho : OpO X.K r g) (h' : OpR X (compareOp op') r') (ho' : OpO X.K r' g') {p q t : EM} (ha : EV X W a p) (hb : EV X W b q) (hc : EV X W c t) (hm : lastMarks [op, op'] [b, c] = false := by with_unfolding_all rfl) :
    TV X W (.Compare a [op, op'] [b, c] pos) (tE (eChain g g' p q t)) := pt_imp (pt_chain h h' ha hb hc hm) fun _ _ _ z => chain_e ho ho' (tE_of z)
/-! ### and, or, not -/
def tAnd' (p q : TM) : TM := fun env => bindR (p env) fun b e1 => if b then q e1 else some (.ok false, e1)
def tOr' (p q : TM) : TM := fun env => bindR (p env) fun b e1 => if b then some (.ok true, e1) else q e1
def tNot' (p : TM) : TM := fun env => bindR (p env) fun b e1 => some (.ok (!b), e1)
abbrev WV (X : Cx) (W : WX) (e : Expr) (m : TM) : Prop := PW X e (dT X.K W m)
theorem and_of {K : Fg} {p q : TM} {σ H Q} (h : dT K W (tAnd' p q) σ H Q) : tAnd (dT K W p) (dT K W q) σ H Q := by
  obtain ⟨F, fp, env, re, s, hm, post⟩ := dT_out h
  refine dT_run s hm post.ex fun x e1 F1 H1 fp1 s1 st1 ex1 hm1 => ?_
  cases x with
  | true =>
    rw [if_pos rfl]
    exact dT_in s1 hm1 (by
      obtain ⟨re, e9⟩ := re
      cases re with
      | ok b => exact fun F2 H2 fp2 s2 st2 => post.ok s2 (st1.trans st2)
      | ex c fs => exact ex1 c fs e9 rfl)
  | false =>
    cases hm1
    rw [if_neg Bool.false_ne_true]
    exact post.ok s1 st1
theorem or_of {K : Fg} {p q : TM} {σ H Q} (h : dT K W (tOr' p q) σ H Q) : tOr (dT K W p) (dT K W q) σ H Q := by
  obtain ⟨F, fp, env, re, s, hm, post⟩ := dT_out h
  refine dT_run s hm post.ex fun x e1 F1 H1 fp1 s1 st1 ex1 hm1 => ?_
  cases x with
  | false =>
    rw [if_neg Bool.false_ne_true]
    exact dT_in s1 hm1 (by
      obtain ⟨re, e9⟩ := re
      cases re with
      | ok b => exact fun F2 H2 fp2 s2 st2 => post.ok s2 (st1.trans st2)
      | ex c fs => exact ex1 c fs e9 rfl)
  | true =>
    cases hm1
    rw [if_pos rfl]
    exact post.ok s1 st1
theorem wv_and1 {p : TM} (h : TV X W a p) : WV X W (.BoolOp .And [a] pos) p := pw_and1 h
theorem wv_or1 {p : TM} (h : TV X W a p) : WV X W (.BoolOp .Or [a] pos) p := pw_or1 h
theorem wv_and {rest : List Expr} {p q : TM} (h : TV X W a p) (h' : WV X W (.BoolOp .And (b :: rest) pos) q) : WV X W (.BoolOp .And (a :: b :: rest) pos) (tAnd' p q) := pw_imp (pw_and h h') fun _ _ _ z => and_of z
theorem wv_or {rest : List Expr} {p q : TM} (h : TV X W a p) (h' : WV X W (.BoolOp .Or (b :: rest) pos) q) : WV X W (.BoolOp .Or (a :: b :: rest) pos) (tOr' p q) := pw_imp (pw_or h h') fun _ _ _ z => or_of z
theorem tv_w {p : TM} (h : WV X W a p) : TV X W a p := h.pt
theorem tv_not {p : TM} (h : TV X W a p) : TV X W (.UnaryOp .Not a pos) (tNot' p) := by
  refine pt_imp (pt_not h) fun σ H Q z => ?_
  obtain ⟨F, fp, env, re, s, hm, post⟩ := dT_out z
  refine dT_run s hm post.ex fun x e1 F1 H1 fp1 s1 st1 ex1 hm1 => ?_
  cases hm1
  exact post.ok s1 st1
/-! ### as values -/
def eAnd (p q : EM) : EM := fun env => bindR (p env) fun o e1 => (boolO o).bind fun b => if b then q e1 else some (.ok (.fz (.bl false)), e1)
def eOr (p q : EM) : EM := fun env => bindR (p env) fun o e1 => (boolO o).bind fun b => if b then some (.ok (.fz (.bl true)), e1) else q e1
def eNot (p : EM) : EM := fun env => bindR (p env) fun o e1 => (boolO o).map fun b => (.ok (.fz (.bl (!b))), e1)
theorem PE'.on {K : Fg} {F F' H H' : Hp} {fp fp' fv σ r} {Q : VK} (p : PE' K W F H fp σ r Q) (st : Stp F H fp F' H' (fp' ++ fv)) : PE' K W F' H' fp' σ r Q := by
  obtain ⟨r, e⟩ := r
  cases r with
  | ok o => exact fun v F2 H2 fp2 f2 s h st2 => p.ok s h (st.wr.trans st2)
  | ex c fs => exact (p.ex c fs e rfl).on st
theorem ev_and {rest : List Expr} {p q : EM} (h : EV X W a p) (h' : EV X W (.BoolOp .And (b :: rest) pos) q) : EV X W (.BoolOp .And (a :: b :: rest) pos) (eAnd p q) := by
  refine pe_imp (pe_and h h') fun σ H Q z => ?_
  obtain ⟨F, fp, env, re, s, hm, post⟩ := dE_out z
  refine dE_run s hm post.ex fun x e1 v F1 H1 fp1 f1 s1 h1 st1 ex1 hm1 => ?_
  obtain ⟨k, hk, hm2⟩ := Option.bind_eq_some_iff.mp hm1
  have := boolO_some hk
  subst this
  refine ⟨k, h1.ro.2, ?_⟩
  cases k with
  | true =>
    rw [if_pos rfl]
    exact dE_in s1 hm2 (post.on st1)
  | false =>
    cases hm2
    rw [if_neg Bool.false_ne_true]
    exact post.fz s1 (d := .bl false) rfl st1.wr
theorem ev_or {rest : List Expr} {p q : EM} (h : EV X W a p) (h' : EV X W (.BoolOp .Or (b :: rest) pos) q) : EV X W (.BoolOp .Or (a :: b :: rest) pos) (eOr p q) := by
  refine pe_imp (pe_or h h') fun σ H Q z => ?_
  obtain ⟨F, fp, env, re, s, hm, post⟩ := dE_out z
  refine dE_run s hm post.ex fun x e1 v F1 H1 fp1 f1 s1 h1 st1 ex1 hm1 => ?_
  obtain ⟨k, hk, hm2⟩ := Option.bind_eq_some_iff.mp hm1
  have := boolO_some hk
  subst this
  refine ⟨k, h1.ro.2, ?_⟩
  cases k with
  | false =>
    rw [if_neg Bool.false_ne_true]
    exact dE_in s1 hm2 (post.on st1)
  | true =>
    cases hm2
    rw [if_pos rfl]
    exact post.fz s1 (d := .bl true) rfl st1.wr
theorem ev_one {op} {p : EM} (h : EV X W a p) : EV X W (.BoolOp op [a] pos) p := pe_one h
theorem ev_not {p : EM} (h : EV X W a p) : EV X W (.UnaryOp .Not a pos) (eNot p) := by
  refine pe_imp (pe_not h) fun σ H Q z => ?_
  obtain ⟨F, fp, env, re, s, hm, post⟩ := dE_out z
  refine dE_run s hm post.ex fun x e1 v F1 H1 fp1 f1 s1 h1 st1 ex1 hm1 => ?_
  obtain ⟨k, hk, rfl⟩ := Option.map_eq_some_iff.mp hm1
  have := boolO_some hk
  subst this
  exact ⟨k, h1.ro.2, post.fz s1 (d := .bl (!k)) rfl st1.wr⟩
def eIf (t : TM) (p q : EM) : EM := fun env => bindR (t env) fun b e1 => if b then p e1 else q e1
theorem ev_if {t : TM} {p q : EM} (h : TV X W c t) (ha : EV X W a p) (hb : EV X W b q) : EV X W (.IfExp c a b pos) (eIf t p q) := by
  refine pe_imp (pe_ifExp h ha hb) fun σ H Q z => ?_
  obtain ⟨F, fp, env, re, s, hm, post⟩ := dE_out z
  refine dT_run s hm post.ex fun x e1 F1 H1 fp1 s1 st1 ex1 hm1 => ?_
  have st1' := st1.nl
  cases x with
  | true =>
    rw [if_pos rfl]
    exact dE_in s1 hm1 (post.on st1')
  | false =>
    rw [if_neg Bool.false_ne_true]
    exact dE_in s1 hm1 (post.on st1')
/-! ### one-place operators -/
def pUn (g : O → Option D) (p : PM) : PM := fun env => (p env).bind fun x => (g x).map .fz
def eUn (g : O → Option D) (p : EM) : EM := fun env => bindR (p env) fun x e1 => (g x).map fun d => (.ok (.fz d), e1)
theorem one_p {K : Fg} {r : V → Hp → VK → Prop} {g : O → Option D} (ho : UnO K r g) {p : PM} {σ H Q} (h : dP K (pUn g p) σ H Q) : dP K p σ H fun x H1 => r x H1 Q := by
  obtain ⟨F, fp, env, o, s, hp, k⟩ := h
  unfold pUn at hp
  cases h1 : p env with
  | none => rw [h1] at hp; cases hp
  | some x =>
    rw [h1] at hp
    obtain ⟨d, hd, rfl⟩ := Option.map_eq_some_iff.mp hp
    refine dP_run s h1 fun v F1 H1 f1 q1 r1 => ?_
    exact ho F1 H1 x v f1 d Q q1.fh r1 hd fun u F3 H3 q3 r3 => k u F3 H3 [] (q1.trans q3) ⟨rfl, r3⟩
theorem one_e {K : Fg} {r : V → Hp → VK → Prop} {g : O → Option D} (ho : UnO K r g) {p : EM} {σ H Q} (h : dE K W (eUn g p) σ H Q) : dE K W p σ H fun x H1 => r x H1 Q := by
  obtain ⟨F, fp, env, re, s, hm, post⟩ := dE_out h
  refine dE_run s hm post.ex fun x e1 v F1 H1 fp1 f1 s1 h1 st1 ex1 hm1 => ?_
  obtain ⟨d, hd, rfl⟩ := Option.map_eq_some_iff.mp hm1
  exact ho F1 H1 x v f1 d Q s1.fh h1.ro hd fun u F3 H3 q3 r3 => post.fz (s1.qt q3) r3 (st1.wr.qt s1 q3)
theorem pv_un {op : UnaryOp} {r : V → Hp → VK → Prop} {g : O → Option D} (h : UnR X (unaryOp op) r) (ho : UnO X.K r g) {p : PM} (ha : PV X a p) : PV X (.UnaryOp op a pos) (pUn g p) := pe_imp (pe_un h ha) fun _ _ _ z => one_p ho z
theorem ev_un {op : UnaryOp} {r : V → Hp → VK → Prop} {g : O → Option D} (h : UnR X (unaryOp op) r) (ho : UnO X.K r g) {p : EM} (ha : EV X W a p) : EV X W (.UnaryOp op a pos) (eUn g p) := pe_imp (pe_un h ha) fun _ _ _ z => one_e ho z
end
end Dv

-- Dv4
set_option maxHeartbeats 4000000
namespace Dv
open PySem PySem.Spec L2
theorem line {n : Nat} (h : n ≤ 1000000) : n ≤ sizeLine := Nat.le_trans h (by rw [sizeLine_eq]; omega)
theorem line1 {n : Nat} (h : n < 1000000) : n < sizeLine := Nat.lt_of_lt_of_le h (by rw [sizeLine_eq]; omega)
def gII (f : Int → Int → Option D) (x y : O) : Option D := match x, y with
  | .fz (.int i), .fz (.int j) => f i j
  | _, _ => none
theorem gII_some {f} {x y : O} {d : D} (h : gII f x y = some d) : ∃ i j, x = .fz (.int i) ∧ y = .fz (.int j) ∧ f i j = some d := by
  unfold gII at h
  split at h
  · rename_i i j; exact ⟨i, j, rfl, rfl, h⟩
  · cases h
def gSS (f : Str → Str → Option D) (x y : O) : Option D := match x, y with
  | .fz (.str i), .fz (.str j) => f i j
  | _, _ => none
theorem gSS_some {f} {x y : O} {d : D} (h : gSS f x y = some d) : ∃ i j, x = .fz (.str i) ∧ y = .fz (.str j) ∧ f i j = some d := by
  unfold gSS at h
  split at h
  · rename_i i j; exact ⟨i, j, rfl, rfl, h⟩
  · cases h
section
variable {K : Fg}
theorem opo_I0 {f : Int → Int → D} {gv : Int → Int → V} (h : ∀ F i j, R K F (f i j) (gv i j)) : OpO K (rI0 gv) (gII fun i j => some (f i j)) := fun F H x y v w fx fy d Q e a b hd q => by
  obtain ⟨i, j, rfl, rfl, hd'⟩ := gII_some hd
  clear hd
  have hd := hd'
  clear hd'
  cases hd
  exact ⟨i, j, a.2, b.2, q.at e (h F i j)⟩
theorem opo_I {C : Int → Int → Prop} {c : Int → Int → Bool} {f : Int → Int → D} {gv : Int → Int → V} (hc : ∀ i j, c i j = true → C i j) (h : ∀ F i j, R K F (f i j) (gv i j)) : OpO K (rI C gv) (gII fun i j => if c i j then some (f i j) else none) := fun F H x y v w fx fy d Q e a b hd q => by
  obtain ⟨i, j, rfl, rfl, hd'⟩ := gII_some hd
  clear hd
  have hd := hd'
  clear hd'
  split at hd
  · rename_i hh
    cases hd
    exact ⟨i, j, a.2, b.2, hc i j hh, q.at e (h F i j)⟩
  · cases hd
/-! ### arithmetic -/
def catT (x y : O) : Option D := match x, y with
  | .fz (.tup xs), .fz (.tup ys) => if xs.length + ys.length ≤ 1000000 then some (.tup (xs ++ ys)) else none
  | _, _ => none
theorem Rs.len {F : Hp} : ∀ {ds : List D} {vs : List V}, Rs K F ds vs → vs.length = ds.length
  | [], _, h => by cases h; rfl
  | d :: r, _, ⟨v, w, h1, _, h3⟩ => by rw [h1]; exact congrArg Nat.succ (Rs.len h3)
theorem Rs.app {F : Hp} : ∀ {ds es : List D} {vs ws : List V}, Rs K F ds vs → Rs K F es ws → Rs K F (ds ++ es) (vs ++ ws)
  | [], _, _, _, h, h' => by rw [show _ = [] from h]; exact h'
  | d :: r, _, _, _, ⟨v, w, h1, h2, h3⟩, h' => by rw [h1]; exact ⟨v, _, rfl, h2, Rs.app h3 h'⟩
theorem Rs.nil_iff {F : Hp} {ds : List D} {vs : List V} (h : Rs K F ds vs) : vs = [] ↔ ds = [] := by
  have := Rs.len h
  cases ds <;> cases vs <;> simp_all
theorem opo_catT : OpO K (rCatA K) catT := fun F H x y v w fx fy d Q e a b hd q => by
  unfold catT at hd
  split at hd
  · rename_i xs ys
    split at hd
    · rename_i hl
      cases hd
      obtain ⟨_, a1, vs, rfl, ha, ra⟩ := a
      obtain ⟨_, b1, ws, rfl, hb, rb⟩ := b
      refine ⟨a1, b1, vs, ws, rfl, rfl, SqT.of (e _ _ ha), SqT.of (e _ _ hb), by rw [ra.len, rb.len]; exact line hl, fun z => ?_, fun z z2 => ?_, fun _ _ p hp => q.tup e (ra.app rb) hp⟩
      · have := ra.nil_iff.mp z
        subst this
        exact q.at e ⟨b1, ws, rfl, hb, rb⟩
      · have := rb.nil_iff.mp z2
        subst this
        exact q.at e ⟨a1, vs, rfl, ha, by rw [List.append_nil]; exact ra⟩
    · cases hd
  · cases hd
def catS (a b : Str) : Option D := if a.length + b.length ≤ 1000000 then some (.str (a ++ b)) else none
theorem opo_catS : OpO K (fun x y H Q => ∃ i j, x = .str i ∧ y = .str j ∧ i.length + j.length ≤ sizeLine ∧ Q (.str (i ++ j)) H) (gSS catS) := fun F H x y v w fx fy d Q e a b hd q => by
  obtain ⟨i, j, rfl, rfl, hd'⟩ := gSS_some hd
  clear hd
  have hd := hd'
  clear hd'
  unfold catS at hd
  split at hd
  · rename_i hl
    cases hd
    exact ⟨i, j, a.2, b.2, line hl, q.at e rfl⟩
  · cases hd
def mulOk (i j : Int) : Bool := decide (i.natAbs < 2 ^ 64) || (decide (j.natAbs < 2 ^ 64) || decide (i.natAbs.log2 + j.natAbs.log2 < 1000000))
def fdivOk (i j : Int) : Bool := decide (0 < j) && decide (j.natAbs.log2 < 9000)
abbrev rAddG (K : Fg) : R2 := fun x y H Q => rI0 (fun i j => .int (i + j)) x y H Q ∨ (fun x y H Q => (∃ i j, x = .str i ∧ y = .str j ∧ i.length + j.length ≤ sizeLine ∧ Q (.str (i ++ j)) H) ∨ rCatA K x y H Q) x y H Q
end
def gAdd (x y : O) : Option D := (gII (fun i j => some (.int (i + j))) x y).or ((gSS catS x y).or (catT x y))
def gSub : O → O → Option D := gII fun i j => some (.int (i - j))
def gMul : O → O → Option D := gII fun i j => if mulOk i j then some (.int (i * j)) else none
def gDiv : O → O → Option D := gII fun i j => if fdivOk i j then some (.int (i / j)) else none
def gMod : O → O → Option D := gII fun i j => if decide (0 < j) then some (.int (i % j)) else none
def powOk (i j : Int) : Bool := decide (0 ≤ j) && (decide (j ≤ 1000000) && decide (i.natAbs < 2 ^ 64))
def gPow : O → O → Option D := gII fun i j => if powOk i j then some (.int (i ^ j.toNat)) else none
section
variable {X : Cx} {W : WX} {a b c e : Expr} {pos : Pos}
theorem opr_add : OpR X (binaryOp .Add) (rAddG X.K) := op_add.or (op_add_str.or op_catA)
theorem opo_add : OpO X.K (rAddG X.K) gAdd := (opo_I0 (f := fun i j => .int (i + j)) fun _ _ _ => rfl).or (opo_catS.or opo_catT)
theorem opo_sub : OpO X.K (rI0 fun i j => .int (i - j)) gSub := opo_I0 (f := fun i j => .int (i - j)) fun _ _ _ => rfl
theorem CMulX {i j : Int} (h : mulOk i j = true) : CMul i j ∨ CMulW i j := by
  unfold mulOk at h
  simp only [Bool.or_eq_true, decide_eq_true_eq] at h
  rcases h with h | h | h
  · refine .inl (.inl ?_); omega
  · refine .inl (.inr ?_); omega
  · exact .inr h
abbrev rMulG : R2 := fun x y H Q => rI CMul (fun i j => .int (i * j)) x y H Q ∨ rI CMulW (fun i j => .int (i * j)) x y H Q
theorem opr_mul : OpR X (binaryOp .Mult) rMulG := op_mul.or op_mulW
theorem opo_mul : OpO X.K rMulG gMul := fun F H x y v w fx fy d Q e a b hd q => by
  obtain ⟨i, j, rfl, rfl, hd'⟩ := gII_some hd
  clear hd
  have hd := hd'
  clear hd'
  split at hd
  · rename_i hh
    cases hd
    rcases CMulX hh with hc | hc
    · exact .inl ⟨i, j, a.2, b.2, hc, q.at e rfl⟩
    · exact .inr ⟨i, j, a.2, b.2, hc, q.at e rfl⟩
  · cases hd
theorem opo_div : OpO X.K (rI CDivW fun i j => .int (i / j)) gDiv := opo_I (f := fun i j => .int (i / j)) (fun i j h => by
  unfold fdivOk at h
  simp only [Bool.and_eq_true, decide_eq_true_eq] at h
  exact h) fun _ _ _ => rfl
theorem opo_mod : OpO X.K (rI (fun _ j => 0 < j) fun i j => .int (i % j)) gMod := opo_I (c := fun _ j => decide (0 < j)) (f := fun i j => .int (i % j)) (fun i j h => of_decide_eq_true h) fun _ _ _ => rfl
theorem opo_pow : OpO X.K (rI CPow fun i j => .int (i ^ j.toNat)) gPow := opo_I (f := fun i j => .int (i ^ j.toNat)) (fun i j h => by
  unfold powOk at h
  simp only [Bool.and_eq_true, decide_eq_true_eq] at h
  exact ⟨h.1, h.2.1, h.2.2⟩) fun _ _ _ => rfl
def gNeg : O → Option D
  | .fz (.int i) => some (.int (-i))
  | _ => none
theorem uno_neg : UnO X.K (rU fun i => .int (-i)) gNeg := fun F H x v fx d Q e a hd q => by
  unfold gNeg at hd
  split at hd
  · cases hd
    exact ⟨_, a.2, q.at e rfl⟩
  · cases hd
/-! ### order -/
def sLt (a b : Str) : Bool := decide (a.cps.toList < b.cps.toList)
def gLt (x y : O) : Option D := (gII (fun i j => some (.bl (decide (i < j)))) x y).or (gSS (fun i j => some (.bl (sLt i j))) x y)
def gLe (x y : O) : Option D := (gII (fun i j => some (.bl (decide (i ≤ j)))) x y).or (gSS (fun i j => some (.bl (!sLt j i))) x y)
def gGt (x y : O) : Option D := (gII (fun i j => some (.bl (decide (j < i)))) x y).or (gSS (fun i j => some (.bl (sLt j i))) x y)
def gGe (x y : O) : Option D := (gII (fun i j => some (.bl (decide (j ≤ i)))) x y).or (gSS (fun i j => some (.bl (!sLt i j))) x y)
theorem opo_S {f : Str → Str → Bool} {f' : Str → Str → Bool} (hf : ∀ i j, f i j = f' i j) : OpO X.K (fun x y H Q => ∃ i j, x = .str i ∧ y = .str j ∧ Q (.bl (f' i j)) H) (gSS fun i j => some (.bl (f i j))) := fun F H x y v w fx fy d Q e a b hd q => by
  obtain ⟨i, j, rfl, rfl, hd'⟩ := gSS_some hd
  clear hd
  have hd := hd'
  clear hd'
  cases hd
  exact ⟨i, j, a.2, b.2, by rw [← hf]; exact q.at e rfl⟩
theorem opo_lt : OpO X.K (fun x y H Q => rI0 (fun i j => .bl (decide (i < j))) x y H Q ∨ ∃ i j, x = .str i ∧ y = .str j ∧ Q (.bl (decide (i.cps.toList < j.cps.toList))) H) gLt := (opo_I0 (gv := fun i j => .bl (decide (i < j))) (f := fun i j => .bl (decide (i < j))) fun _ _ _ => rfl).or (opo_S (f' := fun i j => decide (i.cps.toList < j.cps.toList)) fun _ _ => rfl)
theorem opr_lt : OpR X (compareOp .Lt) (fun x y H Q => rI0 (fun i j => .bl (decide (i < j))) x y H Q ∨ ∃ i j, x = .str i ∧ y = .str j ∧ Q (.bl (decide (i.cps.toList < j.cps.toList))) H) := op_lt.or op_lt_str
theorem opo_le : OpO X.K (fun x y H Q => rI0 (fun i j => .bl (decide (i ≤ j))) x y H Q ∨ ∃ i j, x = .str i ∧ y = .str j ∧ Q (.bl (!decide (j.cps.toList < i.cps.toList))) H) gLe := (opo_I0 (gv := fun i j => .bl (decide (i ≤ j))) (f := fun i j => .bl (decide (i ≤ j))) fun _ _ _ => rfl).or (opo_S (f := fun i j => !sLt j i) (f' := fun i j => !decide (j.cps.toList < i.cps.toList)) fun _ _ => rfl)
theorem opr_le : OpR X (compareOp .LtE) (fun x y H Q => rI0 (fun i j => .bl (decide (i ≤ j))) x y H Q ∨ ∃ i j, x = .str i ∧ y = .str j ∧ Q (.bl (!decide (j.cps.toList < i.cps.toList))) H) := op_le.or op_le_str
theorem opo_gt : OpO X.K (fun x y H Q => rI0 (fun i j => .bl (decide (j < i))) x y H Q ∨ ∃ i j, x = .str i ∧ y = .str j ∧ Q (.bl (decide (j.cps.toList < i.cps.toList))) H) gGt := (opo_I0 (gv := fun i j => .bl (decide (j < i))) (f := fun i j => .bl (decide (j < i))) fun _ _ _ => rfl).or (opo_S (f := fun i j => sLt j i) (f' := fun i j => decide (j.cps.toList < i.cps.toList)) fun _ _ => rfl)
theorem opr_gt : OpR X (compareOp .Gt) (fun x y H Q => rI0 (fun i j => .bl (decide (j < i))) x y H Q ∨ ∃ i j, x = .str i ∧ y = .str j ∧ Q (.bl (decide (j.cps.toList < i.cps.toList))) H) := op_gt.or op_gt_str
theorem opo_ge : OpO X.K (fun x y H Q => rI0 (fun i j => .bl (decide (j ≤ i))) x y H Q ∨ ∃ i j, x = .str i ∧ y = .str j ∧ Q (.bl (!decide (i.cps.toList < j.cps.toList))) H) gGe := (opo_I0 (gv := fun i j => .bl (decide (j ≤ i))) (f := fun i j => .bl (decide (j ≤ i))) fun _ _ _ => rfl).or (opo_S (f := fun i j => !sLt i j) (f' := fun i j => !decide (i.cps.toList < j.cps.toList)) fun _ _ => rfl)
theorem opr_ge : OpR X (compareOp .GtE) (fun x y H Q => rI0 (fun i j => .bl (decide (j ≤ i))) x y H Q ∨ ∃ i j, x = .str i ∧ y = .str j ∧ Q (.bl (!decide (i.cps.toList < j.cps.toList))) H) := op_ge.or op_ge_str
end
/-! ### equality -/
def eqS : D → D → Option Bool
  | .int i, .int j => some (decide (i = j))
  | .str i, .str j => some (decide (i = j))
  | .bl i, .bl j => some (decide (i = j))
  | .non, .non => some true
  | .non, .int _ => some false | .int _, .non => some false | .non, .bl _ => some false | .bl _, .non => some false | .non, .str _ => some false | .str _, .non => some false
  | .int _, .str _ => some false | .str _, .int _ => some false | .bl _, .str _ => some false | .str _, .bl _ => some false
  | _, _ => none
mutual
def D.pd : D → Option PyData
  | .non => some .none
  | .bl b => some (.bool b)
  | .int i => some (.int i)
  | .str x => some (.str x)
  | .tup xs => (D.pds xs).map .tuple
  | .lst xs => (D.pds xs).map .list
  | _ => none
def D.pds : List D → Option (List PyData)
  | [] => some []
  | d :: r => (D.pd d).bind fun x => (D.pds r).map fun y => x :: y
end
mutual
theorem R.pd {K : Fg} {H : Hp} : ∀ (d : D) {v : V} {p : PyData}, R K H d v → d.pd = some p → Dp K H v p
  | .non, _, _, h, e => by cases h; cases e; exact .non
  | .bl b, _, _, h, e => by cases h; cases e; exact .bl b
  | .int b, _, _, h, e => by cases h; cases e; exact .int b
  | .str b, _, _, h, e => by cases h; cases e; exact .str b
  | .glo _, _, _, _, e => by cases e
  | .ty _, _, _, _, e => by cases e
  | .dic _ _, _, _, _, e => by cases e
  | .ins _ _, _, _, _, e => by cases e
  | .exn _ _, _, _, _, e => by cases e
  | .tup xs, _, _, ⟨a, vs, h1, h2, h3⟩, e => by
    obtain ⟨ps, e1, rfl⟩ := Option.map_eq_some_iff.mp e
    subst h1
    exact .tup (SqT.of h2) (Rs.pd xs h3 e1)
  | .lst xs, _, _, ⟨a, vs, h1, h2, h3⟩, e => by
    obtain ⟨ps, e1, rfl⟩ := Option.map_eq_some_iff.mp e
    subst h1
    exact .lst h2 (Rs.pd xs h3 e1)
theorem Rs.pd {K : Fg} {H : Hp} : ∀ (d : List D) {v : List V} {p : List PyData}, Rs K H d v → D.pds d = some p → DpAll K H v p
  | [], _, _, h, e => by cases h; cases e; exact .nil
  | d :: r, _, _, ⟨v, w, h1, h2, h3⟩, e => by
    obtain ⟨x, e1, e2⟩ := Option.bind_eq_some_iff.mp e
    obtain ⟨y, e3, rfl⟩ := Option.map_eq_some_iff.mp e2
    subst h1
    exact .cons (R.pd d h2 e1) (Rs.pd r h3 e3)
end
def eqD (x y : D) : Option Bool := x.pd.bind fun p => y.pd.bind fun q => if SeqAt.shaped p && SeqAt.shaped q then some (PyData.eqv p q) else none
def deq (x y : D) : Option Bool := (eqS x y).or (eqD x y)
def gEq (x y : O) : Option D := (deq x.fr y.fr).map .bl
def gNe (x y : O) : Option D := (deq x.fr y.fr).map fun b => .bl (!b)
theorem eqS_rd {K : Fg} {H : Hp} {x y : D} {v w : V} {b : Bool} (h : eqS x y = some b) (hx : R K H x v) (hy : R K H y w) : scal v w = true ∧ decide (v = w) = b := by
  unfold eqS at h
  split at h <;> first | (cases hx; cases hy; cases h; exact ⟨rfl, by simp⟩) | cases h
section
variable {X : Cx} {W : WX} {a b c e : Expr} {pos : Pos}
theorem opo_eq : OpO X.K (fun x y H Q => rEq x y H Q ∨ rEqD X.K x y H Q) gEq := fun F H x y v w fx fy d Q e a b hd q => by
  obtain ⟨k, hk, rfl⟩ := Option.map_eq_some_iff.mp hd
  have ra := a.rd e
  have rb := b.rd e
  unfold deq at hk
  cases z : eqS x.fr y.fr with
  | some k' =>
    rw [z] at hk
    cases hk
    obtain ⟨h1, h2⟩ := eqS_rd z ra rb
    exact .inl ⟨h1, by rw [h2]; exact q.at e rfl⟩
  | none =>
    rw [z] at hk
    have hk : eqD x.fr y.fr = some k := hk
    unfold eqD at hk
    obtain ⟨p, h1, hk⟩ := Option.bind_eq_some_iff.mp hk
    obtain ⟨p', h2, hk⟩ := Option.bind_eq_some_iff.mp hk
    split at hk
    · rename_i hs
      cases hk
      rw [Bool.and_eq_true] at hs
      exact .inr ⟨p, p', R.pd _ ra h1, R.pd _ rb h2, hs.1, hs.2, q.at e rfl⟩
    · cases hk
theorem opo_ne : OpO X.K (fun x y H Q => rNe x y H Q ∨ rNeD X.K x y H Q) gNe := fun F H x y v w fx fy d Q e a b hd q => by
  obtain ⟨k, hk, rfl⟩ := Option.map_eq_some_iff.mp hd
  have ra := a.rd e
  have rb := b.rd e
  unfold deq at hk
  cases z : eqS x.fr y.fr with
  | some k' =>
    rw [z] at hk
    cases hk
    obtain ⟨h1, h2⟩ := eqS_rd z ra rb
    exact .inl ⟨h1, by rw [h2]; exact q.at e rfl⟩
  | none =>
    rw [z] at hk
    have hk : eqD x.fr y.fr = some k := hk
    unfold eqD at hk
    obtain ⟨p, h1, hk⟩ := Option.bind_eq_some_iff.mp hk
    obtain ⟨p', h2, hk⟩ := Option.bind_eq_some_iff.mp hk
    split at hk
    · rename_i hs
      cases hk
      rw [Bool.and_eq_true] at hs
      exact .inr ⟨p, p', R.pd _ ra h1, R.pd _ rb h2, hs.1, hs.2, q.at e rfl⟩
    · cases hk
theorem opr_eq {k : Nat} (hr : Room k X.A) : OpR X (compareOp .Eq) (fun x y H Q => rEq x y H Q ∨ rEqD X.K x y H Q) := op_eq.or (op_eqD hr.units)
theorem opr_ne {k : Nat} (hr : Room k X.A) : OpR X (compareOp .NotEq) (fun x y H Q => rNe x y H Q ∨ rNeD X.K x y H Q) := op_ne.or (op_neD hr.units)
/-! ### is -/
def isNon : D → Bool
  | .non => true
  | _ => false
theorem isNon_rd {K : Fg} {H : Hp} {x : D} {v : V} (h : R K H x v) : decide (v = .non) = isNon x := by
  cases x with
  | non => cases h; rfl
  | tup xs => obtain ⟨a, vs, rfl, _⟩ := h; rfl
  | lst xs => obtain ⟨a, vs, rfl, _⟩ := h; rfl
  | dic xs => obtain ⟨a, rfl, _⟩ := h; rfl
  | ins c xs => obtain ⟨a, _, _, rfl, _⟩ := h; rfl
  | exn x xs => obtain ⟨_, rfl, _⟩ := h; rfl
  | _ => cases h; rfl
def gIs (x y : O) : Option D := match y with
  | .fz .non => some (.bl (isNon x.fr))
  | .fz (.bl j) => (match x with
    | .fz (.bl i) => some (.bl (decide (i = j)))
    | _ => none)
  | _ => none
def gIsNot (x y : O) : Option D := match y with
  | .fz .non => some (.bl (!isNon x.fr))
  | .fz (.bl j) => (match x with
    | .fz (.bl i) => some (.bl (!decide (i = j)))
    | _ => none)
  | _ => none
theorem opr_is : OpR X (compareOp .Is) (fun x y H Q => (y = .non ∧ Q (.bl (decide (x = .non))) H) ∨ rIsB x y H Q) := op_isN.or op_isBl
theorem opr_isnot : OpR X (compareOp .IsNot) (fun x y H Q => (y = .non ∧ Q (.bl (!decide (x = .non))) H) ∨ rNotB x y H Q) := op_notN.or op_notBl
theorem opo_is : OpO X.K (fun x y H Q => (y = .non ∧ Q (.bl (decide (x = .non))) H) ∨ rIsB x y H Q) gIs := fun F H x y v w fx fy d Q e a b hd q => by
  unfold gIs at hd
  split at hd
  · cases hd
    refine .inl ⟨b.2, ?_⟩
    rw [isNon_rd (a.rd e)]
    exact q.at e rfl
  · split at hd
    · cases hd
      exact .inr ⟨_, _, a.2, b.2, q.at e rfl⟩
    · cases hd
  · cases hd
theorem opo_isnot : OpO X.K (fun x y H Q => (y = .non ∧ Q (.bl (!decide (x = .non))) H) ∨ rNotB x y H Q) gIsNot := fun F H x y v w fx fy d Q e a b hd q => by
  unfold gIsNot at hd
  split at hd
  · cases hd
    refine .inl ⟨b.2, ?_⟩
    rw [isNon_rd (a.rd e)]
    exact q.at e rfl
  · split at hd
    · cases hd
      exact .inr ⟨_, _, a.2, b.2, q.at e rfl⟩
    · cases hd
  · cases hd
/-! ### in -/
def flD : D → Option V
  | .non => some .non
  | .bl b => some (.bl b)
  | .int i => some (.int i)
  | .str s => some (.str s)
  | _ => none
def flDs : List D → Option (List V)
  | [] => some []
  | d :: r => (flD d).bind fun x => (flDs r).map fun y => x :: y
theorem flD_rd {K : Fg} {H : Hp} {d : D} {v x : V} (h : R K H d v) (e : flD d = some x) : v = x ∧ flatV x = true := by
  cases d <;> first | (cases h; cases e; exact ⟨rfl, rfl⟩) | cases e
theorem flDs_rd {K : Fg} {H : Hp} : ∀ {d : List D} {v x : List V}, Rs K H d v → flDs d = some x → v = x ∧ x.all flatV = true
  | [], _, _, h, e => by cases h; cases e; exact ⟨rfl, rfl⟩
  | d :: r, _, _, ⟨v, w, h1, h2, h3⟩, e => by
    obtain ⟨x, e1, e2⟩ := Option.bind_eq_some_iff.mp e
    obtain ⟨y, e3, rfl⟩ := Option.map_eq_some_iff.mp e2
    obtain ⟨a1, a2⟩ := flD_rd h2 e1
    obtain ⟨b1, b2⟩ := flDs_rd h3 e3
    subst h1 a1 b1
    exact ⟨rfl, by rw [List.all_cons, a2, b2]; rfl⟩
def inD (x y : D) : Option Bool := match y with
  | .str z => (match x with
    | .str w => (match w.cps.toList with
      | [c] => some (decide (c ∈ z.cps.toList))
      | _ => none)
    | _ => none)
  | .tup ys => (flD x).bind fun v => (flDs ys).map fun vs => inV v vs
  | .lst ys => (flD x).bind fun v => (flDs ys).map fun vs => inV v vs
  | _ => none
def gIn (x y : O) : Option D := (inD x.fr y.fr).map .bl
def gNotIn (x y : O) : Option D := (inD x.fr y.fr).map fun b => .bl (!b)
abbrev rInS (neg : Bool) : R2 := fun x y H Q => ∃ (c : Nat) (z : Str), x = .str ⟨#[c]⟩ ∧ y = .str z ∧ Q (.bl (if neg then !decide (c ∈ z.cps.toList) else decide (c ∈ z.cps.toList))) H
theorem inD_rd {neg : Bool} {F H : Hp} {x y : O} {v w : V} {fx fy} {k : Bool} {Q : VK} (e : Same F H) (hk : inD x.fr y.fr = some k) (a : RO X.K F H x v fx) (b : RO X.K F H y w fy) (q : Q (.bl (if neg then !k else k)) H) : rInS neg v w H Q ∨ rIn X.K neg v w H Q := by
  have ra := a.rd e
  have rb := b.rd e
  generalize x.fr = x at *
  generalize y.fr = y at *
  unfold inD at hk
  split at hk
  · rename_i z
    split at hk
    · rename_i ww
      split at hk
      · rename_i c hc
        cases hk
        obtain ⟨cps⟩ := ww
        obtain ⟨l⟩ := cps
        have hc : l = [c] := hc
        subst hc
        exact .inl ⟨c, z, ra, rb, q⟩
      · cases hk
    · cases hk
  · obtain ⟨v', e1, hk⟩ := Option.bind_eq_some_iff.mp hk
    obtain ⟨vs, e2, rfl⟩ := Option.map_eq_some_iff.mp hk
    obtain ⟨p, us, rfl, hs, rs⟩ := rb
    obtain ⟨a1, a2⟩ := flD_rd ra e1
    obtain ⟨b1, b2⟩ := flDs_rd rs e2
    subst a1 b1
    exact .inr ⟨p, us, rfl, .inr (SqT.of hs), a2, b2, q⟩
  · obtain ⟨v', e1, hk⟩ := Option.bind_eq_some_iff.mp hk
    obtain ⟨vs, e2, rfl⟩ := Option.map_eq_some_iff.mp hk
    obtain ⟨p, us, rfl, hs, rs⟩ := rb
    obtain ⟨a1, a2⟩ := flD_rd ra e1
    obtain ⟨b1, b2⟩ := flDs_rd rs e2
    subst a1 b1
    exact .inr ⟨p, us, rfl, .inl hs, a2, b2, q⟩
  · cases hk
theorem opr_in : OpR X (compareOp .In) (fun x y H Q => rInS false x y H Q ∨ rIn X.K false x y H Q) := OpR.or op_in_sign op_in_seq
theorem opr_notin : OpR X (compareOp .NotIn) (fun x y H Q => rInS true x y H Q ∨ rIn X.K true x y H Q) := OpR.or op_notIn_sign op_notIn_seq
theorem opo_in : OpO X.K (fun x y H Q => rInS false x y H Q ∨ rIn X.K false x y H Q) gIn := fun F H x y v w fx fy d Q e a b hd q => by
  obtain ⟨k, hk, rfl⟩ := Option.map_eq_some_iff.mp hd
  exact inD_rd (neg := false) e hk a b (q.at e rfl)
theorem opo_notin : OpO X.K (fun x y H Q => rInS true x y H Q ∨ rIn X.K true x y H Q) gNotIn := fun F H x y v w fx fy d Q e a b hd q => by
  obtain ⟨k, hk, rfl⟩ := Option.map_eq_some_iff.mp hd
  exact inD_rd (neg := true) e hk a b (q.at e rfl)
end
end Dv

-- Dv5
set_option maxHeartbeats 4000000
/-! calls whose exceptions are wished for at the caller's slots -/
namespace Dv
open PySem PySem.Spec L2
section
variable {X : Cx} {CX : CXT} {k : Nat} {f C : Addr} {fd : FuncData} {ps : List Str} {sp : Sp} {E : L2.St → XK} {x m : Str} {p pos apos : Pos} {e o : Expr} {es : List Expr} {ta : TE} {t : TA}
theorem pe_callS0 (F : FnOk X.prog X.w X.K X.mg X.base CX k f fd ps sp) (hr : Room k X.A) (hg : Gl X x) (hm : X.mg x = some (.ref f)) (hk : PySem.W.keepIn X.K (.ref f) = true) (hb : Binds X.K fd ps []) (hx : ∀ σ, PassesAt CX X σ (E σ))
    (hdb : (x == ("__debug__" : Str)) = false := by decide) : PE X (.Call (.Name x p) [] [] pos) (tCallS sp E tNil) := by
  refine ⟨fun pins s σ H Q I h => ?_⟩
  refine wpAny_Call_Name_kw (ld_glob I hg hm ?_ hdb)
  exact PySem.W.callWith_K0 I.kIn hk (run_fnS (us := []) F hr hb (hx σ) I .nil h)
def tMethS (C : Addr) (m : Str) (sp : Sp) (E : L2.St → XK) (ta : TE) (t : TA) : TE := fun σ H Q => ta σ H fun x H1 => ∃ a dx fs, x = .ref a ∧ H1 a = some (.ins C dx fs) ∧ fs.lookup m = none ∧
  t σ H1 fun vs H2 => sp (x :: vs) H2 Q (E σ)
theorem pe_methSS {pl : Sem Bool} (he : PE X o ta) (c : Cls X.K C) (hm : Meth X.K C m f) (F : FnOk X.prog X.w X.K X.mg X.base CX k f fd ps sp) (hr : Room k X.A) (hb : Binds X.K fd ps []) (hx : ∀ σ, PassesAt CX X σ (E σ)) (ha : PA X (e :: es) t)
    (hst : starEach (e :: es) X.env = (false, eval e X.env) :: starEach es X.env := by rfl) (hpl : (backTo pos (starEach es X.env)).any (·.1) = false := by rfl)
    (ht : eval (.Call (.Attribute o m apos) (e :: es) [] pos) X.env = (do
      let ov ← eval o X.env
      standAt apos.atName
      let (f, first) ← holding [ov] (getMethod ov m pl)
      callWith pos f first (backTo pos (starEach (e :: es) X.env)) (backToKw pos (keywordEach [] X.env))) := by rfl) :
    PE X (.Call (.Attribute o m apos) (e :: es) [] pos) (tMethS C m sp E ta t) := by
  refine ⟨fun pins s σ H Q I h => ?_⟩
  refine PySem.W.methodCall_KW (pl := pl) (thn (he.run pins s σ H _ I h) fun u s1 ⟨x, H1, I1, rx, a, dx, fs, ex, ea, l, q⟩ => ?_) ht
  subst ex
  obtain rfl : u = Value.ref a := rx
  refine getmeth_ok I1 ea c hm l ?_
  refine PySem.W.callWith_K (first := [.ref a]) (h₀ := X.base) I.ok.mod.kin hm.kp (thn (ha.run pos pins s1 σ H1 _ I1 q) fun us s2 ⟨vs, H2, I2, r, q2⟩ => ⟨I2.kIn, ?_⟩) hst hpl
  exact run_fnS (us := .ref a :: us) (vs := .ref a :: vs) F hr hb (hx σ) I2 (.cons rfl r) q2
theorem pe_methSS0 {pl : Sem Bool} (he : PE X o ta) (c : Cls X.K C) (hm : Meth X.K C m f) (F : FnOk X.prog X.w X.K X.mg X.base CX k f fd ps sp) (hr : Room k X.A) (hb : Binds X.K fd ps []) (hx : ∀ σ, PassesAt CX X σ (E σ))
    (ht : eval (.Call (.Attribute o m apos) [] [] pos) X.env = (do
      let ov ← eval o X.env
      standAt apos.atName
      let (f, first) ← holding [ov] (getMethod ov m pl)
      callWith pos f first (backTo pos (starEach [] X.env)) (backToKw pos (keywordEach [] X.env))) := by rfl) :
    PE X (.Call (.Attribute o m apos) [] [] pos) (tMethS C m sp E ta tNil) := by
  refine ⟨fun pins s σ H Q I h => ?_⟩
  refine PySem.W.methodCall_KW (pl := pl) (thn (he.run pins s σ H _ I h) fun u s1 ⟨x, H1, I1, rx, a, dx, fs, ex, ea, l, q⟩ => ?_) ht
  subst ex
  obtain rfl : u = Value.ref a := rx
  refine getmeth_ok I1 ea c hm l ?_
  exact PySem.W.callWith_K0 (first := [.ref a]) I1.kIn hm.kp (run_fnS (us := [.ref a]) (vs := [.ref a]) F hr hb (hx σ) I1 (.cons rfl .nil) q)
/-- C(..): a new instance and its dict, then __init__ -/
def tMakeS (C : Addr) (sp : Sp) (E : L2.St → XK) (t : TA) : TE := fun σ H Q => t σ H fun vs H1 => ∀ x dx, H1 x = none → H1 dx = none → dx ≠ x →
  sp (.ref x :: vs) (upd (upd H1 dx (.own x)) x (.ins C dx [])) (fun v H2 => v = .non ∧ Q (.ref x) H2) (E σ)
theorem run_makeS {pins : List (Addr × Obj)} {σ : L2.St} {H : Hp} {s : Shared} {Q : VK} {us : List Value} {vs : List V} (M : Mk X.K C f) (F : FnOk X.prog X.w X.K X.mg X.base CX k f fd ps sp) (hr : Room (k + 1) X.A) (hb : Binds X.K fd ps [])
    (hx : PassesAt CX X σ (E σ)) (I : Inv X pins σ H s) (r : Vals vs us)
    (h : ∀ x dx, H x = none → H dx = none → dx ≠ x → sp (.ref x :: vs) (upd (upd H dx (.own x)) x (.ins C dx [])) (fun v H2 => v = .non ∧ Q (.ref x) H2) (E σ)) :
    wpAny (model X.prog X.w) X.A (call (.ref C) us) (EP X pins σ Q) X.xe s := by
  have hq := h (s.heap.objs.size + 1) s.heap.objs.size (I.hok.fresh (Nat.le_succ _)) (I.hok.fresh (Nat.le_refl _)) (Nat.ne_of_lt (Nat.lt_succ_self _))
  have I2 := Inv.made (C := C) I
  have r2 : Vals (V.ref (s.heap.objs.size + 1) :: vs) (Value.ref (s.heap.objs.size + 1) :: us) := .cons rfl r
  have hl : (Value.ref (s.heap.objs.size + 1) :: us).length = ps.length := by
    have e := r2.length
    rw [F.len _ _ _ _ hq] at e
    exact e.symm
  have b := hb _ (Value.ref (s.heap.objs.size + 1) :: us) I2.kIn (by rw [List.append_nil]; exact hl)
  rw [List.append_nil] at b
  refine wpAny_call (make_map (f := f) I.kIn M.makes M.init (beq_iff_eq.mp M.fn) (codeAny_mono (F.run _ X.stack _ _ ⟨Value.ref (s.heap.objs.size + 1) :: us, []⟩ (Value.ref (s.heap.objs.size + 1) :: us) _ _ (E σ) (hr.make C us [])
    (I2.env0.make C us []) b r2 hq) fun r s' hq' => ?_))
  cases r with
  | error e => exact hx pins _ _ e s' I2 hq'
  | ok fl =>
    cases fl with
    | ret u =>
      obtain ⟨v, H', I3, rv, ev, q3⟩ := I2.after hq'
      subst ev
      exact ⟨rv, ⟨V.ref (s.heap.objs.size + 1), H', I3, rfl, q3⟩⟩
    | next => exact False.elim hq'
    | brk => exact False.elim hq'
    | cont => exact False.elim hq'
theorem pe_makeSS (M : Mk X.K C f) (F : FnOk X.prog X.w X.K X.mg X.base CX k f fd ps sp) (hr : Room (k + 1) X.A) (hg : Gl X x) (hm : X.mg x = some (.ref C)) (hb : Binds X.K fd ps []) (hx : ∀ σ, PassesAt CX X σ (E σ))
    (ha : PA X (e :: es) t) (hdb : (x == ("__debug__" : Str)) = false := by decide) (he : starEach (e :: es) X.env = (false, eval e X.env) :: starEach es X.env := by rfl) (hpl : (backTo pos (starEach es X.env)).any (·.1) = false := by rfl) :
    PE X (.Call (.Name x p) (e :: es) [] pos) (tMakeS C sp E t) := by
  refine ⟨fun pins s σ H Q I h => ?_⟩
  refine wpAny_Call_Name_kw (ld_glob I hg hm ?_ hdb)
  refine PySem.W.callWith_K (h₀ := X.base) I.ok.mod.kin M.kp (thn (ha.run pos pins s σ H _ I h) fun us s1 ⟨vs, H1, I1, r, q⟩ => ⟨I1.kIn, ?_⟩) he hpl
  exact run_makeS M F hr hb (hx σ) I1 r q
theorem pe_makeSS0 (M : Mk X.K C f) (F : FnOk X.prog X.w X.K X.mg X.base CX k f fd ps sp) (hr : Room (k + 1) X.A) (hg : Gl X x) (hm : X.mg x = some (.ref C)) (hb : Binds X.K fd ps []) (hx : ∀ σ, PassesAt CX X σ (E σ))
    (hdb : (x == ("__debug__" : Str)) = false := by decide) : PE X (.Call (.Name x p) [] [] pos) (tMakeS C sp E tNil) := by
  refine ⟨fun pins s σ H Q I h => ?_⟩
  refine wpAny_Call_Name_kw (ld_glob I hg hm ?_ hdb)
  exact PySem.W.callWith_K0 I.kIn M.kp (run_makeS (us := []) M F hr hb (hx σ) I .nil h)
end
/-! ### argument lists -/
/-- which slot an argument is that is handed over by reference -/
def Bk (σ : L2.St) : List (Option Nat) → List V → Prop
  | b :: bs, v :: vs => (∀ i, b = some i → σ[i]? = some (some v)) ∧ Bk σ bs vs
  | [], [] => True
  | _, _ => False
section
variable (K : Fg)
def dB (W : WX) (bk : List (Option Nat)) (m : AM) : TA := fun σ H Q => ∃ F fp env r env', SR K F H fp env σ ∧ m env = some (r, env') ∧ match r with
  | .ok os => ∀ vs F' H' fp' fv, SR K F' H' fp' env' σ → HVs K F' H' fp' os vs fv → Stp F H fp F' H' (fp' ++ fv) → Bk σ bk vs → Q vs H'
  | .ex c fs => exW K W F H fp env' σ c fs
def PA' (W : WX) (F H : Hp) (fp : List Addr) (σ : L2.St) (bk : List (Option Nat)) (r : Rz (List O) × Env) (Q : List V → Hp → Prop) : Prop := match r with
  | (.ok os, env') => ∀ vs F' H' fp' fv, SR K F' H' fp' env' σ → HVs K F' H' fp' os vs fv → Stp F H fp F' H' (fp' ++ fv) → Bk σ bk vs → Q vs H'
  | (.ex c fs, env') => exW K W F H fp env' σ c fs
/-- quiet arguments: readable -/
def dQ (p : Env → Option (List O)) : TA := fun σ H Q => ∃ F fp env os, SR K F H fp env σ ∧ p env = some os ∧ ∀ vs F' H' fv, Qt F H F' H' → ROs K F' H' os vs fv → Q vs H'
end
section
variable {X : Cx} {W : WX} {a b c e : Expr} {es : List Expr} {pos : Pos}
theorem dB_out {K : Fg} {m : AM} {bk} {σ : L2.St} {H : Hp} {Q} (h : dB K W bk m σ H Q) : ∃ F fp env r, SR K F H fp env σ ∧ m env = some r ∧ PA' K W F H fp σ bk r Q := by
  obtain ⟨F, fp, env, r, env', s, hm, post⟩ := h
  refine ⟨F, fp, env, (r, env'), s, hm, ?_⟩
  cases r with
  | ok o => exact post
  | ex c fs => exact post
theorem PA'.ex {K : Fg} {F H : Hp} {fp σ bk r} {Q} (p : PA' K W F H fp σ bk r Q) : ∀ c fs e, r = (.ex c fs, e) → exW K W F H fp e σ c fs := fun c fs e q => by
  subst q; exact p
theorem dB_run {K : Fg} {β : Type} {m : AM} {bk} {k : List O → Env → Option (Rz β × Env)} {F H : Hp} {fp env σ} {r : Rz β × Env} {Q : List V → Hp → Prop} (s : SR K F H fp env σ) (h : bindR (m env) k = some r) (hx : ∀ c fs e, r = (.ex c fs, e) → exW K W F H fp e σ c fs)
    (hk : ∀ o e1 v F' H' fp' fv, SR K F' H' fp' e1 σ → HVs K F' H' fp' o v fv → Stp F H fp F' H' (fp' ++ fv) → Bk σ bk v → (∀ c fs e, r = (.ex c fs, e) → exW K W F' H' fp' e σ c fs) → k o e1 = some r → Q v H') : dB K W bk m σ H Q := by
  rcases bindR_some h with ⟨o, e1, h1, h2⟩ | ⟨c, fs, e1, h1, h2⟩
  · exact ⟨F, fp, env, .ok o, e1, s, h1, fun v F' H' fp' fv s' hv st bb => hk o e1 v F' H' fp' fv s' hv st bb (fun c fs e q => (hx c fs e q).on st) h2⟩
  · exact ⟨F, fp, env, .ex c fs, e1, s, h1, hx c fs e1 h2⟩
theorem Stp.tr2 {F F1 F2 H H1 H2 : Hp} {fp fp1 fp2 f1 f2 : List Addr} (a : Stp F H fp F1 H1 (fp1 ++ f1)) (b : Stp F1 H1 fp1 F2 H2 (fp2 ++ f2)) : Stp F H fp F2 H2 (fp2 ++ (f1 ++ f2)) :=
  ⟨a.ff.trans b.ff, fun x o mu e n z => by
    obtain ⟨e1, z1, n1⟩ := a.out x o mu e n z
    obtain ⟨e2, z2, n2⟩ := b.out x o mu e1 (fun k => n1 (List.mem_append_left _ k)) z1
    refine ⟨e2, z2, fun k => ?_⟩
    rcases List.mem_append.mp k with k | k
    · exact n2 (List.mem_append_left _ k)
    · rcases List.mem_append.mp k with k | k
      · exact n1 (List.mem_append_right _ k)
      · exact n2 (List.mem_append_right _ k)⟩
theorem HVs.nil {K : Fg} {F H : Hp} {fp} : HVs K F H fp [] [] [] := ⟨⟨rfl, rfl⟩, List.nodup_nil, (fun _ h => nomatch h), (fun _ h => nomatch h)⟩
theorem HVs.cons {K : Fg} {F F2 H H2 : Hp} {fp fp2 f1 f2 : List Addr} {o : O} {v : V} {os : List O} {vs : List V} (h : HV K F H fp o v f1) (st : Stp F H fp F2 H2 (fp2 ++ f2)) (h2 : HVs K F2 H2 fp2 os vs f2) : HVs K F2 H2 fp2 (o :: os) (v :: vs) (f1 ++ f2) := by
  have h1 := h.on st
  refine ⟨⟨v, vs, f1, f2, rfl, rfl, h1.ro, h2.ro⟩, nd_app.mpr ⟨h1.nd, h2.nd, fun x m k => h1.dj x k (List.mem_append_right _ m)⟩, fun x m => ?_, fun x m k => ?_⟩
  · rcases List.mem_append.mp m with m | m
    · exact h1.nf x m
    · exact h2.nf x m
  · rcases List.mem_append.mp m with m | m
    · exact h1.dj x m (List.mem_append_left _ k)
    · exact h2.dj x m k
abbrev BkV (X : Cx) (W : WX) (es : List Expr) (bk : List (Option Nat)) (m : AM) : Prop := PA X es (dB X.K W bk m)
def aNil : AM := fun env => some (.ok [], env)
def aCons (p : EM) (q : AM) : AM := fun env => bindR (p env) fun o e1 => bindR (q e1) fun os e2 => some (.ok (o :: os), e2)
theorem av_nil : BkV X W [] [] aNil := by
  refine pa_imp pa_nil fun σ H Q h => ?_
  obtain ⟨F, fp, env, re, s, hm, post⟩ := dB_out h
  cases hm
  exact post [] F H fp [] s HVs.nil Stp.refl.nl trivial
theorem av_cons {p : EM} {q : AM} {bk} (ha : EV X W a p) (hr : BkV X W es bk q) (hs : starEach (a :: es) X.env = (false, eval a X.env) :: starEach es X.env := by rfl) : BkV X W (a :: es) (none :: bk) (aCons p q) := by
  refine pa_imp (pa_cons ha hr hs) fun σ H Q h => ?_
  obtain ⟨F, fp, env, re, s, hm, post⟩ := dB_out h
  refine dE_run s hm post.ex fun o e1 v F1 H1 fp1 f1 s1 h1 st1 ex1 hm1 => dB_run s1 hm1 ex1 fun os e2 vs F2 H2 fp2 f2 s2 h2 st2 bb ex2 hm2 => ?_
  cases hm2
  exact post (v :: vs) F2 H2 fp2 (f1 ++ f2) s2 (HVs.cons h1 st2 h2) (st1.tr2 st2) ⟨(fun _ z => nomatch z), bb⟩
/-- an own name, by reference: it is taken out when all arguments stand -/
def aRef (i : Nat) (q : AM) : AM := fun env => match (env[i]?).join with
  | some _ => bindR (q env) fun os e1 => match (e1[i]?).join with
    | some o => some (.ok (o :: os), e1.set i none)
    | none => none
  | none => none
theorem slot_of {env : Env} {i : Nat} {o : O} (z : (env[i]?).join = some o) : env[i]? = some (some o) := by
  cases y : env[i]? with
  | none => rw [y] at z; cases z
  | some w => rw [y] at z; exact congrArg some z
theorem av_ref (i : Nat) {x : Str} {p : Pos} {q : AM} {bk} (hr : BkV X W es bk q) (hN : X.N[i]? = some x := by rfl) (hv : Vis X.env.scope x := by first | exact Or.inl rfl | exact Or.inr (Or.inl rfl) | exact Or.inr (Or.inr rfl)) (hd : (x == ("__debug__" : Str)) = false := by decide)
    (hcd : (x == ("__classdict__" : Str)) = false := by decide) (hs : starEach (.Name x p :: es) X.env = (false, eval (.Name x p) X.env) :: starEach es X.env := by rfl) : BkV X W (.Name x p :: es) (some i :: bk) (aRef i q) := by
  refine pa_imp (pa_cons (pe_var hN hv hd hcd) hr hs) fun σ H Q h => ?_
  obtain ⟨F, fp, env, re, s, hm, post⟩ := dB_out h
  unfold aRef at hm
  cases z : (env[i]?).join with
  | none => rw [z] at hm; cases hm
  | some o0 =>
    rw [z] at hm
    obtain ⟨v, f0, e2, _⟩ := s.re.get (slot_of z)
    refine ⟨v, e2, dB_run s hm post.ex fun os e1 vs F2 H2 fp2 f2 s2 h2 st2 bb ex2 hm2 => ?_⟩
    cases z2 : (e1[i]?).join with
    | none => rw [z2] at hm2; cases hm2
    | some o =>
      rw [z2] at hm2
      cases hm2
      obtain ⟨v', fp', fv, e2', s', hv, st⟩ := s2.take (slot_of z2)
      rw [e2] at e2'
      cases e2'
      obtain ⟨_, nf, dj⟩ := st.held (ROs.inn os h2.ro) h2.nf h2.dj
      refine post (v :: vs) F2 H2 fp' (fv ++ f2) s' ⟨⟨v, vs, fv, f2, rfl, rfl, hv.ro, h2.ro⟩, nd_app.mpr ⟨hv.nd, h2.nd, fun a m k => dj a m (List.mem_append_right _ k)⟩, fun a m => ?_, fun a m k => ?_⟩ ?_ ⟨fun j q => by cases q; exact e2, bb⟩
      · rcases List.mem_append.mp m with m | m
        · exact hv.nf a m
        · exact h2.nf a m
      · rcases List.mem_append.mp m with m | m
        · exact hv.dj a m k
        · exact dj a m (List.mem_append_left _ k)
      · refine ⟨st2.ff, fun a u mu e n z => ?_⟩
        obtain ⟨q1, q2, q3⟩ := st2.out a u mu e n z
        obtain ⟨w1, w2, w3⟩ := st.out a u mu q1 (fun k => q3 (List.mem_append_left _ k)) q2
        refine ⟨q1, q2, fun k => ?_⟩
        rcases List.mem_append.mp k with k | k
        · exact w3 (List.mem_append_left _ k)
        · rcases List.mem_append.mp k with k | k
          · exact w3 (List.mem_append_right _ k)
          · exact q3 (List.mem_append_right _ k)
/-- freezing a held answer -/
def eFz (m : EM) : EM := fun env => bindR (m env) fun o e1 => some (.ok (.fz o.fr), e1)
theorem ev_fz {m : EM} (h : EV X W e m) : EV X W e (eFz m) := by
  refine pe_imp h fun σ H Q h => ?_
  obtain ⟨F, fp, env, re, s, hm, post⟩ := dE_out h
  refine dE_run s hm post.ex fun o e1 v F1 H1 fp1 f1 s1 h1 st1 ex1 hm1 => ?_
  cases hm1
  obtain ⟨F2, s2, r2, st2, _⟩ := h1.frz s1
  exact post.fz s2 r2 (st1.trans st2)
/-! ### quiet arguments -/
abbrev QaV (X : Cx) (es : List Expr) (p : Env → Option (List O)) : Prop := PA X es (dQ X.K p)
def qNil : Env → Option (List O) := fun _ => some []
def qCons (p : PM) (q : Env → Option (List O)) : Env → Option (List O) := fun env => (p env).bind fun o => (q env).map fun os => o :: os
theorem qa_nil : QaV X [] qNil := by
  refine pa_imp pa_nil fun σ H Q h => ?_
  obtain ⟨F, fp, env, os, s, hm, post⟩ := h
  cases hm
  exact post [] F H [] (Qt.refl s.fh) ⟨rfl, rfl⟩
theorem qa_cons {p : PM} {q : Env → Option (List O)} (ha : PV X a p) (hr : QaV X es q) (hs : starEach (a :: es) X.env = (false, eval a X.env) :: starEach es X.env := by rfl) : QaV X (a :: es) (qCons p q) := by
  refine pa_imp (pa_cons ha hr hs) fun σ H Q h => ?_
  obtain ⟨F, fp, env, os, s, hm, post⟩ := h
  obtain ⟨o, e1, hm⟩ := Option.bind_eq_some_iff.mp hm
  obtain ⟨os', e2, rfl⟩ := Option.map_eq_some_iff.mp hm
  exact dP_run s e1 fun v F1 H1 f1 q1 r1 => ⟨F1, fp, env, os', s.qt q1, e2, fun vs F2 H2 f2 q2 r2 => post (v :: vs) F2 H2 (f1 ++ f2) (q1.trans q2) ⟨v, vs, f1, f2, rfl, rfl, RO.mono q2.ff o (Same.kp q2.hh) r1, r2⟩⟩
end
end Dv

-- Dv6
set_option maxHeartbeats 4000000
namespace Dv
open PySem PySem.Spec L2
/-! ### what a def computes -/
/-- the arguments (frozen | by reference) to the answer and the arguments behind -/
abbrev FN := List O → Option (Rz O × List O)
def SpX (K : Fg) (f : FN) : Sp := fun vs H Q E => ∃ F fp os r os', Same F H ∧ fp.Nodup ∧ (∀ a ∈ fp, F a = none) ∧ ROs K F H os vs fp ∧ f os = some (r, os') ∧ match r with
  | .ok o => ∀ v F' H' fp' fv, Same F' H' → ROs K F' H' os' vs fp' → RO K F' H' o v fv → (fp' ++ fv).Nodup → (∀ a ∈ fp' ++ fv, F' a = none) → Stp F H fp F' H' (fp' ++ fv) → Q v H'
  | .ex c fs => ∀ d F' H' fp' us, Same F' H' → ROs K F' H' os' vs fp' → fp'.Nodup → (∀ a ∈ fp', F' a = none) → F' d = some (.xd us) → Rf K F' fs us → Stp F H fp F' H' fp' → E (.ref (He.ga K c)) (some d) H'
def isFz : O → Bool
  | .fz _ => true
  | _ => false
/-- the arguments behind: by reference what stands in the slot, else what was handed in -/
def outs : List Bool → List O → Env → Option (List O)
  | [], [], _ => some []
  | true :: ms, _ :: os, some o :: env => (outs ms os env).map fun r => o :: r
  | false :: ms, .fz d :: os, _ :: env => (outs ms os env).map fun r => .fz d :: r
  | _, _, _ => none
def prOf (ms : List Bool) : Nat → Bool := fun i => ms.getD i false
/-- a def by its body's reading: n names, the parameters first -/
def fnD (ms : List Bool) (n : Nat) (m : SM) : FN := fun os => match m (os.map some ++ List.replicate (n - os.length) none) with
  | some (.rt o, env') => (outs ms os env').map fun r => (.ok o, r)
  | some (.nx, env') => (outs ms os env').map fun r => (.ok (.fz .non), r)
  | some (.ex c fs, env') => (outs ms os env').map fun r => (.ex c fs, r)
  | _ => none
section
variable {K : Fg} {F F' H H' : Hp}
theorem ROs.len : ∀ {os : List O} {vs : List V} {fp : List Addr}, ROs K F H os vs fp → vs.length = os.length
  | [], _, _, h => by rw [h.1]; rfl
  | o :: r, _, _, ⟨v, w, f1, f2, h1, _, _, h4⟩ => by rw [h1]; exact congrArg Nat.succ (ROs.len h4)
theorem RE.nones : ∀ (n : Nat) (σ : L2.St), σ.length = n → RE K F H (List.replicate n none) σ []
  | 0, σ, h => ⟨List.length_eq_zero_iff.mp h, rfl⟩
  | n + 1, [], h => by simp at h
  | n + 1, x :: r, h => ⟨x, r, rfl, RE.nones n r (by simpa using h)⟩
theorem RE.args : ∀ {os : List O} {vs : List V} {fp : List Addr} {n : Nat} {r : L2.St}, ROs K F H os vs fp → r.length = n → RE K F H (os.map some ++ List.replicate n none) (vs.map some ++ r) fp
  | [], _, _, n, r, h, hr => by
    obtain ⟨rfl, rfl⟩ := h
    exact RE.nones n r hr
  | o :: os, _, _, n, r, ⟨v, w, f1, f2, h1, h2, h3, h4⟩, hr => by
    subst h1; subst h2
    exact ⟨v, _, f1, f2, rfl, rfl, h3, RE.args h4 hr⟩
theorem RE.outs : ∀ {ms : List Bool} {os : List O} {vs : List V} {env : Env} {σ : L2.St} {fp fq : List Addr} {os' : List O}, RE K F' H' env σ fq → ROs K F H os vs fp → Same F F' → (∀ i, ms.getD i false = true → σ[i]? = (vs.map some)[i]?) → outs ms os env = some os' →
    ∃ fo, fo.Sublist fq ∧ ROs K F' H' os' vs fo
  | [], [], vs, env, σ, fp, fq, os', re, ro, e, hp, h => by
    cases h
    obtain ⟨rfl, rfl⟩ := ro
    exact ⟨[], List.nil_sublist _, rfl, rfl⟩
  | true :: ms, _ :: os, vs, some o :: env, σ, fp, fq, os', ⟨v, r, f1, f2, e1, e2, e3, e4⟩, ⟨v', w, g1, g2, h1, h2, h3, h4⟩, e, hp, h => by
    obtain ⟨r', hr, rfl⟩ := Option.map_eq_some_iff.mp h
    subst e1 e2 h1 h2
    have q := hp 0 rfl
    simp at q
    subst q
    obtain ⟨fo, hs, ho⟩ := RE.outs e4 h4 e (fun i hi => by have := hp (i + 1) (by simpa using hi); simpa using this) hr
    exact ⟨f1 ++ fo, (List.Sublist.refl f1).append hs, v, w, f1, fo, rfl, rfl, e3, ho⟩
  | false :: ms, .fz d :: os, vs, none :: env, σ, fp, fq, os', ⟨x, r, e1, e4⟩, ⟨v', w, g1, g2, h1, h2, h3, h4⟩, e, hp, h => by
    obtain ⟨r', hr, rfl⟩ := Option.map_eq_some_iff.mp h
    subst e1 h1 h2
    obtain ⟨fo, hs, ho⟩ := RE.outs e4 h4 e (fun i hi => by have := hp (i + 1) (by simpa using hi); simpa using this) hr
    exact ⟨fo, hs, v', w, [], fo, rfl, rfl, ⟨rfl, R.mono e d h3.2⟩, ho⟩
  | false :: ms, .fz d :: os, vs, some o :: env, σ, fp, fq, os', ⟨v, r, f1, f2, e1, e2, e3, e4⟩, ⟨v', w, g1, g2, h1, h2, h3, h4⟩, e, hp, h => by
    obtain ⟨r', hr, rfl⟩ := Option.map_eq_some_iff.mp h
    subst e1 e2 h1 h2
    obtain ⟨fo, hs, ho⟩ := RE.outs e4 h4 e (fun i hi => by have := hp (i + 1) (by simpa using hi); simpa using this) hr
    exact ⟨fo, hs.trans (List.sublist_append_right f1 f2), v', w, [], fo, rfl, rfl, ⟨rfl, R.mono e d h3.2⟩, ho⟩
  | [], _ :: _, _, _, _, _, _, _, _, _, _, _, h => by cases h
  | true :: ms, [], _, _, _, _, _, _, _, _, _, _, h => by cases h
  | false :: ms, [], _, _, _, _, _, _, _, _, _, _, h => by cases h
  | true :: ms, _ :: _, _, [], _, _, _, _, _, _, _, _, h => by cases h
  | true :: ms, _ :: _, _, none :: _, _, _, _, _, _, _, _, _, h => by cases h
  | false :: ms, .fz _ :: _, _, [], _, _, _, _, _, _, _, _, h => by cases h
  | false :: ms, .lst _ :: _, _, _, _, _, _, _, _, _, _, _, h => by cases h
  | false :: ms, .dic _ _ :: _, _, _, _, _, _, _, _, _, _, _, h => by cases h
  | false :: ms, .ins _ _ :: _, _, _, _, _, _, _, _, _, _, _, h => by cases h
theorem Stp.sub {fp fp' fo : List Addr} (h : Stp F H fp F' H' fp') (s : ∀ a ∈ fo, a ∈ fp') : Stp F H fp F' H' fo := ⟨h.ff, fun a o mu e n z => let ⟨x, y, w⟩ := h.out a o mu e n z; ⟨x, y, fun k => w (s a k)⟩⟩
end
section
variable {P : Program} {w : World} {K : Fg} {mg : Str → Option Value} {base : Heap}
/-- THE RULE for a def -/
theorem fn_ok {x qual : Str} {params : Arguments} {body : List Stmt} {scope : Scope} {dvs : List V} {kws : List (Str × V)} {f : Addr} {fd : FuncData} {N ps : List Str} {k : Nat} {ms : List Bool} {m : SM}
    (F : FunD K x qual params body scope dvs kws f fd) (S : FnScope N ps scope) (hms : ms.length = ps.length)
    (hb : ∀ (cdv : Value) (A : Around) (outer : List PySem.Env) (s : Shared) (H : Hp) (E : XK), Room k (A.deeper (PyProof.Rows.envOfC qual scope s.heap.objs.size f cdv)) →
      BV (cxOf (L2.CX P w) P w K mg base N qual scope f cdv A outer s H E) (fun cls d _ H => E cls d H) (prOf ms) body m) :
    FnOk P w K mg base (L2.CX P w) (k + 1) f fd ps (SpX K (fnD ms N.length m)) := by
  have len : ∀ vs H Q E, SpX K (fnD ms N.length m) vs H Q E → vs.length = ps.length := fun vs H Q E h => by
    obtain ⟨G, fp, os, r, os', sm, nd, nf, ro, hf, post⟩ := h
    have l : ∀ (ms : List Bool) (os : List O) (env : Env) (r : List O), outs ms os env = some r → os.length = ms.length := by
      intro ms
      induction ms with
      | nil => intro os env r h; cases os with
        | nil => rfl
        | cons _ _ => cases h
      | cons b ms ih => intro os env r h; cases os with
        | nil => cases b <;> cases h
        | cons o os =>
          cases b with
          | true => cases env with
            | nil => cases h
            | cons x env => cases x with
              | none => cases h
              | some x =>
                obtain ⟨r', hr, _⟩ := Option.map_eq_some_iff.mp h
                exact congrArg Nat.succ (ih os env r' hr)
          | false => cases o with
            | fz d => cases env with
              | nil => cases h
              | cons x env =>
                obtain ⟨r', hr, _⟩ := Option.map_eq_some_iff.mp h
                exact congrArg Nat.succ (ih os env r' hr)
            | _ => cases env <;> cases h
    rw [ro.len, ← hms]
    unfold fnD at hf
    split at hf
    · obtain ⟨r', hr, _⟩ := Option.map_eq_some_iff.mp hf; exact l _ _ _ _ hr
    · obtain ⟨r', hr, _⟩ := Option.map_eq_some_iff.mp hf; exact l _ _ _ _ hr
    · obtain ⟨r', hr, _⟩ := Option.map_eq_some_iff.mp hf; exact l _ _ _ _ hr
    · cases hf
  refine F.ok S len (fun cdv A outer s H vs Q E hr h => ?_)
  have hl := len vs H Q E h
  refine ⟨_, hb cdv A outer s H E hr, ?_⟩
  obtain ⟨G, fp, os, r, os', sm, nd, nf, ro, hf, post⟩ := h
  have hpl : ps.length ≤ N.length := by have := congrArg List.length S.pre; rw [List.length_take] at this; omega
  have e0 : SR K G H fp (os.map some ++ List.replicate (N.length - os.length) none) (start N vs) := ⟨sm, nd, nf, by
    unfold L2.start
    refine RE.args ro ?_
    rw [List.length_replicate, ro.len]⟩
  have kp : ∀ {σ' : L2.St}, Kpr (prOf ms) (start N vs) σ' → ∀ i, ms.getD i false = true → σ'[i]? = (vs.map some)[i]? := fun {σ'} k i hi => by
    have q := k.2 i hi
    rw [q]
    unfold L2.start
    have hi2 : i < vs.length := by
      rw [hl, ← hms]
      refine Nat.lt_of_not_le fun z => ?_
      rw [List.getD_eq_getElem?_getD, List.getElem?_eq_none z] at hi
      cases hi
    rw [List.getElem?_append_left (by simpa using hi2)]
  unfold fnD at hf
  split at hf
  · rename_i o env' hm
    obtain ⟨os2, ho, hz⟩ := Option.map_eq_some_iff.mp hf
    cases hz
    refine ⟨G, fp, _, _, _, e0, hm, fun v σ' F' H' fp' fv s' hv st k => ?_⟩
    obtain ⟨fo, hs, ho2⟩ := RE.outs s'.re ro st.ff (kp k) ho
    have nd2 := hv.app s'
    exact post v F' H' fo fv s'.fh ho2 hv.ro (nd2.sublist (hs.append (List.Sublist.refl _))) (fun a m => by
      rcases List.mem_append.mp m with m | m
      · exact s'.nf a (hs.subset m)
      · exact hv.nf a m) (st.sub fun a m => by
      rcases List.mem_append.mp m with m | m
      · exact List.mem_append_left _ (hs.subset m)
      · exact List.mem_append_right _ m)
  · rename_i env' hm
    obtain ⟨os2, ho, hz⟩ := Option.map_eq_some_iff.mp hf
    cases hz
    refine ⟨G, fp, _, _, _, e0, hm, fun σ' F' H' fp' s' st k => ?_⟩
    obtain ⟨fo, hs, ho2⟩ := RE.outs s'.re ro st.ff (kp k) ho
    exact post .non F' H' fo [] s'.fh ho2 ⟨rfl, rfl⟩ (by rw [List.append_nil]; exact s'.nd.sublist hs) (fun a m => s'.nf a (hs.subset (by simpa using m))) (by rw [List.append_nil]; exact st.sub fun a m => hs.subset m)
  · rename_i c fs env' hm
    obtain ⟨os2, ho, hz⟩ := Option.map_eq_some_iff.mp hf
    cases hz
    refine ⟨G, fp, _, _, _, e0, hm, fun σ' d F' H' fp' us s' ed rf st k => ?_⟩
    obtain ⟨fo, hs, ho2⟩ := RE.outs s'.re ro st.ff (kp k) ho
    exact post d F' H' fo us s'.fh ho2 (s'.nd.sublist hs) (fun a m => s'.nf a (hs.subset m)) ed rf (st.sub fun a m => hs.subset m)
  · cases hf
end
/-! ### calls -/
/-- what was handed over by reference goes back into its slot -/
def putB : List (Option Nat) → List O → Env → Option Env
  | some i :: bk, o :: os, env => match env[i]? with
    | some none => putB bk os (env.set i (some o))
    | _ => none
  | none :: bk, _ :: os, env => putB bk os env
  | [], [], env => some env
  | _, _, _ => none
def eCall (f : FN) (bk : List (Option Nat)) (m : AM) : EM := fun env => bindR (m env) fun os e1 => match f os with
  | some (r, os') => (putB bk os' e1).map fun e2 => (r, e2)
  | none => none
section
variable {K : Fg} {F F' H H' : Hp}
/-- an emptied slot gets its value back -/
theorem RE.put : ∀ {env : Env} {σ : L2.St} {fp : List Addr} {i : Nat} {o : O} {v : V} {fv : List Addr}, RE K F H env σ fp → env[i]? = some none → σ[i]? = some (some v) → RO K F H o v fv → ∃ f1 f3, fp = f1 ++ f3 ∧ RE K F H (env.set i (some o)) σ (f1 ++ fv ++ f3)
  | [], _, _, _, _, _, _, _, e, _, _ => by simp at e
  | none :: en, _, _, 0, o, v, fv, ⟨x, r, h1, h2⟩, e, e2, ro => by
    subst h1
    simp at e2
    subst e2
    exact ⟨[], _, rfl, v, r, fv, _, rfl, rfl, ro, h2⟩
  | none :: en, _, _, i + 1, o, v, fv, ⟨x, r, h1, h2⟩, e, e2, ro => by
    subst h1
    obtain ⟨f1, f3, q, h⟩ := RE.put (i := i) h2 (by simpa using e) (by simpa using e2) ro
    exact ⟨f1, f3, q, x, r, rfl, h⟩
  | some p :: en, _, _, 0, _, _, _, _, e, _, _ => by simp at e
  | some p :: en, _, _, i + 1, o, v, fv, ⟨y, r, g1, g2, h1, h2, h3, h4⟩, e, e2, ro => by
    subst h1; subst h2
    obtain ⟨f1, f3, q, h⟩ := RE.put (i := i) h4 (by simpa using e) (by simpa using e2) ro
    exact ⟨g1 ++ f1, f3, by rw [q, List.append_assoc], y, r, g1, f1 ++ fv ++ f3, rfl, by simp [List.append_assoc], h3, h⟩
theorem SR.putBk : ∀ {bk : List (Option Nat)} {os : List O} {vs : List V} {env env' : Env} {σ : L2.St} {fp fo : List Addr}, SR K F H fp env σ → ROs K F H os vs fo → (fp ++ fo).Nodup → (∀ a ∈ fo, F a = none) → Bk σ bk vs → putB bk os env = some env' →
    ∃ fp', SR K F H fp' env' σ ∧ ∀ a ∈ fp', a ∈ fp ++ fo
  | [], [], vs, env, env', σ, fp, fo, s, ro, nd, nf, bb, h => by
    cases h
    exact ⟨fp, s, fun a m => List.mem_append_left _ m⟩
  | none :: bk, o :: os, vs, env, env', σ, fp, fo, s, ⟨v, w, f1, f2, h1, h2, h3, h4⟩, nd, nf, bb, h => by
    subst h1 h2
    have nd2 : (fp ++ f2).Nodup := nd.sublist ((List.Sublist.refl fp).append (List.sublist_append_right f1 f2))
    obtain ⟨fp', s', k⟩   := SR.putBk s h4 nd2 (fun a m => nf a (List.mem_append_right _ m)) bb.2 h
    exact ⟨fp', s', fun a m => by
      rcases List.mem_append.mp (k a m) with k | k
      · exact List.mem_append_left _ k
      · exact List.mem_append_right _ (List.mem_append_right _ k)⟩
  | some i :: bk, o :: os, vs, env, env', σ, fp, fo, s, ⟨v, w, f1, f2, h1, h2, h3, h4⟩, nd, nf, bb, h => by
    subst h1 h2
    unfold putB at h
    split at h
    · rename_i e
      obtain ⟨g1, g3, rfl, re⟩ := RE.put s.re e (bb.1 i rfl) h3
      have n1 := nd_app.mp nd
      have n2 := nd_app.mp n1.2.1
      have n3 : ((g1 ++ f1 ++ g3)).Nodup := nd_mid.mpr (nd_app.mpr ⟨n1.1, n2.1, fun x m => n1.2.2 x (List.mem_append_left _ m)⟩)
      have s2 : SR K F H (g1 ++ f1 ++ g3) (env.set i (some o)) σ := ⟨s.fh, n3, fun a m => by
        rcases mem_mid.mp m with m | m
        · exact s.nf a m
        · exact nf a (List.mem_append_left _ m), re⟩
      obtain ⟨fp', s', k⟩   := SR.putBk s2 h4 (nd_app.mpr ⟨n3, n2.2.1, fun x m z => by
        rcases mem_mid.mp z with z | z
        · exact n1.2.2 x (List.mem_append_right _ m) z
        · exact n2.2.2 x m z⟩) (fun a m => nf a (List.mem_append_right _ m)) bb.2 h
      exact ⟨fp', s', fun a m => by
        rcases List.mem_append.mp (k a m) with k | k
        · rcases mem_mid.mp k with k | k
          · exact List.mem_append_left _ k
          · exact List.mem_append_right _ (List.mem_append_left _ k)
        · exact List.mem_append_right _ (List.mem_append_right _ k)⟩
    · cases h
  | [], _ :: _, _, _, _, _, _, _, _, _, _, _, _, h => by cases h
  | some _ :: _, [], _, _, _, _, _, _, _, _, _, _, _, h => by cases h
  | none :: _, [], _, _, _, _, _, _, _, _, _, _, _, h => by cases h
end
section
variable {X : Cx} {W : WX} {k : Nat} {f C : Addr} {fd : FuncData} {ps : List Str} {x m : Str} {p pos apos : Pos} {e o : Expr} {es : List Expr} {fn : FN} {bk : List (Option Nat)} {am : AM}
/-- from the arguments to the promise -/
theorem call_go {K : Fg} {F H : Hp} {fp fv : List Addr} {e1 : Env} {σ : L2.St} {os : List O} {vs : List V} {r : Rz O × Env} {Q : VK} (s : SR K F H fp e1 σ) (h : HVs K F H fp os vs fv) (bb : Bk σ bk vs)
    (hf : (match fn os with
      | some (r, os') => (putB bk os' e1).map fun e2 => (r, e2)
      | none => none) = some r) (post : PE' K W F H (fp ++ fv) σ r Q) : SpX K fn vs H Q (WE W σ) := by
  cases hz : fn os with
  | none => rw [hz] at hf; cases hf
  | some z =>
    obtain ⟨r0, os'⟩ := z
    rw [hz] at hf
    obtain ⟨e2, hp, rfl⟩ := Option.map_eq_some_iff.mp hf
    refine ⟨F, fv, os, r0, os', s.fh, h.nd, h.nf, h.ro, hz, ?_⟩
    have inn := RE.inn e1 s.re
    cases r0 with
    | ok o =>
      intro v F' H' fo fu sm ro2 rv nd nf st
      -- the caller's slots, apart from what was handed over
      have kk := st.held inn s.nf (fun a m z => h.dj a z m)
      have nd2 := nd_app.mp nd
      have s1 : SR K F' H' fp e1 σ := ⟨sm, s.nd, kk.2.1, RE.mono st.ff e1 kk.1 s.re⟩
      obtain ⟨fp', s', hin⟩   := SR.putBk s1 ro2 (nd_app.mpr ⟨s.nd, nd2.1, fun x m z => kk.2.2 x z (List.mem_append_left _ m)⟩) (fun a m => nf a (List.mem_append_left _ m)) bb hp
      refine post.ok s' ⟨rv, nd2.2.1, fun a m => nf a (List.mem_append_right _ m), fun a m z => ?_⟩ ⟨st.ff, fun a u mu q n z => ?_⟩
      · rcases List.mem_append.mp (hin a z) with z | z
        · exact kk.2.2 a z (List.mem_append_right _ m)
        · exact nd2.2.2 a m z
      · obtain ⟨q1, z1, n1⟩ := st.out a u mu q (fun y => n (List.mem_append_right _ y)) z
        refine ⟨q1, z1, fun y => ?_⟩
        rcases List.mem_append.mp y with y | y
        · rcases List.mem_append.mp (hin a y) with y | y
          · exact n (List.mem_append_left _ y)
          · exact n1 (List.mem_append_left _ y)
        · exact n1 (List.mem_append_right _ y)
    | ex c fs =>
      intro d F' H' fo us sm ro2 nd nf ed rf st
      have kk := st.held inn s.nf (fun a m z => h.dj a z m)
      have s1 : SR K F' H' fp e1 σ := ⟨sm, s.nd, kk.2.1, RE.mono st.ff e1 kk.1 s.re⟩
      obtain ⟨fp', s', hin⟩   := SR.putBk s1 ro2 (nd_app.mpr ⟨s.nd, nd, fun x m z => kk.2.2 x z m⟩) nf bb hp
      refine post.ex c fs e2 rfl d F' H' fp' us s' ed rf ⟨st.ff, fun a u mu q n z => ?_⟩
      obtain ⟨q1, z1, n1⟩ := st.out a u mu q (fun y => n (List.mem_append_right _ y)) z
      refine ⟨q1, z1, fun y => ?_⟩
      rcases List.mem_append.mp (hin a y) with y | y
      · exact n (List.mem_append_left _ y)
      · exact n1 y
theorem PE'.onv {K : Fg} {F F' H H' : Hp} {fp fp' fv σ r} {Q : VK} (p : PE' K W F H fp σ r Q) (st : Stp F H fp F' H' (fp' ++ fv)) : PE' K W F' H' (fp' ++ fv) σ r Q := by
  obtain ⟨r, e⟩ := r
  cases r with
  | ok o => exact fun v F2 H2 fp2 f2 s h st2 => p.ok s h (st.trans st2)
  | ex c fs => exact fun d F2 H2 fp2 us s a b st2 => p.ex c fs e rfl d F2 H2 fp2 us s a b (st.trans st2)
theorem call_rd {K : Fg} {σ H Q} (h : dE K W (eCall fn bk am) σ H Q) : tCallS (SpX K fn) (WE W) (dB K W bk am) σ H Q := by
  obtain ⟨F, fp, env, re, s, hm, post⟩ := dE_out h
  refine dB_run s hm post.ex fun os e1 vs F1 H1 fp1 f1 s1 h1 st1 bb ex1 hm1 => ?_
  exact call_go s1 h1 bb hm1 (post.onv st1)
/-- f(..) -/
theorem ev_call (Fo : FnOk X.prog X.w X.K X.mg X.base (L2.CX X.prog X.w) k f fd ps (SpX X.K fn)) (hr : Room k X.A) (hg : Gl X x) (hm : X.mg x = some (.ref f)) (hk : PySem.W.keepIn X.K (.ref f) = true) (hb : Binds X.K fd ps []) (tk : Takes X W) (ha : BkV X W (e :: es) bk am)
    (hdb : (x == ("__debug__" : Str)) = false := by decide) (he : starEach (e :: es) X.env = (false, eval e X.env) :: starEach es X.env := by rfl) (hpl : (backTo pos (starEach es X.env)).any (·.1) = false := by rfl) :
    EV X W (.Call (.Name x p) (e :: es) [] pos) (eCall fn bk am) := pe_imp (pe_callS Fo hr hg hm hk hb (passAt tk) ha hdb he hpl) fun _ _ _ z => call_rd z
theorem ev_call0 (Fo : FnOk X.prog X.w X.K X.mg X.base (L2.CX X.prog X.w) k f fd ps (SpX X.K fn)) (hr : Room k X.A) (hg : Gl X x) (hm : X.mg x = some (.ref f)) (hk : PySem.W.keepIn X.K (.ref f) = true) (hb : Binds X.K fd ps []) (tk : Takes X W)
    (hdb : (x == ("__debug__" : Str)) = false := by decide) : EV X W (.Call (.Name x p) [] [] pos) (eCall fn [] aNil) := by
  refine pe_imp (pe_callS0 Fo hr hg hm hk hb (passAt tk) hdb) fun σ H Q z => ?_
  obtain ⟨F, fp, env, re, s, hm, post⟩ := dE_out z
  exact call_go (bk := []) s HVs.nil trivial hm (post.onv Stp.refl.nl)
end
end Dv

-- Dv7
set_option maxHeartbeats 4000000
namespace Dv
open PySem PySem.Spec L2
/-! ### alloc -/
section
variable {K : Fg} {F F' H H' : Hp} {fp fp' fv : List Addr} {env : Env} {σ : L2.St} {p : Addr} {o : HO}
theorem Same.updx (e : Same F H) (hp : H p = none) : Same F (upd H p o) := fun a u q => by
  rw [upd_ne (ne_of_none (e _ _ q) hp)]; exact e _ _ q
theorem Same.newx (hp : H p = none) : Same H (upd H p o) := fun a u q => by
  rw [upd_ne (ne_of_none q hp)]; exact q
theorem In.ne (h : In H fp) (hp : H p = none) : ∀ a ∈ fp, a ≠ p := fun a m z => by
  obtain ⟨u, e, _⟩ := h a m
  rw [z, hp] at e
  cases e
theorem SR.alloc (s : SR K F H fp env σ) (hp : H p = none) : SR K F (upd H p o) fp env σ := ⟨Same.updx s.fh hp, s.nd, s.nf, RE.mono (Same.refl F) env (Same.kp (Same.newx hp)) s.re⟩
theorem HVs.hv {os : List O} {vs : List V} (s : SR K F H fp env σ) (h : HVs K F H fp os vs fv) (hp : H p = none) : HV K F (upd H p (.lst vs)) fp (.lst os) (.ref p) (p :: fv) := by
  have n1 := In.ne (ROs.inn os h.ro) hp
  refine ⟨⟨p, vs, fv, rfl, upd_same, rfl, ROs.mono (Same.refl F) os (Same.kp (Same.newx hp)) h.ro⟩, List.nodup_cons.mpr ⟨fun m => n1 p m rfl, h.nd⟩, fun a m => ?_, fun a m k => ?_⟩
  · rcases List.mem_cons.mp m with rfl | m
    · exact s.fh.free hp
    · exact h.nf a m
  · rcases List.mem_cons.mp m with rfl | m
    · exact In.ne (RE.inn env s.re) hp a k rfl
    · exact h.dj a m k
theorem Stp.new (st : Stp F H fp F' H' (fp' ++ fv)) (hp : H' p = none) : Stp F H fp F' (upd H' p o) (fp' ++ (p :: fv)) := ⟨st.ff, fun a u mu q n z => by
  obtain ⟨q1, z1, n1⟩ := st.out a u mu q n z
  refine ⟨by rw [upd_ne (ne_of_none q1 hp)]; exact q1, z1, fun k => ?_⟩
  rcases List.mem_append.mp k with k | k
  · exact n1 (List.mem_append_left _ k)
  · rcases List.mem_cons.mp k with k | k
    · exact ne_of_none q1 hp k
    · exact n1 (List.mem_append_right _ k)⟩
theorem Stp.new0 (st : Stp F H fp F' H' fp') (hp : H' p = none) : Stp F H fp F' (upd H' p o) fp' := ⟨st.ff, fun a u mu q n z => by
  obtain ⟨q1, z1, n1⟩ := st.out a u mu q n z
  exact ⟨by rw [upd_ne (ne_of_none q1 hp)]; exact q1, z1, n1⟩⟩
end
def allFz : List O → Option (List D)
  | [] => some []
  | .fz d :: r => (allFz r).map fun ds => d :: ds
  | _ => none
theorem allFz_ro {K : Fg} {F H : Hp} : ∀ {os : List O} {ds : List D} {vs : List V} {fp : List Addr}, allFz os = some ds → ROs K F H os vs fp → Rs K F ds vs
  | [], _, _, _, h, ro => by cases h; exact ro.1
  | .fz d :: r, _, _, _, h, ⟨v, w, f1, f2, h1, h2, h3, h4⟩ => by
    obtain ⟨ds, e, rfl⟩ := Option.map_eq_some_iff.mp h
    exact ⟨v, w, h1, h3.2, allFz_ro e h4⟩
  | .lst _ :: _, _, _, _, h, _ => by cases h
  | .dic _ _ :: _, _, _, _, h, _ => by cases h
  | .ins _ _ :: _, _, _, _, h, _ => by cases h
theorem allFz_len : ∀ {os : List O} {ds : List D}, allFz os = some ds → ds.length = os.length
  | [], _, h => by cases h; rfl
  | .fz d :: r, _, h => by
    obtain ⟨ds, e, rfl⟩ := Option.map_eq_some_iff.mp h
    exact congrArg Nat.succ (allFz_len e)
  | .lst _ :: _, _, h => by cases h
  | .dic _ _ :: _, _, h => by cases h
  | .ins _ _ :: _, _, h => by cases h
section
variable {X : Cx} {W : WX} {a b c e : Expr} {es : List Expr} {pos : Pos}
/-! ### displays -/
def eLst (m : AM) : EM := fun env => bindR (m env) fun os e1 => if os.length ≤ 1000000 then some (.ok (.lst os), e1) else none
theorem ev_lst {m : AM} {bk} (h : BkV X W es bk m) : EV X W (.List es pos) (eLst m) := by
  refine pe_imp (pe_lst h) fun σ H Q z => ?_
  obtain ⟨F, fp, env, re, s, hm, post⟩ := dE_out z
  refine dB_run s hm post.ex fun os e1 vs F1 H1 fp1 f1 s1 h1 st1 bb ex1 hm1 => ?_
  split at hm1
  · rename_i hl
    cases hm1
    exact ⟨by rw [h1.ro.len]; exact line hl, fun p hp => post.ok (s1.alloc hp) (h1.hv s1 hp) (st1.new hp)⟩
  · cases hm1
def eTup (m : AM) : EM := fun env => bindR (m env) fun os e1 => if os.length ≤ 1000000 then (allFz os).map fun ds => (.ok (.fz (.tup ds)), e1) else none
theorem ev_tup {m : AM} {bk} {k} (h : BkV X W es bk m) : EV X W (.Tuple es k pos) (eTup m) := by
  refine pe_imp (pe_tup h) fun σ H Q z => ?_
  obtain ⟨F, fp, env, re, s, hm, post⟩ := dE_out z
  refine dB_run s hm post.ex fun os e1 vs F1 H1 fp1 f1 s1 h1 st1 bb ex1 hm1 => ?_
  split at hm1
  · rename_i hl
    obtain ⟨ds, hd, rfl⟩ := Option.map_eq_some_iff.mp hm1
    refine ⟨by rw [h1.ro.len]; exact line hl, fun p hp => ?_⟩
    have rs := allFz_ro hd h1.ro
    have q := Qt.new (o := .tup vs) s1.fh hp
    exact post.fz (s1.qt q) ⟨p, vs, rfl, upd_same, Rs.mono q.ff ds rs⟩ (st1.wr.qt s1 q)
  · cases hm1
/-- a quiet tuple -/
def pTup (m : Env → Option (List O)) : PM := fun env => (m env).bind fun os => if os.length ≤ 1000000 then (allFz os).map fun ds => .fz (.tup ds) else none
theorem pv_tup {m : Env → Option (List O)} {k} (h : QaV X es m) : PV X (.Tuple es k pos) (pTup m) := by
  refine pe_imp (pe_tup h) fun σ H Q z => ?_
  obtain ⟨F, fp, env, o, s, hm, post⟩ := z
  obtain ⟨os, e1, hm⟩ := Option.bind_eq_some_iff.mp hm
  split at hm
  · rename_i hl
    obtain ⟨ds, hd, rfl⟩ := Option.map_eq_some_iff.mp hm
    refine ⟨F, fp, env, os, s, e1, fun vs F1 H1 f1 q1 r1 => ⟨by rw [r1.len]; exact line hl, fun p hp => ?_⟩⟩
    have q := Qt.new (o := .tup vs) q1.fh hp
    exact post (.ref p) _ _ [] (q1.trans q) ⟨rfl, p, vs, rfl, upd_same, Rs.mono q.ff ds (allFz_ro hd r1)⟩
  · cases hm
/-! ### subscripts -/
def dkq (t : Nat) (k k' : D) : Bool := if t = 0 then (match dkey k, dkey k' with
  | some a, some b => decide (a = b)
  | _, _ => false) else (match dkeyT k, dkeyT k' with
  | some a, some b => decide (a = b)
  | _, _ => false)
def dget {α : Type} (t : Nat) (k : D) : List (D × α) → Option α
  | [] => none
  | (k', v) :: r => if dkq t k' k then some v else dget t k r
/-- it may be asked -/
def dok (t : Nat) (k : D) : Bool := if t = 0 then (dkey k).isSome else if t = 1 then (dkeyT k).isSome else false
theorem dkeys_rd {K : Fg} {F : Hp} : ∀ {ds : List D} {vs : List V} {ks : List Key}, Rs K F ds vs → dkeys ds = some ks → vs = ks.map kV
  | [], _, _, h, e => by cases h; cases e; rfl
  | d :: r, _, _, ⟨v, w, h1, h2, h3⟩, e => by
    obtain ⟨k, e1, e2⟩ := Option.bind_eq_some_iff.mp e
    obtain ⟨ks, e3, rfl⟩ := Option.map_eq_some_iff.mp e2
    subst h1
    rw [dkeys_rd h3 e3, List.map_cons]
    congr 1
    cases d <;> first | (cases h2; cases e1; rfl) | cases e1
theorem dkey_rd {K : Fg} {F : Hp} {d : D} {v : V} {k : Key} (h : R K F d v) (e : dkey d = some k) : v = kV k := by
  cases d <;> first | (cases h; cases e; rfl) | cases e
theorem dkeyT_rd {K : Fg} {F : Hp} {d : D} {v : V} {k : List Key} (h : R K F d v) (e : dkeyT d = some k) : ∃ b, v = .ref b ∧ F b = some (.tup (k.map kV)) := by
  cases d with
  | tup xs =>
    obtain ⟨a, vs, rfl, h2, h3⟩ := h
    exact ⟨a, rfl, by rw [← dkeys_rd h3 e]; exact h2⟩
  | _ => cases e
theorem ROk.get {K : Fg} {F H : Hp} {k : D} {q : Key} (hq : dkey k = some q) : ∀ {kvs : List (D × O)} {ks : List (Key × V)} {fp : List Addr}, ROk K F H kvs ks fp →
    (∀ o, dget 0 k kvs = some o → ∃ v f, valV ks q = some v ∧ RO K F H o v f ∧ ∀ a ∈ f, a ∈ fp) ∧ (dget 0 k kvs = none → valV ks q = none)
  | [], _, _, h => by
    obtain ⟨rfl, rfl⟩ := h
    exact ⟨(fun o e => by cases e), fun _ => rfl⟩
  | (k', o') :: r, _, _, ⟨q', v, w, f1, f2, h1, h2, h0, h3, h4⟩ => by
    subst h1 h2
    have ih := ROk.get hq h4
    have e0 : dkq 0 k' k = decide (q' = q) := by
      unfold dkq
      rw [if_pos rfl, h0, hq]
    by_cases hh : q' = q
    · rw [decide_eq_true hh] at e0
      refine ⟨fun o e => ?_, fun e => ?_⟩
      · unfold dget at e
        rw [e0, if_pos rfl] at e
        cases e
        exact ⟨v, f1, valV_pos hh, h3, fun a m => List.mem_append_left _ m⟩
      · unfold dget at e
        rw [e0, if_pos rfl] at e
        cases e
    · rw [decide_eq_false hh] at e0
      refine ⟨fun o e => ?_, fun e => ?_⟩
      · unfold dget at e
        rw [e0, if_neg Bool.false_ne_true] at e
        obtain ⟨v2, f, a1, a2, a3⟩ := ih.1 o e
        exact ⟨v2, f, by rw [valV_neg hh]; exact a1, a2, fun a m => List.mem_append_right _ (a3 a m)⟩
      · unfold dget at e
        rw [e0, if_neg Bool.false_ne_true] at e
        rw [valV_neg hh]
        exact ih.2 e
theorem ROt.get {K : Fg} {F H : Hp} {k : D} {q : List Key} (hq : dkeyT k = some q) : ∀ {kvs : List (D × O)} {ks : List (List Key × V)} {fp : List Addr}, ROt K F H kvs ks fp →
    (∀ o, dget 1 k kvs = some o → ∃ v f, valV ks q = some v ∧ RO K F H o v f ∧ ∀ a ∈ f, a ∈ fp) ∧ (dget 1 k kvs = none → valV ks q = none)
  | [], _, _, h => by
    obtain ⟨rfl, rfl⟩ := h
    exact ⟨(fun o e => by cases e), fun _ => rfl⟩
  | (k', o') :: r, _, _, ⟨q', v, w, f1, f2, h1, h2, h0, h3, h4⟩ => by
    subst h1 h2
    have ih := ROt.get hq h4
    have e0 : dkq 1 k' k = decide (q' = q) := by
      unfold dkq
      rw [if_neg (by decide), h0, hq]
    by_cases hh : q' = q
    · rw [decide_eq_true hh] at e0
      refine ⟨fun o e => ?_, fun e => ?_⟩
      · unfold dget at e
        rw [e0, if_pos rfl] at e
        cases e
        exact ⟨v, f1, valV_pos hh, h3, fun a m => List.mem_append_left _ m⟩
      · unfold dget at e
        rw [e0, if_pos rfl] at e
        cases e
    · rw [decide_eq_false hh] at e0
      refine ⟨fun o e => ?_, fun e => ?_⟩
      · unfold dget at e
        rw [e0, if_neg Bool.false_ne_true] at e
        obtain ⟨v2, f, a1, a2, a3⟩ := ih.1 o e
        exact ⟨v2, f, by rw [valV_neg hh]; exact a1, a2, fun a m => List.mem_append_right _ (a3 a m)⟩
      · unfold dget at e
        rw [e0, if_neg Bool.false_ne_true] at e
        rw [valV_neg hh]
        exact ih.2 e
/-- a frozen dict as an owned one without footprint -/
def fzk : List (D × D) → List (D × O)
  | [] => []
  | (k, d) :: r => (k, .fz d) :: fzk r
theorem Rk.ro {K : Fg} {F H : Hp} : ∀ {kvs : List (D × D)} {ks : List (Key × V)}, Rk K F kvs ks → ROk K F H (fzk kvs) ks []
  | [], _, h => ⟨h, rfl⟩
  | (k, d) :: r, _, ⟨q, v, w, h1, h0, h2, h3⟩ => ⟨q, v, w, [], [], h1, rfl, h0, ⟨rfl, h2⟩, Rk.ro h3⟩
theorem Rt.ro {K : Fg} {F H : Hp} : ∀ {kvs : List (D × D)} {ks : List (List Key × V)}, Rt K F kvs ks → ROt K F H (fzk kvs) ks []
  | [], _, h => ⟨h, rfl⟩
  | (k, d) :: r, _, ⟨q, v, w, h1, h0, h2, h3⟩ => ⟨q, v, w, [], [], h1, rfl, h0, ⟨rfl, h2⟩, Rt.ro h3⟩
theorem dget_fzk {t : Nat} {k : D} : ∀ {kvs : List (D × D)}, dget t k (fzk kvs) = (dget t k kvs).map O.fz
  | [] => rfl
  | (k', d) :: r => by
    unfold fzk dget
    split
    · rfl
    · exact dget_fzk
/-- the dict's look at values: the answer or nothing -/
theorem dget_rd {K : Fg} {F H : Hp} {x kx : O} {v kv : V} {t : Nat} {kvs : List (D × O)} {fp fk} (e : Same F H) (hx : RO K F H x v fp) (hk : RO K F H kx kv fk) (hd : x = .dic t kvs ∨ ∃ ks, x = .fz (.dic t ks) ∧ kvs = fzk ks) (ok : dok t kx.fr = true) :
    ∃ a r, v = .ref a ∧ DGet H a kv r ∧ (∀ o, dget t kx.fr kvs = some o → ∃ w f, r = some w ∧ RO K F H o w f ∧ ∀ a ∈ f, a ∈ fp) ∧ (dget t kx.fr kvs = none → r = none) := by
  have rk := hk.rd e
  have go : ∀ (a : Addr) (fq : List Addr), ((∃ ks, t = 0 ∧ H a = some (.dK ks) ∧ ROk K F H kvs ks fq) ∨ ∃ ks, t = 1 ∧ H a = some (.dT ks) ∧ ROt K F H kvs ks fq) →
      ∃ r, DGet H a kv r ∧ (∀ o, dget t kx.fr kvs = some o → ∃ w f, r = some w ∧ RO K F H o w f ∧ ∀ a ∈ f, a ∈ fq) ∧ (dget t kx.fr kvs = none → r = none) := fun a fq h => by
    rcases h with ⟨ks, rfl, ha, hr⟩ | ⟨ks, rfl, ha, hr⟩
    · unfold dok at ok
      rw [if_pos rfl] at ok
      obtain ⟨q, hq⟩ := Option.isSome_iff_exists.mp ok
      have g := ROk.get hq hr
      refine ⟨valV ks q, ?_, fun o h => ?_, g.2⟩
      · rw [dkey_rd rk hq]; exact .k ha
      · obtain ⟨w, f, a1, a2, a3⟩ := g.1 o h
        exact ⟨w, f, a1, a2, a3⟩
    · unfold dok at ok
      rw [if_neg (by decide), if_pos rfl] at ok
      obtain ⟨q, hq⟩ := Option.isSome_iff_exists.mp ok
      have g := ROt.get hq hr
      obtain ⟨b, rfl, hb⟩ := dkeyT_rd rk hq
      refine ⟨valV ks q, .t ha hb, fun o h => ?_, g.2⟩
      obtain ⟨w, f, a1, a2, a3⟩ := g.1 o h
      exact ⟨w, f, a1, a2, a3⟩
  rcases hd with rfl | ⟨ks, rfl, rfl⟩
  · obtain ⟨a, fq, rfl, rfl, h⟩ := hx
    obtain ⟨r, g1, g2, g3⟩ := go a fq h
    exact ⟨a, r, rfl, g1, fun o h => by
      obtain ⟨w, f, a1, a2, a3⟩ := g2 o h
      exact ⟨w, f, a1, a2, fun b m => List.mem_cons_of_mem _ (a3 b m)⟩, g3⟩
  · obtain ⟨rfl, a, rfl, h⟩ := hx
    have h2 : ((∃ kq, t = 0 ∧ H a = some (.dK kq) ∧ ROk K F H (fzk ks) kq []) ∨ ∃ kq, t = 1 ∧ H a = some (.dT kq) ∧ ROt K F H (fzk ks) kq []) := by
      rcases h with ⟨kq, ht, ha, hr⟩ | ⟨kq, ht, ha, hr⟩
      · exact .inl ⟨kq, ht, e _ _ ha, Rk.ro hr⟩
      · exact .inr ⟨kq, ht, e _ _ ha, Rt.ro hr⟩
    obtain ⟨r, g1, g2, g3⟩ := go a [] h2
    exact ⟨a, r, rfl, g1, g2, g3⟩
def ixO (x y : O) : Option O := match x, y with
  | .fz (.lst xs), .fz (.int i) => (atI xs i).map .fz
  | .fz (.tup xs), .fz (.int i) => (atI xs i).map .fz
  | .lst xs, .fz (.int i) => atI xs i
  | .fz (.str z), .fz (.int i) => if z.length ≤ 1000000 then (atI z.cps.toList i).map fun c => .fz (.str ⟨#[c]⟩) else none
  | .dic t kvs, k => if dok t k.fr then dget t k.fr kvs else none
  | .fz (.dic t kvs), k => if dok t k.fr then (dget t k.fr kvs).map .fz else none
  | _, _ => none
def rIxD : R2 := fun x y H Q => ∃ a v, x = .ref a ∧ DGet H a y (some v) ∧ Q v H
theorem ix_dict (hu : X.A.units + 1 < cLine) : IxR X rIxD := by
  intro value slice pins s σ H x y v u Q I rx ry h hs
  obtain ⟨a, w, rfl, g, q⟩ := h
  obtain rfl : v = Value.ref a := rx
  exact PyProof.Rows.tail_any (dict_typeIs I g) PySem.F.slot_dict_getitem.lookup (d_getItem hu I g ry fun w' s3 I3 rw' => ⟨w, H, I3, rw', q⟩) hs
theorem IxR.or' {r r' : R2} (h : IxR X r) (h' : IxR X r') : IxR X (fun x y H Q => r x y H Q ∨ r' x y H Q) := h.or h'
abbrev rIxA (K : Fg) : R2 := fun x y H Q => rIx K x y H Q ∨ rIxD x y H Q
theorem Rs.at {K : Fg} {F : Hp} {ds : List D} {vs : List V} {d : D} : ∀ {j : Nat}, Rs K F ds vs → ds[j]? = some d → ∃ v, vs[j]? = some v ∧ R K F d v := by
  induction ds generalizing vs with
  | nil => intro j h e; simp at e
  | cons x r ih =>
    intro j h e
    obtain ⟨v, w, rfl, h2, h3⟩ := h
    cases j with
    | zero => simp at e; subst e; exact ⟨v, rfl, h2⟩
    | succ j => obtain ⟨u, e2, ru⟩ := ih (j := j) h3 (by simpa using e); exact ⟨u, by simpa using e2, ru⟩
theorem ROs.at {K : Fg} {F H : Hp} {os : List O} {vs : List V} {fp} {o : O} : ∀ {j : Nat}, ROs K F H os vs fp → os[j]? = some o → ∃ v f, vs[j]? = some v ∧ RO K F H o v f ∧ ∀ a ∈ f, a ∈ fp := by
  induction os generalizing vs fp with
  | nil => intro j h e; simp at e
  | cons x r ih =>
    intro j h e
    obtain ⟨v, w, f1, f2, rfl, rfl, h2, h3⟩ := h
    cases j with
    | zero => simp at e; subst e; exact ⟨v, f1, rfl, h2, fun a m => List.mem_append_left _ m⟩
    | succ j => obtain ⟨u, f, e2, ru, k⟩ := ih (j := j) h3 (by simpa using e); exact ⟨u, f, by simpa using e2, ru, fun a m => List.mem_append_right _ (k a m)⟩
theorem atI_rel {α β : Type} {xs : List α} {ys : List β} {i : Int} {x : α} (hl : ys.length = xs.length) (h : atI xs i = some x) : ∃ j : Nat, xs[j]? = some x ∧ ∀ y, ys[j]? = some y → atI ys i = some y := by
  unfold atI at h
  obtain ⟨j, e1, e2⟩ := Option.bind_eq_some_iff.mp h
  exact ⟨j, e2, fun y e3 => by unfold atI; rw [hl, e1]; exact e3⟩
/-- the subscript at values -/
theorem ix_rd {K : Fg} {F H : Hp} {x y o : O} {v w : V} {fx fy : List Addr} {Q : VK} (e : Same F H) (hx : RO K F H x v fx) (hy : RO K F H y w fy) (h : ixO x y = some o) (q : ∀ u f, RO K F H o u f → (∀ a ∈ f, a ∈ fx) → Q u H) : rIxA K v w H Q := by
  unfold ixO at h
  split at h
  · rename_i xs i
    obtain ⟨d, hd, rfl⟩ := Option.map_eq_some_iff.mp h
    obtain ⟨rfl, a, vs, rfl, ha, rs⟩ := hx
    obtain ⟨j, h1, h2⟩ := atI_rel rs.len hd
    obtain ⟨u, e1, ru⟩ := rs.at h1
    exact .inl (.inl ⟨a, vs, i, u, rfl, hy.2, e.seq ha, h2 u e1, q u [] ⟨rfl, ru⟩ (fun _ m => nomatch m)⟩)
  · rename_i xs i
    obtain ⟨d, hd, rfl⟩ := Option.map_eq_some_iff.mp h
    obtain ⟨rfl, a, vs, rfl, ha, rs⟩ := hx
    obtain ⟨j, h1, h2⟩ := atI_rel rs.len hd
    obtain ⟨u, e1, ru⟩ := rs.at h1
    exact .inl (.inr (.inl ⟨a, vs, i, u, rfl, hy.2, SqT.of (e _ _ ha), h2 u e1, q u [] ⟨rfl, ru⟩ (fun _ m => nomatch m)⟩))
  · rename_i xs i
    obtain ⟨a, vs, fq, rfl, ha, rfl, rs⟩ := hx
    obtain ⟨j, h1, h2⟩ := atI_rel rs.len h
    obtain ⟨u, f, e1, ru, kf⟩ := rs.at h1
    exact .inl (.inl ⟨a, vs, i, u, rfl, hy.2, SqL.of ha, h2 u e1, q u f ru fun b m => List.mem_cons_of_mem _ (kf b m)⟩)
  · rename_i z i
    split at h
    · rename_i hl
      obtain ⟨c, hc, rfl⟩ := Option.map_eq_some_iff.mp h
      exact .inl (.inr (.inr ⟨z, i, c, hx.2, hy.2, line hl, hc, q _ [] ⟨rfl, rfl⟩ (fun _ m => nomatch m)⟩))
    · cases h
  · rename_i t kvs
    split at h
    · rename_i ok
      obtain ⟨a, r, rfl, g1, g2, g3⟩ := dget_rd e hx hy (.inl rfl) ok
      obtain ⟨u, f, rfl, ru, kf⟩ := g2 o h
      exact .inr ⟨a, u, rfl, g1, q u f ru kf⟩
    · cases h
  · rename_i t kvs
    split at h
    · rename_i ok
      obtain ⟨a, r, rfl, g1, g2, g3⟩ := dget_rd e hx hy (.inr ⟨kvs, rfl, rfl⟩) ok
      obtain ⟨u, f, rfl, ru, kf⟩ := g2 o (by rw [dget_fzk]; exact h)
      exact .inr ⟨a, u, rfl, g1, q u f ru kf⟩
    · cases h
  · cases h
theorem ix_any {k : Nat} (hr : Room k X.A) : IxR X (rIxA X.K) := IxR.or' ix_seq (ix_dict (hu_of hr))
def pIx (p q : PM) : PM := fun env => (p env).bind fun x => (q env).bind fun y => ixO x y
theorem pv_ix {k : Nat} (hr : Room k X.A) {p q : PM} (ha : PV X a p) (hb : PV X b q) (hs : PlainIx b := by exact fun _ _ => rfl) : PV X (.Subscript a b pos) (pIx p q) := by
  refine pe_imp (pe_ix (ix_any hr) ha hb hs) fun σ H Q z => ?_
  obtain ⟨F, fp, env, o, s, hm, post⟩ := z
  obtain ⟨x, e1, hm⟩ := Option.bind_eq_some_iff.mp hm
  obtain ⟨y, e2, hm⟩ := Option.bind_eq_some_iff.mp hm
  refine dP_run s e1 fun v F1 H1 f1 q1 r1 => dP_run (s.qt q1) e2 fun w F2 H2 f2 q2 r2 => ?_
  exact ix_rd q2.fh (RO.mono q2.ff x (Same.kp q2.hh) r1) r2 hm fun u f ru _ => post u F2 H2 f (q1.trans q2) ru
/-- both effectful: what is taken out is frozen -/
def eIx (p q : EM) : EM := fun env => bindR (p env) fun x e1 => bindR (q e1) fun y e2 => match ixO x y with
  | some (.fz d) => some (.ok (.fz d), e2)
  | _ => none
theorem ev_ix {k : Nat} (hr : Room k X.A) {p q : EM} (ha : EV X W a p) (hb : EV X W b q) (hs : PlainIx b := by exact fun _ _ => rfl) : EV X W (.Subscript a b pos) (eIx p q) := by
  refine pe_imp (pe_ix (ix_any hr) ha hb hs) fun σ H Q z => ?_
  obtain ⟨F, fp, env, re, s, hm, post⟩ := dE_out z
  refine dE_run s hm post.ex fun x e1 v F1 H1 fp1 f1 s1 h1 st1 ex1 hm1 => dE_run s1 hm1 ex1 fun y e2 w F2 H2 fp2 f2 s2 h2 st2 ex2 hm2 => ?_
  split at hm2
  · rename_i d hd
    cases hm2
    exact ix_rd s2.fh (h1.on st2).ro h2.ro hd fun u f ru _ => post.fz s2 ru.2 ((st1.wr.trans st2).wr)
  · cases hm2
/-- a name, its index effectful: the name is read behind the index -/
def eIxN (i : Nat) (q : EM) : EM := fun env => bindR (q env) fun y e2 => ((e2[i]?).join).bind fun x => match ixO x y with
  | some (.fz d) => some (.ok (.fz d), e2)
  | _ => none
theorem ev_ixN {k : Nat} (hr : Room k X.A) (i : Nat) {x : Str} {pp : Pos} {q : EM} (hb : EV X W b q) (hN : X.N[i]? = some x := by rfl) (hv : Vis X.env.scope x := by first | exact Or.inl rfl | exact Or.inr (Or.inl rfl) | exact Or.inr (Or.inr rfl)) (hd : (x == ("__debug__" : Str)) = false := by decide)
    (hcd : (x == ("__classdict__" : Str)) = false := by decide) (hs : PlainIx b := by exact fun _ _ => rfl) : EV X W (.Subscript (.Name x pp) b pos) (fun env => match (env[i]?).join with | some _ => eIxN i q env | none => none) := by
  refine pe_imp (pe_ix (ix_any hr) (pe_var hN hv hd hcd) hb hs) fun σ H Q z => ?_
  obtain ⟨F, fp, env, re, s, hm, post⟩ := dE_out z
  cases q0 : (env[i]?).join with
  | none => rw [q0] at hm; cases hm
  | some o0 =>
    rw [q0] at hm
    have gt : ∀ {e : Env} {o : O}, (e[i]?).join = some o → e[i]? = some (some o) := fun {e o} h => by
      cases y : e[i]? with
      | none => rw [y] at h; cases h
      | some z => rw [y] at h; exact congrArg some h
    obtain ⟨v, f0, ev, _⟩ := s.re.get (gt q0)
    refine ⟨v, ev, dE_run s hm post.ex fun y e2 w F2 H2 fp2 f2 s2 h2 st2 ex2 hm2 => ?_⟩
    obtain ⟨x2, hx2, hm2⟩ := Option.bind_eq_some_iff.mp hm2
    obtain ⟨v2, fx, ev2, rx⟩ := s2.re.get (gt hx2)
    rw [ev] at ev2
    cases ev2
    split at hm2
    · rename_i d hd
      cases hm2
      exact ix_rd s2.fh rx h2.ro hd fun u f ru _ => post.fz s2 ru.2 st2.wr
    · cases hm2
end
end Dv

-- Dv8
set_option maxHeartbeats 4000000
namespace Dv
open PySem PySem.Spec L2
/-! ### attributes -/
def FldOk (K : Fg) (f : Str) (cs : List Str) : Prop := ∀ c ∈ cs, Cls K (He.ga K c) ∧ NoAttr K (He.ga K c) f
theorem FldOk.nil {K : Fg} {f : Str} : FldOk K f [] := fun _ h => nomatch h
theorem FldOk.cons {K : Fg} {f c : Str} {cs : List Str} (h1 : Cls K (He.ga K c)) (h2 : NoAttr K (He.ga K c) f) (h : FldOk K f cs) : FldOk K f (c :: cs) := fun d m => by
  rcases List.mem_cons.mp m with rfl | m
  · exact ⟨h1, h2⟩
  · exact h d m
def fldO (cs : List Str) (f : Str) : O → Option O
  | .fz (.ins c fs) => if cs.contains c then (fs.lookup f).map .fz else none
  | .ins c fs => if cs.contains c then fs.lookup f else none
  | _ => none
theorem Rf.look {K : Fg} {F : Hp} {f : Str} : ∀ {fs : List (Str × D)} {us : List (Str × V)}, Rf K F fs us → (∀ d, fs.lookup f = some d → ∃ v, us.lookup f = some v ∧ R K F d v) ∧ (fs.lookup f = none → us.lookup f = none)
  | [], _, h => by
    cases h
    exact ⟨(fun d e => by cases e), fun _ => rfl⟩
  | (g, d) :: r, _, ⟨v, w, h1, h2, h3⟩ => by
    subst h1
    have ih := Rf.look (f := f) h3
    by_cases e : f = g
    · subst e
      refine ⟨fun d' e => ?_, fun e => ?_⟩
      · simp [List.lookup] at e
        subst e
        exact ⟨v, by simp [List.lookup], h2⟩
      · simp [List.lookup] at e
    · have e' : (f == g) = false := by simpa using e
      refine ⟨fun d' q => ?_, fun q => ?_⟩
      · simp only [List.lookup, e'] at q ⊢
        exact ih.1 d' q
      · simp only [List.lookup, e'] at q ⊢
        exact ih.2 q
theorem ROf.look {K : Fg} {F H : Hp} {f : Str} : ∀ {fs : List (Str × O)} {us : List (Str × V)} {fp : List Addr}, ROf K F H fs us fp → (∀ d, fs.lookup f = some d → ∃ v g, us.lookup f = some v ∧ RO K F H d v g ∧ ∀ a ∈ g, a ∈ fp) ∧ (fs.lookup f = none → us.lookup f = none)
  | [], _, _, h => by
    obtain ⟨rfl, rfl⟩ := h
    exact ⟨(fun d e => by cases e), fun _ => rfl⟩
  | (g, d) :: r, _, _, ⟨v, w, f1, f2, h1, h0, h2, h3⟩ => by
    subst h1 h0
    have ih := ROf.look (f := f) h3
    by_cases e : f = g
    · subst e
      refine ⟨fun d' e => ?_, fun e => ?_⟩
      · simp [List.lookup] at e
        subst e
        exact ⟨v, f1, by simp [List.lookup], h2, fun a m => List.mem_append_left _ m⟩
      · simp [List.lookup] at e
    · have e' : (f == g) = false := by simpa using e
      refine ⟨fun d' q => ?_, fun q => ?_⟩
      · simp only [List.lookup, e'] at q ⊢
        obtain ⟨v', g', a1, a2, a3⟩ := ih.1 d' q
        exact ⟨v', g', a1, a2, fun a m => List.mem_append_right _ (a3 a m)⟩
      · simp only [List.lookup, e'] at q ⊢
        exact ih.2 q
theorem fld_rd {K : Fg} {F H : Hp} {cs : List Str} {f : Str} {x o : O} {v : V} {fx : List Addr} {Q : VK} (ok : FldOk K f cs) (e : Same F H) (hx : RO K F H x v fx) (h : fldO cs f x = some o) (q : ∀ u g, RO K F H o u g → (∀ a ∈ g, a ∈ fx) → Q u H) :
    ∃ a C dx fs u, v = .ref a ∧ H a = some (.ins C dx fs) ∧ Cls K C ∧ NoAttr K C f ∧ fs.lookup f = some u ∧ Q u H := by
  unfold fldO at h
  split at h
  · rename_i c fs
    split at h
    · rename_i hc
      obtain ⟨d, hd, rfl⟩ := Option.map_eq_some_iff.mp h
      obtain ⟨rfl, a, dx, us, rfl, ha, rf⟩ := hx
      obtain ⟨u, e1, ru⟩ := rf.look.1 d hd
      have k := ok c (by simpa using hc)
      exact ⟨a, _, dx, us, u, rfl, e _ _ ha, k.1, k.2, e1, q u [] ⟨rfl, ru⟩ (fun _ m => nomatch m)⟩
    · cases h
  · rename_i c fs
    split at h
    · rename_i hc
      obtain ⟨a, dx, us, fq, rfl, ha, rfl, rf⟩ := hx
      obtain ⟨u, g, e1, ru, kf⟩ := rf.look.1 o h
      have k := ok c (by simpa using hc)
      exact ⟨a, _, dx, us, u, rfl, ha, k.1, k.2, e1, q u g ru fun b m => List.mem_cons_of_mem _ (kf b m)⟩
    · cases h
  · cases h
def pFld (cs : List Str) (f : Str) (p : PM) : PM := fun env => (p env).bind (fldO cs f)
section
variable {X : Cx} {W : WX} {a b c e o : Expr} {es : List Expr} {pos : Pos}
theorem pv_fld {cs : List Str} {f : Str} {p : PM} (ok : FldOk X.K f cs) (h : PV X e p) (hb : attributeBase e f X.env (eval e X.env) = eval e X.env := by rfl) : PV X (.Attribute e f pos) (pFld cs f p) := by
  refine pe_imp (pe_fld h hb) fun σ H Q z => ?_
  obtain ⟨F, fp, env, o, s, hm, post⟩ := z
  obtain ⟨x, e1, hm⟩ := Option.bind_eq_some_iff.mp hm
  refine dP_run s e1 fun v F1 H1 f1 q1 r1 => ?_
  exact fld_rd ok q1.fh r1 hm fun u g ru _ => post u F1 H1 g q1 ru
/-- of an effectful answer: what is taken out is frozen -/
def eFld (cs : List Str) (f : Str) (p : EM) : EM := fun env => bindR (p env) fun x e1 => match fldO cs f x with
  | some (.fz d) => some (.ok (.fz d), e1)
  | _ => none
theorem ev_fld {cs : List Str} {f : Str} {p : EM} (ok : FldOk X.K f cs) (h : EV X W e p) (hb : attributeBase e f X.env (eval e X.env) = eval e X.env := by rfl) : EV X W (.Attribute e f pos) (eFld cs f p) := by
  refine pe_imp (pe_fld h hb) fun σ H Q z => ?_
  obtain ⟨F, fp, env, re, s, hm, post⟩ := dE_out z
  refine dE_run s hm post.ex fun x e1 v F1 H1 fp1 f1 s1 h1 st1 ex1 hm1 => ?_
  split at hm1
  · rename_i d hd
    cases hm1
    exact fld_rd ok s1.fh h1.ro hd fun u f ru _ => post.fz s1 ru.2 st1.wr
  · cases hm1
/-! ### quiet calls: all that is read stays as it is; the answer is built of tuples and flat things -/
mutual
def tupO : D → Bool
  | .non => true
  | .bl _ => true
  | .int _ => true
  | .str _ => true
  | .glo _ => true
  | .ty _ => true
  | .tup xs => tupOs xs
  | _ => false
def tupOs : List D → Bool
  | [] => true
  | d :: r => tupO d && tupOs r
end
/-- F and the tuples of H -/
def tupF (F H : Hp) : Hp := fun a => match H a with
  | some (.tup xs) => some (.tup xs)
  | some (.frz o u) => some (.frz o u)
  | _ => F a
mutual
theorem R.tupF {K : Fg} {F H : Hp} : ∀ (d : D) {v : V}, tupO d = true → R K H d v → R K (tupF F H) d v
  | .non, _, _, h => h
  | .bl _, _, _, h => h
  | .int _, _, _, h => h
  | .str _, _, _, h => h
  | .glo _, _, _, h => h
  | .ty _, _, _, h => h
  | .tup xs, _, k, ⟨a, vs, h1, h2, h3⟩ => ⟨a, vs, h1, by unfold Dv.tupF; rw [h2], Rs.tupF xs k h3⟩
  | .lst _, _, k, _ => by cases k
  | .dic _ _, _, k, _ => by cases k
  | .ins _ _, _, k, _ => by cases k
theorem Rs.tupF {K : Fg} {F H : Hp} : ∀ (d : List D) {v : List V}, tupOs d = true → Rs K H d v → Rs K (tupF F H) d v
  | [], _, _, h => h
  | d :: r, _, k, ⟨v, w, h1, h2, h3⟩ => by
    have k2 := Bool.and_eq_true_iff.mp (show (tupO d && tupOs r) = true from k)
    exact ⟨v, w, h1, R.tupF d k2.1 h2, Rs.tupF r k2.2 h3⟩
end
theorem Qt.tupF {F F1 H H1 : Hp} (e : Same F H) (hh : Same H H1) : Qt F H (tupF F H1) H1 := by
  refine ⟨fun a o q => ?_, fun a o q => ?_, hh, fun a o mu q n => ?_⟩
  · have h1 := hh _ _ (e _ _ q)
    unfold Dv.tupF
    rw [h1]
    cases o <;> first | rfl | exact q
  · unfold Dv.tupF at q
    split at q
    · rename_i h; cases q; exact h
    · rename_i h; cases q; exact h
    · exact hh _ _ (e _ _ q)
  · unfold Dv.tupF
    rw [hh _ _ q]
    cases o <;> first | exact n | cases mu
def asFz (os : List O) : List O := os.map fun o => .fz o.fr
theorem asFz_ro {K : Fg} {F H : Hp} : ∀ {os : List O} {vs : List V} {fp : List Addr}, Same F H → ROs K F H os vs fp → ROs K H H (asFz os) vs []
  | [], _, _, _, h => ⟨h.1, rfl⟩
  | o :: r, _, _, e, ⟨v, w, f1, f2, h1, h2, h3, h4⟩ => ⟨v, w, [], [], h1, rfl, ⟨rfl, h3.rd e⟩, asFz_ro e h4⟩
/-- the function's answer on readable arguments -/
def qAns (fn : FN) (os : List O) : Option O := match fn (asFz os) with
  | some (.ok o, _) => if tupO o.fr then some (.fz o.fr) else none
  | _ => none
variable {k : Nat} {f C : Addr} {fd : FuncData} {ps : List Str} {x m : Str} {p apos : Pos} {fn : FN}
theorem q_go {K : Fg} {F H : Hp} {os : List O} {vs : List V} {fx : List Addr} {o : O} {Q : VK} {E : XK} (e : Same F H) (ro : ROs K F H os vs fx) (h : qAns fn os = some o) (post : ∀ v F' H', Qt F H F' H' → (∃ d, o = .fz d ∧ R K F' d v) → Q v H') : SpX K fn vs H Q E := by
  unfold qAns at h
  split at h
  · rename_i o1 os' hf
    split at h
    · rename_i ht
      cases h
      refine ⟨H, [], asFz os, .ok o1, os', Same.refl H, List.nodup_nil, (fun _ m => nomatch m), asFz_ro e ro, hf, fun v F' H' fp' fv sm r1 r2 nd nf st => ?_⟩
      have hh : Same H H' := st.ff.trans sm
      exact post v _ H' (Qt.tupF (F1 := F') e hh) ⟨_, rfl, R.tupF _ ht (r2.rd sm)⟩
    · cases h
  · cases h
def pCall (fn : FN) (q : Env → Option (List O)) : PM := fun env => (q env).bind (qAns fn)
theorem pv_call (Fo : FnOk X.prog X.w X.K X.mg X.base (L2.CX X.prog X.w) k f fd ps (SpX X.K fn)) (hr : Room k X.A) (hg : Gl X x) (hm : X.mg x = some (.ref f)) (hk : PySem.W.keepIn X.K (.ref f) = true) (hb : Binds X.K fd ps []) (tk : Takes X W) {q : Env → Option (List O)} (ha : QaV X (e :: es) q)
    (hdb : (x == ("__debug__" : Str)) = false := by decide) (he : starEach (e :: es) X.env = (false, eval e X.env) :: starEach es X.env := by rfl) (hpl : (backTo pos (starEach es X.env)).any (·.1) = false := by rfl) :
    PV X (.Call (.Name x p) (e :: es) [] pos) (pCall fn q) := by
  refine pe_imp (pe_callS Fo hr hg hm hk hb (passAt tk) ha hdb he hpl) fun σ H Q z => ?_
  obtain ⟨F, fp, env, o, s, hq, post⟩ := z
  obtain ⟨os, e1, hq⟩ := Option.bind_eq_some_iff.mp hq
  refine ⟨F, fp, env, os, s, e1, fun vs F1 H1 f1 q1 r1 => q_go q1.fh r1 hq fun v F' H' q2 ⟨d, hd, rd⟩ => ?_⟩
  subst hd
  exact post v F' H' [] (q1.trans q2) ⟨rfl, rd⟩
theorem pv_call0 (Fo : FnOk X.prog X.w X.K X.mg X.base (L2.CX X.prog X.w) k f fd ps (SpX X.K fn)) (hr : Room k X.A) (hg : Gl X x) (hm : X.mg x = some (.ref f)) (hk : PySem.W.keepIn X.K (.ref f) = true) (hb : Binds X.K fd ps []) (tk : Takes X W)
    (hdb : (x == ("__debug__" : Str)) = false := by decide) : PV X (.Call (.Name x p) [] [] pos) (pCall fn qNil) := by
  refine pe_imp (pe_callS0 Fo hr hg hm hk hb (passAt tk) hdb) fun σ H Q z => ?_
  obtain ⟨F, fp, env, o, s, hq, post⟩ := z
  obtain ⟨os, e1, hq⟩ := Option.bind_eq_some_iff.mp hq
  cases e1
  refine q_go (fx := []) (os := []) (vs := []) s.fh ⟨rfl, rfl⟩ hq fun v F' H' q2 ⟨d, hd, rd⟩ => ?_
  subst hd
  exact post v F' H' [] q2 ⟨rfl, rd⟩
/-! ### methods -/
/-- an instance of the class c without an attribute m of its own -/
def insOk (c m : Str) (o : O) : Bool := match o with
  | .fz (.ins c' fs) => decide (c' = c) && (fs.lookup m).isNone
  | .ins c' fs => decide (c' = c) && (fs.lookup m).isNone
  | _ => false
theorem ins_rd {K : Fg} {F H : Hp} {c m : Str} {o : O} {v : V} {fx : List Addr} (e : Same F H) (hx : RO K F H o v fx) (h : insOk c m o = true) : ∃ a dx fs, v = .ref a ∧ H a = some (.ins (He.ga K c) dx fs) ∧ fs.lookup m = none := by
  unfold insOk at h
  split at h
  · rename_i c' fs
    obtain ⟨h1, h2⟩ := Bool.and_eq_true_iff.mp h
    cases of_decide_eq_true h1
    obtain ⟨rfl, a, dx, us, rfl, ha, rf⟩ := hx
    exact ⟨a, dx, us, rfl, e _ _ ha, rf.look.2 (Option.isNone_iff_eq_none.mp h2)⟩
  · rename_i c' fs
    obtain ⟨h1, h2⟩ := Bool.and_eq_true_iff.mp h
    cases of_decide_eq_true h1
    obtain ⟨a, dx, us, fq, rfl, ha, rfl, rf⟩ := hx
    exact ⟨a, dx, us, rfl, ha, rf.look.2 (Option.isNone_iff_eq_none.mp h2)⟩
  · cases h
def pMeth (c m : Str) (fn : FN) (p : PM) (q : Env → Option (List O)) : PM := fun env => (p env).bind fun o => if insOk c m o then (q env).bind fun os => qAns fn (o :: os) else none
theorem meth_q {K : Fg} {c m : Str} {fn : FN} {p : PM} {q : Env → Option (List O)} {E : L2.St → XK} {σ H Q} (z : dP K (pMeth c m fn p q) σ H Q) : tMethS (He.ga K c) m (SpX K fn) E (dP K p) (dQ K q) σ H Q := by
  obtain ⟨F, fp, env, o, s, hq, post⟩ := z
  obtain ⟨x, e1, hq⟩ := Option.bind_eq_some_iff.mp hq
  split at hq
  · rename_i hi
    obtain ⟨os, e2, hq⟩ := Option.bind_eq_some_iff.mp hq
    refine dP_run s e1 fun v F1 H1 f1 q1 r1 => ?_
    obtain ⟨a, dx, fs, rfl, ha, hl⟩ := ins_rd q1.fh r1 hi
    refine ⟨a, dx, fs, rfl, ha, hl, F1, fp, env, os, s.qt q1, e2, fun vs F2 H2 f2 q2 r2 => ?_⟩
    have ro : ROs K F2 H2 (x :: os) (.ref a :: vs) (f1 ++ f2) := ⟨.ref a, vs, f1, f2, rfl, rfl, RO.mono q2.ff x (Same.kp q2.hh) r1, r2⟩
    refine q_go q2.fh ro hq fun v F' H' q3 ⟨d, hd, rd⟩ => ?_
    subst hd
    exact post v F' H' [] ((q1.trans q2).trans q3) ⟨rfl, rd⟩
  · cases hq
theorem pv_meth {pl : Sem Bool} {cn : Str} {pm : PM} {q : Env → Option (List O)} (he0 : PV X o pm) (hc : Cls X.K (He.ga X.K cn)) (hm : Meth X.K (He.ga X.K cn) m f) (Fo : FnOk X.prog X.w X.K X.mg X.base (L2.CX X.prog X.w) k f fd ps (SpX X.K fn)) (hr : Room k X.A) (hb : Binds X.K fd ps []) (tk : Takes X W) (ha : QaV X (e :: es) q)
    (hst : starEach (e :: es) X.env = (false, eval e X.env) :: starEach es X.env := by rfl) (hpl : (backTo pos (starEach es X.env)).any (·.1) = false := by rfl)
    (ht : eval (.Call (.Attribute o m apos) (e :: es) [] pos) X.env = (do
      let ov ← eval o X.env
      standAt apos.atName
      let (f, first) ← holding [ov] (getMethod ov m pl)
      callWith pos f first (backTo pos (starEach (e :: es) X.env)) (backToKw pos (keywordEach [] X.env))) := by rfl) :
    PV X (.Call (.Attribute o m apos) (e :: es) [] pos) (pMeth cn m fn pm q) := pe_imp (pe_methSS he0 hc hm Fo hr hb (passAt tk) ha hst hpl ht) fun _ _ _ z => meth_q z
theorem pv_meth0 {pl : Sem Bool} {cn : Str} {pm : PM} (he0 : PV X o pm) (hc : Cls X.K (He.ga X.K cn)) (hm : Meth X.K (He.ga X.K cn) m f) (Fo : FnOk X.prog X.w X.K X.mg X.base (L2.CX X.prog X.w) k f fd ps (SpX X.K fn)) (hr : Room k X.A) (hb : Binds X.K fd ps []) (tk : Takes X W)
    (ht : eval (.Call (.Attribute o m apos) [] [] pos) X.env = (do
      let ov ← eval o X.env
      standAt apos.atName
      let (f, first) ← holding [ov] (getMethod ov m pl)
      callWith pos f first (backTo pos (starEach [] X.env)) (backToKw pos (keywordEach [] X.env))) := by rfl) :
    PV X (.Call (.Attribute o m apos) [] [] pos) (pMeth cn m fn pm qNil) := by
  refine pe_imp (pe_methSS0 he0 hc hm Fo hr hb (passAt tk) ht) fun σ H Q z => ?_
  have h := meth_q (E := WE W) z
  obtain ⟨F, fp, env, o, s, hq, post⟩ := h
  refine ⟨F, fp, env, o, s, hq, fun v F1 H1 f1 q1 r1 => ?_⟩
  obtain ⟨a, dx, fs, h1, h2, h3, G, gp, genv, os, s2, hn, k2⟩ := post v F1 H1 f1 q1 r1
  cases hn
  exact ⟨a, dx, fs, h1, h2, h3, k2 [] G H1 [] (Qt.refl s2.fh) ⟨rfl, rfl⟩⟩
/-- a method with effects: the receiver is the first argument -/
def eMeth (c m : Str) (fn : FN) (bk : List (Option Nat)) (p : EM) (q : AM) : EM := fun env => bindR (p env) fun o e1 => if insOk c m o then bindR (q e1) fun os e2 => (match fn (o :: os) with
  | some (r, os') => (putB bk os' e2).map fun e3 => (r, e3)
  | none => none) else none
theorem meth_e {K : Fg} {c m : Str} {fn : FN} {bk} {p : EM} {q : AM} {σ H Q} (z : dE K W (eMeth c m fn (none :: bk) p q) σ H Q) : tMethS (He.ga K c) m (SpX K fn) (WE W) (dE K W p) (dB K W bk q) σ H Q := by
  obtain ⟨F, fp, env, re, s, hm, post⟩ := dE_out z
  refine dE_run s hm post.ex fun x e1 v F1 H1 fp1 f1 s1 h1 st1 ex1 hm1 => ?_
  split at hm1
  · rename_i hi
    obtain ⟨a, dx, fs, rfl, ha, hl⟩ := ins_rd s1.fh h1.ro hi
    refine ⟨a, dx, fs, rfl, ha, hl, dB_run s1 hm1 ex1 fun os e2 vs F2 H2 fp2 f2 s2 h2 st2 bb ex2 hm2 => ?_⟩
    exact call_go (bk := none :: bk) s2 (HVs.cons h1 st2 h2) ⟨(fun _ z => nomatch z), bb⟩ hm2 (post.onv (st1.tr2 st2))
  · cases hm1
/-- .. by reference -/
theorem meth_r {K : Fg} {c m : Str} {fn : FN} {bk} {i : Nat} {q : AM} {σ H Q} (z : dE K W (eMeth c m fn (some i :: bk) (eMv i) q) σ H Q) : tMethS (He.ga K c) m (SpX K fn) (WE W) (tVar i) (dB K W bk q) σ H Q := by
  obtain ⟨F, fp, env, re, s, hm, post⟩ := dE_out z
  unfold eMeth eMv at hm
  cases zz : (env[i]?).join with
  | none => rw [zz] at hm; cases hm
  | some o =>
    rw [zz] at hm
    have hm : (if insOk c m o then bindR (q (env.set i none)) fun os e2 => (match fn (o :: os) with
      | some (r, os') => (putB (some i :: bk) os' e2).map fun e3 => (r, e3)
      | none => none) else none) = some re := hm
    have e : env[i]? = some (some o) := by
      cases y : env[i]? with
      | none => rw [y] at zz; cases zz
      | some w => rw [y] at zz; exact congrArg some zz
    split at hm
    · rename_i hi
      obtain ⟨v, fp', fv, e2, s', hv, st⟩ := s.take e
      obtain ⟨a, dx, fs, rfl, ha, hl⟩ := ins_rd s'.fh hv.ro hi
      refine ⟨.ref a, e2, a, dx, fs, rfl, ha, hl, dB_run s' hm (fun c fs e q => (post.ex c fs e q).on st) fun os e2' vs F2 H2 fp2 f2 s2 h2 st2 bb ex2 hm2 => ?_⟩
      exact call_go (bk := some i :: bk) s2 (HVs.cons hv st2 h2) ⟨fun j q => by cases q; exact e2, bb⟩ hm2 (post.onv (st.tr2 st2))
    · cases hm
theorem ev_meth {pl : Sem Bool} {cn : Str} {pm : EM} {q : AM} {bk} (he0 : EV X W o pm) (hc : Cls X.K (He.ga X.K cn)) (hm : Meth X.K (He.ga X.K cn) m f) (Fo : FnOk X.prog X.w X.K X.mg X.base (L2.CX X.prog X.w) k f fd ps (SpX X.K fn)) (hr : Room k X.A) (hb : Binds X.K fd ps []) (tk : Takes X W) (ha : BkV X W (e :: es) bk q)
    (hst : starEach (e :: es) X.env = (false, eval e X.env) :: starEach es X.env := by rfl) (hpl : (backTo pos (starEach es X.env)).any (·.1) = false := by rfl)
    (ht : eval (.Call (.Attribute o m apos) (e :: es) [] pos) X.env = (do
      let ov ← eval o X.env
      standAt apos.atName
      let (f, first) ← holding [ov] (getMethod ov m pl)
      callWith pos f first (backTo pos (starEach (e :: es) X.env)) (backToKw pos (keywordEach [] X.env))) := by rfl) :
    EV X W (.Call (.Attribute o m apos) (e :: es) [] pos) (eMeth cn m fn (none :: bk) pm q) := pe_imp (pe_methSS he0 hc hm Fo hr hb (passAt tk) ha hst hpl ht) fun _ _ _ z => meth_e z
theorem ev_meth0 {pl : Sem Bool} {cn : Str} {pm : EM} (he0 : EV X W o pm) (hc : Cls X.K (He.ga X.K cn)) (hm : Meth X.K (He.ga X.K cn) m f) (Fo : FnOk X.prog X.w X.K X.mg X.base (L2.CX X.prog X.w) k f fd ps (SpX X.K fn)) (hr : Room k X.A) (hb : Binds X.K fd ps []) (tk : Takes X W)
    (ht : eval (.Call (.Attribute o m apos) [] [] pos) X.env = (do
      let ov ← eval o X.env
      standAt apos.atName
      let (f, first) ← holding [ov] (getMethod ov m pl)
      callWith pos f first (backTo pos (starEach [] X.env)) (backToKw pos (keywordEach [] X.env))) := by rfl) :
    EV X W (.Call (.Attribute o m apos) [] [] pos) (eMeth cn m fn [none] pm aNil) := by
  refine pe_imp (pe_methSS0 he0 hc hm Fo hr hb (passAt tk) ht) fun σ H Q z => ?_
  obtain ⟨F, fp, env, re, s, hm, post⟩ := dE_out z
  refine dE_run s hm post.ex fun x e1 v F1 H1 fp1 f1 s1 h1 st1 ex1 hm1 => ?_
  split at hm1
  · rename_i hi
    obtain ⟨a, dx, fs, rfl, ha, hl⟩ := ins_rd s1.fh h1.ro hi
    refine ⟨a, dx, fs, rfl, ha, hl, ?_⟩
    have hvs := HVs.cons h1 (Stp.refl.nl) (HVs.nil (K := X.K) (F := F1) (H := H1) (fp := fp1))
    have hvs' : HVs X.K F1 H1 fp1 [x] [.ref a] f1 := by simpa using hvs
    exact call_go (bk := [none]) s1 hvs' ⟨(fun _ z => nomatch z), trivial⟩ hm1 (post.onv st1)
  · cases hm1
theorem ev_methR {pl : Sem Bool} {cn y : Str} {pp : Pos} {q : AM} {bk} (i : Nat) (hc : Cls X.K (He.ga X.K cn)) (hm : Meth X.K (He.ga X.K cn) m f) (Fo : FnOk X.prog X.w X.K X.mg X.base (L2.CX X.prog X.w) k f fd ps (SpX X.K fn)) (hr : Room k X.A) (hb : Binds X.K fd ps []) (tk : Takes X W) (ha : BkV X W (e :: es) bk q)
    (hN : X.N[i]? = some y := by rfl) (hv : Vis X.env.scope y := by first | exact Or.inl rfl | exact Or.inr (Or.inl rfl) | exact Or.inr (Or.inr rfl)) (hd : (y == ("__debug__" : Str)) = false := by decide)
    (hcd : (y == ("__classdict__" : Str)) = false := by decide) (hst : starEach (e :: es) X.env = (false, eval e X.env) :: starEach es X.env := by rfl) (hpl : (backTo pos (starEach es X.env)).any (·.1) = false := by rfl)
    (ht : eval (.Call (.Attribute (.Name y pp) m apos) (e :: es) [] pos) X.env = (do
      let ov ← eval (.Name y pp) X.env
      standAt apos.atName
      let (f, first) ← holding [ov] (getMethod ov m pl)
      callWith pos f first (backTo pos (starEach (e :: es) X.env)) (backToKw pos (keywordEach [] X.env))) := by rfl) :
    EV X W (.Call (.Attribute (.Name y pp) m apos) (e :: es) [] pos) (eMeth cn m fn (some i :: bk) (eMv i) q) := pe_imp (pe_methSS (pe_var hN hv hd hcd) hc hm Fo hr hb (passAt tk) ha hst hpl ht) fun _ _ _ z => meth_r z
theorem ev_methR0 {pl : Sem Bool} {cn y : Str} {pp : Pos} (i : Nat) (hc : Cls X.K (He.ga X.K cn)) (hm : Meth X.K (He.ga X.K cn) m f) (Fo : FnOk X.prog X.w X.K X.mg X.base (L2.CX X.prog X.w) k f fd ps (SpX X.K fn)) (hr : Room k X.A) (hb : Binds X.K fd ps []) (tk : Takes X W)
    (hN : X.N[i]? = some y := by rfl) (hv : Vis X.env.scope y := by first | exact Or.inl rfl | exact Or.inr (Or.inl rfl) | exact Or.inr (Or.inr rfl)) (hd : (y == ("__debug__" : Str)) = false := by decide)
    (hcd : (y == ("__classdict__" : Str)) = false := by decide)
    (ht : eval (.Call (.Attribute (.Name y pp) m apos) [] [] pos) X.env = (do
      let ov ← eval (.Name y pp) X.env
      standAt apos.atName
      let (f, first) ← holding [ov] (getMethod ov m pl)
      callWith pos f first (backTo pos (starEach [] X.env)) (backToKw pos (keywordEach [] X.env))) := by rfl) :
    EV X W (.Call (.Attribute (.Name y pp) m apos) [] [] pos) (eMeth cn m fn [some i] (eMv i) aNil) := by
  refine pe_imp (pe_methSS0 (pe_var hN hv hd hcd) hc hm Fo hr hb (passAt tk) ht) fun σ H Q z => ?_
  have h := meth_r (bk := []) z
  obtain ⟨v, e2, a, dx, fs, e3, ha, hl, hB⟩ := h
  obtain ⟨F, fp, env, r, env', s, hm, post⟩ := hB
  cases hm
  exact ⟨v, e2, a, dx, fs, e3, ha, hl, post [] F H fp [] s HVs.nil Stp.refl.nl trivial⟩
/-! ### C(..) -/
def eMake (c : Str) (fn : FN) (bk : List (Option Nat)) (q : AM) : EM := fun env => bindR (q env) fun os e1 => match fn (.ins c [] :: os) with
  | some (.ok (.fz .non), o' :: os') => (putB bk os' e1).map fun e2 => (.ok o', e2)
  | some (.ex c fs, _ :: os') => (putB bk os' e1).map fun e2 => (.ex c fs, e2)
  | _ => none
theorem make_go {K : Fg} {c : Str} {bk} {F H : Hp} {fp fv : List Addr} {e1 : Env} {σ : L2.St} {os : List O} {vs : List V} {r : Rz O × Env} {Q : VK} (s : SR K F H fp e1 σ) (h : HVs K F H fp os vs fv) (bb : Bk σ bk vs)
    (hf : (match fn (.ins c [] :: os) with
      | some (.ok (.fz .non), o' :: os') => (putB bk os' e1).map fun e2 => (Rz.ok o', e2)
      | some (.ex c fs, _ :: os') => (putB bk os' e1).map fun e2 => (Rz.ex c fs, e2)
      | _ => none) = some r) (post : PE' K W F H (fp ++ fv) σ r Q) (x dx : Addr) (hx : H x = none) (hdx : H dx = none) (ne : dx ≠ x) :
    SpX K fn (.ref x :: vs) (upd (upd H dx (.own x)) x (.ins (He.ga K c) dx [])) (fun v H2 => v = .non ∧ Q (.ref x) H2) (WE W σ) := by
  have hx1 : (upd H dx (.own x)) x = none := by rw [upd_ne ne.symm]; exact hx
  have sm0 : Same H (upd (upd H dx (.own x)) x (.ins (He.ga K c) dx [])) := (Same.newx hdx).trans (Same.newx hx1)
  have nx := In.ne (ROs.inn os h.ro) hx
  have fx : F x = none := s.fh.free hx
  have ro0 : ROs K F (upd (upd H dx (.own x)) x (.ins (He.ga K c) dx [])) (.ins c [] :: os) (.ref x :: vs) (x :: fv) := ⟨.ref x, vs, [x], fv, rfl, rfl, ⟨x, dx, [], [], rfl, upd_same, rfl, rfl, rfl⟩, ROs.mono (Same.refl F) os (Same.kp sm0) h.ro⟩
  have nd0 : (x :: fv).Nodup := List.nodup_cons.mpr ⟨fun m => nx x m rfl, h.nd⟩
  have nf0 : ∀ a ∈ x :: fv, F a = none := fun a m => by
    rcases List.mem_cons.mp m with rfl | m
    · exact fx
    · exact h.nf a m
  have inn := RE.inn e1 s.re
  have nxp := In.ne inn hx
  have inn0 : In (upd (upd H dx (.own x)) x (.ins (He.ga K c) dx [])) fp := fun a m => let ⟨u, e, mu⟩ := inn a m; ⟨u, sm0 _ _ e, mu⟩
  have stp0 : ∀ {F' H' : Hp} {g : List Addr}, Stp F (upd (upd H dx (.own x)) x (.ins (He.ga K c) dx [])) (x :: fv) F' H' g → ∀ a u, Mu u = true → H a = some u → a ∉ fp ++ fv → F a = none → H' a = some u ∧ F' a = none ∧ a ∉ g := fun {F' H' g} st a u mu q n z =>
    st.out a u mu (sm0 _ _ q) (fun k => by
      rcases List.mem_cons.mp k with rfl | k
      · rw [hx] at q; cases q
      · exact n (List.mem_append_right _ k)) z
  split at hf
  · rename_i o' os' hz
    obtain ⟨e2, hp, rfl⟩ := Option.map_eq_some_iff.mp hf
    refine ⟨F, x :: fv, _, _, _, s.fh.trans sm0, nd0, nf0, ro0, hz, fun v F' H' fo fu sm ro2 rv nd nf st => ⟨rv.2, ?_⟩⟩
    obtain ⟨v1, w1, g1, g2, e3, rfl, ro3, ro4⟩ := ro2
    cases e3
    have kk := st.held inn0 s.nf (fun a m z => by
      rcases List.mem_cons.mp z with rfl | z
      · exact nxp a m rfl
      · exact h.dj a z m)
    have s1 : SR K F' H' fp e1 σ := ⟨sm, s.nd, kk.2.1, RE.mono st.ff e1 (fun a m o q => kk.1 a m o (sm0 _ _ q)) s.re⟩
    have nd2 := nd_app.mp nd
    have nd3 := nd_app.mp nd2.1
    obtain ⟨fp', s', hin⟩ := SR.putBk s1 ro4 (nd_app.mpr ⟨s.nd, nd3.2.1, fun a m z => kk.2.2 a z (List.mem_append_left _ (List.mem_append_right _ m))⟩) (fun a m => nf a (List.mem_append_left _ (List.mem_append_right _ m))) bb hp
    refine post.ok s' ⟨ro3, nd3.1, fun a m => nf a (List.mem_append_left _ (List.mem_append_left _ m)), fun a m z => ?_⟩ ⟨st.ff, fun a u mu q n z => ?_⟩
    · rcases List.mem_append.mp (hin a z) with z | z
      · exact kk.2.2 a z (List.mem_append_left _ (List.mem_append_left _ m))
      · exact nd3.2.2 a z m
    · obtain ⟨q1, z1, n1⟩ := stp0 st a u mu q n z
      refine ⟨q1, z1, fun y => ?_⟩
      rcases List.mem_append.mp y with y | y
      · rcases List.mem_append.mp (hin a y) with y | y
        · exact n (List.mem_append_left _ y)
        · exact n1 (List.mem_append_left _ (List.mem_append_right _ y))
      · exact n1 (List.mem_append_left _ (List.mem_append_left _ y))
  · rename_i c' fs o' os' hz
    obtain ⟨e2, hp, rfl⟩ := Option.map_eq_some_iff.mp hf
    refine ⟨F, x :: fv, _, _, _, s.fh.trans sm0, nd0, nf0, ro0, hz, fun d F' H' fo us sm ro2 nd nf ed rf st => ?_⟩
    obtain ⟨v1, w1, g1, g2, e3, rfl, ro3, ro4⟩ := ro2
    cases e3
    have kk := st.held inn0 s.nf (fun a m z => by
      rcases List.mem_cons.mp z with rfl | z
      · exact nxp a m rfl
      · exact h.dj a z m)
    have s1 : SR K F' H' fp e1 σ := ⟨sm, s.nd, kk.2.1, RE.mono st.ff e1 (fun a m o q => kk.1 a m o (sm0 _ _ q)) s.re⟩
    have nd3 := nd_app.mp nd
    obtain ⟨fp', s', hin⟩ := SR.putBk s1 ro4 (nd_app.mpr ⟨s.nd, nd3.2.1, fun a m z => kk.2.2 a z (List.mem_append_right _ m)⟩) (fun a m => nf a (List.mem_append_right _ m)) bb hp
    refine post.ex c' fs e2 rfl d F' H' fp' us s' ed rf ⟨st.ff, fun a u mu q n z => ?_⟩
    obtain ⟨q1, z1, n1⟩ := stp0 st a u mu q n z
    refine ⟨q1, z1, fun y => ?_⟩
    rcases List.mem_append.mp (hin a y) with y | y
    · exact n (List.mem_append_left _ y)
    · exact n1 (List.mem_append_right _ y)
  · cases hf
theorem ev_make {cn : Str} {q : AM} {bk} (M : Mk X.K (He.ga X.K cn) f) (Fo : FnOk X.prog X.w X.K X.mg X.base (L2.CX X.prog X.w) k f fd ps (SpX X.K fn)) (hr : Room (k + 1) X.A) (hg : Gl X cn) (hm : X.mg cn = some (.ref (He.ga X.K cn))) (hb : Binds X.K fd ps []) (tk : Takes X W) (ha : BkV X W (e :: es) bk q)
    (hdb : (cn == ("__debug__" : Str)) = false := by decide) (he : starEach (e :: es) X.env = (false, eval e X.env) :: starEach es X.env := by rfl) (hpl : (backTo pos (starEach es X.env)).any (·.1) = false := by rfl) :
    EV X W (.Call (.Name cn p) (e :: es) [] pos) (eMake cn fn bk q) := by
  refine pe_imp (pe_makeSS M Fo hr hg hm hb (passAt tk) ha hdb he hpl) fun σ H Q z => ?_
  obtain ⟨F, fp, env, re, s, hm, post⟩ := dE_out z
  refine dB_run s hm post.ex fun os e1 vs F1 H1 fp1 f1 s1 h1 st1 bb ex1 hm1 => fun x dx hx hdx ne => ?_
  exact make_go s1 h1 bb hm1 (post.onv st1) x dx hx hdx ne
theorem ev_make0 {cn : Str} (M : Mk X.K (He.ga X.K cn) f) (Fo : FnOk X.prog X.w X.K X.mg X.base (L2.CX X.prog X.w) k f fd ps (SpX X.K fn)) (hr : Room (k + 1) X.A) (hg : Gl X cn) (hm : X.mg cn = some (.ref (He.ga X.K cn))) (hb : Binds X.K fd ps []) (tk : Takes X W)
    (hdb : (cn == ("__debug__" : Str)) = false := by decide) : EV X W (.Call (.Name cn p) [] [] pos) (eMake cn fn [] aNil) := by
  refine pe_imp (pe_makeSS0 M Fo hr hg hm hb (passAt tk) hdb) fun σ H Q z => ?_
  obtain ⟨F, fp, env, re, s, hm, post⟩ := dE_out z
  exact fun x dx hx hdx ne => make_go (bk := []) s HVs.nil trivial hm (post.onv Stp.refl.nl) x dx hx hdx ne
end
end Dv

-- Dv9
set_option maxHeartbeats 4000000
namespace Dv
open PySem PySem.Spec L2
/-! ### places within what a slot owns -/
inductive Pt where
  | fld (f : Str) | key (q : Key) | keyT (q : List Key) | ix (j : Nat)
def lookK {α : Type} (q : Key) : List (D × α) → Option α
  | [] => none
  | (k, v) :: r => if dkey k = some q then some v else lookK q r
def lookT {α : Type} (q : List Key) : List (D × α) → Option α
  | [] => none
  | (k, v) :: r => if dkeyT k = some q then some v else lookT q r
def updK {α : Type} (q : Key) (x : α) : List (D × α) → List (D × α)
  | [] => []
  | (k, v) :: r => if dkey k = some q then (k, x) :: r else (k, v) :: updK q x r
def updT {α : Type} (q : List Key) (x : α) : List (D × α) → List (D × α)
  | [] => []
  | (k, v) :: r => if dkeyT k = some q then (k, x) :: r else (k, v) :: updT q x r
def updF {α : Type} (f : Str) (x : α) : List (Str × α) → List (Str × α)
  | [] => []
  | (g, v) :: r => if f = g then (g, x) :: r else (g, v) :: updF f x r
def lookF {α : Type} (f : Str) : List (Str × α) → Option α
  | [] => none
  | (g, v) :: r => if f = g then some v else lookF f r
def O.sub1 : Pt → O → Option O
  | .fld f, .ins _ fs => lookF f fs
  | .key q, .dic t kvs => if t = 0 then lookK q kvs else none
  | .keyT q, .dic t kvs => if t = 1 then lookT q kvs else none
  | .ix j, .lst xs => xs[j]?
  | _, _ => none
def O.put1 : Pt → O → O → O
  | .fld f, x, .ins c fs => .ins c (updF f x fs)
  | .key q, x, .dic t kvs => .dic t (updK q x kvs)
  | .keyT q, x, .dic t kvs => .dic t (updT q x kvs)
  | .ix j, x, .lst xs => .lst (xs.set j x)
  | _, _, o => o
def O.sub : List Pt → O → Option O
  | [], o => some o
  | p :: r, o => (o.sub1 p).bind (O.sub r)
def O.put : List Pt → O → O → O
  | [], x, _ => x
  | p :: r, x, o => match o.sub1 p with
    | some u => O.put1 p (O.put r x u) o
    | none => o
/-- the value that stands there -/
def At1 (H : Hp) : Pt → V → V → Prop
  | .fld f, u, w => ∃ a C dx us, u = .ref a ∧ H a = some (.ins C dx us) ∧ us.lookup f = some w
  | .key q, u, w => ∃ a ks, u = .ref a ∧ H a = some (.dK ks) ∧ valV ks q = some w
  | .keyT q, u, w => ∃ a ks, u = .ref a ∧ H a = some (.dT ks) ∧ valV ks q = some w
  | .ix j, u, w => ∃ a vs, u = .ref a ∧ H a = some (.lst vs) ∧ vs[j]? = some w
def AtO (H : Hp) : List Pt → V → V → Prop
  | [], u, v => u = v
  | p :: r, u, v => ∃ w, At1 H p u w ∧ AtO H r w v
theorem At1.mono {H H' : Hp} (e : Same H H') : ∀ {p : Pt} {u w : V}, At1 H p u w → At1 H' p u w
  | .fld f, _, _, ⟨a, C, dx, us, h1, h2, h3⟩ => ⟨a, C, dx, us, h1, e _ _ h2, h3⟩
  | .key q, _, _, ⟨a, ks, h1, h2, h3⟩ => ⟨a, ks, h1, e _ _ h2, h3⟩
  | .keyT q, _, _, ⟨a, ks, h1, h2, h3⟩ => ⟨a, ks, h1, e _ _ h2, h3⟩
  | .ix j, _, _, ⟨a, ks, h1, h2, h3⟩ => ⟨a, ks, h1, e _ _ h2, h3⟩
theorem AtO.mono {H H' : Hp} (e : Same H H') : ∀ {p : List Pt} {u w : V}, AtO H p u w → AtO H' p u w
  | [], _, _, h => h
  | p :: r, _, _, ⟨w, h1, h2⟩ => ⟨w, h1.mono e, h2.mono e⟩
theorem AtO.snoc {H : Hp} {p : Pt} : ∀ {r : List Pt} {u v w : V}, AtO H r u v → At1 H p v w → AtO H (r ++ [p]) u w
  | [], _, _, _, h, h2 => by cases h; exact ⟨_, h2, rfl⟩
  | q :: r, _, _, _, ⟨x, h1, h3⟩, h2 => ⟨x, h1, h3.snoc h2⟩
section
variable {K : Fg} {F H : Hp}
/-- lenses into lists of owned things -/
abbrev Lens (K : Fg) (F H : Hp) (fp : List Addr) (s : O) (v : V) (back : O → Hp → Hp → List Addr → Prop) : Prop := ∃ f1 f2 f3, fp = f1 ++ f2 ++ f3 ∧ RO K F H s v f2 ∧
  ∀ F' H' s' f2', Same F F' → Kp H H' (f1 ++ f3) → RO K F' H' s' v f2' → back s' F' H' (f1 ++ f2' ++ f3)
theorem Lens.left {f1 fp : List Addr} {s : O} {v : V} {back back' : O → Hp → Hp → List Addr → Prop} (h : Lens K F H fp s v back)
    (k : ∀ s' F' H' f2', Same F F' → Kp H H' f1 → back s' F' H' f2' → back' s' F' H' (f1 ++ f2')) : Lens K F H (f1 ++ fp) s v back' := by
  obtain ⟨g1, g2, g3, e, r, b⟩ := h
  refine ⟨f1 ++ g1, g2, g3, by rw [e]; simp [List.append_assoc], r, fun F' H' s' f2' a kp ro => ?_⟩
  have := k s' F' H' _ a (fun x m => kp x (by simp [m])) (b F' H' s' f2' a (fun x m => kp x (by
    simp only [List.mem_append] at m ⊢
    rcases m with m | m
    · exact .inl (.inr m)
    · exact .inr m)) ro)
  simpa [List.append_assoc] using this
theorem Lens.right {f2 fp : List Addr} {s : O} {v : V} {back back' : O → Hp → Hp → List Addr → Prop} (h : Lens K F H fp s v back)
    (k : ∀ s' F' H' f2', Same F F' → Kp H H' f2 → back s' F' H' f2' → back' s' F' H' (f2' ++ f2)) : Lens K F H (fp ++ f2) s v back' := by
  obtain ⟨g1, g2, g3, e, r, b⟩ := h
  refine ⟨g1, g2, g3 ++ f2, by rw [e]; simp [List.append_assoc], r, fun F' H' s' f2' a kp ro => ?_⟩
  have := k s' F' H' _ a (fun x m => kp x (by simp [m])) (b F' H' s' f2' a (fun x m => kp x (by
    simp only [List.mem_append] at m ⊢
    rcases m with m | m
    · exact .inl m
    · exact .inr (.inl m))) ro)
  simpa [List.append_assoc] using this
theorem Lens.id {fp : List Addr} {s : O} {v : V} (h : RO K F H s v fp) : Lens K F H fp s v fun s' F' H' f => RO K F' H' s' v f := ⟨[], fp, [], by simp, h, fun F' H' s' f2' _ _ r => by simpa using r⟩
theorem ROs.lens : ∀ {os : List O} {vs : List V} {fp : List Addr} {j : Nat} {s : O}, ROs K F H os vs fp → os[j]? = some s → ∃ v, vs[j]? = some v ∧ Lens K F H fp s v fun s' F' H' f => ROs K F' H' (os.set j s') vs f
  | [], _, _, _, _, _, e => by simp at e
  | o :: r, _, _, 0, s, ⟨v, w, f1, f2, h1, h2, h3, h4⟩, e => by
    simp at e; subst e h1 h2
    exact ⟨v, rfl, (Lens.id h3).right fun s' F' H' f2' a k b => ⟨v, w, f2', f2, rfl, rfl, b, ROs.mono a r k h4⟩⟩
  | o :: r, _, _, j + 1, s, ⟨v, w, f1, f2, h1, h2, h3, h4⟩, e => by
    obtain ⟨u, e1, l⟩ := ROs.lens (j := j) h4 (by simpa using e)
    subst h1 h2
    exact ⟨u, by simpa using e1, l.left fun s' F' H' f2' a k b => ⟨v, w, f1, f2', rfl, rfl, RO.mono a o k h3, b⟩⟩
theorem ROf.lens {f : Str} : ∀ {os : List (Str × O)} {vs : List (Str × V)} {fp : List Addr} {s : O}, ROf K F H os vs fp → lookF f os = some s → ∃ v, vs.lookup f = some v ∧ Lens K F H fp s v fun s' F' H' g => ROf K F' H' (updF f s' os) vs g
  | [], _, _, _, _, e => by cases e
  | (g, o) :: r, _, _, s, ⟨v, w, f1, f2, h1, h2, h3, h4⟩, e => by
    unfold lookF at e
    split at e
    · rename_i hg
      cases e
      subst h1 h2 hg
      refine ⟨v, by simp [List.lookup], (Lens.id h3).right fun s' F' H' f2' a k b => ?_⟩
      unfold updF
      rw [if_pos rfl]
      exact ⟨v, w, f2', f2, rfl, rfl, b, ROf.mono a r k h4⟩
    · rename_i hg
      obtain ⟨u, e1, l⟩ := ROf.lens h4 e
      subst h1 h2
      have hg' : (f == g) = false := by simpa using hg
      refine ⟨u, by simp only [List.lookup, hg']; exact e1, l.left fun s' F' H' f2' a k b => ?_⟩
      unfold updF
      rw [if_neg hg]
      exact ⟨v, w, f1, f2', rfl, rfl, RO.mono a o k h3, b⟩
theorem ROk.lens {q : Key} : ∀ {os : List (D × O)} {vs : List (Key × V)} {fp : List Addr} {s : O}, ROk K F H os vs fp → lookK q os = some s → ∃ v, valV vs q = some v ∧ Lens K F H fp s v fun s' F' H' g => ROk K F' H' (updK q s' os) vs g
  | [], _, _, _, _, e => by cases e
  | (g, o) :: r, _, _, s, ⟨q', v, w, f1, f2, h1, h2, h0, h3, h4⟩, e => by
    unfold lookK at e
    split at e
    · rename_i hg
      cases e
      rw [h0] at hg
      cases hg
      subst h1 h2
      refine ⟨v, valV_pos rfl, (Lens.id h3).right fun s' F' H' f2' a k b => ?_⟩
      unfold updK
      rw [if_pos h0]
      exact ⟨_, v, w, f2', f2, rfl, rfl, h0, b, ROk.mono a r k h4⟩
    · rename_i hg
      obtain ⟨u, e1, l⟩ := ROk.lens h4 e
      subst h1 h2
      refine ⟨u, by rw [valV_neg (fun z => hg (by rw [h0]; exact congrArg some z))]; exact e1, l.left fun s' F' H' f2' a k b => ?_⟩
      unfold updK
      rw [if_neg hg]
      exact ⟨q', v, w, f1, f2', rfl, rfl, h0, RO.mono a o k h3, b⟩
theorem ROt.lens {q : List Key} : ∀ {os : List (D × O)} {vs : List (List Key × V)} {fp : List Addr} {s : O}, ROt K F H os vs fp → lookT q os = some s → ∃ v, valV vs q = some v ∧ Lens K F H fp s v fun s' F' H' g => ROt K F' H' (updT q s' os) vs g
  | [], _, _, _, _, e => by cases e
  | (g, o) :: r, _, _, s, ⟨q', v, w, f1, f2, h1, h2, h0, h3, h4⟩, e => by
    unfold lookT at e
    split at e
    · rename_i hg
      cases e
      rw [h0] at hg
      cases hg
      subst h1 h2
      refine ⟨v, valV_pos rfl, (Lens.id h3).right fun s' F' H' f2' a k b => ?_⟩
      unfold updT
      rw [if_pos h0]
      exact ⟨_, v, w, f2', f2, rfl, rfl, h0, b, ROt.mono a r k h4⟩
    · rename_i hg
      obtain ⟨u, e1, l⟩ := ROt.lens h4 e
      subst h1 h2
      refine ⟨u, by rw [valV_neg (fun z => hg (by rw [h0]; exact congrArg some z))]; exact e1, l.left fun s' F' H' f2' a k b => ?_⟩
      unfold updT
      rw [if_neg hg]
      exact ⟨q', v, w, f1, f2', rfl, rfl, h0, RO.mono a o k h3, b⟩
/-- behind the head address of an object -/
theorem Lens.obj {a : Addr} {fq : List Addr} {s : O} {v : V} {ob : HO} {back back' : O → Hp → Hp → List Addr → Prop} (h : Lens K F H fq s v back) (ha : H a = some ob)
    (k : ∀ s' F' H' f, H' a = some ob → back s' F' H' f → back' s' F' H' (a :: f)) : Lens K F H (a :: fq) s v back' := by
  have := Lens.left (f1 := [a]) (back' := back') h (fun s' F' H' f _ kp b => k s' F' H' f (kp a (by simp) _ ha) b)
  simpa using this
theorem RO.lens1 {p : Pt} {o s : O} {u : V} {fp : List Addr} (h : RO K F H o u fp) (e : o.sub1 p = some s) : ∃ v, At1 H p u v ∧ (∀ v', At1 H p u v' → v' = v) ∧ Lens K F H fp s v fun s' F' H' f => RO K F' H' (O.put1 p s' o) u f := by
  cases p with
  | fld f => cases o with
    | ins c fs =>
      obtain ⟨a, dx, us, fq, rfl, ha, rfl, rf⟩ := h
      obtain ⟨v, e1, l⟩ := rf.lens e
      refine ⟨v, ⟨a, _, dx, us, rfl, ha, e1⟩, fun v' ⟨a', C', dx', us', q1, q2, q3⟩ => ?_, l.obj ha fun s' F' H' f h1 b => ⟨a, dx, us, f, rfl, h1, rfl, b⟩⟩
      cases q1; rw [ha] at q2; cases q2; rw [e1] at q3; cases q3; rfl
    | _ => cases e
  | key q => cases o with
    | dic t kvs =>
      have e : (if t = 0 then lookK q kvs else none) = some s := e
      split at e
      · rename_i ht
        subst ht
        obtain ⟨a, fq, rfl, rfl, h⟩ := h
        rcases h with ⟨ks, _, ha, hr⟩ | ⟨ks, ht, _⟩
        · obtain ⟨v, e1, l⟩ := hr.lens e
          refine ⟨v, ⟨a, ks, rfl, ha, e1⟩, fun v' ⟨a', ks', q1, q2, q3⟩ => ?_, l.obj ha fun s' F' H' f h1 b => ⟨a, f, rfl, rfl, .inl ⟨ks, rfl, h1, b⟩⟩⟩
          cases q1; rw [ha] at q2; cases q2; rw [e1] at q3; cases q3; rfl
        · cases ht
      · cases e
    | _ => cases e
  | keyT q => cases o with
    | dic t kvs =>
      have e : (if t = 1 then lookT q kvs else none) = some s := e
      split at e
      · rename_i ht
        subst ht
        obtain ⟨a, fq, rfl, rfl, h⟩ := h
        rcases h with ⟨ks, ht, _⟩ | ⟨ks, _, ha, hr⟩
        · cases ht
        · obtain ⟨v, e1, l⟩ := hr.lens e
          refine ⟨v, ⟨a, ks, rfl, ha, e1⟩, fun v' ⟨a', ks', q1, q2, q3⟩ => ?_, l.obj ha fun s' F' H' f h1 b => ⟨a, f, rfl, rfl, .inr ⟨ks, rfl, h1, b⟩⟩⟩
          cases q1; rw [ha] at q2; cases q2; rw [e1] at q3; cases q3; rfl
      · cases e
    | _ => cases e
  | ix j => cases o with
    | lst xs =>
      obtain ⟨a, vs, fq, rfl, ha, rfl, rs⟩ := h
      obtain ⟨v, e1, l⟩ := rs.lens e
      refine ⟨v, ⟨a, vs, rfl, ha, e1⟩, fun v' ⟨a', vs', q1, q2, q3⟩ => ?_, l.obj ha fun s' F' H' f h1 b => ⟨a, vs, f, rfl, h1, rfl, b⟩⟩
      cases q1; rw [ha] at q2; cases q2; rw [e1] at q3; cases q3; rfl
    | _ => cases e
theorem Lens.comp {fp : List Addr} {s t : O} {v w : V} {back back2 : O → Hp → Hp → List Addr → Prop} (h : Lens K F H fp s v back) (h2 : ∀ f, RO K F H s v f → Lens K F H f t w back2)
    {back3 : O → Hp → Hp → List Addr → Prop} (sub : O → O) (k : ∀ t' F' H' f, back2 t' F' H' f → RO K F' H' (sub t') v f) (k3 : ∀ t' F' H' f, back (sub t') F' H' f → back3 t' F' H' f) : Lens K F H fp t w back3 := by
  obtain ⟨f1, f2, f3, e, r, b⟩ := h
  obtain ⟨g1, g2, g3, e2, r2, b2⟩ := h2 f2 r
  subst e2
  refine ⟨f1 ++ g1, g2, g3 ++ f3, by rw [e]; simp [List.append_assoc], r2, fun F' H' t' f' a kp ro => ?_⟩
  have x := k t' F' H' _ (b2 F' H' t' f' a (fun y m => kp y (by
    simp only [List.mem_append] at m ⊢
    rcases m with m | m
    · exact .inl (.inr m)
    · exact .inr (.inl m))) ro)
  have := k3 t' F' H' _ (b F' H' (sub t') _ a (fun y m => kp y (by
    simp only [List.mem_append] at m ⊢
    rcases m with m | m
    · exact .inl (.inl m)
    · exact .inr (.inr m))) x)
  simpa [List.append_assoc] using this
theorem RO.lens : ∀ {p : List Pt} {o s : O} {u : V} {fp : List Addr}, RO K F H o u fp → O.sub p o = some s → ∃ v, AtO H p u v ∧ (∀ v', AtO H p u v' → v' = v) ∧ Lens K F H fp s v fun s' F' H' f => RO K F' H' (O.put p s' o) u f
  | [], o, s, u, fp, h, e => by
    cases e
    exact ⟨u, rfl, fun v' q => q.symm, Lens.id h⟩
  | p :: r, o, s, u, fp, h, e => by
    obtain ⟨m, e1, e2⟩ := Option.bind_eq_some_iff.mp e
    obtain ⟨v, a1, u1, l1⟩ := h.lens1 e1
    have hm : ∃ f, RO K F H m v f := by obtain ⟨_, f2, _, _, r, _⟩ := l1; exact ⟨f2, r⟩
    obtain ⟨f, hm⟩ := hm
    obtain ⟨w, a2, u2, _⟩ := RO.lens hm e2
    refine ⟨w, ⟨v, a1, a2⟩, fun v' ⟨x, b1, b2⟩ => ?_, ?_⟩
    · cases u1 x b1
      exact u2 v' b2
    · refine l1.comp (back2 := fun t' F' H' f => RO K F' H' (O.put r t' m) v f) (fun f' hm' => ?_) (fun t' => O.put r t' m) (fun t' F' H' f b => b) (fun t' F' H' f b => ?_)
      · obtain ⟨w', a2', u2', l2⟩ := RO.lens hm' e2
        cases u2 w' a2'
        exact l2
      · unfold O.put
        rw [e1]
        exact b
end
/-! ### places in the slots -/
abbrev Pl := Nat × List Pt
def getP (env : Env) (p : Pl) : Option O := ((env[p.1]?).join).bind (O.sub p.2)
def setP (env : Env) (p : Pl) (x : O) : Env := match (env[p.1]?).join with
  | some o => env.set p.1 (some (O.put p.2 x o))
  | none => env
def AtS (H : Hp) (σ : L2.St) (p : Pl) (v : V) : Prop := ∃ u, σ[p.1]? = some (some u) ∧ AtO H p.2 u v
theorem AtS.mono {H H' : Hp} {σ : L2.St} {p : Pl} {v : V} (e : Same H H') (h : AtS H σ p v) : AtS H' σ p v := let ⟨u, h1, h2⟩ := h; ⟨u, h1, h2.mono e⟩
theorem getP_some {env : Env} {p : Pl} {s : O} (h : getP env p = some s) : ∃ o, env[p.1]? = some (some o) ∧ O.sub p.2 o = some s := by
  unfold getP at h
  obtain ⟨o, h1, h2⟩ := Option.bind_eq_some_iff.mp h
  refine ⟨o, ?_, h2⟩
  cases y : env[p.1]? with
  | none => rw [y] at h1; cases h1
  | some z => rw [y] at h1; exact congrArg some h1
theorem SR.lens {K : Fg} {F H : Hp} {fp : List Addr} {env : Env} {σ : L2.St} {p : Pl} {s : O} (h : SR K F H fp env σ) (e : getP env p = some s) : ∃ v, AtS H σ p v ∧ (∀ v', AtS H σ p v' → v' = v) ∧
    Lens K F H fp s v fun s' F' H' f => RE K F' H' (setP env p s') σ f := by
  obtain ⟨o, e1, e2⟩ := getP_some e
  obtain ⟨u, g1, g2, g3, eq, e3, ro, back⟩ := RE.lens h.re e1
  obtain ⟨v, a1, a2, l⟩ := ro.lens e2
  refine ⟨v, ⟨u, e3, a1⟩, fun v' ⟨u', q1, q2⟩ => ?_, ?_⟩
  · rw [e3] at q1; cases q1
    exact a2 v' q2
  · have l0 : Lens K F H fp o u fun o' F' H' f => RE K F' H' (env.set p.1 (some o')) σ f := ⟨g1, g2, g3, eq, ro, fun F' H' o' f a b c => back F' H' o' f a b c⟩
    refine l0.comp (back2 := fun t' F' H' f => RO K F' H' (O.put p.2 t' o) u f) (fun f' hm => ?_) (fun t' => O.put p.2 t' o) (fun t' F' H' f b => b) (fun t' F' H' f b => ?_)
    · obtain ⟨v2, b1, b2, l2⟩ := RO.lens hm e2
      cases a2 v2 b1
      exact l2
    · show RE K F' H' (setP env p t') σ f
      unfold setP
      rw [e1]
      exact b
/-- the place's object is changed: s to s' -/
theorem SR.write {K : Fg} {F H F' H' : Hp} {fp fv : List Addr} {env : Env} {σ : L2.St} {p : Pl} {s s' : O} {v : V} (h : SR K F H fp env σ) (e : getP env p = some s) (ha : AtS H σ p v)
    (step : ∀ f2, RO K F H s v f2 → (∀ a ∈ f2, a ∈ fp) → f2.Nodup → ∃ f2', RO K F' H' s' v f2' ∧ f2'.Nodup ∧ (∀ a ∈ f2', a ∈ f2 ∨ a ∈ fv) ∧ Same F F' ∧ Same F' H' ∧ (∀ a o, Mu o = true → H a = some o → a ∉ f2 → a ∉ fv → H' a = some o) ∧ (∀ a, a ∉ fv → F a = none → F' a = none) ∧ ∀ a ∈ f2', F' a = none)
    (djv : ∀ a ∈ fv, a ∉ fp) : ∃ fp', SR K F' H' fp' (setP env p s') σ ∧ Stp F H (fp ++ fv) F' H' fp' := by
  obtain ⟨v0, a1, a2, f1, f2, f3, rfl, ro, back⟩ := h.lens e
  cases a2 v ha
  have n := nd_app.mp (nd_mid.mp h.nd)
  obtain ⟨f2', r', nd', sub, ff, fh, hh, nf, nf2⟩ := step f2 ro (fun a m => mem_mid.mpr (.inr m)) n.2.1
  have inn := RE.inn env h.re
  have hk : Kp H H' (f1 ++ f3) := fun a m o q => by
    have m1 : a ∈ f1 ++ f2 ++ f3 := mem_mid.mpr (.inl m)
    obtain ⟨o', q', mu⟩ := inn a m1
    rw [q] at q'; cases q'
    exact hh a o mu q (fun z => n.2.2 a z m) fun z => djv a z m1
  have dj : ∀ x ∈ f2', x ∉ f1 ++ f3 := fun x m z => by
    rcases sub x m with k | k
    · exact n.2.2 x k z
    · exact djv x k (mem_mid.mpr (.inl z))
  refine ⟨f1 ++ f2' ++ f3, ⟨fh, nd_mid.mpr (nd_app.mpr ⟨n.1, nd', dj⟩), fun a m => ?_, back F' H' s' f2' ff hk r'⟩, ⟨ff, fun a o mu q m z => ?_⟩⟩
  · rcases mem_mid.mp m with m | m
    · have m1 : a ∈ f1 ++ f2 ++ f3 := mem_mid.mpr (.inl m)
      exact nf a (fun k => djv a k m1) (h.nf a m1)
    · exact nf2 a m
  · have n1 : a ∉ f1 ++ f2 ++ f3 := fun k => m (List.mem_append_left _ k)
    have n2 : a ∉ fv := fun k => m (List.mem_append_right _ k)
    refine ⟨hh a o mu q (fun k => n1 (mem_mid.mpr (.inr k))) n2, nf a n2 z, fun k => ?_⟩
    rcases mem_mid.mp k with k | k
    · exact n1 (mem_mid.mpr (.inl k))
    · rcases sub a k with k | k
      · exact n1 (mem_mid.mpr (.inr k))
      · exact n2 k
/-- a place as an expression -/
def dL (K : Fg) (pl : Env → Option Pl) : TE := fun σ H Q => ∃ F fp env p s, SR K F H fp env σ ∧ pl env = some p ∧ getP env p = some s ∧ ∀ v F' H', Qt F H F' H' → AtS H' σ p v → Q v H'
section
variable {X : Cx} {W : WX} {a b c e o : Expr} {es : List Expr} {pos : Pos}
abbrev LV (X : Cx) (e : Expr) (pl : Env → Option Pl) : Prop := PE X e (dL X.K pl)
def lN (i : Nat) : Env → Option Pl := fun env => (getP env (i, [])).map fun _ => (i, [])
theorem lv_name (i : Nat) {x : Str} (hN : X.N[i]? = some x := by rfl) (hv : Vis X.env.scope x := by first | exact Or.inl rfl | exact Or.inr (Or.inl rfl) | exact Or.inr (Or.inr rfl)) (hd : (x == ("__debug__" : Str)) = false := by decide)
    (hcd : (x == ("__classdict__" : Str)) = false := by decide) : LV X (.Name x pos) (lN i) := by
  refine pe_imp (pe_var hN hv hd hcd) fun σ H Q h => ?_
  obtain ⟨F, fp, env, p, s, h, hp, hg, k⟩ := h
  obtain ⟨s0, h0, rfl⟩ := Option.map_eq_some_iff.mp hp
  obtain ⟨v, ⟨u, e1, e2⟩, _⟩ := h.lens h0
  exact ⟨u, e1, k u F H (Qt.refl h.fh) ⟨u, e1, rfl⟩⟩
theorem O.sub_snoc {q : Pt} : ∀ {r : List Pt} {o s : O}, O.sub (r ++ [q]) o = some s ↔ ∃ m, O.sub r o = some m ∧ m.sub1 q = some s
  | [], o, s => by
    show ((o.sub1 q).bind (O.sub [])) = some s ↔ _
    constructor
    · intro h
      obtain ⟨m, h1, h2⟩ := Option.bind_eq_some_iff.mp h
      cases h2
      exact ⟨o, rfl, h1⟩
    · rintro ⟨m, h1, h2⟩
      cases h1
      rw [h2]; rfl
  | p :: r, o, s => by
    show ((o.sub1 p).bind (O.sub (r ++ [q]))) = some s ↔ ∃ m, ((o.sub1 p).bind (O.sub r)) = some m ∧ _
    cases h : o.sub1 p with
    | none => simp
    | some u => exact O.sub_snoc
theorem getP_snoc {env : Env} {p : Pl} {q : Pt} {m s : O} (h : getP env p = some m) (h1 : m.sub1 q = some s) : getP env (p.1, p.2 ++ [q]) = some s := by
  obtain ⟨o, e1, e2⟩ := getP_some h
  unfold getP
  rw [e1]
  exact O.sub_snoc.mpr ⟨m, e2, h1⟩
def lFld (cs : List Str) (f : Str) (pl : Env → Option Pl) : Env → Option Pl := fun env => (pl env).bind fun p => match getP env p with
  | some (.ins c fs) => if cs.contains c && (lookF f fs).isSome then some (p.1, p.2 ++ [.fld f]) else none
  | _ => none
theorem lv_fld {cs : List Str} {f : Str} {pl : Env → Option Pl} (ok : FldOk X.K f cs) (h : LV X e pl) (hb : attributeBase e f X.env (eval e X.env) = eval e X.env := by rfl) : LV X (.Attribute e f pos) (lFld cs f pl) := by
  refine pe_imp (pe_fld h hb) fun σ H Q z => ?_
  obtain ⟨F, fp, env, p, s, hs, hp, hg, k⟩ := z
  obtain ⟨p0, h0, hp⟩ := Option.bind_eq_some_iff.mp hp
  split at hp
  · rename_i c fs hq
    split at hp
    · rename_i hc
      cases hp
      obtain ⟨hc, hl⟩ := Bool.and_eq_true_iff.mp hc
      obtain ⟨s1, hl⟩ := Option.isSome_iff_exists.mp hl
      refine ⟨F, fp, env, p0, _, hs, h0, hq, fun v F1 H1 q1 at1 => ?_⟩
      obtain ⟨v0, b1, b2, f1, f2, f3, e3, ro, _⟩ := (hs.qt q1).lens hq
      cases b2 v at1
      obtain ⟨a, dx, us, fq, rfl, ha, rfl, rf⟩ := ro
      obtain ⟨w, e1, _⟩ := rf.lens hl
      have kk := ok c (by simpa using hc)
      obtain ⟨u, x1, x2⟩ := at1
      exact ⟨a, _, dx, us, w, rfl, ha, kk.1, kk.2, e1, k w F1 H1 q1 ⟨u, x1, x2.snoc ⟨a, _, dx, us, rfl, ha, e1⟩⟩⟩
    · cases hp
  · cases hp
def ptOf (k : O) : O → Option Pt
  | .lst xs => (match k with
    | .fz (.int i) => (ixN xs.length i).map Pt.ix
    | _ => none)
  | .dic t kvs => if t = 0 then (dkey k.fr).map Pt.key else if t = 1 then (dkeyT k.fr).map Pt.keyT else none
  | _ => none
theorem ptOf_lst {k : O} {xs : List O} {pt : Pt} (h : ptOf k (.lst xs) = some pt) : ∃ i j, k = .fz (.int i) ∧ ixN xs.length i = some j ∧ pt = .ix j := by
  cases k with
  | fz d => cases d with
    | int i =>
      obtain ⟨j, h1, h2⟩ := Option.map_eq_some_iff.mp (show (ixN xs.length i).map Pt.ix = some pt from h)
      exact ⟨i, j, rfl, h1, h2.symm⟩
    | _ => cases h
  | _ => cases h
def lIx (pl : Env → Option Pl) (q : PM) : Env → Option Pl := fun env => (pl env).bind fun p => (q env).bind fun k => (getP env p).bind fun m => (ptOf k m).bind fun pt => (m.sub1 pt).map fun _ => (p.1, p.2 ++ [pt])
theorem lv_ix {k : Nat} (hr : Room k X.A) {pl : Env → Option Pl} {q : PM} (ha : LV X a pl) (hb : PV X b q) (hs : PlainIx b := by exact fun _ _ => rfl) : LV X (.Subscript a b pos) (lIx pl q) := by
  refine pe_imp (pe_ix (ix_any hr) ha hb hs) fun σ H Q z => ?_
  obtain ⟨F, fp, env, p, s, h, hp, hg, kk⟩ := z
  obtain ⟨p0, h0, hp⟩ := Option.bind_eq_some_iff.mp hp
  obtain ⟨kx, h1, hp⟩ := Option.bind_eq_some_iff.mp hp
  obtain ⟨m, h2, hp⟩ := Option.bind_eq_some_iff.mp hp
  obtain ⟨pt, h3, hp⟩ := Option.bind_eq_some_iff.mp hp
  obtain ⟨s1, h4, rfl⟩ := Option.map_eq_some_iff.mp hp
  refine ⟨F, fp, env, p0, m, h, h0, h2, fun v F1 H1 q1 at1 => dP_run (h.qt q1) h1 fun w F2 H2 f2 q2 r2 => ?_⟩
  have at2 := at1.mono q2.hh
  obtain ⟨v0, b1, b2, g1, g2, g3, e3, ro, _⟩ := ((h.qt q1).qt q2).lens h2
  cases b2 v at2
  obtain ⟨x, a1, _, _⟩ := ro.lens1 h4
  obtain ⟨u, x1, x2⟩ := at2
  have fin : Q x H2 := kk x F2 H2 (q1.trans q2) ⟨u, x1, x2.snoc a1⟩
  have rk := r2.rd q2.fh
  cases m with
  | lst xs =>
    obtain ⟨i, j, rfl, hj, rfl⟩ := ptOf_lst h3
    obtain ⟨a', vs, c1, c2, c3⟩ := a1
    obtain ⟨a2, vs2, fq, d1, d2, d3, d4⟩ := ro
    cases c1; cases d1
    rw [c2] at d2; cases d2
    refine .inl (.inl ⟨a', vs, i, x, rfl, rk, SqL.of c2, ?_, fin⟩)
    unfold atI
    rw [d4.len, hj]
    exact c3
  | dic t kvs =>
    have h3 : (if t = 0 then (dkey kx.fr).map Pt.key else if t = 1 then (dkeyT kx.fr).map Pt.keyT else none) = some pt := h3
    split at h3
    · obtain ⟨q, hq, rfl⟩ := Option.map_eq_some_iff.mp h3
      obtain ⟨a', ks, c1, c2, c3⟩ := a1
      refine .inr ⟨a', x, c1, ?_, fin⟩
      rw [dkey_rd rk hq, ← c3]
      exact .k c2
    · split at h3
      · obtain ⟨q, hq, rfl⟩ := Option.map_eq_some_iff.mp h3
        obtain ⟨a', ks, c1, c2, c3⟩ := a1
        obtain ⟨bb, rfl, hb⟩ := dkeyT_rd rk hq
        refine .inr ⟨a', x, c1, ?_, fin⟩
        rw [← c3]
        exact .t c2 hb
      · cases h3
  | _ => cases h3
end
end Dv

-- Dv10
set_option maxHeartbeats 4000000
namespace Dv
open PySem PySem.Spec L2
section
variable (K : Fg)
def PS' (W : WX) (pr : Nat → Bool) (F H : Hp) (fp : List Addr) (σ : L2.St) (r : Fl × Env) (E : Ends) : Prop := match r with
  | (.nx, env') => ∀ σ' F' H' fp', SR K F' H' fp' env' σ' → Stp F H fp F' H' fp' → Kpr pr σ σ' → E.nx σ' H'
  | (.bk, env') => ∀ σ' F' H' fp', SR K F' H' fp' env' σ' → Stp F H fp F' H' fp' → Kpr pr σ σ' → E.bk σ' H'
  | (.ct, env') => ∀ σ' F' H' fp', SR K F' H' fp' env' σ' → Stp F H fp F' H' fp' → Kpr pr σ σ' → E.ct σ' H'
  | (.rt o, env') => ∀ v σ' F' H' fp' fv, SR K F' H' fp' env' σ' → HV K F' H' fp' o v fv → Stp F H fp F' H' (fp' ++ fv) → Kpr pr σ σ' → E.rt v H'
  | (.ex c fs, env') => ∀ σ' d F' H' fp' us, SR K F' H' fp' env' σ' → F' d = some (.xd us) → Rf K F' fs us → Stp F H fp F' H' fp' → Kpr pr σ σ' → W (.ref (He.ga K c)) (some d) σ' H'
end
section
variable {K : Fg} {W : WX} {pr : Nat → Bool} {F F1 H H1 : Hp} {fp fp1 fv : List Addr} {env env1 : Env} {σ σ1 : L2.St} {r : Fl × Env} {E : Ends} {m : SM}
theorem dS_out (h : dS K W pr m E σ H) : ∃ F fp env r, SR K F H fp env σ ∧ m env = some r ∧ PS' K W pr F H fp σ r E := by
  obtain ⟨F, fp, env, fl, env', s, hm, post⟩ := h
  refine ⟨F, fp, env, (fl, env'), s, hm, ?_⟩
  cases fl <;> exact post
theorem dS_in (s : SR K F H fp env σ) (h : m env = some r) (p : PS' K W pr F H fp σ r E) : dS K W pr m E σ H := by
  obtain ⟨fl, env'⟩ := r
  exact ⟨F, fp, env, fl, env', s, h, by cases fl <;> exact p⟩
theorem PS'.on (p : PS' K W pr F H fp σ r E) (st : Stp F H fp F1 H1 (fp1 ++ fv)) (k : Kpr pr σ σ1) : PS' K W pr F1 H1 fp1 σ1 r E := by
  obtain ⟨fl, env'⟩ := r
  have st := st.wr
  cases fl with
  | nx => exact fun σ' F' H' fp' s a b => p σ' F' H' fp' s (st.trans a) (k.trans b)
  | bk => exact fun σ' F' H' fp' s a b => p σ' F' H' fp' s (st.trans a) (k.trans b)
  | ct => exact fun σ' F' H' fp' s a b => p σ' F' H' fp' s (st.trans a) (k.trans b)
  | rt o => exact fun v σ' F' H' fp' fv s h a b => p v σ' F' H' fp' fv s h (st.trans a) (k.trans b)
  | ex c fs => exact fun σ' d F' H' fp' us s e rf a b => p σ' d F' H' fp' us s e rf (st.trans a) (k.trans b)
theorem PS'.on0 (p : PS' K W pr F H fp σ r E) (st : Stp F H fp F1 H1 fp1) (k : Kpr pr σ σ1 := by exact Kpr.refl) : PS' K W pr F1 H1 fp1 σ1 r E := p.on (fv := []) st.nl k
theorem PS'.onv (p : PS' K W pr F H fp σ r E) (st : Stp F H fp F1 H1 (fp1 ++ fv)) (k : Kpr pr σ σ1 := by exact Kpr.refl) : PS' K W pr F1 H1 (fp1 ++ fv) σ1 r E := by
  obtain ⟨fl, env'⟩ := r
  cases fl with
  | nx => exact fun σ' F' H' fp' s a b => p σ' F' H' fp' s (st.trans a) (k.trans b)
  | bk => exact fun σ' F' H' fp' s a b => p σ' F' H' fp' s (st.trans a) (k.trans b)
  | ct => exact fun σ' F' H' fp' s a b => p σ' F' H' fp' s (st.trans a) (k.trans b)
  | rt o => exact fun v σ' F' H' fp' fv s h a b => p v σ' F' H' fp' fv s h (st.trans a) (k.trans b)
  | ex c fs => exact fun σ' d F' H' fp' us s e rf a b => p σ' d F' H' fp' us s e rf (st.trans a) (k.trans b)
/-- what an expression's exception comes to -/
theorem PS'.exE (p : PS' K W pr F H fp σ r E) : ∀ c fs e, r = (.ex c fs, e) → exW K W F H fp e σ c fs := fun c fs e q => by
  subst q
  exact fun d F' H' fp' us s a b st => p σ d F' H' fp' us s a b st Kpr.refl
theorem PS'.nx {e : Env} (p : PS' K W pr F H fp σ (.nx, e) E) {σ' F' H' fp'} (s : SR K F' H' fp' e σ') (st : Stp F H fp F' H' fp') (k : Kpr pr σ σ' := by exact Kpr.refl) : E.nx σ' H' := p σ' F' H' fp' s st k
/-- the same end with other wishes for what goes on -/
theorem PS'.imp {r : Fl × Env} {E E' : Ends} (p : PS' K W pr F H fp σ r E) (hn : ∀ e, r = (.nx, e) → PS' K W pr F H fp σ r E') (hb : ∀ e, r = (.bk, e) → PS' K W pr F H fp σ r E') (hc : ∀ e, r = (.ct, e) → PS' K W pr F H fp σ r E') (hr : E'.rt = E.rt) : PS' K W pr F H fp σ r E' := by
  obtain ⟨fl, env'⟩ := r
  cases fl with
  | nx => exact hn env' rfl
  | bk => exact hb env' rfl
  | ct => exact hc env' rfl
  | rt o => exact fun v σ' F' H' fp' fv s h a b => by rw [hr]; exact p v σ' F' H' fp' fv s h a b
  | ex c fs => exact p
end
def seqS (a b : SM) : SM := fun env => match a env with
  | some (.nx, e) => b e
  | r => r
def nilS : SM := fun env => some (.nx, env)
section
variable {X : Cx} {W : WX} {pr : Nat → Bool} {a b c e o : Expr} {es : List Expr} {pos : Pos} {st : Stmt} {rest : List Stmt} {m n : SM}
theorem bv_nil : BV X W pr [] nilS := by
  refine pss_imp pss_nil fun E σ H h => ?_
  obtain ⟨F, fp, env, r, s, hm, p⟩ := dS_out h
  cases hm
  exact p.nx s Stp.refl
theorem seq_rd {K : Fg} {E σ H} (h : dS K W pr (seqS m n) E σ H) : tSeq (dS K W pr m) (dS K W pr n) E σ H := by
  obtain ⟨F, fp, env, r, s, hm, p⟩ := dS_out h
  unfold seqS at hm
  cases h1 : m env with
  | none => rw [h1] at hm; cases hm
  | some r1 =>
    obtain ⟨fl, e1⟩ := r1
    rw [h1] at hm
    cases fl with
    | nx => exact dS_in s h1 fun σ' F' H' fp' s' st k => dS_in s' hm (p.on0 st k)
    | bk => cases hm; exact dS_in s h1 p
    | ct => cases hm; exact dS_in s h1 p
    | rt o => cases hm; exact dS_in s h1 p
    | ex c fs => cases hm; exact dS_in s h1 p
theorem bv_cons (h1 : SV X W pr st m) (h2 : BV X W pr rest n) : BV X W pr (st :: rest) (seqS m n) := pss_imp (pss_cons h1 h2) fun _ _ _ z => seq_rd z
theorem bv_one (h1 : SV X W pr st m) : BV X W pr [st] m := pss_one h1
theorem sv_pass : SV X W pr (.Pass pos) nilS := by
  refine ps_imp ps_pass fun E σ H h => ?_
  obtain ⟨F, fp, env, r, s, hm, p⟩ := dS_out h
  cases hm
  exact p.nx s Stp.refl
def brkS : SM := fun env => some (.bk, env)
def cntS : SM := fun env => some (.ct, env)
theorem sv_break : SV X W pr (.Break pos) brkS := by
  refine ps_imp ps_break fun E σ H h => ?_
  obtain ⟨F, fp, env, r, s, hm, p⟩ := dS_out h
  cases hm
  exact p σ F H fp s Stp.refl Kpr.refl
theorem sv_cont : SV X W pr (.Continue pos) cntS := by
  refine ps_imp ps_continue fun E σ H h => ?_
  obtain ⟨F, fp, env, r, s, hm, p⟩ := dS_out h
  cases hm
  exact p σ F H fp s Stp.refl Kpr.refl
def exprS (m : EM) : SM := fun env => bindS (m env) fun _ e1 => some (.nx, e1)
theorem sv_expr {m : EM} (h : EV X W e m) (hs : swapsWith e none pos.line X.env = pure false := by rfl) : SV X W pr (.Expr e pos) (exprS m) := by
  refine ps_imp (ps_expr h hs) fun E σ H z => ?_
  obtain ⟨F, fp, env, r, s, hm, p⟩ := dS_out z
  refine dE_runS s hm p.exE fun o e1 v F1 H1 fp1 f1 s1 h1 st1 ex1 hm1 => ?_
  cases hm1
  exact p.nx s1 st1.wr
def retS (m : EM) : SM := fun env => bindS (m env) fun o e1 => some (.rt o, e1)
theorem sv_ret {m : EM} (h : EV X W e m) : SV X W pr (.Return (some e) pos) (retS m) := by
  refine ps_imp (ps_ret h) fun E σ H z => ?_
  obtain ⟨F, fp, env, r, s, hm, p⟩ := dS_out z
  refine dE_runS s hm p.exE fun o e1 v F1 H1 fp1 f1 s1 h1 st1 ex1 hm1 => ?_
  cases hm1
  exact p v σ F1 H1 fp1 f1 s1 h1 st1 Kpr.refl
def retN : SM := fun env => some (.rt (.fz .non), env)
theorem sv_retN : SV X W pr (.Return none pos) retN := by
  refine ps_imp ps_retN fun E σ H z => ?_
  obtain ⟨F, fp, env, r, s, hm, p⟩ := dS_out z
  cases hm
  exact p .non σ F H fp [] s (HV.fz rfl) Stp.refl.nl Kpr.refl
def ifS (t : TM) (m n : SM) : SM := fun env => bindS (t env) fun b e1 => if b then m e1 else n e1
theorem sv_if {t : TM} {x y : List Stmt} (h : TV X W c t) (h1 : BV X W pr x m) (h2 : BV X W pr y n) : SV X W pr (.If c x y pos) (ifS t m n) := by
  refine ps_imp (ps_if h h1 h2) fun E σ H z => ?_
  obtain ⟨F, fp, env, r, s, hm, p⟩ := dS_out z
  refine dT_runS s hm p.exE fun b e1 F1 H1 fp1 s1 st1 ex1 hm1 => ?_
  cases b with
  | true =>
    rw [if_pos rfl]
    exact dS_in s1 hm1 (p.on0 st1)
  | false =>
    rw [if_neg Bool.false_ne_true]
    exact dS_in s1 hm1 (p.on0 st1)
def setS (i : Nat) (m : EM) : SM := fun env => bindS (m env) fun o e1 => if i < e1.length then some (.nx, e1.set i (some o)) else none
theorem sv_set {m : EM} (i : Nat) {x : Str} {pos' : Pos} (hN : X.N.Nodup) (he : EV X W e m) (hp : pr i = false := by rfl) (hi : X.N[i]? = some x := by rfl) (hx : Loc X.env.scope x := by first | exact Or.inl rfl | exact Or.inr rfl)
    (hs : swapsWith e (some (.Name x pos')) pos.line X.env = pure false := by rfl) (hf : X.fn x = true ∨ X.env.scope.names.lookup x = some .local := by first | exact .inl rfl | exact .inr rfl | assumption) : SV X W pr (.Assign [.Name x pos'] e pos) (setS i m) := by
  refine ps_imp (ps_set hN hi hx he hs hf) fun E σ H z => ?_
  obtain ⟨F, fp, env, r, s, hm, p⟩ := dS_out z
  refine dE_runS s hm p.exE fun o e1 v F1 H1 fp1 f1 s1 h1 st1 ex1 hm1 => ?_
  split at hm1
  · rename_i hl
    cases hm1
    obtain ⟨fp', s', st'⟩ := s1.store h1 hl
    exact p.nx s' (st1.trans st') (Kpr.set hp)
  · cases hm1
/-! ### targets of frozen values -/
def dG (K : Fg) (W : WX) (pr : Nat → Bool) (st : D → Env → Option Env) : TG := fun v σ H Q => ∃ F fp env d env', SR K F H fp env σ ∧ R K F d v ∧ st d env = some env' ∧ ∀ σ' F' H' fp', SR K F' H' fp' env' σ' → Stp F H fp F' H' fp' → Kpr pr σ σ' → Q σ' H'
def dGs (K : Fg) (W : WX) (pr : Nat → Bool) (st : List D → Env → Option Env) : TGs := fun vs σ H Q => ∃ F fp env ds env', SR K F H fp env σ ∧ Rs K F ds vs ∧ st ds env = some env' ∧ ∀ σ' F' H' fp', SR K F' H' fp' env' σ' → Stp F H fp F' H' fp' → Kpr pr σ σ' → Q σ' H'
abbrev GV (X : Cx) (W : WX) (pr : Nat → Bool) (t : Expr) (st : D → Env → Option Env) : Prop := PG X t (dG X.K W pr st)
abbrev GVs (X : Cx) (W : WX) (pr : Nat → Bool) (t : List Expr) (st : List D → Env → Option Env) : Prop := PGs X t (dGs X.K W pr st)
theorem pg_imp {t : Expr} {g g' : TG} (h : PG X t g) (i : ∀ v σ H Q, g' v σ H Q → g v σ H Q) : PG X t g' := ⟨fun pins s σ H v u Q I r q => h.run pins s σ H v u Q I r (i v σ H Q q)⟩
theorem pgs_imp {t : List Expr} {g g' : TGs} (h : PGs X t g) (i : ∀ v σ H Q, g' v σ H Q → g v σ H Q) : PGs X t g' := ⟨fun pins s σ H v u Q I r q => h.run pins s σ H v u Q I r (i v σ H Q q)⟩
def gN (i : Nat) : D → Env → Option Env := fun d env => if i < env.length then some (env.set i (some (.fz d))) else none
def gTu (n : Nat) (st : List D → Env → Option Env) : D → Env → Option Env := fun d env => match d with
  | .tup ds => if ds.length = n then st ds env else none
  | _ => none
def gNl : List D → Env → Option Env
  | [], env => some env
  | _, _ => none
def gCo (a : D → Env → Option Env) (b : List D → Env → Option Env) : List D → Env → Option Env
  | d :: ds, env => (a d env).bind (b ds)
  | _, _ => none
theorem gv_name (i : Nat) {x : Str} (hN : X.N.Nodup) (hp : pr i = false := by rfl) (hi : X.N[i]? = some x := by rfl) (hx : Loc X.env.scope x := by first | exact Or.inl rfl | exact Or.inr rfl)
    (hf : X.fn x = true ∨ X.env.scope.names.lookup x = some .local := by first | exact .inl rfl | exact .inr rfl | assumption) : GV X W pr (.Name x pos) (gN i) := by
  refine pg_imp (pg_name hN hi hx hf) fun v σ H Q z => ?_
  obtain ⟨F, fp, env, d, env', s, r, hst, k⟩ := z
  unfold gN at hst
  split at hst
  · rename_i hl
    cases hst
    obtain ⟨fp', s', st'⟩ := s.store (HV.fz r) hl
    exact k _ F H fp' s' ⟨st'.ff, fun a o mu e n z => st'.out a o mu e (by simpa using n) z⟩ (Kpr.set hp)
  · cases hst
theorem gvs_nil : GVs X W pr [] gNl := by
  refine pgs_imp pgs_nil fun v σ H Q z => ?_
  obtain ⟨F, fp, env, ds, env', s, r, hst, k⟩ := z
  cases ds with
  | nil =>
    cases hst
    cases r
    exact ⟨rfl, k σ F H fp s Stp.refl Kpr.refl⟩
  | cons _ _ => cases hst
theorem gvs_cons {t1 : D → Env → Option Env} {t2 : List D → Env → Option Env} (h1 : GV X W pr e t1) (h2 : GVs X W pr es t2) (hs : (assignEach (e :: es) X.env).map (·.2) = assign e X.env :: (assignEach es X.env).map (·.2) := by rfl) : GVs X W pr (e :: es) (gCo t1 t2) := by
  refine pgs_imp (pgs_cons h1 h2 hs) fun v σ H Q z => ?_
  obtain ⟨F, fp, env, ds, env', s, r, hst, k⟩ := z
  cases ds with
  | nil => cases hst
  | cons d ds =>
    obtain ⟨v1, w1, rfl, r1, r2⟩ := r
    obtain ⟨e1, h3, h4⟩ := Option.bind_eq_some_iff.mp hst
    exact ⟨v1, w1, rfl, F, fp, env, d, e1, s, r1, h3, fun σ1 F1 H1 fp1 s1 st1 k1 => ⟨F1, fp1, e1, ds, env', s1, Rs.mono st1.ff ds r2, h4, fun σ2 F2 H2 fp2 s2 st2 k2 => k σ2 F2 H2 fp2 s2 (st1.trans st2) (k1.trans k2)⟩⟩
theorem gv_tup {kk : Nat} {t : List D → Env → Option Env} {nn : Nat} (hc : X.calm = true) (h : GVs X W pr es t) (hn : (assignEach es X.env).length = nn := by rfl) (hst : (assignEach es X.env).findIdx? (·.1) = none := by rfl) : GV X W pr (.Tuple es kk pos) (gTu nn t) := by
  refine pg_imp (pg_tup hc h hn hst) fun v σ H Q z => ?_
  obtain ⟨F, fp, env, d, env', s, r, hst, k⟩ := z
  unfold gTu at hst
  split at hst
  · rename_i ds
    split at hst
    · rename_i hl
      obtain ⟨a, vs, rfl, ha, rs⟩ := r
      exact ⟨a, vs, rfl, SqT.of (s.fh _ _ ha), by rw [rs.len]; exact hl, F, fp, env, ds, env', s, rs, hst, k⟩
    · cases hst
  · cases hst
/-- target = value, the value frozen -/
def asgS (g : D → Env → Option Env) (m : EM) : SM := fun env => bindS (m env) fun o e1 => match o with
  | .fz d => (g d e1).map fun e2 => (.nx, e2)
  | _ => none
theorem sv_asg {tg : Expr} {g : D → Env → Option Env} {m : EM} (he : EV X W e m) (hg : GV X W pr tg g) (hs : swapsWithSole [tg] e pos.line X.env = pure false := by rfl) (hw : swappedStores [tg] e X.env = pure none := by rfl) (h1 : (assignEach [tg] X.env).map (·.2) = [assign tg X.env] := by rfl) : SV X W pr (.Assign [tg] e pos) (asgS g m) := by
  refine ps_imp (ps_asg he hg hs hw h1) fun E σ H z => ?_
  obtain ⟨F, fp, env, r, s, hm, p⟩ := dS_out z
  refine dE_runS s hm p.exE fun o e1 v F1 H1 fp1 f1 s1 h1 st1 ex1 hm1 => ?_
  cases o with
  | fz d =>
    obtain ⟨e2, h2, rfl⟩ := Option.map_eq_some_iff.mp hm1
    exact ⟨F1, fp1, e1, d, e2, s1, h1.ro.2, h2, fun σ' F' H' fp' s' st' k' => p.nx s' (st1.wr.trans st') k'⟩
  | _ => cases hm1
/-! ### while -/
def whF (c : TM) (b : SM) : Nat → SM
  | 0, _ => none
  | n + 1, env => match c env with
    | some (.ok true, e1) => (match b e1 with
      | some (.nx, e2) => whF c b n e2
      | some (.ct, e2) => whF c b n e2
      | some (.bk, e2) => some (.nx, e2)
      | r => r)
    | some (.ok false, e1) => some (.nx, e1)
    | some (.ex x fs, e1) => some (.ex x fs, e1)
    | none => none
open Classical in
noncomputable def whS (c : TM) (b : SM) : SM := fun env => if h : ∃ n r, whF c b n env = some r then some h.choose_spec.choose else none
theorem whF_mono {c : TM} {b : SM} : ∀ {n : Nat} {env : Env} {r}, whF c b n env = some r → ∀ k, whF c b (n + k) env = some r
  | 0, _, _, h, _ => by cases h
  | n + 1, env, r, h, k => by
    rw [show n + 1 + k = (n + k) + 1 by omega]
    unfold whF at h ⊢
    split
    · rename_i e1 hc
      rw [hc] at h
      dsimp only at h
      split
      · rename_i e2 hb
        rw [hb] at h
        exact whF_mono h k
      · rename_i e2 hb
        rw [hb] at h
        exact whF_mono h k
      · rename_i e2 hb
        rw [hb] at h
        exact h
      · rename_i hb1 hb2 hb3
        split at h
        · rename_i e2 hb; exact absurd hb (hb1 e2)
        · rename_i e2 hb; exact absurd hb (hb2 e2)
        · rename_i e2 hb; exact absurd hb (hb3 e2)
        · exact h
    · rename_i e1 hc
      rw [hc] at h
      exact h
    · rename_i x fs e1 hc
      rw [hc] at h
      exact h
    · rename_i hc
      rw [hc] at h
      cases h
theorem whS_eq {c : TM} {b : SM} {n : Nat} {env : Env} {r} (h : whF c b n env = some r) : whS c b env = some r := by
  have hx : ∃ n r, whF c b n env = some r := ⟨n, r, h⟩
  unfold whS
  rw [dif_pos hx]
  have h2 := hx.choose_spec.choose_spec
  have h3 := whF_mono h hx.choose
  have h4 := whF_mono h2 n
  rw [Nat.add_comm] at h4
  rw [h3] at h4
  exact h4.symm ▸ rfl
theorem whS_some {c : TM} {b : SM} {env : Env} {r} (h : whS c b env = some r) : ∃ n, whF c b n env = some r := by
  unfold whS at h
  split at h
  · rename_i hx
    exact ⟨hx.choose, by rw [← h]; exact hx.choose_spec.choose_spec⟩
  · cases h
theorem sv_while {t : TM} {x : List Stmt} (hp : PassesOwn (model X.prog X.w) X.A X.env X.xe) (h : TV X W c t) (h1 : BV X W pr x m) : SV X W pr (.While c x [] pos) (whS t m) := by
  refine ps_imp (ps_while hp h h1) fun E σ H z => ?_
  obtain ⟨F, fp, env, r, s, hm, p⟩ := dS_out z
  obtain ⟨n, hn⟩ := whS_some hm
  refine ⟨fun n σ1 H1 => ∃ F1 fp1 e1, SR X.K F1 H1 fp1 e1 σ1 ∧ Stp F H fp F1 H1 fp1 ∧ Kpr pr σ σ1 ∧ whF t m n e1 = some r, ⟨n, F, fp, env, s, Stp.refl, Kpr.refl, hn⟩, fun n σ1 H1 ⟨F1, fp1, e1, s1, st1, k1, hn1⟩ => ?_⟩
  cases n with
  | zero => cases hn1
  | succ n =>
    unfold whF at hn1
    have p1 := p.on0 st1 k1
    cases hc : t e1 with
    | none => rw [hc] at hn1; cases hn1
    | some rc =>
      obtain ⟨bc, e2⟩ := rc
      rw [hc] at hn1
      cases bc with
      | ex x fs =>
        cases hn1
        exact dT_in s1 hc (p1.exE x fs e2 rfl)
      | ok bb =>
        refine dT_in s1 hc fun F2 H2 fp2 s2 st2 => ?_
        cases bb with
        | false =>
          cases hn1
          rw [if_neg Bool.false_ne_true]
          exact p1.nx s2 st2
        | true =>
          rw [if_pos rfl]
          refine ⟨fun σ3 H3 => ∃ F3 fp3 e3, SR X.K F3 H3 fp3 e3 σ3 ∧ Stp F H fp F3 H3 fp3 ∧ Kpr pr σ σ3 ∧ whF t m n e3 = some r, fun σ3 H3 ⟨F3, fp3, e3, q⟩ => ⟨n, Nat.lt_succ_self n, F3, fp3, e3, q⟩, ?_⟩
          have p2 := p1.on0 st2
          dsimp only at hn1
          cases hb : m e2 with
          | none => rw [hb] at hn1; cases hn1
          | some rb =>
            obtain ⟨fl, e3⟩ := rb
            rw [hb] at hn1
            cases fl with
            | nx => exact dS_in s2 hb fun σ' F' H' fp' s' a b => ⟨F', fp', e3, s', (st1.trans st2).trans a, k1.trans b, hn1⟩
            | ct => exact dS_in s2 hb fun σ' F' H' fp' s' a b => ⟨F', fp', e3, s', (st1.trans st2).trans a, k1.trans b, hn1⟩
            | bk =>
              cases hn1
              exact dS_in s2 hb fun σ' F' H' fp' s' a b => p2.nx s' a b
            | rt o =>
              cases hn1
              exact dS_in s2 hb p2
            | ex c fs =>
              cases hn1
              exact dS_in s2 hb p2
/-! ### for -/
def forL (g : D → Env → Option Env) (b : SM) : List D → SM
  | [], env => some (.nx, env)
  | x :: r, env => (g x env).bind fun e1 => match b e1 with
    | some (.nx, e2) => forL g b r e2
    | some (.ct, e2) => forL g b r e2
    | some (.bk, e2) => some (.nx, e2)
    | r => r
/-- an iterator over things that are frozen: what it gives -/
structure ItOk (K : Fg) (F' : Hp) (J : It) (xs : List D) : Prop where
  go : ∀ i H, i < xs.length → Same F' H → J.go i H
  stop : ∀ H, Same F' H → J.stop xs.length H
  yld : ∀ i H x H' F2, i < xs.length → Same F' F2 → Same F2 H → J.yld i H x H' → ∃ F3 d, xs[i]? = some d ∧ Qt F2 H F3 H' ∧ R K F3 d x
abbrev IM := Env → Option (Rz (List D) × Env)
def dI (K : Fg) (W : WX) (m : IM) : TI := fun σ H Q => ∃ F fp env r env', SR K F H fp env σ ∧ m env = some (r, env') ∧ match r with
  | .ok xs => ∀ J F' H' fp', SR K F' H' fp' env' σ → Stp F H fp F' H' fp' → ItOk K F' J xs → Q J H'
  | .ex c fs => exW K W F H fp env' σ c fs
abbrev IV (X : Cx) (W : WX) (tg it : Expr) (m : IM) : Prop := PI X tg it (dI X.K W m)
def forS (it : IM) (g : D → Env → Option Env) (b : SM) : SM := fun env => bindS (it env) fun xs e1 => forL g b xs e1
theorem sv_for {tg it : Expr} {x : List Stmt} {mi : IM} {g : D → Env → Option Env} (hp : PassesOwn (model X.prog X.w) X.A X.env X.xe) (hc : X.calm = true) (hi : IV X W tg it mi) (hg : GV X W pr tg g) (hb : BV X W pr x m) (hfs : ∀ u, foldedSetIterable it X.env u = pure u := by intro _; rfl) : SV X W pr (.For tg it x [] pos) (forS mi g m) := by
  refine ps_imp (ps_for hp hc hi hg hb hfs) fun E σ H z => ?_
  obtain ⟨F, fp, env, r, s, hm, p⟩ := dS_out z
  rcases bindS_some hm with ⟨xs, e1, h1, h2⟩ | ⟨c, fs, e1, h1, h2⟩
  · refine ⟨F, fp, env, .ok xs, e1, s, h1, fun J F1 H1 fp1 s1 st1 it1 => ?_⟩
    refine ⟨fun i mm σ2 H2 => i + mm = xs.length ∧ ∃ F2 fp2 e2, SR X.K F2 H2 fp2 e2 σ2 ∧ Same F1 F2 ∧ Stp F H fp F2 H2 fp2 ∧ Kpr pr σ σ2 ∧ forL g m (xs.drop i) e2 = some r, ⟨xs.length, by omega, F1, fp1, e1, s1, Same.refl _, st1, Kpr.refl, by simpa using h2⟩, fun i mm σ2 H2 ⟨em, F2, fp2, e2, s2, sf, st2, k2, hr⟩ => ?_⟩
    have p2 := p.on0 st2 k2
    have sh : Same F1 H2 := sf.trans s2.fh
    by_cases hlt : i < xs.length
    · refine .inr ⟨it1.go i H2 hlt sh, fun σ3 H3 => ∃ F3 fp3 e3, SR X.K F3 H3 fp3 e3 σ3 ∧ Same F1 F3 ∧ Stp F H fp F3 H3 fp3 ∧ Kpr pr σ σ3 ∧ forL g m (xs.drop (i + 1)) e3 = some r, fun σ3 H3 ⟨F3, fp3, e3, q⟩ => ⟨mm - 1, by omega, by omega, F3, fp3, e3, q⟩, fun v H3 hy => ?_⟩
      obtain ⟨F3, d, hd, q3, rd⟩ := it1.yld i H2 v H3 F2 hlt sf s2.fh hy
      have hx : xs.drop i = d :: xs.drop (i + 1) := by
        have := List.getElem?_eq_some_iff.mp hd
        obtain ⟨hl, he⟩ := this
        rw [List.drop_eq_getElem_cons hl, he]
      rw [hx] at hr
      obtain ⟨e3, h3, h4⟩ := Option.bind_eq_some_iff.mp hr
      have s3 := s2.qt q3
      have st3 := st2.qt s2 q3
      refine ⟨F3, fp2, e2, d, e3, s3, rd, h3, fun σ4 F4 H4 fp4 s4 st4 k4 => ?_⟩
      have sf4 : Same F1 F4 := (sf.trans q3.ff).trans st4.ff
      have p4 := p2.on0 ((s2.stp q3).trans st4) k4
      cases hb : m e3 with
      | none => rw [hb] at h4; cases h4
      | some rb =>
        obtain ⟨fl, e5⟩ := rb
        rw [hb] at h4
        cases fl with
        | nx => exact dS_in s4 hb fun σ' F' H' fp' s' a b => ⟨F', fp', e5, s', sf4.trans a.ff, (st3.trans st4).trans a, (k2.trans k4).trans b, h4⟩
        | ct => exact dS_in s4 hb fun σ' F' H' fp' s' a b => ⟨F', fp', e5, s', sf4.trans a.ff, (st3.trans st4).trans a, (k2.trans k4).trans b, h4⟩
        | bk =>
          cases h4
          exact dS_in s4 hb fun σ' F' H' fp' s' a b => p4.nx s' a b
        | rt o =>
          cases h4
          exact dS_in s4 hb p4
        | ex c fs =>
          cases h4
          exact dS_in s4 hb p4
    · have ei : i = xs.length := by omega
      subst ei
      rw [List.drop_length] at hr
      cases hr
      exact .inl ⟨it1.stop H2 sh, p2.nx s2 Stp.refl⟩
  · exact ⟨F, fp, env, .ex c fs, e1, s, h1, p.exE c fs e1 h2⟩
end
end Dv

-- Dv11
set_option maxHeartbeats 4000000
namespace Dv
open PySem PySem.Spec L2
/-! ### one object is changed where it lies -/
theorem SR.upd1 {K : Fg} {F H : Hp} {fp fv : List Addr} {env : Env} {σ : L2.St} {p : Pl} {s s' : O} {l : Addr} {ob : HO} (h : SR K F H fp env σ) (e : getP env p = some s) (ha : AtS H σ p (.ref l)) (nd : fv.Nodup) (nf : ∀ a ∈ fv, F a = none) (dj : ∀ a ∈ fv, a ∉ fp)
    (step : ∀ f2, RO K F H s (.ref l) f2 → (f2 ++ fv).Nodup → l ∈ f2 ∧ ∃ f2', RO K F (upd H l ob) s' (.ref l) f2' ∧ f2'.Nodup ∧ ∀ a ∈ f2', a ∈ f2 ∨ a ∈ fv) : ∃ fp', SR K F (upd H l ob) fp' (setP env p s') σ ∧ Stp F H (fp ++ fv) F (upd H l ob) fp' := by
  refine h.write e ha (fun f2 ro sub ndf => ?_) dj
  have hn : (f2 ++ fv).Nodup := nd_app.mpr ⟨ndf, nd, fun x m k => dj x m (sub x k)⟩
  obtain ⟨hl, f2', r', nd', sub'⟩ := step f2 ro hn
  refine ⟨f2', r', nd', sub', Same.refl F, fun a o q => ?_, fun a o mu q n1 n2 => ?_, fun a _ z => z, fun a m => ?_⟩
  · have : a ≠ l := fun z => by
      rw [z, h.nf l (sub l hl)] at q
      cases q
    rw [upd_ne this]
    exact h.fh _ _ q
  · have hne : a ≠ l := fun z => n1 (by rw [z]; exact hl)
    rw [upd_ne hne]
    exact q
  · rcases sub' a m with k | k
    · exact h.nf a (sub a k)
    · exact nf a k
theorem Kp.off {H : Hp} {l : Addr} {ob : HO} {fq : List Addr} (n : l ∉ fq) : Kp H (upd H l ob) fq := fun a m o q => by
  have hne : a ≠ l := fun z => n (by rw [← z]; exact m)
  rw [upd_ne hne]; exact q
/-- where the place's value stands -/
theorem SR.at {K : Fg} {F H : Hp} {fp : List Addr} {env : Env} {σ : L2.St} {p : Pl} {s : O} {v : V} (h : SR K F H fp env σ) (e : getP env p = some s) (ha : AtS H σ p v) : ∃ f2, RO K F H s v f2 := by
  obtain ⟨v0, _, a2, _, f2, _, _, ro, _⟩ := h.lens e
  cases a2 v ha
  exact ⟨f2, ro⟩
/-! ### o.f = e -/
def putFO (f : Str) (x : O) : List (Str × O) → List (Str × O)
  | [] => [(f, x)]
  | (g, y) :: r => if g = f then (g, x) :: r else (g, y) :: putFO f x r
theorem ROf.put {K : Fg} {F H H' : Hp} {f : Str} {x : O} {v : V} {fv : List Addr} (hx : RO K F H' x v fv) : ∀ {fs : List (Str × O)} {us : List (Str × V)} {fp : List Addr}, ROf K F H fs us fp → Kp H H' fp → (fp ++ fv).Nodup →
    ∃ fp', ROf K F H' (putFO f x fs) (putF f v us) fp' ∧ fp'.Nodup ∧ (∀ a ∈ fp', a ∈ fp ∨ a ∈ fv) ∧ us.length = fs.length
  | [], _, _, h, k, nd => by
    obtain ⟨rfl, rfl⟩ := h
    exact ⟨fv, ⟨v, [], fv, [], rfl, by simp, hx, rfl, rfl⟩, by simpa using nd, fun a m => .inr m, rfl⟩
  | (g, y) :: r, _, _, ⟨u, w, f1, f2, h1, h2, h3, h4⟩, k, nd => by
    subst h1 h2
    have n := nd_app.mp nd
    have n2 := nd_app.mp n.1
    unfold putFO
    rw [show putF f v ((g, u) :: w) = (if g = f then (g, v) :: w else (g, u) :: putF f v w) from rfl]
    by_cases hg : g = f
    · rw [if_pos hg, if_pos hg]
      refine ⟨fv ++ f2, ⟨v, w, fv, f2, rfl, rfl, hx, ROf.mono (Same.refl F) r k.r h4⟩, nd_app.mpr ⟨n.2.1, n2.2.1, fun a m z => n.2.2 a z (List.mem_append_right _ m)⟩, fun a m => ?_, ?_⟩
      · rcases List.mem_append.mp m with m | m
        · exact .inr m
        · exact .inl (List.mem_append_right _ m)
      · have : ∀ {fs : List (Str × O)} {us : List (Str × V)} {fp : List Addr}, ROf K F H fs us fp → us.length = fs.length := by
          intro fs
          induction fs with
          | nil => intro us fp h; rw [h.1]; rfl
          | cons z r ih => intro us fp h; obtain ⟨u, w, f1, f2, rfl, rfl, h3, h4⟩ := h; exact congrArg Nat.succ (ih h4)
        exact congrArg Nat.succ (this h4)
    · rw [if_neg hg, if_neg hg]
      obtain ⟨fp', a1, a2, a3, a4⟩ := ROf.put hx h4 k.r (nd_app.mpr ⟨n2.2.1, n.2.1, fun a m z => n.2.2 a m (List.mem_append_right _ z)⟩)
      refine ⟨f1 ++ fp', ⟨u, _, f1, fp', rfl, rfl, RO.mono (Same.refl F) y k.l h3, a1⟩, nd_app.mpr ⟨n2.1, a2, fun a m z => ?_⟩, fun a m => ?_, congrArg Nat.succ a4⟩
      · rcases a3 a m with q | q
        · exact n2.2.2 a q z
        · exact n.2.2 a q (List.mem_append_left _ z)
      · rcases List.mem_append.mp m with m | m
        · exact .inl (List.mem_append_left _ m)
        · rcases a3 a m with q | q
          · exact .inl (List.mem_append_right _ q)
          · exact .inr q
def fldS (pl : Env → Option Pl) (cs : List Str) (f : Str) (m : EM) : SM := fun env => bindS (m env) fun o e1 => (pl e1).bind fun p => match getP e1 p with
  | some (.ins c fs) => if cs.contains c && decide (fs.length < 900) then some (.nx, setP e1 p (.ins c (putFO f o fs))) else none
  | _ => none
section
variable {X : Cx} {W : WX} {pr : Nat → Bool} {a b c e o : Expr} {es : List Expr} {pos : Pos}
theorem sv_fld {pl : Env → Option Pl} {cs : List Str} {f : Str} {m : EM} {pos' : Pos} (ok : FldOk X.K f cs) (ho : LV X o pl) (he : EV X W e m) (hs : swapsWith e (some (.Attribute o f pos')) pos.line X.env = pure false := by rfl) :
    SV X W pr (.Assign [.Attribute o f pos'] e pos) (fldS pl cs f m) := by
  refine ps_imp (ps_fld ho he hs) fun E σ H z => ?_
  obtain ⟨F, fp, env, r, s, hm, p⟩ := dS_out z
  refine dE_runS s hm p.exE fun x e1 v F1 H1 fp1 f1 s1 h1 st1 ex1 hm1 => ?_
  obtain ⟨q, hq, hm1⟩ := Option.bind_eq_some_iff.mp hm1
  split at hm1
  · rename_i c fs hg
    split at hm1
    · rename_i hc
      cases hm1
      obtain ⟨hc, hl⟩ := Bool.and_eq_true_iff.mp hc
      refine ⟨F1, fp1, e1, q, _, s1, hq, hg, fun u F2 H2 q2 at2 => ?_⟩
      have s2 := s1.qt q2
      have h2 := h1.qt q2
      obtain ⟨g2, ro⟩ := s2.at hg at2
      obtain ⟨l, dx, us, fq, rfl, hl2, rfl, rf⟩ := ro
      have kk := ok c (by simpa using hc)
      have key : ∀ f2, RO X.K F2 H2 (.ins c fs) (.ref l) f2 → (f2 ++ f1).Nodup → l ∈ f2 ∧ ∃ f2', RO X.K F2 (upd H2 l (.ins (He.ga X.K c) dx (putF f v us))) (.ins c (putFO f x fs)) (.ref l) f2' ∧ f2'.Nodup ∧ ∀ a ∈ f2', a ∈ f2 ∨ a ∈ f1 := fun f2 ro2 nd => by
        obtain ⟨l', dx', us', fq', e1, e2, rfl, rf'⟩ := ro2
        cases e1
        rw [hl2] at e2
        cases e2
        have n := nd_app.mp nd
        have n1 := List.nodup_cons.mp n.1
        have nl : l ∉ f1 := fun m => n.2.2 l m (List.mem_cons_self ..)
        obtain ⟨fp', a1, a2, a3, a4⟩ := ROf.put (f := f) (H := H2) (RO.mono (Same.refl F2) x (Kp.off (ob := .ins (He.ga X.K c) dx (putF f v us)) nl) h2.ro) rf' (Kp.off n1.1) (nd_app.mpr ⟨n1.2, n.2.1, fun a m z => n.2.2 a m (List.mem_cons_of_mem _ z)⟩)
        refine ⟨List.mem_cons_self .., l :: fp', ⟨l, dx, _, fp', rfl, upd_same, rfl, a1⟩, List.nodup_cons.mpr ⟨fun m => ?_, a2⟩, fun a m => ?_⟩
        · rcases a3 l m with k | k
          · exact n1.1 k
          · exact nl k
        · rcases List.mem_cons.mp m with rfl | m
          · exact .inl (List.mem_cons_self ..)
          · rcases a3 a m with k | k
            · exact .inl (List.mem_cons_of_mem _ k)
            · exact .inr k
      obtain ⟨fp', s', st'⟩ := s2.upd1 (s' := .ins c (putFO f x fs)) (ob := .ins (He.ga X.K c) dx (putF f v us)) hg at2 h2.nd h2.nf h2.dj key
      refine ⟨l, _, dx, us, rfl, hl2, kk.1, kk.2, ?_, p.nx s' ((st1.trans ⟨q2.ff, fun a o mu q n z => ⟨q2.hh _ _ q, q2.nf a o mu q z, n⟩⟩).trans st')⟩
      have hlen : us.length = fs.length := by
        have : ∀ {fs : List (Str × O)} {us : List (Str × V)} {fp : List Addr}, ROf X.K F2 H2 fs us fp → us.length = fs.length := by
          intro fs
          induction fs with
          | nil => intro us fp h; rw [h.1]; rfl
          | cons z r ih => intro us fp h; obtain ⟨u, w, f1, f2, rfl, rfl, h3, h4⟩ := h; exact congrArg Nat.succ (ih h4)
        exact this rf
      have := of_decide_eq_true hl
      omega
    · cases hm1
  · cases hm1
/-! ### o[k] = e -/
def dput (t : Nat) (k : D) (x : O) : List (D × O) → Option (List (D × O))
  | [] => some [(k, x)]
  | (k', y) :: r => if dkq t k' k then (if (dget t k r).isNone then some ((k', x) :: r) else none) else (dput t k x r).map fun z => (k', y) :: z
theorem putK_cons {κ : Type} [DecidableEq κ] {p : κ × V} {r : List (κ × V)} {k : κ} {v : V} (h : ¬ p.1 = k) : putK (p :: r) k v = p :: putK r k v := by
  unfold putK
  rw [List.any_cons, decide_eq_false h, Bool.false_or]
  split
  · rw [List.map_cons, if_neg h]
  · rfl
theorem putK_hit {κ : Type} [DecidableEq κ] {p : κ × V} {r : List (κ × V)} {k : κ} {v : V} (h : p.1 = k) (hn : valV r k = none) : putK (p :: r) k v = (p.1, v) :: r := by
  unfold putK
  rw [List.any_cons, decide_eq_true h, Bool.true_or, if_pos rfl, List.map_cons, if_pos h]
  have : ∀ {r : List (κ × V)}, valV r k = none → r.map (fun kv => if kv.1 = k then (kv.1, v) else kv) = r := by
    intro r
    induction r with
    | nil => intro _; rfl
    | cons q r ih =>
      intro hq
      have hne : ¬ q.1 = k := fun z => by rw [valV_pos z] at hq; cases hq
      rw [valV_neg hne] at hq
      rw [List.map_cons, if_neg hne, ih hq]
  rw [this hn]
theorem ROk.put {K : Fg} {F H H' : Hp} {k : D} {q : Key} (hq : dkey k = some q) {x : O} {v : V} {fv : List Addr} (hx : RO K F H' x v fv) : ∀ {fs : List (D × O)} {us : List (Key × V)} {fp : List Addr} {fs' : List (D × O)}, ROk K F H fs us fp → Kp H H' fp → (fp ++ fv).Nodup → dput 0 k x fs = some fs' →
    ∃ fp', ROk K F H' fs' (putK us q v) fp' ∧ fp'.Nodup ∧ (∀ a ∈ fp', a ∈ fp ∨ a ∈ fv) ∧ us.length = fs.length
  | [], _, _, _, h, k, nd, e => by
    obtain ⟨rfl, rfl⟩ := h
    cases e
    exact ⟨fv, ⟨q, v, [], fv, [], rfl, by simp, hq, hx, rfl, rfl⟩, by simpa using nd, fun a m => .inr m, rfl⟩
  | (g, y) :: r, _, _, _, ⟨q', u, w, f1, f2, h1, h2, h0, h3, h4⟩, kp, nd, e => by
    subst h1 h2
    have n := nd_app.mp nd
    have n2 := nd_app.mp n.1
    have e0 : dkq 0 g k = decide (q' = q) := by
      unfold dkq
      rw [if_pos rfl, h0, hq]
    have hlen : ∀ {fs : List (D × O)} {us : List (Key × V)} {fp : List Addr}, ROk K F H fs us fp → us.length = fs.length := by
      intro fs
      induction fs with
      | nil => intro us fp h; rw [h.1]; rfl
      | cons z r ih => intro us fp h; obtain ⟨q, u, w, f1, f2, rfl, rfl, h0, h3, h4⟩ := h; exact congrArg Nat.succ (ih h4)
    unfold dput at e
    by_cases hg : q' = q
    · rw [e0, decide_eq_true hg, if_pos rfl] at e
      split at e
      · rename_i hz
        cases e
        have hn := (ROk.get hq h4).2 (Option.isNone_iff_eq_none.mp hz)
        rw [putK_hit hg hn]
        refine ⟨fv ++ f2, ⟨q', v, w, fv, f2, rfl, rfl, h0, hx, ROk.mono (Same.refl F) r kp.r h4⟩, nd_app.mpr ⟨n.2.1, n2.2.1, fun a m z => n.2.2 a z (List.mem_append_right _ m)⟩, fun a m => ?_, congrArg Nat.succ (hlen h4)⟩
        rcases List.mem_append.mp m with m | m
        · exact .inr m
        · exact .inl (List.mem_append_right _ m)
      · cases e
    · rw [e0, decide_eq_false hg, if_neg Bool.false_ne_true] at e
      obtain ⟨r', er, rfl⟩ := Option.map_eq_some_iff.mp e
      rw [putK_cons hg]
      obtain ⟨fp', a1, a2, a3, a4⟩ := ROk.put hq hx h4 kp.r (nd_app.mpr ⟨n2.2.1, n.2.1, fun a m z => n.2.2 a m (List.mem_append_right _ z)⟩) er
      refine ⟨f1 ++ fp', ⟨q', u, _, f1, fp', rfl, rfl, h0, RO.mono (Same.refl F) y kp.l h3, a1⟩, nd_app.mpr ⟨n2.1, a2, fun a m z => ?_⟩, fun a m => ?_, congrArg Nat.succ a4⟩
      · rcases a3 a m with q | q
        · exact n2.2.2 a q z
        · exact n.2.2 a q (List.mem_append_left _ z)
      · rcases List.mem_append.mp m with m | m
        · exact .inl (List.mem_append_left _ m)
        · rcases a3 a m with q | q
          · exact .inl (List.mem_append_right _ q)
          · exact .inr q
theorem ROt.put {K : Fg} {F H H' : Hp} {k : D} {q : List Key} (hq : dkeyT k = some q) {x : O} {v : V} {fv : List Addr} (hx : RO K F H' x v fv) : ∀ {fs : List (D × O)} {us : List (List Key × V)} {fp : List Addr} {fs' : List (D × O)}, ROt K F H fs us fp → Kp H H' fp → (fp ++ fv).Nodup → dput 1 k x fs = some fs' →
    ∃ fp', ROt K F H' fs' (putK us q v) fp' ∧ fp'.Nodup ∧ (∀ a ∈ fp', a ∈ fp ∨ a ∈ fv) ∧ us.length = fs.length
  | [], _, _, _, h, k, nd, e => by
    obtain ⟨rfl, rfl⟩ := h
    cases e
    exact ⟨fv, ⟨q, v, [], fv, [], rfl, by simp, hq, hx, rfl, rfl⟩, by simpa using nd, fun a m => .inr m, rfl⟩
  | (g, y) :: r, _, _, _, ⟨q', u, w, f1, f2, h1, h2, h0, h3, h4⟩, kp, nd, e => by
    subst h1 h2
    have n := nd_app.mp nd
    have n2 := nd_app.mp n.1
    have e0 : dkq 1 g k = decide (q' = q) := by
      unfold dkq
      rw [if_neg (by decide), h0, hq]
    have hlen : ∀ {fs : List (D × O)} {us : List (List Key × V)} {fp : List Addr}, ROt K F H fs us fp → us.length = fs.length := by
      intro fs
      induction fs with
      | nil => intro us fp h; rw [h.1]; rfl
      | cons z r ih => intro us fp h; obtain ⟨q, u, w, f1, f2, rfl, rfl, h0, h3, h4⟩ := h; exact congrArg Nat.succ (ih h4)
    unfold dput at e
    by_cases hg : q' = q
    · rw [e0, decide_eq_true hg, if_pos rfl] at e
      split at e
      · rename_i hz
        cases e
        have hn := (ROt.get hq h4).2 (Option.isNone_iff_eq_none.mp hz)
        rw [putK_hit hg hn]
        refine ⟨fv ++ f2, ⟨q', v, w, fv, f2, rfl, rfl, h0, hx, ROt.mono (Same.refl F) r kp.r h4⟩, nd_app.mpr ⟨n.2.1, n2.2.1, fun a m z => n.2.2 a z (List.mem_append_right _ m)⟩, fun a m => ?_, congrArg Nat.succ (hlen h4)⟩
        rcases List.mem_append.mp m with m | m
        · exact .inr m
        · exact .inl (List.mem_append_right _ m)
      · cases e
    · rw [e0, decide_eq_false hg, if_neg Bool.false_ne_true] at e
      obtain ⟨r', er, rfl⟩ := Option.map_eq_some_iff.mp e
      rw [putK_cons hg]
      obtain ⟨fp', a1, a2, a3, a4⟩ := ROt.put hq hx h4 kp.r (nd_app.mpr ⟨n2.2.1, n.2.1, fun a m z => n.2.2 a m (List.mem_append_right _ z)⟩) er
      refine ⟨f1 ++ fp', ⟨q', u, _, f1, fp', rfl, rfl, h0, RO.mono (Same.refl F) y kp.l h3, a1⟩, nd_app.mpr ⟨n2.1, a2, fun a m z => ?_⟩, fun a m => ?_, congrArg Nat.succ a4⟩
      · rcases a3 a m with q | q
        · exact n2.2.2 a q z
        · exact n.2.2 a q (List.mem_append_left _ z)
      · rcases List.mem_append.mp m with m | m
        · exact .inl (List.mem_append_left _ m)
        · rcases a3 a m with q | q
          · exact .inl (List.mem_append_right _ q)
          · exact .inr q
theorem ROs.set {K : Fg} {F H H' : Hp} {x : O} {v : V} {fv : List Addr} (hx : RO K F H' x v fv) : ∀ {fs : List O} {us : List V} {fp : List Addr} {j : Nat}, ROs K F H fs us fp → Kp H H' fp → (fp ++ fv).Nodup → j < fs.length →
    ∃ fp', ROs K F H' (fs.set j x) (us.set j v) fp' ∧ fp'.Nodup ∧ (∀ a ∈ fp', a ∈ fp ∨ a ∈ fv)
  | [], _, _, _, h, k, nd, e => by simp at e
  | y :: r, _, _, 0, ⟨u, w, f1, f2, h1, h2, h3, h4⟩, kp, nd, e => by
    subst h1 h2
    have n := nd_app.mp nd
    have n2 := nd_app.mp n.1
    refine ⟨fv ++ f2, ⟨v, w, fv, f2, rfl, rfl, hx, ROs.mono (Same.refl F) r kp.r h4⟩, nd_app.mpr ⟨n.2.1, n2.2.1, fun a m z => n.2.2 a z (List.mem_append_right _ m)⟩, fun a m => ?_⟩
    rcases List.mem_append.mp m with m | m
    · exact .inr m
    · exact .inl (List.mem_append_right _ m)
  | y :: r, _, _, j + 1, ⟨u, w, f1, f2, h1, h2, h3, h4⟩, kp, nd, e => by
    subst h1 h2
    have n := nd_app.mp nd
    have n2 := nd_app.mp n.1
    obtain ⟨fp', a1, a2, a3⟩ := ROs.set (j := j) hx h4 kp.r (nd_app.mpr ⟨n2.2.1, n.2.1, fun a m z => n.2.2 a m (List.mem_append_right _ z)⟩) (by simpa using e)
    refine ⟨f1 ++ fp', ⟨u, _, f1, fp', rfl, rfl, RO.mono (Same.refl F) y kp.l h3, a1⟩, nd_app.mpr ⟨n2.1, a2, fun a m z => ?_⟩, fun a m => ?_⟩
    · rcases a3 a m with q | q
      · exact n2.2.2 a q z
      · exact n.2.2 a q (List.mem_append_left _ z)
    · rcases List.mem_append.mp m with m | m
      · exact .inl (List.mem_append_left _ m)
      · rcases a3 a m with q | q
        · exact .inl (List.mem_append_right _ q)
        · exact .inr q
/-- the object behind o[k] = x -/
def setO (s k x : O) : Option O := match s with
  | .lst xs => (match k with
    | .fz (.int i) => (ixN xs.length i).map fun j => .lst (xs.set j x)
    | _ => none)
  | .dic t kvs => if dok t k.fr && decide (kvs.length < 1000000) then (dput t k.fr x kvs).map (O.dic t) else none
  | _ => none
def rSetA : TSet := fun o i v H Q => rSetL o i v H Q ∨ ∃ a H', o = .ref a ∧ DPut H a i v H' ∧ Q H'
theorem set_any {k : Nat} (hr : Room k X.A) : PSet X rSetA := by
  intro pins s σ H o i v ov iv u Q I ro ri rv h
  rcases h with h | ⟨a, H', rfl, g, q⟩
  · exact set_list pins s σ H o i v ov iv u Q I ro ri rv h
  · obtain rfl : ov = Value.ref a := ro
    exact d_setItem (hu_of hr) I g ri rv fun s' I' => ⟨H', I', q⟩
theorem ixN_lt {n : Nat} {i : Int} {j : Nat} (h : ixN n i = some j) : j < n := (ixN_seq h).2.1
theorem setO_lst {xs : List O} {k x s' : O} (h : setO (.lst xs) k x = some s') : ∃ i j, k = .fz (.int i) ∧ ixN xs.length i = some j ∧ s' = .lst (xs.set j x) := by
  cases k with
  | fz d => cases d with
    | int i =>
      obtain ⟨j, h1, h2⟩ := Option.map_eq_some_iff.mp (show (ixN xs.length i).map (fun j => O.lst (xs.set j x)) = some s' from h)
      exact ⟨i, j, rfl, h1, h2.symm⟩
    | _ => cases h
  | _ => cases h
/-- the store at values -/
theorem set_rd {K : Fg} {F H : Hp} {fp fv fk : List Addr} {env : Env} {σ : L2.St} {p : Pl} {s s' k x : O} {u kv v : V} {Q : Hp → Prop} (h : SR K F H fp env σ) (hg : getP env p = some s) (ha : AtS H σ p u) (hk : RO K F H k kv fk) (hv : HV K F H fp x v fv) (hs : setO s k x = some s')
    (q : ∀ H' fp', SR K F H' fp' (setP env p s') σ → Stp F H (fp ++ fv) F H' fp' → Q H') : rSetA u kv v H Q := by
  have rk := hk.rd h.fh
  obtain ⟨g2, ro⟩ := h.at hg ha
  cases s with
  | lst xs =>
    obtain ⟨i, j, rfl, hj, rfl⟩ := setO_lst hs
    obtain ⟨l, vs, fq, rfl, hl, rfl, rs⟩ := ro
    have key : ∀ f2, RO K F H (.lst xs) (.ref l) f2 → (f2 ++ fv).Nodup → l ∈ f2 ∧ ∃ f2', RO K F (upd H l (.lst (vs.set j v))) (.lst (xs.set j x)) (.ref l) f2' ∧ f2'.Nodup ∧ ∀ a ∈ f2', a ∈ f2 ∨ a ∈ fv := fun f2 ro2 nd => by
      obtain ⟨l', vs', fq', e1, e2, rfl, rf'⟩ := ro2
      cases e1
      rw [hl] at e2
      cases e2
      have n := nd_app.mp nd
      have n1 := List.nodup_cons.mp n.1
      have nl : l ∉ fv := fun m => n.2.2 l m (List.mem_cons_self ..)
      obtain ⟨fp', a1, a2, a3⟩ := ROs.set (j := j) (H := H) (RO.mono (Same.refl F) x (Kp.off (ob := .lst (vs.set j v)) nl) hv.ro) rf' (Kp.off n1.1) (nd_app.mpr ⟨n1.2, n.2.1, fun a m z => n.2.2 a m (List.mem_cons_of_mem _ z)⟩) (ixN_lt hj)
      refine ⟨List.mem_cons_self .., l :: fp', ⟨l, _, fp', rfl, upd_same, rfl, a1⟩, List.nodup_cons.mpr ⟨fun m => ?_, a2⟩, fun a m => ?_⟩
      · rcases a3 l m with k | k
        · exact n1.1 k
        · exact nl k
      · rcases List.mem_cons.mp m with rfl | m
        · exact .inl (List.mem_cons_self ..)
        · rcases a3 a m with k | k
          · exact .inl (List.mem_cons_of_mem _ k)
          · exact .inr k
    obtain ⟨fp', s', st'⟩ := h.upd1 (s' := .lst (xs.set j x)) (ob := .lst (vs.set j v)) hg ha hv.nd hv.nf hv.dj key
    exact .inl ⟨l, vs, i, j, rfl, rk, hl, by rw [rs.len]; exact hj, q _ fp' s' st'⟩
  | dic t kvs =>
    unfold setO at hs
    dsimp only at hs
    split at hs
    · rename_i hc
      obtain ⟨hok, hlen⟩ := Bool.and_eq_true_iff.mp hc
      obtain ⟨kvs', hp, rfl⟩ := Option.map_eq_some_iff.mp hs
      have hlen := of_decide_eq_true hlen
      obtain ⟨l, fq, rfl, rfl, hr⟩ := ro
      rcases hr with ⟨ks, rfl, hl, rs⟩ | ⟨ks, rfl, hl, rs⟩
      · unfold dok at hok
        rw [if_pos rfl] at hok
        obtain ⟨qk, hqk⟩ := Option.isSome_iff_exists.mp hok
        have key : ∀ f2, RO K F H (.dic 0 kvs) (.ref l) f2 → (f2 ++ fv).Nodup → l ∈ f2 ∧ ∃ f2', RO K F (upd H l (.dK (putK ks qk v))) (.dic 0 kvs') (.ref l) f2' ∧ f2'.Nodup ∧ ∀ a ∈ f2', a ∈ f2 ∨ a ∈ fv := fun f2 ro2 nd => by
          obtain ⟨l', fq', e1, rfl, hr'⟩ := ro2
          cases e1
          rcases hr' with ⟨ks', _, e2, rf'⟩ | ⟨_, ht, _⟩
          · rw [hl] at e2
            cases e2
            have n := nd_app.mp nd
            have n1 := List.nodup_cons.mp n.1
            have nl : l ∉ fv := fun m => n.2.2 l m (List.mem_cons_self ..)
            obtain ⟨fp', a1, a2, a3, _⟩ := ROk.put hqk (H := H) (RO.mono (Same.refl F) x (Kp.off (ob := .dK (putK ks qk v)) nl) hv.ro) rf' (Kp.off n1.1) (nd_app.mpr ⟨n1.2, n.2.1, fun a m z => n.2.2 a m (List.mem_cons_of_mem _ z)⟩) hp
            refine ⟨List.mem_cons_self .., l :: fp', ⟨l, fp', rfl, rfl, .inl ⟨_, rfl, upd_same, a1⟩⟩, List.nodup_cons.mpr ⟨fun m => ?_, a2⟩, fun a m => ?_⟩
            · rcases a3 l m with k | k
              · exact n1.1 k
              · exact nl k
            · rcases List.mem_cons.mp m with rfl | m
              · exact .inl (List.mem_cons_self ..)
              · rcases a3 a m with k | k
                · exact .inl (List.mem_cons_of_mem _ k)
                · exact .inr k
          · cases ht
        obtain ⟨fp', s', st'⟩ := h.upd1 (s' := .dic 0 kvs') (ob := .dK (putK ks qk v)) hg ha hv.nd hv.nf hv.dj key
        have hkl : ks.length = kvs.length := by
          have : ∀ {fs : List (D × O)} {us : List (Key × V)} {fp : List Addr}, ROk K F H fs us fp → us.length = fs.length := by
            intro fs
            induction fs with
            | nil => intro us fp h; rw [h.1]; rfl
            | cons z r ih => intro us fp h; obtain ⟨q, u, w, f1, f2, rfl, rfl, h0, h3, h4⟩ := h; exact congrArg Nat.succ (ih h4)
          exact this rs
        refine .inr ⟨l, _, rfl, ?_, q _ fp' s' st'⟩
        rw [dkey_rd rk hqk]
        exact .k hl (line1 (by omega))
      · unfold dok at hok
        rw [if_neg (by decide), if_pos rfl] at hok
        obtain ⟨qk, hqk⟩ := Option.isSome_iff_exists.mp hok
        have key : ∀ f2, RO K F H (.dic 1 kvs) (.ref l) f2 → (f2 ++ fv).Nodup → l ∈ f2 ∧ ∃ f2', RO K F (upd H l (.dT (putK ks qk v))) (.dic 1 kvs') (.ref l) f2' ∧ f2'.Nodup ∧ ∀ a ∈ f2', a ∈ f2 ∨ a ∈ fv := fun f2 ro2 nd => by
          obtain ⟨l', fq', e1, rfl, hr'⟩ := ro2
          cases e1
          rcases hr' with ⟨_, ht, _⟩ | ⟨ks', _, e2, rf'⟩
          · cases ht
          · rw [hl] at e2
            cases e2
            have n := nd_app.mp nd
            have n1 := List.nodup_cons.mp n.1
            have nl : l ∉ fv := fun m => n.2.2 l m (List.mem_cons_self ..)
            obtain ⟨fp', a1, a2, a3, _⟩ := ROt.put hqk (H := H) (RO.mono (Same.refl F) x (Kp.off (ob := .dT (putK ks qk v)) nl) hv.ro) rf' (Kp.off n1.1) (nd_app.mpr ⟨n1.2, n.2.1, fun a m z => n.2.2 a m (List.mem_cons_of_mem _ z)⟩) hp
            refine ⟨List.mem_cons_self .., l :: fp', ⟨l, fp', rfl, rfl, .inr ⟨_, rfl, upd_same, a1⟩⟩, List.nodup_cons.mpr ⟨fun m => ?_, a2⟩, fun a m => ?_⟩
            · rcases a3 l m with k | k
              · exact n1.1 k
              · exact nl k
            · rcases List.mem_cons.mp m with rfl | m
              · exact .inl (List.mem_cons_self ..)
              · rcases a3 a m with k | k
                · exact .inl (List.mem_cons_of_mem _ k)
                · exact .inr k
        obtain ⟨fp', s', st'⟩ := h.upd1 (s' := .dic 1 kvs') (ob := .dT (putK ks qk v)) hg ha hv.nd hv.nf hv.dj key
        have hkl : ks.length = kvs.length := by
          have : ∀ {fs : List (D × O)} {us : List (List Key × V)} {fp : List Addr}, ROt K F H fs us fp → us.length = fs.length := by
            intro fs
            induction fs with
            | nil => intro us fp h; rw [h.1]; rfl
            | cons z r ih => intro us fp h; obtain ⟨q, u, w, f1, f2, rfl, rfl, h0, h3, h4⟩ := h; exact congrArg Nat.succ (ih h4)
          exact this rs
        obtain ⟨b, rfl, hb⟩ := dkeyT_rd rk hqk
        exact .inr ⟨l, _, rfl, .t hl hb (line1 (by omega)), q _ fp' s' st'⟩
    · cases hs
  | _ => cases hs
def putS (pl : Env → Option Pl) (k : PM) (m : EM) : SM := fun env => bindS (m env) fun o e1 => (pl e1).bind fun p => (k e1).bind fun kx => (getP e1 p).bind fun s => (setO s kx o).map fun s' => (.nx, setP e1 p s')
theorem sv_put {kk : Nat} (hr : Room kk X.A) {pl : Env → Option Pl} {kp : PM} {m : EM} {pos' : Pos} (ho : LV X o pl) (hk : PV X b kp) (he : EV X W e m) (ha : ∀ v, assign (.Subscript o b pos') X.env v = (do
      let ov ← holding [v] (eval o X.env)
      let iv ← holding [v, ov] (eval b X.env)
      standAt pos'
      holding [v, ov, iv] (setItem ov iv v)
      release [v, ov, iv] []) := by intro _; rfl) (hs : swapsWithSole [.Subscript o b pos'] e pos.line X.env = pure false := by rfl) (hw : swappedStores [.Subscript o b pos'] e X.env = pure none := by rfl)
    (h1 : (assignEach [.Subscript o b pos'] X.env).map (·.2) = [assign (.Subscript o b pos') X.env] := by rfl) :
    SV X W pr (.Assign [.Subscript o b pos'] e pos) (putS pl kp m) := by
  refine ps_imp (ps_asg he (pg_sub ho hk (set_any hr) ha) hs hw h1) fun E σ H z => ?_
  obtain ⟨F, fp, env, r, s, hm, p⟩ := dS_out z
  refine dE_runS s hm p.exE fun x e1 v F1 H1 fp1 f1 s1 h1 st1 ex1 hm1 => ?_
  obtain ⟨q, hq, hm1⟩ := Option.bind_eq_some_iff.mp hm1
  obtain ⟨kx, hkx, hm1⟩ := Option.bind_eq_some_iff.mp hm1
  obtain ⟨s0, hg, hm1⟩ := Option.bind_eq_some_iff.mp hm1
  obtain ⟨s', hs', rfl⟩ := Option.map_eq_some_iff.mp hm1
  refine ⟨F1, fp1, e1, q, s0, s1, hq, hg, fun u F2 H2 q2 at2 => dP_run (s1.qt q2) hkx fun kv F3 H3 f3 q3 r3 => ?_⟩
  have q23 := q2.trans q3
  refine set_rd (s1.qt q23) hg (at2.mono q3.hh) r3 (h1.qt q23) hs' fun H' fp' s4 st4 => p.nx s4 ((st1.trans ⟨q23.ff, fun a o mu q n z => ⟨q23.hh _ _ q, q23.nf a o mu q z, n⟩⟩).trans st4)
end
end Dv

-- Dv12
set_option maxHeartbeats 4000000
namespace Dv
open PySem PySem.Spec L2
/-! ### append, pop -/
theorem ROs.snoc {K : Fg} {F H H' : Hp} {x : O} {v : V} {fv : List Addr} (hx : RO K F H' x v fv) : ∀ {os : List O} {us : List V} {fp : List Addr}, ROs K F H os us fp → Kp H H' fp → ROs K F H' (os ++ [x]) (us ++ [v]) (fp ++ fv)
  | [], _, _, h, k => by
    obtain ⟨rfl, rfl⟩ := h
    exact ⟨v, [], fv, [], rfl, by simp, hx, rfl, rfl⟩
  | y :: r, _, _, ⟨u, w, f1, f2, h1, h2, h3, h4⟩, k => by
    subst h1 h2
    exact ⟨u, _, f1, f2 ++ fv, rfl, by simp [List.append_assoc], RO.mono (Same.refl F) y k.l h3, ROs.snoc hx h4 k.r⟩
/-- a list that a place owns gets one more item -/
theorem app_rd {K : Fg} {F H : Hp} {fp fv : List Addr} {env : Env} {σ : L2.St} {p : Pl} {os : List O} {x : O} {u v : V} {Q : VK} (h : SR K F H fp env σ) (hg : getP env p = some (.lst os)) (ha : AtS H σ p u) (hv : HV K F H fp x v fv) (hl : os.length < 1000000)
    (q : ∀ H' fp', SR K F H' fp' (setP env p (.lst (os ++ [x]))) σ → Stp F H (fp ++ fv) F H' fp' → Q .non H') : rAppend u [v] H Q := by
  obtain ⟨g2, ro⟩ := h.at hg ha
  obtain ⟨l, vs, fq, rfl, hh, rfl, rs⟩ := ro
  have key : ∀ f2, RO K F H (.lst os) (.ref l) f2 → (f2 ++ fv).Nodup → l ∈ f2 ∧ ∃ f2', RO K F (upd H l (.lst (vs ++ [v]))) (.lst (os ++ [x])) (.ref l) f2' ∧ f2'.Nodup ∧ ∀ a ∈ f2', a ∈ f2 ∨ a ∈ fv := fun f2 ro2 nd => by
    obtain ⟨l', vs', fq', e1, e2, rfl, rf'⟩ := ro2
    cases e1
    rw [hh] at e2
    cases e2
    have n := nd_app.mp nd
    have n1 := List.nodup_cons.mp n.1
    have nl : l ∉ fv := fun m => n.2.2 l m (List.mem_cons_self ..)
    refine ⟨List.mem_cons_self .., (l :: fq') ++ fv, ⟨l, _, fq' ++ fv, rfl, upd_same, rfl, ROs.snoc (RO.mono (Same.refl F) x (Kp.off nl) hv.ro) rf' (Kp.off n1.1)⟩, nd, fun a m => List.mem_append.mp m⟩
  obtain ⟨fp', s', st'⟩ := h.upd1 (s' := .lst (os ++ [x])) (ob := .lst (vs ++ [v])) hg ha hv.nd hv.nf hv.dj key
  exact ⟨l, vs, v, rfl, rfl, hh, line1 (by rw [rs.len]; exact hl), q _ fp' s' st'⟩
theorem tyV_list {K : Fg} {F H : Hp} {os : List O} {u : V} {f : List Addr} (ro : RO K F H (.lst os) u f) : tyV K "list" u H := by
  obtain ⟨l, vs, fq, rfl, hh, rfl, rs⟩ := ro
  exact .inl ⟨rfl, vs, SqL.of hh⟩
def isLst (o : O) : Bool := match o with
  | .lst _ => true
  | _ => false
/-- x.append(e), x a name, e anything -/
def appN (i : Nat) (m : EM) : EM := fun env => match getP env (i, []) with
  | some (.lst _) => bindR (m env) fun o e1 => (match getP e1 (i, []) with
    | some (.lst os) => if os.length < 1000000 then some (.ok (.fz .non), setP e1 (i, []) (.lst (os ++ [o]))) else none
    | _ => none)
  | _ => none
section
variable {X : Cx} {W : WX} {pr : Nat → Bool} {a b c e o : Expr} {es : List Expr} {pos : Pos}
theorem ev_appN (i : Nat) {y : Str} {pp apos cpos : Pos} {m : EM} (he : EV X W e m) (hN : X.N[i]? = some y := by rfl) (hv : Vis X.env.scope y := by first | exact Or.inl rfl | exact Or.inr (Or.inl rfl) | exact Or.inr (Or.inr rfl)) (hd : (y == ("__debug__" : Str)) = false := by decide)
    (hcd : (y == ("__classdict__" : Str)) = false := by decide) {t : TE} (hb : PE X (.Call (.Attribute (.Name y pp) "append" apos) [e] [] cpos) (tBM X.K "list" rAppend (tVar i) (tCons (dE X.K W m) tNil))) :
    EV X W (.Call (.Attribute (.Name y pp) "append" apos) [e] [] cpos) (appN i m) := by
  refine pe_imp hb fun σ H Q z => ?_
  obtain ⟨F, fp, env, re, s, hm, post⟩ := dE_out z
  unfold appN at hm
  split at hm
  · rename_i os0 h0
    obtain ⟨o0, e0, hs0⟩ := getP_some h0
    cases hs0
    obtain ⟨u, f0, e2, ro⟩ := s.re.get e0
    refine ⟨u, e2, tyV_list ro, dE_run s hm post.ex fun x e1 v F1 H1 fp1 f1 s1 h1 st1 ex1 hm1 => ?_⟩
    split at hm1
    · rename_i os hg
      split at hm1
      · rename_i hl
        cases hm1
        have at1 : AtS H1 σ (i, []) u := ⟨u, e2, rfl⟩
        exact app_rd s1 hg at1 h1 hl fun H' fp' s' st' => post.fz s' (d := .non) rfl (st1.trans st')
      · cases hm1
    · cases hm1
  · cases hm
/-- p.append(e), p a place, e quiet -/
def appP (pl : Env → Option Pl) (p : PM) : EM := fun env => (pl env).bind fun q => match getP env q with
  | some (.lst os) => (match p env with
    | some (.fz d) => if os.length < 1000000 then some (.ok (.fz .non), setP env q (.lst (os ++ [.fz d]))) else none
    | _ => none)
  | _ => none
theorem ev_appP {apos cpos : Pos} {pl : Env → Option Pl} {p : PM} (hb : PE X (.Call (.Attribute o "append" apos) [e] [] cpos) (tBM X.K "list" rAppend (dL X.K pl) (tCons (dP X.K p) tNil))) :
    EV X W (.Call (.Attribute o "append" apos) [e] [] cpos) (appP pl p) := by
  refine pe_imp hb fun σ H Q z => ?_
  obtain ⟨F, fp, env, re, s, hm, post⟩ := dE_out z
  obtain ⟨q, hq, hm⟩ := Option.bind_eq_some_iff.mp hm
  split at hm
  · rename_i os hg
    split at hm
    · rename_i d hp
      split at hm
      · rename_i hl
        cases hm
        refine ⟨F, fp, env, q, _, s, hq, hg, fun u F1 H1 q1 at1 => ?_⟩
        obtain ⟨f2, ro⟩ := (s.qt q1).at hg at1
        refine ⟨tyV_list ro, dP_run (s.qt q1) hp fun v F2 H2 f2 q2 r2 => ?_⟩
        have q12 := q1.trans q2
        exact app_rd (s.qt q12) hg (at1.mono q2.hh) (HV.fz r2.2) hl fun H' fp' s' st' => post.fz s' (d := .non) rfl ((s.stp q12).trans (by simpa using st'))
      · cases hm
    · cases hm
  · cases hm
/-! ### what is walked -/
theorem iv_of {tg it : Expr} {m : IM} {wi : TI} (h : PI X tg it wi) (i : ∀ σ H R, dI X.K W m σ H R → wi σ H R) : IV X W tg it m := ⟨fun pins s σ H R I q => h.run pins s σ H R I (i σ H R q)⟩
def iAny (K : Fg) (tl : TE) : TI := fun σ H R => tl σ H fun x H1 => (∃ a, x = .ref a ∧ (∃ xs, SqL K H1 a xs) ∧ R (Itl K a) H1) ∨ (∃ a, x = .ref a ∧ (∃ xs, SqT K H1 a xs) ∧ R (Itt K a) H1) ∨ ∃ z, x = .str z ∧ R (Its z) H1
theorem pi_any {tg l : Expr} {tl : TE} (hl : PE X l tl) : PI X tg l (iAny X.K tl) := by
  refine ⟨fun pins s σ H R I h => ?_⟩
  refine thn (hl.run pins s σ H _ I h) fun v s1 ⟨x, H1, I1, r1, q1⟩ => ?_
  rcases q1 with ⟨a, e, ⟨xs, hq⟩, q⟩ | ⟨a, e, ⟨xs, hq⟩, q⟩ | ⟨z, e, q⟩
  · subst e
    cases r1
    obtain ⟨its, rv, p, hz⟩ := I1.list hq
    refine wpAny_pyIter_list p.isList ?_
    refine ⟨s1.heap.objs.size, [s1.heap.objs.size], _, _, H1, rfl, I1.kept (t' := s1.toks) fun b o e => Heap.get?_push_of_some _ e, turn_list a _, ⟨_, Heap.get?_push_size _ rfl, rfl, rfl⟩, fun b hb => ?_, q⟩
    have e : b = s1.heap.objs.size := by simpa using hb
    subst e
    exact I1.fpOk (Nat.le_refl _) (I1.hok.fresh (Nat.le_refl _))
  · subst e
    cases r1
    obtain ⟨its, rv, p, hz⟩ := I1.tuple hq
    refine wpAny_pyIter_tuple (show s1.heap.IsTuple a its.toArray from p) ?_
    refine ⟨s1.heap.objs.size, [s1.heap.objs.size], _, _, H1, rfl, I1.kept (t' := s1.toks) fun b o e => Heap.get?_push_of_some _ e, turn_tuple a _, ⟨_, Heap.get?_push_size _ rfl, rfl, rfl⟩, fun b hb => ?_, q⟩
    have e : b = s1.heap.objs.size := by simpa using hb
    subst e
    exact I1.fpOk (Nat.le_refl _) (I1.hok.fresh (Nat.le_refl _))
  · subst e
    obtain ⟨t, rfl⟩ := r1
    cases ha : z.cps.all (· < 128)
    · exact wpAny_pyIter_wide ha (pi_one (tk := s1.toks) I1 _ (turn_str _ z t "str_iterator" (.inr rfl)) ⟨_, Heap.get?_push_size _ rfl, rfl, rfl⟩ q)
    · exact wpAny_pyIter_ascii ha (pi_one (tk := s1.toks) I1 _ (turn_str _ z t "str_ascii_iterator" (.inl rfl)) ⟨_, Heap.get?_push_size _ rfl, rfl, rfl⟩ q)
/-- the items of a frozen thing -/
def itemsD : D → Option (List D)
  | .lst xs => some xs
  | .tup xs => some xs
  | .str z => some (z.cps.toList.map fun c => .str ⟨#[c]⟩)
  | _ => none
theorem ItOk.list {K : Fg} {F : Hp} {a : Addr} {xs : List D} {vs : List V} (h : SqL K F a vs) (r : Rs K F xs vs) : ItOk K F (Itl K a) xs := by
  have w := walk_list (K := K) (a := a) (xs := vs)
  refine ⟨fun i H hi e => w.goes i H (by rw [r.len]; exact hi) (e.seq h), fun H e => by rw [← r.len]; exact w.stops H (e.seq h), fun i H x H' F2 hi e1 e2 y => ?_⟩
  obtain ⟨rfl, hx⟩ := w.yields i H x H' (by rw [r.len]; exact hi) ((e1.trans e2).seq h) y
  obtain ⟨v, e3, rv⟩ := r.at (d := xs[i]) (List.getElem?_eq_getElem hi)
  rw [e3] at hx
  cases hx
  exact ⟨F2, xs[i], List.getElem?_eq_getElem hi, Qt.refl e2, R.mono e1 _ rv⟩
theorem ItOk.tup {K : Fg} {F : Hp} {a : Addr} {xs : List D} {vs : List V} (h : SqT K F a vs) (r : Rs K F xs vs) : ItOk K F (Itt K a) xs := by
  have w := walk_tup (K := K) (a := a) (xs := vs)
  refine ⟨fun i H hi e => w.goes i H (by rw [r.len]; exact hi) (same_t e h), fun H e => by rw [← r.len]; exact w.stops H (same_t e h), fun i H x H' F2 hi e1 e2 y => ?_⟩
  obtain ⟨rfl, hx⟩ := w.yields i H x H' (by rw [r.len]; exact hi) (same_t (e1.trans e2) h) y
  obtain ⟨v, e3, rv⟩ := r.at (d := xs[i]) (List.getElem?_eq_getElem hi)
  rw [e3] at hx
  cases hx
  exact ⟨F2, xs[i], List.getElem?_eq_getElem hi, Qt.refl e2, R.mono e1 _ rv⟩
theorem ItOk.str {K : Fg} {F : Hp} {z : Str} : ItOk K F (Its z) (z.cps.toList.map fun c => .str ⟨#[c]⟩) := by
  have hl : (z.cps.toList.map fun c => D.str ⟨#[c]⟩).length = z.cps.size := by simp
  refine ⟨fun i H hi e => by rw [hl] at hi; exact hi, fun H e => by show z.cps.size ≤ _; rw [hl]; exact Nat.le_refl _, fun i H x H' F2 hi e1 e2 y => ?_⟩
  obtain ⟨rfl, c, hc, rfl⟩ := y
  refine ⟨F2, .str ⟨#[c]⟩, ?_, Qt.refl e2, rfl⟩
  rw [List.getElem?_map]
  have : z.cps.toList[i]? = some c := by simpa using hc
  rw [this]; rfl
theorem ItOk.rng {K : Fg} {F : Hp} {lo : Int} {n : Nat} : ItOk K F (Itr lo n) ((List.range n).map fun i => .int (lo + (i : Nat))) := by
  have hl : ((List.range n).map fun i => D.int (lo + (i : Nat))).length = n := by simp
  refine ⟨fun i H hi e => by rw [hl] at hi; exact hi, fun H e => by show n ≤ _; rw [hl]; exact Nat.le_refl _, fun i H x H' F2 hi e1 e2 y => ?_⟩
  obtain ⟨rfl, rfl⟩ := y
  refine ⟨F2, .int (lo + i), ?_, Qt.refl e2, rfl⟩
  rw [hl] at hi
  rw [List.getElem?_map, List.getElem?_range hi]; rfl
def iE (m : EM) : IM := fun env => bindR (m env) fun o e1 => match o with
  | .fz d => (itemsD d).map fun xs => (.ok xs, e1)
  | _ => none
theorem dI_run {K : Fg} {m : EM} {k : O → Env → Option (Rz (List D) × Env)} {F H : Hp} {fp env σ} {r : Rz (List D) × Env} {Q : VK} (s : SR K F H fp env σ) (h : bindR (m env) k = some r) (hx : ∀ c fs e, r = (.ex c fs, e) → exW K W F H fp e σ c fs)
    (hk : ∀ o e1 v F' H' fp' fv, SR K F' H' fp' e1 σ → HV K F' H' fp' o v fv → Stp F H fp F' H' (fp' ++ fv) → k o e1 = some r → Q v H') : dE K W m σ H Q := dE_run s h hx fun o e1 v F' H' fp' fv a b c _ d => hk o e1 v F' H' fp' fv a b c d
theorem dI_out {K : Fg} {m : IM} {σ H Q} (h : dI K W m σ H Q) : ∃ F fp env r, SR K F H fp env σ ∧ m env = some r ∧ (∀ c fs e, r = (.ex c fs, e) → exW K W F H fp e σ c fs) ∧ ∀ xs e, r = (.ok xs, e) → ∀ J F' H' fp', SR K F' H' fp' e σ → Stp F H fp F' H' fp' → ItOk K F' J xs → Q J H' := by
  obtain ⟨F, fp, env, r, env', s, hm, post⟩ := h
  refine ⟨F, fp, env, (r, env'), s, hm, fun c fs e q => ?_, fun xs e q => ?_⟩
  · cases q; exact post
  · cases q; exact post
theorem iv_any {tg it : Expr} {m : EM} (h : EV X W it m) : IV X W tg it (iE m) := by
  refine iv_of (pi_any h) fun σ H R z => ?_
  obtain ⟨F, fp, env, r, s, hm, ex, ok⟩ := dI_out z
  refine dI_run s hm ex fun o e1 v F1 H1 fp1 f1 s1 h1 st1 hm1 => ?_
  cases o with
  | fz d =>
    obtain ⟨xs, hx, rfl⟩ := Option.map_eq_some_iff.mp hm1
    have rd := h1.ro.2
    cases d with
    | lst ys =>
      cases hx
      obtain ⟨a, vs, rfl, hs, rs⟩ := rd
      exact .inl ⟨a, rfl, ⟨vs, s1.fh.seq hs⟩, ok _ _ rfl _ F1 H1 fp1 s1 st1.wr (ItOk.list hs rs)⟩
    | tup ys =>
      cases hx
      obtain ⟨a, vs, rfl, hs, rs⟩ := rd
      exact .inr (.inl ⟨a, rfl, ⟨vs, SqT.of (s1.fh _ _ hs)⟩, ok _ _ rfl _ F1 H1 fp1 s1 st1.wr (ItOk.tup (SqT.of hs) rs)⟩)
    | str z =>
      cases hx
      exact .inr (.inr ⟨z, rd, ok _ _ rfl _ F1 H1 fp1 s1 st1.wr ItOk.str⟩)
    | _ => cases hx
  | _ => cases hm1
/-- range(n), range(a, b) -/
def rngOk (i : Int) : Bool := decide (-(2 ^ 62) ≤ i) && decide (i < 2 ^ 62)
def iR1 (m : EM) : IM := fun env => bindR (m env) fun o e1 => match o with
  | .fz (.int j) => if rngOk j then some (.ok ((List.range j.toNat).map fun i => .int (i : Nat)), e1) else none
  | _ => none
theorem rngOk_some {i : Int} (h : rngOk i = true) : -(2 ^ 62) ≤ i ∧ i < 2 ^ 62 := by
  obtain ⟨a, b⟩ := Bool.and_eq_true_iff.mp h
  exact ⟨of_decide_eq_true a, of_decide_eq_true b⟩
theorem iv_range1 {tg : Expr} {p : Pos} {m : EM} (hg : Gl X "range") (hm : X.mg "range" = none) (h : EV X W a m) (hs : starEach [a] X.env = [(false, eval a X.env)] := by rfl) : IV X W tg (.Call (.Name "range" p) [a] [] pos) (iR1 m) := by
  refine iv_of (pi_range1 hg hm (pa_cons h pa_nil hs) hs) fun σ H R z => ?_
  obtain ⟨F, fp, env, r, s, hm, ex, ok⟩ := dI_out z
  refine dI_run s hm ex fun o e1 v F1 H1 fp1 f1 s1 h1 st1 hm1 => ?_
  split at hm1
  · rename_i j
    split at hm1
    · rename_i hj
      cases hm1
      obtain ⟨j1, j2⟩ := rngOk_some hj
      have it := ItOk.rng (K := X.K) (F := F1) (lo := 0) (n := j.toNat)
      have e : (List.range j.toNat).map (fun i => D.int (0 + (i : Nat))) = (List.range j.toNat).map fun i => D.int (i : Nat) := List.map_congr_left fun i _ => by rw [Int.zero_add]
      rw [e] at it
      exact ⟨j, by rw [show v = V.int j from h1.ro.2], j1, j2, ok _ _ rfl _ F1 H1 fp1 s1 st1.wr it⟩
    · cases hm1
  · cases hm1
def iR2 (m n : EM) : IM := fun env => bindR (m env) fun o e1 => bindR (n e1) fun u e2 => match o, u with
  | .fz (.int i), .fz (.int j) => if rngOk i && rngOk j then some (.ok ((List.range (j - i).toNat).map fun k => .int (i + (k : Nat))), e2) else none
  | _, _ => none
theorem iv_range2 {tg : Expr} {p : Pos} {m n : EM} (hg : Gl X "range") (hm : X.mg "range" = none) (h : EV X W a m) (h' : EV X W b n) (hs : starEach [a, b] X.env = [(false, eval a X.env), (false, eval b X.env)] := by rfl) (hs2 : starEach [b] X.env = [(false, eval b X.env)] := by rfl) :
    IV X W tg (.Call (.Name "range" p) [a, b] [] pos) (iR2 m n) := by
  refine iv_of (pi_range2 hg hm (pa_cons h (pa_cons h' pa_nil hs2) (by rw [hs, hs2])) hs hs2) fun σ H R z => ?_
  obtain ⟨F, fp, env, r, s, hm, ex, ok⟩ := dI_out z
  refine dE_run s hm ex fun o e1 v F1 H1 fp1 f1 s1 h1 st1 ex1 hm1 => dE_run s1 hm1 ex1 fun u e2 w F2 H2 fp2 f2 s2 h2 st2 ex2 hm2 => ?_
  have h1' := h1.on st2
  split at hm2
  · rename_i i j
    split at hm2
    · rename_i hj
      cases hm2
      obtain ⟨hi, hj⟩ := Bool.and_eq_true_iff.mp hj
      obtain ⟨i1, i2⟩ := rngOk_some hi
      obtain ⟨j1, j2⟩ := rngOk_some hj
      exact ⟨i, j, by rw [show v = V.int i from h1'.ro.2, show w = V.int j from h2.ro.2], ⟨i1, i2, j1, j2⟩, ok _ _ rfl _ F2 H2 fp2 s2 ((st1.wr.trans st2).wr) ItOk.rng⟩
    · cases hm2
  · cases hm2
end
end Dv

-- Dv13
set_option maxHeartbeats 4000000
namespace Dv
open PySem PySem.Spec L2
/-! ### list comprehensions -/
def wipeE (env : Env) : List Nat → Env
  | [] => env
  | v :: vs => (wipeE env vs).set v none
def restE (e0 e : Env) : List Nat → Option Env
  | [] => some e
  | v :: vs => (restE e0 e vs).bind fun e' => match e0[v]? with
    | some (some (.fz d)) => if v < e'.length then some (e'.set v (some (.fz d))) else none
    | some none => some e'
    | _ => none
def compL (g : D → Env → Option Env) (t : TM) (m : EM) (vs : List Nat) : List D → Env → List D → Option (List D × Env)
  | [], env, acc => some (acc, env)
  | x :: r, env, acc => (g x env).bind fun e1 => match t e1 with
    | some (.ok true, e2) => (match m e2 with
      | some (.ok o, e3) => if acc.length < sizeLine then compL g t m vs r (wipeE e3 vs) (acc ++ [o.fr]) else none
      | _ => none)
    | some (.ok false, e2) => compL g t m vs r (wipeE e2 vs) acc
    | _ => none
def compE (it : IM) (g : D → Env → Option Env) (t : TM) (m : EM) (vs : List Nat) : EM := fun env => bindR (it env) fun xs e1 =>
  (compL g t m vs xs (wipeE e1 vs) []).bind fun r => (restE e1 r.2 vs).map fun e3 => (.ok (.lst (r.1.map .fz)), e3)
def yesT : TM := fun env => some (.ok true, env)
def W0 : WX := fun _ _ _ _ => False
section
variable {K : Fg} {F H : Hp} {fp : List Addr} {env : Env} {σ : L2.St}
theorem set_same {σ : L2.St} {v : Nat} {x : Option V} (h : σ[v]? = some x) : σ.set v x = σ := by
  refine List.ext_getElem? fun i => ?_
  by_cases hi : v = i
  · subst hi
    rw [List.getElem?_set_self (by obtain ⟨hl, _⟩ := List.getElem?_eq_some_iff.mp h; exact hl), h]
  · rw [List.getElem?_set_ne hi]
theorem SR.wipe (s : SR K F H fp env σ) : ∀ vs : List Nat, ∃ fp', SR K F H fp' (wipeE env vs) (L2.wipe σ vs) ∧ Stp F H fp F H fp'
  | [] => ⟨fp, s, Stp.refl⟩
  | v :: vs => by
    obtain ⟨fp1, s1, st1⟩ := SR.wipe s vs
    obtain ⟨fp2, s2, st2⟩ := s1.forget (i := v) none
    exact ⟨fp2, s2, st1.trans st2⟩
/-- what a free slot holds is of no matter -/
theorem RE.any : ∀ {env : Env} {σ σ' : L2.St} {fp : List Addr}, RE K F H env σ fp → σ'.length = σ.length → (∀ (i : Nat) o, env[i]? = some (some o) → σ'[i]? = σ[i]?) → RE K F H env σ' fp
  | [], σ, σ', fp, h, hl, _ => by
    obtain ⟨h1, h2⟩ := h
    subst h1
    exact ⟨List.length_eq_zero_iff.mp hl, h2⟩
  | none :: e, σ, σ', fp, ⟨x, r, h1, h2⟩, hl, hk => by
    subst h1
    cases σ' with
    | nil => simp at hl
    | cons y r' => exact ⟨y, r', rfl, RE.any h2 (by simpa using hl) fun i o q => by simpa using hk (i + 1) o (by simpa using q)⟩
  | some p :: e, σ, σ', fp, ⟨v, r, f1, f2, h1, h2, h3, h4⟩, hl, hk => by
    subst h1
    cases σ' with
    | nil => simp at hl
    | cons y r' =>
      have := hk 0 p rfl
      simp at this
      subst this
      exact ⟨v, r', f1, f2, rfl, h2, h3, RE.any h4 (by simpa using hl) fun i o q => by simpa using hk (i + 1) o (by simpa using q)⟩
theorem SR.any {σ' : L2.St} (s : SR K F H fp env σ) (hl : σ'.length = σ.length) (hk : ∀ (i : Nat) o, env[i]? = some (some o) → σ'[i]? = σ[i]?) : SR K F H fp env σ' := ⟨s.fh, s.nd, s.nf, s.re.any hl hk⟩
theorem wipeE_at {i : Nat} : ∀ {vs : List Nat}, i ∉ vs → (wipeE env vs)[i]? = env[i]?
  | [], _ => rfl
  | v :: vs, h => by
    simp only [List.mem_cons, not_or] at h
    unfold wipeE
    rw [List.getElem?_set_ne (Ne.symm h.1), wipeE_at h.2]
theorem wipeE_in {i : Nat} {o : O} : ∀ {vs : List Nat}, i ∈ vs → (wipeE env vs)[i]? ≠ some (some o)
  | [], h => by cases h
  | v :: vs, h => by
    unfold wipeE
    by_cases e : v = i
    · subst e
      rw [List.getElem?_set]
      simp
    · rw [List.getElem?_set_ne e]
      refine wipeE_in ?_
      rcases List.mem_cons.mp h with q | q
      · exact absurd q.symm e
      · exact q
theorem SR.unwipe {vs : List Nat} (s : SR K F H fp (wipeE env vs) (L2.wipe σ vs)) : SR K F H fp (wipeE env vs) σ := by
  refine s.any (L2.wipe_length σ vs).symm fun i o q => ?_
  by_cases h : i ∈ vs
  · exact absurd q (wipeE_in h)
  · exact (L2.wipe_out h).symm
theorem RE.fz : ∀ {env : Env} {σ : L2.St} {fp : List Addr} {i : Nat} {d : D}, RE K F H env σ fp → env[i]? = some (some (.fz d)) → ∃ v, σ[i]? = some (some v) ∧ R K F d v := fun h e => by
  obtain ⟨v, f1, f2, f3, e1, e2, e3, _⟩ := RE.lens h e
  exact ⟨v, e2, e3.2⟩
theorem SR.rest {F1 H1 : Hp} {fp1 : List Addr} {e0 : Env} (s0 : SR K F1 H1 fp1 e0 σ) (sf : Same F1 F) (s : SR K F H fp env σ) : ∀ {vs : List Nat} {e3 : Env}, restE e0 env vs = some e3 → ∃ fp', SR K F H fp' e3 σ ∧ Stp F H fp F H fp' := by
  intro vs
  induction vs with
  | nil => intro e3 h; cases h; exact ⟨fp, s, Stp.refl⟩
  | cons v vs ih =>
    intro e3 h
    obtain ⟨e', h1, h2⟩ := Option.bind_eq_some_iff.mp h
    obtain ⟨fp', s', st'⟩ := ih h1
    split at h2
    · rename_i d hd
      split at h2
      · rename_i hl
        cases h2
        obtain ⟨w, hw, r⟩ := RE.fz s0.re hd
        obtain ⟨fp2, s2, st2⟩ := s'.store (HV.fz (R.mono sf _ r)) hl
        rw [set_same hw] at s2
        exact ⟨fp2, s2, st'.trans ⟨st2.ff, fun a o mu e n z => st2.out a o mu e (by simpa using n) z⟩⟩
      · cases h2
    · cases h2; exact ⟨fp', s', st'⟩
    · cases h2
theorem SR.updH {a : Addr} {ob : HO} (s : SR K F H fp env σ) (hf : F a = none) (hn : a ∉ fp) : SR K F (upd H a ob) fp env σ := by
  refine ⟨fun b u q => ?_, s.nd, s.nf, RE.mono (Same.refl F) env (Kp.off hn) s.re⟩
  rw [upd_ne (ne_of_none q hf)]; exact s.fh _ _ q
theorem Stp.updH {F1 H1 : Hp} {fp1 : List Addr} {a : Addr} {ob : HO} (st : Stp F1 H1 fp1 F H (fp ++ [a])) (hn : ∀ o, Mu o = true → H1 a = some o → a ∈ fp1 ∨ F1 a ≠ none) : Stp F1 H1 fp1 F (upd H a ob) (fp ++ [a]) := by
  refine ⟨st.ff, fun b o mu e n z => ?_⟩
  obtain ⟨x, y, w⟩ := st.out b o mu e n z
  have : b ≠ a := fun q => by
    subst q
    rcases hn o mu e with k | k
    · exact n k
    · exact k z
  exact ⟨by rw [upd_ne this]; exact x, y, w⟩
theorem Rs.snoc {d : D} {v : V} : ∀ {ds : List D} {vs : List V}, Rs K F ds vs → R K F d v → Rs K F (ds ++ [d]) (vs ++ [v])
  | [], _, h, r => by cases h; exact ⟨v, [], rfl, r, rfl⟩
  | x :: ds, _, ⟨u, w, e, h1, h2⟩, r => by subst e; exact ⟨u, w ++ [v], rfl, h1, Rs.snoc h2 r⟩
theorem ROs.fzs : ∀ {ds : List D} {vs : List V}, Rs K F ds vs → ROs K F H (ds.map .fz) vs []
  | [], _, h => ⟨h, rfl⟩
  | d :: ds, _, ⟨v, w, e, h1, h2⟩ => ⟨v, w, [], [], e, rfl, ⟨rfl, h1⟩, ROs.fzs h2⟩
end
theorem wipe_kpr {vs : List Nat} {a b : L2.St} (h : Kpr (fun i => !vs.contains i) a b) : L2.wipe b vs = L2.wipe a vs := by
  refine List.ext_getElem? fun i => ?_
  by_cases hi : i ∈ vs
  · have key : ∀ (s : L2.St), (L2.wipe s vs)[i]? = if i < s.length then some none else none := fun s => by
      cases hx : (L2.wipe s vs)[i]? with
      | none =>
        have := List.getElem?_eq_none_iff.mp hx
        rw [L2.wipe_length] at this
        rw [if_neg (by omega)]
      | some x =>
        obtain ⟨hl, _⟩ := List.getElem?_eq_some_iff.mp hx
        rw [L2.wipe_length] at hl
        rw [if_pos hl]
        cases x with
        | none => rfl
        | some v => exact absurd hi (L2.wipe_some hx).2
    rw [key, key, h.1]
  · rw [L2.wipe_out hi, L2.wipe_out hi]
    exact h.2 i (by simpa using hi)
theorem tests_yes {X : Cx} {W : WX} : PTs X [] (dT X.K W yesT) := ⟨fun pins s σ H Q I h => by
  obtain ⟨F, fp, env, r, env', s', hm, post⟩ := h
  cases hm
  exact wpAny_tests_nil ⟨H, I, post F H fp s' Stp.refl⟩⟩
section
variable {X : Cx} {W : WX} {pr : Nat → Bool} {elt tg iter : Expr} {ifs : List Expr} {scope : Scope} {own : List (Str × Nat)} {pos : Pos} {mi : IM} {g : D → Env → Option Env} {t : TM} {m : EM}
structure CIv (K : Fg) (F1 H1 : Hp) (fp1 : List Addr) (σ : L2.St) (vs : List Nat) (Da : Addr) (go : Env → List D → Prop) (H' : Hp) : Prop where
  ex : ∃ F' fp' e' acc us, SR K F' H' fp' (wipeE e' vs) (L2.wipe σ vs) ∧ H' Da = some (.lst us) ∧ F' Da = none ∧ Da ∉ fp' ∧ Rs K F' acc us ∧ Stp F1 H1 fp1 F' H' (fp' ++ [Da]) ∧ go (wipeE e' vs) acc
theorem wipe_idem {σ : L2.St} {vs : List Nat} : L2.wipe (L2.wipe σ vs) vs = L2.wipe σ vs := by
  have h : Kpr (fun i => !vs.contains i) σ (L2.wipe σ vs) := ⟨L2.wipe_length σ vs, fun i hi => L2.wipe_out (by simpa using hi)⟩
  exact wipe_kpr h
theorem Rs.len' {K : Fg} {F : Hp} {ds : List D} {vs : List V} (h : Rs K F ds vs) : vs.length = ds.length := h.len
theorem comp_rd {σ : L2.St} {H : Hp} {Q : VK} {vs : List Nat} (z : dE X.K W (compE mi g t m vs) σ H Q) :
    tLc (dI X.K W mi) (dG X.K W0 (fun i => !vs.contains i) g) (dT X.K W0 t) (dE X.K W0 m) vs σ H Q := by
  obtain ⟨F, fp, env, r, s, hm, p⟩ := dE_out z
  rcases bindR_some hm with ⟨xs, e1, h1, h2⟩ | ⟨c, fs, e1, h1, h2⟩
  · refine ⟨F, fp, env, .ok xs, e1, s, h1, fun J F1 H1 fp1 s1 st1 it1 Da hD => ?_⟩
    obtain ⟨⟨ds, e2⟩, h3, h4⟩ := Option.bind_eq_some_iff.mp h2
    obtain ⟨e3, h5, rfl⟩ := Option.map_eq_some_iff.mp h4
    obtain ⟨fpw, sw, stw⟩ := s1.wipe vs
    have nD : ∀ {fq : List Addr}, In H1 fq → Da ∉ fq := fun h k => by
      obtain ⟨o, e, _⟩ := h _ k
      rw [hD] at e; cases e
    have fD : F1 Da = none := s1.fh.free hD
    have st0 : Stp F1 H1 fp1 F1 (upd H1 Da (.lst [])) (fpw ++ [Da]) := by
      refine ⟨Same.refl _, fun a o mu e n z => ?_⟩
      have ha : a ≠ Da := fun q => by rw [q, hD] at e; cases e
      obtain ⟨x, y, w⟩ := stw.out a o mu e n z
      exact ⟨by rw [upd_ne ha]; exact x, y, fun k => (List.mem_append.mp k).elim w fun k => ha (by simpa using k)⟩
    refine ⟨fun i n H' => i + n = xs.length ∧ CIv X.K F1 H1 fp1 σ vs Da (fun e acc => compL g t m vs (xs.drop i) e acc = some (ds, e2)) H', ⟨xs.length, by omega, ⟨F1, fpw, e1, [], [], sw.updH fD (nD (RE.inn _ sw.re)), upd_same, fD, nD (RE.inn _ sw.re), rfl, st0, by simpa using h3⟩⟩, fun i n H' ⟨en, ⟨F', fp', e', acc, us, s', hD', fD', nD', ra, st', hc⟩⟩ => ?_⟩
    have sf : Same F1 F' := st'.ff
    have sh : Same F1 H' := sf.trans s'.fh
    by_cases hlt : i < xs.length
    · refine .inr ⟨it1.go i H' hlt sh, CIv X.K F1 H1 fp1 σ vs Da (fun e acc => compL g t m vs (xs.drop (i + 1)) e acc = some (ds, e2)), fun H3 q => ⟨n - 1, by omega, by omega, q⟩, fun x H3 hy => ?_⟩
      obtain ⟨F3, d, hd, q3, rd⟩ := it1.yld i H' x H3 F' hlt sf s'.fh hy
      have hx : xs.drop i = d :: xs.drop (i + 1) := by
        obtain ⟨hl, he⟩ := List.getElem?_eq_some_iff.mp hd
        rw [List.drop_eq_getElem_cons hl, he]
      rw [hx] at hc
      obtain ⟨e4, h6, h7⟩ := Option.bind_eq_some_iff.mp hc
      have s3 := s'.qt q3
      have st3 := st'.tr2 (f2 := []) (s'.stp q3).nl
      rw [List.append_nil] at st3
      have hdD : ∀ {Fa Ha Fb Hb : Hp} {fa fb : List Addr} {us : List V}, Stp Fa Ha fa Fb Hb fb → Ha Da = some (.lst us) → Fa Da = none → Da ∉ fa → Hb Da = some (.lst us) ∧ Fb Da = none ∧ Da ∉ fb := fun st a b c => st.out _ _ rfl a c b
      obtain ⟨g3, g3', g3''⟩ := hdD (s'.stp q3) hD' fD' nD'
      refine ⟨F3, fp', _, d, e4, s3, rd, h6, fun σ4 F4 H4 fp4 s4 st4 k4 => ⟨(wipe_kpr k4).trans wipe_idem, ?_⟩⟩
      obtain ⟨g4, g4', g4''⟩ := hdD st4 g3 g3' g3''
      have st4' := st3.tr2 (f2 := []) st4.nl
      rw [List.append_nil] at st4'
      have ra4 := Rs.mono (q3.ff.trans st4.ff) _ ra
      cases ht : t e4 with
      | none => rw [ht] at h7; cases h7
      | some rt =>
        obtain ⟨b, e5⟩ := rt
        rw [ht] at h7
        cases b with
        | ex c fs => cases h7
        | ok b =>
          refine dT_in s4 ht fun F5 H5 fp5 s5 st5 => ?_
          obtain ⟨g5, g5', g5''⟩ := hdD st5 g4 g4' g4''
          have st5' := st4'.tr2 (f2 := []) st5.nl
          rw [List.append_nil] at st5'
          have ra5 := Rs.mono st5.ff _ ra4
          have back : ∀ {F9 H9 : Hp} {fp9 : List Addr} {e9 : Env} {acc9 us9}, SR X.K F9 H9 fp9 e9 σ4 → H9 Da = some (.lst us9) → F9 Da = none → Da ∉ fp9 → Rs X.K F9 acc9 us9 → Stp F1 H1 fp1 F9 H9 (fp9 ++ [Da]) → compL g t m vs (xs.drop (i + 1)) (wipeE e9 vs) acc9 = some (ds, e2) → CIv X.K F1 H1 fp1 σ vs Da (fun e acc => compL g t m vs (xs.drop (i + 1)) e acc = some (ds, e2)) H9 := fun {F9 H9 fp9 e9 acc9 us9} s9 a b c d e f => by
            obtain ⟨fw, s10, st10⟩ := s9.wipe vs
            rw [(wipe_kpr k4).trans wipe_idem] at s10
            obtain ⟨j1, j2, j3⟩ := hdD st10 a b c
            have st11 := e.tr2 (f2 := []) st10.nl
            rw [List.append_nil] at st11
            exact ⟨F9, fw, e9, acc9, us9, s10, a, b, j3, d, st11, f⟩
          cases b with
          | false =>
            rw [if_neg Bool.false_ne_true]
            exact back s5 g5 g5' g5'' ra5 st5' h7
          | true =>
            rw [if_pos rfl]
            dsimp only at h7
            cases hmm : m e5 with
            | none => rw [hmm] at h7; cases h7
            | some rm =>
              obtain ⟨ro, e6⟩ := rm
              rw [hmm] at h7
              cases ro with
              | ex c fs => cases h7
              | ok o =>
                dsimp only at h7
                split at h7
                · rename_i hsz
                  refine dE_in s5 hmm fun v F6 H6 fp6 f6 s6 h6 st6 => ?_
                  obtain ⟨F7, s7, r7, st7, sf7, _⟩ := h6.frz s6
                  have st67 := st6.trans st7
                  obtain ⟨g7, g7', g7''⟩ := hdD st67 g5 g5' g5''
                  have st7' := st5'.tr2 (f2 := []) st67.nl
                  rw [List.append_nil] at st7'
                  have ra7 := Rs.mono st67.ff _ ra5
                  refine ⟨us, g7, by rw [ra7.len]; exact hsz, ?_⟩
                  exact back (s7.updH g7' g7'') upd_same g7' g7'' (ra7.snoc r7) (st7'.updH fun u _ e => by rw [hD] at e; cases e) h7
                · cases h7
    · have ei : i = xs.length := by omega
      subst ei
      rw [List.drop_length] at hc
      cases hc
      refine .inl ⟨it1.stop H' sh, ?_⟩
      obtain ⟨fp5, s5, st5⟩ := SR.rest s1 sf s'.unwipe h5
      have st6 := st'.tr2 (f2 := []) st5.nl
      rw [List.append_nil] at st6
      have hh := st5.out _ _ rfl hD' nD' fD'
      exact p (.ref Da) F' H' fp5 [Da] s5 ⟨⟨Da, us, [], rfl, hD', rfl, ROs.fzs ra⟩, by simp, fun a k => by rw [List.mem_singleton.mp k]; exact fD', fun a k => by rw [List.mem_singleton.mp k]; exact hh.2.2⟩ (st1.trans st6)
  · exact ⟨F, fp, env, .ex c fs, e1, s, h1, p.ex c fs e1 h2⟩
abbrev BlkV (X : Cx) (scope : Scope) (P : Cx → Prop) : Prop := ∀ (s : Shared) (H : Hp) (C : Addr) (cl : List (Str × Addr)) (fp : List Addr), P (X.blk s H scope (compEnvC scope cl C X.env) fp)
theorem ev_lc (vs : List Nat) (hc : X.calm = true) (hN : X.N.Nodup) (hi : IV X W tg iter mi) (ok : BlkOk X.N X.env.scope scope own) (hv : own.map (·.2) = vs)
    (hg : BlkV X scope fun Y => GV Y W0 (fun i => !vs.contains i) tg g) (ht : BlkV X scope fun Y => PTs Y ifs (dT Y.K W0 t)) (he : BlkV X scope fun Y => EV Y W0 elt m) (hs : ∀ x, foldedSetIterable iter X.env x = pure x := by intro _; rfl) :
    EV X W (.ListComp elt [⟨tg, iter, ifs, 0⟩] scope pos) (compE mi g t m vs) := by
  subst hv
  exact pe_imp (pe_lc hc hN hi ok hg ht he hs) fun σ H Q z => comp_rd z
theorem sv_setLc (i : Nat) (vs : List Nat) {y : Str} {py spos : Pos} (hc : X.calm = true) (hN : X.N.Nodup) (hi : IV X W tg iter mi) (ok : BlkOk X.N X.env.scope scope own) (hv : own.map (·.2) = vs)
    (hg : BlkV X scope fun Y => GV Y W0 (fun i => !vs.contains i) tg g) (ht : BlkV X scope fun Y => PTs Y ifs (dT Y.K W0 t)) (he : BlkV X scope fun Y => EV Y W0 elt m)
    (hsw : swapsWith (.ListComp elt [⟨tg, iter, ifs, 0⟩] scope pos) (some (.Name y py)) spos.line X.env = pure true)
    (hp : pr i = false := by rfl) (hy : X.N[i]? = some y := by rfl) (hyl : X.env.scope.names.lookup y = some .local := by rfl) (hs : ∀ x, foldedSetIterable iter X.env x = pure x := by intro _; rfl) :
    SV X W pr (.Assign [.Name y py] (.ListComp elt [⟨tg, iter, ifs, 0⟩] scope pos) spos) (setS i (compE mi g t m vs)) := by
  subst hv
  refine ps_imp (ps_setLc (te := dE X.K W0 m) (g := dG X.K W0 (fun i => !(own.map (·.2)).contains i) g) (tt := dT X.K W0 t) hc hN hy hyl hsw hi ok hg ht he hs) fun E σ H z => ?_
  obtain ⟨F, fp, env, r, s, hm, p⟩ := dS_out z
  rcases bindS_some hm with ⟨o, e1, h1, h2⟩ | ⟨c, fs, e1, h1, h2⟩
  · refine comp_rd (X := X) (dE_in s h1 fun v F1 H1 fp1 f1 s1 h1 st1 => ?_)
    split at h2
    · rename_i hl
      cases h2
      obtain ⟨fp', s', st'⟩ := s1.store h1 hl
      exact p.nx s' (st1.trans st') (Kpr.set hp)
    · cases h2
  · exact comp_rd (X := X) (dE_in s h1 (p.exE c fs e1 h2))
end
end Dv

-- Dv14
set_option maxHeartbeats 4000000
namespace Dv
open PySem PySem.Spec L2
section
variable {X : Cx} {W : WX} {pr : Nat → Bool} {a b c e : Expr} {es : List Expr} {pos : Pos}
/-! ### a, b = x, y -/
def parS (i j : Nat) (p q : EM) : SM := fun env => bindS (p env) fun o e1 => bindS (q e1) fun u e2 => if i < e2.length ∧ j < e2.length then some (.nx, (e2.set i (some o)).set j (some u)) else none
theorem sv_par (i j : Nat) {x y : Str} {p q : EM} {px py pt : Pos} {kt k2 pt2} (hc : X.calm = true) (hN : X.N.Nodup) (hp : EV X W a p) (hq : EV X W b q)
    (hw : swappedStores [.Tuple [.Name x px, .Name y py] kt pt] (.Tuple [a, b] k2 pt2) X.env = pure (some [x, y]))
    (hpi : pr i = false := by rfl) (hpj : pr j = false := by rfl) (hi : X.N[i]? = some x := by rfl) (hj : X.N[j]? = some y := by rfl) (hij : i ≠ j := by decide)
    (hx : X.env.scope.names.lookup x = some .local := by rfl) (hy : X.env.scope.names.lookup y = some .local := by rfl) 
    (hs1 : starEach [a, b] X.env = (false, eval a X.env) :: starEach [b] X.env := by rfl) (hs2 : starEach [b] X.env = (false, eval b X.env) :: starEach [] X.env := by rfl)
    (hs : swapsWithSole [.Tuple [.Name x px, .Name y py] kt pt] (.Tuple [a, b] k2 pt2) pos.line X.env = pure false := by rfl) :
    SV X W pr (.Assign [.Tuple [.Name x px, .Name y py] kt pt] (.Tuple [a, b] k2 pt2) pos) (parS i j p q) := by
  refine ps_imp (ps_par hc hN hi hj hij hx hy (pa_cons hp (pa_cons hq pa_nil hs2) hs1) hw hs) fun E σ H z => ?_
  obtain ⟨F, fp, env, r, s, hm, po⟩ := dS_out z
  refine dE_runS s hm po.exE fun o e1 v F1 H1 fp1 f1 s1 h1 st1 ex1 hm1 => dE_runS s1 hm1 ex1 fun u e2 w F2 H2 fp2 f2 s2 h2 st2 ex2 hm2 => ?_
  split at hm2
  · rename_i hl
    cases hm2
    have h1' := h1.on st2
    have hv1 : HV X.K F2 H2 fp2 o v f1 := ⟨h1'.ro, h1'.nd, h1'.nf, fun x m k => h1'.dj x m (List.mem_append_left _ k)⟩
    obtain ⟨fp3, s3, st3⟩ := s2.store hv1 hl.1
    have hv2 : HV X.K F2 H2 fp3 u w f2 := by
      refine ⟨h2.ro, h2.nd, h2.nf, fun x m k => ?_⟩
      obtain ⟨ob, eo, mo⟩ := RO.inn u h2.ro x m
      refine (st3.out x ob mo eo (fun k2 => ?_) (h2.nf x m)).2.2 k
      rcases List.mem_append.mp k2 with k2 | k2
      · exact h2.dj x m k2
      · exact h1'.dj x k2 (List.mem_append_right _ m)
    obtain ⟨fp4, s4, st4⟩ := s3.store hv2 (by rw [List.length_set]; exact hl.2)
    refine ⟨v, w, rfl, po.nx s4 ?_ ((Kpr.set hpi).trans (Kpr.set hpj))⟩
    refine ⟨(st1.ff.trans st2.ff), fun x ob mu eo n z => ?_⟩
    obtain ⟨a1, a2, a3⟩ := st1.out x ob mu eo n z
    obtain ⟨b1, b2, b3⟩ := st2.out x ob mu a1 (fun k => a3 (List.mem_append_left _ k)) a2
    obtain ⟨c1, c2, c3⟩ := st3.out x ob mu b1 (fun k => (List.mem_append.mp k).elim (fun k => b3 (List.mem_append_left _ k)) fun k => a3 (List.mem_append_right _ k)) b2
    exact st4.out x ob mu c1 (fun k => (List.mem_append.mp k).elim c3 fun k => b3 (List.mem_append_right _ k)) c2
  · cases hm2
/-! ### calls of built-ins -/
def eCa (g : List O → Option D) (m : AM) : EM := fun env => bindR (m env) fun os e1 => (g os).map fun d => (.ok (.fz d), e1)
def pCa (g : List O → Option D) (m : Env → Option (List O)) : PM := fun env => (m env).bind fun os => (g os).map .fz
theorem ca_e {r : List V → Hp → VK → Prop} {g : List O → Option D} {m : AM} {bk} (ho : CaO X.K r g) {σ H Q} (z : dE X.K W (eCa g m) σ H Q) : tCB r (dB X.K W bk m) σ H Q := by
  obtain ⟨F, fp, env, re, s, hm, post⟩ := dE_out z
  refine dB_run s hm post.ex fun os e1 vs F1 H1 fp1 f1 s1 h1 st1 bb ex1 hm1 => ?_
  obtain ⟨d, hd, rfl⟩ := Option.map_eq_some_iff.mp hm1
  exact ho F1 H1 os vs f1 d Q s1.fh h1.ro hd fun v F' H' q rr => post.fz (s1.qt q) rr (st1.wr.trans (s1.stp q))
theorem ca_p {r : List V → Hp → VK → Prop} {g : List O → Option D} {m : Env → Option (List O)} (ho : CaO X.K r g) {σ H Q} (z : dP X.K (pCa g m) σ H Q) : tCB r (dQ X.K m) σ H Q := by
  obtain ⟨F, fp, env, o, s, hm, post⟩ := z
  obtain ⟨os, h1, h2⟩ := Option.bind_eq_some_iff.mp hm
  obtain ⟨d, hd, rfl⟩ := Option.map_eq_some_iff.mp h2
  exact ⟨F, fp, env, os, s, h1, fun vs F1 H1 fv q1 ro => ho F1 H1 os vs fv d Q q1.fh ro hd fun v F' H' q rr => post v F' H' [] (q1.trans q) ⟨rfl, rr⟩⟩
section
variable {r : List V → Hp → VK → Prop} {g : List O → Option D} {x : Str} {id T : String} {p : Pos}
theorem ev_callB {m : AM} {bk} (hc : CallR X (.builtin id) r) (ho : CaO X.K r g) (hg : Gl X x) (hm : X.mg x = none) (hv : bootBuiltins x = some (.builtin id)) (ha : BkV X W (e :: es) bk m) (hn : x ≠ "__name__" := by decide) (hdb : (x == ("__debug__" : Str)) = false := by decide)
    (he : starEach (e :: es) X.env = (false, eval e X.env) :: starEach es X.env := by rfl) (hpl : (backTo pos (starEach es X.env)).any (·.1) = false := by rfl) : EV X W (.Call (.Name x p) (e :: es) [] pos) (eCa g m) :=
  pe_imp (pe_callB hc hg hm hv ha hn hdb he hpl) fun _ _ _ z => ca_e ho z
theorem ev_callTy {m : AM} {bk} (hc : CallR X (.type T) r) (ho : CaO X.K r g) (hg : Gl X x) (hm : X.mg x = none) (hv : bootBuiltins x = some (.type T)) (ha : BkV X W (e :: es) bk m) (hn : x ≠ "__name__" := by decide) (hdb : (x == ("__debug__" : Str)) = false := by decide)
    (he : starEach (e :: es) X.env = (false, eval e X.env) :: starEach es X.env := by rfl) (hpl : (backTo pos (starEach es X.env)).any (·.1) = false := by rfl) : EV X W (.Call (.Name x p) (e :: es) [] pos) (eCa g m) :=
  pe_imp (pe_callTy hc hg hm hv ha hn hdb he hpl) fun _ _ _ z => ca_e ho z
theorem pv_callB {m : Env → Option (List O)} (hc : CallR X (.builtin id) r) (ho : CaO X.K r g) (hg : Gl X x) (hm : X.mg x = none) (hv : bootBuiltins x = some (.builtin id)) (ha : QaV X (e :: es) m) (hn : x ≠ "__name__" := by decide) (hdb : (x == ("__debug__" : Str)) = false := by decide)
    (he : starEach (e :: es) X.env = (false, eval e X.env) :: starEach es X.env := by rfl) (hpl : (backTo pos (starEach es X.env)).any (·.1) = false := by rfl) : PV X (.Call (.Name x p) (e :: es) [] pos) (pCa g m) :=
  pe_imp (pe_callB hc hg hm hv ha hn hdb he hpl) fun _ _ _ z => ca_p ho z
theorem pv_callTy {m : Env → Option (List O)} (hc : CallR X (.type T) r) (ho : CaO X.K r g) (hg : Gl X x) (hm : X.mg x = none) (hv : bootBuiltins x = some (.type T)) (ha : QaV X (e :: es) m) (hn : x ≠ "__name__" := by decide) (hdb : (x == ("__debug__" : Str)) = false := by decide)
    (he : starEach (e :: es) X.env = (false, eval e X.env) :: starEach es X.env := by rfl) (hpl : (backTo pos (starEach es X.env)).any (·.1) = false := by rfl) : PV X (.Call (.Name x p) (e :: es) [] pos) (pCa g m) :=
  pe_imp (pe_callTy hc hg hm hv ha hn hdb he hpl) fun _ _ _ z => ca_p ho z
end
end
/-! ### which -/
section
variable {K : Fg}
theorem one_rd {F H : Hp} {o : O} {vs : List V} {fx} (h : ROs K F H [o] vs fx) : ∃ v, vs = [v] ∧ RO K F H o v fx := by
  obtain ⟨v, w, f1, f2, rfl, rfl, r1, rfl, rfl⟩ := h
  exact ⟨v, rfl, by rw [List.append_nil]; exact r1⟩
theorem two_rd {F H : Hp} {o u : O} {vs : List V} {fx} (h : ROs K F H [o, u] vs fx) : ∃ v w f1 f2, vs = [v, w] ∧ RO K F H o v f1 ∧ RO K F H u w f2 := by
  obtain ⟨v, w, f1, f2, rfl, rfl, r1, h2⟩ := h
  obtain ⟨w', rfl, r2⟩ := one_rd h2
  exact ⟨v, w', f1, f2, rfl, r1, r2⟩
def gAbs : List O → Option D
  | [.fz (.int i)] => some (.int i.natAbs)
  | _ => none
def gInt : List O → Option D
  | [.fz (.int i)] => some (.int i)
  | [.fz (.bl b)] => some (.int (if b then 1 else 0))
  | _ => none
def gStr : List O → Option D
  | [.fz (.int i)] => if i.natAbs.log2 < 1920 then some (.str (toString i)) else none
  | [.fz (.str z)] => some (.str z)
  | _ => none
def lenD : D → Option Nat
  | .lst xs => some xs.length
  | .tup xs => some xs.length
  | .str z => if z.length ≤ sizeLine then some z.length else none
  | _ => none
def gLen : List O → Option D
  | [x] => (lenD x.fr).map fun n => .int n
  | _ => none
theorem cao_abs : CaO K (fun xs H Q => ∃ i, xs = [.int i] ∧ Q (.int (if i < 0 then -i else i)) H) gAbs := fun F H xs vs fx d Q e r h q => by
  unfold gAbs at h
  split at h
  · rename_i i
    cases h
    obtain ⟨v, rfl, r1⟩ := one_rd r
    refine ⟨i, by rw [show v = V.int i from r1.2], q.at e ?_⟩
    show V.int _ = V.int _
    congr 1
    split <;> omega
  · cases h
theorem cao_int : CaO K (fun xs H Q => (∃ i, xs = [.int i] ∧ Q (.int i) H) ∨ ∃ k, xs = [.bl k] ∧ Q (.int (if k then 1 else 0)) H) gInt := fun F H xs vs fx d Q e r h q => by
  unfold gInt at h
  split at h
  · rename_i i
    cases h
    obtain ⟨v, rfl, r1⟩ := one_rd r
    exact .inl ⟨i, by rw [show v = V.int i from r1.2], q.at e rfl⟩
  · rename_i k
    cases h
    obtain ⟨v, rfl, r1⟩ := one_rd r
    exact .inr ⟨k, by rw [show v = V.bl k from r1.2], q.at e rfl⟩
  · cases h
theorem cao_str : CaO K (fun xs H Q => (∃ i, xs = [.int i] ∧ i.natAbs.log2 < 1920 ∧ Q (.str (toString i)) H) ∨ ∃ a, xs = [.str a] ∧ Q (.str a) H) gStr := fun F H xs vs fx d Q e r h q => by
  unfold gStr at h
  split at h
  · rename_i i
    split at h
    · rename_i hl
      cases h
      obtain ⟨v, rfl, r1⟩ := one_rd r
      exact .inl ⟨i, by rw [show v = V.int i from r1.2], hl, q.at e rfl⟩
    · cases h
  · rename_i k
    cases h
    obtain ⟨v, rfl, r1⟩ := one_rd r
    exact .inr ⟨k, by rw [show v = V.str k from r1.2], q.at e rfl⟩
  · cases h
theorem callr_str {X : Cx} : CallR X (.type "str") (fun xs H Q => (∃ i, xs = [.int i] ∧ i.natAbs.log2 < 1920 ∧ Q (.str (toString i)) H) ∨ ∃ a, xs = [.str a] ∧ Q (.str a) H) := call_str_int.or SkE.call_str_str
theorem cao_len : CaO K (fun xs H Q => (∃ p ys, xs = [.ref p] ∧ (SqL K H p ys ∨ SqT K H p ys) ∧ Q (.int ys.length) H) ∨ ∃ z, xs = [.str z] ∧ z.length ≤ sizeLine ∧ Q (.int z.length) H) gLen := fun F H xs vs fx d Q e r h q => by
  unfold gLen at h
  split at h
  · rename_i x
    obtain ⟨n, hn, rfl⟩ := Option.map_eq_some_iff.mp h
    obtain ⟨v, rfl, r1⟩ := one_rd r
    have rd := r1.rd e
    unfold lenD at hn
    split at hn
    · rename_i ds hx
      cases hn
      rw [hx] at rd
      obtain ⟨p, us, rfl, hs, rs⟩ := rd
      exact .inl ⟨p, us, rfl, .inl hs, q.at e (by rw [rs.len]; rfl)⟩
    · rename_i ds hx
      cases hn
      rw [hx] at rd
      obtain ⟨p, us, rfl, hs, rs⟩ := rd
      exact .inl ⟨p, us, rfl, .inr (SqT.of hs), q.at e (by rw [rs.len]; rfl)⟩
    · rename_i z hx
      rw [hx] at rd
      split at hn
      · rename_i hl
        cases hn
        exact .inr ⟨z, by rw [show v = V.str z from rd], hl, q.at e rfl⟩
      · cases hn
    · cases hn
  · cases h
theorem callr_len {X : Cx} : CallR X (.builtin "len") (fun xs H Q => (∃ p ys, xs = [.ref p] ∧ (SqL X.K H p ys ∨ SqT X.K H p ys) ∧ Q (.int ys.length) H) ∨ ∃ z, xs = [.str z] ∧ z.length ≤ sizeLine ∧ Q (.int z.length) H) := call_len_seq.or call_len_str
/-! ### isinstance -/
inductive Tc where
  | b (n : String) | o (c : Str)
  deriving DecidableEq
def Tc.v (K : Fg) : Tc → Value
  | .b n => .type n
  | .o c => .ref (He.ga K c)
def tyD : D → Option Tc
  | .non => some (.b "NoneType")
  | .bl _ => some (.b "bool")
  | .int _ => some (.b "int")
  | .str _ => some (.b "str")
  | .tup _ => some (.b "tuple")
  | .lst _ => some (.b "list")
  | .dic _ _ => some (.b "dict")
  | .ins c _ => some (.o c)
  | _ => none
def clD : D → Option Tc
  | .ty n => some (.b n)
  | .glo c => some (.o c)
  | _ => none
def clDs : List D → Option (List Tc)
  | [] => some []
  | d :: r => (clD d).bind fun t => (clDs r).map fun ts => t :: ts
abbrev ITab := List ((Tc × Tc) × Bool)
structure InsK (K : Fg) (C : Addr) : Prop where
  cl : Cls K C
  ha : PySem.W.findIn K (.ref C) "__class__" = some (some (.builtin "object.__class__"))
  hn : PySem.W.specialIn K (.builtin "object.__class__") "__get__" = some (some (.builtin "getset_descriptor.__get__"))
  ht : PySem.W.takesIn K (.builtin "object.__class__") = some true
  hm : PySem.W.mroIn K C (.type "object") = some true
def isAny (tb : ITab) (t : Tc) : List Tc → Option Bool
  | [] => some false
  | u :: r => match tb.lookup (t, u) with
    | some true => some true
    | some false => isAny tb t r
    | none => none
def tcOk (cs : List Str) : Tc → Bool
  | .o c => cs.contains c
  | .b _ => true
def isiD (tb : ITab) (t : Tc) : D → Option D
  | .tup us => (clDs us).bind fun us => (isAny tb t us).map .bl
  | y => (clD y).bind fun u => (tb.lookup (t, u)).map .bl
def gIsi (tb : ITab) (cs : List Str) : List O → Option D
  | [x, .fz y] => (tyD x.fr).bind fun t => if tcOk cs t then isiD tb t y else none
  | _ => none
structure IsOk (K : Fg) (tb : ITab) (cs : List Str) : Prop where
  tab : ∀ t u b, tb.lookup (t, u) = some b → PySem.W.kitOne K (t.v K) (u.v K) = some b
  ins : ∀ c ∈ cs, InsK K (He.ga K c)
theorem ty_rd {H : Hp} {d : D} {v : V} {t : Tc} {cs : List Str} (hi : ∀ c ∈ cs, InsK K (He.ga K c)) (hd : tyD d = some t) (hc : tcOk cs t = true) (r : R K H d v) : TyX K H v (t.v K) := by
  unfold tyD at hd
  split at hd <;> cases hd
  · cases r; exact .base .non
  · cases r; exact .base (.bl _)
  · cases r; exact .base (.int _)
  · cases r; exact .base (.str _)
  · obtain ⟨a, vs, rfl, h, _⟩ := r; exact .base (.tup h)
  · obtain ⟨a, vs, rfl, h, _⟩ := r
    rcases h with (h | ⟨o, h⟩) | ⟨o, its, n, h1, h2, _⟩
    · exact .base (.lst h)
    · exact .base (.frz h)
    · exact .kList h1 h2
  · obtain ⟨a, rfl, ⟨ks, _, h, _⟩ | ⟨ks, _, h, _⟩⟩ := r
    · exact .base (.dK h)
    · exact .base (.dT h)
  · obtain ⟨a, dx, us, rfl, h, _⟩ := r
    have k := hi _ (by simpa [tcOk] using hc)
    exact .base (.ins h k.cl k.ha k.hn k.ht k.hm)
theorem cl_rd {H : Hp} {d : D} {v : V} {t : Tc} (hd : clD d = some t) (r : R K H d v) : ClsV v (t.v K) := by
  unfold clD at hd
  split at hd <;> cases hd
  · cases r; exact .ty _
  · cases r; exact .own _
theorem cls_rd {H : Hp} : ∀ {ds : List D} {vs : List V} {ts : List Tc}, clDs ds = some ts → Rs K H ds vs → Paired ClsV vs (ts.map fun t => t.v K)
  | [], _, _, h, r => by cases h; cases r; exact .nil
  | d :: ds, _, _, h, ⟨v, w, e, r1, r2⟩ => by
    obtain ⟨t, h1, h⟩ := Option.bind_eq_some_iff.mp h
    obtain ⟨ts, h2, rfl⟩ := Option.map_eq_some_iff.mp h
    subst e
    exact .cons (cl_rd h1 r1) (cls_rd h2 r2)
theorem any_rd {tb : ITab} {cs : List Str} (ok : IsOk K tb cs) {t : Tc} : ∀ {us : List Tc} {b : Bool}, isAny tb t us = some b → PySem.W.kitAny K (t.v K) (us.map fun t => t.v K) = some b
  | [], b, h => h
  | u :: r, b, h => by
    unfold isAny at h
    split at h
    · rename_i h1
      cases h
      exact kitAny_cons (ok.tab _ _ _ h1) (fun z => nomatch z) fun _ => rfl
    · rename_i h1
      exact kitAny_cons (ok.tab _ _ _ h1) (fun _ => any_rd ok h) fun z => nomatch z
    · cases h
theorem cao_isi {tb : ITab} {cs : List Str} (ok : IsOk K tb cs) : CaO K (fun xs H Q => rIsi K xs H Q ∨ rIsiT K xs H Q) (gIsi tb cs) := fun F H xs vs fx d Q e r h q => by
  unfold gIsi at h
  split at h
  · rename_i x y
    obtain ⟨t, ht, h⟩ := Option.bind_eq_some_iff.mp h
    obtain ⟨v, w, f1, f2, rfl, r1, r2⟩ := two_rd r
    split at h
    · rename_i hc
      have tx := ty_rd ok.ins ht hc (r1.rd e)
      unfold isiD at h
      split at h
      · rename_i us
        obtain ⟨ts, h1, h⟩ := Option.bind_eq_some_iff.mp h
        obtain ⟨b, hb, rfl⟩ := Option.map_eq_some_iff.mp h
        obtain ⟨_, a, ws, rfl, ha, rs⟩ := r2
        exact .inr ⟨v, a, ws, t.v K, _, b, rfl, e _ _ ha, cls_rd h1 rs, tx, any_rd ok hb, q.at e rfl⟩
      · obtain ⟨u, h1, h⟩ := Option.bind_eq_some_iff.mp h
        obtain ⟨b, hb, rfl⟩ := Option.map_eq_some_iff.mp h
        exact .inl ⟨v, w, t.v K, u.v K, b, rfl, cl_rd h1 r2.2, tx, ok.tab _ _ _ hb, q.at e rfl⟩
    · cases h
  · cases h
theorem callr_isi {X : Cx} : CallR X (.builtin "isinstance") (fun xs H Q => rIsi X.K xs H Q ∨ rIsiT X.K xs H Q) := call_isi.or call_isiT
end
end Dv

-- Dv15
set_option maxHeartbeats 4000000
namespace Dv
open PySem PySem.Spec L2
theorem takes0 {X : Cx} : Takes X W0 := fun u s' ⟨_, _, _, _, _, _, _, _, _, _, _, _, _, _, _, _, w⟩ => w.elim
def isIns (c : Str) (o : O) : Bool := match o with
  | .fz (.ins c' _) => decide (c' = c)
  | .ins c' _ => decide (c' = c)
  | _ => false
theorem isIns_rd {K : Fg} {F H : Hp} {c : Str} {o : O} {v : V} {fx : List Addr} (e : Same F H) (hx : RO K F H o v fx) (h : isIns c o = true) : ∃ a dx fs, v = .ref a ∧ H a = some (.ins (He.ga K c) dx fs) := by
  unfold isIns at h
  split at h
  · rename_i c' fs
    cases of_decide_eq_true h
    obtain ⟨rfl, a, dx, us, rfl, ha, rf⟩ := hx
    exact ⟨a, dx, us, rfl, e _ _ ha⟩
  · rename_i c' fs
    cases of_decide_eq_true h
    obtain ⟨a, dx, us, fq, rfl, ha, rfl, rf⟩ := hx
    exact ⟨a, dx, us, rfl, ha⟩
  · cases h
theorem cmpBack_of {Q : Value → Shared → Prop} {v : V} {u : Value} {s : Shared} (r : RelV v u) (q : Q u s) : PySem.W.CmpBack Q u s := by
  cases v with
  | non => cases (show u = Value.none from r); exact q
  | bl b => cases (show u = Value.bool b from r); exact q
  | int i => obtain ⟨t, rfl⟩ := (show ∃ t, u = Value.int i t from r); exact q
  | str i => obtain ⟨t, rfl⟩ := (show ∃ t, u = Value.str i t from r); exact q
  | byt i => obtain ⟨t, rfl⟩ := (show ∃ t, u = Value.bytes i t from r); exact q
  | flt i => obtain ⟨t, rfl⟩ := (show ∃ t, u = Value.float i t from r); exact q
  | ref a => cases (show u = Value.ref a from r); exact q
  | ty n => cases (show u = Value.type n from r); exact q
/-- what a value's type is, asked of the model -/
theorem tyx_looks {X : Cx} {pins : List (Addr × Obj)} {σ : L2.St} {H : Hp} {s : Shared} {x : V} {u t : Value} (I : Inv X pins σ H s) (rx : RelV x u) (ty : TyX X.K H x t) : PySem.W.Looks (model X.prog X.w) s.heap (typeOf u) t := by
  obtain ⟨P, Z, p, hx⟩ := kit_of I rx ty
  exact Z.ty _ _ I.kIn p
section
variable {X : Cx} {W : WX} {a b c e : Expr} {es : List Expr} {pos : Pos} {k : Nat} {f C : Addr} {fd : FuncData} {ps : List Str} {fn : FN}
theorem own_go {pins : List (Addr × Obj)} {σ : L2.St} {H : Hp} {s : Shared} {x y : V} {v u : Value} {Q : VK} (I : Inv X pins σ H s) (rx : RelV x v) (ry : RelV y u) (Fo : FnOk X.prog X.w X.K X.mg X.base (L2.CX X.prog X.w) k f fd ps (SpX X.K fn)) (hr : Room k X.A) (hb : Binds X.K fd ps [])
    (h : SpX X.K fn [x, y] H Q (WE W0 σ)) : wpAny (model X.prog X.w) X.A (call (.ref f) [v, u]) (PySem.W.CmpBack (EP X pins σ Q)) X.xe s := by
  have hl := Fo.len _ _ _ _ h
  have r2 : Vals [x, y] [v, u] := .cons rx (.cons ry .nil)
  refine wpAny_call (codeAny_mono (Fo.run X.A X.stack s H ⟨[v, u], []⟩ [v, u] [x, y] _ (WE W0 σ) hr I.env0 (by
    have := hb s [v, u] I.kIn (by simpa using hl)
    simpa using this) r2 h) fun r s' hq => ?_)
  cases r with
  | error e => exact passAt takes0 σ pins H s e s' I hq
  | ok fl =>
    cases fl with
    | ret w =>
      obtain ⟨z, H', I', rz, qz⟩ := I.after hq
      exact cmpBack_of rz ⟨z, H', I', rz, qz⟩
    | next => exact False.elim hq
    | brk => exact False.elim hq
    | cont => exact False.elim hq
def rOwn (K : Fg) (C : Addr) (fn : FN) : R2 := fun x y H Q => ∃ a b dx dy fs gs, x = .ref a ∧ y = .ref b ∧ H a = some (.ins C dx fs) ∧ H b = some (.ins C dy gs) ∧ SpX K fn [x, y] H Q (fun _ _ _ => False)
theorem opr_own {op : Operator} (Fo : FnOk X.prog X.w X.K X.mg X.base (L2.CX X.prog X.w) k f fd ps (SpX X.K fn)) (hr : Room k X.A) (hb : Binds X.K fd ps []) (hc : PySem.W.selfFirst X.K C = true)
    (hs : PySem.W.findIn X.K (.ref C) (PySem.dunder op.info.2) = some (some (.ref f))) (hf : PySem.W.isFn X.K (.ref f) = true) : OpR X (binaryOp op) (rOwn X.K C fn) := by
  intro pins s σ H x y v u Q I rx ry h
  obtain ⟨a, b, dx, dy, fs, gs, rfl, rfl, ha, hb', hsp⟩ := h
  obtain ⟨mA, J, _⟩ := ins_get I.hok ha
  obtain ⟨mB, J', _⟩ := ins_get I.hok hb'
  obtain ⟨od, J, _⟩ := J.look
  obtain ⟨od', J', _⟩ := J'.look
  obtain ⟨m, hF⟩ := I.fr
  have w := own_go (σ := σ) I rx ry Fo hr hb hsp
  cases (show v = Value.ref a from rx)
  cases (show u = Value.ref b from ry)
  exact PySem.W.binop_K hF I.ok.mod.kin J J'.type hc hs hf w
def eOwn (c : Str) (fn : FN) (p q : EM) : EM := fun env => bindR (p env) fun x e1 => bindR (q e1) fun y e2 => if isIns c x && isIns c y then (match fn [x, y] with
  | some (.ok o, os') => (putB [none, none] os' e2).map fun e3 => (.ok o, e3)
  | _ => none) else none
theorem ev_own {op : Operator} {cn : Str} {p q : EM} (Fo : FnOk X.prog X.w X.K X.mg X.base (L2.CX X.prog X.w) k f fd ps (SpX X.K fn)) (hr : Room k X.A) (hb : Binds X.K fd ps []) (hc : PySem.W.selfFirst X.K (He.ga X.K cn) = true)
    (hs : PySem.W.findIn X.K (.ref (He.ga X.K cn)) (PySem.dunder op.info.2) = some (some (.ref f))) (hf : PySem.W.isFn X.K (.ref f) = true) (ha : EV X W a p) (hbb : EV X W b q) : EV X W (.BinOp a op b pos) (eOwn cn fn p q) := by
  refine pe_imp (pe_op (opr_own Fo hr hb hc hs hf) ha hbb) fun σ H Q z => ?_
  obtain ⟨F, fp, env, re, s, hm, post⟩ := dE_out z
  refine dE_run s hm post.ex fun x e1 v F1 H1 fp1 f1 s1 h1 st1 ex1 hm1 => dE_run s1 hm1 ex1 fun y e2 w F2 H2 fp2 f2 s2 h2 st2 ex2 hm2 => ?_
  have h1' := h1.on st2
  split at hm2
  · rename_i hi
    obtain ⟨i1, i2⟩ := Bool.and_eq_true_iff.mp hi
    obtain ⟨a, dx, fs, rfl, ha⟩ := isIns_rd s2.fh h1'.ro i1
    obtain ⟨b, dy, gs, rfl, hb'⟩ := isIns_rd s2.fh h2.ro i2
    have hvs : HVs X.K F2 H2 fp2 [x, y] [.ref a, .ref b] (f1 ++ f2) := HVs.cons h1 st2 (by
      have := HVs.cons h2 (Stp.refl.nl) (HVs.nil (K := X.K) (F := F2) (H := H2) (fp := fp2))
      simpa using this)
    split at hm2
    · rename_i o os' hfn
      obtain ⟨e3, h3, rfl⟩ := Option.map_eq_some_iff.mp hm2
      refine ⟨a, b, dx, dy, fs, gs, rfl, rfl, ha, hb', ?_⟩
      have po : PE' X.K W0 (F := F2) (H := H2) (fp2 ++ (f1 ++ f2)) σ (.ok o, e3) Q := fun v F' H' fp' fv s' h' st' => post.ok s' h' ((st1.tr2 st2).trans st')
      exact call_go (bk := [none, none]) (fn := fn) s2 hvs ⟨(fun _ z => nomatch z), (fun _ z => nomatch z), trivial⟩ (by rw [hfn]; show (putB [none, none] os' e2).map _ = _; rw [h3]; rfl) po
    · cases hm2
  · cases hm2
/-! ### an own == -/
def rOwnC (K : Fg) (C : Addr) (fn : FN) : R2 := fun x y H Q => ∃ a dx fs t, x = .ref a ∧ H a = some (.ins C dx fs) ∧ TyX K H y t ∧ PySem.W.notFirst K C t = true ∧ SpX K fn [x, y] H Q (fun _ _ _ => False)
theorem opr_ownEq (Fo : FnOk X.prog X.w X.K X.mg X.base (L2.CX X.prog X.w) k f fd ps (SpX X.K fn)) (hr : Room k X.A) (hb : Binds X.K fd ps [])
    (hs : PySem.W.findIn X.K (.ref C) "__eq__" = some (some (.ref f))) (hf : PySem.W.isFn X.K (.ref f) = true) : OpR X (compareOp .Eq) (rOwnC X.K C fn) := by
  intro pins s σ H x y v u Q I rx ry h
  obtain ⟨a, dx, fs, t, rfl, ha, ty, nf, hsp⟩ := h
  obtain ⟨mA, J, _⟩ := ins_get I.hok ha
  obtain ⟨od, J, _⟩ := J.look
  obtain ⟨m, hF⟩ := I.fr
  have w := own_go (σ := σ) I rx ry Fo hr hb hsp
  have lk := tyx_looks I ry ty
  cases (show v = Value.ref a from rx)
  exact PySem.W.cmp_K (op := .Eq) (tb := t) hr.units0 hF I.ok.mod.kin J lk nf hs hf w
/-- which classes stand behind c in a comparison: those of no class under it -/
structure NfOk (K : Fg) (c : Str) (ts : List Tc) (cs : List Str) : Prop where
  nf : ∀ t ∈ ts, PySem.W.notFirst K (He.ga K c) (t.v K) = true
  ins : ∀ c ∈ cs, InsK K (He.ga K c)
def gOwnEq (c : Str) (ts : List Tc) (cs : List Str) (fn : FN) : O → O → Option D := fun x y => if isIns c x then (tyD y.fr).bind fun t => if ts.contains t && tcOk cs t then (match qAns fn [x, y] with
  | some (.fz (.bl b)) => some (.bl b)
  | _ => none) else none else none
theorem opo_ownEq {cn : Str} {ts : List Tc} {cs : List Str} (ok : NfOk X.K cn ts cs) : OpO X.K (rOwnC X.K (He.ga X.K cn) fn) (gOwnEq cn ts cs fn) := fun F H x y v w fx fy d Q e a b hd q => by
  unfold gOwnEq at hd
  split at hd
  · rename_i hi
    obtain ⟨t, ht, hd⟩ := Option.bind_eq_some_iff.mp hd
    split at hd
    · rename_i hc
      obtain ⟨h1, h2⟩ := Bool.and_eq_true_iff.mp hc
      split at hd
      · rename_i bb hq
        cases hd
        obtain ⟨l, dx, fs, rfl, hl⟩ := isIns_rd e a hi
        refine ⟨l, dx, fs, t.v X.K, rfl, hl, ty_rd ok.ins ht h2 (b.rd e), ok.nf t (by simpa using h1), ?_⟩
        have ro : ROs X.K F H [x, y] [.ref l, w] (fx ++ (fy ++ [])) := ⟨.ref l, [w], fx, fy ++ [], rfl, rfl, a, w, [], fy, [], rfl, rfl, b, rfl, rfl⟩
        exact q_go e ro hq fun v' F' H' qt ⟨d, hd, rd⟩ => by cases hd; exact q v' F' H' qt rd
      · cases hd
    · cases hd
  · cases hd
end
theorem PE'.on0 {K : Fg} {W : WX} {F F' H H' : Hp} {fp fp' : List Addr} {σ r} {Q : VK} (p : PE' K W F H fp σ r Q) (st : Stp F H fp F' H' fp') : PE' K W F' H' fp' σ r Q := by
  obtain ⟨r, e⟩ := r
  cases r with
  | ok o => exact fun v F2 H2 fp2 f2 s h st2 => p.ok s h (st.trans st2)
  | ex c fs => exact fun d F2 H2 fp2 us s a b st2 => p.ex c fs e rfl d F2 H2 fp2 us s a b (st.trans st2)
/-! ### f-strings -/
def fmtO : O → Option Str
  | .fz (.int i) => if i.natAbs.log2 < 1920 then some (toString i) else none
  | .fz (.str z) => if z.length ≤ sizeLine then some z else none
  | _ => none
def eFmt (m : EM) : EM := fun env => bindR (m env) fun o e1 => (fmtO o).map fun z => (.ok (.fz (.str z)), e1)
/-- the parts of an f-string, from acc on -/
def jM : List EM → Str → EM
  | [], acc, env => some (.ok (.fz (.str acc)), env)
  | m :: r, acc, env => bindR (m env) fun o e1 => match o with
    | .fz (.str z) => if (acc ++ z).length ≤ sizeLine then jM r (acc ++ z) e1 else none
    | _ => none
section
variable {X : Cx} {W : WX} {a b c e : Expr} {es : List Expr} {pos : Pos}
theorem ev_fmt {m : EM} (h : EV X W e m) : EV X W (.FormattedValue e (-1) none pos) (eFmt m) := by
  refine pe_imp (pe_fmt h) fun σ H Q z => ?_
  obtain ⟨F, fp, env, re, s, hm, post⟩ := dE_out z
  refine dE_run s hm post.ex fun x e1 v F1 H1 fp1 f1 s1 h1 st1 ex1 hm1 => ?_
  obtain ⟨z, hz, rfl⟩ := Option.map_eq_some_iff.mp hm1
  unfold fmtO at hz
  split at hz
  · rename_i i
    split at hz
    · rename_i hl
      cases hz
      exact .inr ⟨i, by rw [show v = V.int i from h1.ro.2], hl, post.fz s1 rfl st1.wr⟩
    · cases hz
  · rename_i y
    split at hz
    · rename_i hl
      cases hz
      exact .inl ⟨z, by rw [show v = V.str z from h1.ro.2], hl, post.fz s1 rfl st1.wr⟩
    · cases hz
  · cases hz
inductive JV (X : Cx) (W : WX) : List Expr → List EM → Prop where
  | nil : JV X W [] []
  | cons {e : Expr} {m : EM} {es : List Expr} {ms : List EM} (h : EV X W e m) (r : JV X W es ms) : JV X W (e :: es) (m :: ms)
theorem JV.pj {ms : List EM} (h : JV X W es ms) : PJ X es (ms.map fun m => dE X.K W m) := by
  induction h with
  | nil => exact .nil
  | cons h _ ih => exact .cons h ih
theorem jM_rd {K : Fg} : ∀ {ms : List EM} {acc : Str} {F H fp env σ} {re : Rz O × Env} {Q : VK}, SR K F H fp env σ → jM ms acc env = some re → PE' K W F H fp σ re Q → tJs (ms.map fun m => dE K W m) acc σ H fun out H1 => Q (.str out) H1
  | [], acc, F, H, fp, env, σ, re, Q, s, h, post => by
    cases h
    exact post.fz s rfl Stp.refl
  | m :: r, acc, F, H, fp, env, σ, re, Q, s, h, post => by
    refine dE_run s h post.ex fun x e1 v F1 H1 fp1 f1 s1 h1 st1 ex1 hm1 => ?_
    split at hm1
    · rename_i z
      split at hm1
      · rename_i hl
        exact ⟨z, h1.ro.2, hl, jM_rd s1 hm1 (PE'.on0 post st1.wr)⟩
      · cases hm1
    · cases hm1
theorem ev_joined {v1 v2 : Expr} {rest : List Expr} {ms : List EM} (h : JV X W (v1 :: v2 :: rest) ms) : EV X W (.JoinedStr (v1 :: v2 :: rest) pos) (jM ms Str.empty) := by
  refine pe_imp (pe_joined h.pj) fun σ H Q z => ?_
  obtain ⟨F, fp, env, re, s, hm, post⟩ := dE_out z
  exact jM_rd s hm post
theorem ev_joined1 {m : EM} (h : EV X W e m) : EV X W (.JoinedStr [e] pos) m := pe_joined1 h
end
end Dv

-- Dv16
set_option maxHeartbeats 4000000
namespace Dv
open PySem PySem.Spec L2
/-! ### an own exception class, by one Bool -/
def oexB (K : Fg) (C : Addr) : Bool := (match K.lookup C with
  | some ⟨.type "type", _, .cls cd, sl⟩ => (match cd.mro, sl.toList with
    | .ref C' :: bm, [_, _, _, _, some (.builtin n), _] => C' == C && n == "ValueError.__new__" && !cd.hasDel && cd.hasDict && PySem.HandSPX.refsVE bm
    | _, _ => false)
  | _ => false) && decide (PySem.W.findIn K (.ref C) "__setattr__" = some (some (.builtin "object.__setattr__"))) && decide (PySem.W.subIn K (.ref C) (.type "BaseException") = some true) && decide (PySem.W.typeIn K (.ref C) = some (.type "type")) && PySem.W.keepIn K (.ref C)
theorem oexB_ok {K : Fg} {C : Addr} (h : oexB K C = true) : OexC K C := by
  unfold oexB at h
  simp only [Bool.and_eq_true, decide_eq_true_eq] at h
  obtain ⟨⟨⟨⟨q, h1⟩, h2⟩, h3⟩, h4⟩ := h
  refine ⟨?_, h1, h2, h3, h4⟩
  split at q
  · rename_i dd cd sl ho
    split at q
    · rename_i C' bm k0 k1 k2 k3 n k5 hm hs
      simp only [Bool.and_eq_true, beq_iff_eq, Bool.not_eq_true'] at q
      obtain ⟨⟨⟨⟨rfl, rfl⟩, hdel⟩, hdc⟩, ht⟩ := q
      obtain ⟨nm, bs, mro, ns, qn, hd, sn, sub, ab, col, del⟩ := cd
      dsimp only at hm hdel hdc
      subst hm hdel hdc
      have hsl : sl = #[k0, k1, k2, k3, some (.builtin "ValueError.__new__"), k5] := by
        obtain ⟨l⟩ := sl
        simp only at hs
        rw [hs]
      subst hsl
      exact ⟨nm, qn, ns, bs, bm, sn, sub, ab, _, dd, k0, k1, k2, k3, k5, ho, ht⟩
    · cases q
  · cases q
/-! ### its __init__ -/
/-- what an __init__ promises that sets these fields to its arguments -/
def InSp (K : Fg) (C : Addr) (fl : List Str) : Sp := fun vs H Q _ => ∃ a ys, vs = .ref a :: ys ∧ ys.length = fl.length ∧ H a = some (exo a C none) ∧
  ∀ dx H', H dx = none → dx ≠ a → H' a = some (exo a C (some dx)) → H' dx = some (exd dx (fl.zip ys).reverse) → (∀ b, b ≠ a → b ≠ dx → H' b = H b) → Q .non H'
section
variable {P : Program} {w : World} {K : Fg} {mg : Str → Option Value} {base : Heap} {CX : CXT} {x qual : Str} {params : Arguments} {body : List Stmt} {scope : Scope} {dvs : List V} {kws : List (Str × V)} {f C : Addr} {fd : FuncData} {N ps : List Str} {k : Nat} {f1 f2 y1 y2 sf : Str}
theorem init1 {p1 p2 p3 p4 : Pos} (F : FunD K x qual params body scope dvs kws f fd) (S : FnScope [sf, y1] [sf, y1] scope) (hb : body = [.Assign [.Attribute (.Name sf p1) f1 p2] (.Name y1 p3) p4]) (T : OexC K C) (hn : PySem.W.findIn K (.ref C) f1 = some none)
    (d1 : (sf == ("__debug__" : Str)) = false := by decide) (c1 : (sf == ("__classdict__" : Str)) = false := by decide) (d2 : (y1 == ("__debug__" : Str)) = false := by decide) (c2 : (y1 == ("__classdict__" : Str)) = false := by decide) :
    FnOk P w K mg base CX (k + 1) f fd [sf, y1] (InSp K C [f1]) := by
  refine F.ok S (fun vs H Q E h => ?_) (fun cdv A outer s H vs Q E hr h => ?_)
  · obtain ⟨a, ys, rfl, hl, _⟩ := h
    simpa using hl
  · obtain ⟨a, ys, rfl, hl, ha, q⟩ := h
    subst hb
    obtain ⟨y, rfl⟩ : ∃ y, ys = [y] := by match ys, hl with | [y], _ => exact ⟨y, rfl⟩
    refine ⟨_, pss_one (ps_ost (pe_var (i := 0) rfl ((S.par sf (List.Mem.head _)).elim (fun z => .inl z) (fun z => .inr (.inl z))) d1 c1) (pe_var (i := 1) rfl ((S.par y1 (.tail _ (List.Mem.head _))).elim (fun z => .inl z) (fun z => .inr (.inl z))) d2 c2)), ?_⟩
    refine ⟨y, rfl, .ref a, rfl, a, C, rfl, T, hn, .inl ⟨ha, fun dx hd hne => ?_⟩⟩
    exact q dx _ hd hne upd_same (by rw [upd_ne hne, upd_same]; rfl) fun b h1 h2 => by rw [upd_ne h1, upd_ne h2]
theorem init2 {p1 p2 p3 p4 q1 q2 q3 q4 : Pos} (F : FunD K x qual params body scope dvs kws f fd) (S : FnScope [sf, y1, y2] [sf, y1, y2] scope) (hb : body = [.Assign [.Attribute (.Name sf p1) f1 p2] (.Name y1 p3) p4, .Assign [.Attribute (.Name sf q1) f2 q2] (.Name y2 q3) q4]) (T : OexC K C)
    (hn : PySem.W.findIn K (.ref C) f1 = some none) (hn2 : PySem.W.findIn K (.ref C) f2 = some none)
    (d1 : (sf == ("__debug__" : Str)) = false := by decide) (c1 : (sf == ("__classdict__" : Str)) = false := by decide) (d2 : (y1 == ("__debug__" : Str)) = false := by decide) (c2 : (y1 == ("__classdict__" : Str)) = false := by decide) (d3 : (y2 == ("__debug__" : Str)) = false := by decide) (c3 : (y2 == ("__classdict__" : Str)) = false := by decide) :
    FnOk P w K mg base CX (k + 1) f fd [sf, y1, y2] (InSp K C [f1, f2]) := by
  refine F.ok S (fun vs H Q E h => ?_) (fun cdv A outer s H vs Q E hr h => ?_)
  · obtain ⟨a, ys, rfl, hl, _⟩ := h
    simpa using hl
  · obtain ⟨a, ys, rfl, hl, ha, q⟩ := h
    subst hb
    obtain ⟨y, z, rfl⟩ : ∃ y z, ys = [y, z] := by match ys, hl with | [y, z], _ => exact ⟨y, z, rfl⟩
    have vs0 : ∀ {X : Cx}, X.env.scope = scope → Vis X.env.scope sf := fun e => by rw [e]; exact (S.par sf (List.Mem.head _)).elim (fun z => .inl z) (fun z => .inr (.inl z))
    refine ⟨_, pss_cons (ps_ost (pe_var (i := 0) rfl ((S.par sf (List.Mem.head _)).elim (fun z => .inl z) (fun z => .inr (.inl z))) d1 c1) (pe_var (i := 1) rfl ((S.par y1 (.tail _ (List.Mem.head _))).elim (fun z => .inl z) (fun z => .inr (.inl z))) d2 c2))
      (pss_one (ps_ost (pe_var (i := 0) rfl ((S.par sf (List.Mem.head _)).elim (fun z => .inl z) (fun z => .inr (.inl z))) d1 c1) (pe_var (i := 2) rfl ((S.par y2 (.tail _ (.tail _ (List.Mem.head _)))).elim (fun z => .inl z) (fun z => .inr (.inl z))) d3 c3))), ?_⟩
    refine ⟨y, rfl, .ref a, rfl, a, C, rfl, T, hn, .inl ⟨ha, fun dx hd hne => ?_⟩⟩
    refine ⟨z, rfl, .ref a, rfl, a, C, rfl, T, hn2, .inr ⟨dx, [(f1, y)], upd_same, by rw [upd_ne hne, upd_same], by simp, ?_⟩⟩
    refine q dx _ hd hne (by rw [upd_ne (Ne.symm hne), upd_same]) upd_same fun b h1 h2 => by rw [upd_ne h2, upd_ne h1, upd_ne h2]
end
/-! ### raise C(..) -/
def raiS (c : Str) (fl : List Str) (m : AM) : SM := fun env => bindS (m env) fun os e1 => (allFz os).bind fun ds => if ds.length = fl.length then some (.ex c (fl.zip ds).reverse, e1) else none
theorem Rf.snoc {K : Fg} {F : Hp} {f : Str} {d : D} {v : V} : ∀ {fs : List (Str × D)} {us : List (Str × V)}, Rf K F fs us → R K F d v → Rf K F (fs ++ [(f, d)]) (us ++ [(f, v)])
  | [], _, h, r => by cases h; exact ⟨v, [], rfl, r, rfl⟩
  | (g, x) :: fs, _, ⟨u, w, e, h1, h2⟩, r => by subst e; exact ⟨u, w ++ [(f, v)], rfl, h1, Rf.snoc h2 r⟩
theorem Rf.zipr {K : Fg} {F : Hp} : ∀ {fl : List Str} {ds : List D} {vs : List V}, Rs K F ds vs → Rf K F (fl.zip ds).reverse (fl.zip vs).reverse
  | [], _, _, _ => rfl
  | f :: fl, [], _, h => by cases h; rfl
  | f :: fl, d :: ds, _, ⟨v, w, e, h1, h2⟩ => by
    subst e
    simp only [List.zip_cons_cons, List.reverse_cons]
    exact Rf.snoc (Rf.zipr h2) h1
section
variable {X : Cx} {W : WX} {pr : Nat → Bool} {a b c e : Expr} {es : List Expr} {pos : Pos}
theorem sv_raise {fI : Addr} {cn x : Str} {k : Nat} {fd : FuncData} {ps fl : List Str} {m : AM} {bk} {p pos' : Pos} (hc : X.calm = true) (tk : Takes X W) (T : OexC X.K (He.ga X.K cn)) (iC : PySem.W.findIn X.K (.ref (He.ga X.K cn)) "__init__" = some (some (.ref fI))) (tI : PySem.W.typeIn X.K (.ref fI) = some (.type "function"))
    (F1 : FnOk X.prog X.w X.K X.mg X.base (L2.CX X.prog X.w) k fI fd ps (InSp X.K (He.ga X.K cn) fl)) (hr : Room (k + 1) X.A) (hb : Binds X.K fd ps []) (hg : Gl X x) (hm : X.mg x = some (.ref (He.ga X.K cn))) (ha : BkV X W (e :: es) bk m) (hfl : fl.length ≤ 100 := by decide)
    (hdb : (x == ("__debug__" : Str)) = false := by decide) (he : starEach (e :: es) X.env = (false, eval e X.env) :: starEach es X.env := by rfl) (hpl : (backTo pos (starEach es X.env)).any (·.1) = false := by rfl) :
    SV X W pr (.Raise (some (.Call (.Name x p) (e :: es) [] pos)) none pos') (raiS cn fl m) := by
  refine ps_imp (ps_raise hc tk (pmk_oex T iC tI F1 hr hb .nil (fun pins σ H s e s' I c => passAt takes0 σ pins H s e s' I c) hg hm ha hdb he hpl)) fun E σ H z => ?_
  obtain ⟨F, fp, env, r, s, hm', p⟩ := dS_out z
  unfold raiS at hm'
  rcases bindS_some hm' with ⟨os, e1, h1, h2⟩ | ⟨c, fs, e1, h1, h2⟩
  · refine ⟨F, fp, env, .ok os, e1, s, h1, fun vs F1 H1 fp1 f1 s1 hv st1 bb => ?_⟩
    obtain ⟨ds, h3, h4⟩ := Option.bind_eq_some_iff.mp h2
    split at h4
    · rename_i hl
      cases h4
      have rs := allFz_ro h3 hv.ro
      have hlv : vs.length = fl.length := by rw [rs.len, hl]
      refine ⟨by omega, fun l hn => ⟨l, vs, by rw [List.append_nil], hlv, upd_same, fun dx H' hdx hne ea ed hk => ?_⟩⟩
      have hdx1 : H1 dx = none := by rw [upd_ne hne] at hdx; exact hdx
      refine ⟨rfl, dx, _, ea, ed, hdx1, ?_⟩
      have eH : upd (del H' l) dx (.xd (fl.zip vs).reverse) = upd H1 dx (.xd (fl.zip vs).reverse) := by
        funext b
        by_cases h1 : b = dx
        · subst h1; rw [upd_same, upd_same]
        · rw [upd_ne h1, upd_ne h1]
          by_cases h2 : b = l
          · subst h2; rw [del_same, hn]
          · rw [del_ne h2, hk b h2 h1, upd_ne h2]
      rw [eH]
      have q1 : Qt F1 H1 (upd F1 dx (.xd (fl.zip vs).reverse)) (upd H1 dx (.xd (fl.zip vs).reverse)) := Qt.new s1.fh hdx1
      exact p.exE _ _ _ rfl dx _ _ fp1 _ (s1.qt q1) upd_same (Rf.zipr (Rs.mono q1.ff ds rs)) (st1.wr.trans (s1.stp q1))
    · cases h4
  · exact ⟨F, fp, env, .ex c fs, e1, s, h1, p.exE c fs e1 h2⟩
end
end Dv

-- Dv17
set_option maxHeartbeats 4000000
namespace Dv
open PySem PySem.Spec L2
/-! ### try: .. except C as e: .. -/
def finS (i : Nat) : Option (Fl × Env) → Option (Fl × Env)
  | some (.ex _ _, _) => none
  | some (fl, e) => some (fl, e.set i none)
  | none => none
open Classical in
noncomputable def hdl (i : Nat) (hm : XP → SM) (c : Str) (fs : List (Str × D)) (e1 : Env) : Option (Fl × Env) :=
  if h : ∃ r, ∀ a d, finS i (hm ⟨a, d, c⟩ (e1.set i (some (.fz (.exn ⟨a, d, c⟩ fs))))) = some r then some h.choose else none
theorem hdl_eq {i : Nat} {hm : XP → SM} {c : Str} {fs : List (Str × D)} {e1 : Env} {r} (h : ∀ a d, finS i (hm ⟨a, d, c⟩ (e1.set i (some (.fz (.exn ⟨a, d, c⟩ fs))))) = some r) : hdl i hm c fs e1 = some r := by
  have hx : ∃ r, ∀ a d, finS i (hm ⟨a, d, c⟩ (e1.set i (some (.fz (.exn ⟨a, d, c⟩ fs))))) = some r := ⟨r, h⟩
  unfold hdl
  rw [dif_pos hx]
  have q := hx.choose_spec 0 0
  rw [h 0 0] at q
  exact q.symm
theorem hdl_some {i : Nat} {hm : XP → SM} {c : Str} {fs : List (Str × D)} {e1 : Env} {r} (h : hdl i hm c fs e1 = some r) (a d : Addr) : finS i (hm ⟨a, d, c⟩ (e1.set i (some (.fz (.exn ⟨a, d, c⟩ fs))))) = some r := by
  unfold hdl at h
  split at h
  · rename_i hx
    cases h
    exact hx.choose_spec a d
  · cases h
noncomputable def tryS (i : Nat) (cn : Str → Option Bool) (m : SM) (hm : XP → SM) : SM := fun env => match m env with
  | some (.ex c fs, e1) => (cn c).bind fun b => if b then (if i < e1.length then hdl i hm c fs e1 else none) else some (.ex c fs, e1)
  | r => r
section
variable {X : Cx} {W : WX} {pr : Nat → Bool} {x n : Str} {cv : Value} {body suite : List Stmt} {b0 : Stmt} {np pos pos' : Pos} {m : SM} {hm : XP → SM} {cn : Str → Option Bool}
theorem sv_tryAs (i : Nat) (hs : X.stack = X.env :: X.outer) (hf : X.env.frame = some X.env.locals) (hN : X.N.Nodup) (hc : Names X x cv) (tk : Takes X W) (hcn : ∀ c b, cn c = some b → PySem.W.exmOne X.K (.ref (He.ga X.K c)) cv = some b)
    (hb : ∀ (W : WX) (pn : List (Addr × Obj)) (xe : Value → Shared → Prop), Takes (X.tr pn xe) W → PassesOwn (model X.prog X.w) X.A X.env xe → BV (X.tr pn xe) W pr body m)
    (hh : ∀ (x : XP) (oe : Obj) (pn : List (Addr × Obj)), Zc (.ref (He.ga X.K x.c)) (some x.d) oe → (∃ vs, oe.data = .fields vs) → BV (X.suite x.a ((x.a, oe) :: pn)) W0 pr (b0 :: suite) (hm x))
    (hp : pr i = false := by rfl) (hi : X.N[i]? = some n := by rfl) (hln : X.env.kindOf n = some .local := by rfl) :
    SV X W pr (.Try body [.ExceptHandler (some (.Name x np)) (some n) (b0 :: suite) pos'] [] [] pos) (tryS i cn m hm) := by
  refine ps_imp (ps_try_as (tb := fun W => dS X.K W pr m) (ts := fun a cls d E σ H => ∃ dd c, cls = .ref (He.ga X.K c) ∧ d = some dd ∧ dS X.K W0 pr (hm ⟨a, dd, c⟩) E σ H) hs hf hN hi hln hc tk hb
    (fun a oe cls d pn hz hd => ⟨fun pins s σ H E I ⟨dd, c, e1, e2, z⟩ => by
      subst e1 e2
      exact (hh ⟨a, dd, c⟩ oe pn hz hd).run pins s σ H E I z⟩)) fun E σ H z => ?_
  obtain ⟨F, fp, env, r, s, hm', p⟩ := dS_out z
  show dS X.K (wAs X.K cv i _ W E) pr m E σ H
  unfold tryS at hm'
  cases h1 : m env with
  | none => rw [h1] at hm'; cases hm'
  | some r1 =>
    obtain ⟨fl, e1⟩ := r1
    rw [h1] at hm'
    cases fl with
    | nx => cases hm'; exact dS_in s h1 p
    | bk => cases hm'; exact dS_in s h1 p
    | ct => cases hm'; exact dS_in s h1 p
    | rt o => cases hm'; exact dS_in s h1 p
    | ex c fs =>
      refine dS_in s h1 fun σ' d F' H' fp' us s' ed rf st k => ?_
      obtain ⟨b, hb1, h2⟩ := Option.bind_eq_some_iff.mp hm'
      refine ⟨b, hcn c b hb1, fun e a ha => ?_, fun e => ?_⟩
      · subst e
        rw [if_pos rfl] at h2
        split at h2
        · rename_i hl
          have h3 := hdl_some h2 a d
          obtain ⟨fp2, s2, st2⟩ := s'.store (i := i) (o := .fz (.exn ⟨a, d, c⟩ fs)) (v := .ref a) (HV.fz ⟨us, rfl, ed, rf⟩) hl
          have st2 : Stp F' H' fp' F' H' fp2 := ⟨st2.ff, fun x o mu e n z => st2.out x o mu e (by simpa using n) z⟩
          have k2 : Kpr pr σ (σ'.set i (some (.ref a))) := k.trans (Kpr.set hp)
          cases h4 : hm ⟨a, d, c⟩ (e1.set i (some (.fz (.exn ⟨a, d, c⟩ fs)))) with
          | none => rw [h4] at h3; cases h3
          | some r2 =>
            obtain ⟨f2, e2⟩ := r2
            rw [h4] at h3
            refine ⟨d, c, rfl, rfl, dS_in s2 h4 ?_⟩
            have go : ∀ {σ3 : L2.St} {F3 H3 : Hp} {fp3 fv : List Addr}, SR X.K F3 H3 fp3 e2 σ3 → Stp F' H' fp2 F3 H3 (fp3 ++ fv) → ∃ fp4, SR X.K F3 H3 fp4 (e2.set i none) (σ3.set i none) ∧ Stp F3 H3 fp3 F3 H3 fp4 := fun {σ3 F3 H3 fp3 fv} s3 st3 => s3.forget (i := i) none
            cases f2 with
            | ex c' fs' => cases h3
            | nx =>
              cases h3
              intro σ3 F3 H3 fp3 s3 st3 k3
              obtain ⟨fp4, s4, st4⟩ := s3.forget (i := i) none
              exact p _ _ _ _ s4 (((st.trans st2).trans st3).trans st4) ((k2.trans k3).trans (Kpr.set hp))
            | bk =>
              cases h3
              intro σ3 F3 H3 fp3 s3 st3 k3
              obtain ⟨fp4, s4, st4⟩ := s3.forget (i := i) none
              exact p _ _ _ _ s4 (((st.trans st2).trans st3).trans st4) ((k2.trans k3).trans (Kpr.set hp))
            | ct =>
              cases h3
              intro σ3 F3 H3 fp3 s3 st3 k3
              obtain ⟨fp4, s4, st4⟩ := s3.forget (i := i) none
              exact p _ _ _ _ s4 (((st.trans st2).trans st3).trans st4) ((k2.trans k3).trans (Kpr.set hp))
            | rt o =>
              cases h3
              intro v σ3 F3 H3 fp3 fv s3 hv st3 k3
              obtain ⟨fp4, s4, st4⟩ := s3.forget (i := i) none
              have st34 : Stp F' H' fp2 F3 H3 (fp4 ++ fv) := by
                refine ⟨st3.ff, fun x o mu e n z => ?_⟩
                obtain ⟨q1, q2, q3⟩ := st3.out x o mu e n z
                obtain ⟨w1, w2, w3⟩ := st4.out x o mu q1 (fun y => q3 (List.mem_append_left _ y)) q2
                exact ⟨q1, q2, fun y => (List.mem_append.mp y).elim w3 fun y => q3 (List.mem_append_right _ y)⟩
              exact p v _ _ _ _ fv s4 (hv.on st4) ((st.trans st2).trans st34) ((k2.trans k3).trans (Kpr.set hp))
        · cases h2
      · subst e
        rw [if_neg Bool.false_ne_true] at h2
        cases h2
        exact p σ' d F' H' fp' us s' ed rf st k
end
/-! ### what one asks of the error -/
/-- the error is at hand: X holds it -/
structure HotX (X : Cx) (x : XP) : Prop where
  ex : ∃ oe, (x.a, oe) ∈ X.pn ∧ Zc (.ref (He.ga X.K x.c)) (some x.d) oe ∧ ∃ vs, oe.data = .fields vs
theorem hot_suite {X : Cx} {x : XP} {oe : Obj} {pn : List (Addr × Obj)} (hz : Zc (.ref (He.ga X.K x.c)) (some x.d) oe) (hd : ∃ vs, oe.data = .fields vs) : HotX (X.suite x.a ((x.a, oe) :: pn)) x := ⟨oe, List.mem_cons_self .., hz, hd⟩
/-- what an own exception class must have -/
structure XcK (K : Fg) (C : Addr) : Prop where
  cl : (PySem.W.clsIn K C).isSome = true
  ga : PySem.W.findIn K (.ref C) "__getattribute__" = some (some (.builtin "BaseException.__getattribute__"))
  gg : PySem.W.findIn K (.ref C) "__getattr__" = some none
  ex : PySem.W.subIn K (.ref C) (.type "BaseException") = some true
  ha : PySem.W.findIn K (.ref C) "__class__" = some (some (.builtin "object.__class__"))
  hn : PySem.W.specialIn K (.builtin "object.__class__") "__get__" = some (some (.builtin "getset_descriptor.__get__"))
  ht : PySem.W.takesIn K (.builtin "object.__class__") = some true
  hm : PySem.W.mroIn K C (.type "object") = some true
  hd : PySem.W.hasDictIn K C = true
def xcB (K : Fg) (C : Addr) : Bool := (PySem.W.clsIn K C).isSome && decide (PySem.W.findIn K (.ref C) "__getattribute__" = some (some (.builtin "BaseException.__getattribute__"))) && decide (PySem.W.findIn K (.ref C) "__getattr__" = some none) && decide (PySem.W.subIn K (.ref C) (.type "BaseException") = some true) &&
  decide (PySem.W.findIn K (.ref C) "__class__" = some (some (.builtin "object.__class__"))) && decide (PySem.W.specialIn K (.builtin "object.__class__") "__get__" = some (some (.builtin "getset_descriptor.__get__"))) && decide (PySem.W.takesIn K (.builtin "object.__class__") = some true) && decide (PySem.W.mroIn K C (.type "object") = some true) && PySem.W.hasDictIn K C
theorem xcB_ok {K : Fg} {C : Addr} (h : xcB K C = true) : XcK K C := by
  unfold xcB at h
  simp only [Bool.and_eq_true, decide_eq_true_eq] at h
  obtain ⟨⟨⟨⟨⟨⟨⟨⟨h1, h2⟩, h3⟩, h4⟩, h5⟩, h6⟩, h7⟩, h8⟩, h9⟩ := h
  exact ⟨h1, h2, h3, h4, h5, h6, h7, h8, h9⟩
def insB (K : Fg) (C : Addr) : Bool := decide (PySem.W.findIn K (.ref C) "__class__" = some (some (.builtin "object.__class__"))) && decide (PySem.W.specialIn K (.builtin "object.__class__") "__get__" = some (some (.builtin "getset_descriptor.__get__"))) && decide (PySem.W.takesIn K (.builtin "object.__class__") = some true) && decide (PySem.W.mroIn K C (.type "object") = some true)
theorem insB_ok {K : Fg} {C : Addr} (c : Cls K C) (h : insB K C = true) : InsK K C := by
  unfold insB at h
  simp only [Bool.and_eq_true, decide_eq_true_eq] at h
  obtain ⟨⟨⟨h5, h6⟩, h7⟩, h8⟩ := h
  exact ⟨c, h5, h6, h7, h8⟩
section
variable {X : Cx} {W : WX} {pr : Nat → Bool} {a b c e : Expr} {es : List Expr} {pos : Pos} {x0 : XP}
/-- the object, its dict -/
theorem hot_at (hx : HotX X x0) {pins : List (Addr × Obj)} {σ : L2.St} {H : Hp} {s : Shared} {us : List (Str × V)} (I : Inv X pins σ H s) (ed : H x0.d = some (.xd us)) :
    ∃ (oe od : Obj) (mA : Str → Option Value), PySem.W.InstAt s.heap x0.a oe (He.ga X.K x0.c) (some od) ∧ (∀ f, RelO (us.lookup f) (mA f)) ∧ ∀ f, PySem.W.lookIn f od = some (mA f) := by
  obtain ⟨oe, hm, hz, vs, hv⟩ := hx.ex
  obtain ⟨ha, _⟩ := I.pin (x0.a, oe) (List.mem_append_left _ hm)
  have hx : ObjOk X.prog X.w H s.heap x0.d (.xd us) := I.hok x0.d _ ed
  obtain ⟨mA, hns, hr⟩ := hx
  obtain ⟨od, ho, hl⟩ := lookIn_ns hns
  exact ⟨oe, od, mA, ⟨ha, hz.1, by unfold PySem.W.notCls; rw [hv] <;> rfl, by rw [hz.2]; exact ho⟩, hr, hl⟩
def rIsX (K : Fg) (x0 : XP) : List V → Hp → VK → Prop := fun xs H Q => ∃ (c : V) (cv : Value) (b : Bool) (us : List (Str × V)), xs = [.ref x0.a, c] ∧ ClsV c cv ∧ H x0.d = some (.xd us) ∧ PySem.W.kitOne K (.ref (He.ga K x0.c)) cv = some b ∧ Q (.bl b) H
theorem callr_isx (hx : HotX X x0) (k : XcK X.K (He.ga X.K x0.c)) : CallR X (.builtin "isinstance") (rIsX X.K x0) := by
  intro pins s σ H xs us Q I r h
  obtain ⟨c, cv, b, fs, rfl, hc, ed, e, q⟩ := h
  obtain ⟨u1, u2, rfl, r1, r2⟩ := vals2 r
  have e2 := hc.eq r2
  subst e2
  cases (show u1 = Value.ref x0.a from r1)
  obtain ⟨oe, od, mA, J, _⟩ := hot_at hx I ed
  exact PySem.W.kia_one (PySem.W.kitx_exc k.cl k.ga k.gg k.ex k.ha k.hn k.ht k.hm) I.kIn J e (fun z => nomatch z) fun tk => ⟨.bl b, H, I.tok tk, rfl, q⟩
def gIsx (x0 : XP) (tb : ITab) : List O → Option D
  | [.fz (.exn x _), .fz y] => if x = x0 then (clD y).bind fun u => (tb.lookup (.o x0.c, u)).map .bl else none
  | _ => none
theorem cao_isx {K : Fg} {tb : ITab} {cs : List Str} (ok : IsOk K tb cs) : CaO K (rIsX K x0) (gIsx x0 tb) := fun F H xs vs fx d Q e r h q => by
  unfold gIsx at h
  split at h
  · rename_i x fs y
    split at h
    · rename_i hx
      subst hx
      obtain ⟨u, h1, h⟩ := Option.bind_eq_some_iff.mp h
      obtain ⟨b, hb, rfl⟩ := Option.map_eq_some_iff.mp h
      obtain ⟨v, w, f1, f2, rfl, r1, r2⟩ := two_rd r
      obtain ⟨_, us, rfl, ed, rf⟩ := r1
      exact ⟨w, u.v K, b, us, rfl, cl_rd h1 r2.2, e _ _ ed, ok.tab _ _ _ hb, q.at e rfl⟩
    · cases h
  · cases h
theorem CaO.or {K : Fg} {r r' : List V → Hp → VK → Prop} {g g' : List O → Option D} (h : CaO K r g) (h' : CaO K r' g') : CaO K (fun xs H Q => r xs H Q ∨ r' xs H Q) (fun xs => (g xs).or (g' xs)) := fun F H xs vs fx d Q e ro hd q => by
  have hd : (g xs).or (g' xs) = some d := hd
  cases z : g xs with
  | some u =>
    rw [z] at hd
    exact .inl (h F H xs vs fx d Q e ro (by rw [z]; exact hd) q)
  | none =>
    rw [z] at hd
    exact .inr (h' F H xs vs fx d Q e ro hd q)
/-- e.f -/
def pXf (x0 : XP) (cs : List Str) (f : Str) (p : PM) : PM := fun env => (p env).bind fun o => match o with
  | .fz (.exn x fs) => if x = x0 ∧ cs.contains x0.c then (fs.lookup f).map .fz else none
  | _ => none
theorem pv_xf {n : Str} {cs : List Str} {p : PM} (hx : HotX X x0) (k : ∀ c ∈ cs, XcK X.K (He.ga X.K c) ∧ PySem.W.findIn X.K (.ref (He.ga X.K c)) n = some none) (he : PV X e p) (hb : attributeBase e n X.env (eval e X.env) = eval e X.env := by rfl) : PV X (.Attribute e n pos) (pXf x0 cs n p) := by
  refine ⟨fun pins s σ H Q I h => ?_⟩
  obtain ⟨F, fp, env, o, st, hm, post⟩ := h
  obtain ⟨y, h1, hm2⟩ := Option.bind_eq_some_iff.mp hm
  split at hm2
  · rename_i x fs
    split at hm2
    · rename_i hc
      obtain ⟨rfl, hc⟩ := hc
      obtain ⟨d, hd, rfl⟩ := Option.map_eq_some_iff.mp hm2
      obtain ⟨k1, k2⟩ := k _ (by simpa using hc)
      refine attr_of hb (thn (he.run pins s σ H (fun v H1 => ∃ F1, Qt F H F1 H1 ∧ R X.K F1 (.exn x fs) v) I (dP_run st h1 fun v F1 H1 fv q r => ⟨F1, q, r.2⟩)) fun u s1 hh => ?_)
      obtain ⟨xv, H1, I1, rx, F1, q1, us, ev, ed, rf⟩ := hh
      subst ev
      obtain rfl : u = Value.ref x.a := rx
      obtain ⟨oe, od, mA, J, hr, hl⟩ := hot_at hx I1 (q1.fh _ _ ed)
      obtain ⟨v, hv, rv⟩ := rf.look.1 d hd
      obtain ⟨u, hu, ru⟩ := RelO.some_of (v := v) (o := mA n) (by rw [← hv]; exact hr n)
      exact HandSPX.exc_get I1.kIn J k1.ga k1.gg k1.ex (PySem.W.findObj_own k1.hd k2 rfl (by rw [hl, hu])) (handed_of ru) ⟨v, H1, I1.tok _, ru, post v F1 H1 [] q1 ⟨rfl, rv⟩⟩
    · cases hm2
  · cases hm2
end
end Dv

-- Dv18
set_option maxHeartbeats 4000000
namespace Dv
open PySem PySem.Spec L2
/-! ### dict displays with texts as keys -/
def eDic (ks : List Str) (m : AM) : EM := fun env => bindR (m env) fun os e1 => if os.length = ks.length then some (.ok (.dic 0 ((ks.map D.str).zip os)), e1) else none
/-- the pairs' judgement -/
def DPV (X : Cx) (W : WX) (pos : Pos) (keys : List (Option Expr)) (values : List Expr) (ks : List Str) (m : AM) : Prop := ∃ trs, PPs X pos keys values trs ∧ keys.length = ks.length ∧ values.length = ks.length ∧ keys.all (·.isSome) = true ∧
  ∀ σ H (Q : List (V × V) → Hp → Prop), dA X.K W m σ H (fun vs H' => vs.length = ks.length → Q ((ks.map V.str).zip vs) H') → tPairs trs σ H Q
section
variable {X : Cx} {W : WX} {pos : Pos} {keys : List (Option Expr)} {values : List Expr} {ks : List Str} {m : AM} {v : Expr} {p : EM} {k : Str}
theorem dpv_nil : DPV X W pos [] [] [] aNil := ⟨[], pps_nil, rfl, rfl, rfl, fun σ H Q h => by
  obtain ⟨F, fp, env, r, env', s, hm, post⟩ := h
  cases hm
  exact post [] F H fp [] s HVs.nil Stp.refl.nl rfl⟩
theorem dA_post {K : Fg} {m : AM} {σ H} {Q : List V → Hp → Prop} (h : dA K W m σ H Q) : ∃ F fp env r, SR K F H fp env σ ∧ m env = some r ∧ (∀ c fs e, r = (.ex c fs, e) → exW K W F H fp e σ c fs) ∧
    ∀ os e, r = (.ok os, e) → ∀ vs F' H' fp' fv, SR K F' H' fp' e σ → HVs K F' H' fp' os vs fv → Stp F H fp F' H' (fp' ++ fv) → Q vs H' := by
  obtain ⟨F, fp, env, r, env', s, hm, post⟩ := h
  refine ⟨F, fp, env, (r, env'), s, hm, fun c fs e q => ?_, fun os e q => ?_⟩
  · cases q; exact post
  · cases q; exact post
theorem dpv_cons (hv : EV X W v p) (hr : DPV X W pos keys values ks m) {c : Expr} (hk : PE X c (tC (.str k))) : DPV X W pos (some c :: keys) (v :: values) (k :: ks) (aCons p m) := by
  obtain ⟨trs, h1, h2, h3, h4, h5⟩ := hr
  refine ⟨_, pps_cons hk hv h1, congrArg Nat.succ h2, congrArg Nat.succ h3, by rw [List.all_cons, h4]; rfl, fun σ H Q h => ?_⟩
  obtain ⟨F, fp, env, r, s, hm, ex, ok⟩ := dA_post h
  show dE X.K W p σ H _
  refine dE_run s hm ex fun o e1 v1 F1 H1 fp1 f1 s1 hv1 st1 ex1 hm1 => h5 σ H1 _ ?_
  rcases bindR_some hm1 with ⟨os, e2, h6, h7⟩ | ⟨c, fs, e2, h6, h7⟩
  · refine ⟨F1, fp1, e1, .ok os, e2, s1, h6, fun vs F2 H2 fp2 f2 s2 hv2 st2 hl => ?_⟩
    cases h7
    exact ok _ _ rfl (v1 :: vs) F2 H2 fp2 (f1 ++ f2) s2 (HVs.cons hv1 st2 hv2) (st1.tr2 st2) (congrArg Nat.succ hl)
  · exact ⟨F1, fp1, e1, .ex c fs, e2, s1, h6, ex1 c fs e2 h7⟩
theorem mergeK_nodup : ∀ {kvs acc : List (Key × V)}, (kvs.map (·.1)).Nodup → (∀ k ∈ kvs.map (·.1), k ∉ acc.map (·.1)) → mergeK acc kvs = acc ++ kvs
  | [], acc, _, _ => by simp [mergeK]
  | (k, v) :: r, acc, h, d => by
    have hk : k ∉ acc.map (·.1) := d k (by simp)
    have hp : putK acc k v = acc ++ [(k, v)] := by
      unfold putK
      rw [if_neg]
      simp only [List.any_eq_true, decide_eq_true_eq, not_exists, not_and]
      intro p hp e
      exact hk (e ▸ List.mem_map_of_mem hp)
    show mergeK (putK acc k v) r = _
    rw [hp]
    simp only [List.map_cons, List.nodup_cons] at h
    rw [mergeK_nodup h.2 (fun q hq => ?_)]
    · simp
    · rw [List.map_append, List.mem_append]
      rintro (z | z)
      · exact d q (by simp only [List.map_cons, List.mem_cons]; exact .inr hq) z
      · simp at z; exact h.1 (z ▸ hq)
theorem ROk.zip {K : Fg} {F H : Hp} : ∀ {ks : List Str} {os : List O} {vs : List V} {fp : List Addr}, os.length = ks.length → ROs K F H os vs fp → ROk K F H ((ks.map D.str).zip os) ((ks.map fun k => (Sum.inr k : Key)).zip vs) fp
  | [], [], _, _, _, h => by obtain ⟨rfl, rfl⟩ := h; exact ⟨rfl, rfl⟩
  | [], _ :: _, _, _, h, _ => by simp at h
  | _ :: _, [], _, _, h, _ => by simp at h
  | k :: ks, o :: os, _, _, hl, ⟨v, w, f1, f2, h1, h2, h3, h4⟩ => by
    subst h1 h2
    exact ⟨.inr k, v, _, f1, f2, rfl, rfl, rfl, h3, ROk.zip (by simpa using hl) h4⟩
theorem ev_dic (h : DPV X W pos keys values ks m) (h0 : keys ≠ []) (h15 : keys.length ≤ 15 := by decide) (hd : ks.Nodup := by decide) : EV X W (.Dict keys values pos) (eDic ks m) := by
  obtain ⟨trs, h1, h2, h3, h4, h5⟩ := h
  refine pe_imp (pe_disp h1 h4 (h2.trans h3.symm) h0 h15) fun σ H Q z => ?_
  obtain ⟨F, fp, env, re, s, hm, post⟩ := dE_out z
  intro l hn
  have s0 : SR X.K F (upd H l (.dK [])) fp env σ := s.alloc hn
  have fl : F l = none := s.fh.free hn
  have nl : l ∉ fp := fun k => by
    obtain ⟨o, e, _⟩ := RE.inn _ s.re l k
    rw [hn] at e; cases e
  have st0 : Stp F H fp F (upd H l (.dK [])) (fp ++ [l]) := by
    have := (Stp.refl (F := F) (H := H) (fp := fp)).nl.new (o := .dK []) hn
    exact this
  refine h5 σ _ _ ?_
  have st00 : Stp F H fp F (upd H l (.dK [])) fp := st0.wr
  rcases bindR_some hm with ⟨os, e1, h6, h7⟩ | ⟨c, fs, e1, h6, h7⟩
  · refine ⟨F, fp, env, .ok os, e1, s0, h6, fun vs F1 H1 fp1 f1 s1 hv st1 hl => ?_⟩
    split at h7
    · rename_i hlo
      cases h7
      obtain ⟨w1, w2, w3⟩ := st1.out l (.dK []) rfl upd_same nl fl
      refine ⟨w1, (ks.map fun k => (Sum.inr k : Key)).zip vs, ?_, ?_, ?_⟩
      · have : ∀ (ks : List Str) (vs : List V), (ks.map V.str).zip vs = ((ks.map fun k => (Sum.inr k : Key)).zip vs).map fun kv => (kV kv.1, kv.2) := by
          intro ks
          induction ks with
          | nil => intro vs; rfl
          | cons k ks ih => intro vs; cases vs with
            | nil => rfl
            | cons v vs => simp only [List.map_cons, List.zip_cons_cons, List.map_cons, ih vs]; rfl
        exact this ks vs
      · rw [List.length_zip, List.length_map, hl]
        omega
      · have nk : (((ks.map fun k => (Sum.inr k : Key)).zip vs).map (·.1)).Nodup := by
          rw [List.map_fst_zip (by rw [List.length_map, hl]; omega)]
          exact hd.map (f := fun k => (Sum.inr k : Key)) (fun a b => by simp) |> fun h => h
        rw [mergeK_nodup nk (by simp), List.nil_append]
        have n1 : ∀ a ∈ f1, a ≠ l := fun a m e => w3 (List.mem_append_right _ (e ▸ m))
        have hvo : HV X.K F1 (upd H1 l (.dK ((ks.map fun k => (Sum.inr k : Key)).zip vs))) fp1 (.dic 0 ((ks.map D.str).zip os)) (.ref l) (l :: f1) := by
          refine ⟨⟨l, f1, rfl, rfl, .inl ⟨_, rfl, upd_same, ROk.zip hlo (ROs.mono (Same.refl F1) os (Kp.off fun m => n1 l m rfl) hv.ro)⟩⟩, List.nodup_cons.mpr ⟨fun m => n1 l m rfl, hv.nd⟩, fun a m => ?_, fun a m => ?_⟩
          · rcases List.mem_cons.mp m with rfl | m
            · exact w2
            · exact hv.nf a m
          · rcases List.mem_cons.mp m with rfl | m
            · exact fun k => w3 (List.mem_append_left _ k)
            · exact hv.dj a m
        refine post.ok (s1.updH w2 fun k => w3 (List.mem_append_left _ k)) hvo ?_
        refine ⟨st1.ff, fun a o mu e n z => ?_⟩
        have ha : a ≠ l := fun q => by rw [q, hn] at e; cases e
        obtain ⟨q1, q2, q3⟩ := st1.out a o mu (by rw [upd_ne ha]; exact e) n z
        refine ⟨by rw [upd_ne ha]; exact q1, q2, fun k => ?_⟩
        rcases List.mem_append.mp k with k | k
        · exact q3 (List.mem_append_left _ k)
        · rcases List.mem_cons.mp k with k | k
          · exact ha k
          · exact q3 (List.mem_append_right _ k)
    · cases h7
  · exact ⟨F, fp, env, .ex c fs, e1, s0, h6, (post.ex c fs e1 h7).qt st00⟩
end
/-! ### list(x), tuple(x) -/
def seqD : D → Option (List D)
  | .lst xs => some xs
  | .tup xs => some xs
  | _ => none
def eList (m : EM) : EM := fun env => bindR (m env) fun o e1 => (seqD o.fr).map fun xs => (.ok (.lst (xs.map .fz)), e1)
section
variable {X : Cx} {W : WX} {pos : Pos} {e : Expr} {p : Pos}
theorem ev_list {m : EM} (hg : Gl X "list") (hm : X.mg "list" = none) (ha : EV X W e m) (hs : starEach [e] X.env = [(false, eval e X.env)] := by rfl) (hpl : (backTo pos (starEach [] X.env)).any (·.1) = false := by rfl) :
    EV X W (.Call (.Name "list" p) [e] [] pos) (eList m) := by
  refine pe_imp (pe_callTy call_list_of hg hm (by rfl) (pa_cons ha pa_nil hs) (by decide) (by decide) hs hpl) fun σ H Q z => ?_
  obtain ⟨F, fp, env, re, s, hmm, post⟩ := dE_out z
  refine dE_run s hmm post.ex fun o e1 v F1 H1 fp1 f1 s1 h1 st1 ex1 hm1 => ?_
  obtain ⟨xs, hx, rfl⟩ := Option.map_eq_some_iff.mp hm1
  obtain ⟨F2, s2, r2, st2, sf, _⟩ := h1.frz s1
  have fin : ∀ {a : Addr} {us : List V}, v = .ref a → Rs X.K F2 xs us → (SqL X.K F2 a us ∨ SqT X.K F2 a us) → ∃ p ys, [v] = [V.ref p] ∧ (SqL X.K H1 p ys ∨ SqT X.K H1 p ys) ∧ ∀ l, H1 l = none → Q (.ref l) (upd H1 l (.lst ys)) := fun {a us} e rs sq => by
    subst e
    refine ⟨a, us, rfl, sq.imp (fun q => s2.fh.seq q) (fun q => same_t s2.fh q), fun l hl => ?_⟩
    have hv : HVs X.K F2 H1 fp1 (xs.map .fz) us [] := ⟨ROs.fzs rs, List.nodup_nil, (fun _ h => nomatch h), (fun _ h => nomatch h)⟩
    exact post.ok (s2.alloc hl) (hv.hv s2 hl) (((st1.trans st2).nl).new hl)
  unfold seqD at hx
  split at hx
  · rename_i ys hy
    cases hx
    rw [hy] at r2
    obtain ⟨a, us, e, h, rs⟩ := r2
    exact fin e rs (.inl h)
  · rename_i ys hy
    cases hx
    rw [hy] at r2
    obtain ⟨a, us, e, h, rs⟩ := r2
    exact fin e rs (.inr (SqT.of h))
  · cases hx
end
end Dv

-- Dv19
set_option maxHeartbeats 4000000
namespace Dv
open PySem PySem.Spec L2
/-! ### facts of the row, by Bools -/
theorem ex_at {l : List (Fg → Bool)} {K : Fg} (h : (l.all fun f => f K) = true) (i : Nat) {f : Fg → Bool} (hi : l[i]? = some f := by rfl) : f K = true := List.all_eq_true.mp h f (List.mem_of_getElem? hi)
theorem lookup_mem {α β : Type} [BEq α] [LawfulBEq α] : ∀ {l : List (α × β)} {k : α} {v : β}, l.lookup k = some v → (k, v) ∈ l
  | (a, b) :: r, k, v, h => by
    rw [List.lookup_cons] at h
    split at h
    · rename_i e
      cases h
      rw [eq_of_beq e]
      exact List.mem_cons_self
    · exact List.mem_cons_of_mem _ (lookup_mem h)
def isB (tb : ITab) (K : Fg) : Bool := tb.all fun p => decide (PySem.W.kitOne K (p.1.1.v K) (p.1.2.v K) = some p.2)
theorem isB_ok {tb : ITab} {K : Fg} (h : isB tb K = true) {cs : List Str} (hi : ∀ c ∈ cs, InsK K (He.ga K c)) : IsOk K tb cs :=
  ⟨fun t u b e => of_decide_eq_true (List.all_eq_true.mp h ((t, u), b) (lookup_mem e)), hi⟩
def nfB (c : Str) (ts : List Tc) (K : Fg) : Bool := ts.all fun t => PySem.W.notFirst K (He.ga K c) (t.v K)
theorem nfB_ok {c : Str} {ts : List Tc} {K : Fg} (h : nfB c ts K = true) {cs : List Str} (hi : ∀ c ∈ cs, InsK K (He.ga K c)) : NfOk K c ts cs := ⟨fun t m => List.all_eq_true.mp h t m, hi⟩
def exmB (C : Str) (tb : List (Str × Bool)) (K : Fg) : Bool := tb.all fun p => decide (PySem.W.exmOne K (.ref (He.ga K p.1)) (.ref (He.ga K C)) = some p.2)
theorem exmB_ok {C : Str} {tb : List (Str × Bool)} {K : Fg} (h : exmB C tb K = true) : ∀ c b, tb.lookup c = some b → PySem.W.exmOne K (.ref (He.ga K c)) (.ref (He.ga K C)) = some b := fun c b e => of_decide_eq_true (List.all_eq_true.mp h (c, b) (lookup_mem e))
def initB (c : Str) (K : Fg) : Bool := decide (PySem.W.findIn K (.ref (He.ga K c)) "__init__" = some (some (.ref (He.ma K (He.ga K c) "__init__")))) && decide (PySem.W.typeIn K (.ref (He.ma K (He.ga K c) "__init__")) = some (.type "function"))
theorem initB_ok {c : Str} {K : Fg} (h : initB c K = true) : PySem.W.findIn K (.ref (He.ga K c)) "__init__" = some (some (.ref (He.ma K (He.ga K c) "__init__"))) ∧ PySem.W.typeIn K (.ref (He.ma K (He.ga K c) "__init__")) = some (.type "function") := by
  obtain ⟨a, b⟩ := Bool.and_eq_true_iff.mp h
  exact ⟨of_decide_eq_true a, of_decide_eq_true b⟩
def mthB (c m : Str) (K : Fg) : Bool := decide (PySem.W.findIn K (.ref (He.ga K c)) m = some (some (.ref (He.ma K (He.ga K c) m)))) && PySem.W.isFn K (.ref (He.ma K (He.ga K c) m))
theorem mthB_ok {c m : Str} {K : Fg} (h : mthB c m K = true) : PySem.W.findIn K (.ref (He.ga K c)) m = some (some (.ref (He.ma K (He.ga K c) m))) ∧ PySem.W.isFn K (.ref (He.ma K (He.ga K c) m)) = true := by
  obtain ⟨a, b⟩ := Bool.and_eq_true_iff.mp h
  exact ⟨of_decide_eq_true a, b⟩
def noatB (c f : Str) (K : Fg) : Bool := decide (PySem.W.findIn K (.ref (He.ga K c)) f = some none)
theorem noatB_ok {c f : Str} {K : Fg} (h : noatB c f K = true) : PySem.W.findIn K (.ref (He.ga K c)) f = some none := of_decide_eq_true h
theorem opr_eqU {X : Cx} (hu : X.A.units + 64 < cLine) : OpR X (compareOp .Eq) (fun x y H Q => rEq x y H Q ∨ rEqD X.K x y H Q) := op_eq.or (op_eqD hu)
theorem opr_neU {X : Cx} (hu : X.A.units + 64 < cLine) : OpR X (compareOp .NotEq) (fun x y H Q => rNe x y H Q ∨ rNeD X.K x y H Q) := op_ne.or (op_neD hu)
theorem bv_none {X : Cx} {W : WX} {pr : Nat → Bool} {st : List Stmt} : BV X W pr st (fun _ => none) := ⟨fun _ _ _ _ _ _ h => by obtain ⟨_, _, _, _, _, _, h, _⟩ := h; cases h⟩
/-- a clause that knows the error's class -/
def hcond (b : Bool) (m : SM) : SM := if b then m else fun _ => none
theorem bv_hcond {X : Cx} {W : WX} {pr : Nat → Bool} {st : List Stmt} {b : Bool} {m : SM} (h : b = true → BV X W pr st m) : BV X W pr st (hcond b m) := by
  unfold hcond
  cases b with
  | true => exact h rfl
  | false => exact bv_none
@[simp] theorem hcond_t {m : SM} : hcond true m = m := rfl
/-- what is known of a law's row -/
def FX (fa : List He.Fa) (fn : List He.DefD) (exl : List (Fg → Bool)) (K : Fg) (mg : Str → Option Value) : Prop := ∃ h : Heap, K.In h ∧ h.Ns mainGlobals mg ∧ He.SaysD fa fn K ∧ (exl.all fun f => f K) = true
/-- a def is walked -/
def FnX (P : Program) (w : World) (K : Fg) (mg : Str → Option Value) (base : Heap) (k : Nat) (d : He.DefD) (ps : List Str) (fn : FN) : Prop :=
  ∃ fd, FunD K d.name d.qual d.params d.body d.scope (d.dvs K) (d.kws K) (He.fAd K d.at_) fd ∧ FnOk P w K mg base (L2.CX P w) k (He.fAd K d.at_) fd ps (SpX K fn) ∧ Binds K fd ps []
/-- an exception's __init__ -/
def InX (P : Program) (w : World) (K : Fg) (mg : Str → Option Value) (base : Heap) (k : Nat) (d : He.DefD) (ps : List Str) (C : Addr) (fl : List Str) : Prop :=
  ∃ fd, FunD K d.name d.qual d.params d.body d.scope (d.dvs K) (d.kws K) (He.fAd K d.at_) fd ∧ FnOk P w K mg base (L2.CX P w) k (He.fAd K d.at_) fd ps (InSp K C fl) ∧ Binds K fd ps []
section
variable {P : Program} {w : World} {K : Fg} {mg : Str → Option Value} {base : Heap}
theorem FX.fact {fa : List He.Fa} {fn : List He.DefD} {exl : List (Fg → Bool)} (fx : FX fa fn exl K mg) (i : Nat) {f : He.Fa} (h : fa[i]? = some f := by rfl) : f.ok K = true := let ⟨_, _, _, c, _⟩ := fx; c.fact i h
theorem FX.ex {fa : List He.Fa} {fn : List He.DefD} {exl : List (Fg → Bool)} (fx : FX fa fn exl K mg) (i : Nat) {f : Fg → Bool} (h : exl[i]? = some f := by rfl) : f K = true := let ⟨_, _, _, _, c⟩ := fx; ex_at c i h
theorem FX.glo {fa : List He.Fa} {fn : List He.DefD} {exl : List (Fg → Bool)} (fx : FX fa fn exl K mg) (i : Nat) {x : Str} (h : fa[i]? = some (.glo x) := by rfl) : mg x = some (.ref (He.ga K x)) := let ⟨_, X, G, c, _⟩ := fx; He.glo_ok X G (c.fact i h)
theorem FX.free {fa : List He.Fa} {fn : List He.DefD} {exl : List (Fg → Bool)} (fx : FX fa fn exl K mg) (i : Nat) {x : Str} (h : fa[i]? = some (.free x) := by rfl) : mg x = none := let ⟨_, X, G, c, _⟩ := fx; He.free_ok X G (c.fact i h)
theorem FX.def_ {fa : List He.Fa} {fn : List He.DefD} {exl : List (Fg → Bool)} (fx : FX fa fn exl K mg) (i : Nat) {d : He.DefD} (h : fn[i]? = some d := by rfl) : ∃ fd, FunD K d.name d.qual d.params d.body d.scope (d.dvs K) (d.kws K) (He.fAd K d.at_) fd := let ⟨_, _, _, c, _⟩ := fx; c.def_ i h
/-- THE RULE for a def, told of its datum -/
theorem fnx {fa : List He.Fa} {fn : List He.DefD} {exl : List (Fg → Bool)} {N ps : List Str} {k : Nat} {ms : List Bool} {m : SM} {d : He.DefD} (fx : FX fa fn exl K mg) (i : Nat) (h : fn[i]? = some d) (hd : d.dfl = []) (hk : d.kwd = []) (S : FnScope N ps d.scope) (hms : ms.length = ps.length)
    (hbi : ∀ (kV doc pm : Value) (an : Option Addr) (cdv ct : Value) (us : List Value), us.length = ps.length → bindArgs (PySem.W.fnOf d.name d.qual d.params d.body d.scope .none kV doc pm an cdv ct) ⟨us, []⟩ = pure (ps.zip us))
    (hb : ∀ (f : Addr) (cdv : Value) (A : Around) (outer : List PySem.Env) (s : Shared) (H : Hp) (E : XK), Room k (A.deeper (PyProof.Rows.envOfC d.qual d.scope s.heap.objs.size f cdv)) → Takes (cxOf (L2.CX P w) P w K mg base N d.qual d.scope f cdv A outer s H E) (fun cls d _ H => E cls d H) →
      PassesOwn (model P w) (A.deeper (PyProof.Rows.envOfC d.qual d.scope s.heap.objs.size f cdv)) (PyProof.Rows.envOfC d.qual d.scope s.heap.objs.size f cdv) (cxOf (L2.CX P w) P w K mg base N d.qual d.scope f cdv A outer s H E).xe →
      BV (cxOf (L2.CX P w) P w K mg base N d.qual d.scope f cdv A outer s H E) (fun cls d _ H => E cls d H) (prOf ms) d.body m) :
    FnX P w K mg base (k + 1) d ps (fnD ms N.length m) := by
  obtain ⟨fd, F⟩ := fx.def_ i h
  have e1 : d.dvs K = [] := by unfold He.DefD.dvs; rw [hd]; rfl
  refine ⟨fd, F, fn_ok F S hms fun cdv A outer s H E hr => hb _ cdv A outer s H E hr (takes_of rfl rfl rfl rfl) (passes_of rfl), ?_⟩
  rw [e1] at F
  exact F.bindsN hbi
/-- what the row asks, of what the law computes -/
theorem law_sp {f : FN} (h : ∀ ns : List Int, ns.length ≤ 63 → ∃ os', f [.fz (.lst (ns.map D.int))] = some (.ok (.fz (.bl true)), os')) (H : Hp) (a : Addr) (ns : List Int) (hl : ns.length ≤ 63) (hO : Only H) (hs : SqL K H a (ns.map V.int)) :
    SpX K f [.ref a] H (fun v _ => v = .bl true) (fun _ _ _ => False) := by
  obtain ⟨os', e⟩ := h ns hl
  have rs : ∀ ns : List Int, Rs K H (ns.map D.int) (ns.map V.int) := by
    intro ns
    induction ns with
    | nil => rfl
    | cons n r ih => exact ⟨.int n, _, rfl, rfl, ih⟩
  exact ⟨H, [], [.fz (.lst (ns.map D.int))], .ok (.fz (.bl true)), os', Same.refl H, List.nodup_nil, (fun _ h => nomatch h), ⟨.ref a, [], [], [], rfl, rfl, ⟨rfl, a, _, rfl, hs, rs ns⟩, rfl, rfl⟩, e, fun v F' H' fp' fv sm r1 r2 nd nf st => r2.2⟩
/-- behind the law's own call, of any world -/
def CXw (P : Program) : CXT := fun outer H s E u s' => ∃ w, L2.CX P w outer H s E u s'
theorem cxw {k : Nat} {f : Addr} {fd : FuncData} {ps : List Str} {sp : Sp} (F : FnOk P w K mg base (L2.CX P w) k f fd ps sp) : FnOk P w K mg base (CXw P) k f fd ps sp := ⟨F.len, fun A outer s H args us vs Q E hr e0 hb r h => codeAny_mono (F.run A outer s H args us vs Q E hr e0 hb r h) fun r s' q => by
  cases r with
  | ok fl => cases fl <;> exact q
  | error e => exact ⟨w, q⟩⟩
theorem cxw_no {H : Hp} {s : Shared} {e : Value} {s' : Shared} : CXw P [] H s (fun _ _ _ => False) e s' → False := fun ⟨_, _, _, _, _, _, _, _, _, _, _, _, _, h⟩ => h
end
end Dv

-- Dv20
set_option maxHeartbeats 4000000
namespace Dv
open PySem PySem.Spec L2
/-! ### reckoning with denotations -/
theorem mulOk_r {i j : Int} (h : j.natAbs < 2 ^ 64) : mulOk i j = true := by
  unfold mulOk; rw [decide_eq_true h]; simp
theorem mulOk_l {i j : Int} (h : i.natAbs < 2 ^ 64) : mulOk i j = true := by
  unfold mulOk; rw [decide_eq_true h]; simp
theorem fdivOk_of {i j : Int} (h : 0 < j) (h2 : j < 2 ^ 200) : fdivOk i j = true := by
  unfold fdivOk
  rw [decide_eq_true h, Bool.true_and, decide_eq_true]
  have : j.natAbs < 2 ^ 200 := by omega
  by_cases hz : j.natAbs = 0
  · omega
  · exact Nat.lt_of_lt_of_le ((Nat.log2_lt hz).mpr this) (by decide)
theorem log2_of {n k : Nat} (hk : 0 < k) (h : n < 2 ^ k) : n.log2 < k := by
  by_cases hz : n = 0
  · subst hz; simpa using hk
  · exact (Nat.log2_lt hz).mpr h
theorem mulOk_b {i j : Int} {a b : Nat} (ha : i.natAbs < 2 ^ a) (hb : j.natAbs < 2 ^ b) (h0 : 0 < a) (h1 : 0 < b) (hab : a + b ≤ 1000000) : mulOk i j = true := by
  have h2 := log2_of h0 ha
  have h3 := log2_of h1 hb
  unfold mulOk
  rw [decide_eq_true (show i.natAbs.log2 + j.natAbs.log2 < 1000000 by omega)]
  simp
@[simp] theorem getP_nil {env : Env} {i : Nat} : getP env (i, []) = (env[i]?).join := by
  unfold getP
  cases h : (env[i]?).join <;> simp [O.sub]
@[simp] theorem setP_nil {env : Env} {i : Nat} {x : O} : setP env (i, []) x = match (env[i]?).join with | some _ => env.set i (some x) | none => env := by
  unfold setP
  cases h : (env[i]?).join <;> rfl
/-! ### lazily: what stands behind is looked at when its turn comes -/
def thenS (r : Option (Fl × Env)) (b : SM) : Option (Fl × Env) := match r with
  | some (.nx, e) => b e
  | r => r
@[simp] theorem thenS_nx {e : Env} {b : SM} : thenS (some (.nx, e)) b = b e := rfl
@[simp] theorem thenS_rt {e : Env} {o : O} {b : SM} : thenS (some (.rt o, e)) b = some (.rt o, e) := rfl
@[simp] theorem thenS_bk {e : Env} {b : SM} : thenS (some (.bk, e)) b = some (.bk, e) := rfl
@[simp] theorem thenS_ct {e : Env} {b : SM} : thenS (some (.ct, e)) b = some (.ct, e) := rfl
@[simp] theorem thenS_ex {e : Env} {c fs} {b : SM} : thenS (some (.ex c fs, e)) b = some (.ex c fs, e) := rfl
def fzE (o : Option O) (env : Env) : Option (Rz O × Env) := match o with
  | some (.fz d) => some (.ok (.fz d), env)
  | _ => none
@[simp] theorem fzE_some {d : D} {env : Env} : fzE (some (.fz d)) env = some (.ok (.fz d), env) := rfl
def nmE (i : Nat) (o : Option O) (env : Env) : Option (Rz O × Env) := match o with
  | some o => some (.ok (.fz o.fr), env.set i (some (.fz o.fr)))
  | none => none
@[simp] theorem nmE_some {i : Nat} {o : O} {env : Env} : nmE i (some o) env = some (.ok (.fz o.fr), env.set i (some (.fz o.fr))) := rfl
def mvE (i : Nat) (o : Option O) (env : Env) : Option (Rz O × Env) := match o with
  | some o => some (.ok o, env.set i none)
  | none => none
@[simp] theorem mvE_some {i : Nat} {o : O} {env : Env} : mvE i (some o) env = some (.ok o, env.set i none) := rfl
section
variable {env : Env} {p q : PM} {m n k : EM} {a b : SM} {t u : TM} {i j : Nat} {d : D} {am : AM} {qm : Env → Option (List O)} {g g' : O → O → Option D} {ga : List O → Option D} {f : FN} {bk : List (Option Nat)}
@[simp] theorem seqS_ap : seqS a b env = thenS (a env) b := by unfold seqS thenS; rfl
theorem seqS_nx {e : Env} (h : a env = some (.nx, e)) : seqS a b env = b e := by rw [seqS_ap, h]; rfl
@[simp] theorem nilS_ap : nilS env = some (.nx, env) := rfl
@[simp] theorem brkS_ap : brkS env = some (.bk, env) := rfl
@[simp] theorem cntS_ap : cntS env = some (.ct, env) := rfl
def exprK : O → Env → Option (Fl × Env) := fun _ e1 => some (.nx, e1)
@[simp] theorem exprS_ap : exprS m env = bindS (m env) exprK := rfl
@[simp] theorem exprK_ap {o : O} : exprK o env = some (.nx, env) := rfl
def retK : O → Env → Option (Fl × Env) := fun o e1 => some (.rt o, e1)
@[simp] theorem retS_ap : retS m env = bindS (m env) retK := rfl
@[simp] theorem retK_ap {o : O} : retK o env = some (.rt o, env) := rfl
@[simp] theorem retN_ap : retN env = some (.rt (.fz .non), env) := rfl
def ifK (a b : SM) : Bool → Env → Option (Fl × Env) := fun c e1 => if c then a e1 else b e1
@[simp] theorem ifS_ap : ifS t a b env = bindS (t env) (ifK a b) := rfl
@[simp] theorem ifK_ap {c : Bool} : ifK a b c env = if c = true then a env else b env := rfl
def setK (i : Nat) : O → Env → Option (Fl × Env) := fun o e1 => if i < e1.length then some (.nx, e1.set i (some o)) else none
@[simp] theorem setS_ap : setS i m env = bindS (m env) (setK i) := rfl
@[simp] theorem setK_ap {o : O} : setK i o env = if i < env.length then some (.nx, env.set i (some o)) else none := rfl
def parK2 (i j : Nat) (o : O) : O → Env → Option (Fl × Env) := fun u e2 => if i < e2.length ∧ j < e2.length then some (.nx, (e2.set i (some o)).set j (some u)) else none
def parK (i j : Nat) (n : EM) : O → Env → Option (Fl × Env) := fun o e1 => bindS (n e1) (parK2 i j o)
@[simp] theorem parS_ap : parS i j m n env = bindS (m env) (parK i j n) := rfl
@[simp] theorem parK_ap {o : O} : parK i j n o env = bindS (n env) (parK2 i j o) := rfl
@[simp] theorem parK2_ap {o u : O} : parK2 i j o u env = if i < env.length ∧ j < env.length then some (.nx, (env.set i (some o)).set j (some u)) else none := rfl
def putK' (pl : Env → Option Pl) (p : PM) : O → Env → Option (Fl × Env) := fun o e1 => (pl e1).bind fun q => (p e1).bind fun kx => (getP e1 q).bind fun s => (setO s kx o).map fun s' => (.nx, setP e1 q s')
@[simp] theorem putS_ap {pl : Env → Option Pl} : putS pl p m env = bindS (m env) (putK' pl p) := rfl
@[simp] theorem putK_ap {pl : Env → Option Pl} {o : O} : putK' pl p o env = (pl env).bind fun q => (p env).bind fun kx => (getP env q).bind fun s => (setO s kx o).map fun s' => (.nx, setP env q s') := rfl
@[simp] theorem lN_ap : lN i env = ((env[i]?).join).map fun _ => (i, []) := by unfold lN; rw [getP_nil]
def asgK (st : D → Env → Option Env) : O → Env → Option (Fl × Env) := fun o e1 => match o with | .fz d => (st d e1).map fun e2 => (.nx, e2) | _ => none
@[simp] theorem asgS_ap {st : D → Env → Option Env} : asgS st m env = bindS (m env) (asgK st) := rfl
@[simp] theorem asgK_ap {st : D → Env → Option Env} : asgK st (.fz d) env = (st d env).map fun e2 => (.nx, e2) := rfl
@[simp] theorem eP_ap : eP p env = fzE (p env) env := rfl
@[simp] theorem eN_ap : eN i env = nmE i (env[i]?).join env := rfl
@[simp] theorem eMv_ap : eMv i env = mvE i (env[i]?).join env := rfl
@[simp] theorem pN_ap : pN i env = (env[i]?).join := rfl
@[simp] theorem pC_ap : pC d env = some (.fz d) := rfl
@[simp] theorem pOp_ap : pOp g p q env = (p env).bind fun x => (q env).bind fun y => (g x y).map .fz := rfl
@[simp] theorem pIx_ap : pIx p q env = (p env).bind fun x => (q env).bind fun y => ixO x y := rfl
@[simp] theorem pCa_ap : pCa ga qm env = (qm env).bind fun os => (ga os).map .fz := rfl
@[simp] theorem qNil_ap : qNil env = some [] := rfl
@[simp] theorem qCons_ap : qCons p qm env = (p env).bind fun o => (qm env).map fun os => o :: os := rfl
@[simp] theorem pUn_ap {gu : O → Option D} : pUn gu p env = (p env).bind fun x => (gu x).map .fz := rfl
@[simp] theorem pFld_ap {cs : List Str} {f : Str} : pFld cs f p env = (p env).bind (fldO cs f) := rfl
@[simp] theorem pTup_ap : pTup qm env = (qm env).bind fun os => if os.length ≤ 1000000 then (allFz os).map fun ds => .fz (.tup ds) else none := rfl
def opK2 (g : O → O → Option D) (x : O) : O → Env → Option (Rz O × Env) := fun y e2 => (g x y).map fun d => (.ok (.fz d), e2)
def opK (g : O → O → Option D) (n : EM) : O → Env → Option (Rz O × Env) := fun x e1 => bindR (n e1) (opK2 g x)
@[simp] theorem eOp_ap : eOp g m n env = bindR (m env) (opK g n) := rfl
@[simp] theorem opK_ap {x : O} : opK g n x env = bindR (n env) (opK2 g x) := rfl
@[simp] theorem opK2_ap {x y : O} : opK2 g x y env = (g x y).map fun d => (.ok (.fz d), env) := rfl
def unK (gu : O → Option D) : O → Env → Option (Rz O × Env) := fun x e1 => (gu x).map fun d => (.ok (.fz d), e1)
@[simp] theorem eUn_ap {gu : O → Option D} : eUn gu m env = bindR (m env) (unK gu) := rfl
@[simp] theorem unK_ap {gu : O → Option D} {x : O} : unK gu x env = (gu x).map fun d => (.ok (.fz d), env) := rfl
def caK (ga : List O → Option D) : List O → Env → Option (Rz O × Env) := fun os e1 => (ga os).map fun d => (.ok (.fz d), e1)
@[simp] theorem eCa_ap : eCa ga am env = bindR (am env) (caK ga) := rfl
@[simp] theorem caK_ap {os : List O} : caK ga os env = (ga os).map fun d => (.ok (.fz d), env) := rfl
def ifE (m n : EM) : Bool → Env → Option (Rz O × Env) := fun c e1 => if c then m e1 else n e1
@[simp] theorem eIf_ap : eIf t m n env = bindR (t env) (ifE m n) := rfl
@[simp] theorem ifE_ap {c : Bool} : ifE m n c env = if c = true then m env else n env := rfl
def fzK : O → Env → Option (Rz O × Env) := fun o e1 => some (.ok (.fz o.fr), e1)
@[simp] theorem eFz_ap : eFz m env = bindR (m env) fzK := rfl
@[simp] theorem fzK_ap {o : O} : fzK o env = some (.ok (.fz o.fr), env) := rfl
def lstK : List O → Env → Option (Rz O × Env) := fun os e1 => if os.length ≤ 1000000 then some (.ok (.lst os), e1) else none
@[simp] theorem eLst_ap : eLst am env = bindR (am env) lstK := rfl
@[simp] theorem lstK_ap {os : List O} : lstK os env = if os.length ≤ 1000000 then some (.ok (.lst os), env) else none := rfl
def tupK : List O → Env → Option (Rz O × Env) := fun os e1 => if os.length ≤ 1000000 then (allFz os).map fun ds => (.ok (.fz (.tup ds)), e1) else none
@[simp] theorem eTup_ap : eTup am env = bindR (am env) tupK := rfl
@[simp] theorem tupK_ap {os : List O} : tupK os env = if os.length ≤ 1000000 then (allFz os).map fun ds => (.ok (.fz (.tup ds)), env) else none := rfl
def ixK2 (x : O) : O → Env → Option (Rz O × Env) := fun y e2 => fzE (ixO x y) e2
def ixK (n : EM) : O → Env → Option (Rz O × Env) := fun x e1 => bindR (n e1) (ixK2 x)
@[simp] theorem eIx_ap : eIx m n env = bindR (m env) (ixK n) := rfl
@[simp] theorem ixK_ap {x : O} : ixK n x env = bindR (n env) (ixK2 x) := rfl
@[simp] theorem ixK2_ap {x y : O} : ixK2 x y env = fzE (ixO x y) env := rfl
def ixN' (i : Nat) : O → Env → Option (Rz O × Env) := fun y e2 => ((e2[i]?).join).bind fun x => fzE (ixO x y) e2
@[simp] theorem eIxN_ap : eIxN i n env = bindR (n env) (ixN' i) := rfl
@[simp] theorem ixN_ap {y : O} : ixN' i y env = ((env[i]?).join).bind fun x => fzE (ixO x y) env := rfl
def andK (n : EM) : O → Env → Option (Rz O × Env) := fun o e1 => (boolO o).bind fun b => if b then n e1 else some (.ok (.fz (.bl false)), e1)
@[simp] theorem eAnd_ap : eAnd m n env = bindR (m env) (andK n) := rfl
@[simp] theorem andK_ap {b : Bool} : andK n (.fz (.bl b)) env = if b = true then n env else some (.ok (.fz (.bl false)), env) := rfl
def orK (n : EM) : O → Env → Option (Rz O × Env) := fun o e1 => (boolO o).bind fun b => if b then some (.ok (.fz (.bl true)), e1) else n e1
@[simp] theorem eOr_ap : eOr m n env = bindR (m env) (orK n) := rfl
@[simp] theorem orK_ap {b : Bool} : orK n (.fz (.bl b)) env = if b = true then some (.ok (.fz (.bl true)), env) else n env := rfl
def notK : O → Env → Option (Rz O × Env) := fun o e1 => (boolO o).map fun b => (.ok (.fz (.bl (!b))), e1)
@[simp] theorem eNot_ap : eNot m env = bindR (m env) notK := rfl
@[simp] theorem notK_ap {b : Bool} : notK (.fz (.bl b)) env = some (.ok (.fz (.bl (!b))), env) := rfl
def tEK : O → Env → Option (Rz Bool × Env) := fun o e1 => (boolO o).map fun b => (.ok b, e1)
@[simp] theorem tE_ap : tE m env = bindR (m env) tEK := rfl
@[simp] theorem tEK_ap {b : Bool} : tEK (.fz (.bl b)) env = some (.ok b, env) := rfl
def tAndK (u : TM) : Bool → Env → Option (Rz Bool × Env) := fun b e1 => if b then u e1 else some (.ok false, e1)
@[simp] theorem tAnd_ap : tAnd' t u env = bindR (t env) (tAndK u) := rfl
@[simp] theorem tAndK_ap {b : Bool} : tAndK u b env = if b = true then u env else some (.ok false, env) := rfl
def tOrK (u : TM) : Bool → Env → Option (Rz Bool × Env) := fun b e1 => if b then some (.ok true, e1) else u e1
@[simp] theorem tOr_ap : tOr' t u env = bindR (t env) (tOrK u) := rfl
@[simp] theorem tOrK_ap {b : Bool} : tOrK u b env = if b = true then some (.ok true, env) else u env := rfl
def tNotK : Bool → Env → Option (Rz Bool × Env) := fun b e1 => some (.ok (!b), e1)
@[simp] theorem tNot_ap : tNot' t env = bindR (t env) tNotK := rfl
@[simp] theorem tNotK_ap {b : Bool} : tNotK b env = some (.ok (!b), env) := rfl
@[simp] theorem aNil_ap : aNil env = some (.ok [], env) := rfl
def consK2 (o : O) : List O → Env → Option (Rz (List O) × Env) := fun os e2 => some (.ok (o :: os), e2)
def consK (am : AM) : O → Env → Option (Rz (List O) × Env) := fun o e1 => bindR (am e1) (consK2 o)
@[simp] theorem aCons_ap : aCons m am env = bindR (m env) (consK am) := rfl
@[simp] theorem consK_ap {o : O} : consK am o env = bindR (am env) (consK2 o) := rfl
@[simp] theorem consK2_ap {o : O} {os : List O} : consK2 o os env = some (.ok (o :: os), env) := rfl
def refR (i : Nat) (os : List O) (e1 : Env) : Option O → Option (Rz (List O) × Env)
  | some o => some (.ok (o :: os), e1.set i none)
  | none => none
def refK (i : Nat) : List O → Env → Option (Rz (List O) × Env) := fun os e1 => refR i os e1 (e1[i]?).join
def refQ (i : Nat) (q : AM) (env : Env) : Option O → Option (Rz (List O) × Env)
  | some _ => bindR (q env) (refK i)
  | none => none
@[simp] theorem aRef_ap : aRef i am env = refQ i am env (env[i]?).join := by
  unfold aRef refQ refK refR
  cases (env[i]?).join <;> rfl
@[simp] theorem refQ_some {o : O} : refQ i am env (some o) = bindR (am env) (refK i) := rfl
@[simp] theorem refK_ap {os : List O} : refK i os env = refR i os env (env[i]?).join := rfl
@[simp] theorem refR_some {os : List O} {o : O} : refR i os env (some o) = some (.ok (o :: os), env.set i none) := rfl
def putR (bk : List (Option Nat)) (e1 : Env) : Option (Rz O × List O) → Option (Rz O × Env)
  | some (r, os') => (putB bk os' e1).map fun e2 => (r, e2)
  | none => none
@[simp] theorem putR_some {e1 : Env} {r : Rz O} {os : List O} : putR bk e1 (some (r, os)) = (putB bk os e1).map fun e2 => (r, e2) := rfl
def callK (f : FN) (bk : List (Option Nat)) : List O → Env → Option (Rz O × Env) := fun os e1 => putR bk e1 (f os)
@[simp] theorem eCall_ap : eCall f bk am env = bindR (am env) (callK f bk) := by
  unfold eCall callK putR
  congr 1
@[simp] theorem callK_ap {os : List O} : callK f bk os env = putR bk env (f os) := rfl
@[simp] theorem boolO_bl {b : Bool} : boolO (.fz (.bl b)) = some b := rfl
@[simp] theorem gII_ap {h : Int → Int → Option D} {x y : Int} : gII h (.fz (.int x)) (.fz (.int y)) = h x y := rfl
@[simp] theorem gAdd_ap {x y : Int} : gAdd (.fz (.int x)) (.fz (.int y)) = some (.int (x + y)) := rfl
@[simp] theorem gSub_ap {x y : Int} : gSub (.fz (.int x)) (.fz (.int y)) = some (.int (x - y)) := rfl
@[simp] theorem gMul_ap {x y : Int} : gMul (.fz (.int x)) (.fz (.int y)) = if mulOk x y then some (.int (x * y)) else none := rfl
@[simp] theorem gDiv_ap {x y : Int} : gDiv (.fz (.int x)) (.fz (.int y)) = if fdivOk x y then some (.int (x / y)) else none := rfl
@[simp] theorem gMod_ap {x y : Int} : gMod (.fz (.int x)) (.fz (.int y)) = if 0 < y then some (.int (x % y)) else none := by
  show (if decide (0 < y) = true then _ else _) = _
  simp
@[simp] theorem gNeg_ap {x : Int} : gNeg (.fz (.int x)) = some (.int (-x)) := rfl
@[simp] theorem gLt_ap {x y : Int} : gLt (.fz (.int x)) (.fz (.int y)) = some (.bl (decide (x < y))) := rfl
@[simp] theorem gLe_ap {x y : Int} : gLe (.fz (.int x)) (.fz (.int y)) = some (.bl (decide (x ≤ y))) := rfl
@[simp] theorem gGt_ap {x y : Int} : gGt (.fz (.int x)) (.fz (.int y)) = some (.bl (decide (y < x))) := rfl
@[simp] theorem gGe_ap {x y : Int} : gGe (.fz (.int x)) (.fz (.int y)) = some (.bl (decide (y ≤ x))) := rfl
@[simp] theorem gEq_ap {x y : Int} : gEq (.fz (.int x)) (.fz (.int y)) = some (.bl (x == y)) := rfl
@[simp] theorem gNe_ap {x y : Int} : gNe (.fz (.int x)) (.fz (.int y)) = some (.bl (!(x == y))) := rfl
@[simp] theorem gInt_ap {x : Int} : gInt [.fz (.int x)] = some (.int x) := rfl
@[simp] theorem gAbs_ap {x : Int} : gAbs [.fz (.int x)] = some (.int x.natAbs) := rfl
@[simp] theorem gLen_lst {xs : List O} : gLen [.lst xs] = some (.int xs.length) := by
  have : ∀ xs : List O, (O.frs xs).length = xs.length := by
    intro xs
    induction xs with
    | nil => rfl
    | cons x r ih => exact congrArg Nat.succ ih
  simp only [gLen, O.fr, lenD, Option.map_some, this]
  rfl
@[simp] theorem gLen_fl {xs : List D} : gLen [.fz (.lst xs)] = some (.int xs.length) := rfl
@[simp] theorem gLen_ft {xs : List D} : gLen [.fz (.tup xs)] = some (.int xs.length) := rfl
@[simp] theorem ixO_lst {xs : List O} {x : Int} : ixO (.lst xs) (.fz (.int x)) = L2.atI xs x := rfl
@[simp] theorem ixO_fl {xs : List D} {x : Int} : ixO (.fz (.lst xs)) (.fz (.int x)) = (L2.atI xs x).map .fz := rfl
@[simp] theorem ixO_ft {xs : List D} {x : Int} : ixO (.fz (.tup xs)) (.fz (.int x)) = (L2.atI xs x).map .fz := rfl
@[simp] theorem fr_fz {d : D} : O.fr (.fz d) = d := rfl
@[simp] theorem fr_lst {xs : List O} : O.fr (.lst xs) = .lst (O.frs xs) := by simp only [O.fr]
@[simp] theorem fr_dic {t : Nat} {xs : List (D × O)} : O.fr (.dic t xs) = .dic t (O.frk xs) := by simp only [O.fr]
@[simp] theorem fr_ins {c : Str} {xs : List (Str × O)} : O.fr (.ins c xs) = .ins c (O.frf xs) := by simp only [O.fr]
@[simp] theorem frs_nil : O.frs [] = [] := by simp only [O.frs]
@[simp] theorem frs_cons {o : O} {os : List O} : O.frs (o :: os) = o.fr :: O.frs os := by simp only [O.frs]
@[simp] theorem frf_nil : O.frf [] = [] := by simp only [O.frf]
@[simp] theorem frf_cons {f : Str} {o : O} {os : List (Str × O)} : O.frf ((f, o) :: os) = (f, o.fr) :: O.frf os := by simp only [O.frf]
@[simp] theorem frk_nil : O.frk [] = [] := by simp only [O.frk]
@[simp] theorem frk_cons {f : D} {o : O} {os : List (D × O)} : O.frk ((f, o) :: os) = (f, o.fr) :: O.frk os := by simp only [O.frk]
@[simp] theorem allFz_nil : allFz [] = some [] := rfl
@[simp] theorem allFz_fz {d : D} {os : List O} : allFz (.fz d :: os) = (allFz os).map fun ds => d :: ds := rfl
@[simp] theorem putB_nil : putB [] [] env = some env := rfl
@[simp] theorem putB_none {o : O} {os : List O} : putB (none :: bk) (o :: os) env = putB bk os env := rfl
theorem putB_some {o : O} {os : List O} (h : env[i]? = some none) : putB (some i :: bk) (o :: os) env = putB bk os (env.set i (some o)) := by
  show (match env[i]? with | some none => _ | _ => none) = _
  rw [h]
@[simp] theorem putB_0 {o : O} {os : List O} {r : Env} : putB (some 0 :: bk) (o :: os) (none :: r) = putB bk os (some o :: r) := rfl
@[simp] theorem putB_1 {o : O} {os : List O} {r : Env} {a : Option O} : putB (some 1 :: bk) (o :: os) (a :: none :: r) = putB bk os (a :: some o :: r) := rfl
@[simp] theorem putB_2 {o : O} {os : List O} {r : Env} {a b : Option O} : putB (some 2 :: bk) (o :: os) (a :: b :: none :: r) = putB bk os (a :: b :: some o :: r) := rfl
@[simp] theorem outs_nil : outs [] [] env = some [] := rfl
@[simp] theorem outs_t {ms : List Bool} {x o : O} {os : List O} : outs (true :: ms) (x :: os) (some o :: env) = (outs ms os env).map fun r => o :: r := rfl
@[simp] theorem outs_f {ms : List Bool} {x : Option O} {d : D} {os : List O} : outs (false :: ms) (.fz d :: os) (x :: env) = (outs ms os env).map fun r => .fz d :: r := rfl
end
/-- a def: its body's end, its arguments behind -/
def endF (ms : List Bool) (os : List O) : Option (Fl × Env) → Option (Rz O × List O)
  | some (.rt o, env') => (outs ms os env').map fun r => (.ok o, r)
  | some (.nx, env') => (outs ms os env').map fun r => (.ok (.fz .non), r)
  | some (.ex c fs, env') => (outs ms os env').map fun r => (.ex c fs, r)
  | _ => none
theorem fnD_ap {ms : List Bool} {n : Nat} {m : SM} {os : List O} : fnD ms n m os = endF ms os (m (os.map some ++ List.replicate (n - os.length) none)) := by
  unfold fnD endF
  cases m (os.map some ++ List.replicate (n - os.length) none) with
  | none => rfl
  | some r => obtain ⟨fl, e⟩ := r; cases fl <;> rfl
@[simp] theorem endF_rt {ms : List Bool} {os : List O} {o : O} {e : Env} : endF ms os (some (.rt o, e)) = (outs ms os e).map fun r => (.ok o, r) := rfl
@[simp] theorem endF_nx {ms : List Bool} {os : List O} {e : Env} : endF ms os (some (.nx, e)) = (outs ms os e).map fun r => (.ok (.fz .non), r) := rfl
@[simp] theorem endF_ex {ms : List Bool} {os : List O} {c fs} {e : Env} : endF ms os (some (.ex c fs, e)) = (outs ms os e).map fun r => (.ex c fs, r) := rfl
def forK (g : D → Env → Option Env) (b : SM) : List D → Env → Option (Fl × Env) := fun xs e1 => forL g b xs e1
@[simp] theorem forS_ap {it : IM} {g : D → Env → Option Env} {b : SM} {env : Env} : forS it g b env = bindS (it env) (forK g b) := rfl
@[simp] theorem forK_ap {g : D → Env → Option Env} {b : SM} {xs : List D} {env : Env} : forK g b xs env = forL g b xs env := rfl
theorem forL_nx {g : D → Env → Option Env} {b : SM} {x : D} {r : List D} {env e1 e2 : Env} (h1 : g x env = some e1) (h2 : b e1 = some (.nx, e2)) : forL g b (x :: r) env = forL g b r e2 := by
  show (g x env).bind _ = _
  rw [h1, Option.bind_some, h2]
theorem forL_bk {g : D → Env → Option Env} {b : SM} {x : D} {r : List D} {env e1 e2 : Env} (h1 : g x env = some e1) (h2 : b e1 = some (.bk, e2)) : forL g b (x :: r) env = some (.nx, e2) := by
  show (g x env).bind _ = _
  rw [h1, Option.bind_some, h2]
theorem forL_inv {g : D → Env → Option Env} {b : SM} : ∀ {xs : List D} {P : Nat → Env → Prop} {env : Env}, (∀ i (hi : i < xs.length) e, P i e → ∃ e1 e2, g xs[i] e = some e1 ∧ b e1 = some (.nx, e2) ∧ P (i + 1) e2) → P 0 env → ∃ e', forL g b xs env = some (.nx, e') ∧ P xs.length e'
  | [], P, env, _, h0 => ⟨env, rfl, h0⟩
  | x :: r, P, env, h, h0 => by
    obtain ⟨e1, e2, h1, h2, h3⟩ := h 0 (Nat.zero_lt_succ _) env h0
    rw [forL_nx (show g x env = some e1 from h1) h2]
    exact forL_inv (xs := r) (P := fun i => P (i + 1)) (fun i hi e hp => h (i + 1) (Nat.succ_lt_succ hi) e hp) h3
@[simp] theorem iE_ap {m : EM} {env : Env} : iE m env = bindR (m env) fun o e1 => match o with | .fz d => (itemsD d).map fun xs => (.ok xs, e1) | _ => none := rfl
def r1K : O → Env → Option (Rz (List D) × Env) := fun o e1 => match o with
  | .fz (.int j) => if rngOk j then some (.ok ((List.range j.toNat).map fun i => .int (i : Nat)), e1) else none
  | _ => none
@[simp] theorem iR1_ap {m : EM} {env : Env} : iR1 m env = bindR (m env) r1K := rfl
@[simp] theorem r1K_ap {x : Int} {env : Env} : r1K (.fz (.int x)) env = if rngOk x then some (.ok ((List.range x.toNat).map fun i => .int (i : Nat)), env) else none := rfl
theorem rngOk_of {x : Int} (h1 : -1000000 ≤ x) (h2 : x ≤ 1000000) : rngOk x = true := by
  unfold rngOk
  rw [decide_eq_true (by omega), decide_eq_true (by omega)]
  rfl
@[simp] theorem gN_ap {i : Nat} {d : D} {env : Env} : gN i d env = if i < env.length then some (env.set i (some (.fz d))) else none := rfl
theorem fdivOk_k {i j : Int} (k : Nat) (h : 0 < j) (h2 : j.natAbs < 2 ^ k) (hk : k ≤ 9000) (h0 : 0 < k) : fdivOk i j = true := by
  unfold fdivOk
  rw [decide_eq_true h, Bool.true_and, decide_eq_true]
  exact Nat.lt_of_lt_of_le (log2_of h0 h2) hk
/-- running a loop by its fuel -/
theorem whS_f {c : TM} {b : SM} {env : Env} {r} (n : Nat) (h : whF c b n env = some r) : whS c b env = some r := whS_eq h
theorem whF_t {c : TM} {b : SM} {n : Nat} {env e1 e2 : Env} (h1 : c env = some (.ok true, e1)) (h2 : b e1 = some (.nx, e2)) : whF c b (n + 1) env = whF c b n e2 := by
  conv => lhs; unfold whF
  simp only [h1, h2]
theorem whF_f {c : TM} {b : SM} {n : Nat} {env e1 : Env} (h1 : c env = some (.ok false, e1)) : whF c b (n + 1) env = some (.nx, e1) := by
  unfold whF
  simp only [h1]
/-! making -/
def makR (bk : List (Option Nat)) (e1 : Env) : Option (Rz O × List O) → Option (Rz O × Env)
  | some (.ok (.fz .non), o' :: os') => (putB bk os' e1).map fun e2 => (.ok o', e2)
  | some (.ex c fs, _ :: os') => (putB bk os' e1).map fun e2 => (.ex c fs, e2)
  | _ => none
def makK (c : Str) (f : FN) (bk : List (Option Nat)) : List O → Env → Option (Rz O × Env) := fun os e1 => makR bk e1 (f (.ins c [] :: os))
@[simp] theorem eMake_ap {c : Str} {f : FN} {bk : List (Option Nat)} {am : AM} {env : Env} : eMake c f bk am env = bindR (am env) (makK c f bk) := by
  unfold eMake makK makR
  congr 1
@[simp] theorem makK_ap {c : Str} {f : FN} {bk : List (Option Nat)} {os : List O} {env : Env} : makK c f bk os env = makR bk env (f (.ins c [] :: os)) := rfl
@[simp] theorem makR_ok {bk : List (Option Nat)} {o : O} {os : List O} {env : Env} : makR bk env (some (.ok (.fz .non), o :: os)) = (putB bk os env).map fun e2 => (.ok o, e2) := rfl
@[simp] theorem makR_ex {bk : List (Option Nat)} {o : O} {os : List O} {env : Env} {c fs} : makR bk env (some (.ex c fs, o :: os)) = (putB bk os env).map fun e2 => (.ex c fs, e2) := rfl
/-! methods, own operators -/
section
variable {c m : Str} {f : FN} {bk : List (Option Nat)} {p q : EM} {am : AM} {env : Env} {o x y : O} {os : List O}
def methK2 (f : FN) (bk : List (Option Nat)) (o : O) : List O → Env → Option (Rz O × Env) := fun os e2 => putR bk e2 (f (o :: os))
def methK (c m : Str) (f : FN) (bk : List (Option Nat)) (q : AM) : O → Env → Option (Rz O × Env) := fun o e1 => if insOk c m o then bindR (q e1) (methK2 f bk o) else none
@[simp] theorem eMeth_ap : eMeth c m f bk p am env = bindR (p env) (methK c m f bk am) := by
  unfold eMeth methK methK2 putR
  congr 1
@[simp] theorem methK_ap : methK c m f bk am o env = if insOk c m o then bindR (am env) (methK2 f bk o) else none := rfl
@[simp] theorem methK2_ap : methK2 f bk o os env = putR bk env (f (o :: os)) := rfl
def ownR (e2 : Env) : Option (Rz O × List O) → Option (Rz O × Env)
  | some (.ok o, os') => (putB [none, none] os' e2).map fun e3 => (.ok o, e3)
  | _ => none
@[simp] theorem ownR_ok : ownR env (some (.ok o, os)) = (putB [none, none] os env).map fun e3 => (.ok o, e3) := rfl
def ownK2 (c : Str) (f : FN) (x : O) : O → Env → Option (Rz O × Env) := fun y e2 => if isIns c x && isIns c y then ownR e2 (f [x, y]) else none
def ownK (c : Str) (f : FN) (q : EM) : O → Env → Option (Rz O × Env) := fun x e1 => bindR (q e1) (ownK2 c f x)
@[simp] theorem eOwn_ap : eOwn c f p q env = bindR (p env) (ownK c f q) := by
  unfold eOwn ownK ownK2 ownR
  congr 1
@[simp] theorem ownK_ap : ownK c f q x env = bindR (q env) (ownK2 c f x) := rfl
@[simp] theorem ownK2_ap : ownK2 c f x y env = if isIns c x && isIns c y then ownR env (f [x, y]) else none := rfl
end
/-! texts -/
def st (x : Int) : Str := Str.ofString (toString x)
theorem gStr_int {x : Int} (h : x.natAbs.log2 < 1920) : gStr [.fz (.int x)] = some (.str (st x)) := by
  show (if x.natAbs.log2 < 1920 then some (D.str (st x)) else none) = _
  rw [if_pos h]
theorem fmtO_int {x : Int} (h : x.natAbs.log2 < 1920) : fmtO (.fz (.int x)) = some (st x) := by
  show (if x.natAbs.log2 < 1920 then some (st x) else none) = _
  rw [if_pos h]
theorem st_len {x : Int} {k : Nat} (h0 : 0 < k) (h : x.natAbs < 2 ^ k) : (st x).length ≤ k + 1 := by
  have h2 := int_text_length_le (k := k) h0 (log2_of h0 h)
  unfold st
  rw [ofString_length]
  omega
section
variable {env : Env} {m : EM} {ms : List EM} {acc z : Str} {o : O} {x y : Str}
def jmK (r : List EM) (acc : Str) : O → Env → Option (Rz O × Env) := fun o e1 => match o with
  | .fz (.str z) => if (acc ++ z).length ≤ sizeLine then jM r (acc ++ z) e1 else none
  | _ => none
@[simp] theorem jM_nil : jM [] acc env = some (.ok (.fz (.str acc)), env) := rfl
@[simp] theorem jM_cons : jM (m :: ms) acc env = bindR (m env) (jmK ms acc) := rfl
@[simp] theorem jmK_ap : jmK ms acc (.fz (.str z)) env = if (acc ++ z).length ≤ sizeLine then jM ms (acc ++ z) env else none := rfl
def fmtK : O → Env → Option (Rz O × Env) := fun o e1 => (fmtO o).map fun z => (.ok (.fz (.str z)), e1)
@[simp] theorem eFmt_ap : eFmt m env = bindR (m env) fmtK := rfl
@[simp] theorem fmtK_ap : fmtK o env = (fmtO o).map fun z => (.ok (.fz (.str z)), env) := rfl
@[simp] theorem gAdd_str : gAdd (.fz (.str x)) (.fz (.str y)) = if x.length + y.length ≤ 1000000 then some (.str (x ++ y)) else none := by
  show (Option.or none (Option.or (if x.length + y.length ≤ 1000000 then some (D.str (x ++ y)) else none) none)) = _
  split <;> rfl
end
/-! try -/
theorem tryS_ex {i : Nat} {cn : Str → Option Bool} {m : SM} {hm : XP → SM} {env e1 : Env} {c : Str} {fs : List (Str × D)} {r : Fl × Env} (h : m env = some (.ex c fs, e1)) (hc : cn c = some true) (hi : i < e1.length)
    (hh : ∀ a d, finS i (hm ⟨a, d, c⟩ (e1.set i (some (.fz (.exn ⟨a, d, c⟩ fs))))) = some r) : tryS i cn m hm env = some r := by
  unfold tryS
  rw [h]
  show (cn c).bind _ = _
  rw [hc, Option.bind_some, if_pos rfl, if_pos hi]
  exact hdl_eq hh
theorem tryS_no {i : Nat} {cn : Str → Option Bool} {m : SM} {hm : XP → SM} {env e1 : Env} (h : m env = some (.nx, e1)) : tryS i cn m hm env = some (.nx, e1) := by
  unfold tryS
  rw [h]
theorem tryS_rt {i : Nat} {cn : Str → Option Bool} {m : SM} {hm : XP → SM} {env e1 : Env} {o : O} (h : m env = some (.rt o, e1)) : tryS i cn m hm env = some (.rt o, e1) := by
  unfold tryS
  rw [h]
@[simp] theorem finS_rt {i : Nat} {o : O} {e : Env} : finS i (some (.rt o, e)) = some (.rt o, e.set i none) := rfl
@[simp] theorem finS_nx {i : Nat} {e : Env} : finS i (some (.nx, e)) = some (.nx, e.set i none) := rfl
theorem isx {tb : ITab} {cs : List Str} {x0 : XP} {fs : List (Str × D)} {y : D} : ((gIsi tb cs [.fz (.exn x0 fs), .fz y]).or (gIsx x0 tb [.fz (.exn x0 fs), .fz y])) = (clD y).bind fun u => (tb.lookup (.o x0.c, u)).map .bl := by
  show Option.or none _ = _
  simp [gIsx]
/-! comprehensions -/
def compK (g : D → Env → Option Env) (t : TM) (m : EM) (vs : List Nat) : List D → Env → Option (Rz O × Env) := fun xs e1 => (compL g t m vs xs (wipeE e1 vs) []).bind fun r => (restE e1 r.2 vs).map fun e3 => (.ok (.lst (r.1.map .fz)), e3)
theorem compE_ap {it : IM} {g : D → Env → Option Env} {t : TM} {m : EM} {vs : List Nat} {env : Env} : compE it g t m vs env = bindR (it env) (compK g t m vs) := rfl
theorem compL_inv {g : D → Env → Option Env} {t : TM} {m : EM} {vs : List Nat} : ∀ {xs : List D} {P : Nat → Env → List D → Prop} {env : Env} {acc : List D},
    (∀ i (hi : i < xs.length) e acc, P i e acc → ∃ e1 e2 o e3, g xs[i] e = some e1 ∧ t e1 = some (.ok true, e2) ∧ m e2 = some (.ok o, e3) ∧ acc.length < sizeLine ∧ P (i + 1) (wipeE e3 vs) (acc ++ [o.fr])) → P 0 env acc →
    ∃ acc' e', compL g t m vs xs env acc = some (acc', e') ∧ P xs.length e' acc'
  | [], P, env, acc, _, h0 => ⟨acc, env, rfl, h0⟩
  | x :: r, P, env, acc, h, h0 => by
    obtain ⟨e1, e2, o, e3, h1, h2, h3, h4, h5⟩ := h 0 (Nat.zero_lt_succ _) env acc h0
    have e : compL g t m vs (x :: r) env acc = compL g t m vs r (wipeE e3 vs) (acc ++ [o.fr]) := by
      have h1 : g x env = some e1 := h1
      conv => lhs; unfold compL
      simp only [h1, Option.bind_some, h2, h3, h4, if_true]
    rw [e]
    exact compL_inv (xs := r) (P := fun i => P (i + 1)) (fun i hi e acc hp => h (i + 1) (Nat.succ_lt_succ hi) e acc hp) h5
/-! the tape of a law's script -/
structure Tp where
  cells : List Int
  at_ : Nat
  great : Int
  left : Int
  seed : Int
  turn : Int
def Tp.o (t : Tp) : O := .dic 0 [(.str "cells", .lst ((t.cells.map D.int).map .fz)), (.str "at", .fz (.int t.at_)), (.str "great", .fz (.int t.great)), (.str "left", .fz (.int t.left)), (.str "seed", .fz (.int t.seed)), (.str "turn", .fz (.int t.turn))]
section
variable (t : Tp) (n : Int) (k : Nat)
@[simp] theorem Tp.i_cells : ixO t.o (.fz (.str "cells")) = some (.lst ((t.cells.map D.int).map .fz)) := rfl
@[simp] theorem Tp.i_at : ixO t.o (.fz (.str "at")) = some (.fz (.int t.at_)) := rfl
@[simp] theorem Tp.i_great : ixO t.o (.fz (.str "great")) = some (.fz (.int t.great)) := rfl
@[simp] theorem Tp.i_left : ixO t.o (.fz (.str "left")) = some (.fz (.int t.left)) := rfl
@[simp] theorem Tp.i_seed : ixO t.o (.fz (.str "seed")) = some (.fz (.int t.seed)) := rfl
@[simp] theorem Tp.i_turn : ixO t.o (.fz (.str "turn")) = some (.fz (.int t.turn)) := rfl
@[simp] theorem Tp.s_at : setO t.o (.fz (.str "at")) (.fz (.int (t.at_ + 1))) = some (Tp.o { t with at_ := t.at_ + 1 }) := rfl
@[simp] theorem Tp.s_great : setO t.o (.fz (.str "great")) (.fz (.int n)) = some (Tp.o { t with great := n }) := rfl
@[simp] theorem Tp.s_left : setO t.o (.fz (.str "left")) (.fz (.int n)) = some (Tp.o { t with left := n }) := rfl
@[simp] theorem Tp.s_seed : setO t.o (.fz (.str "seed")) (.fz (.int n)) = some (Tp.o { t with seed := n }) := rfl
@[simp] theorem Tp.s_turn : setO t.o (.fz (.str "turn")) (.fz (.int n)) = some (Tp.o { t with turn := n }) := rfl
end
theorem frs_fz : ∀ ds : List D, O.frs (ds.map .fz) = ds
  | [] => rfl
  | d :: r => by show d :: O.frs (r.map .fz) = _; rw [frs_fz r]
theorem atI_nat {α : Type} {xs : List α} {j : Nat} (h : j < xs.length) : atI xs (j : Int) = some xs[j] := by
  unfold atI ixN
  simp [h]
@[simp] theorem atI_0 {α : Type} {x : α} {r : List α} : L2.atI (x :: r) 0 = some x := by
  unfold L2.atI L2.ixN
  simp
@[simp] theorem atI_1 {α : Type} {x y : α} {r : List α} : L2.atI (x :: y :: r) 1 = some y := by
  have h := atI_nat (xs := x :: y :: r) (j := 1) (by simp)
  exact h
theorem atI_map {α β : Type} {f : α → β} {xs : List α} {j : Nat} (h : j < xs.length) : L2.atI (xs.map f) (j : Int) = some (f xs[j]) := by
  rw [atI_nat (by simpa using h), List.getElem_map]
end Dv

-- L_k44
set_option maxHeartbeats 0
namespace Dv
/-! ### the text -/
open PySem PySem.Spec L2
def top (i : Nat) : Stmt := PySem.Challenge.pw_rankedjoins_k44_shares.main.body.getD i (.Pass ⟨0, 0, 0, 0⟩)
def d_law_tape : He.DefD := ⟨("_law_tape", none), "_law_tape", "_law_tape", defArgs (top 9), defBody (top 9), defScope (top 9), [], []⟩
def d_common_divisor : He.DefD := ⟨("common_divisor", none), "common_divisor", "common_divisor", defArgs (top 5), defBody (top 5), defScope (top 5), [], []⟩
def d_InvalidNumber_init : He.DefD := ⟨("InvalidNumber", some "__init__"), "__init__", "InvalidNumber.__init__", defArgs (inClass (top 2) 0), defBody (inClass (top 2) 0), defScope (inClass (top 2) 0), [], []⟩
def d_Share_init : He.DefD := ⟨("Share", some "__init__"), "__init__", "Share.__init__", defArgs (inClass (top 6) 0), defBody (inClass (top 6) 0), defScope (inClass (top 6) 0), [], []⟩
def d_law_refused : He.DefD := ⟨("_law_refused", none), "_law_refused", "_law_refused", defArgs (top 19), defBody (top 19), defScope (top 19), [], []⟩
def d_law_mixed : He.DefD := ⟨("_law_mixed", none), "_law_mixed", "_law_mixed", defArgs (top 8), defBody (top 8), defScope (top 8), [], []⟩
def d_law_draw : He.DefD := ⟨("_law_draw", none), "_law_draw", "_law_draw", defArgs (top 10), defBody (top 10), defScope (top 10), [], []⟩
def d_law_pick : He.DefD := ⟨("_law_pick", none), "_law_pick", "_law_pick", defArgs (top 11), defBody (top 11), defScope (top 11), [], []⟩
def d_law_integer : He.DefD := ⟨("_law_integer", none), "_law_integer", "_law_integer", defArgs (top 16), defBody (top 16), defScope (top 16), [], []⟩
def d_law_pair : He.DefD := ⟨("_law_pair", none), "_law_pair", "_law_pair", defArgs (top 17), defBody (top 17), defScope (top 17), [], []⟩
def d_law_share : He.DefD := ⟨("_law_share", none), "_law_share", "_law_share", defArgs (top 12), defBody (top 12), defScope (top 12), [], []⟩
def d_Share_is_below : He.DefD := ⟨("Share", some "is_below"), "is_below", "Share.is_below", defArgs (inClass (top 6) 5), defBody (inClass (top 6) 5), defScope (inClass (top 6) 5), [], []⟩
def d_Share_written : He.DefD := ⟨("Share", some "written"), "written", "Share.written", defArgs (inClass (top 6) 6), defBody (inClass (top 6) 6), defScope (inClass (top 6) 6), [], []⟩
def d_law_is_share : He.DefD := ⟨("_law_is_share", none), "_law_is_share", "_law_is_share", defArgs (top 15), defBody (top 15), defScope (top 15), [], []⟩
def d_law_written : He.DefD := ⟨("_law_written", none), "_law_written", "_law_written", defArgs (top 18), defBody (top 18), defScope (top 18), [], []⟩
def d_law_one_right : He.DefD := ⟨("_law_one_right", none), "_law_one_right", "_law_one_right", defArgs (top 20), defBody (top 20), defScope (top 20), [], []⟩
def d_law_times : He.DefD := ⟨("_law_times", none), "_law_times", "_law_times", defArgs (top 14), defBody (top 14), defScope (top 14), [], []⟩
def d_law_added : He.DefD := ⟨("_law_added", none), "_law_added", "_law_added", defArgs (top 13), defBody (top 13), defScope (top 13), [], []⟩
def d_Share_add : He.DefD := ⟨("Share", some "__add__"), "__add__", "Share.__add__", defArgs (inClass (top 6) 1), defBody (inClass (top 6) 1), defScope (inClass (top 6) 1), [], []⟩
def d_Share_sub : He.DefD := ⟨("Share", some "__sub__"), "__sub__", "Share.__sub__", defArgs (inClass (top 6) 2), defBody (inClass (top 6) 2), defScope (inClass (top 6) 2), [], []⟩
def d_Share_mul : He.DefD := ⟨("Share", some "__mul__"), "__mul__", "Share.__mul__", defArgs (inClass (top 6) 3), defBody (inClass (top 6) 3), defScope (inClass (top 6) 3), [], []⟩
def d_Share_eq : He.DefD := ⟨("Share", some "__eq__"), "__eq__", "Share.__eq__", defArgs (inClass (top 6) 4), defBody (inClass (top 6) 4), defScope (inClass (top 6) 4), [], []⟩
def d_law_two_right : He.DefD := ⟨("_law_two_right", none), "_law_two_right", "_law_two_right", defArgs (top 21), defBody (top 21), defScope (top 21), [], []⟩
def d_law : He.DefD := ⟨("law", none), "law", "law", defArgs (top 22), defBody (top 22), defScope (top 22), [], []⟩
def fn : List He.DefD := [d_law_tape, d_common_divisor, d_InvalidNumber_init, d_Share_init, d_law_refused, d_law_mixed, d_law_draw, d_law_pick, d_law_integer, d_law_pair, d_law_share, d_Share_is_below, d_Share_written, d_law_is_share, d_law_written, d_law_one_right, d_law_times, d_law_added, d_Share_add, d_Share_sub, d_Share_mul, d_Share_eq, d_law_two_right, d_law]
def itab : ITab := [((.b "NoneType", .o "InvalidNumber"), false), ((.b "NoneType", .o "NotCut"), false), ((.b "NoneType", .o "Share"), false), ((.b "NoneType", .b "ValueError"), false), ((.b "NoneType", .b "bool"), false), ((.b "NoneType", .b "int"), false), ((.b "NoneType", .b "str"), false), ((.b "bool", .o "InvalidNumber"), false), ((.b "bool", .o "NotCut"), false), ((.b "bool", .o "Share"), false), ((.b "bool", .b "ValueError"), false), ((.b "bool", .b "bool"), true), ((.b "bool", .b "int"), true), ((.b "bool", .b "str"), false), ((.b "int", .o "InvalidNumber"), false), ((.b "int", .o "NotCut"), false), ((.b "int", .o "Share"), false), ((.b "int", .b "ValueError"), false), ((.b "int", .b "bool"), false), ((.b "int", .b "int"), true), ((.b "int", .b "str"), false), ((.b "str", .o "InvalidNumber"), false), ((.b "str", .o "NotCut"), false), ((.b "str", .o "Share"), false), ((.b "str", .b "ValueError"), false), ((.b "str", .b "bool"), false), ((.b "str", .b "int"), false), ((.b "str", .b "str"), true), ((.b "list", .o "InvalidNumber"), false), ((.b "list", .o "NotCut"), false), ((.b "list", .o "Share"), false), ((.b "list", .b "ValueError"), false), ((.b "list", .b "bool"), false), ((.b "list", .b "int"), false), ((.b "list", .b "str"), false), ((.b "tuple", .o "InvalidNumber"), false), ((.b "tuple", .o "NotCut"), false), ((.b "tuple", .o "Share"), false), ((.b "tuple", .b "ValueError"), false), ((.b "tuple", .b "bool"), false), ((.b "tuple", .b "int"), false), ((.b "tuple", .b "str"), false), ((.b "dict", .o "InvalidNumber"), false), ((.b "dict", .o "NotCut"), false), ((.b "dict", .o "Share"), false), ((.b "dict", .b "ValueError"), false), ((.b "dict", .b "bool"), false), ((.b "dict", .b "int"), false), ((.b "dict", .b "str"), false), ((.o "Share", .o "InvalidNumber"), false), ((.o "Share", .o "NotCut"), false), ((.o "Share", .o "Share"), true), ((.o "Share", .b "ValueError"), false), ((.o "Share", .b "bool"), false), ((.o "Share", .b "int"), false), ((.o "Share", .b "str"), false), ((.o "JoinError", .o "InvalidNumber"), false), ((.o "JoinError", .o "NotCut"), false), ((.o "JoinError", .o "Share"), false), ((.o "JoinError", .b "ValueError"), true), ((.o "JoinError", .b "bool"), false), ((.o "JoinError", .b "int"), false), ((.o "JoinError", .b "str"), false), ((.o "InvalidNumber", .o "InvalidNumber"), true), ((.o "InvalidNumber", .o "NotCut"), false), ((.o "InvalidNumber", .o "Share"), false), ((.o "InvalidNumber", .b "ValueError"), true), ((.o "InvalidNumber", .b "bool"), false), ((.o "InvalidNumber", .b "int"), false), ((.o "InvalidNumber", .b "str"), false), ((.o "NotCut", .o "InvalidNumber"), false), ((.o "NotCut", .o "NotCut"), true), ((.o "NotCut", .o "Share"), false), ((.o "NotCut", .b "ValueError"), true), ((.o "NotCut", .b "bool"), false), ((.o "NotCut", .b "int"), false), ((.o "NotCut", .b "str"), false)]
def icls : List Str := ["Share"]
def xcls : List Str := ["JoinError", "InvalidNumber", "NotCut"]
def nft_Share : List Tc := [.b "NoneType", .b "bool", .b "int", .b "str", .b "list", .b "tuple", .b "dict", .o "Share"]
def xt_JoinError : List (Str × Bool) := [("JoinError", true), ("InvalidNumber", true), ("NotCut", true)]
def fa : List He.Fa := [.glo "law", .free "list", .cls "Share", .noat "Share" "under", .noat "Share" "over", .free "abs", .glo "common_divisor", .glo "InvalidNumber", .mkr "Share", .glo "Share", .free "bool", .free "isinstance", .free "int", .glo "NotCut", .free "ValueError", .glo "JoinError", .glo "_law_mixed", .free "len", .glo "_law_draw", .free "range", .glo "_law_pick", .glo "_law_integer", .free "str", .glo "_law_written", .glo "_law_is_share", .meth "Share" "written", .glo "_law_share", .meth "Share" "is_below", .glo "_law_times", .glo "_law_one_right", .glo "_law_added", .glo "_law_refused", .glo "_law_two_right", .glo "_law_pair", .glo "_law_tape"]
def exl : List (Fg → Bool) := [noatB "InvalidNumber" "number", fun K => oexB K (He.ga K "InvalidNumber"), initB "InvalidNumber", fun K => xcB K (He.ga K "InvalidNumber"), exmB "JoinError" xt_JoinError, mthB "Share" "__eq__", nfB "Share" nft_Share, mthB "Share" "__mul__", fun K => PySem.W.selfFirst K (He.ga K "Share"), mthB "Share" "__sub__", mthB "Share" "__add__", isB itab, fun K => insB K (He.ga K "Share"), fun K => xcB K (He.ga K "JoinError"), fun K => xcB K (He.ga K "NotCut")]
section
variable {P : Program} {w : World} {K : Fg} {mg : Str → Option Value} {base : Heap}
theorem insok (fx : FX fa fn exl K mg) : ∀ c ∈ icls, InsK K (He.ga K c) := fun c m => (List.mem_cons.mp m).elim (fun e => e ▸ insB_ok (He.cls_ok (fx.fact 2)) (fx.ex 12)) (fun m => (List.not_mem_nil m).elim)
theorem isok (fx : FX fa fn exl K mg) : IsOk K itab icls := isB_ok (fx.ex 11) (insok fx)
theorem xck (fx : FX fa fn exl K mg) (c : Str) (h : xcls.contains c = true) : XcK K (He.ga K c) := by
  have m : c ∈ xcls := by simpa using h
  exact (List.mem_cons.mp m).elim (fun e => e ▸ xcB_ok (fx.ex 13)) (fun m => (List.mem_cons.mp m).elim (fun e => e ▸ xcB_ok (fx.ex 3)) (fun m => (List.mem_cons.mp m).elim (fun e => e ▸ xcB_ok (fx.ex 14)) (fun m => (List.not_mem_nil m).elim)))
/-! ### what the defs compute -/
noncomputable def m_law_tape : SM := (retS (eDic ["cells", "at", "great", "left", "seed", "turn"] (aCons (eList (eN 0)) (aCons (eP (pC (.int 0))) (aCons (eP (pC (.int 0))) (aCons (eP (pC (.int 0))) (aCons (eP (pC (.int 7))) (aCons (eP (pC (.int 0))) aNil))))))))
noncomputable def f_law_tape : FN := fnD [false] 1 m_law_tape
noncomputable def m_common_divisor_b1 : SM := (parS 0 1 (eN 1) (eP (pOp gMod (pN 0) (pN 1))))
noncomputable def m_common_divisor : SM := (seqS (whS (tE (eOp gGt (eN 1) (eP (pC (.int 0)))))
  m_common_divisor_b1)
  (retS (eMv 0)))
noncomputable def f_common_divisor : FN := fnD [false, false] 2 m_common_divisor
noncomputable def m_Share_init_b1 : SM := (raiS "InvalidNumber" ["number"] (aCons (eN 2) aNil))
noncomputable def m_Share_init : SM := (seqS (ifS (tE (eOp gEq (eN 2) (eP (pC (.int 0)))))
  m_Share_init_b1
  nilS)
  (seqS (setS 3 (eIf (tE (eOp gGt (eN 2) (eP (pC (.int 0))))) (eP (pC (.int 1))) (eP (pUn gNeg (pC (.int 1))))))
  (seqS (setS 4 (eCall f_common_divisor [none, none] (aCons (eP (pCa gAbs (qCons (pN 1) qNil))) (aCons (eP (pCa gAbs (qCons (pN 2) qNil))) aNil))))
  (seqS (fldS (lN 0) ["Share"] "over" (eP (pOp gDiv (pOp gMul (pN 3) (pN 1)) (pN 4))))
  (fldS (lN 0) ["Share"] "under" (eP (pOp gDiv (pOp gMul (pN 3) (pN 2)) (pN 4))))))))
noncomputable def f_Share_init : FN := fnD [true, false, false] 5 m_Share_init
noncomputable def m_law_refused_b1 : SM := (exprS (eMake "Share" f_Share_init [none, none] (aCons (eN 0) (aCons (eP (pC (.int 0))) aNil))))
noncomputable def m_law_refused_h1 (x0 : XP) : SM := (seqS (ifS (tOr' (tNot' (tE (eP (pCa (fun xs => (gIsi itab icls xs).or (gIsx x0 itab xs)) (qCons (pN 1) (qCons (pC (.glo "InvalidNumber")) qNil)))))) (tOr' (tNot' (tE (eP (pCa (fun xs => (gIsi itab icls xs).or (gIsx x0 itab xs)) (qCons (pN 1) (qCons (pC (.ty "ValueError")) qNil)))))) (tE (eP (pCa (fun xs => (gIsi itab icls xs).or (gIsx x0 itab xs)) (qCons (pN 1) (qCons (pC (.glo "NotCut")) qNil)))))))
  (retS (eP (pC (.bl false))))
  nilS)
  (retS (eAnd (eP (pCa (fun xs => (gIsi itab icls xs).or (gIsx x0 itab xs)) (qCons (pXf x0 ["InvalidNumber"] "number" (pN 1)) (qCons (pC (.ty "int")) qNil)))) (eAnd (eNot (eP (pCa (fun xs => (gIsi itab icls xs).or (gIsx x0 itab xs)) (qCons (pXf x0 ["InvalidNumber"] "number" (pN 1)) (qCons (pC (.ty "bool")) qNil))))) (eP (pOp gEq (pXf x0 ["InvalidNumber"] "number" (pN 1)) (pC (.int 0))))))))
noncomputable def m_law_refused : SM := (seqS (tryS 1 (fun c => xt_JoinError.lookup c) m_law_refused_b1
  (fun x0 => hcond (xcls.contains x0.c) (m_law_refused_h1 x0)))
  (retS (eP (pC (.bl false)))))
noncomputable def f_law_refused : FN := fnD [false] 2 m_law_refused
noncomputable def m_law_mixed : SM := (seqS (setS 2 (eP (pOp gMod (pCa gInt (qCons (pOp gAdd (pOp gAdd (pOp gMul (pN 0) (pC (.int 48271))) (pOp gMul (pN 1) (pC (.int 69621)))) (pC (.int 11))) qNil)) (pC (.int 2147483647)))))
  (seqS (setS 3 (eP (pOp gMod (pCa gInt (qCons (pOp gAdd (pOp gAdd (pOp gMul (pN 2) (pC (.int 16807))) (pOp gDiv (pN 2) (pC (.int 127773)))) (pOp gMul (pN 1) (pC (.int 271)))) qNil)) (pC (.int 1000003)))))
  (retS (eP (pOp gMod (pCa gInt (qCons (pOp gAdd (pOp gMul (pN 3) (pN 3)) (pOp gDiv (pN 2) (pC (.int 1009)))) qNil)) (pC (.int 999983)))))))
noncomputable def f_law_mixed : FN := fnD [false, false] 4 m_law_mixed
noncomputable def m_law_draw_b1 : SM := (seqS (putS (lN 0) (pC (.str "great")) (eP (pC (.int 0))))
  (putS (lN 0) (pC (.str "left")) (eP (pC (.int 0)))))
noncomputable def m_law_draw_b2 : SM := (retS (eOp gMod (eCa gInt (aCons (eFz (eCall f_law_mixed [none, none] (aCons (eP (pIx (pN 0) (pC (.str "seed")))) (aCons (eP (pIx (pN 0) (pC (.str "turn")))) aNil)))) aNil)) (eN 1)))
noncomputable def m_law_draw_b3 : SM := (putS (lN 0) (pC (.str "left")) (eP (pOp gSub (pIx (pN 0) (pC (.str "left"))) (pC (.int 1)))))
noncomputable def m_law_draw_b5 : SM := (seqS (putS (lN 0) (pC (.str "great")) (eN 2))
  (putS (lN 0) (pC (.str "left")) (eP (pC (.int 60)))))
noncomputable def m_law_draw_b4 : SM := (seqS (setS 2 (eP (pIx (pIx (pN 0) (pC (.str "cells"))) (pIx (pN 0) (pC (.str "at"))))))
  (seqS (putS (lN 0) (pC (.str "at")) (eP (pOp gAdd (pIx (pN 0) (pC (.str "at"))) (pC (.int 1)))))
  (seqS (putS (lN 0) (pC (.str "seed")) (eCall f_law_mixed [none, none] (aCons (eP (pOp gAdd (pIx (pN 0) (pC (.str "seed"))) (pN 2))) (aCons (eP (pIx (pN 0) (pC (.str "at")))) aNil))))
  (seqS (putS (lN 0) (pC (.str "left")) (eP (pC (.int 4))))
  (ifS (tE (eOp gGe (eN 2) (eP (pOp gPow (pC (.int 10)) (pC (.int 18))))))
  m_law_draw_b5
  nilS)))))
noncomputable def m_law_draw : SM := (seqS (putS (lN 0) (pC (.str "turn")) (eP (pOp gAdd (pIx (pN 0) (pC (.str "turn"))) (pC (.int 1)))))
  (seqS (ifS (tAnd' (tE (eOp gEq (eP (pIx (pN 0) (pC (.str "left")))) (eP (pC (.int 0))))) (tE (eOp gLt (eP (pIx (pN 0) (pC (.str "at")))) (eP (pCa gLen (qCons (pIx (pN 0) (pC (.str "cells"))) qNil))))))
  m_law_draw_b4
  nilS)
  (seqS (ifS (tE (eOp gGt (eP (pIx (pN 0) (pC (.str "left")))) (eP (pC (.int 0)))))
  m_law_draw_b3
  nilS)
  (seqS (ifS (tE (eOp gEq (eP (pIx (pN 0) (pC (.str "great")))) (eP (pC (.int 0)))))
  m_law_draw_b2
  nilS)
  (seqS (setS 3 (eP (pOp gMod (pCa gInt (qCons (pIx (pN 0) (pC (.str "great"))) qNil)) (pC (.int 1009)))))
  (seqS (putS (lN 0) (pC (.str "great")) (eP (pOp gDiv (pIx (pN 0) (pC (.str "great"))) (pC (.int 1009)))))
  (seqS (ifS (tOr' (tE (eOp gEq (eP (pIx (pN 0) (pC (.str "great")))) (eP (pC (.int 0))))) (tE (eOp gEq (eP (pIx (pN 0) (pC (.str "left")))) (eP (pC (.int 0))))))
  m_law_draw_b1
  nilS)
  (retS (eP (pOp gMod (pCa gInt (qCons (pN 3) qNil)) (pN 1)))))))))))
noncomputable def f_law_draw : FN := fnD [true, false] 4 m_law_draw
noncomputable def m_law_pick : SM := (retS (fun env => match (env[1]?).join with | some _ => eIxN 1 (eCall f_law_draw [some 0, none] (aRef 0 (aCons (eP (pCa gLen (qCons (pN 1) qNil))) aNil))) env | none => none))
noncomputable def f_law_pick : FN := fnD [true, false] 2 m_law_pick
noncomputable def m_law_integer_b1 : SM := (setS 2 (eOp gAdd (eOp gMul (eN 2) (eCall f_law_pick [some 0, none] (aRef 0 (aCons (eFz (eLst (aCons (eOp gAdd (eP (pC (.int 1))) (eCall f_law_draw [some 0, none] (aRef 0 (aCons (eP (pC (.int 1000))) aNil)))) (aCons (eP (pC (.int 1009))) aNil)))) aNil)))) (eCall f_law_draw [some 0, none] (aRef 0 (aCons (eP (pC (.int 1009))) aNil)))))
noncomputable def m_law_integer_b2 : SM := (retS (eCall f_law_pick [some 0, none] (aRef 0 (aCons (eFz (eLst (aCons (eP (pC (.int 0))) (aCons (eP (pC (.int 1))) (aCons (eP (pUn gNeg (pC (.int 1)))) (aCons (eP (pC (.int 2))) (aCons (eP (pC (.int 6))) (aCons (eP (pUn gNeg (pC (.int 12)))) (aCons (eP (pC (.int 360))) (aCons (eOp gSub (eCall f_law_draw [some 0, none] (aRef 0 (aCons (eP (pC (.int 1000))) aNil))) (eP (pC (.int 500)))) aNil)))))))))) aNil))))
noncomputable def m_law_integer_b3 : SM := (retS (eOp gSub (eCall f_law_draw [some 0, none] (aRef 0 (aCons (eP (pC (.int 13))) aNil))) (eP (pC (.int 6)))))
noncomputable def m_law_integer : SM := (seqS (ifS (tE (eOp gEq (eN 1) (eP (pC (.int 0)))))
  m_law_integer_b3
  nilS)
  (seqS (ifS (tE (eOp gEq (eN 1) (eP (pC (.int 1)))))
  m_law_integer_b2
  nilS)
  (seqS (setS 2 (eP (pC (.int 1))))
  (seqS (forS (iR1 (eOp gAdd (eP (pC (.int 1))) (eCall f_law_draw [some 0, none] (aRef 0 (aCons (eP (pC (.int 10))) aNil))))) (gN 3)
  m_law_integer_b1)
  (retS (eOp gMul (eN 2) (eOp gSub (eP (pC (.int 1))) (eOp gMul (eP (pC (.int 2))) (eCall f_law_draw [some 0, none] (aRef 0 (aCons (eP (pC (.int 2))) aNil)))))))))))
noncomputable def f_law_integer : FN := fnD [true, false] 4 m_law_integer
noncomputable def m_law_pair_b1 : SM := (setS 3 (eOp gAdd (eP (pC (.int 1))) (eCall f_law_draw [some 0, none] (aRef 0 (aCons (eP (pC (.int 1000))) aNil)))))
noncomputable def m_law_pair : SM := (seqS (setS 1 (eCall f_law_draw [some 0, none] (aRef 0 (aCons (eP (pC (.int 3))) aNil))))
  (seqS (setS 2 (eCall f_law_integer [some 0, none] (aRef 0 (aCons (eN 1) aNil))))
  (seqS (setS 3 (eCall f_law_integer [some 0, none] (aRef 0 (aCons (eFz (eCall f_law_pick [some 0, none] (aRef 0 (aCons (eFz (eLst (aCons (eN 1) (aCons (eN 1) (aCons (eP (pC (.int 0))) aNil))))) aNil)))) aNil))))
  (seqS (ifS (tE (eOp gEq (eN 3) (eP (pC (.int 0)))))
  m_law_pair_b1
  nilS)
  (seqS (setS 4 (eCall f_law_pick [some 0, none] (aRef 0 (aCons (eFz (eLst (aCons (eP (pC (.int 1))) (aCons (eP (pC (.int 1))) (aCons (eP (pUn gNeg (pC (.int 1)))) (aCons (eP (pC (.int 2))) (aCons (eP (pC (.int 12))) (aCons (eOp gSub (eP (pOp gSub (pC (.int 0)) (pC (.int 1)))) (eCall f_law_draw [some 0, none] (aRef 0 (aCons (eP (pC (.int 100))) aNil)))) aNil)))))))) aNil))))
  (retS (eP (pTup (qCons (pOp gMul (pN 2) (pN 4)) (qCons (pOp gMul (pN 3) (pN 4)) qNil))))))))))
noncomputable def f_law_pair : FN := fnD [true] 5 m_law_pair
noncomputable def m_law_share_b2 : SM := (brkS)
noncomputable def m_law_share_b1 : SM := (seqS (ifS (tE (eOp gEq (eN 2) (eP (pC (.int 0)))))
  m_law_share_b2
  nilS)
  (seqS (setS 5 (eP (pOp gMod (pCa gInt (qCons (pN 3) qNil)) (pN 2))))
  (seqS (setS 3 (eN 2))
  (setS 2 (eN 5)))))
noncomputable def m_law_share_b3 : SM := (seqS (setS 0 (eP (pOp gSub (pC (.int 0)) (pN 0))))
  (setS 1 (eP (pOp gSub (pC (.int 0)) (pN 1)))))
noncomputable def m_law_share : SM := (seqS (ifS (tE (eOp gLt (eN 1) (eP (pC (.int 0)))))
  m_law_share_b3
  nilS)
  (seqS (setS 2 (eP (pCa gAbs (qCons (pN 0) qNil))))
  (seqS (setS 3 (eN 1))
  (seqS (forS (iR1 (eP (pC (.int 4000)))) (gN 4)
  m_law_share_b1)
  (retS (eP (pTup (qCons (pOp gDiv (pN 0) (pN 3)) (qCons (pOp gDiv (pN 1) (pN 3)) qNil)))))))))
noncomputable def f_law_share : FN := fnD [false, false] 6 m_law_share
noncomputable def m_Share_is_below : SM := (retS (eP (pOp gLt (pOp gMul (pFld ["Share"] "over" (pN 0)) (pFld ["Share"] "under" (pN 1))) (pOp gMul (pFld ["Share"] "over" (pN 1)) (pFld ["Share"] "under" (pN 0))))))
noncomputable def f_Share_is_below : FN := fnD [false, false] 2 m_Share_is_below
noncomputable def m_Share_written_b1 : SM := (retS (eP (pCa gStr (qCons (pFld ["Share"] "over" (pN 0)) qNil))))
noncomputable def m_Share_written : SM := (seqS (ifS (tE (eOp gEq (eP (pFld ["Share"] "under" (pN 0))) (eP (pC (.int 1)))))
  m_Share_written_b1
  nilS)
  (retS (jM [eFmt (eP (pFld ["Share"] "over" (pN 0))), eP (pC (.str "/")), eFmt (eP (pFld ["Share"] "under" (pN 0)))] Str.empty)))
noncomputable def f_Share_written : FN := fnD [false] 1 m_Share_written
noncomputable def m_law_is_share_b2 : SM := (retS (eP (pC (.bl false))))
noncomputable def m_law_is_share_b1 : SM := (ifS (tOr' (tNot' (tE (eP (pCa (gIsi itab icls) (qCons (pN 2) (qCons (pC (.ty "int")) qNil)))))) (tE (eP (pCa (gIsi itab icls) (qCons (pN 2) (qCons (pC (.ty "bool")) qNil))))))
  m_law_is_share_b2
  nilS)
noncomputable def m_law_is_share : SM := (seqS (forS (iE (eP (pTup (qCons (pFld ["Share"] "over" (pN 0)) (qCons (pFld ["Share"] "under" (pN 0)) qNil))))) (gN 2)
  m_law_is_share_b1)
  (retS (eP (pOp gEq (pTup (qCons (pFld ["Share"] "over" (pN 0)) (qCons (pFld ["Share"] "under" (pN 0)) qNil))) (pN 1)))))
noncomputable def f_law_is_share : FN := fnD [false, false] 3 m_law_is_share
noncomputable def m_law_written_b1 : SM := (retS (eP (pCa gStr (qCons (pIx (pN 0) (pC (.int 0))) qNil))))
noncomputable def m_law_written : SM := (seqS (ifS (tE (eOp gEq (eP (pIx (pN 0) (pC (.int 1)))) (eP (pC (.int 1)))))
  m_law_written_b1
  nilS)
  (retS (eP (pOp gAdd (pOp gAdd (pCa gStr (qCons (pIx (pN 0) (pC (.int 0))) qNil)) (pC (.str "/"))) (pCa gStr (qCons (pIx (pN 0) (pC (.int 1))) qNil))))))
noncomputable def f_law_written : FN := fnD [false] 1 m_law_written
noncomputable def m_law_one_right : SM := (seqS (setS 2 (eMeth "Share" "written" f_Share_written (none :: []) (eN 0) aNil))
  (retS (eAnd (eCall f_law_is_share [none, none] (aCons (eN 0) (aCons (eN 1) aNil))) (eAnd (eP (pCa (gIsi itab icls) (qCons (pN 2) (qCons (pC (.ty "str")) qNil)))) (eOp gEq (eN 2) (eCall f_law_written [none] (aCons (eN 1) aNil)))))))
noncomputable def f_law_one_right : FN := fnD [false, false] 3 m_law_one_right
noncomputable def m_law_times : SM := (retS (eCall f_law_share [none, none] (aCons (eP (pOp gMul (pIx (pN 0) (pC (.int 0))) (pIx (pN 1) (pC (.int 0))))) (aCons (eP (pOp gMul (pIx (pN 0) (pC (.int 1))) (pIx (pN 1) (pC (.int 1))))) aNil))))
noncomputable def f_law_times : FN := fnD [false, false] 2 m_law_times
noncomputable def m_law_added : SM := (retS (eCall f_law_share [none, none] (aCons (eP (pOp gAdd (pOp gMul (pIx (pN 0) (pC (.int 0))) (pIx (pN 1) (pC (.int 1)))) (pOp gMul (pIx (pN 1) (pC (.int 0))) (pIx (pN 0) (pC (.int 1)))))) (aCons (eP (pOp gMul (pIx (pN 0) (pC (.int 1))) (pIx (pN 1) (pC (.int 1))))) aNil))))
noncomputable def f_law_added : FN := fnD [false, false] 2 m_law_added
noncomputable def m_Share_add : SM := (retS (eMake "Share" f_Share_init [none, none] (aCons (eP (pOp gAdd (pOp gMul (pFld ["Share"] "over" (pN 0)) (pFld ["Share"] "under" (pN 1))) (pOp gMul (pFld ["Share"] "over" (pN 1)) (pFld ["Share"] "under" (pN 0))))) (aCons (eP (pOp gMul (pFld ["Share"] "under" (pN 0)) (pFld ["Share"] "under" (pN 1)))) aNil))))
noncomputable def f_Share_add : FN := fnD [false, false] 2 m_Share_add
noncomputable def m_Share_sub : SM := (retS (eMake "Share" f_Share_init [none, none] (aCons (eP (pOp gSub (pOp gMul (pFld ["Share"] "over" (pN 0)) (pFld ["Share"] "under" (pN 1))) (pOp gMul (pFld ["Share"] "over" (pN 1)) (pFld ["Share"] "under" (pN 0))))) (aCons (eP (pOp gMul (pFld ["Share"] "under" (pN 0)) (pFld ["Share"] "under" (pN 1)))) aNil))))
noncomputable def f_Share_sub : FN := fnD [false, false] 2 m_Share_sub
noncomputable def m_Share_mul : SM := (retS (eMake "Share" f_Share_init [none, none] (aCons (eP (pOp gMul (pFld ["Share"] "over" (pN 0)) (pFld ["Share"] "over" (pN 1)))) (aCons (eP (pOp gMul (pFld ["Share"] "under" (pN 0)) (pFld ["Share"] "under" (pN 1)))) aNil))))
noncomputable def f_Share_mul : FN := fnD [false, false] 2 m_Share_mul
noncomputable def m_Share_eq_b1 : SM := (retS (eP (pC (.bl false))))
noncomputable def m_Share_eq : SM := (seqS (ifS (tNot' (tE (eP (pCa (gIsi itab icls) (qCons (pN 1) (qCons (pC (.glo "Share")) qNil))))))
  m_Share_eq_b1
  nilS)
  (retS (eAnd (eP (pOp gEq (pFld ["Share"] "over" (pN 0)) (pFld ["Share"] "over" (pN 1)))) (eP (pOp gEq (pFld ["Share"] "under" (pN 0)) (pFld ["Share"] "under" (pN 1)))))))
noncomputable def f_Share_eq : FN := fnD [false, false] 2 m_Share_eq
noncomputable def m_law_two_right_b1 : SM := (retS (eP (pC (.bl false))))
noncomputable def m_law_two_right_b2 : SM := (retS (eP (pC (.bl false))))
noncomputable def m_law_two_right_b3 : SM := (retS (eP (pC (.bl false))))
noncomputable def m_law_two_right : SM := (seqS (setS 4 (eP (pTup (qCons (pOp gSub (pC (.int 0)) (pIx (pN 3) (pC (.int 0)))) (qCons (pIx (pN 3) (pC (.int 1))) qNil)))))
  (seqS (ifS (tOr' (tNot' (tE (eCall f_law_one_right [none, none] (aCons (eFz (eOwn "Share" f_Share_add (eN 0) (eN 1))) (aCons (eFz (eCall f_law_added [none, none] (aCons (eN 2) (aCons (eN 3) aNil)))) aNil))))) (tNot' (tE (eCall f_law_one_right [none, none] (aCons (eFz (eOwn "Share" f_Share_sub (eN 0) (eN 1))) (aCons (eFz (eCall f_law_added [none, none] (aCons (eN 2) (aCons (eN 4) aNil)))) aNil))))))
  m_law_two_right_b3
  nilS)
  (seqS (ifS (tNot' (tE (eCall f_law_one_right [none, none] (aCons (eFz (eOwn "Share" f_Share_mul (eN 0) (eN 1))) (aCons (eFz (eCall f_law_times [none, none] (aCons (eN 2) (aCons (eN 3) aNil)))) aNil)))))
  m_law_two_right_b2
  nilS)
  (seqS (setS 5 (eP (pOp (gOwnEq "Share" nft_Share icls f_Share_eq) (pN 0) (pN 1))))
  (seqS (setS 6 (eMeth "Share" "is_below" f_Share_is_below (none :: [none]) (eN 0) (aCons (eN 1) aNil)))
  (seqS (ifS (tOr' (tNot' (tE (eP (pCa (gIsi itab icls) (qCons (pN 5) (qCons (pC (.ty "bool")) qNil)))))) (tOr' (tE (eOp gNe (eN 5) (eP (pOp gEq (pN 2) (pN 3))))) (tNot' (tE (eP (pCa (gIsi itab icls) (qCons (pN 6) (qCons (pC (.ty "bool")) qNil))))))))
  m_law_two_right_b1
  nilS)
  (retS (eP (pOp gEq (pN 6) (pOp gLt (pOp gMul (pIx (pN 2) (pC (.int 0))) (pIx (pN 3) (pC (.int 1)))) (pOp gMul (pIx (pN 3) (pC (.int 0))) (pIx (pN 2) (pC (.int 1))))))))))))))
noncomputable def f_law_two_right : FN := fnD [false, false, false, false] 7 m_law_two_right
noncomputable def m_law_b2 : SM := (retS (eP (pC (.bl false))))
noncomputable def m_law_b1 : SM := (ifS (tOr' (tNot' (tE (eCall f_law_one_right [none, none] (aCons (eP (pIx (pN 7) (pN 3))) (aCons (eP (pIx (pN 5) (pN 3))) aNil))))) (tE (eOp gIsNot (eOp (gOwnEq "Share" nft_Share icls f_Share_eq) (eP (pIx (pN 7) (pN 3))) (eCall f_law_pick [some 1, none] (aRef 1 (aCons (eFz (eLst (aCons (eP (pC .non)) (aCons (eP (pIx (pN 5) (pN 3))) (aCons (eP (pIx (pIx (pN 5) (pN 3)) (pC (.int 0)))) (aCons (eP (pC (.str "1"))) aNil)))))) aNil)))) (eP (pC (.bl false))))))
  m_law_b2
  nilS)
noncomputable def m_law_b3 : SM := (retS (eP (pC (.bl false))))
noncomputable def m_law_b4 : SM := (seqS (setS 9 (eOwn "Share" f_Share_add (eN 9) (eP (pIx (pN 7) (pN 3)))))
  (seqS (setS 10 (eOwn "Share" f_Share_mul (eN 10) (eP (pIx (pN 7) (pN 3)))))
  (setS 11 (eLst (aCons (eFz (eCall f_law_added [none, none] (aCons (eP (pIx (pN 11) (pC (.int 0)))) (aCons (eP (pIx (pN 5) (pN 3))) aNil)))) (aCons (eFz (eCall f_law_times [none, none] (aCons (eP (pIx (pN 11) (pC (.int 1)))) (aCons (eP (pIx (pN 5) (pN 3))) aNil)))) aNil))))))
noncomputable def m_law_b6 : SM := (retS (eP (pC (.bl false))))
noncomputable def m_law_b7 : SM := (retS (eP (pC (.bl false))))
noncomputable def m_law_b5 : SM := (seqS (setS 8 (eCall f_law_draw [some 1, none] (aRef 1 (aCons (eP (pCa gLen (qCons (pN 2) qNil))) aNil))))
  (seqS (ifS (tOr' (tNot' (tE (eCall f_law_one_right [none, none] (aCons (eP (pIx (pN 7) (pN 3))) (aCons (eP (pIx (pN 5) (pN 3))) aNil))))) (tNot' (tE (eCall f_law_two_right [none, none, none, none] (aCons (eP (pIx (pN 7) (pN 3))) (aCons (eP (pIx (pN 7) (pN 8))) (aCons (eP (pIx (pN 5) (pN 3))) (aCons (eP (pIx (pN 5) (pN 8))) aNil))))))))
  m_law_b7
  nilS)
  (ifS (tNot' (tE (eCall f_law_two_right [none, none, none, none] (aCons (eP (pIx (pN 7) (pN 3))) (aCons (eP (pIx (pN 7) (pOp gMod (pCa gInt (qCons (pOp gAdd (pN 3) (pC (.int 1))) qNil)) (pCa gLen (qCons (pN 2) qNil))))) (aCons (eP (pIx (pN 5) (pN 3))) (aCons (eP (pIx (pN 5) (pOp gMod (pCa gInt (qCons (pOp gAdd (pN 3) (pC (.int 1))) qNil)) (pCa gLen (qCons (pN 2) qNil))))) aNil)))))))
  m_law_b6
  nilS)))
noncomputable def m_law_b8 : SM := (seqS (setS 4 (eOp gAdd (eP (pC (.int 1))) (eCall f_law_draw [some 1, none] (aRef 1 (aCons (eP (pC (.int 50))) aNil)))))
  (putS (lN 2) (pC (.int 1)) (eP (pTup (qCons (pOp gMul (pIx (pIx (pN 2) (pC (.int 0))) (pC (.int 0))) (pN 4)) (qCons (pOp gMul (pIx (pIx (pN 2) (pC (.int 0))) (pC (.int 1))) (pN 4)) qNil))))))
noncomputable def m_law : SM := (seqS (setS 1 (eCall f_law_tape [none] (aCons (eN 0) aNil)))
  (seqS (setS 2 (compE (iR1 (eOp gAdd (eP (pC (.int 2))) (eCall f_law_draw [some 1, none] (aRef 1 (aCons (eP (pC (.int 4))) aNil))))) (gN 3) yesT (eCall f_law_pair [some 1] (aRef 1 aNil)) [3]))
  (seqS (ifS (tE (eOp gEq (eCall f_law_draw [some 1, none] (aRef 1 (aCons (eP (pC (.int 4))) aNil))) (eP (pC (.int 0)))))
  m_law_b8
  nilS)
  (seqS (setS 5 (compE (iE (eN 2)) (gN 6) yesT (eCall f_law_share [none, none] (aCons (eP (pIx (pN 6) (pC (.int 0)))) (aCons (eP (pIx (pN 6) (pC (.int 1)))) aNil))) [6]))
  (seqS (setS 7 (compE (iE (eN 2)) (gN 6) yesT (eMake "Share" f_Share_init [none, none] (aCons (eP (pIx (pN 6) (pC (.int 0)))) (aCons (eP (pIx (pN 6) (pC (.int 1)))) aNil))) [6]))
  (seqS (forS (iR1 (eP (pCa gLen (qCons (pN 2) qNil)))) (gN 3)
  m_law_b5)
  (seqS (setS 9 (eMake "Share" f_Share_init [none, none] (aCons (eP (pC (.int 0))) (aCons (eOp gSub (eP (pOp gSub (pC (.int 0)) (pC (.int 1)))) (eCall f_law_draw [some 1, none] (aRef 1 (aCons (eP (pC (.int 100))) aNil)))) aNil))))
  (seqS (setS 10 (eMake "Share" f_Share_init [none, none] (aCons (eP (pC (.int 1))) (aCons (eP (pC (.int 1))) aNil))))
  (seqS (setS 11 (eLst (aCons (eP (pTup (qCons (pC (.int 0)) (qCons (pC (.int 1)) qNil)))) (aCons (eP (pTup (qCons (pC (.int 1)) (qCons (pC (.int 1)) qNil)))) aNil))))
  (seqS (forS (iR1 (eP (pCa gLen (qCons (pN 2) qNil)))) (gN 3)
  m_law_b4)
  (seqS (ifS (tOr' (tNot' (tE (eCall f_law_one_right [none, none] (aCons (eN 9) (aCons (eP (pIx (pN 11) (pC (.int 0)))) aNil))))) (tNot' (tE (eCall f_law_one_right [none, none] (aCons (eN 10) (aCons (eP (pIx (pN 11) (pC (.int 1)))) aNil))))))
  m_law_b3
  nilS)
  (seqS (forS (iR1 (eP (pCa gLen (qCons (pN 2) qNil)))) (gN 3)
  m_law_b1)
  (retS (eCall f_law_refused [none] (aCons (eP (pIx (pIx (pN 2) (pC (.int 0))) (pC (.int 0)))) aNil)))))))))))))))
noncomputable def f_law : FN := fnD [false] 12 m_law
/-! ### the walk -/
theorem ok_law_tape (fx : FX fa fn exl K mg) : FnX P w K mg base 1 d_law_tape ["_law_script"] f_law_tape := by
  have S : FnScope ["_law_script"] ["_law_script"] d_law_tape.scope := ⟨rfl, rfl, rfl, by decide +kernel, rfl, by decide +kernel, by decide +kernel⟩
  exact fnx (k := 0) fx 0 rfl rfl rfl S rfl (fun _ _ _ _ _ _ us hl => match us, hl with | [_], _ => rfl) fun f cdv A outer s H E hr tk hp =>
  (bv_one (sv_ret (ev_dic (dpv_cons (by exact (ev_list rfl (fx.free 1) (ev_name 0))) (dpv_cons (by exact (ev_p (pv_int))) (dpv_cons (by exact (ev_p (pv_int))) (dpv_cons (by exact (ev_p (pv_int))) (dpv_cons (by exact (ev_p (pv_int))) (dpv_cons (by exact (ev_p (pv_int))) dpv_nil pe_str) pe_str) pe_str) pe_str) pe_str) pe_str) (by simp))))
theorem ok_common_divisor (fx : FX fa fn exl K mg) : FnX P w K mg base 1 d_common_divisor ["one", "two"] f_common_divisor := by
  have S : FnScope ["one", "two"] ["one", "two"] d_common_divisor.scope := ⟨rfl, rfl, rfl, by decide +kernel, rfl, by decide +kernel, by decide +kernel⟩
  exact fnx (k := 0) fx 1 rfl rfl rfl S rfl (fun _ _ _ _ _ _ us hl => match us, hl with | [_, _], _ => rfl) fun f cdv A outer s H E hr tk hp =>
  (bv_cons (sv_while hp (tv_cmp opr_gt opo_gt (ev_name 1) (ev_p (pv_int)) (nomark _))
  (bv_one (sv_par 0 1 rfl S.nd (ev_name 1) (ev_p (pv_op op_mod opo_mod (pv_name 0) (pv_name 1))) (by first | rfl | decide +kernel))))
  (bv_one (sv_ret (ev_move 0))))
theorem ok_InvalidNumber_init (fx : FX fa fn exl K mg) : InX P w K mg base 1 d_InvalidNumber_init ["self", "number"] (He.ga K "InvalidNumber") ["number"] := by
  obtain ⟨fd, F⟩ := fx.def_ (d := d_InvalidNumber_init) 2
  refine ⟨fd, F, init1 F ⟨rfl, rfl, rfl, by decide +kernel, rfl, by decide +kernel, by decide +kernel⟩ rfl (oexB_ok (fx.ex 1)) (noatB_ok (fx.ex 0)), F.bindsN fun _ _ _ _ _ _ us hl => match us, hl with | [_, _], _ => rfl⟩
theorem ok_Share_init (fx : FX fa fn exl K mg) : FnX P w K mg base 3 d_Share_init ["self", "over", "under"] f_Share_init := by
  obtain ⟨_, F_common_divisor, O_common_divisor, B_common_divisor⟩ := ok_common_divisor (P := P) (w := w) (base := base) fx
  obtain ⟨_, F_InvalidNumber_init, O_InvalidNumber_init, B_InvalidNumber_init⟩ := ok_InvalidNumber_init (P := P) (w := w) (base := base) fx
  have S : FnScope ["self", "over", "under", "sign", "by"] ["self", "over", "under"] d_Share_init.scope := ⟨rfl, rfl, rfl, by decide +kernel, rfl, by decide +kernel, by decide +kernel⟩
  exact fnx (k := 2) fx 3 rfl rfl rfl S rfl (fun _ _ _ _ _ _ us hl => match us, hl with | [_, _, _], _ => rfl) fun f cdv A outer s H E hr tk hp =>
  (bv_cons (sv_if (tv_cmp (opr_eqU hr.units) opo_eq (ev_name 2) (ev_p (pv_int)) (nomark _))
  (bv_one (sv_raise (cn := "InvalidNumber") rfl tk (oexB_ok (fx.ex 1)) (initB_ok (fx.ex 2)).1 (initB_ok (fx.ex 2)).2 O_InvalidNumber_init (hr.mono (by decide)) B_InvalidNumber_init rfl (fx.glo 7) (av_cons (ev_name 2) av_nil)))
  bv_nil)
  (bv_cons (sv_set 3 S.nd (ev_if (tv_cmp opr_gt opo_gt (ev_name 2) (ev_p (pv_int)) (nomark _)) (ev_p (pv_int)) (ev_p (pv_un un_neg uno_neg (pv_int)))))
  (bv_cons (sv_set 4 S.nd (ev_call O_common_divisor (hr.mono (by decide)) rfl (fx.glo 6) F_common_divisor.kp B_common_divisor tk (av_cons (ev_p (pv_callB call_abs cao_abs rfl (fx.free 5) rfl (qa_cons (pv_name 1) qa_nil))) (av_cons (ev_p (pv_callB call_abs cao_abs rfl (fx.free 5) rfl (qa_cons (pv_name 2) qa_nil))) av_nil))))
  (bv_cons (sv_fld (.cons (He.cls_ok (fx.fact 2)) (He.noat_ok (fx.fact 4)) FldOk.nil) (lv_name 0) (ev_p (pv_op op_fdivW opo_div (pv_op opr_mul opo_mul (pv_name 3) (pv_name 1)) (pv_name 4))))
  (bv_one (sv_fld (.cons (He.cls_ok (fx.fact 2)) (He.noat_ok (fx.fact 3)) FldOk.nil) (lv_name 0) (ev_p (pv_op op_fdivW opo_div (pv_op opr_mul opo_mul (pv_name 3) (pv_name 2)) (pv_name 4)))))))))
theorem ok_law_refused (fx : FX fa fn exl K mg) : FnX P w K mg base 5 d_law_refused ["_law_over"] f_law_refused := by
  obtain ⟨_, F_Share_init, O_Share_init, B_Share_init⟩ := ok_Share_init (P := P) (w := w) (base := base) fx
  have S : FnScope ["_law_over", "e"] ["_law_over"] d_law_refused.scope := ⟨rfl, rfl, rfl, by decide +kernel, rfl, by decide +kernel, by decide +kernel⟩
  exact fnx (k := 4) fx 4 rfl rfl rfl S rfl (fun _ _ _ _ _ _ us hl => match us, hl with | [_], _ => rfl) fun f cdv A outer s H E hr tk hp =>
  (bv_cons (sv_tryAs 1 rfl rfl S.nd ⟨rfl, by decide, .inl (fx.glo 15)⟩ tk (exmB_ok (fx.ex 4)) (fun _ _ _ tk1 hp1 => (bv_one (sv_expr (ev_make (He.mkr_ok (fx.fact 8)) O_Share_init (hr.mono (by decide)) rfl (fx.glo 9) B_Share_init tk1 (av_cons (ev_name 0) (av_cons (ev_p (pv_int)) av_nil))))))
  (fun x0 oe0 pn0 hz hd => bv_hcond fun hxc => by
      have hx := hot_suite (pn := pn0) hz hd
      exact (bv_cons (sv_if (tv_w (wv_or (tv_not (tv_val (ev_p (pv_callB (callr_isi.or (callr_isx hx (xck fx x0.c hxc))) ((cao_isi (isok fx)).or (cao_isx (isok fx))) rfl (fx.free 11) rfl (qa_cons (pv_name 1) (qa_cons (pv_glo rfl (fx.glo 7)) qa_nil)))))) (wv_or (tv_not (tv_val (ev_p (pv_callB (callr_isi.or (callr_isx hx (xck fx x0.c hxc))) ((cao_isi (isok fx)).or (cao_isx (isok fx))) rfl (fx.free 11) rfl (qa_cons (pv_name 1) (qa_cons (pv_type rfl (fx.free 14) rfl) qa_nil)))))) (wv_or1 (tv_val (ev_p (pv_callB (callr_isi.or (callr_isx hx (xck fx x0.c hxc))) ((cao_isi (isok fx)).or (cao_isx (isok fx))) rfl (fx.free 11) rfl (qa_cons (pv_name 1) (qa_cons (pv_glo rfl (fx.glo 13)) qa_nil)))))))))
  (bv_one (sv_ret (ev_p (pv_bl))))
  bv_nil)
  (bv_one (sv_ret (ev_and (ev_p (pv_callB (callr_isi.or (callr_isx hx (xck fx x0.c hxc))) ((cao_isi (isok fx)).or (cao_isx (isok fx))) rfl (fx.free 11) rfl (qa_cons (pv_xf hx (fun c m => (List.mem_cons.mp m).elim (fun e => e ▸ ⟨xcB_ok (fx.ex 3), noatB_ok (fx.ex 0)⟩) (fun m => (fun c m => (List.not_mem_nil m).elim) c m)) (pv_name 1)) (qa_cons (pv_type rfl (fx.free 12) rfl) qa_nil)))) (ev_and (ev_not (ev_p (pv_callB (callr_isi.or (callr_isx hx (xck fx x0.c hxc))) ((cao_isi (isok fx)).or (cao_isx (isok fx))) rfl (fx.free 11) rfl (qa_cons (pv_xf hx (fun c m => (List.mem_cons.mp m).elim (fun e => e ▸ ⟨xcB_ok (fx.ex 3), noatB_ok (fx.ex 0)⟩) (fun m => (fun c m => (List.not_mem_nil m).elim) c m)) (pv_name 1)) (qa_cons (pv_type rfl (fx.free 10) rfl) qa_nil))))) (ev_one (ev_p (pv_cmp (opr_eqU hr.units) opo_eq (pv_xf hx (fun c m => (List.mem_cons.mp m).elim (fun e => e ▸ ⟨xcB_ok (fx.ex 3), noatB_ok (fx.ex 0)⟩) (fun m => (fun c m => (List.not_mem_nil m).elim) c m)) (pv_name 1)) (pv_int) (nomark _)))))))))))
  (bv_one (sv_ret (ev_p (pv_bl)))))
theorem ok_law_mixed (fx : FX fa fn exl K mg) : FnX P w K mg base 1 d_law_mixed ["_law_number", "_law_turn"] f_law_mixed := by
  have S : FnScope ["_law_number", "_law_turn", "_law_first", "_law_second"] ["_law_number", "_law_turn"] d_law_mixed.scope := ⟨rfl, rfl, rfl, by decide +kernel, rfl, by decide +kernel, by decide +kernel⟩
  exact fnx (k := 0) fx 5 rfl rfl rfl S rfl (fun _ _ _ _ _ _ us hl => match us, hl with | [_, _], _ => rfl) fun f cdv A outer s H E hr tk hp =>
  (bv_cons (sv_set 2 S.nd (ev_p (pv_op op_mod opo_mod (pv_callTy call_int1 cao_int rfl (fx.free 12) rfl (qa_cons (pv_op opr_add opo_add (pv_op opr_add opo_add (pv_op opr_mul opo_mul (pv_name 0) (pv_int)) (pv_op opr_mul opo_mul (pv_name 1) (pv_int))) (pv_int)) qa_nil)) (pv_int))))
  (bv_cons (sv_set 3 S.nd (ev_p (pv_op op_mod opo_mod (pv_callTy call_int1 cao_int rfl (fx.free 12) rfl (qa_cons (pv_op opr_add opo_add (pv_op opr_add opo_add (pv_op opr_mul opo_mul (pv_name 2) (pv_int)) (pv_op op_fdivW opo_div (pv_name 2) (pv_int))) (pv_op opr_mul opo_mul (pv_name 1) (pv_int))) qa_nil)) (pv_int))))
  (bv_one (sv_ret (ev_p (pv_op op_mod opo_mod (pv_callTy call_int1 cao_int rfl (fx.free 12) rfl (qa_cons (pv_op opr_add opo_add (pv_op opr_mul opo_mul (pv_name 3) (pv_name 3)) (pv_op op_fdivW opo_div (pv_name 2) (pv_int))) qa_nil)) (pv_int)))))))
theorem ok_law_draw (fx : FX fa fn exl K mg) : FnX P w K mg base 2 d_law_draw ["_law_tape_here", "_law_many"] f_law_draw := by
  obtain ⟨_, F_law_mixed, O_law_mixed, B_law_mixed⟩ := ok_law_mixed (P := P) (w := w) (base := base) fx
  have S : FnScope ["_law_tape_here", "_law_many", "_law_cell", "_law_digit"] ["_law_tape_here", "_law_many"] d_law_draw.scope := ⟨rfl, rfl, rfl, by decide +kernel, rfl, by decide +kernel, by decide +kernel⟩
  exact fnx (k := 1) fx 6 rfl rfl rfl S rfl (fun _ _ _ _ _ _ us hl => match us, hl with | [_, _], _ => rfl) fun f cdv A outer s H E hr tk hp =>
  (bv_cons (sv_put hr (lv_name 0) (pv_str) (ev_p (pv_op opr_add opo_add (pv_ix hr (pv_name 0) (pv_str)) (pv_int))))
  (bv_cons (sv_if (tv_w (wv_and (tv_cmp (opr_eqU hr.units) opo_eq (ev_p (pv_ix hr (pv_name 0) (pv_str))) (ev_p (pv_int)) (nomark _)) (wv_and1 (tv_cmp opr_lt opo_lt (ev_p (pv_ix hr (pv_name 0) (pv_str))) (ev_p (pv_callB callr_len cao_len rfl (fx.free 17) rfl (qa_cons (pv_ix hr (pv_name 0) (pv_str)) qa_nil))) (nomark _)))))
  (bv_cons (sv_set 2 S.nd (ev_p (pv_ix hr (pv_ix hr (pv_name 0) (pv_str)) (pv_ix hr (pv_name 0) (pv_str)))))
  (bv_cons (sv_put hr (lv_name 0) (pv_str) (ev_p (pv_op opr_add opo_add (pv_ix hr (pv_name 0) (pv_str)) (pv_int))))
  (bv_cons (sv_put hr (lv_name 0) (pv_str) (ev_call O_law_mixed (hr.mono (by decide)) rfl (fx.glo 16) F_law_mixed.kp B_law_mixed tk (av_cons (ev_p (pv_op opr_add opo_add (pv_ix hr (pv_name 0) (pv_str)) (pv_name 2))) (av_cons (ev_p (pv_ix hr (pv_name 0) (pv_str))) av_nil))))
  (bv_cons (sv_put hr (lv_name 0) (pv_str) (ev_p (pv_int)))
  (bv_one (sv_if (tv_cmp opr_ge opo_ge (ev_name 2) (ev_p (pv_op op_pow opo_pow (pv_int) (pv_int))) (nomark _))
  (bv_cons (sv_put hr (lv_name 0) (pv_str) (ev_name 2))
  (bv_one (sv_put hr (lv_name 0) (pv_str) (ev_p (pv_int)))))
  bv_nil))))))
  bv_nil)
  (bv_cons (sv_if (tv_cmp opr_gt opo_gt (ev_p (pv_ix hr (pv_name 0) (pv_str))) (ev_p (pv_int)) (nomark _))
  (bv_one (sv_put hr (lv_name 0) (pv_str) (ev_p (pv_op op_sub opo_sub (pv_ix hr (pv_name 0) (pv_str)) (pv_int)))))
  bv_nil)
  (bv_cons (sv_if (tv_cmp (opr_eqU hr.units) opo_eq (ev_p (pv_ix hr (pv_name 0) (pv_str))) (ev_p (pv_int)) (nomark _))
  (bv_one (sv_ret (ev_op op_mod opo_mod (ev_callTy call_int1 cao_int rfl (fx.free 12) rfl (av_cons (ev_fz (ev_call O_law_mixed (hr.mono (by decide)) rfl (fx.glo 16) F_law_mixed.kp B_law_mixed tk (av_cons (ev_p (pv_ix hr (pv_name 0) (pv_str))) (av_cons (ev_p (pv_ix hr (pv_name 0) (pv_str))) av_nil)))) av_nil)) (ev_name 1))))
  bv_nil)
  (bv_cons (sv_set 3 S.nd (ev_p (pv_op op_mod opo_mod (pv_callTy call_int1 cao_int rfl (fx.free 12) rfl (qa_cons (pv_ix hr (pv_name 0) (pv_str)) qa_nil)) (pv_int))))
  (bv_cons (sv_put hr (lv_name 0) (pv_str) (ev_p (pv_op op_fdivW opo_div (pv_ix hr (pv_name 0) (pv_str)) (pv_int))))
  (bv_cons (sv_if (tv_w (wv_or (tv_cmp (opr_eqU hr.units) opo_eq (ev_p (pv_ix hr (pv_name 0) (pv_str))) (ev_p (pv_int)) (nomark _)) (wv_or1 (tv_cmp (opr_eqU hr.units) opo_eq (ev_p (pv_ix hr (pv_name 0) (pv_str))) (ev_p (pv_int)) (nomark _)))))
  (bv_cons (sv_put hr (lv_name 0) (pv_str) (ev_p (pv_int)))
  (bv_one (sv_put hr (lv_name 0) (pv_str) (ev_p (pv_int)))))
  bv_nil)
  (bv_one (sv_ret (ev_p (pv_op op_mod opo_mod (pv_callTy call_int1 cao_int rfl (fx.free 12) rfl (qa_cons (pv_name 3) qa_nil)) (pv_name 1))))))))))))
theorem ok_law_pick (fx : FX fa fn exl K mg) : FnX P w K mg base 3 d_law_pick ["_law_tape_here", "_law_row"] f_law_pick := by
  obtain ⟨_, F_law_draw, O_law_draw, B_law_draw⟩ := ok_law_draw (P := P) (w := w) (base := base) fx
  have S : FnScope ["_law_tape_here", "_law_row"] ["_law_tape_here", "_law_row"] d_law_pick.scope := ⟨rfl, rfl, rfl, by decide +kernel, rfl, by decide +kernel, by decide +kernel⟩
  exact fnx (k := 2) fx 7 rfl rfl rfl S rfl (fun _ _ _ _ _ _ us hl => match us, hl with | [_, _], _ => rfl) fun f cdv A outer s H E hr tk hp =>
  (bv_one (sv_ret (ev_ixN hr 1 (ev_call O_law_draw (hr.mono (by decide)) rfl (fx.glo 18) F_law_draw.kp B_law_draw tk (av_ref 0 (av_cons (ev_p (pv_callB callr_len cao_len rfl (fx.free 17) rfl (qa_cons (pv_name 1) qa_nil))) av_nil))))))
theorem ok_law_integer (fx : FX fa fn exl K mg) : FnX P w K mg base 4 d_law_integer ["_law_tape_here", "_law_size"] f_law_integer := by
  obtain ⟨_, F_law_draw, O_law_draw, B_law_draw⟩ := ok_law_draw (P := P) (w := w) (base := base) fx
  obtain ⟨_, F_law_pick, O_law_pick, B_law_pick⟩ := ok_law_pick (P := P) (w := w) (base := base) fx
  have S : FnScope ["_law_tape_here", "_law_size", "_law_great", "_law_k"] ["_law_tape_here", "_law_size"] d_law_integer.scope := ⟨rfl, rfl, rfl, by decide +kernel, rfl, by decide +kernel, by decide +kernel⟩
  exact fnx (k := 3) fx 8 rfl rfl rfl S rfl (fun _ _ _ _ _ _ us hl => match us, hl with | [_, _], _ => rfl) fun f cdv A outer s H E hr tk hp =>
  (bv_cons (sv_if (tv_cmp (opr_eqU hr.units) opo_eq (ev_name 1) (ev_p (pv_int)) (nomark _))
  (bv_one (sv_ret (ev_op op_sub opo_sub (ev_call O_law_draw (hr.mono (by decide)) rfl (fx.glo 18) F_law_draw.kp B_law_draw tk (av_ref 0 (av_cons (ev_p (pv_int)) av_nil))) (ev_p (pv_int)))))
  bv_nil)
  (bv_cons (sv_if (tv_cmp (opr_eqU hr.units) opo_eq (ev_name 1) (ev_p (pv_int)) (nomark _))
  (bv_one (sv_ret (ev_call O_law_pick (hr.mono (by decide)) rfl (fx.glo 20) F_law_pick.kp B_law_pick tk (av_ref 0 (av_cons (ev_fz (ev_lst (av_cons (ev_p (pv_int)) (av_cons (ev_p (pv_int)) (av_cons (ev_p (pv_un un_neg uno_neg (pv_int))) (av_cons (ev_p (pv_int)) (av_cons (ev_p (pv_int)) (av_cons (ev_p (pv_un un_neg uno_neg (pv_int))) (av_cons (ev_p (pv_int)) (av_cons (ev_op op_sub opo_sub (ev_call O_law_draw (hr.mono (by decide)) rfl (fx.glo 18) F_law_draw.kp B_law_draw tk (av_ref 0 (av_cons (ev_p (pv_int)) av_nil))) (ev_p (pv_int))) av_nil)))))))))) av_nil)))))
  bv_nil)
  (bv_cons (sv_set 2 S.nd (ev_p (pv_int)))
  (bv_cons (sv_for hp rfl (iv_range1 rfl (fx.free 19) (ev_op opr_add opo_add (ev_p (pv_int)) (ev_call O_law_draw (hr.mono (by decide)) rfl (fx.glo 18) F_law_draw.kp B_law_draw tk (av_ref 0 (av_cons (ev_p (pv_int)) av_nil))))) (gv_name 3 S.nd)
  (bv_one (sv_set 2 S.nd (ev_op opr_add opo_add (ev_op opr_mul opo_mul (ev_name 2) (ev_call O_law_pick (hr.mono (by decide)) rfl (fx.glo 20) F_law_pick.kp B_law_pick tk (av_ref 0 (av_cons (ev_fz (ev_lst (av_cons (ev_op opr_add opo_add (ev_p (pv_int)) (ev_call O_law_draw (hr.mono (by decide)) rfl (fx.glo 18) F_law_draw.kp B_law_draw tk (av_ref 0 (av_cons (ev_p (pv_int)) av_nil)))) (av_cons (ev_p (pv_int)) av_nil)))) av_nil)))) (ev_call O_law_draw (hr.mono (by decide)) rfl (fx.glo 18) F_law_draw.kp B_law_draw tk (av_ref 0 (av_cons (ev_p (pv_int)) av_nil)))))))
  (bv_one (sv_ret (ev_op opr_mul opo_mul (ev_name 2) (ev_op op_sub opo_sub (ev_p (pv_int)) (ev_op opr_mul opo_mul (ev_p (pv_int)) (ev_call O_law_draw (hr.mono (by decide)) rfl (fx.glo 18) F_law_draw.kp B_law_draw tk (av_ref 0 (av_cons (ev_p (pv_int)) av_nil))))))))))))
theorem ok_law_pair (fx : FX fa fn exl K mg) : FnX P w K mg base 5 d_law_pair ["_law_tape_here"] f_law_pair := by
  obtain ⟨_, F_law_pick, O_law_pick, B_law_pick⟩ := ok_law_pick (P := P) (w := w) (base := base) fx
  obtain ⟨_, F_law_draw, O_law_draw, B_law_draw⟩ := ok_law_draw (P := P) (w := w) (base := base) fx
  obtain ⟨_, F_law_integer, O_law_integer, B_law_integer⟩ := ok_law_integer (P := P) (w := w) (base := base) fx
  have S : FnScope ["_law_tape_here", "_law_size", "_law_over", "_law_under", "_law_more"] ["_law_tape_here"] d_law_pair.scope := ⟨rfl, rfl, rfl, by decide +kernel, rfl, by decide +kernel, by decide +kernel⟩
  exact fnx (k := 4) fx 9 rfl rfl rfl S rfl (fun _ _ _ _ _ _ us hl => match us, hl with | [_], _ => rfl) fun f cdv A outer s H E hr tk hp =>
  (bv_cons (sv_set 1 S.nd (ev_call O_law_draw (hr.mono (by decide)) rfl (fx.glo 18) F_law_draw.kp B_law_draw tk (av_ref 0 (av_cons (ev_p (pv_int)) av_nil))))
  (bv_cons (sv_set 2 S.nd (ev_call O_law_integer (hr.mono (by decide)) rfl (fx.glo 21) F_law_integer.kp B_law_integer tk (av_ref 0 (av_cons (ev_name 1) av_nil))))
  (bv_cons (sv_set 3 S.nd (ev_call O_law_integer (hr.mono (by decide)) rfl (fx.glo 21) F_law_integer.kp B_law_integer tk (av_ref 0 (av_cons (ev_fz (ev_call O_law_pick (hr.mono (by decide)) rfl (fx.glo 20) F_law_pick.kp B_law_pick tk (av_ref 0 (av_cons (ev_fz (ev_lst (av_cons (ev_name 1) (av_cons (ev_name 1) (av_cons (ev_p (pv_int)) av_nil))))) av_nil)))) av_nil))))
  (bv_cons (sv_if (tv_cmp (opr_eqU hr.units) opo_eq (ev_name 3) (ev_p (pv_int)) (nomark _))
  (bv_one (sv_set 3 S.nd (ev_op opr_add opo_add (ev_p (pv_int)) (ev_call O_law_draw (hr.mono (by decide)) rfl (fx.glo 18) F_law_draw.kp B_law_draw tk (av_ref 0 (av_cons (ev_p (pv_int)) av_nil))))))
  bv_nil)
  (bv_cons (sv_set 4 S.nd (ev_call O_law_pick (hr.mono (by decide)) rfl (fx.glo 20) F_law_pick.kp B_law_pick tk (av_ref 0 (av_cons (ev_fz (ev_lst (av_cons (ev_p (pv_int)) (av_cons (ev_p (pv_int)) (av_cons (ev_p (pv_un un_neg uno_neg (pv_int))) (av_cons (ev_p (pv_int)) (av_cons (ev_p (pv_int)) (av_cons (ev_op op_sub opo_sub (ev_p (pv_op op_sub opo_sub (pv_int) (pv_int))) (ev_call O_law_draw (hr.mono (by decide)) rfl (fx.glo 18) F_law_draw.kp B_law_draw tk (av_ref 0 (av_cons (ev_p (pv_int)) av_nil)))) av_nil)))))))) av_nil))))
  (bv_one (sv_ret (ev_p (pv_tup (qa_cons (pv_op opr_mul opo_mul (pv_name 2) (pv_name 4)) (qa_cons (pv_op opr_mul opo_mul (pv_name 3) (pv_name 4)) qa_nil)))))))))))
theorem ok_law_share (fx : FX fa fn exl K mg) : FnX P w K mg base 1 d_law_share ["_law_over", "_law_under"] f_law_share := by
  have S : FnScope ["_law_over", "_law_under", "_law_a", "_law_b", "_law_k", "_law_c"] ["_law_over", "_law_under"] d_law_share.scope := ⟨rfl, rfl, rfl, by decide +kernel, rfl, by decide +kernel, by decide +kernel⟩
  exact fnx (k := 0) fx 10 rfl rfl rfl S rfl (fun _ _ _ _ _ _ us hl => match us, hl with | [_, _], _ => rfl) fun f cdv A outer s H E hr tk hp =>
  (bv_cons (sv_if (tv_cmp opr_lt opo_lt (ev_name 1) (ev_p (pv_int)) (nomark _))
  (bv_cons (sv_set 0 S.nd (ev_p (pv_op op_sub opo_sub (pv_int) (pv_name 0))))
  (bv_one (sv_set 1 S.nd (ev_p (pv_op op_sub opo_sub (pv_int) (pv_name 1))))))
  bv_nil)
  (bv_cons (sv_set 2 S.nd (ev_p (pv_callB call_abs cao_abs rfl (fx.free 5) rfl (qa_cons (pv_name 0) qa_nil))))
  (bv_cons (sv_set 3 S.nd (ev_name 1))
  (bv_cons (sv_for hp rfl (iv_range1 rfl (fx.free 19) (ev_p (pv_int))) (gv_name 4 S.nd)
  (bv_cons (sv_if (tv_cmp (opr_eqU hr.units) opo_eq (ev_name 2) (ev_p (pv_int)) (nomark _))
  (bv_one (sv_break))
  bv_nil)
  (bv_cons (sv_set 5 S.nd (ev_p (pv_op op_mod opo_mod (pv_callTy call_int1 cao_int rfl (fx.free 12) rfl (qa_cons (pv_name 3) qa_nil)) (pv_name 2))))
  (bv_cons (sv_set 3 S.nd (ev_name 2))
  (bv_one (sv_set 2 S.nd (ev_name 5)))))))
  (bv_one (sv_ret (ev_p (pv_tup (qa_cons (pv_op op_fdivW opo_div (pv_name 0) (pv_name 3)) (qa_cons (pv_op op_fdivW opo_div (pv_name 1) (pv_name 3)) qa_nil))))))))))
theorem ok_Share_is_below (fx : FX fa fn exl K mg) : FnX P w K mg base 1 d_Share_is_below ["self", "other"] f_Share_is_below := by
  have S : FnScope ["self", "other"] ["self", "other"] d_Share_is_below.scope := ⟨rfl, rfl, rfl, by decide +kernel, rfl, by decide +kernel, by decide +kernel⟩
  exact fnx (k := 0) fx 11 rfl rfl rfl S rfl (fun _ _ _ _ _ _ us hl => match us, hl with | [_, _], _ => rfl) fun f cdv A outer s H E hr tk hp =>
  (bv_one (sv_ret (ev_p (pv_cmp opr_lt opo_lt (pv_op opr_mul opo_mul (pv_fld (.cons (He.cls_ok (fx.fact 2)) (He.noat_ok (fx.fact 4)) FldOk.nil) (pv_name 0)) (pv_fld (.cons (He.cls_ok (fx.fact 2)) (He.noat_ok (fx.fact 3)) FldOk.nil) (pv_name 1))) (pv_op opr_mul opo_mul (pv_fld (.cons (He.cls_ok (fx.fact 2)) (He.noat_ok (fx.fact 4)) FldOk.nil) (pv_name 1)) (pv_fld (.cons (He.cls_ok (fx.fact 2)) (He.noat_ok (fx.fact 3)) FldOk.nil) (pv_name 0))) (nomark _)))))
theorem ok_Share_written (fx : FX fa fn exl K mg) : FnX P w K mg base 1 d_Share_written ["self"] f_Share_written := by
  have S : FnScope ["self"] ["self"] d_Share_written.scope := ⟨rfl, rfl, rfl, by decide +kernel, rfl, by decide +kernel, by decide +kernel⟩
  exact fnx (k := 0) fx 12 rfl rfl rfl S rfl (fun _ _ _ _ _ _ us hl => match us, hl with | [_], _ => rfl) fun f cdv A outer s H E hr tk hp =>
  (bv_cons (sv_if (tv_cmp (opr_eqU hr.units) opo_eq (ev_p (pv_fld (.cons (He.cls_ok (fx.fact 2)) (He.noat_ok (fx.fact 3)) FldOk.nil) (pv_name 0))) (ev_p (pv_int)) (nomark _))
  (bv_one (sv_ret (ev_p (pv_callTy callr_str cao_str rfl (fx.free 22) rfl (qa_cons (pv_fld (.cons (He.cls_ok (fx.fact 2)) (He.noat_ok (fx.fact 4)) FldOk.nil) (pv_name 0)) qa_nil)))))
  bv_nil)
  (bv_one (sv_ret (ev_joined (.cons (ev_fmt (ev_p (pv_fld (.cons (He.cls_ok (fx.fact 2)) (He.noat_ok (fx.fact 4)) FldOk.nil) (pv_name 0)))) (.cons (ev_p (pv_str)) (.cons (ev_fmt (ev_p (pv_fld (.cons (He.cls_ok (fx.fact 2)) (He.noat_ok (fx.fact 3)) FldOk.nil) (pv_name 0)))) .nil)))))))
theorem ok_law_is_share (fx : FX fa fn exl K mg) : FnX P w K mg base 1 d_law_is_share ["_law_actual", "_law_due"] f_law_is_share := by
  have S : FnScope ["_law_actual", "_law_due", "_law_part"] ["_law_actual", "_law_due"] d_law_is_share.scope := ⟨rfl, rfl, rfl, by decide +kernel, rfl, by decide +kernel, by decide +kernel⟩
  exact fnx (k := 0) fx 13 rfl rfl rfl S rfl (fun _ _ _ _ _ _ us hl => match us, hl with | [_, _], _ => rfl) fun f cdv A outer s H E hr tk hp =>
  (bv_cons (sv_for hp rfl (iv_any (ev_p (pv_tup (qa_cons (pv_fld (.cons (He.cls_ok (fx.fact 2)) (He.noat_ok (fx.fact 4)) FldOk.nil) (pv_name 0)) (qa_cons (pv_fld (.cons (He.cls_ok (fx.fact 2)) (He.noat_ok (fx.fact 3)) FldOk.nil) (pv_name 0)) qa_nil))))) (gv_name 2 S.nd)
  (bv_one (sv_if (tv_w (wv_or (tv_not (tv_val (ev_p (pv_callB callr_isi (cao_isi (isok fx)) rfl (fx.free 11) rfl (qa_cons (pv_name 2) (qa_cons (pv_type rfl (fx.free 12) rfl) qa_nil)))))) (wv_or1 (tv_val (ev_p (pv_callB callr_isi (cao_isi (isok fx)) rfl (fx.free 11) rfl (qa_cons (pv_name 2) (qa_cons (pv_type rfl (fx.free 10) rfl) qa_nil))))))))
  (bv_one (sv_ret (ev_p (pv_bl))))
  bv_nil)))
  (bv_one (sv_ret (ev_p (pv_cmp (opr_eqU hr.units) opo_eq (pv_tup (qa_cons (pv_fld (.cons (He.cls_ok (fx.fact 2)) (He.noat_ok (fx.fact 4)) FldOk.nil) (pv_name 0)) (qa_cons (pv_fld (.cons (He.cls_ok (fx.fact 2)) (He.noat_ok (fx.fact 3)) FldOk.nil) (pv_name 0)) qa_nil))) (pv_name 1) (nomark _))))))
theorem ok_law_written (fx : FX fa fn exl K mg) : FnX P w K mg base 1 d_law_written ["_law_share_here"] f_law_written := by
  have S : FnScope ["_law_share_here"] ["_law_share_here"] d_law_written.scope := ⟨rfl, rfl, rfl, by decide +kernel, rfl, by decide +kernel, by decide +kernel⟩
  exact fnx (k := 0) fx 14 rfl rfl rfl S rfl (fun _ _ _ _ _ _ us hl => match us, hl with | [_], _ => rfl) fun f cdv A outer s H E hr tk hp =>
  (bv_cons (sv_if (tv_cmp (opr_eqU hr.units) opo_eq (ev_p (pv_ix hr (pv_name 0) (pv_int))) (ev_p (pv_int)) (nomark _))
  (bv_one (sv_ret (ev_p (pv_callTy callr_str cao_str rfl (fx.free 22) rfl (qa_cons (pv_ix hr (pv_name 0) (pv_int)) qa_nil)))))
  bv_nil)
  (bv_one (sv_ret (ev_p (pv_op opr_add opo_add (pv_op opr_add opo_add (pv_callTy callr_str cao_str rfl (fx.free 22) rfl (qa_cons (pv_ix hr (pv_name 0) (pv_int)) qa_nil)) (pv_str)) (pv_callTy callr_str cao_str rfl (fx.free 22) rfl (qa_cons (pv_ix hr (pv_name 0) (pv_int)) qa_nil)))))))
theorem ok_law_one_right (fx : FX fa fn exl K mg) : FnX P w K mg base 2 d_law_one_right ["_law_share_here", "_law_due"] f_law_one_right := by
  obtain ⟨_, F_law_written, O_law_written, B_law_written⟩ := ok_law_written (P := P) (w := w) (base := base) fx
  obtain ⟨_, F_law_is_share, O_law_is_share, B_law_is_share⟩ := ok_law_is_share (P := P) (w := w) (base := base) fx
  obtain ⟨_, F_Share_written, O_Share_written, B_Share_written⟩ := ok_Share_written (P := P) (w := w) (base := base) fx
  have S : FnScope ["_law_share_here", "_law_due", "_law_text"] ["_law_share_here", "_law_due"] d_law_one_right.scope := ⟨rfl, rfl, rfl, by decide +kernel, rfl, by decide +kernel, by decide +kernel⟩
  exact fnx (k := 1) fx 15 rfl rfl rfl S rfl (fun _ _ _ _ _ _ us hl => match us, hl with | [_, _], _ => rfl) fun f cdv A outer s H E hr tk hp =>
  (bv_cons (sv_set 2 S.nd (ev_meth0 (cn := "Share") (ev_name 0) (He.cls_ok (fx.fact 2)) (He.meth_ok (fx.fact 25)) O_Share_written (hr.mono (by decide)) B_Share_written tk ))
  (bv_one (sv_ret (ev_and (ev_call O_law_is_share (hr.mono (by decide)) rfl (fx.glo 24) F_law_is_share.kp B_law_is_share tk (av_cons (ev_name 0) (av_cons (ev_name 1) av_nil))) (ev_and (ev_p (pv_callB callr_isi (cao_isi (isok fx)) rfl (fx.free 11) rfl (qa_cons (pv_name 2) (qa_cons (pv_type rfl (fx.free 22) rfl) qa_nil)))) (ev_one (ev_cmp (opr_eqU hr.units) opo_eq (ev_name 2) (ev_call O_law_written (hr.mono (by decide)) rfl (fx.glo 23) F_law_written.kp B_law_written tk (av_cons (ev_name 1) av_nil)) (nomark _))))))))
theorem ok_law_times (fx : FX fa fn exl K mg) : FnX P w K mg base 2 d_law_times ["_law_one", "_law_other"] f_law_times := by
  obtain ⟨_, F_law_share, O_law_share, B_law_share⟩ := ok_law_share (P := P) (w := w) (base := base) fx
  have S : FnScope ["_law_one", "_law_other"] ["_law_one", "_law_other"] d_law_times.scope := ⟨rfl, rfl, rfl, by decide +kernel, rfl, by decide +kernel, by decide +kernel⟩
  exact fnx (k := 1) fx 16 rfl rfl rfl S rfl (fun _ _ _ _ _ _ us hl => match us, hl with | [_, _], _ => rfl) fun f cdv A outer s H E hr tk hp =>
  (bv_one (sv_ret (ev_call O_law_share (hr.mono (by decide)) rfl (fx.glo 26) F_law_share.kp B_law_share tk (av_cons (ev_p (pv_op opr_mul opo_mul (pv_ix hr (pv_name 0) (pv_int)) (pv_ix hr (pv_name 1) (pv_int)))) (av_cons (ev_p (pv_op opr_mul opo_mul (pv_ix hr (pv_name 0) (pv_int)) (pv_ix hr (pv_name 1) (pv_int)))) av_nil)))))
theorem ok_law_added (fx : FX fa fn exl K mg) : FnX P w K mg base 2 d_law_added ["_law_one", "_law_other"] f_law_added := by
  obtain ⟨_, F_law_share, O_law_share, B_law_share⟩ := ok_law_share (P := P) (w := w) (base := base) fx
  have S : FnScope ["_law_one", "_law_other"] ["_law_one", "_law_other"] d_law_added.scope := ⟨rfl, rfl, rfl, by decide +kernel, rfl, by decide +kernel, by decide +kernel⟩
  exact fnx (k := 1) fx 17 rfl rfl rfl S rfl (fun _ _ _ _ _ _ us hl => match us, hl with | [_, _], _ => rfl) fun f cdv A outer s H E hr tk hp =>
  (bv_one (sv_ret (ev_call O_law_share (hr.mono (by decide)) rfl (fx.glo 26) F_law_share.kp B_law_share tk (av_cons (ev_p (pv_op opr_add opo_add (pv_op opr_mul opo_mul (pv_ix hr (pv_name 0) (pv_int)) (pv_ix hr (pv_name 1) (pv_int))) (pv_op opr_mul opo_mul (pv_ix hr (pv_name 1) (pv_int)) (pv_ix hr (pv_name 0) (pv_int))))) (av_cons (ev_p (pv_op opr_mul opo_mul (pv_ix hr (pv_name 0) (pv_int)) (pv_ix hr (pv_name 1) (pv_int)))) av_nil)))))
theorem ok_Share_add (fx : FX fa fn exl K mg) : FnX P w K mg base 5 d_Share_add ["self", "other"] f_Share_add := by
  obtain ⟨_, F_Share_init, O_Share_init, B_Share_init⟩ := ok_Share_init (P := P) (w := w) (base := base) fx
  have S : FnScope ["self", "other"] ["self", "other"] d_Share_add.scope := ⟨rfl, rfl, rfl, by decide +kernel, rfl, by decide +kernel, by decide +kernel⟩
  exact fnx (k := 4) fx 18 rfl rfl rfl S rfl (fun _ _ _ _ _ _ us hl => match us, hl with | [_, _], _ => rfl) fun f cdv A outer s H E hr tk hp =>
  (bv_one (sv_ret (ev_make (He.mkr_ok (fx.fact 8)) O_Share_init (hr.mono (by decide)) rfl (fx.glo 9) B_Share_init tk (av_cons (ev_p (pv_op opr_add opo_add (pv_op opr_mul opo_mul (pv_fld (.cons (He.cls_ok (fx.fact 2)) (He.noat_ok (fx.fact 4)) FldOk.nil) (pv_name 0)) (pv_fld (.cons (He.cls_ok (fx.fact 2)) (He.noat_ok (fx.fact 3)) FldOk.nil) (pv_name 1))) (pv_op opr_mul opo_mul (pv_fld (.cons (He.cls_ok (fx.fact 2)) (He.noat_ok (fx.fact 4)) FldOk.nil) (pv_name 1)) (pv_fld (.cons (He.cls_ok (fx.fact 2)) (He.noat_ok (fx.fact 3)) FldOk.nil) (pv_name 0))))) (av_cons (ev_p (pv_op opr_mul opo_mul (pv_fld (.cons (He.cls_ok (fx.fact 2)) (He.noat_ok (fx.fact 3)) FldOk.nil) (pv_name 0)) (pv_fld (.cons (He.cls_ok (fx.fact 2)) (He.noat_ok (fx.fact 3)) FldOk.nil) (pv_name 1)))) av_nil)))))
theorem ok_Share_sub (fx : FX fa fn exl K mg) : FnX P w K mg base 5 d_Share_sub ["self", "other"] f_Share_sub := by
  obtain ⟨_, F_Share_init, O_Share_init, B_Share_init⟩ := ok_Share_init (P := P) (w := w) (base := base) fx
  have S : FnScope ["self", "other"] ["self", "other"] d_Share_sub.scope := ⟨rfl, rfl, rfl, by decide +kernel, rfl, by decide +kernel, by decide +kernel⟩
  exact fnx (k := 4) fx 19 rfl rfl rfl S rfl (fun _ _ _ _ _ _ us hl => match us, hl with | [_, _], _ => rfl) fun f cdv A outer s H E hr tk hp =>
  (bv_one (sv_ret (ev_make (He.mkr_ok (fx.fact 8)) O_Share_init (hr.mono (by decide)) rfl (fx.glo 9) B_Share_init tk (av_cons (ev_p (pv_op op_sub opo_sub (pv_op opr_mul opo_mul (pv_fld (.cons (He.cls_ok (fx.fact 2)) (He.noat_ok (fx.fact 4)) FldOk.nil) (pv_name 0)) (pv_fld (.cons (He.cls_ok (fx.fact 2)) (He.noat_ok (fx.fact 3)) FldOk.nil) (pv_name 1))) (pv_op opr_mul opo_mul (pv_fld (.cons (He.cls_ok (fx.fact 2)) (He.noat_ok (fx.fact 4)) FldOk.nil) (pv_name 1)) (pv_fld (.cons (He.cls_ok (fx.fact 2)) (He.noat_ok (fx.fact 3)) FldOk.nil) (pv_name 0))))) (av_cons (ev_p (pv_op opr_mul opo_mul (pv_fld (.cons (He.cls_ok (fx.fact 2)) (He.noat_ok (fx.fact 3)) FldOk.nil) (pv_name 0)) (pv_fld (.cons (He.cls_ok (fx.fact 2)) (He.noat_ok (fx.fact 3)) FldOk.nil) (pv_name 1)))) av_nil)))))
theorem ok_Share_mul (fx : FX fa fn exl K mg) : FnX P w K mg base 5 d_Share_mul ["self", "other"] f_Share_mul := by
  obtain ⟨_, F_Share_init, O_Share_init, B_Share_init⟩ := ok_Share_init (P := P) (w := w) (base := base) fx
  have S : FnScope ["self", "other"] ["self", "other"] d_Share_mul.scope := ⟨rfl, rfl, rfl, by decide +kernel, rfl, by decide +kernel, by decide +kernel⟩
  exact fnx (k := 4) fx 20 rfl rfl rfl S rfl (fun _ _ _ _ _ _ us hl => match us, hl with | [_, _], _ => rfl) fun f cdv A outer s H E hr tk hp =>
  (bv_one (sv_ret (ev_make (He.mkr_ok (fx.fact 8)) O_Share_init (hr.mono (by decide)) rfl (fx.glo 9) B_Share_init tk (av_cons (ev_p (pv_op opr_mul opo_mul (pv_fld (.cons (He.cls_ok (fx.fact 2)) (He.noat_ok (fx.fact 4)) FldOk.nil) (pv_name 0)) (pv_fld (.cons (He.cls_ok (fx.fact 2)) (He.noat_ok (fx.fact 4)) FldOk.nil) (pv_name 1)))) (av_cons (ev_p (pv_op opr_mul opo_mul (pv_fld (.cons (He.cls_ok (fx.fact 2)) (He.noat_ok (fx.fact 3)) FldOk.nil) (pv_name 0)) (pv_fld (.cons (He.cls_ok (fx.fact 2)) (He.noat_ok (fx.fact 3)) FldOk.nil) (pv_name 1)))) av_nil)))))
theorem ok_Share_eq (fx : FX fa fn exl K mg) : FnX P w K mg base 1 d_Share_eq ["self", "other"] f_Share_eq := by
  have S : FnScope ["self", "other"] ["self", "other"] d_Share_eq.scope := ⟨rfl, rfl, rfl, by decide +kernel, rfl, by decide +kernel, by decide +kernel⟩
  exact fnx (k := 0) fx 21 rfl rfl rfl S rfl (fun _ _ _ _ _ _ us hl => match us, hl with | [_, _], _ => rfl) fun f cdv A outer s H E hr tk hp =>
  (bv_cons (sv_if (tv_not (tv_val (ev_p (pv_callB callr_isi (cao_isi (isok fx)) rfl (fx.free 11) rfl (qa_cons (pv_name 1) (qa_cons (pv_glo rfl (fx.glo 9)) qa_nil))))))
  (bv_one (sv_ret (ev_p (pv_bl))))
  bv_nil)
  (bv_one (sv_ret (ev_and (ev_p (pv_cmp (opr_eqU hr.units) opo_eq (pv_fld (.cons (He.cls_ok (fx.fact 2)) (He.noat_ok (fx.fact 4)) FldOk.nil) (pv_name 0)) (pv_fld (.cons (He.cls_ok (fx.fact 2)) (He.noat_ok (fx.fact 4)) FldOk.nil) (pv_name 1)) (nomark _))) (ev_one (ev_p (pv_cmp (opr_eqU hr.units) opo_eq (pv_fld (.cons (He.cls_ok (fx.fact 2)) (He.noat_ok (fx.fact 3)) FldOk.nil) (pv_name 0)) (pv_fld (.cons (He.cls_ok (fx.fact 2)) (He.noat_ok (fx.fact 3)) FldOk.nil) (pv_name 1)) (nomark _))))))))
theorem ok_law_two_right (fx : FX fa fn exl K mg) : FnX P w K mg base 6 d_law_two_right ["_law_one", "_law_other", "_law_first", "_law_second"] f_law_two_right := by
  obtain ⟨_, F_Share_is_below, O_Share_is_below, B_Share_is_below⟩ := ok_Share_is_below (P := P) (w := w) (base := base) fx
  obtain ⟨_, F_Share_eq, O_Share_eq, B_Share_eq⟩ := ok_Share_eq (P := P) (w := w) (base := base) fx
  obtain ⟨_, F_law_one_right, O_law_one_right, B_law_one_right⟩ := ok_law_one_right (P := P) (w := w) (base := base) fx
  obtain ⟨_, F_law_times, O_law_times, B_law_times⟩ := ok_law_times (P := P) (w := w) (base := base) fx
  obtain ⟨_, F_Share_mul, O_Share_mul, B_Share_mul⟩ := ok_Share_mul (P := P) (w := w) (base := base) fx
  obtain ⟨_, F_law_added, O_law_added, B_law_added⟩ := ok_law_added (P := P) (w := w) (base := base) fx
  obtain ⟨_, F_Share_sub, O_Share_sub, B_Share_sub⟩ := ok_Share_sub (P := P) (w := w) (base := base) fx
  obtain ⟨_, F_Share_add, O_Share_add, B_Share_add⟩ := ok_Share_add (P := P) (w := w) (base := base) fx
  have S : FnScope ["_law_one", "_law_other", "_law_first", "_law_second", "_law_minus", "_law_alike", "_law_below"] ["_law_one", "_law_other", "_law_first", "_law_second"] d_law_two_right.scope := ⟨rfl, rfl, rfl, by decide +kernel, rfl, by decide +kernel, by decide +kernel⟩
  exact fnx (k := 5) fx 22 rfl rfl rfl S rfl (fun _ _ _ _ _ _ us hl => match us, hl with | [_, _, _, _], _ => rfl) fun f cdv A outer s H E hr tk hp =>
  (bv_cons (sv_set 4 S.nd (ev_p (pv_tup (qa_cons (pv_op op_sub opo_sub (pv_int) (pv_ix hr (pv_name 3) (pv_int))) (qa_cons (pv_ix hr (pv_name 3) (pv_int)) qa_nil)))))
  (bv_cons (sv_if (tv_w (wv_or (tv_not (tv_val (ev_call O_law_one_right (hr.mono (by decide)) rfl (fx.glo 29) F_law_one_right.kp B_law_one_right tk (av_cons (ev_fz (ev_own (cn := "Share") O_Share_add (hr.mono (by decide)) B_Share_add (fx.ex 8) (mthB_ok (fx.ex 10)).1 (mthB_ok (fx.ex 10)).2 (ev_name 0) (ev_name 1))) (av_cons (ev_fz (ev_call O_law_added (hr.mono (by decide)) rfl (fx.glo 30) F_law_added.kp B_law_added tk (av_cons (ev_name 2) (av_cons (ev_name 3) av_nil)))) av_nil))))) (wv_or1 (tv_not (tv_val (ev_call O_law_one_right (hr.mono (by decide)) rfl (fx.glo 29) F_law_one_right.kp B_law_one_right tk (av_cons (ev_fz (ev_own (cn := "Share") O_Share_sub (hr.mono (by decide)) B_Share_sub (fx.ex 8) (mthB_ok (fx.ex 9)).1 (mthB_ok (fx.ex 9)).2 (ev_name 0) (ev_name 1))) (av_cons (ev_fz (ev_call O_law_added (hr.mono (by decide)) rfl (fx.glo 30) F_law_added.kp B_law_added tk (av_cons (ev_name 2) (av_cons (ev_name 4) av_nil)))) av_nil))))))))
  (bv_one (sv_ret (ev_p (pv_bl))))
  bv_nil)
  (bv_cons (sv_if (tv_not (tv_val (ev_call O_law_one_right (hr.mono (by decide)) rfl (fx.glo 29) F_law_one_right.kp B_law_one_right tk (av_cons (ev_fz (ev_own (cn := "Share") O_Share_mul (hr.mono (by decide)) B_Share_mul (fx.ex 8) (mthB_ok (fx.ex 7)).1 (mthB_ok (fx.ex 7)).2 (ev_name 0) (ev_name 1))) (av_cons (ev_fz (ev_call O_law_times (hr.mono (by decide)) rfl (fx.glo 28) F_law_times.kp B_law_times tk (av_cons (ev_name 2) (av_cons (ev_name 3) av_nil)))) av_nil)))))
  (bv_one (sv_ret (ev_p (pv_bl))))
  bv_nil)
  (bv_cons (sv_set 5 S.nd (ev_p (pv_cmp (opr_ownEq O_Share_eq (hr.mono (by decide)) B_Share_eq (mthB_ok (fx.ex 5)).1 (mthB_ok (fx.ex 5)).2) (opo_ownEq (nfB_ok (fx.ex 6) (insok fx))) (pv_name 0) (pv_name 1) (nomark _))))
  (bv_cons (sv_set 6 S.nd (ev_meth (cn := "Share") (ev_name 0) (He.cls_ok (fx.fact 2)) (He.meth_ok (fx.fact 27)) O_Share_is_below (hr.mono (by decide)) B_Share_is_below tk (av_cons (ev_name 1) av_nil)))
  (bv_cons (sv_if (tv_w (wv_or (tv_not (tv_val (ev_p (pv_callB callr_isi (cao_isi (isok fx)) rfl (fx.free 11) rfl (qa_cons (pv_name 5) (qa_cons (pv_type rfl (fx.free 10) rfl) qa_nil)))))) (wv_or (tv_cmp (opr_neU hr.units) opo_ne (ev_name 5) (ev_p (pv_cmp (opr_eqU hr.units) opo_eq (pv_name 2) (pv_name 3) (nomark _))) (nomark _)) (wv_or1 (tv_not (tv_val (ev_p (pv_callB callr_isi (cao_isi (isok fx)) rfl (fx.free 11) rfl (qa_cons (pv_name 6) (qa_cons (pv_type rfl (fx.free 10) rfl) qa_nil))))))))))
  (bv_one (sv_ret (ev_p (pv_bl))))
  bv_nil)
  (bv_one (sv_ret (ev_p (pv_cmp (opr_eqU hr.units) opo_eq (pv_name 6) (pv_cmp opr_lt opo_lt (pv_op opr_mul opo_mul (pv_ix hr (pv_name 2) (pv_int)) (pv_ix hr (pv_name 3) (pv_int))) (pv_op opr_mul opo_mul (pv_ix hr (pv_name 3) (pv_int)) (pv_ix hr (pv_name 2) (pv_int))) (nomark _)) (nomark _)))))))))))
theorem ok_law (fx : FX fa fn exl K mg) : FnX P w K mg base 7 d_law ["_law_script"] f_law := by
  obtain ⟨_, F_law_refused, O_law_refused, B_law_refused⟩ := ok_law_refused (P := P) (w := w) (base := base) fx
  obtain ⟨_, F_Share_eq, O_Share_eq, B_Share_eq⟩ := ok_Share_eq (P := P) (w := w) (base := base) fx
  obtain ⟨_, F_law_pick, O_law_pick, B_law_pick⟩ := ok_law_pick (P := P) (w := w) (base := base) fx
  obtain ⟨_, F_law_one_right, O_law_one_right, B_law_one_right⟩ := ok_law_one_right (P := P) (w := w) (base := base) fx
  obtain ⟨_, F_law_times, O_law_times, B_law_times⟩ := ok_law_times (P := P) (w := w) (base := base) fx
  obtain ⟨_, F_law_added, O_law_added, B_law_added⟩ := ok_law_added (P := P) (w := w) (base := base) fx
  obtain ⟨_, F_Share_mul, O_Share_mul, B_Share_mul⟩ := ok_Share_mul (P := P) (w := w) (base := base) fx
  obtain ⟨_, F_Share_add, O_Share_add, B_Share_add⟩ := ok_Share_add (P := P) (w := w) (base := base) fx
  obtain ⟨_, F_Share_init, O_Share_init, B_Share_init⟩ := ok_Share_init (P := P) (w := w) (base := base) fx
  obtain ⟨_, F_law_draw, O_law_draw, B_law_draw⟩ := ok_law_draw (P := P) (w := w) (base := base) fx
  obtain ⟨_, F_law_two_right, O_law_two_right, B_law_two_right⟩ := ok_law_two_right (P := P) (w := w) (base := base) fx
  obtain ⟨_, F_law_share, O_law_share, B_law_share⟩ := ok_law_share (P := P) (w := w) (base := base) fx
  obtain ⟨_, F_law_pair, O_law_pair, B_law_pair⟩ := ok_law_pair (P := P) (w := w) (base := base) fx
  obtain ⟨_, F_law_tape, O_law_tape, B_law_tape⟩ := ok_law_tape (P := P) (w := w) (base := base) fx
  have S : FnScope ["_law_script", "_law_tape_here", "_law_pairs", "_law_k", "_law_more", "_law_dues", "_law_pair_here", "_law_shares", "_law_at", "_law_total", "_law_product", "_law_sums"] ["_law_script"] d_law.scope := ⟨rfl, rfl, rfl, by decide +kernel, rfl, by decide +kernel, by decide +kernel⟩
  exact fnx (k := 6) fx 23 rfl rfl rfl S rfl (fun _ _ _ _ _ _ us hl => match us, hl with | [_], _ => rfl) fun f cdv A outer s H E hr tk hp =>
  (bv_cons (sv_set 1 S.nd (ev_call O_law_tape (hr.mono (by decide)) rfl (fx.glo 34) F_law_tape.kp B_law_tape tk (av_cons (ev_name 0) av_nil)))
  (bv_cons (sv_setLc 2 [3] rfl S.nd (iv_range1 rfl (fx.free 19) (ev_op opr_add opo_add (ev_p (pv_int)) (ev_call O_law_draw (hr.mono (by decide)) rfl (fx.glo 18) F_law_draw.kp B_law_draw tk (av_ref 1 (av_cons (ev_p (pv_int)) av_nil))))) (blkOk_by (own := [("_law_k", 3)]) (by show blkC ["_law_script", "_law_tape_here", "_law_pairs", "_law_k", "_law_more", "_law_dues", "_law_pair_here", "_law_shares", "_law_at", "_law_total", "_law_product", "_law_sums"] d_law.scope _ _ = true; decide +kernel)) rfl (fun _ _ _ _ _ => (gv_name 3 S.nd)) (fun _ _ _ _ _ => tests_yes) (fun _ _ _ _ _ => (ev_call O_law_pair (hr.mono (by decide)) rfl (fx.glo 33) F_law_pair.kp B_law_pair takes0 (av_ref 1 av_nil))) (sw_true rfl rfl rfl rfl))
  (bv_cons (sv_if (tv_cmp (opr_eqU hr.units) opo_eq (ev_call O_law_draw (hr.mono (by decide)) rfl (fx.glo 18) F_law_draw.kp B_law_draw tk (av_ref 1 (av_cons (ev_p (pv_int)) av_nil))) (ev_p (pv_int)) (nomark _))
  (bv_cons (sv_set 4 S.nd (ev_op opr_add opo_add (ev_p (pv_int)) (ev_call O_law_draw (hr.mono (by decide)) rfl (fx.glo 18) F_law_draw.kp B_law_draw tk (av_ref 1 (av_cons (ev_p (pv_int)) av_nil)))))
  (bv_one (sv_put hr (lv_name 2) (pv_int) (ev_p (pv_tup (qa_cons (pv_op opr_mul opo_mul (pv_ix hr (pv_ix hr (pv_name 2) (pv_int)) (pv_int)) (pv_name 4)) (qa_cons (pv_op opr_mul opo_mul (pv_ix hr (pv_ix hr (pv_name 2) (pv_int)) (pv_int)) (pv_name 4)) qa_nil)))))))
  bv_nil)
  (bv_cons (sv_setLc 5 [6] rfl S.nd (iv_any (ev_name 2)) (blkOk_by (own := [("_law_pair_here", 6)]) (by show blkC ["_law_script", "_law_tape_here", "_law_pairs", "_law_k", "_law_more", "_law_dues", "_law_pair_here", "_law_shares", "_law_at", "_law_total", "_law_product", "_law_sums"] d_law.scope _ _ = true; decide +kernel)) rfl (fun _ _ _ _ _ => (gv_name 6 S.nd)) (fun _ _ _ _ _ => tests_yes) (fun _ _ _ _ _ => (ev_call O_law_share (hr.mono (by decide)) rfl (fx.glo 26) F_law_share.kp B_law_share takes0 (av_cons (ev_p (pv_ix hr (pv_name 6) (pv_int))) (av_cons (ev_p (pv_ix hr (pv_name 6) (pv_int))) av_nil)))) (sw_true rfl rfl rfl rfl))
  (bv_cons (sv_setLc 7 [6] rfl S.nd (iv_any (ev_name 2)) (blkOk_by (own := [("_law_pair_here", 6)]) (by show blkC ["_law_script", "_law_tape_here", "_law_pairs", "_law_k", "_law_more", "_law_dues", "_law_pair_here", "_law_shares", "_law_at", "_law_total", "_law_product", "_law_sums"] d_law.scope _ _ = true; decide +kernel)) rfl (fun _ _ _ _ _ => (gv_name 6 S.nd)) (fun _ _ _ _ _ => tests_yes) (fun _ _ _ _ _ => (ev_make (He.mkr_ok (fx.fact 8)) O_Share_init (hr.mono (by decide)) rfl (fx.glo 9) B_Share_init takes0 (av_cons (ev_p (pv_ix hr (pv_name 6) (pv_int))) (av_cons (ev_p (pv_ix hr (pv_name 6) (pv_int))) av_nil)))) (sw_true rfl rfl rfl rfl))
  (bv_cons (sv_for hp rfl (iv_range1 rfl (fx.free 19) (ev_p (pv_callB callr_len cao_len rfl (fx.free 17) rfl (qa_cons (pv_name 2) qa_nil)))) (gv_name 3 S.nd)
  (bv_cons (sv_set 8 S.nd (ev_call O_law_draw (hr.mono (by decide)) rfl (fx.glo 18) F_law_draw.kp B_law_draw tk (av_ref 1 (av_cons (ev_p (pv_callB callr_len cao_len rfl (fx.free 17) rfl (qa_cons (pv_name 2) qa_nil))) av_nil))))
  (bv_cons (sv_if (tv_w (wv_or (tv_not (tv_val (ev_call O_law_one_right (hr.mono (by decide)) rfl (fx.glo 29) F_law_one_right.kp B_law_one_right tk (av_cons (ev_p (pv_ix hr (pv_name 7) (pv_name 3))) (av_cons (ev_p (pv_ix hr (pv_name 5) (pv_name 3))) av_nil))))) (wv_or1 (tv_not (tv_val (ev_call O_law_two_right (hr.mono (by decide)) rfl (fx.glo 32) F_law_two_right.kp B_law_two_right tk (av_cons (ev_p (pv_ix hr (pv_name 7) (pv_name 3))) (av_cons (ev_p (pv_ix hr (pv_name 7) (pv_name 8))) (av_cons (ev_p (pv_ix hr (pv_name 5) (pv_name 3))) (av_cons (ev_p (pv_ix hr (pv_name 5) (pv_name 8))) av_nil))))))))))
  (bv_one (sv_ret (ev_p (pv_bl))))
  bv_nil)
  (bv_one (sv_if (tv_not (tv_val (ev_call O_law_two_right (hr.mono (by decide)) rfl (fx.glo 32) F_law_two_right.kp B_law_two_right tk (av_cons (ev_p (pv_ix hr (pv_name 7) (pv_name 3))) (av_cons (ev_p (pv_ix hr (pv_name 7) (pv_op op_mod opo_mod (pv_callTy call_int1 cao_int rfl (fx.free 12) rfl (qa_cons (pv_op opr_add opo_add (pv_name 3) (pv_int)) qa_nil)) (pv_callB callr_len cao_len rfl (fx.free 17) rfl (qa_cons (pv_name 2) qa_nil))))) (av_cons (ev_p (pv_ix hr (pv_name 5) (pv_name 3))) (av_cons (ev_p (pv_ix hr (pv_name 5) (pv_op op_mod opo_mod (pv_callTy call_int1 cao_int rfl (fx.free 12) rfl (qa_cons (pv_op opr_add opo_add (pv_name 3) (pv_int)) qa_nil)) (pv_callB callr_len cao_len rfl (fx.free 17) rfl (qa_cons (pv_name 2) qa_nil))))) av_nil)))))))
  (bv_one (sv_ret (ev_p (pv_bl))))
  bv_nil)))))
  (bv_cons (sv_set 9 S.nd (ev_make (He.mkr_ok (fx.fact 8)) O_Share_init (hr.mono (by decide)) rfl (fx.glo 9) B_Share_init tk (av_cons (ev_p (pv_int)) (av_cons (ev_op op_sub opo_sub (ev_p (pv_op op_sub opo_sub (pv_int) (pv_int))) (ev_call O_law_draw (hr.mono (by decide)) rfl (fx.glo 18) F_law_draw.kp B_law_draw tk (av_ref 1 (av_cons (ev_p (pv_int)) av_nil)))) av_nil))))
  (bv_cons (sv_set 10 S.nd (ev_make (He.mkr_ok (fx.fact 8)) O_Share_init (hr.mono (by decide)) rfl (fx.glo 9) B_Share_init tk (av_cons (ev_p (pv_int)) (av_cons (ev_p (pv_int)) av_nil))))
  (bv_cons (sv_set 11 S.nd (ev_lst (av_cons (ev_p (pv_tup (qa_cons (pv_int) (qa_cons (pv_int) qa_nil)))) (av_cons (ev_p (pv_tup (qa_cons (pv_int) (qa_cons (pv_int) qa_nil)))) av_nil))))
  (bv_cons (sv_for hp rfl (iv_range1 rfl (fx.free 19) (ev_p (pv_callB callr_len cao_len rfl (fx.free 17) rfl (qa_cons (pv_name 2) qa_nil)))) (gv_name 3 S.nd)
  (bv_cons (sv_set 9 S.nd (ev_own (cn := "Share") O_Share_add (hr.mono (by decide)) B_Share_add (fx.ex 8) (mthB_ok (fx.ex 10)).1 (mthB_ok (fx.ex 10)).2 (ev_name 9) (ev_p (pv_ix hr (pv_name 7) (pv_name 3)))))
  (bv_cons (sv_set 10 S.nd (ev_own (cn := "Share") O_Share_mul (hr.mono (by decide)) B_Share_mul (fx.ex 8) (mthB_ok (fx.ex 7)).1 (mthB_ok (fx.ex 7)).2 (ev_name 10) (ev_p (pv_ix hr (pv_name 7) (pv_name 3)))))
  (bv_one (sv_set 11 S.nd (ev_lst (av_cons (ev_fz (ev_call O_law_added (hr.mono (by decide)) rfl (fx.glo 30) F_law_added.kp B_law_added tk (av_cons (ev_p (pv_ix hr (pv_name 11) (pv_int))) (av_cons (ev_p (pv_ix hr (pv_name 5) (pv_name 3))) av_nil)))) (av_cons (ev_fz (ev_call O_law_times (hr.mono (by decide)) rfl (fx.glo 28) F_law_times.kp B_law_times tk (av_cons (ev_p (pv_ix hr (pv_name 11) (pv_int))) (av_cons (ev_p (pv_ix hr (pv_name 5) (pv_name 3))) av_nil)))) av_nil))))))))
  (bv_cons (sv_if (tv_w (wv_or (tv_not (tv_val (ev_call O_law_one_right (hr.mono (by decide)) rfl (fx.glo 29) F_law_one_right.kp B_law_one_right tk (av_cons (ev_name 9) (av_cons (ev_p (pv_ix hr (pv_name 11) (pv_int))) av_nil))))) (wv_or1 (tv_not (tv_val (ev_call O_law_one_right (hr.mono (by decide)) rfl (fx.glo 29) F_law_one_right.kp B_law_one_right tk (av_cons (ev_name 10) (av_cons (ev_p (pv_ix hr (pv_name 11) (pv_int))) av_nil))))))))
  (bv_one (sv_ret (ev_p (pv_bl))))
  bv_nil)
  (bv_cons (sv_for hp rfl (iv_range1 rfl (fx.free 19) (ev_p (pv_callB callr_len cao_len rfl (fx.free 17) rfl (qa_cons (pv_name 2) qa_nil)))) (gv_name 3 S.nd)
  (bv_one (sv_if (tv_w (wv_or (tv_not (tv_val (ev_call O_law_one_right (hr.mono (by decide)) rfl (fx.glo 29) F_law_one_right.kp B_law_one_right tk (av_cons (ev_p (pv_ix hr (pv_name 7) (pv_name 3))) (av_cons (ev_p (pv_ix hr (pv_name 5) (pv_name 3))) av_nil))))) (wv_or1 (tv_cmp opr_isnot opo_isnot (ev_cmp (opr_ownEq O_Share_eq (hr.mono (by decide)) B_Share_eq (mthB_ok (fx.ex 5)).1 (mthB_ok (fx.ex 5)).2) (opo_ownEq (nfB_ok (fx.ex 6) (insok fx))) (ev_p (pv_ix hr (pv_name 7) (pv_name 3))) (ev_call O_law_pick (hr.mono (by decide)) rfl (fx.glo 20) F_law_pick.kp B_law_pick tk (av_ref 1 (av_cons (ev_fz (ev_lst (av_cons (ev_p (pv_non)) (av_cons (ev_p (pv_ix hr (pv_name 5) (pv_name 3))) (av_cons (ev_p (pv_ix hr (pv_ix hr (pv_name 5) (pv_name 3)) (pv_int))) (av_cons (ev_p (pv_str)) av_nil)))))) av_nil))) (nomark _)) (ev_p (pv_bl)) (nomark _)))))
  (bv_one (sv_ret (ev_p (pv_bl))))
  bv_nil)))
  (bv_one (sv_ret (ev_call O_law_refused (hr.mono (by decide)) rfl (fx.glo 31) F_law_refused.kp B_law_refused tk (av_cons (ev_p (pv_ix hr (pv_ix hr (pv_name 2) (pv_int)) (pv_int))) av_nil))))))))))))))))
end
end Dv

-- P_k44
set_option maxHeartbeats 4000000
namespace Dv
open PySem PySem.Spec
def mixed (n t : Int) : Int := let f := (n * 48271 + t * 69621 + 11) % 2147483647; let s := (f * 16807 + f / 127773 + t * 271) % 1000003; (s * s + f / 1009) % 999983
theorem f_mixed (n t : Int) : f_law_mixed [.fz (.int n), .fz (.int t)] = some (.ok (.fz (.int (mixed n t))), [.fz (.int n), .fz (.int t)]) := by
  have h1 : ∀ i, mulOk i 48271 = true := fun i => mulOk_r (by decide)
  have h2 : ∀ i, mulOk i 69621 = true := fun i => mulOk_r (by decide)
  have h3 : ∀ i, mulOk i 16807 = true := fun i => mulOk_r (by decide)
  have h4 : ∀ i, mulOk i 271 = true := fun i => mulOk_r (by decide)
  have h5 : ∀ i : Int, mulOk (i % 1000003) (i % 1000003) = true := fun i => mulOk_r (by omega)
  have h6 : ∀ i, fdivOk i 127773 = true := fun i => fdivOk_of (by decide) (by decide)
  have h7 : ∀ i, fdivOk i 1009 = true := fun i => fdivOk_of (by decide) (by decide)
  simp [f_law_mixed, fnD_ap, m_law_mixed, h1, h2, h3, h4, h5, h6, h7, mixed]
theorem f_tape (ns : List Int) : f_law_tape [.fz (.lst (ns.map .int))] = some (.ok (Tp.o ⟨ns, 0, 0, 0, 7, 0⟩), [.fz (.lst (ns.map .int))]) := by
  simp [f_law_tape, fnD_ap, m_law_tape, eDic, eList, seqD, Tp.o]
theorem pow18 : (10 : Int) ^ 18 = 1000000000000000000 := by decide
/-- the slots within a draw -/
abbrev drE (t : Tp) (m : Int) (x y : Option O) : Env := [some t.o, some (.fz (.int m)), x, y]
theorem draw_b4 (t : Tp) (m : Int) (h : t.at_ < t.cells.length) : ∃ t2 x, m_law_draw_b4 (drE t m none none) = some (.nx, drE t2 m (some x) none) := by
  have h1 : L2.atI (t.cells.map (O.fz ∘ D.int)) (t.at_ : Int) = some (.fz (.int t.cells[t.at_])) := by
    rw [atI_nat (by simpa using h)]; simp
  have hp : gPow (.fz (.int 10)) (.fz (.int 18)) = some (.int 1000000000000000000) := rfl
  by_cases hg : (1000000000000000000 : Int) ≤ t.cells[t.at_]
  · exact ⟨_, _, by simp [m_law_draw_b4, m_law_draw_b5, h1, f_mixed, hp, hg]; exact ⟨rfl, rfl⟩⟩
  · exact ⟨_, _, by simp [m_law_draw_b4, m_law_draw_b5, h1, f_mixed, hp, hg]; exact ⟨rfl, rfl⟩⟩
theorem f_draw (t : Tp) (m : Int) (hm : 0 < m) : ∃ t' r, 0 ≤ r ∧ r < m ∧ f_law_draw [t.o, .fz (.int m)] = some (.ok (.fz (.int r)), [Tp.o t', .fz (.int m)]) := by
  have h7 : ∀ i, fdivOk i 1009 = true := fun i => fdivOk_of (by decide) (by decide)
  suffices h : ∃ t' x y v, 0 ≤ v ∧ v < m ∧ m_law_draw (drE t m none none) = some (.rt (.fz (.int v)), drE t' m x y) by
    obtain ⟨t', x, y, v, h1, h2, h3⟩ := h
    exact ⟨t', v, h1, h2, by simp [f_law_draw, fnD_ap, h3]⟩
  unfold m_law_draw
  rw [seqS_nx (e := drE { t with turn := t.turn + 1 } m none none) (by simp)]
  generalize ({ t with turn := t.turn + 1 } : Tp) = t1
  have st1 : ∃ t2 x, (ifS (tAnd' (tE (eOp gEq (eP (pIx (pN 0) (pC (.str "left")))) (eP (pC (.int 0))))) (tE (eOp gLt (eP (pIx (pN 0) (pC (.str "at")))) (eP (pCa gLen (qCons (pIx (pN 0) (pC (.str "cells"))) qNil)))))) m_law_draw_b4 nilS) (drE t1 m none none) = some (.nx, drE t2 m x none) := by
    by_cases h1 : t1.left = 0
    · by_cases h2 : t1.at_ < t1.cells.length
      · obtain ⟨t2, x, h3⟩ := draw_b4 t1 m h2
        exact ⟨t2, some x, by simp [h1, h2, h3]⟩
      · exact ⟨t1, none, by simp [h1, h2]⟩
    · exact ⟨t1, none, by simp [h1]⟩
  obtain ⟨t2, x, h2⟩ := st1
  rw [seqS_nx h2]
  have st2 : ∃ t3, (ifS (tE (eOp gGt (eP (pIx (pN 0) (pC (.str "left")))) (eP (pC (.int 0))))) m_law_draw_b3 nilS) (drE t2 m x none) = some (.nx, drE t3 m x none) := by
    by_cases h1 : 0 < t2.left
    · exact ⟨_, by simp [h1, m_law_draw_b3]; rfl⟩
    · exact ⟨t2, by simp [h1]⟩
  obtain ⟨t3, h3⟩ := st2
  rw [seqS_nx h3]
  by_cases hg : t3.great = 0
  · refine ⟨t3, x, none, mixed t3.seed t3.turn % m, Int.emod_nonneg _ (by omega), Int.emod_lt_of_pos _ hm, ?_⟩
    simp [hg, m_law_draw_b2, f_mixed, hm]
  · rw [seqS_nx (e := drE t3 m x none) (by simp [hg])]
    rw [seqS_nx (e := drE t3 m x (some (.fz (.int (t3.great % 1009))))) (by simp)]
    rw [seqS_nx (e := drE { t3 with great := t3.great / 1009 } m x (some (.fz (.int (t3.great % 1009))))) (by simp [h7])]
    generalize ({ t3 with great := t3.great / 1009 } : Tp) = t4
    have st5 : ∃ t5, (ifS (tOr' (tE (eOp gEq (eP (pIx (pN 0) (pC (.str "great")))) (eP (pC (.int 0))))) (tE (eOp gEq (eP (pIx (pN 0) (pC (.str "left")))) (eP (pC (.int 0)))))) m_law_draw_b1 nilS) (drE t4 m x (some (.fz (.int (t3.great % 1009))))) = some (.nx, drE t5 m x (some (.fz (.int (t3.great % 1009))))) := by
      by_cases h1 : t4.great = 0
      · exact ⟨_, by simp [h1, m_law_draw_b1]; rfl⟩
      · by_cases h2 : t4.left = 0
        · exact ⟨_, by simp [h1, h2, m_law_draw_b1]; rfl⟩
        · exact ⟨t4, by simp [h1, h2]⟩
    obtain ⟨t5, h5⟩ := st5
    rw [seqS_nx h5]
    exact ⟨t5, x, _, t3.great % 1009 % m, Int.emod_nonneg _ (by omega), Int.emod_lt_of_pos _ hm, by simp [hm]; rfl⟩
theorem f_pick (t : Tp) (ds : List D) (h : ds ≠ []) : ∃ t' i, ∃ (hi : i < ds.length), f_law_pick [t.o, .fz (.lst ds)] = some (.ok (.fz ds[i]), [Tp.o t', .fz (.lst ds)]) := by
  obtain ⟨t', r, h0, h1, h2⟩ := f_draw t ds.length (by have := List.length_pos_iff.mpr h; omega)
  obtain ⟨j, rfl⟩ := Int.eq_ofNat_of_zero_le h0
  have hj : j < ds.length := by omega
  have ha : L2.atI ds (j : Int) = some ds[j] := atI_nat hj
  exact ⟨t', j, hj, by simp [f_law_pick, fnD_ap, m_law_pick, h2, ha]⟩

/-! ### integers of the tape -/
theorem grow (n : Nat) : ∀ (t : Tp) (sz : Int) (g : Int) (x : Option O) (ks : List Int), ks.length = n → 0 ≤ g →
    ∃ t' g' x', 0 ≤ g' ∧ g' + 1 ≤ (g + 1) * 1009 ^ n ∧ forL (gN 3) m_law_integer_b1 (ks.map .int) [some t.o, some (.fz (.int sz)), some (.fz (.int g)), x] = some (.nx, [some (Tp.o t'), some (.fz (.int sz)), some (.fz (.int g')), x']) := by
  induction n with
  | zero =>
    intro t sz g x ks h hg
    obtain rfl := List.length_eq_zero_iff.mp h
    exact ⟨t, g, x, hg, by simp, rfl⟩
  | succ n ih =>
    intro t sz g x ks h hg
    cases ks with
    | nil => simp at h
    | cons k ks =>
      obtain ⟨t1, r1, a1, b1, d1⟩ := f_draw t 1000 (by decide)
      obtain ⟨t2, i, hi, d2⟩ := f_pick t1 [.int (1 + r1), .int 1009] (by simp)
      obtain ⟨t3, r3, a3, b3, d3⟩ := f_draw t2 1009 (by decide)
      obtain ⟨p, hp, hp1, hp2⟩ : ∃ p : Int, [D.int (1 + r1), D.int 1009][i] = .int p ∧ 1 ≤ p ∧ p ≤ 1009 := by
        match i, hi with
        | 0, _ => exact ⟨1 + r1, rfl, by omega, by omega⟩
        | 1, _ => exact ⟨1009, rfl, by omega, by omega⟩
      have hm : mulOk g p = true := mulOk_r (by omega)
      rw [hp] at d2
      have st : m_law_integer_b1 [some t.o, some (.fz (.int sz)), some (.fz (.int g)), some (.fz (.int k))] = some (.nx, [some (Tp.o t3), some (.fz (.int sz)), some (.fz (.int (g * p + r3))), some (.fz (.int k))]) := by
        simp [m_law_integer_b1, d1, d2, d3, hm]
      obtain ⟨t', g', x', c1, c2, c3⟩ := ih t3 sz (g * p + r3) (some (.fz (.int k))) ks (by simpa using h) (by have := Int.mul_nonneg hg (show (0 : Int) ≤ p by omega); omega)
      refine ⟨t', g', x', c1, ?_, ?_⟩
      · have e1 : g * p + r3 + 1 ≤ (g + 1) * 1009 := by
          have : g * p ≤ g * 1009 := Int.mul_le_mul_of_nonneg_left hp2 hg
          omega
        have e2 : (0 : Int) ≤ 1009 ^ n := Int.pow_nonneg (by decide)
        have e3 := Int.mul_le_mul_of_nonneg_right e1 e2
        rw [Int.pow_succ]
        have e4 : (g + 1) * (1009 ^ n * 1009) = (g + 1) * 1009 * 1009 ^ n := by rw [Int.mul_comm (1009 ^ n) 1009, Int.mul_assoc]
        rw [e4]
        exact Int.le_trans c2 e3
      · rw [List.map_cons, forL_nx (e1 := [some t.o, some (.fz (.int sz)), some (.fz (.int g)), some (.fz (.int k))]) (by simp) st]
        exact c3
theorem f_integer (t : Tp) (sz : Int) : ∃ t' r, r.natAbs < 2 ^ 102 ∧ f_law_integer [t.o, .fz (.int sz)] = some (.ok (.fz (.int r)), [Tp.o t', .fz (.int sz)]) := by
  by_cases h0 : sz = 0
  · obtain ⟨t1, r1, a1, b1, d1⟩ := f_draw t 13 (by decide)
    exact ⟨t1, r1 - 6, by omega, by simp [f_law_integer, fnD_ap, m_law_integer, m_law_integer_b3, h0, d1]⟩
  · by_cases h1 : sz = 1
    · obtain ⟨t1, r1, a1, b1, d1⟩ := f_draw t 1000 (by decide)
      obtain ⟨t2, i, hi, d2⟩ := f_pick t1 [.int 0, .int 1, .int (-1), .int 2, .int 6, .int (-12), .int 360, .int (r1 - 500)] (by simp)
      obtain ⟨p, hp, hp1⟩ : ∃ p : Int, [D.int 0, .int 1, .int (-1), .int 2, .int 6, .int (-12), .int 360, .int (r1 - 500)][i] = .int p ∧ p.natAbs < 1000 := by
        match i, hi with
        | 0, _ => exact ⟨0, rfl, by omega⟩
        | 1, _ => exact ⟨1, rfl, by omega⟩
        | 2, _ => exact ⟨-1, rfl, by omega⟩
        | 3, _ => exact ⟨2, rfl, by omega⟩
        | 4, _ => exact ⟨6, rfl, by omega⟩
        | 5, _ => exact ⟨-12, rfl, by omega⟩
        | 6, _ => exact ⟨360, rfl, by omega⟩
        | 7, _ => exact ⟨r1 - 500, rfl, by omega⟩
      rw [hp] at d2
      exact ⟨t2, p, Nat.lt_trans hp1 (by decide), by simp [f_law_integer, fnD_ap, m_law_integer, m_law_integer_b2, h1, d1, d2, O.fr, O.frs]⟩
    · obtain ⟨t1, r1, a1, b1, d1⟩ := f_draw t 10 (by decide)
      obtain ⟨t2, g, x, c1, c2, c3⟩ := grow (1 + r1).toNat t1 sz 1 none ((List.range (1 + r1).toNat).map fun i : Nat => (i : Int)) (by simp) (by decide)
      obtain ⟨t3, r3, a3, b3, d3⟩ := f_draw t2 2 (by decide)
      have hr := rngOk_of (x := 1 + r1) (by omega) (by omega)
      have hg : g < 2 ^ 102 := by
        have e : (1009 : Int) ^ (1 + r1).toNat ≤ 1009 ^ 10 := by
          have := Nat.pow_le_pow_right (n := 1009) (by decide) (show (1 + r1).toNat ≤ 10 by omega)
          exact_mod_cast this
        have : (1 + 1 : Int) * 1009 ^ (1 + r1).toNat ≤ (1 + 1) * 1009 ^ 10 := by omega
        have e2 : ((1 + 1 : Int) * 1009 ^ 10) < 2 ^ 102 := by decide
        omega
      have hm1 : mulOk 2 r3 = true := mulOk_l (by decide)
      have hm2 : mulOk g (1 - 2 * r3) = true := mulOk_r (by omega)
      have hmap : ((List.range (1 + r1).toNat).map fun i => D.int (i : Nat)) = ((List.range (1 + r1).toNat).map fun i : Nat => (i : Int)).map .int := by rw [List.map_map]; rfl
      refine ⟨t3, g * (1 - 2 * r3), ?_, ?_⟩
      · have : r3 = 0 ∨ r3 = 1 := by omega
        rcases this with rfl | rfl <;> simp <;> omega
      · simp [f_law_integer, fnD_ap, m_law_integer, h0, h1, d1, d3, hr, hmap, -List.map_map, c3, hm1, hm2]
theorem f_pick_int (t : Tp) (ks : List Int) (h : ks ≠ []) : ∃ t' p, p ∈ ks ∧ f_law_pick [t.o, .fz (.lst (ks.map .int))] = some (.ok (.fz (.int p)), [Tp.o t', .fz (.lst (ks.map .int))]) := by
  obtain ⟨t', i, hi, e⟩ := f_pick t (ks.map .int) (by simpa using h)
  rw [List.getElem_map] at e
  exact ⟨t', _, List.getElem_mem (by simpa using hi), e⟩
theorem f_pair (t : Tp) : ∃ t' a b, a.natAbs < 2 ^ 110 ∧ b.natAbs < 2 ^ 110 ∧ b ≠ 0 ∧ f_law_pair [t.o] = some (.ok (.fz (.tup [.int a, .int b])), [Tp.o t']) := by
  obtain ⟨t1, s, a1, b1, d1⟩ := f_draw t 3 (by decide)
  obtain ⟨t2, a, h2, d2⟩ := f_integer t1 s
  obtain ⟨t3, s3, h3, d3⟩ := f_pick_int t2 [s, s, 0] (by simp)
  obtain ⟨t4, b, h4, d4⟩ := f_integer t3 s3
  obtain ⟨t5, b', h5, hb, d5⟩ : ∃ t5 b', b'.natAbs < 2 ^ 102 ∧ b' ≠ 0 ∧ ifS (tE (eOp gEq (eN 3) (eP (pC (.int 0))))) m_law_pair_b1 nilS [some t4.o, some (.fz (.int s)), some (.fz (.int a)), some (.fz (.int b)), none] = some (.nx, [some (Tp.o t5), some (.fz (.int s)), some (.fz (.int a)), some (.fz (.int b')), none]) := by
    by_cases hz : b = 0
    · obtain ⟨t5, r, a5, b5, d5⟩ := f_draw t4 1000 (by decide)
      exact ⟨t5, 1 + r, by omega, by omega, by simp [hz, m_law_pair_b1, d5]⟩
    · exact ⟨t4, b, h4, hz, by simp [hz]⟩
  obtain ⟨t6, r6, a6, b6, d6⟩ := f_draw t5 100 (by decide)
  obtain ⟨t7, p, h7, d7⟩ := f_pick_int t6 [1, 1, -1, 2, 12, -1 - r6] (by simp)
  have hp : p ≠ 0 ∧ p.natAbs < 2 ^ 7 := by simp at h7; omega
  have hm1 : ∀ x, mulOk x p = true := fun x => mulOk_r (by omega)
  have bd : ∀ x : Int, x.natAbs < 2 ^ 102 → (x * p).natAbs < 2 ^ 110 := fun x hx => by
    rw [Int.natAbs_mul]
    have := Nat.mul_le_mul (Nat.le_of_lt hx) (Nat.le_of_lt hp.2)
    have e : (2 : Nat) ^ 102 * 2 ^ 7 < 2 ^ 110 := by decide
    omega
  simp only [List.map_cons, List.map_nil] at d3 d7
  refine ⟨t7, a * p, b' * p, bd a h2, bd b' h5, Int.mul_ne_zero hb hp.1, ?_⟩
  unfold f_law_pair
  rw [fnD_ap]
  unfold m_law_pair
  simp only [List.map_cons, List.map_nil, List.length_cons, List.length_nil, Nat.reduceAdd, Nat.reduceSub, List.replicate, List.cons_append, List.nil_append]
  rw [seqS_nx (e := [some t1.o, some (.fz (.int s)), none, none, none]) (by simp [d1])]
  rw [seqS_nx (e := [some t2.o, some (.fz (.int s)), some (.fz (.int a)), none, none]) (by simp [d2])]
  rw [seqS_nx (e := [some t4.o, some (.fz (.int s)), some (.fz (.int a)), some (.fz (.int b)), none]) (by simp [d3, d4])]
  rw [seqS_nx d5]
  rw [seqS_nx (e := [some t7.o, some (.fz (.int s)), some (.fz (.int a)), some (.fz (.int b')), some (.fz (.int p))]) (by simp [d6, d7])]
  simp [hm1]
/-! ### greatest common divisors -/
def gg (a b : Int) : Int := (Nat.gcd a.natAbs b.natAbs : Nat)
def sg (b : Int) : Int := if 0 < b then 1 else -1
/-- in lowest terms -/
def nrm (a b : Int) : Int × Int := (sg b * a / gg a b, sg b * b / gg a b)
theorem gg_pos {a b : Int} (hb : b ≠ 0) : 0 < gg a b := by
  have : 0 < Nat.gcd a.natAbs b.natAbs := Nat.gcd_pos_of_pos_right _ (by omega)
  unfold gg
  omega
theorem gg_le {a b : Int} (hb : b ≠ 0) : (gg a b).natAbs ≤ b.natAbs := by
  have : Nat.gcd a.natAbs b.natAbs ≤ b.natAbs := Nat.gcd_le_right _ (by omega)
  unfold gg
  omega
theorem cd_loop : ∀ (b a : Nat), ∃ n, whF (tE (eOp gGt (eN 1) (eP (pC (.int 0))))) m_common_divisor_b1 n [some (.fz (.int a)), some (.fz (.int b))] = some (.nx, [some (.fz (.int (Nat.gcd a b : Nat))), some (.fz (.int 0))]) := by
  intro b
  induction b using Nat.strongRecOn with
  | _ b ih =>
    intro a
    by_cases hb : b = 0
    · subst hb
      exact ⟨1, by rw [whF_f (e1 := [some (.fz (.int a)), some (.fz (.int 0))]) (by simp)]; simp⟩
    · obtain ⟨n, hn⟩ := ih (a % b) (Nat.mod_lt _ (by omega)) b
      refine ⟨n + 1, ?_⟩
      have hbn : 0 < b := by omega
      rw [whF_t (e1 := [some (.fz (.int a)), some (.fz (.int b))]) (e2 := [some (.fz (.int b)), some (.fz (.int (a % b : Nat)))]) (by simp [hbn]) (by simp [m_common_divisor_b1, hbn])]
      rw [hn]
      rw [show Nat.gcd b (a % b) = Nat.gcd a b by rw [Nat.gcd_comm b, ← Nat.gcd_rec, Nat.gcd_comm]]
theorem f_cd (a b : Nat) : f_common_divisor [.fz (.int a), .fz (.int b)] = some (.ok (.fz (.int (Nat.gcd a b : Nat))), [.fz (.int a), .fz (.int b)]) := by
  obtain ⟨n, hn⟩ := cd_loop b a
  have h := whS_f n hn
  simp [f_common_divisor, fnD_ap, m_common_divisor, h]
def shO (p : Int × Int) : D := .ins "Share" [("over", .int p.1), ("under", .int p.2)]
theorem f_init (a b : Int) (hb : b ≠ 0) (hs : b.natAbs < 2 ^ 2000) : f_Share_init [.ins "Share" [], .fz (.int a), .fz (.int b)] = some (.ok (.fz .non), [.ins "Share" [("over", .fz (.int (nrm a b).1)), ("under", .fz (.int (nrm a b).2))], .fz (.int a), .fz (.int b)]) := by
  have hc := f_cd a.natAbs b.natAbs
  have hf : ∀ x, fdivOk x (gg a b) = true := fun x => fdivOk_k 2000 (gg_pos hb) (Nat.lt_of_le_of_lt (gg_le hb) hs) (by decide) (by decide)
  have hf' : ∀ x, fdivOk x ((Nat.gcd a.natAbs b.natAbs : Nat) : Int) = true := hf
  have hsg : eIf (tE (eOp gGt (eN 2) (eP (pC (.int 0))))) (eP (pC (.int 1))) (eP (pUn gNeg (pC (.int 1)))) [some (.ins "Share" []), some (.fz (.int a)), some (.fz (.int b)), none, none] = some (.ok (.fz (.int (sg b))), [some (.ins "Share" []), some (.fz (.int a)), some (.fz (.int b)), none, none]) := by
    by_cases h0 : 0 < b
    · simp [h0, sg]
    · simp [h0, sg]
  have hm : ∀ x, mulOk (sg b) x = true := fun x => mulOk_l (by unfold sg; split <;> decide)
  unfold f_Share_init
  rw [fnD_ap]
  unfold m_Share_init
  simp only [List.map_cons, List.map_nil, List.length_cons, List.length_nil, Nat.reduceAdd, Nat.reduceSub, List.replicate, List.cons_append, List.nil_append]
  rw [seqS_nx (e := [some (.ins "Share" []), some (.fz (.int a)), some (.fz (.int b)), none, none]) (by simp [hb])]
  rw [seqS_nx (e := [some (.ins "Share" []), some (.fz (.int a)), some (.fz (.int b)), some (.fz (.int (sg b))), none]) (by rw [setS_ap, hsg]; simp)]
  rw [seqS_nx (e := [some (.ins "Share" []), some (.fz (.int a)), some (.fz (.int b)), some (.fz (.int (sg b))), some (.fz (.int (gg a b)))]) (by simp [hc]; rfl)]
  rw [seqS_nx (e := [some (.ins "Share" [("over", .fz (.int (nrm a b).1))]), some (.fz (.int a)), some (.fz (.int b)), some (.fz (.int (sg b))), some (.fz (.int (gg a b)))]) (by simp [fldS, hm, hf, nrm]; rfl)]
  have hne : ¬ (("over" : Str) = "under") := by decide
  simp [fldS, hm, hf, nrm, putFO, hne]
/-! ### the law's own lowest terms -/
theorem nrm_pos {a b : Int} (hb : b ≠ 0) : 0 < (nrm a b).2 := by
  have h1 := gg_pos (a := a) hb
  have h2 := gg_le (a := a) hb
  have h3 : sg b * b = b.natAbs := by unfold sg; split <;> omega
  show 0 < sg b * b / gg a b
  rw [h3]
  have : gg a b ≤ (b.natAbs : Int) := by omega
  exact Int.ediv_pos_of_pos_of_dvd (by omega) (by omega) ⟨((b.natAbs / Nat.gcd a.natAbs b.natAbs : Nat) : Int), by
    unfold gg
    rw [← Int.natCast_mul, Nat.mul_div_cancel' (Nat.gcd_dvd_right _ _)]⟩
theorem div_le {a g : Int} (hg : 0 < g) : (a / g).natAbs ≤ a.natAbs := by
  rcases Int.le_total 0 a with h | h
  · have h1 := Int.ediv_nonneg h (Int.le_of_lt hg)
    have h2 := Int.ediv_le_self g h
    omega
  · have h1 : a ≤ a / g := by
      have := Int.mul_ediv_add_emod a g
      have h4 := Int.emod_nonneg a (show g ≠ 0 by omega)
      have h5 := Int.emod_lt_of_pos a hg
      by_cases hq : a ≤ a / g
      · exact hq
      · exfalso
        have h6 : a / g + 1 ≤ a := by omega
        have h7 : g * (a / g + 1) ≤ g * a := Int.mul_le_mul_of_nonneg_left h6 (by omega)
        have h8 : g * a ≤ 1 * a := Int.mul_le_mul_of_nonpos_right (by omega) h
        rw [Int.mul_add] at h7
        omega
    have h2 : a / g ≤ 0 := Int.ediv_nonpos_of_nonpos_of_neg h hg
    omega
theorem sg_abs {b x : Int} : (sg b * x).natAbs = x.natAbs := by
  unfold sg; split <;> simp
theorem nrm_le1 {a b : Int} (hb : b ≠ 0) : (nrm a b).1.natAbs ≤ a.natAbs := by
  have := div_le (a := sg b * a) (gg_pos (a := a) hb)
  rw [sg_abs] at this
  exact this
theorem nrm_le2 {a b : Int} (hb : b ≠ 0) : (nrm a b).2.natAbs ≤ b.natAbs := by
  have := div_le (a := sg b * b) (gg_pos (a := a) hb)
  rw [sg_abs] at this
  exact this
abbrev shE (u v : Option O) (A B : Nat) (k y : Option O) : Env := [u, v, some (.fz (.int A)), some (.fz (.int B)), k, y]
theorem share_step {u v y : Option O} {A B : Nat} {k : D} (h : A ≠ 0) : m_law_share_b1 (shE u v A B (some (.fz k)) y) = some (.nx, shE u v (B % A) A (some (.fz k)) (some (.fz (.int (B % A : Nat))))) := by
  have : 0 < A := by omega
  simp [m_law_share_b1, h, this]
theorem share_stop {u v y : Option O} {B : Nat} {k : D} : m_law_share_b1 (shE u v 0 B (some (.fz k)) y) = some (.bk, shE u v 0 B (some (.fz k)) y) := by
  simp [m_law_share_b1, m_law_share_b2]
theorem share_loop : ∀ (j : Nat) (ks : List D) (A B : Nat) (u v x y : Option O), A < 2 ^ j → 2 * j + 1 ≤ ks.length → ∃ x' y', forL (gN 4) m_law_share_b1 ks (shE u v A B x y) = some (.nx, shE u v 0 (Nat.gcd B A) x' y') := by
  intro j
  induction j with
  | zero =>
    intro ks A B u v x y hA hl
    obtain rfl : A = 0 := by omega
    cases ks with
    | nil => simp at hl
    | cons k ks => exact ⟨some (.fz k), y, by rw [forL_bk (e1 := shE u v 0 B (some (.fz k)) y) (by simp) share_stop]; simp⟩
  | succ j ih =>
    intro ks A B u v x y hA hl
    match ks, hl with
    | k :: k2 :: ks, hl =>
      by_cases h0 : A = 0
      · subst h0
        exact ⟨some (.fz k), y, by rw [forL_bk (e1 := shE u v 0 B (some (.fz k)) y) (by simp) share_stop]; simp⟩
      · rw [forL_nx (e1 := shE u v A B (some (.fz k)) y) (by simp) (share_step h0)]
        have g1 : Nat.gcd A (B % A) = Nat.gcd B A := by rw [Nat.gcd_comm A, ← Nat.gcd_rec, Nat.gcd_comm]
        by_cases h1 : B % A = 0
        · rw [h1]
          rw [h1] at g1
          exact ⟨some (.fz k2), some (.fz (.int (0 : Nat))), by rw [forL_bk (e1 := shE u v 0 A (some (.fz k2)) (some (.fz (.int (0 : Nat))))) (by simp) share_stop, ← g1, Nat.gcd_zero_right]⟩
        · rw [forL_nx (e1 := shE u v (B % A) A (some (.fz k2)) (some (.fz (.int (B % A : Nat))))) (by simp) (share_step h1)]
          have hlt : B % A < A := Nat.mod_lt _ (by omega)
          have h2 : 2 * (A % (B % A)) < A := by
            have e := Nat.div_add_mod A (B % A)
            have e1 := Nat.mod_lt A (show 0 < B % A by omega)
            have e2 : 1 ≤ A / (B % A) := (Nat.one_le_div_iff (by omega)).mpr (by omega)
            have e3 : (B % A) * 1 ≤ (B % A) * (A / (B % A)) := Nat.mul_le_mul_left _ e2
            omega
          obtain ⟨x', y', e⟩ := ih ks (A % (B % A)) (B % A) u v (some (.fz k2)) (some (.fz (.int (A % (B % A) : Nat)))) (by rw [Nat.pow_succ] at hA; omega) (by simp at hl; omega)
          refine ⟨x', y', ?_⟩
          rw [e, show Nat.gcd (B % A) (A % (B % A)) = Nat.gcd B A by rw [Nat.gcd_comm, ← Nat.gcd_rec, Nat.gcd_comm (B % A), g1]]
def tuO (p : Int × Int) : D := .tup [.int p.1, .int p.2]
theorem f_share (a b : Int) (hb : b ≠ 0) (ha : a.natAbs < 2 ^ 1900) (hs : b.natAbs < 2 ^ 1900) : f_law_share [.fz (.int a), .fz (.int b)] = some (.ok (.fz (tuO (nrm a b))), [.fz (.int a), .fz (.int b)]) := by
  have hr : rngOk 4000 = true := rngOk_of (by decide) (by decide)
  have hf : ∀ x, fdivOk x (gg a b) = true := fun x => fdivOk_k 1900 (gg_pos hb) (Nat.lt_of_le_of_lt (gg_le hb) hs) (by decide) (by decide)
  unfold f_law_share
  rw [fnD_ap]
  unfold m_law_share
  simp only [List.map_cons, List.map_nil, List.length_cons, List.length_nil, Nat.reduceAdd, Nat.reduceSub, List.replicate, List.cons_append, List.nil_append]
  have e0 : ifS (tE (eOp gLt (eN 1) (eP (pC (.int 0))))) m_law_share_b3 nilS [some (.fz (.int a)), some (.fz (.int b)), none, none, none, none] = some (.nx, [some (.fz (.int (sg b * a))), some (.fz (.int (sg b * b))), none, none, none, none]) := by
    by_cases h : b < 0
    · have : ¬ 0 < b := by omega
      simp [h, m_law_share_b3, sg, this]
    · have : 0 < b := by omega
      simp [h, sg, this]
  rw [seqS_nx e0]
  rw [seqS_nx (e := [some (.fz (.int (sg b * a))), some (.fz (.int (sg b * b))), some (.fz (.int a.natAbs)), none, none, none]) (by simp [sg_abs])]
  have hbb : sg b * b = (b.natAbs : Int) := by unfold sg; split <;> omega
  rw [seqS_nx (e := shE (some (.fz (.int (sg b * a)))) (some (.fz (.int (sg b * b)))) a.natAbs b.natAbs none none) (by simp [hbb])]
  obtain ⟨x', y', e⟩ := share_loop 1900 ((List.range 4000).map fun i : Nat => D.int (i : Int)) a.natAbs b.natAbs (some (.fz (.int (sg b * a)))) (some (.fz (.int (sg b * b)))) none none ha (by simp)
  rw [seqS_nx (e := shE (some (.fz (.int (sg b * a)))) (some (.fz (.int (sg b * b)))) 0 (Nat.gcd b.natAbs a.natAbs) x' y') (by
    rw [forS_ap, iR1_ap]
    simp only [eP_ap, pC_ap, fzE_some, bindR_ok, r1K_ap, hr, if_true, bindS_ok, forK_ap]
    exact e)]
  have hg : ((Nat.gcd b.natAbs a.natAbs : Nat) : Int) = gg a b := by unfold gg; rw [Nat.gcd_comm]
  simp [hg, hf, tuO, nrm]
/-! ### shares -/
@[simp] theorem is_int_int {x : Int} : gIsi itab icls [.fz (.int x), .fz (.ty "int")] = some (.bl true) := rfl
@[simp] theorem is_int_bool {x : Int} : gIsi itab icls [.fz (.int x), .fz (.ty "bool")] = some (.bl false) := rfl
@[simp] theorem is_str_str {x : Str} : gIsi itab icls [.fz (.str x), .fz (.ty "str")] = some (.bl true) := rfl
@[simp] theorem is_bl_bool {x : Bool} : gIsi itab icls [.fz (.bl x), .fz (.ty "bool")] = some (.bl true) := rfl
@[simp] theorem is_ins_Share {p : Int × Int} : gIsi itab icls [.fz (shO p), .fz (.glo "Share")] = some (.bl true) := rfl
@[simp] theorem is_int_Share {x : Int} : gIsi itab icls [.fz (.int x), .fz (.glo "Share")] = some (.bl false) := rfl
@[simp] theorem is_str_Share {x : Str} : gIsi itab icls [.fz (.str x), .fz (.glo "Share")] = some (.bl false) := rfl
@[simp] theorem is_non_Share : gIsi itab icls [.fz .non, .fz (.glo "Share")] = some (.bl false) := rfl
@[simp] theorem is_tup_Share {x : List D} : gIsi itab icls [.fz (.tup x), .fz (.glo "Share")] = some (.bl false) := rfl
@[simp] theorem sh_over {p : Int × Int} : fldO ["Share"] "over" (.fz (shO p)) = some (.fz (.int p.1)) := rfl
@[simp] theorem sh_under {p : Int × Int} : fldO ["Share"] "under" (.fz (shO p)) = some (.fz (.int p.2)) := rfl
@[simp] theorem sh_ins {p : Int × Int} : isIns "Share" (.fz (shO p)) = true := rfl
@[simp] theorem sh_written {p : Int × Int} : insOk "Share" "written" (.fz (shO p)) = true := rfl
@[simp] theorem sh_is_below {p : Int × Int} : insOk "Share" "is_below" (.fz (shO p)) = true := rfl
@[simp] theorem tu_0 {p : Int × Int} : ixO (.fz (tuO p)) (.fz (.int 0)) = some (.fz (.int p.1)) := rfl
@[simp] theorem tu_1 {p : Int × Int} : ixO (.fz (tuO p)) (.fz (.int 1)) = some (.fz (.int p.2)) := rfl
@[simp] theorem tu_eq {p q : Int × Int} : gEq (.fz (tuO p)) (.fz (tuO q)) = some (.bl (p.1 == q.1 && p.2 == q.2)) := by
  show some (D.bl (p.1 == q.1 && (p.2 == q.2 && true))) = _
  rw [Bool.and_true]
@[simp] theorem tu_items {p : Int × Int} : itemsD (tuO p) = some [.int p.1, .int p.2] := rfl
theorem tu_mk {a b : Int} : D.tup [.int a, .int b] = tuO (a, b) := rfl
@[simp] theorem str_eq {x y : Str} : gEq (.fz (.str x)) (.fz (.str y)) = some (.bl (decide (x = y))) := rfl
@[simp] theorem bl_eq {x y : Bool} : gEq (.fz (.bl x)) (.fz (.bl y)) = some (.bl (decide (x = y))) := rfl
@[simp] theorem bl_ne {x y : Bool} : gNe (.fz (.bl x)) (.fz (.bl y)) = some (.bl (!decide (x = y))) := rfl
/-- bounded, positive below -/
def Sm (k : Nat) (p : Int × Int) : Prop := p.1.natAbs < 2 ^ k ∧ p.2.natAbs < 2 ^ k ∧ 0 < p.2
theorem Sm.mono {j k : Nat} {p : Int × Int} (h : Sm j p) (hj : j ≤ k) : Sm k p := ⟨Nat.lt_of_lt_of_le h.1 (Nat.pow_le_pow_right (by decide) hj), Nat.lt_of_lt_of_le h.2.1 (Nat.pow_le_pow_right (by decide) hj), h.2.2⟩
theorem Sm.nrm {k : Nat} {a b : Int} (ha : a.natAbs < 2 ^ k) (hb : b.natAbs < 2 ^ k) (h0 : b ≠ 0) : Sm k (nrm a b) := ⟨Nat.lt_of_le_of_lt (nrm_le1 h0) ha, Nat.lt_of_le_of_lt (nrm_le2 h0) hb, nrm_pos h0⟩
theorem f_is_share (p : Int × Int) : f_law_is_share [.fz (shO p), .fz (tuO p)] = some (.ok (.fz (.bl true)), [.fz (shO p), .fz (tuO p)]) := by
  have e : ∀ (x : Int) (y : Option O), m_law_is_share_b1 [some (.fz (shO p)), some (.fz (tuO p)), some (.fz (.int x))] = some (.nx, [some (.fz (shO p)), some (.fz (tuO p)), some (.fz (.int x))]) := fun x y => by simp [m_law_is_share_b1]
  have l : forL (gN 2) m_law_is_share_b1 [.int p.1, .int p.2] [some (.fz (shO p)), some (.fz (tuO p)), none] = some (.nx, [some (.fz (shO p)), some (.fz (tuO p)), some (.fz (.int p.2))]) := by
    rw [forL_nx (e1 := [some (.fz (shO p)), some (.fz (tuO p)), some (.fz (.int p.1))]) (by simp) (e _ none), forL_nx (e1 := [some (.fz (shO p)), some (.fz (tuO p)), some (.fz (.int p.2))]) (by simp) (e _ none)]
    rfl
  simp [f_law_is_share, fnD_ap, m_law_is_share, tu_mk, l]
def slash : Str := "/"
def wr (p : Int × Int) : Str := if p.2 = 1 then st p.1 else (st p.1 ++ slash) ++ st p.2
theorem tl {x : Int} (h : x.natAbs < 2 ^ 1900) : x.natAbs.log2 < 1920 ∧ (st x).length ≤ 1901 := ⟨Nat.lt_trans (log2_of (by decide) h) (by decide), st_len (by decide) h⟩
theorem sl1 : slash.length = 1 := by decide
theorem f_written (p : Int × Int) (h : Sm 1900 p) : f_Share_written [.fz (shO p)] = some (.ok (.fz (.str (wr p))), [.fz (shO p)]) := by
  obtain ⟨a1, a2⟩ := tl h.1
  obtain ⟨b1, b2⟩ := tl h.2.1
  by_cases h1 : p.2 = 1
  · simp [f_Share_written, fnD_ap, m_Share_written, m_Share_written_b1, h1, gStr_int a1, wr]
  · have l1 : (st p.1).length ≤ sizeLine := by rw [sizeLine_eq]; omega
    have l2 : (st p.1 ++ slash).length ≤ sizeLine := by rw [Str.length_append, sl1, sizeLine_eq]; omega
    have l3 : (st p.1 ++ slash ++ st p.2).length ≤ sizeLine := by rw [Str.length_append, Str.length_append, sl1, sizeLine_eq]; omega
    have l2' : (st p.1 ++ Str.ofString "/").length ≤ sizeLine := l2
    have l3' : (st p.1 ++ Str.ofString "/" ++ st p.2).length ≤ sizeLine := l3
    simp [f_Share_written, fnD_ap, m_Share_written, h1, fmtO_int a1, fmtO_int b1, Str.empty_append, l1, l2', l3', wr, slash]
theorem f_lwritten (p : Int × Int) (h : Sm 1900 p) : f_law_written [.fz (tuO p)] = some (.ok (.fz (.str (wr p))), [.fz (tuO p)]) := by
  obtain ⟨a1, a2⟩ := tl h.1
  obtain ⟨b1, b2⟩ := tl h.2.1
  by_cases h1 : p.2 = 1
  · simp [f_law_written, fnD_ap, m_law_written, m_law_written_b1, h1, gStr_int a1, wr]
  · have s1 : (Str.ofString "/").length = 1 := sl1
    have l2 : (st p.1).length + 1 ≤ 1000000 := by omega
    have l3 : (st p.1).length + 1 + (st p.2).length ≤ 1000000 := by omega
    simp [f_law_written, fnD_ap, m_law_written, h1, gStr_int a1, gStr_int b1, wr, slash, Str.length_append, s1, l2, l3]
theorem f_one (p : Int × Int) (h : Sm 1900 p) : f_law_one_right [.fz (shO p), .fz (tuO p)] = some (.ok (.fz (.bl true)), [.fz (shO p), .fz (tuO p)]) := by
  simp [f_law_one_right, fnD_ap, m_law_one_right, f_written p h, f_lwritten p h, f_is_share]
def adp (p q : Int × Int) : Int × Int := nrm (p.1 * q.2 + q.1 * p.2) (p.2 * q.2)
def sbp (p q : Int × Int) : Int × Int := nrm (p.1 * q.2 - q.1 * p.2) (p.2 * q.2)
def mup (p q : Int × Int) : Int × Int := nrm (p.1 * q.1) (p.2 * q.2)
def shU (p : Int × Int) : O := .ins "Share" [("over", .fz (.int p.1)), ("under", .fz (.int p.2))]
@[simp] theorem shU_fr (p : Int × Int) : (shU p).fr = shO p := by simp [shU, shO]
theorem mul_b {x y : Int} {a b : Nat} (hx : x.natAbs < 2 ^ a) (hy : y.natAbs < 2 ^ b) : (x * y).natAbs < 2 ^ (a + b) := by
  rw [Int.natAbs_mul, Nat.pow_add]
  exact Nat.mul_lt_mul'' hx hy
theorem add_b {x y : Int} {a : Nat} (hx : x.natAbs < 2 ^ a) (hy : y.natAbs < 2 ^ a) : (x + y).natAbs < 2 ^ (a + 1) := by
  rw [Nat.pow_succ]; omega
theorem sub_b {x y : Int} {a : Nat} (hx : x.natAbs < 2 ^ a) (hy : y.natAbs < 2 ^ a) : (x - y).natAbs < 2 ^ (a + 1) := by
  rw [Nat.pow_succ]; omega
section
variable {p q : Int × Int} {j k : Nat}
theorem und_ne (hp : Sm j p) (hq : Sm k q) : p.2 * q.2 ≠ 0 := Int.mul_ne_zero (by have := hp.2.2; omega) (by have := hq.2.2; omega)
theorem Sm.ad (hp : Sm j p) (hq : Sm k q) : Sm (j + k + 1) (adp p q) := Sm.nrm (add_b (mul_b hp.1 hq.2.1) (by rw [Nat.add_comm j k]; exact mul_b hq.1 hp.2.1)) (Nat.lt_of_lt_of_le (mul_b hp.2.1 hq.2.1) (Nat.pow_le_pow_right (by decide) (by omega))) (und_ne hp hq)
theorem Sm.sb (hp : Sm j p) (hq : Sm k q) : Sm (j + k + 1) (sbp p q) := Sm.nrm (sub_b (mul_b hp.1 hq.2.1) (by rw [Nat.add_comm j k]; exact mul_b hq.1 hp.2.1)) (Nat.lt_of_lt_of_le (mul_b hp.2.1 hq.2.1) (Nat.pow_le_pow_right (by decide) (by omega))) (und_ne hp hq)
theorem Sm.mu (hp : Sm j p) (hq : Sm k q) : Sm (j + k) (mup p q) := Sm.nrm (mul_b hp.1 hq.1) (mul_b hp.2.1 hq.2.1) (und_ne hp hq)
end
section
variable {p q : Int × Int} (hp : Sm 800 p) (hq : Sm 800 q)
include hp hq
theorem m11 : mulOk p.1 q.1 = true := mulOk_b hp.1 hq.1 (by decide) (by decide) (by decide)
theorem m12 : mulOk p.1 q.2 = true := mulOk_b hp.1 hq.2.1 (by decide) (by decide) (by decide)
theorem m21 : mulOk q.1 p.2 = true := mulOk_b hq.1 hp.2.1 (by decide) (by decide) (by decide)
theorem m22 : mulOk p.2 q.2 = true := mulOk_b hp.2.1 hq.2.1 (by decide) (by decide) (by decide)
theorem u2000 {n : Nat} (hn : n ≤ 2000) (h : (p.2 * q.2).natAbs < 2 ^ n) : (p.2 * q.2).natAbs < 2 ^ 2000 := Nat.lt_of_lt_of_le h (Nat.pow_le_pow_right (by decide) hn)
theorem f_add : f_Share_add [.fz (shO p), .fz (shO q)] = some (.ok (shU (adp p q)), [.fz (shO p), .fz (shO q)]) := by
  have hi := f_init (p.1 * q.2 + q.1 * p.2) (p.2 * q.2) (und_ne hp hq) (Nat.lt_of_lt_of_le (mul_b hp.2.1 hq.2.1) (Nat.pow_le_pow_right (by decide) (by decide)))
  simp [f_Share_add, fnD_ap, m_Share_add, m12 hp hq, m21 hp hq, m22 hp hq, hi, shU, adp]
theorem f_sub : f_Share_sub [.fz (shO p), .fz (shO q)] = some (.ok (shU (sbp p q)), [.fz (shO p), .fz (shO q)]) := by
  have hi := f_init (p.1 * q.2 - q.1 * p.2) (p.2 * q.2) (und_ne hp hq) (Nat.lt_of_lt_of_le (mul_b hp.2.1 hq.2.1) (Nat.pow_le_pow_right (by decide) (by decide)))
  simp [f_Share_sub, fnD_ap, m_Share_sub, m12 hp hq, m21 hp hq, m22 hp hq, hi, shU, sbp]
theorem f_mul : f_Share_mul [.fz (shO p), .fz (shO q)] = some (.ok (shU (mup p q)), [.fz (shO p), .fz (shO q)]) := by
  have hi := f_init (p.1 * q.1) (p.2 * q.2) (und_ne hp hq) (Nat.lt_of_lt_of_le (mul_b hp.2.1 hq.2.1) (Nat.pow_le_pow_right (by decide) (by decide)))
  simp [f_Share_mul, fnD_ap, m_Share_mul, m11 hp hq, m22 hp hq, hi, shU, mup]
theorem f_added : f_law_added [.fz (tuO p), .fz (tuO q)] = some (.ok (.fz (tuO (adp p q))), [.fz (tuO p), .fz (tuO q)]) := by
  have b2 : (p.2 * q.2).natAbs < 2 ^ 1900 := Nat.lt_of_lt_of_le (mul_b hp.2.1 hq.2.1) (Nat.pow_le_pow_right (by decide) (by decide))
  have b1 : (p.1 * q.2 + q.1 * p.2).natAbs < 2 ^ 1900 := Nat.lt_of_lt_of_le (add_b (mul_b hp.1 hq.2.1) (mul_b hq.1 hp.2.1)) (Nat.pow_le_pow_right (by decide) (by decide))
  simp [f_law_added, fnD_ap, m_law_added, m12 hp hq, m21 hp hq, m22 hp hq, f_share _ _ (und_ne hp hq) b1 b2, adp]
theorem f_times : f_law_times [.fz (tuO p), .fz (tuO q)] = some (.ok (.fz (tuO (mup p q))), [.fz (tuO p), .fz (tuO q)]) := by
  have b2 : (p.2 * q.2).natAbs < 2 ^ 1900 := Nat.lt_of_lt_of_le (mul_b hp.2.1 hq.2.1) (Nat.pow_le_pow_right (by decide) (by decide))
  have b1 : (p.1 * q.1).natAbs < 2 ^ 1900 := Nat.lt_of_lt_of_le (mul_b hp.1 hq.1) (Nat.pow_le_pow_right (by decide) (by decide))
  simp [f_law_times, fnD_ap, m_law_times, m11 hp hq, m22 hp hq, f_share _ _ (und_ne hp hq) b1 b2, mup]
theorem f_below : f_Share_is_below [.fz (shO p), .fz (shO q)] = some (.ok (.fz (.bl (decide (p.1 * q.2 < q.1 * p.2)))), [.fz (shO p), .fz (shO q)]) := by
  simp [f_Share_is_below, fnD_ap, m_Share_is_below, m12 hp hq, m21 hp hq]
end
theorem f_eqS (p q : Int × Int) : f_Share_eq [.fz (shO p), .fz (shO q)] = some (.ok (.fz (.bl (p.1 == q.1 && p.2 == q.2))), [.fz (shO p), .fz (shO q)]) := by
  by_cases h : p.1 = q.1
  · simp [f_Share_eq, fnD_ap, m_Share_eq, h]
  · simp [f_Share_eq, fnD_ap, m_Share_eq, h]
theorem f_eqN {p : Int × Int} {d : D} (h : gIsi itab icls [.fz d, .fz (.glo "Share")] = some (.bl false)) : f_Share_eq [.fz (shO p), .fz d] = some (.ok (.fz (.bl false)), [.fz (shO p), .fz d]) := by
  simp [f_Share_eq, fnD_ap, m_Share_eq, m_Share_eq_b1, h]
theorem own_eq (p q : Int × Int) : gOwnEq "Share" nft_Share icls f_Share_eq (.fz (shO p)) (.fz (shO q)) = some (.bl (p.1 == q.1 && p.2 == q.2)) := by
  have e := f_eqS p q
  have t1 : tyD (shO q) = some (.o "Share") := rfl
  have t2 : (nft_Share.contains (.o "Share") && tcOk icls (.o "Share")) = true := by decide
  simp only [gOwnEq, sh_ins, if_true, fr_fz, t1, Option.bind_some, t2, qAns, asFz, List.map_cons, List.map_nil, e]
  rfl
theorem own_ne {p : Int × Int} {d : D} {t : Tc} (h : gIsi itab icls [.fz d, .fz (.glo "Share")] = some (.bl false)) (t1 : tyD d = some t) (t2 : (nft_Share.contains t && tcOk icls t) = true) : gOwnEq "Share" nft_Share icls f_Share_eq (.fz (shO p)) (.fz d) = some (.bl false) := by
  have e := f_eqN (p := p) h
  simp only [gOwnEq, sh_ins, if_true, fr_fz, t1, Option.bind_some, t2, qAns, asFz, List.map_cons, List.map_nil, e]
  rfl
theorem f_two (p q : Int × Int) (hp : Sm 800 p) (hq : Sm 800 q) : f_law_two_right [.fz (shO p), .fz (shO q), .fz (tuO p), .fz (tuO q)] = some (.ok (.fz (.bl true)), [.fz (shO p), .fz (shO q), .fz (tuO p), .fz (tuO q)]) := by
  have hq' : Sm 800 (-q.1, q.2) := ⟨by show (-q.1).natAbs < _; rw [Int.natAbs_neg]; exact hq.1, hq.2⟩
  have es : adp p (-q.1, q.2) = sbp p q := by
    unfold adp sbp
    simp only [Int.neg_mul, ← Int.sub_eq_add_neg]
  have a1 := f_one _ ((Sm.ad hp hq).mono (show 800 + 800 + 1 ≤ 1900 by decide))
  have a2 := f_one _ ((Sm.sb hp hq).mono (show 800 + 800 + 1 ≤ 1900 by decide))
  have a3 := f_one _ ((Sm.mu hp hq).mono (show 800 + 800 ≤ 1900 by decide))
  have b1 := f_added hp hq
  have b2 := f_added hp hq'
  rw [es] at b2
  have b3 := f_times hp hq
  have c1 := f_add hp hq
  have c2 := f_sub hp hq
  have c3 := f_mul hp hq
  have e1 := own_eq p q
  have e2 := f_below hp hq
  have n1 := m12 hp hq
  have n2 := m21 hp hq
  have tt : D.tup [.int (-q.1), .int q.2] = tuO (-q.1, q.2) := rfl
  unfold f_law_two_right
  rw [fnD_ap]
  unfold m_law_two_right
  simp only [List.map_cons, List.map_nil, List.length_cons, List.length_nil, Nat.reduceAdd, Nat.reduceSub, List.replicate, List.cons_append, List.nil_append]
  rw [seqS_nx (e := [some (.fz (shO p)), some (.fz (shO q)), some (.fz (tuO p)), some (.fz (tuO q)), some (.fz (tuO (-q.1, q.2))), none, none]) (by simp [tt])]
  rw [seqS_nx (e := [some (.fz (shO p)), some (.fz (shO q)), some (.fz (tuO p)), some (.fz (tuO q)), some (.fz (tuO (-q.1, q.2))), none, none]) (by simp [a1, a2, b1, b2, c1, c2])]
  rw [seqS_nx (e := [some (.fz (shO p)), some (.fz (shO q)), some (.fz (tuO p)), some (.fz (tuO q)), some (.fz (tuO (-q.1, q.2))), none, none]) (by simp [a3, b3, c3])]
  rw [seqS_nx (e := [some (.fz (shO p)), some (.fz (shO q)), some (.fz (tuO p)), some (.fz (tuO q)), some (.fz (tuO (-q.1, q.2))), some (.fz (.bl (p.1 == q.1 && p.2 == q.2))), none]) (by simp [e1])]
  rw [seqS_nx (e := [some (.fz (shO p)), some (.fz (shO q)), some (.fz (tuO p)), some (.fz (tuO q)), some (.fz (tuO (-q.1, q.2))), some (.fz (.bl (p.1 == q.1 && p.2 == q.2))), some (.fz (.bl (decide (p.1 * q.2 < q.1 * p.2))))]) (by simp [e2])]
  rw [seqS_nx (e := [some (.fz (shO p)), some (.fz (shO q)), some (.fz (tuO p)), some (.fz (tuO q)), some (.fz (tuO (-q.1, q.2))), some (.fz (.bl (p.1 == q.1 && p.2 == q.2))), some (.fz (.bl (decide (p.1 * q.2 < q.1 * p.2))))]) (by simp)]
  simp [n1, n2]
/-! ### Share(x, 0) -/
theorem f_init0 (x : Int) : f_Share_init [.ins "Share" [], .fz (.int x), .fz (.int 0)] = some (.ex "InvalidNumber" [("number", .int 0)], [.ins "Share" [], .fz (.int x), .fz (.int 0)]) := by
  simp [f_Share_init, fnD_ap, m_Share_init, m_Share_init_b1, raiS]
theorem f_refused (x : Int) : f_law_refused [.fz (.int x)] = some (.ok (.fz (.bl true)), [.fz (.int x)]) := by
  have body : m_law_refused_b1 [some (.fz (.int x)), none] = some (.ex "InvalidNumber" [("number", .int 0)], [some (.fz (.int x)), none]) := by
    simp [m_law_refused_b1, f_init0]
  have hh : ∀ a d, finS 1 (hcond (xcls.contains (XP.mk a d "InvalidNumber").c) (m_law_refused_h1 ⟨a, d, "InvalidNumber"⟩) ([some (.fz (.int x)), none].set 1 (some (.fz (.exn ⟨a, d, "InvalidNumber"⟩ [("number", .int 0)]))))) = some (.rt (.fz (.bl true)), [some (.fz (.int x)), none]) := fun a d => by
    have h1 : xcls.contains ("InvalidNumber" : Str) = true := by decide
    have l1 : itab.lookup (.o "InvalidNumber", .o "InvalidNumber") = some true := by decide
    have l2 : itab.lookup (.o "InvalidNumber", .b "ValueError") = some true := by decide
    have l3 : itab.lookup (.o "InvalidNumber", .o "NotCut") = some false := by decide
    have l4 : (["InvalidNumber"] : List Str).contains "InvalidNumber" = true := by decide
    rw [show xcls.contains (XP.mk a d "InvalidNumber").c = true from h1]
    simp [m_law_refused_h1, isx, clD, l1, l2, l3, l4, pXf]
  simp only [f_law_refused, fnD_ap, m_law_refused]
  simp only [List.map_cons, List.map_nil, List.length_cons, List.length_nil, Nat.reduceAdd, Nat.reduceSub, List.replicate, List.cons_append, List.nil_append]
  rw [seqS_ap, tryS_ex body (by decide) (by simp) hh]
  simp
/-! ### the law -/
abbrev lE (sc : O) (t : Tp) (a2 a3 a4 a5 a6 a7 a8 a9 a10 a11 : Option O) : Env := [some sc, some t.o, a2, a3, a4, a5, a6, a7, a8, a9, a10, a11]
/-- a list of pairs as it stands in a slot -/
abbrev lsO (f : Int × Int → D) (ps : List (Int × Int)) : O := .lst ((ps.map f).map .fz)
def Gd (k : Nat) (p : Int × Int) : Prop := p.1.natAbs < 2 ^ k ∧ p.2.natAbs < 2 ^ k ∧ p.2 ≠ 0
def nn (p : Int × Int) : Int × Int := nrm p.1 p.2
theorem Gd.sm {k : Nat} {p : Int × Int} (h : Gd k p) : Sm k (nn p) := Sm.nrm h.1 h.2.1 h.2.2
theorem st2 (sc : O) (t : Tp) : ∃ t' ps, 2 ≤ ps.length ∧ ps.length ≤ 5 ∧ (∀ p ∈ ps, Gd 110 p) ∧
    setS 2 (compE (iR1 (eOp gAdd (eP (pC (.int 2))) (eCall f_law_draw [some 1, none] (aRef 1 (aCons (eP (pC (.int 4))) aNil))))) (gN 3) yesT (eCall f_law_pair [some 1] (aRef 1 aNil)) [3]) (lE sc t none none none none none none none none none none) = some (.nx, lE sc t' (some (lsO tuO ps)) none none none none none none none none none) := by
  obtain ⟨t1, r, a1, b1, d1⟩ := f_draw t 4 (by decide)
  have hr := rngOk_of (x := 2 + r) (by omega) (by omega)
  obtain ⟨acc, e', h1, t2, ps, h2, h3, h4, h5⟩ := compL_inv (g := gN 3) (t := yesT) (m := eCall f_law_pair [some 1] (aRef 1 aNil)) (vs := [3]) (xs := (List.range (2 + r).toNat).map fun i : Nat => D.int (i : Int)) (env := lE sc t1 none none none none none none none none none none) (acc := [])
    (P := fun i e acc => ∃ t2 ps, e = lE sc t2 none none none none none none none none none none ∧ acc = ps.map tuO ∧ ps.length = i ∧ ∀ p ∈ ps, Gd 110 p)
    (fun i hi e acc ⟨t2, ps, h2, h3, h4, h5⟩ => by
      subst h2 h3
      obtain ⟨t3, a, b, c1, c2, c3, c4⟩ := f_pair t2
      refine ⟨lE sc t2 none (some (.fz (.int (i : Nat)))) none none none none none none none none, lE sc t2 none (some (.fz (.int (i : Nat)))) none none none none none none none none, .fz (tuO (a, b)), lE sc t3 none (some (.fz (.int (i : Nat)))) none none none none none none none none, by simp, rfl, by simp [c4]; rfl, ?_, t3, ps ++ [(a, b)], rfl, by simp, by simp [h4], ?_⟩
      · have : i < (2 + r).toNat := by simpa using hi
        rw [List.length_map, sizeLine_eq]; omega
      · intro p hp
        rcases List.mem_append.mp hp with hp | hp
        · exact h5 p hp
        · rw [List.mem_singleton.mp hp]; exact ⟨c1, c2, c3⟩)
    ⟨t1, [], rfl, rfl, rfl, by simp⟩
  subst h2 h3
  have hl : ps.length = (2 + r).toNat := by rw [h4]; simp
  refine ⟨t2, ps, by omega, by omega, h5, ?_⟩
  have hw : wipeE (lE sc t1 none none none none none none none none none none) [3] = lE sc t1 none none none none none none none none none none := rfl
  simp only [setS_ap, compE_ap, iR1_ap, eOp_ap, eP_ap, pC_ap, fzE_some, bindR_ok, opK_ap, eCall_ap, aRef_ap]
  simp [d1, hr, compK, wipeE, h1, restE]
theorem st3 (sc : O) (t : Tp) (ps : List (Int × Int)) (h2 : 2 ≤ ps.length) (h5 : ps.length ≤ 5) (hg : ∀ p ∈ ps, Gd 110 p) : ∃ t' ps' x, ps'.length = ps.length ∧ (∀ p ∈ ps', Gd 120 p) ∧
    ifS (tE (eOp gEq (eCall f_law_draw [some 1, none] (aRef 1 (aCons (eP (pC (.int 4))) aNil))) (eP (pC (.int 0))))) m_law_b8 nilS (lE sc t (some (lsO tuO ps)) none none none none none none none none none) = some (.nx, lE sc t' (some (lsO tuO ps')) none x none none none none none none none) := by
  obtain ⟨t1, r, a1, b1, d1⟩ := f_draw t 4 (by decide)
  have hg' : ∀ p ∈ ps, Gd 120 p := fun p hp => ⟨Nat.lt_trans (hg p hp).1 (by decide), Nat.lt_trans (hg p hp).2.1 (by decide), (hg p hp).2.2⟩
  by_cases h0 : r = 0
  · obtain ⟨t2, r2, a2, b2, d2⟩ := f_draw t1 50 (by decide)
    match ps, h2 with
    | p0 :: p1 :: ps, _ =>
      have hm : ∀ x, mulOk x (1 + r2) = true := fun x => mulOk_r (by omega)
      have g0 := hg p0 (by simp)
      have bd : ∀ x : Int, x.natAbs < 2 ^ 110 → (x * (1 + r2)).natAbs < 2 ^ 120 := fun x hx => by
        rw [Int.natAbs_mul]
        have := Nat.mul_le_mul (Nat.le_of_lt hx) (show (1 + r2).natAbs ≤ 50 by omega)
        have e : (2 : Nat) ^ 110 * 50 < 2 ^ 120 := by decide
        omega
      refine ⟨t2, p0 :: (p0.1 * (1 + r2), p0.2 * (1 + r2)) :: ps, some (.fz (.int (1 + r2))), rfl, fun p hp => ?_, ?_⟩
      · rcases List.mem_cons.mp hp with e | hp
        · rw [e]; exact hg' p0 (by simp)
        · rcases List.mem_cons.mp hp with e | hp
          · rw [e]; exact ⟨bd _ g0.1, bd _ g0.2.1, Int.mul_ne_zero g0.2.2 (by omega)⟩
          · exact hg' p (by simp [hp])
      · have hset : ∀ (x y z : O) (r : List O), setO (.lst (x :: y :: r)) (.fz (.int 1)) z = some (.lst (x :: z :: r)) := fun x y z r => by
          show (L2.ixN _ 1).map _ = _
          have : L2.ixN (x :: y :: r).length 1 = some 1 := by
            unfold L2.ixN
            simp
            omega
          rw [this]; rfl
        simp [d1, d2, h0, m_law_b8, hm, tuO]
        exact hset _ _ _ _
  · exact ⟨t1, ps, none, rfl, hg', by simp [d1, h0]⟩
theorem take_snoc {α : Type} {xs : List α} {i : Nat} (h : i < xs.length) : xs.take (i + 1) = xs.take i ++ [xs[i]] := (List.take_append_getElem h).symm
theorem st4 (sc : O) (t : Tp) (x4 : Option O) (ps : List (Int × Int)) (h5 : ps.length ≤ 5) (hg : ∀ p ∈ ps, Gd 120 p) :
    setS 5 (compE (iE (eN 2)) (gN 6) yesT (eCall f_law_share [none, none] (aCons (eP (pIx (pN 6) (pC (.int 0)))) (aCons (eP (pIx (pN 6) (pC (.int 1)))) aNil))) [6]) (lE sc t (some (lsO tuO ps)) none x4 none none none none none none none) =
      some (.nx, lE sc t (some (.fz (.lst (ps.map tuO)))) none x4 (some (lsO (fun p => tuO (nn p)) ps)) none none none none none none) := by
  obtain ⟨acc, e', h1, h2, h3⟩ := compL_inv (g := gN 6) (t := yesT) (m := eCall f_law_share [none, none] (aCons (eP (pIx (pN 6) (pC (.int 0)))) (aCons (eP (pIx (pN 6) (pC (.int 1)))) aNil))) (vs := [6]) (xs := ps.map tuO) (env := lE sc t (some (.fz (.lst (ps.map tuO)))) none x4 none none none none none none none) (acc := [])
    (P := fun i e acc => e = lE sc t (some (.fz (.lst (ps.map tuO)))) none x4 none none none none none none none ∧ acc = (ps.take i).map fun p => tuO (nn p))
    (fun i hi e acc ⟨h2, h3⟩ => by
      subst h2 h3
      have hi' : i < ps.length := by simpa using hi
      have gd := hg _ (List.getElem_mem hi')
      have e := f_share ps[i].1 ps[i].2 gd.2.2 (Nat.lt_of_lt_of_le gd.1 (Nat.pow_le_pow_right (by decide) (by decide))) (Nat.lt_of_lt_of_le gd.2.1 (Nat.pow_le_pow_right (by decide) (by decide)))
      refine ⟨lE sc t (some (.fz (.lst (ps.map tuO)))) none x4 none (some (.fz (tuO ps[i]))) none none none none none, lE sc t (some (.fz (.lst (ps.map tuO)))) none x4 none (some (.fz (tuO ps[i]))) none none none none none, .fz (tuO (nn ps[i])), lE sc t (some (.fz (.lst (ps.map tuO)))) none x4 none (some (.fz (tuO ps[i]))) none none none none none, by simp, rfl, by simp [e, nn], ?_, rfl, by rw [take_snoc hi', List.map_append]; rfl⟩
      rw [List.length_map, List.length_take, sizeLine_eq]; omega)
    ⟨rfl, rfl⟩
  subst h2 h3
  rw [List.length_map, List.take_length] at h1
  have fr : (lsO tuO ps).fr = .lst (ps.map tuO) := by rw [fr_lst, frs_fz]
  simp [compE_ap, compK, wipeE, h1, restE, fr, itemsD]
theorem st5 (sc : O) (t : Tp) (x4 x5 : Option O) (ps : List (Int × Int)) (h5 : ps.length ≤ 5) (hg : ∀ p ∈ ps, Gd 120 p) :
    setS 7 (compE (iE (eN 2)) (gN 6) yesT (eMake "Share" f_Share_init [none, none] (aCons (eP (pIx (pN 6) (pC (.int 0)))) (aCons (eP (pIx (pN 6) (pC (.int 1)))) aNil))) [6]) (lE sc t (some (.fz (.lst (ps.map tuO)))) none x4 x5 none none none none none none) =
      some (.nx, lE sc t (some (.fz (.lst (ps.map tuO)))) none x4 x5 none (some (lsO (fun p => shO (nn p)) ps)) none none none none) := by
  obtain ⟨acc, e', h1, h2, h3⟩ := compL_inv (g := gN 6) (t := yesT) (m := eMake "Share" f_Share_init [none, none] (aCons (eP (pIx (pN 6) (pC (.int 0)))) (aCons (eP (pIx (pN 6) (pC (.int 1)))) aNil))) (vs := [6]) (xs := ps.map tuO) (env := lE sc t (some (.fz (.lst (ps.map tuO)))) none x4 x5 none none none none none none) (acc := [])
    (P := fun i e acc => e = lE sc t (some (.fz (.lst (ps.map tuO)))) none x4 x5 none none none none none none ∧ acc = (ps.take i).map fun p => shO (nn p))
    (fun i hi e acc ⟨h2, h3⟩ => by
      subst h2 h3
      have hi' : i < ps.length := by simpa using hi
      have gd := hg _ (List.getElem_mem hi')
      have e := f_init ps[i].1 ps[i].2 gd.2.2 (Nat.lt_of_lt_of_le gd.2.1 (Nat.pow_le_pow_right (by decide) (by decide)))
      refine ⟨lE sc t (some (.fz (.lst (ps.map tuO)))) none x4 x5 (some (.fz (tuO ps[i]))) none none none none none, lE sc t (some (.fz (.lst (ps.map tuO)))) none x4 x5 (some (.fz (tuO ps[i]))) none none none none none, shU (nn ps[i]), lE sc t (some (.fz (.lst (ps.map tuO)))) none x4 x5 (some (.fz (tuO ps[i]))) none none none none none, by simp, rfl, by simp [e, nn, shU], ?_, rfl, by rw [take_snoc hi', List.map_append]; rfl⟩
      rw [List.length_map, List.length_take, sizeLine_eq]; omega)
    ⟨rfl, rfl⟩
  subst h2 h3
  rw [List.length_map, List.take_length] at h1
  simp [compE_ap, compK, wipeE, h1, restE, itemsD]
/-- the slots within the three loops -/
abbrev qE (sc : O) (t : Tp) (ps : List (Int × Int)) (a3 x4 a8 a9 a10 a11 : Option O) : Env := lE sc t (some (.fz (.lst (ps.map tuO)))) a3 x4 (some (lsO (fun p => tuO (nn p)) ps)) none (some (lsO (fun p => shO (nn p)) ps)) a8 a9 a10 a11
section
variable (sc : O) (ps : List (Int × Int)) (x4 : Option O)
theorem at_sh {j : Nat} (h : j < ps.length) : ixO (lsO (fun p => shO (nn p)) ps) (.fz (.int (j : Nat))) = some (.fz (shO (nn ps[j]))) := by
  show L2.atI _ _ = _
  rw [List.map_map, atI_map h]; rfl
theorem at_tu {j : Nat} (h : j < ps.length) : ixO (lsO (fun p => tuO (nn p)) ps) (.fz (.int (j : Nat))) = some (.fz (tuO (nn ps[j]))) := by
  show L2.atI _ _ = _
  rw [List.map_map, atI_map h]; rfl
theorem loop1 (hg : ∀ p ∈ ps, Gd 120 p) (t : Tp) (i : Nat) (hi : i < ps.length) (a8 : Option O) : ∃ t' a8', m_law_b5 (qE sc t ps (some (.fz (.int (i : Nat)))) x4 a8 none none none) = some (.nx, qE sc t' ps (some (.fz (.int (i : Nat)))) x4 a8' none none none) := by
  obtain ⟨t1, r, a1, b1, d1⟩ := f_draw t ps.length (by omega)
  obtain ⟨j, rfl⟩ := Int.eq_ofNat_of_zero_le a1
  have hj : j < ps.length := by omega
  have sm : ∀ {n : Nat} (h : n < ps.length), Sm 800 (nn ps[n]) := fun h => (hg _ (List.getElem_mem h)).sm.mono (by decide)
  have hk : (i + 1) % ps.length < ps.length := Nat.mod_lt _ (by omega)
  have e1 := f_one _ ((sm hi).mono (show 800 ≤ 1900 by decide))
  have e2 := f_two _ _ (sm hi) (sm hj)
  have e3 := f_two _ _ (sm hi) (sm hk)
  have z : (((i : Nat) : Int) + 1) % ((ps.length : Nat) : Int) = (((i + 1) % ps.length : Nat) : Int) := by push_cast; rfl
  have zs : ixO (lsO (fun p => shO (nn p)) ps) (.fz (.int ((((i : Nat) : Int) + 1) % ((ps.length : Nat) : Int)))) = some (.fz (shO (nn ps[(i + 1) % ps.length]))) := by rw [z]; exact at_sh ps hk
  have zt : ixO (lsO (fun p => tuO (nn p)) ps) (.fz (.int ((((i : Nat) : Int) + 1) % ((ps.length : Nat) : Int)))) = some (.fz (tuO (nn ps[(i + 1) % ps.length]))) := by rw [z]; exact at_tu ps hk
  have hl : 0 < ps.length := by omega
  refine ⟨t1, some (.fz (.int (j : Nat))), ?_⟩
  unfold m_law_b5
  rw [seqS_nx (e := qE sc t1 ps (some (.fz (.int (i : Nat)))) x4 (some (.fz (.int (j : Nat)))) none none none) (by simp [d1])]
  rw [seqS_nx (e := qE sc t1 ps (some (.fz (.int (i : Nat)))) x4 (some (.fz (.int (j : Nat)))) none none none) (by simp [at_sh ps hi, at_tu ps hi, at_sh ps hj, at_tu ps hj, e1, e2])]
  simp [at_sh ps hi, at_tu ps hi, zs, zt, e3, hl]
theorem loop2 (hg : ∀ p ∈ ps, Gd 120 p) (t : Tp) (i : Nat) (hi : i < ps.length) (a8 : Option O) (k : Nat) (hk : k + 121 ≤ 800) (T M : Int × Int) (hT : Sm k T) (hM : Sm k M) :
    ∃ T' M', Sm (k + 121) T' ∧ Sm (k + 121) M' ∧ m_law_b4 (qE sc t ps (some (.fz (.int (i : Nat)))) x4 a8 (some (shU T)) (some (shU M)) (some (.lst [.fz (tuO T), .fz (tuO M)]))) = some (.nx, qE sc t ps (some (.fz (.int (i : Nat)))) x4 a8 (some (shU T')) (some (shU M')) (some (.lst [.fz (tuO T'), .fz (tuO M')]))) := by
  have sm : Sm 120 (nn ps[i]) := (hg _ (List.getElem_mem hi)).sm
  have s8 : Sm 800 (nn ps[i]) := sm.mono (by decide)
  have T8 : Sm 800 T := hT.mono (by omega)
  have M8 : Sm 800 M := hM.mono (by omega)
  have e1 := f_add T8 s8
  have e2 := f_mul M8 s8
  have e3 := f_added T8 s8
  have e4 := f_times M8 s8
  refine ⟨adp T (nn ps[i]), mup M (nn ps[i]), (Sm.ad hT sm).mono (by omega), (Sm.mu hM sm).mono (by omega), ?_⟩
  unfold m_law_b4
  rw [seqS_nx (e := qE sc t ps (some (.fz (.int (i : Nat)))) x4 a8 (some (shU (adp T (nn ps[i])))) (some (shU M)) (some (.lst [.fz (tuO T), .fz (tuO M)]))) (by simp [at_sh ps hi, e1])]
  rw [seqS_nx (e := qE sc t ps (some (.fz (.int (i : Nat)))) x4 a8 (some (shU (adp T (nn ps[i])))) (some (shU (mup M (nn ps[i])))) (some (.lst [.fz (tuO T), .fz (tuO M)]))) (by simp [at_sh ps hi, e2])]
  simp [at_tu ps hi, e3, e4]
theorem loop3 (hg : ∀ p ∈ ps, Gd 120 p) (t : Tp) (i : Nat) (hi : i < ps.length) (a8 a9 a10 a11 : Option O) : ∃ t', m_law_b1 (qE sc t ps (some (.fz (.int (i : Nat)))) x4 a8 a9 a10 a11) = some (.nx, qE sc t' ps (some (.fz (.int (i : Nat)))) x4 a8 a9 a10 a11) := by
  have s8 : Sm 800 (nn ps[i]) := (hg _ (List.getElem_mem hi)).sm.mono (by decide)
  have e1 := f_one _ (s8.mono (show 800 ≤ 1900 by decide))
  obtain ⟨t1, j, hj, d1⟩ := f_pick t [.non, tuO (nn ps[i]), .int (nn ps[i]).1, .str "1"] (by simp)
  have e2 : gOwnEq "Share" nft_Share icls f_Share_eq (.fz (shO (nn ps[i]))) (.fz ([D.non, tuO (nn ps[i]), .int (nn ps[i]).1, .str "1"][j])) = some (.bl false) := by
    match j, hj with
    | 0, _ => exact own_ne (t := .b "NoneType") rfl rfl (by decide)
    | 1, _ => exact own_ne (t := .b "tuple") rfl rfl (by decide)
    | 2, _ => exact own_ne (t := .b "int") rfl rfl (by decide)
    | 3, _ => exact own_ne (t := .b "str") rfl rfl (by decide)
  generalize hD : [D.non, tuO (nn ps[i]), .int (nn ps[i]).1, .str "1"][j] = dd at d1 e2
  have e3 : gIsNot (.fz (.bl false)) (.fz (.bl false)) = some (.bl false) := rfl
  refine ⟨t1, ?_⟩
  unfold m_law_b1
  simp [at_sh ps hi, at_tu ps hi, e1, d1, e2, e3]
end
theorem nrm0 (r : Int) (h : 0 ≤ r) : nrm 0 (-1 - r) = (0, 1) := by
  have h1 : sg (-1 - r) = -1 := by unfold sg; rw [if_neg (by omega)]
  have h2 : gg 0 (-1 - r) = 1 + r := by
    unfold gg
    simp
    omega
  unfold nrm
  rw [h1, h2]
  have : -1 * (-1 - r) = 1 + r := by omega
  rw [this, Int.ediv_self (by omega)]
  simp
theorem lenE (sc : O) (ps : List (Int × Int)) (x4 a3 a8 a9 a10 a11 : Option O) (t : Tp) : eP (pCa gLen (qCons (pN 2) qNil)) (qE sc t ps a3 x4 a8 a9 a10 a11) = some (.ok (.fz (.int ps.length)), qE sc t ps a3 x4 a8 a9 a10 a11) := by
  simp
theorem forR {b : SM} {env e1 e2 : Env} {m : EM} {n : Nat} (h : m env = some (.ok (.fz (.int n)), e1)) (hr : rngOk n = true) (hf : forL (gN 3) b ((List.range n).map fun i : Nat => D.int (i : Int)) e1 = some (.nx, e2)) : forS (iR1 m) (gN 3) b env = some (.nx, e2) := by
  rw [forS_ap, iR1_ap, h, bindR_ok, r1K_ap, if_pos hr, bindS_ok, forK_ap, Int.toNat_natCast]
  exact hf
theorem st6 (sc : O) (ps : List (Int × Int)) (x4 : Option O) (l2 : ps.length ≤ 5) (g2 : ∀ p ∈ ps, Gd 120 p) (t2 : Tp) : ∃ t5 a3 a8, forS (iR1 (eP (pCa gLen (qCons (pN 2) qNil)))) (gN 3) m_law_b5 (qE sc t2 ps none x4 none none none none) = some (.nx, qE sc t5 ps a3 x4 a8 none none none) := by
  have hr := rngOk_of (x := (ps.length : Int)) (by omega) (by omega)
  obtain ⟨e5, h5, t5, a3, a8, q5⟩ := forL_inv (g := gN 3) (b := m_law_b5) (xs := (List.range ps.length).map fun i : Nat => D.int (i : Int)) (env := qE sc t2 ps none x4 none none none none) (P := fun i e => ∃ t a3 a8, e = qE sc t ps a3 x4 a8 none none none)
    (fun i hi e ⟨t, a3, a8, q⟩ => by
      subst q
      have hi' : i < ps.length := by simpa using hi
      obtain ⟨t', a8', h⟩ := loop1 sc ps x4 g2 t i hi' a8
      exact ⟨_, _, by simp, h, t', _, a8', rfl⟩)
    ⟨t2, none, none, rfl⟩
  subst q5
  exact ⟨t5, a3, a8, forR (lenE sc ps x4 none none none none none t2) hr h5⟩
theorem st7 (sc : O) (ps : List (Int × Int)) (x4 : Option O) (l2 : ps.length ≤ 5) (g2 : ∀ p ∈ ps, Gd 120 p) (t6 : Tp) (a3 a8 : Option O) : ∃ T M a3', Sm 800 T ∧ Sm 800 M ∧ forS (iR1 (eP (pCa gLen (qCons (pN 2) qNil)))) (gN 3) m_law_b4 (qE sc t6 ps a3 x4 a8 (some (shU (0, 1))) (some (shU (1, 1))) (some (.lst [.fz (tuO (0, 1)), .fz (tuO (1, 1))]))) =
    some (.nx, qE sc t6 ps a3' x4 a8 (some (shU T)) (some (shU M)) (some (.lst [.fz (tuO T), .fz (tuO M)]))) := by
  have hr := rngOk_of (x := (ps.length : Int)) (by omega) (by omega)
  have s0 : Sm 1 (0, 1) := ⟨by decide, by decide, by decide⟩
  have s1 : Sm 1 (1, 1) := ⟨by decide, by decide, by decide⟩
  obtain ⟨e7, h7, T, M, a3', k, hk, sT, sM, q7⟩ := forL_inv (g := gN 3) (b := m_law_b4) (xs := (List.range ps.length).map fun i : Nat => D.int (i : Int)) (env := qE sc t6 ps a3 x4 a8 (some (shU (0, 1))) (some (shU (1, 1))) (some (.lst [.fz (tuO (0, 1)), .fz (tuO (1, 1))])))
    (P := fun i e => ∃ T M a3 k, k ≤ i * 121 + 1 ∧ Sm k T ∧ Sm k M ∧ e = qE sc t6 ps a3 x4 a8 (some (shU T)) (some (shU M)) (some (.lst [.fz (tuO T), .fz (tuO M)])))
    (fun i hi e ⟨T, M, a3, k, hk, sT, sM, q⟩ => by
      subst q
      have hi' : i < ps.length := by simpa using hi
      obtain ⟨T', M', sT', sM', h⟩ := loop2 sc ps x4 g2 t6 i hi' a8 k (by omega) T M sT sM
      exact ⟨_, _, by simp, h, T', M', _, k + 121, by omega, sT', sM', rfl⟩)
    ⟨(0, 1), (1, 1), a3, 1, by omega, s0, s1, rfl⟩
  subst q7
  have hk2 : k ≤ 800 := by simp at hk; omega
  exact ⟨T, M, a3', sT.mono hk2, sM.mono hk2, forR (lenE sc ps x4 a3 a8 _ _ _ t6) hr h7⟩
theorem st8 (sc : O) (ps : List (Int × Int)) (x4 : Option O) (l2 : ps.length ≤ 5) (g2 : ∀ p ∈ ps, Gd 120 p) (t6 : Tp) (a3 a8 a9 a10 a11 : Option O) : ∃ t8 a3', forS (iR1 (eP (pCa gLen (qCons (pN 2) qNil)))) (gN 3) m_law_b1 (qE sc t6 ps a3 x4 a8 a9 a10 a11) = some (.nx, qE sc t8 ps a3' x4 a8 a9 a10 a11) := by
  have hr := rngOk_of (x := (ps.length : Int)) (by omega) (by omega)
  obtain ⟨e8, h8, t8, a3'', q8⟩ := forL_inv (g := gN 3) (b := m_law_b1) (xs := (List.range ps.length).map fun i : Nat => D.int (i : Int)) (env := qE sc t6 ps a3 x4 a8 a9 a10 a11)
    (P := fun i e => ∃ t a3, e = qE sc t ps a3 x4 a8 a9 a10 a11)
    (fun i hi e ⟨t, a3, q⟩ => by
      subst q
      have hi' : i < ps.length := by simpa using hi
      obtain ⟨t', h⟩ := loop3 sc ps x4 g2 t i hi' a8 a9 a10 a11
      exact ⟨_, _, by simp, h, t', _, rfl⟩)
    ⟨t6, a3, rfl⟩
  subst q8
  exact ⟨t8, a3'', forR (lenE sc ps x4 a3 a8 a9 a10 a11 t6) hr h8⟩
theorem i0 (r6 : Int) (a6 : 0 ≤ r6) (b6 : r6 < 100) : f_Share_init [.ins "Share" [], .fz (.int 0), .fz (.int (-1 - r6))] = some (.ok (.fz .non), [shU (0, 1), .fz (.int 0), .fz (.int (-1 - r6))]) := by
  have h : (-1 - r6).natAbs < 2 ^ 10 := by omega
  have e := f_init 0 (-1 - r6) (by omega) (Nat.lt_of_lt_of_le h (Nat.pow_le_pow_right (by decide) (by decide)))
  rw [nrm0 r6 a6] at e
  exact e
theorem nrm11 : nrm 1 1 = (1, 1) := by decide
theorem i1 : f_Share_init [.ins "Share" [], .fz (.int 1), .fz (.int 1)] = some (.ok (.fz .non), [shU (1, 1), .fz (.int 1), .fz (.int 1)]) := by
  have h : (1 : Int).natAbs < 2 ^ 10 := by decide
  have e := f_init 1 1 (by decide) (Nat.lt_of_lt_of_le h (Nat.pow_le_pow_right (by decide) (by decide)))
  rw [nrm11] at e
  exact e
section
variable (sc : O) (ps : List (Int × Int)) (x4 a3 a8 : Option O)
theorem st7a (t5 : Tp) : ∃ t6, setS 9 (eMake "Share" f_Share_init [none, none] (aCons (eP (pC (.int 0))) (aCons (eOp gSub (eP (pOp gSub (pC (.int 0)) (pC (.int 1)))) (eCall f_law_draw [some 1, none] (aRef 1 (aCons (eP (pC (.int 100))) aNil)))) aNil))) (qE sc t5 ps a3 x4 a8 none none none) = some (.nx, qE sc t6 ps a3 x4 a8 (some (shU (0, 1))) none none) := by
  obtain ⟨t6, r6, a6, b6, d6⟩ := f_draw t5 100 (by decide)
  exact ⟨t6, by simp [d6, i0 r6 a6 b6]⟩
theorem st7b (t6 : Tp) : setS 10 (eMake "Share" f_Share_init [none, none] (aCons (eP (pC (.int 1))) (aCons (eP (pC (.int 1))) aNil))) (qE sc t6 ps a3 x4 a8 (some (shU (0, 1))) none none) = some (.nx, qE sc t6 ps a3 x4 a8 (some (shU (0, 1))) (some (shU (1, 1))) none) := by
  simp [i1]
theorem st7c (t6 : Tp) : setS 11 (eLst (aCons (eP (pTup (qCons (pC (.int 0)) (qCons (pC (.int 1)) qNil)))) (aCons (eP (pTup (qCons (pC (.int 1)) (qCons (pC (.int 1)) qNil)))) aNil))) (qE sc t6 ps a3 x4 a8 (some (shU (0, 1))) (some (shU (1, 1))) none) = some (.nx, qE sc t6 ps a3 x4 a8 (some (shU (0, 1))) (some (shU (1, 1))) (some (.lst [.fz (tuO (0, 1)), .fz (tuO (1, 1))]))) := by
  simp
  exact ⟨rfl, rfl⟩
theorem st7d (t6 : Tp) (T M : Int × Int) (hT : Sm 1900 T) (hM : Sm 1900 M) : ifS (tOr' (tNot' (tE (eCall f_law_one_right [none, none] (aCons (eN 9) (aCons (eP (pIx (pN 11) (pC (.int 0)))) aNil))))) (tNot' (tE (eCall f_law_one_right [none, none] (aCons (eN 10) (aCons (eP (pIx (pN 11) (pC (.int 1)))) aNil)))))) m_law_b3 nilS (qE sc t6 ps a3 x4 a8 (some (shU T)) (some (shU M)) (some (.lst [.fz (tuO T), .fz (tuO M)]))) = some (.nx, qE sc t6 ps a3 x4 a8 (some (.fz (shO T))) (some (.fz (shO M))) (some (.lst [.fz (tuO T), .fz (tuO M)]))) := by
  simp [f_one T hT, f_one M hM]
theorem st9 (t8 : Tp) (a9 a10 a11 : Option O) (h : ps ≠ []) : retS (eCall f_law_refused [none] (aCons (eP (pIx (pIx (pN 2) (pC (.int 0))) (pC (.int 0)))) aNil)) (qE sc t8 ps a3 x4 a8 a9 a10 a11) = some (.rt (.fz (.bl true)), qE sc t8 ps a3 x4 a8 a9 a10 a11) := by
  obtain ⟨p0, r0, hp0⟩ := List.exists_cons_of_ne_nil h
  have at0 : L2.atI (ps.map tuO) 0 = some (tuO p0) := by rw [hp0, List.map_cons]; exact atI_0
  simp [at0, f_refused p0.1]
end
theorem st1 (ns : List Int) : setS 1 (eCall f_law_tape [none] (aCons (eN 0) aNil)) [some (.fz (.lst (ns.map D.int))), none, none, none, none, none, none, none, none, none, none, none] = some (.nx, lE (.fz (.lst (ns.map D.int))) ⟨ns, 0, 0, 0, 7, 0⟩ none none none none none none none none none none) := by
  have h0 := f_tape ns
  simp [h0]
theorem law_true (ns : List Int) (hl : ns.length ≤ 63) : ∃ os', f_law [.fz (.lst (ns.map D.int))] = some (.ok (.fz (.bl true)), os') := by
  have h0 := st1 ns
  refine ⟨[.fz (.lst (ns.map D.int))], ?_⟩
  have fin : ∀ {r : Option (Fl × Env)} {sc : D} {e : Env}, r = some (.rt (.fz (.bl true)), some (.fz sc) :: e) → endF [false] [.fz sc] r = some (.ok (.fz (.bl true)), [.fz sc]) := fun h => by rw [h]; rfl
  show f_law _ = _
  unfold f_law
  rw [fnD_ap]
  generalize hD : ns.map D.int = dd at h0 ⊢
  obtain ⟨t1, ps1, l1, l2, g1, h1⟩ := st2 (.fz (.lst dd)) ⟨ns, 0, 0, 0, 7, 0⟩
  obtain ⟨t2, ps, x4, l3, g2, h2⟩ := st3 (.fz (.lst dd)) t1 ps1 l1 l2 g1
  rw [← l3] at l1 l2
  have h3 := st4 (.fz (.lst dd)) t2 x4 ps l2 g2
  have h4 := st5 (.fz (.lst dd)) t2 x4 (some (lsO (fun p => tuO (nn p)) ps)) ps l2 g2
  obtain ⟨t5, a3, a8, h5⟩ := st6 (.fz (.lst dd)) ps x4 l2 g2 t2
  obtain ⟨t6, h6⟩ := st7a (.fz (.lst dd)) ps x4 a3 a8 t5
  have h7 := st7b (.fz (.lst dd)) ps x4 a3 a8 t6
  have h8 := st7c (.fz (.lst dd)) ps x4 a3 a8 t6
  obtain ⟨T, M, a3', sT, sM, h9⟩ := st7 (.fz (.lst dd)) ps x4 l2 g2 t6 a3 a8
  have h10 := st7d (.fz (.lst dd)) ps x4 a3' a8 t6 T M (sT.mono (by decide)) (sM.mono (by decide))
  obtain ⟨t8, a3'', h11⟩ := st8 (.fz (.lst dd)) ps x4 l2 g2 t6 a3' a8 (some (.fz (shO T))) (some (.fz (shO M))) (some (.lst [.fz (tuO T), .fz (tuO M)]))
  have h12 := st9 (.fz (.lst dd)) ps x4 a3'' a8 t8 (some (.fz (shO T))) (some (.fz (shO M))) (some (.lst [.fz (tuO T), .fz (tuO M)])) (by intro h; rw [h] at l1; simp at l1)
  refine fin (e := (qE (.fz (.lst dd)) t8 ps a3'' x4 a8 (some (.fz (shO T))) (some (.fz (shO M))) (some (.lst [.fz (tuO T), .fz (tuO M)]))).tail) ?_
  unfold m_law
  exact (seqS_nx h0).trans ((seqS_nx h1).trans ((seqS_nx h2).trans ((seqS_nx h3).trans ((seqS_nx h4).trans ((seqS_nx h5).trans ((seqS_nx h6).trans ((seqS_nx h7).trans ((seqS_nx h8).trans ((seqS_nx h9).trans ((seqS_nx h10).trans ((seqS_nx h11).trans h12)))))))))))
end Dv

-- E_k44
set_option maxHeartbeats 0
namespace Dv
open PySem PySem.Spec L2
def loose0 : List Str := ["InvalidNumber", "JoinError", "NotCut", "Share", "__name__", "_law_added", "_law_draw", "_law_integer", "_law_is_share", "_law_mixed", "_law_one_right", "_law_pair", "_law_pick", "_law_refused", "_law_share", "_law_tape", "_law_times", "_law_two_right", "_law_written", "common_divisor"]
def loose : List Str := loose0
def exf : PySem.W.Frag → Bool := fun K => exl.all fun f => f K
abbrev RR : PySem.W.OpenRow := PySem.W.OpenLaw.row PySem.Challenge.rw_rankedjoins_k44_shares
abbrev hk : PySem.W.Hook := He.hookX 4 fa fn [] [] exf
def ob (s : PySem.W.SharedT) : He.AlX := He.obsX 4 fa fn [] [] exf (HandSHeadRun.getT s)
theorem ob_eq (s : PySem.W.SharedT) : ob s = hk.obs s.abs := He.obsX_eq (HandSHeadRun.getT_eq s)
theorem run (w : World) : HandSHeadRun.RunEq RR (PySem.W.view RR.prog [22]) hk ob 3000 loose w := by
  intro os
  kernel_rfl
theorem facts {P : Program} {w : World} {K : Fg} {h : Heap} {mg : Str → Option Value} {f : Addr} (X : K.In h) (G : h.Ns mainGlobals mg) (hfa : mg ("law" : Str) = some (.ref f)) (c : He.SaysX fa fn [] [] exf w h K) :
    ∃ fd : FuncData, (∀ (s : Shared) (v : Value), BindsTo s fd ⟨[v], []⟩ [("_law_script", v)]) ∧ ∀ base : Heap, K.In base → base.Ns mainGlobals mg → FnOk P w K mg base (CXw P) 7 f fd ["_law_script"] (SpX K f_law) := by
  have fx : FX fa fn exl K mg := ⟨h, X, G, c.t.d, c.more⟩
  have e := hfa.symm.trans (fx.glo 0)
  cases e
  obtain ⟨fd, F⟩ := fx.def_ (d := d_law) 23
  have b := FunD.bindsA (ps := ["_law_script"]) F fun _ _ _ _ _ _ us hl => match us, hl with | [_], _ => rfl
  refine ⟨fd, fun s v => b s [v] rfl, fun base _ _ => ?_⟩
  obtain ⟨fd2, F2, O2, _⟩ := ok_law (P := P) (w := w) (base := base) fx
  obtain ⟨oc, od, dV, kV, doc, pm, an, cdv, ct, osl, rfl, lk, _⟩ := F.ex
  obtain ⟨oc2, od2, dV2, kV2, doc2, pm2, an2, cdv2, ct2, osl2, rfl, lk2, _⟩ := F2.ex
  rw [lk] at lk2
  cases lk2
  exact cxw O2
end Dv
open PySem PySem.W PySem.Calls PyProof.Rows
theorem PySem.Challenge.cw_rankedjoins_k44_shares_holds : PySem.Challenge.rw_rankedjoins_k44_shares.Holds := by
  w_on; o_law
  refine HandSHeadRun.head_any (r := OpenLaw.row PySem.Challenge.rw_rankedjoins_k44_shares) (q := view (OpenLaw.row PySem.Challenge.rw_rankedjoins_k44_shares).prog [22]) (H := Dv.hk) (ob := Dv.ob) (M := 3000) (loose := Dv.loose) (d := HandSHeadRun.topDef (OpenLaw.row PySem.Challenge.rw_rankedjoins_k44_shares).prog 22) (kwd := []) Dv.ob_eq
    (by kernel_rfl) (fun s => by kernel_rfl) Dv.run (by kernel_rfl) (by kernel_rfl) (by kernel_rfl) (by rfl) (by first | assumption | decide +kernel) (by decide +kernel) ⟨rfl, rfl, rfl, rfl, rfl, by decide +kernel⟩ ?hw ?hc
  case hw => w_witness2
  case hc =>
    refine L2.walk_ofE (l := PySem.Challenge.rw_rankedjoins_k44_shares) (n := 63) (k := 7) (x := "_law_script") (CX := Dv.CXw (PySem.Challenge.rw_rankedjoins_k44_shares).prog) rfl (by decide) (by kernel_rfl) ⟨rfl, by decide, by decide⟩ ?F ?CX
    case F =>
      intro w mg fa h Y G hmg0
      obtain ⟨K, KX, c⟩ := Y
      have hmg : mg ("law" : PySem.Str) = some (.ref fa) := by
        have e : (HandSHeadRun.topDef (OpenLaw.row PySem.Challenge.rw_rankedjoins_k44_shares).prog 22).name = ("law" : PySem.Str) := by kernel_rfl
        rw [← e]
        exact hmg0
      obtain ⟨fd, hb, hF⟩ := Dv.facts (P := (PySem.Challenge.rw_rankedjoins_k44_shares).prog) (w := w) KX G hmg c
      exact ⟨K, fd, Dv.SpX K Dv.f_law, KX, hb, Dv.law_sp Dv.law_true, hF⟩
    case CX => exact fun _ _ _ _ h => Dv.cxw_no h
